import PyProof.Rows.All
import Wide.All
import OpenK.AllK
import Wide.FinOn
import PySem.Challenge.RW_morethanhalf_k24_holding_papers_told
import HandS.ForMost
import HandS.ForExc
import HandS.Wide
import HandS.SortInts
import HandS.Deep
import HandS.Conv
import HandS.Style
import HandS.IsInst
import HandS.TupAny
import HandS.Zip
import HandS.TupLe
import KE.KDictList
import HandS.WordsDict
import HandS.SortKw
import HandS.SetFor
import KE.DataMinMax
import KE.DataFind
import HandS.Dict
import PyProof.Rows.SetFrom
import PyProof.SetRoads
import KE.SortData
import HandS.ExcIs
import HandS.TupMul
import Flt.Sum
import KE.DataCmp
import PyProof.LongRange
import HandS.HotCalls
import HandS.Walk
import HandS.Iter
import HandS.More
import KE.KeyNested
import PyProof.Rows.TupTab
import HandS.WordsExc
set_option Elab.async false
set_option linter.all false
set_option maxRecDepth 100000
namespace DL
open PySem PySem.Spec PyProof.Rows L2

abbrev D := PyData

def StO (o : Obj) (a : Addr) : HO := .ext fun h => h.get? a = some o
def tabV (tab : List (Key × Int)) : List (Key × V) := tab.map fun kv => (kv.1, .int kv.2)
def keyD : Key → D
  | .inl i => .int i
  | .inr s => .str s

def scalD : D → Bool
  | .none => true
  | .bool _ => true
  | .int _ => true
  | .str _ => true
  | _ => false
def scV : D → V
  | .bool b => .bl b
  | .int i => .int i
  | .str x => .str x
  | _ => .non
def tabW (tab : List (Key × D)) : List (Key × V) := tab.map fun kv => (kv.1, scV kv.2)
def dcvD (tab : List (Key × D)) : D := .dict ((.none, .none) :: tab.map fun kv => (keyD kv.1, kv.2))
def tHash (p : Int × Int) : Int := reduceHash (Builtin.Tuple.tupleHashOf [hashInt p.1, hashInt p.2])
def dtEnt (q : Addr × Int × Int) : DictEntry := ⟨tHash q.2, .ref q.1, .bool true⟩
def DtaP (a : Addr) (L : List (Addr × Int × Int)) (h : Heap) : Prop := (a == sysModules) = false ∧ L.length ≤ sizeLine ∧ ∃ o es ep, h.get? a = some o ∧ o.ExactDict ∧ o.data = .dict es ep ∧ es.toList = L.map dtEnt ∧ (L.map (·.2)).Nodup
def dtaO (a : Addr) (L : List (Addr × Int × Int)) : HO := .ext (DtaP a L)
def dtvD (ps : List (Int × Int)) : D := .dict ((.none, .str "t") :: ps.map fun p => (.tuple [.int p.1, .int p.2], .bool true))
def sepD (t : Bool) (dss : List (List D)) : D := .dict [(.none, .bool t), (.none, .list (dss.map PyData.list)), (.none, .none)]
abbrev NK := List (List Int)
abbrev NL := List (Addr × NK × Int)
abbrev NTab := List (NK × Int)
def hN (x : NK) : Int := reduceHash (Builtin.Tuple.tupleHashOf (x.map fun l => reduceHash (Builtin.Tuple.tupleHashOf (l.map hashInt))))
def dnEnt (x : Addr × NK × Value) : DictEntry := ⟨hN x.2.1, .ref x.1, x.2.2⟩
def DnP (a : Addr) (L : NL) (h : Heap) : Prop := (a == sysModules) = false ∧ L.length ≤ sizeLine ∧ (L.map (·.2.1)).Nodup ∧ ∃ (xs : List (Addr × NK × Value)) (o : Obj) (es : Array DictEntry) (ep : Nat), Paired (fun (q : Addr × NK × Int) (x : Addr × NK × Value) => x.1 = q.1 ∧ x.2.1 = q.2.1 ∧ ∃ t, x.2.2 = Value.int q.2.2 t) L xs ∧
  h.get? a = some o ∧ o.ExactDict ∧ o.data = .dict es ep ∧ es.toList = xs.map dnEnt
def dnO (a : Addr) (L : NL) : HO := .ext (DnP a L)
def knD0 : D := .dict [(.bool true, .none)]
def nkD (x : NK) : D := .tuple (x.map fun l => .tuple (l.map PyData.int))
mutual
inductive Rp (F : Hp) : V → D → Prop
  | non : Rp F .non .none
  | bl (b : Bool) : Rp F (.bl b) (.bool b)
  | int (i : Int) : Rp F (.int i) (.int i)
  | str (x : Str) : Rp F (.str x) (.str x)
  | lst {a : Addr} {xs : List V} {ds : List D} : Rd F a (.lst xs) → RpA F xs ds → Rp F (.ref a) (.list ds)
  | tup {a : Addr} {xs : List V} {ds : List D} : Rd F a (.tup xs) → RpA F xs ds → Rp F (.ref a) (.tuple ds)
  | exn {a : Addr} {oe : Obj} {k : Int} {C : Addr} : F a = some (StO oe a) → Zc (.ref C) none oe → (∃ vs, oe.data = .fields vs) → Rp F (.ref a) (.dict [(.none, .int k), (.none, .int ((C : Nat) : Int))])
  | dct {a : Addr} {tab : List (Key × Int)} : F a = some (.dK (tabV tab)) → Rp F (.ref a) (.dict (tab.map fun kv => (keyD kv.1, PyData.int kv.2)))
  | dcv {a : Addr} {tab : List (Key × D)} : F a = some (.dK (tabW tab)) → tab.all (fun kv => scalD kv.2) = true → Rp F (.ref a) (dcvD tab)
  | dtv {a : Addr} {L : List (Addr × Int × Int)} : F a = some (dtaO a L) → (∀ q ∈ L, F q.1 = some (.tup [.int q.2.1, .int q.2.2])) → Rp F (.ref a) (dtvD (L.map (·.2)))
  | kne {a : Addr} : F a = some (dnO a []) → Rp F (.ref a) knD0
  | sepL {a : Addr} {ls : List Addr} {dss : List (List D)} : F a = some (.lst (ls.map V.ref)) → a ∉ ls → RpL F ls dss → Rp F (.ref a) (sepD false dss)
  | sepT {a : Addr} {ls : List Addr} {dss : List (List D)} : F a = some (.tup (ls.map V.ref)) → a ∉ ls → RpL F ls dss → Rp F (.ref a) (sepD true dss)
inductive RpA (F : Hp) : List V → List D → Prop
  | nil : RpA F [] []
  | cons {v : V} {vs : List V} {d : D} {ds : List D} : Rp F v d → RpA F vs ds → RpA F (v :: vs) (d :: ds)
inductive RpL (F : Hp) : List Addr → List (List D) → Prop
  | nil : RpL F [] []
  | cons {l : Addr} {ls : List Addr} {ws : List V} {ds : List D} {dss : List (List D)} : F l = some (.lst ws) → l ∉ ls → RpA F ws ds → RpL F ls dss → RpL F (l :: ls) (ds :: dss)
end

theorem Rd.same {F F' : Hp} {a : Addr} {o : HO} (s : Same F F') (h : Rd F a o) : Rd F' a o := by
  rcases h with h | ⟨u, h⟩
  · exact .inl (s _ _ h)
  · exact .inr ⟨u, s _ _ h⟩
mutual
theorem Rp.mono {F F' : Hp} (s : Same F F') : ∀ {v : V} {d : D}, Rp F v d → Rp F' v d
  | _, _, .non => .non
  | _, _, .bl b => .bl b
  | _, _, .int i => .int i
  | _, _, .str x => .str x
  | _, _, .lst h r => .lst (Rd.same s h) (RpA.mono s r)
  | _, _, .tup h r => .tup (Rd.same s h) (RpA.mono s r)
  | _, _, .exn h z q => .exn (s _ _ h) z q
  | _, _, .dct h => .dct (s _ _ h)
  | _, _, .dcv h q => .dcv (s _ _ h) q
  | _, _, .dtv h q => .dtv (s _ _ h) fun p hp => s _ _ (q p hp)
  | _, _, .kne h => .kne (s _ _ h)
  | _, _, .sepL h q r => .sepL (s _ _ h) q (RpL.mono s r)
  | _, _, .sepT h q r => .sepT (s _ _ h) q (RpL.mono s r)
theorem RpA.mono {F F' : Hp} (s : Same F F') : ∀ {vs : List V} {ds : List D}, RpA F vs ds → RpA F' vs ds
  | _, _, .nil => .nil
  | _, _, .cons h r => .cons (Rp.mono s h) (RpA.mono s r)
theorem RpL.mono {F F' : Hp} (s : Same F F') : ∀ {ls : List Addr} {dss : List (List D)}, RpL F ls dss → RpL F' ls dss
  | _, _, .nil => .nil
  | _, _, .cons h n r q => .cons (s _ _ h) n (RpA.mono s r) (RpL.mono s q)
end
mutual
theorem Rp.dp {K : PySem.W.Frag} {F H : Hp} (s : Same F H) : ∀ {v : V} {d : D}, Rp F v d → d.canLay0 = true → Dp K H v d
  | _, _, .non, _ => .non
  | _, _, .bl b, _ => .bl b
  | _, _, .int i, _ => .int i
  | _, _, .str x, _ => .str x
  | _, _, .lst h r, c => .lst (.inl (Rd.same s h)) (RpA.dp s r (by rwa [PyData.canLay0] at c))
  | _, _, .tup h r, c => .tup (.inl (Rd.same s h)) (RpA.dp s r (by rwa [PyData.canLay0] at c))
  | _, _, .exn _ _ _, c => by
    rw [PyData.canLay0] at c
    cases c
  | _, _, .dct _, c => by
    rw [PyData.canLay0] at c
    cases c
  | _, _, .dcv _ _, c => by
    rw [dcvD, PyData.canLay0] at c
    cases c
  | _, _, .dtv _ _, c => by
    rw [dtvD, PyData.canLay0] at c
    cases c
  | _, _, .kne _, c => by
    rw [knD0, PyData.canLay0] at c
    cases c
  | _, _, .sepL _ _ _, c => by
    rw [sepD, PyData.canLay0] at c
    cases c
  | _, _, .sepT _ _ _, c => by
    rw [sepD, PyData.canLay0] at c
    cases c
theorem RpA.dp {K : PySem.W.Frag} {F H : Hp} (s : Same F H) : ∀ {vs : List V} {ds : List D}, RpA F vs ds → PyData.canLayAll0 ds = true → DpAll K H vs ds
  | _, _, .nil, _ => .nil
  | _, _, .cons h r, c => by
    rw [PyData.canLayAll0, Bool.and_eq_true] at c
    exact .cons (Rp.dp s h c.1) (RpA.dp s r c.2)
end
theorem RpA.len {F : Hp} : ∀ {vs : List V} {ds : List D}, RpA F vs ds → vs.length = ds.length
  | _, _, .nil => rfl
  | _, _, .cons _ r => by rw [List.length_cons, List.length_cons, RpA.len r]
theorem RpA.get {F : Hp} : ∀ {vs : List V} {ds : List D} {i : Nat} {d : D}, RpA F vs ds → ds[i]? = some d → ∃ v, vs[i]? = some v ∧ Rp F v d
  | _, _, _, _, .nil, e => by simp at e
  | _, _, 0, _, .cons h _, e => by simp at e; subst e; exact ⟨_, rfl, h⟩
  | _, _, i + 1, _, .cons _ r, e => by simpa using RpA.get r (by simpa using e)
theorem RpA.getV {F : Hp} : ∀ {vs : List V} {ds : List D} {i : Nat} {v : V}, RpA F vs ds → vs[i]? = some v → ∃ d, ds[i]? = some d ∧ Rp F v d
  | _, _, _, _, .nil, e => by simp at e
  | _, _, 0, _, .cons h _, e => by simp at e; subst e; exact ⟨_, rfl, h⟩
  | _, _, i + 1, _, .cons _ r, e => by simpa using RpA.getV r (by simpa using e)
theorem RpA.append {F : Hp} : ∀ {vs ws : List V} {ds es : List D}, RpA F vs ds → RpA F ws es → RpA F (vs ++ ws) (ds ++ es)
  | _, _, _, _, .nil, s => s
  | _, _, _, _, .cons h r, s => .cons h (RpA.append r s)
theorem RpA.take {F : Hp} : ∀ {vs : List V} {ds : List D} (n : Nat), RpA F vs ds → RpA F (vs.take n) (ds.take n)
  | _, _, 0, _ => .nil
  | _, _, _ + 1, .nil => .nil
  | _, _, n + 1, .cons h r => .cons h (RpA.take n r)
theorem RpA.drop {F : Hp} : ∀ {vs : List V} {ds : List D} (n : Nat), RpA F vs ds → RpA F (vs.drop n) (ds.drop n)
  | _, _, 0, r => r
  | _, _, _ + 1, .nil => .nil
  | _, _, n + 1, .cons _ r => RpA.drop n r
theorem RpA.set {F : Hp} {v : V} {d : D} (h : Rp F v d) : ∀ {vs : List V} {ds : List D} (i : Nat), RpA F vs ds → RpA F (vs.set i v) (ds.set i d)
  | _, _, _, .nil => .nil
  | _, _, 0, .cons _ r => .cons h r
  | _, _, i + 1, .cons g r => .cons g (RpA.set h i r)
theorem RpA.erase {F : Hp} : ∀ {vs : List V} {ds : List D} (i : Nat), RpA F vs ds → RpA F (vs.eraseIdx i) (ds.eraseIdx i)
  | _, _, _, .nil => .nil
  | _, _, 0, .cons _ r => r
  | _, _, i + 1, .cons g r => .cons g (RpA.erase i r)
theorem RpA.ints (F : Hp) : ∀ ns : List Int, RpA F (ns.map V.int) (ns.map PyData.int)
  | [] => .nil
  | n :: r => .cons (.int n) (RpA.ints F r)
theorem RpA.ofInts {F : Hp} : ∀ {vs : List V} {ns : List Int}, RpA F vs (ns.map PyData.int) → vs = ns.map V.int
  | _, [], h => by cases h; rfl
  | _, n :: r, h => by
    cases h with
    | cons h1 h2 =>
      cases h1
      rw [RpA.ofInts h2]
      rfl
theorem RpA.rep {F : Hp} {vs : List V} {ds : List D} (h : RpA F vs ds) : ∀ k : Nat, RpA F (List.replicate k vs).flatten (List.replicate k ds).flatten
  | 0 => .nil
  | k + 1 => by
    rw [List.replicate_succ, List.replicate_succ, List.flatten_cons, List.flatten_cons]
    exact h.append (RpA.rep h k)

def scal : D → Bool
  | .none => true
  | .bool _ => true
  | .int _ => true
  | .str _ => true
  | _ => false
theorem Rp.scal {F F' : Hp} {v : V} {d : D} (h : Rp F v d) (s : DL.scal d = true) : Rp F' v d := by
  cases h with
  | non => exact .non
  | bl b => exact .bl b
  | int i => exact .int i
  | str x => exact .str x
  | lst _ _ => cases s
  | tup _ _ => cases s
  | exn _ _ _ => cases s
  | dct _ => cases s
  | dcv _ _ => cases s
  | dtv _ _ => cases s
  | kne _ => cases s
  | sepL _ _ _ => cases s
  | sepT _ _ _ => cases s
theorem RpA.scal {F F' : Hp} : ∀ {vs : List V} {ds : List D}, RpA F vs ds → ds.all DL.scal = true → RpA F' vs ds
  | _, _, .nil, _ => .nil
  | _, _, .cons h r, s => by
    simp only [List.all_cons, Bool.and_eq_true] at s
    exact .cons (h.scal s.1) (RpA.scal r s.2)

def emp : Hp := fun _ => none
def sgl (l : Addr) (o : HO) : Hp := fun a => if a = l then some o else none
def jn (F R : Hp) : Hp := fun a => match R a with | some o => some o | none => F a
def dj (F R : Hp) : Prop := ∀ a o, R a = some o → F a = none
def nofz (R : Hp) : Prop := ∀ a ob u, R a ≠ some (.frz ob u)
def bsel (b : Bool) (N F : Hp) : Hp := match b with | true => N | false => F
theorem sgl_same {l : Addr} {o : HO} : sgl l o l = some o := by unfold sgl; rw [if_pos rfl]
theorem sgl_ne {l a : Addr} {o : HO} (h : a ≠ l) : sgl l o a = none := by unfold sgl; rw [if_neg h]
theorem sgl_some {l a : Addr} {o u : HO} (h : sgl l o a = some u) : a = l ∧ o = u := by
  unfold sgl at h
  split at h
  · exact ⟨by assumption, Option.some.inj h⟩
  · cases h
theorem nofz_sgl {l : Addr} {o : HO} (h : ∀ ob u, o ≠ .frz ob u) : nofz (sgl l o) := fun a ob u e => by
  obtain ⟨_, e⟩ := sgl_some e
  exact h ob u e
theorem sgl_same_iff {l : Addr} {o : HO} {H : Hp} (h : H l = some o) : Same (sgl l o) H := fun a u e => by
  obtain ⟨rfl, rfl⟩ := sgl_some e
  exact h
theorem jn_left {F R : Hp} (d : dj F R) : Same F (jn F R) := fun a o e => by
  unfold jn
  split
  · rename_i u q
    rw [d a u q] at e
    cases e
  · exact e
theorem jn_right {F R : Hp} : Same R (jn F R) := fun a o e => by
  unfold jn
  rw [e]
theorem jn_some {F R : Hp} {a : Addr} {o : HO} (h : jn F R a = some o) : R a = some o ∨ (R a = none ∧ F a = some o) := by
  unfold jn at h
  split at h
  · rename_i u q
    cases h
    exact .inl q
  · rename_i q
    exact .inr ⟨q, h⟩
theorem jn_none {F R : Hp} {a : Addr} (h : jn F R a = none) : R a = none ∧ F a = none := by
  unfold jn at h
  split at h
  · cases h
  · rename_i q
    exact ⟨q, h⟩
theorem jn_none_of {F R : Hp} {a : Addr} (h1 : R a = none) (h2 : F a = none) : jn F R a = none := by
  unfold jn
  rw [h1]
  exact h2
theorem jn_same {F R H : Hp} (h1 : Same F H) (h2 : Same R H) : Same (jn F R) H := fun a o e => by
  rcases jn_some e with e | ⟨_, e⟩
  · exact h2 _ _ e
  · exact h1 _ _ e
theorem jn_mono {F F' R : Hp} (h : Same F F') : Same (jn F R) (jn F' R) := fun a o e => by
  rcases jn_some e with e | ⟨n, e⟩
  · exact jn_right _ _ e
  · unfold jn
    rw [n]
    exact h _ _ e
theorem emp_same (H : Hp) : Same emp H := fun _ _ e => nomatch e
theorem bsel_mono {b : Bool} {N F N' F' : Hp} (h1 : Same N N') (h2 : Same F F') : Same (bsel b N F) (bsel b N' F') := by
  cases b
  · exact h2
  · exact h1
theorem bsel_sub {b : Bool} {N F : Hp} (h : Same N F) : Same (bsel b N F) F := by
  cases b
  · exact Same.refl F
  · exact h
theorem bsel_and_l {b c : Bool} {N F : Hp} (h : Same N F) : Same (bsel b N F) (bsel (b && c) N F) := by
  cases b <;> cases c <;> first | exact Same.refl _ | exact h
theorem bsel_and_r {b c : Bool} {N F : Hp} (h : Same N F) : Same (bsel c N F) (bsel (b && c) N F) := by
  cases b <;> cases c <;> first | exact Same.refl _ | exact h

structure Ks where
  order : List Int
  rows : List (List Int)
  coming : Option Int
  at' : Int
  answers : Int
structure Ds where
  many : Option Int
  answers : List (Int × Int × Bool)
inductive Ob where
  | kp (C : Addr) (st : Ks)
  | dk (C : Addr) (st : Ds)
  | rw (rows : List (List Int))
  | pp (d : D)
def optV : Option Int → V
  | none => .non
  | some i => .int i
def ksF (lo lr : Addr) (st : Ks) : List (Str × V) := [("order", .ref lo), ("rows", .ref lr), ("coming", optV st.coming), ("at", .int st.at'), ("answers", .int st.answers)]
def dsF (la : Addr) (st : Ds) : List (Str × V) := [("many", optV st.many), ("answers", .ref la)]
def ansD (x : Int × Int × Bool) : D := .tuple [.int x.1, .int x.2.1, .bool x.2.2]
def RowsR (R : Hp) : List Addr → List (List Int) → Prop
  | [], rs => rs = []
  | l :: ls, rs => ∃ r q, rs = r :: q ∧ R l = some (.lst (r.map V.int)) ∧ l ∉ ls ∧ RowsR R ls q
mutual
inductive PpR (T : Hp) : V → D → List Addr → Prop
  | leaf {p : Addr} : Rd T p (.tup []) → PpR T (.ref p) (.tuple []) []
  | node {l : Addr} {vs : List V} {ds : List D} {L : List Addr} : T l = some (.lst vs) → PpA T vs ds L → l ∉ L → PpR T (.ref l) (.list ds) (l :: L)
inductive PpA (T : Hp) : List V → List D → List Addr → Prop
  | nil : PpA T [] [] []
  | cons {q : Addr} {b : Bool} {w : V} {d : D} {vs : List V} {ds : List D} {L M : List Addr} : Rd T q (.tup [.bl b, w]) → PpR T w d L → PpA T vs ds M → (∀ x ∈ L, x ∉ M) → PpA T (.ref q :: vs) (.tuple [.bool b, d] :: ds) (L ++ M)
end
mutual
theorem PpR.rp {T : Hp} : ∀ {v : V} {d : D} {L : List Addr}, PpR T v d L → Rp T v d
  | _, _, _, .leaf h => .tup h .nil
  | _, _, _, .node h a _ => .lst (.inl h) a.rp
theorem PpA.rp {T : Hp} : ∀ {vs : List V} {ds : List D} {L : List Addr}, PpA T vs ds L → RpA T vs ds
  | _, _, _, .nil => .nil
  | _, _, _, .cons h r a _ => .cons (.tup h (.cons (.bl _) (.cons r.rp .nil))) a.rp
end
mutual
theorem PpR.mono {T T' : Hp} (s : Same T T') : ∀ {v : V} {d : D} {L : List Addr}, PpR T v d L → PpR T' v d L
  | _, _, _, .leaf h => .leaf (Rd.same s h)
  | _, _, _, .node h a n => .node (s _ _ h) (a.mono s) n
theorem PpA.mono {T T' : Hp} (s : Same T T') : ∀ {vs : List V} {ds : List D} {L : List Addr}, PpA T vs ds L → PpA T' vs ds L
  | _, _, _, .nil => .nil
  | _, _, _, .cons h r a n => .cons (Rd.same s h) (r.mono s) (a.mono s) n
end
def ObR (R : Hp) (a : Addr) : Ob → Prop
  | .kp C st => ∃ dx lo lr ls, R a = some (.ins C dx (ksF lo lr st)) ∧ R lo = some (.lst (st.order.map V.int)) ∧ R lr = some (.lst (ls.map V.ref)) ∧ lo ≠ lr ∧ lo ∉ ls ∧ lr ∉ ls ∧ RowsR R ls st.rows
  | .dk C st => ∃ dx la vs, R a = some (.ins C dx (dsF la st)) ∧ R la = some (.lst vs) ∧ RpA R vs (st.answers.map ansD)
  | .rw rows => ∃ ls, R a = some (.lst (ls.map V.ref)) ∧ a ∉ ls ∧ RowsR R ls rows
  | .pp d => ∃ L, PpR R (.ref a) d L
def obD : Ob → Option D
  | .rw rows => some (.list (rows.map fun r => .list (r.map PyData.int)))
  | .pp d => some d
  | _ => none
theorem RowsR.rp {R : Hp} : ∀ {ls : List Addr} {rs : List (List Int)}, RowsR R ls rs → RpA R (ls.map V.ref) (rs.map fun r => .list (r.map PyData.int))
  | [], rs, h => by rw [show rs = [] from h]; exact .nil
  | l :: ls, rs, h => by
    obtain ⟨r, q, rfl, h1, h2, h3⟩ := h
    exact .cons (.lst (.inl h1) (RpA.ints _ _)) h3.rp
theorem ObR.rp {R : Hp} {a : Addr} {o : Ob} {d : D} (h : ObR R a o) (e : obD o = some d) : Rp R (.ref a) d := by
  cases o with
  | rw rows =>
    cases e
    obtain ⟨ls, h1, _, h3⟩ := h
    exact .lst (.inl h1) h3.rp
  | pp d0 =>
    cases e
    obtain ⟨L, h⟩ := h
    exact h.rp
  | _ => cases e
inductive Slot where
  | un
  | fro (b : Bool) (d : D)
  | own (p b : Bool) (xs : List D)
  | ex (d : D)
  | kn (p : Bool) (tab : NTab)
  | ob (p : Bool) (o : Ob)
  | lent
abbrev Env := List Slot
inductive Tok where
  | fz (b : Bool) (d : D)
  | sl (i : Nat)
  | nw (b : Bool) (xs : List D)
  | ex (d : D)

def SlotOk (B : Hp) (pn : Nat → Option Addr) (σ : L2.St) (F N : Hp) (i : Nat) (R : Hp) : Slot → Prop
  | .un => R = emp
  | .fro b d => R = emp ∧ ∃ v, σ[i]? = some (some v) ∧ Rp (bsel b N F) v d
  | .own p b xs => ∃ l vs, σ[i]? = some (some (.ref l)) ∧ R = sgl l (.lst vs) ∧ RpA (bsel b N F) vs xs ∧ (if p then pn i = some l else B l = none)
  | .ex d => ∃ v, σ[i]? = some (some v) ∧ Rp R v d ∧ dj B R ∧ nofz R
  | .kn p tab => ∃ a L, σ[i]? = some (some (.ref a)) ∧ R = sgl a (dnO a L) ∧ L.map (·.2) = tab ∧ (∀ q ∈ L, Rp F (.ref q.1) (nkD q.2.1)) ∧ (if p then pn i = some a else B a = none)
  | .ob p o => ∃ a, σ[i]? = some (some (.ref a)) ∧ ObR R a o ∧ (if p then pn i = some a else dj B R)
  | .lent => R = emp ∧ ∃ l, pn i = some l ∧ σ[i]? = some (some (.ref l))

structure Ok (B : Hp) (pn : Nat → Option Addr) (env : Env) (σ : L2.St) (F N G : Hp) (Rg : Nat → Hp) (H : Hp) : Prop where
  len : env.length = σ.length
  sF : Same F H
  sN : Same N F
  sG : Same G H
  dG : dj F G
  nB : dj B N
  nZ : nofz N
  hB : ∀ a, H a = none → B a = none
  sl : ∀ i s, env[i]? = some s → SlotOk B pn σ F N i (Rg i) s
  sR : ∀ i, Same (Rg i) H
  dF : ∀ i, dj F (Rg i)
  dRG : ∀ i, dj G (Rg i)
  dR : ∀ i j, i ≠ j → dj (Rg i) (Rg j)
  out : ∀ i, env.length ≤ i → Rg i = emp

def TokOk (B : Hp) (σ : L2.St) (F N : Hp) (R : Hp) : Tok → V → Prop
  | .fz b d, v => R = emp ∧ Rp (bsel b N F) v d
  | .sl i, v => R = emp ∧ σ[i]? = some (some v)
  | .nw b xs, v => ∃ l vs, v = .ref l ∧ R = sgl l (.lst vs) ∧ RpA (bsel b N F) vs xs ∧ B l = none
  | .ex d, v => Rp R v d ∧ dj B R ∧ nofz R
structure Apart (F G : Hp) (Rg : Nat → Hp) (H R : Hp) : Prop where
  sR : Same R H
  dF : dj F R
  dG : dj G R
  dR : ∀ i, dj (Rg i) R
theorem dj_comm {F R : Hp} (h : dj F R) : dj R F := fun a o e => by
  cases q : R a with
  | none => rfl
  | some u =>
    rw [h a u q] at e
    cases e
theorem dj_emp (F : Hp) : dj F emp := fun _ _ e => nomatch e
theorem emp_dj (F : Hp) : dj emp F := fun _ _ _ => rfl
theorem Apart.none {F G : Hp} {Rg : Nat → Hp} {H : Hp} : Apart F G Rg H emp := ⟨emp_same H, dj_emp _, dj_emp _, fun _ => dj_emp _⟩

inductive ER where
  | ok (t : Tok) (e : Env)
  | exc (c : String) (e : Env)
  | bad
abbrev DE := Env → ER

def rd (env : Env) : Tok → Option D
  | .fz _ d => some d
  | .nw _ xs => some (.list xs)
  | .ex d => some d
  | .sl i => match env[i]? with
    | some (.fro _ d) => some d
    | some (.own _ _ xs) => some (.list xs)
    | some (.ex d) => some d
    | some (.ob _ o) => obD o
    | _ => none
section
variable {B : Hp} {pn : Nat → Option Addr} {env : Env} {σ : L2.St} {F N G : Hp} {Rg : Nat → Hp} {H R : Hp}
theorem Ok.res (I : Ok B pn env σ F N G Rg H) (A : Apart F G Rg H R) : Ok B pn env σ F N (jn G R) Rg H where
  len := I.len
  sF := I.sF
  sN := I.sN
  sG := jn_same I.sG A.sR
  dG := fun a o e => by
    rcases jn_some e with e | ⟨_, e⟩
    · exact A.dF a o e
    · exact I.dG a o e
  nB := I.nB
  nZ := I.nZ
  hB := I.hB
  sl := I.sl
  sR := I.sR
  dF := I.dF
  dRG := fun i => dj_comm fun a o e => by
    rcases jn_some e with e | ⟨_, e⟩
    · exact A.dR i a o e
    · exact dj_comm (I.dRG i) a o e
  dR := I.dR
  out := I.out
theorem Ok.unres {G' : Hp} (I : Ok B pn env σ F N G' Rg H) (s : Same G G') : Ok B pn env σ F N G Rg H where
  len := I.len
  sF := I.sF
  sN := I.sN
  sG := s.trans I.sG
  dG := fun a o e => I.dG a o (s _ _ e)
  nB := I.nB
  nZ := I.nZ
  hB := I.hB
  sl := I.sl
  sR := I.sR
  dF := I.dF
  dRG := fun i => dj_comm fun a o e => dj_comm (I.dRG i) a o (s _ _ e)
  dR := I.dR
  out := I.out
theorem Apart.back {F2 : Hp} {Rg2 : Nat → Hp} {H2 : Hp} (I : Ok B pn env σ F2 N (jn G R) Rg2 H2) (d : dj G R) : Apart F2 G Rg2 H2 R where
  sR := fun a o e => I.sG _ _ (jn_right _ _ e)
  dF := fun a o e => I.dG a o (jn_right _ _ e)
  dG := d
  dR := fun i a o e => dj_comm (I.dRG i) a o (jn_right _ _ e)
theorem Ok.slot {i : Nat} {s : Slot} (I : Ok B pn env σ F N G Rg H) (e : env[i]? = some s) : SlotOk B pn σ F N i (Rg i) s := I.sl i s e
theorem SlotOk.mono {F' N' : Hp} {i : Nat} {s : Slot} (hF : Same F F') (hN : Same N N') (h : SlotOk B pn σ F N i R s) : SlotOk B pn σ F' N' i R s := by
  cases s with
  | un => exact h
  | fro b d =>
    obtain ⟨e, v, e1, r⟩ := h
    exact ⟨e, v, e1, r.mono (bsel_mono hN hF)⟩
  | own p b xs =>
    obtain ⟨l, vs, e1, e2, r, q⟩ := h
    exact ⟨l, vs, e1, e2, r.mono (bsel_mono hN hF), q⟩
  | ex d => exact h
  | kn p tab =>
    obtain ⟨a, L, e1, e2, e3, r, q⟩ := h
    exact ⟨a, L, e1, e2, e3, fun z hz => (r z hz).mono hF, q⟩
  | ob p o => exact h
  | lent => exact h
theorem TokOk.mono {F' N' : Hp} {t : Tok} {v : V} (hF : Same F F') (hN : Same N N') (h : TokOk B σ F N R t v) : TokOk B σ F' N' R t v := by
  cases t with
  | fz b d => exact ⟨h.1, h.2.mono (bsel_mono hN hF)⟩
  | sl i => exact h
  | nw b xs =>
    obtain ⟨l, vs, e1, e2, r, q⟩ := h
    exact ⟨l, vs, e1, e2, r.mono (bsel_mono hN hF), q⟩
  | ex d => exact h
theorem Ok.grow {H' : Hp} (I : Ok B pn env σ F N G Rg H) (s : Same H H') : Ok B pn env σ F N G Rg H' where
  len := I.len
  sF := I.sF.trans s
  sN := I.sN
  sG := I.sG.trans s
  dG := I.dG
  nB := I.nB
  nZ := I.nZ
  hB := fun a e => I.hB a (s.free e)
  sl := I.sl
  sR := fun i => (I.sR i).trans s
  dF := I.dF
  dRG := I.dRG
  dR := I.dR
  out := I.out
theorem Apart.grow {H' : Hp} (A : Apart F G Rg H R) (s : Same H H') : Apart F G Rg H' R := ⟨A.sR.trans s, A.dF, A.dG, A.dR⟩
theorem Ok.frz (I : Ok B pn env σ F N G Rg H) (A : Apart F G Rg H R) : Ok B pn env σ (jn F R) N G Rg H where
  len := I.len
  sF := jn_same I.sF A.sR
  sN := I.sN.trans (jn_left A.dF)
  sG := I.sG
  dG := fun a o e => jn_none_of (dj_comm A.dG a o e) (I.dG a o e)
  nB := I.nB
  nZ := I.nZ
  hB := I.hB
  sl := fun i s e => (I.sl i s e).mono (jn_left A.dF) (Same.refl _)
  sR := I.sR
  dF := fun i a o e => jn_none_of (dj_comm (A.dR i) a o e) (I.dF i a o e)
  dRG := I.dRG
  dR := I.dR
  out := I.out
theorem Ok.frzN (I : Ok B pn env σ F N G Rg H) (A : Apart F G Rg H R) (nb : dj B R) (nz : nofz R) : Ok B pn env σ (jn F R) (jn N R) G Rg H where
  len := I.len
  sF := jn_same I.sF A.sR
  sN := jn_mono I.sN
  sG := I.sG
  dG := fun a o e => jn_none_of (dj_comm A.dG a o e) (I.dG a o e)
  nB := fun a o e => by
    rcases jn_some e with e | ⟨_, e⟩
    · exact nb a o e
    · exact I.nB a o e
  nZ := fun a ob u e => by
    rcases jn_some e with e | ⟨_, e⟩
    · exact nz a ob u e
    · exact I.nZ a ob u e
  hB := I.hB
  sl := fun i s e => (I.sl i s e).mono (jn_left A.dF) (jn_left fun a o e => by
    cases q : N a with
    | none => rfl
    | some u =>
      have := I.sN _ _ q
      rw [A.dF a o e] at this
      cases this)
  sR := I.sR
  dF := fun i a o e => jn_none_of (dj_comm (A.dR i) a o e) (I.dF i a o e)
  dRG := I.dRG
  dR := I.dR
  out := I.out
theorem Ok.djN (I : Ok B pn env σ F N G Rg H) (A : Apart F G Rg H R) : dj N R := fun a o e => by
  cases q : N a with
  | none => rfl
  | some u =>
    have := I.sN _ _ q
    rw [A.dF a o e] at this
    cases this
def setR (Rg : Nat → Hp) (i : Nat) (R : Hp) : Nat → Hp := fun j => if j = i then R else Rg j
theorem setR_same {i : Nat} : setR Rg i R i = R := by unfold setR; rw [if_pos rfl]
theorem setR_ne {i j : Nat} (h : j ≠ i) : setR Rg i R j = Rg j := by unfold setR; rw [if_neg h]
theorem Ok.put {σ' : L2.St} {i : Nat} {s : Slot} (I : Ok B pn env σ F N G Rg H) (hi : i < env.length) (hs : SlotOk B pn σ' F N i R s) (sR : Same R H) (dF : dj F R) (dG : dj G R) (dR : ∀ j, j ≠ i → dj (Rg j) R)
    (hσ : ∀ j, j ≠ i → σ'[j]? = σ[j]?) (hl : σ'.length = σ.length) : Ok B pn (env.set i s) σ' F N G (setR Rg i R) H where
  len := by rw [List.length_set, hl]; exact I.len
  sF := I.sF
  sN := I.sN
  sG := I.sG
  dG := I.dG
  nB := I.nB
  nZ := I.nZ
  hB := I.hB
  sl := fun j t e => by
    by_cases hj : j = i
    · subst hj
      rw [List.getElem?_set_self hi] at e
      cases e
      rw [setR_same]
      exact hs
    · rw [List.getElem?_set_ne (Ne.symm hj)] at e
      rw [setR_ne hj]
      have h := I.sl j t e
      cases t with
      | un => exact h
      | fro b d =>
        obtain ⟨z, v, e1, r⟩ := h
        exact ⟨z, v, (hσ j hj).trans e1, r⟩
      | own p b xs =>
        obtain ⟨l, vs, e1, e2, r, q⟩ := h
        exact ⟨l, vs, (hσ j hj).trans e1, e2, r, q⟩
      | ex d =>
        obtain ⟨v, e1, r⟩ := h
        exact ⟨v, (hσ j hj).trans e1, r⟩
      | kn p tab =>
        obtain ⟨a, L, e1, r⟩ := h
        exact ⟨a, L, (hσ j hj).trans e1, r⟩
      | ob p o =>
        obtain ⟨a, e1, r⟩ := h
        exact ⟨a, (hσ j hj).trans e1, r⟩
      | lent =>
        obtain ⟨z, l, e0, e1⟩ := h
        exact ⟨z, l, e0, (hσ j hj).trans e1⟩
  sR := fun j => by
    by_cases hj : j = i
    · subst hj; rw [setR_same]; exact sR
    · rw [setR_ne hj]; exact I.sR j
  dF := fun j => by
    by_cases hj : j = i
    · subst hj; rw [setR_same]; exact dF
    · rw [setR_ne hj]; exact I.dF j
  dRG := fun j => by
    by_cases hj : j = i
    · subst hj; rw [setR_same]; exact dG
    · rw [setR_ne hj]; exact I.dRG j
  dR := fun j k h => by
    by_cases hj : j = i
    · subst hj
      have hk : k ≠ j := fun z => h z.symm
      rw [setR_same, setR_ne hk]
      exact dj_comm (dR k hk)
    · rw [setR_ne hj]
      by_cases hk : k = i
      · subst hk; rw [setR_same]; exact dR j hj
      · rw [setR_ne hk]; exact I.dR j k h
  out := fun j h => by
    rw [List.length_set] at h
    have hj : j ≠ i := fun z => by subst z; exact absurd hi (Nat.not_lt.mpr h)
    rw [setR_ne hj]
    exact I.out j h
end
end DL
namespace DL
open PySem PySem.Spec PyProof.Rows L2
section
variable {B : Hp} {pn : Nat → Option Addr} {env : Env} {σ : L2.St} {F N G : Hp} {Rg : Nat → Hp} {H R : Hp}
theorem upd_Same {H : Hp} {p : Addr} {o : HO} (h : H p = none) : Same H (upd H p o) := fun b x e => by
  rw [upd_ne (ne_of_none e h)]
  exact e
theorem dj_sgl {F : Hp} {l : Addr} {o : HO} (h : F l = none) : dj F (sgl l o) := fun a u e => by
  obtain ⟨rfl, _⟩ := sgl_some e
  exact h
theorem Ok.fresh (I : Ok B pn env σ F N G Rg H) {l : Addr} {o : HO} (h : H l = none) : Apart F G Rg (upd H l o) (sgl l o) :=
  ⟨sgl_same_iff upd_same, dj_sgl (I.sF.free h), dj_sgl (I.sG.free h), fun i => dj_sgl ((I.sR i).free h)⟩
theorem Ok.slotLt {i : Nat} {s : Slot} (e : env[i]? = some s) : i < env.length := (List.getElem?_eq_some_iff.mp e).1
theorem Ok.off {i : Nat} (I : Ok B pn env σ F N G Rg H) (hi : i < env.length) : Ok B pn (env.set i .un) σ F N G (setR Rg i emp) H :=
  I.put hi rfl (emp_same _) (dj_emp _) (dj_emp _) (fun _ _ => dj_emp _) (fun _ _ => rfl) rfl
theorem Ok.offApart {i : Nat} (I : Ok B pn env σ F N G Rg H) : Apart F G (setR Rg i emp) H (Rg i) :=
  ⟨I.sR i, I.dF i, I.dRG i, fun j => by
    by_cases h : j = i
    · subst h; rw [setR_same]; exact emp_dj _
    · rw [setR_ne h]; exact I.dR j i h⟩
theorem set_set {α : Type} {l : List α} {i : Nat} {a b : α} : (l.set i a).set i b = l.set i b := by
  rw [List.set_set]
theorem Ok.freeze {i : Nat} {b : Bool} {d : D} {v : V} (I : Ok B pn env σ F N G Rg H) (hi : i < env.length) (hv : σ[i]? = some (some v)) (hB : dj B (Rg i)) (hZ : nofz (Rg i))
    (hr : ∀ F' N', Same F F' → Same N N' → Same (Rg i) (bsel b N' F') → Rp (bsel b N' F') v d) :
    ∃ F' N' Rg', Ok B pn (env.set i (.fro b d)) σ F' N' G Rg' H ∧ Same F F' ∧ Same N N' ∧ Rp (bsel b N' F') v d := by
  have I1 := I.off hi
  have A1 := I.offApart (i := i)
  cases b with
  | true =>
    have I2 := I1.frzN A1 hB hZ
    have hN := I1.djN A1
    have r := hr _ _ (jn_left A1.dF) (jn_left hN) (show Same (Rg i) (jn N (Rg i)) from jn_right)
    have I3 := I2.put (σ' := σ) (i := i) (s := .fro true d) (R := emp) (by rw [List.length_set]; exact hi) ⟨rfl, v, hv, r⟩ (emp_same _) (dj_emp _) (dj_emp _) (fun _ _ => dj_emp _) (fun _ _ => rfl) rfl
    rw [set_set] at I3
    exact ⟨_, _, _, I3, jn_left A1.dF, jn_left hN, r⟩
  | false =>
    have I2 := I1.frz A1
    have r := hr _ N (jn_left A1.dF) (Same.refl _) (show Same (Rg i) (jn F (Rg i)) from jn_right)
    have I3 := I2.put (σ' := σ) (i := i) (s := .fro false d) (R := emp) (by rw [List.length_set]; exact hi) ⟨rfl, v, hv, r⟩ (emp_same _) (dj_emp _) (dj_emp _) (fun _ _ => dj_emp _) (fun _ _ => rfl) rfl
    rw [set_set] at I3
    exact ⟨_, _, _, I3, jn_left A1.dF, Same.refl _, r⟩
def take (env : Env) : Tok → Option (Bool × D × Env)
  | .fz b d => some (b, d, env)
  | .nw b xs => some (b, .list xs, env)
  | .ex d => some (true, d, env)
  | .sl i => match env[i]? with
    | some (.fro b d) => some (b, d, env)
    | some (.own false b xs) => some (b, .list xs, env.set i (.fro b (.list xs)))
    | some (.ex d) => some (true, d, env.set i (.fro true d))
    | _ => none
theorem lst_of {b : Bool} {N F : Hp} {l : Addr} {vs : List V} {xs : List D} (h : Same (sgl l (.lst vs)) (bsel b N F)) (r : RpA (bsel b N F) vs xs) : Rp (bsel b N F) (.ref l) (.list xs) :=
  .lst (.inl (h _ _ sgl_same)) r
theorem dj_B_sgl {l : Addr} {o : HO} (h : B l = none) : dj B (sgl l o) := dj_sgl h
theorem take_ok {t : Tok} {v : V} {b : Bool} {d : D} {e' : Env} (I : Ok B pn env σ F N G Rg H) (T : TokOk B σ F N R t v) (A : Apart F G Rg H R) (h : take env t = some (b, d, e')) :
    ∃ F' N' Rg', Ok B pn e' σ F' N' G Rg' H ∧ Same F F' ∧ Same N N' ∧ Rp (bsel b N' F') v d := by
  cases t with
  | fz b0 d0 =>
    obtain ⟨rfl, rfl, rfl⟩ : b0 = b ∧ d0 = d ∧ env = e' := by
      simp only [take, Option.some.injEq, Prod.mk.injEq] at h
      exact h
    exact ⟨F, N, Rg, I, Same.refl _, Same.refl _, T.2⟩
  | nw b0 xs =>
    obtain ⟨rfl, rfl, rfl⟩ : b0 = b ∧ .list xs = d ∧ env = e' := by
      simp only [take, Option.some.injEq, Prod.mk.injEq] at h
      exact h
    obtain ⟨l, vs, rfl, rfl, r, q⟩ := T
    cases b0 with
    | true => 
      have hN := I.djN A
      exact ⟨_, _, _, I.frzN A (dj_B_sgl q) (nofz_sgl (by intro _ _ z; cases z)), jn_left A.dF, jn_left hN, lst_of (b := true) jn_right (r.mono (jn_left hN))⟩
    | false => exact ⟨_, _, _, I.frz A, jn_left A.dF, Same.refl _, lst_of (b := false) (N := N) jn_right (r.mono (jn_left A.dF))⟩
  | ex d0 =>
    obtain ⟨rfl, rfl, rfl⟩ : true = b ∧ d0 = d ∧ env = e' := by
      simp only [take, Option.some.injEq, Prod.mk.injEq] at h
      exact h
    obtain ⟨r, q, nz⟩ := T
    have hN := I.djN A
    exact ⟨_, _, _, I.frzN A q nz, jn_left A.dF, jn_left hN, (show Rp (jn N R) v d0 from r.mono jn_right)⟩
  | sl i =>
    obtain ⟨_, hv⟩ := T
    simp only [take] at h
    cases e : env[i]? with
    | none => rw [e] at h; cases h
    | some s =>
      rw [e] at h
      have S := I.sl i s e
      have hi := Ok.slotLt e
      cases s with
      | un => cases h
      | kn _ _ => cases h
      | ob _ _ => cases h
      | lent => cases h
      | fro b0 d0 =>
        simp only [Option.some.injEq, Prod.mk.injEq] at h
        obtain ⟨rfl, rfl, rfl⟩ := h
        obtain ⟨_, w, e1, r⟩ := S
        rw [hv] at e1
        cases e1
        exact ⟨F, N, Rg, I, Same.refl _, Same.refl _, r⟩
      | own p b0 xs =>
        cases p with
        | true => cases h
        | false =>
          simp only [Option.some.injEq, Prod.mk.injEq] at h
          obtain ⟨rfl, rfl, rfl⟩ := h
          obtain ⟨l, vs, e1, e2, r, q⟩ := S
          rw [hv] at e1
          cases e1
          refine I.freeze hi hv (by rw [e2]; exact dj_B_sgl q) (by rw [e2]; exact nofz_sgl (by intro _ _ z; cases z)) fun F' N' hF hN hs => ?_
          rw [e2] at hs
          exact lst_of hs (r.mono (bsel_mono hN hF))
      | ex d0 =>
        simp only [Option.some.injEq, Prod.mk.injEq] at h
        obtain ⟨rfl, rfl, rfl⟩ := h
        obtain ⟨w, e1, r, q, nz⟩ := S
        rw [hv] at e1
        cases e1
        exact I.freeze hi hv q nz fun F' N' hF hN hs => r.mono hs
theorem rd_ok {t : Tok} {v : V} {d : D} (I : Ok B pn env σ F N G Rg H) (T : TokOk B σ F N R t v) (sR : Same R H) (h : rd env t = some d) : Rp H v d := by
  have hb : ∀ b, Same (bsel b N F) H := fun b => (bsel_sub I.sN).trans I.sF
  cases t with
  | fz b0 d0 => cases h; exact T.2.mono (hb _)
  | nw b0 xs =>
    cases h
    obtain ⟨l, vs, rfl, rfl, r, q⟩ := T
    exact .lst (.inl (sR _ _ sgl_same)) (r.mono (hb _))
  | ex d0 => cases h; exact T.1.mono sR
  | sl i =>
    obtain ⟨_, hv⟩ := T
    simp only [rd] at h
    cases e : env[i]? with
    | none => rw [e] at h; cases h
    | some s =>
      rw [e] at h
      have S := I.sl i s e
      cases s with
      | un => cases h
      | kn _ _ => cases h
      | ob p o =>
        obtain ⟨w, e1, r, q⟩ := S
        rw [hv] at e1
        cases e1
        exact (r.rp h).mono (I.sR i)
      | lent => cases h
      | fro b0 d0 =>
        cases h
        obtain ⟨_, w, e1, r⟩ := S
        rw [hv] at e1
        cases e1
        exact r.mono (hb _)
      | own p b0 xs =>
        cases h
        obtain ⟨l, vs, e1, e2, r, q⟩ := S
        rw [hv] at e1
        cases e1
        have s := I.sR i
        rw [e2] at s
        exact .lst (.inl (s _ _ sgl_same)) (r.mono (hb _))
      | ex d0 =>
        cases h
        obtain ⟨w, e1, r, q⟩ := S
        rw [hv] at e1
        cases e1
        exact r.mono (I.sR i)

def ToksOk (B : Hp) (σ : L2.St) (F N : Hp) (Rg : Nat → Hp) (H : Hp) : Hp → List Tok → List V → Prop
  | _, [], vs => vs = []
  | G, t :: ts, vs => ∃ v r R, vs = v :: r ∧ TokOk B σ F N R t v ∧ Apart F G Rg H R ∧ ToksOk B σ F N Rg H (jn G R) ts r
def rds (env : Env) : List Tok → Option (List D)
  | [] => some []
  | t :: ts => match rd env t with
    | none => none
    | some d => match rds env ts with
      | none => none
      | some ds => some (d :: ds)
theorem rds_ok : ∀ {ts : List Tok} {vs : List V} {ds : List D} {G : Hp}, Ok B pn env σ F N G Rg H → ToksOk B σ F N Rg H G ts vs → rds env ts = some ds → RpA H vs ds
  | [], vs, ds, G, I, T, h => by
    cases h
    have e : vs = [] := T
    subst e
    exact .nil
  | t :: ts, vs, ds, G, I, T, h => by
    obtain ⟨v, r, R, rfl, t1, a1, tr⟩ := T
    simp only [rds] at h
    cases e1 : rd env t with
    | none => rw [e1] at h; cases h
    | some d =>
      rw [e1] at h
      cases e2 : rds env ts with
      | none => rw [e2] at h; cases h
      | some ds' =>
        rw [e2] at h
        cases h
        exact .cons (rd_ok I t1 a1.sR e1) (rds_ok (I.res a1) tr e2)
def RpB (N F : Hp) : List V → List (Bool × D) → Prop
  | vs, [] => vs = []
  | vs, (b, d) :: ps => ∃ v r, vs = v :: r ∧ Rp (bsel b N F) v d ∧ RpB N F r ps
theorem RpB.mono {N F N' F' : Hp} (hN : Same N N') (hF : Same F F') : ∀ {ps : List (Bool × D)} {vs : List V}, RpB N F vs ps → RpB N' F' vs ps
  | [], _, h => h
  | (b, d) :: ps, _, h => by
    obtain ⟨v, r, e, h1, h2⟩ := h
    exact ⟨v, r, e, h1.mono (bsel_mono hN hF), h2.mono hN hF⟩
def tagAll : List (Bool × D) → Bool
  | [] => true
  | (b, _) :: ps => b && tagAll ps
theorem RpB.all {N F : Hp} (s : Same N F) : ∀ {ps : List (Bool × D)} {vs : List V}, RpB N F vs ps → RpA (bsel (tagAll ps) N F) vs (ps.map (·.2))
  | [], vs, h => by
    have e : vs = [] := h
    subst e
    exact .nil
  | (b, d) :: ps, vs, h => by
    obtain ⟨v, r, rfl, h1, h2⟩ := h
    exact .cons (h1.mono (bsel_and_l s)) (h2.all s |>.mono (bsel_and_r s))
def takes (env : Env) : List Tok → Option (List (Bool × D) × Env)
  | [] => some ([], env)
  | t :: ts => match takes env ts with
    | none => none
    | some (ps, e1) => match take e1 t with
      | none => none
      | some (b, d, e2) => some ((b, d) :: ps, e2)
theorem TokOk.ext {F' N' : Hp} {t : Tok} {v : V} (hF : Same F F') (hN : Same N N') (h : TokOk B σ F N R t v) : TokOk B σ F' N' R t v := h.mono hF hN
theorem takes_ok : ∀ {ts : List Tok} {vs : List V} {ps : List (Bool × D)} {e' : Env} {G : Hp}, Ok B pn env σ F N G Rg H → ToksOk B σ F N Rg H G ts vs → takes env ts = some (ps, e') →
    ∃ F' N' Rg', Ok B pn e' σ F' N' G Rg' H ∧ Same F F' ∧ Same N N' ∧ RpB N' F' vs ps
  | [], vs, ps, e', G, I, T, h => by
    cases h
    have e : vs = [] := T
    subst e
    exact ⟨F, N, Rg, I, Same.refl _, Same.refl _, rfl⟩
  | t :: ts, vs, ps, e', G, I, T, h => by
    obtain ⟨v, r, R, rfl, t1, a1, tr⟩ := T
    simp only [takes] at h
    cases e1 : takes env ts with
    | none => rw [e1] at h; cases h
    | some q =>
      obtain ⟨ps', en⟩ := q
      rw [e1] at h
      simp only at h
      cases e2 : take en t with
      | none => rw [e2] at h; cases h
      | some q =>
        obtain ⟨b, d, en2⟩ := q
        rw [e2] at h
        cases h
        obtain ⟨F1, N1, Rg1, I1, hF1, hN1, r1⟩ := takes_ok (I.res a1) tr e1
        have A1 : Apart F1 G Rg1 H R := .back I1 a1.dG
        obtain ⟨F2, N2, Rg2, I2, hF2, hN2, r2⟩ := take_ok (I1.unres (jn_left a1.dG)) (t1.mono hF1 hN1) A1 e2
        exact ⟨F2, N2, Rg2, I2, hF1.trans hF2, hN1.trans hN2, v, r, rfl, r2, r1.mono hN2 hF2⟩
def Vw (N F H : Hp) (v : V) (b : Bool) (d : D) : Prop := Rp (bsel b N F) v d ∨ ∃ l vs xs, v = .ref l ∧ d = .list xs ∧ H l = some (.lst vs) ∧ RpA (bsel b N F) vs xs
def Vws (N F H : Hp) : List V → List (Bool × D) → Prop
  | vs, [] => vs = []
  | vs, (b, d) :: ps => ∃ v r, vs = v :: r ∧ Vw N F H v b d ∧ Vws N F H r ps
theorem Vw.mono {N F N' F' H H' : Hp} {v : V} {b : Bool} {d : D} (hN : Same N N') (hF : Same F F') (hH : Same H H') (h : Vw N F H v b d) : Vw N' F' H' v b d := by
  rcases h with h | ⟨l, vs, xs, e1, e2, e3, r⟩
  · exact .inl (h.mono (bsel_mono hN hF))
  · exact .inr ⟨l, vs, xs, e1, e2, hH _ _ e3, r.mono (bsel_mono hN hF)⟩
theorem Vws.mono {N F N' F' H H' : Hp} (hN : Same N N') (hF : Same F F') (hH : Same H H') : ∀ {ps : List (Bool × D)} {vs : List V}, Vws N F H vs ps → Vws N' F' H' vs ps
  | [], _, h => h
  | (b, d) :: ps, _, h => by
    obtain ⟨v, r, e, h1, h2⟩ := h
    exact ⟨v, r, e, h1.mono hN hF hH, h2.mono hN hF hH⟩
def view (env : Env) : Tok → Option (Bool × D × Env)
  | .nw b xs => some (b, .list xs, env)
  | .sl i => match env[i]? with
    | some (.fro b d) => some (b, d, env)
    | some (.own _ b xs) => some (b, .list xs, env)
    | some (.ex d) => some (true, d, env.set i (.fro true d))
    | _ => none
  | .fz b d => some (b, d, env)
  | .ex d => some (true, d, env)
def views (env : Env) : List Tok → Option (List (Bool × D) × Env)
  | [] => some ([], env)
  | t :: ts => match views env ts with
    | none => none
    | some (ps, e1) => match view e1 t with
      | none => none
      | some (b, d, e2) => some ((b, d) :: ps, e2)
theorem view_ok {t : Tok} {v : V} {b : Bool} {d : D} {e' : Env} (I : Ok B pn env σ F N G Rg H) (T : TokOk B σ F N R t v) (A : Apart F G Rg H R) (h : view env t = some (b, d, e')) :
    ∃ F' N' Rg', Ok B pn e' σ F' N' G Rg' H ∧ Same F F' ∧ Same N N' ∧ Vw N' F' H v b d := by
  have tk : take env t = some (b, d, e') → ∃ F' N' Rg', Ok B pn e' σ F' N' G Rg' H ∧ Same F F' ∧ Same N N' ∧ Vw N' F' H v b d := fun h => by
    obtain ⟨F', N', Rg', I', hF, hN, r⟩ := take_ok I T A h
    exact ⟨F', N', Rg', I', hF, hN, .inl r⟩
  cases t with
  | fz b0 d0 => exact tk h
  | ex d0 => exact tk h
  | nw b0 xs =>
    cases h
    obtain ⟨l, vs, rfl, rfl, r, q⟩ := T
    exact ⟨F, N, Rg, I, Same.refl _, Same.refl _, .inr ⟨l, vs, xs, rfl, rfl, A.sR _ _ sgl_same, r⟩⟩
  | sl i =>
    simp only [view] at h
    cases e : env[i]? with
    | none => rw [e] at h; cases h
    | some s =>
      rw [e] at h
      cases s with
      | un => cases h
      | kn _ _ => cases h
      | ob _ _ => cases h
      | lent => cases h
      | fro b0 d0 => exact tk (by simp only [take]; rw [e]; exact h)
      | ex d0 => exact tk (by simp only [take]; rw [e]; exact h)
      | own p b0 xs =>
        cases h
        obtain ⟨l, vs, e1, e2, r, q⟩ := I.sl i _ e
        rw [T.2] at e1
        cases e1
        have s := I.sR i
        rw [e2] at s
        exact ⟨F, N, Rg, I, Same.refl _, Same.refl _, .inr ⟨l, vs, xs, rfl, rfl, s _ _ sgl_same, r⟩⟩
theorem views_ok : ∀ {ts : List Tok} {vs : List V} {ps : List (Bool × D)} {e' : Env} {G : Hp}, Ok B pn env σ F N G Rg H → ToksOk B σ F N Rg H G ts vs → views env ts = some (ps, e') →
    ∃ F' N' Rg', Ok B pn e' σ F' N' G Rg' H ∧ Same F F' ∧ Same N N' ∧ Vws N' F' H vs ps
  | [], vs, ps, e', G, I, T, h => by
    cases h
    have e : vs = [] := T
    subst e
    exact ⟨F, N, Rg, I, Same.refl _, Same.refl _, rfl⟩
  | t :: ts, vs, ps, e', G, I, T, h => by
    obtain ⟨v, r, R, rfl, t1, a1, tr⟩ := T
    simp only [views] at h
    cases e1 : views env ts with
    | none => rw [e1] at h; cases h
    | some q =>
      obtain ⟨ps', en⟩ := q
      rw [e1] at h
      simp only at h
      cases e2 : view en t with
      | none => rw [e2] at h; cases h
      | some q =>
        obtain ⟨b, d, en2⟩ := q
        rw [e2] at h
        cases h
        obtain ⟨F1, N1, Rg1, I1, hF1, hN1, r1⟩ := views_ok (I.res a1) tr e1
        have A1 : Apart F1 G Rg1 H R := .back I1 a1.dG
        obtain ⟨F2, N2, Rg2, I2, hF2, hN2, r2⟩ := view_ok (I1.unres (jn_left a1.dG)) (t1.mono hF1 hN1) A1 e2
        exact ⟨F2, N2, Rg2, I2, hF1.trans hF2, hN1.trans hN2, v, r, rfl, r2, r1.mono hN2 hF2 (Same.refl _)⟩
end

def Aft (B : Hp) (pn : Nat → Option Addr) (σ : L2.St) (F N G : Hp) (W : L2.WX) (cm : String → Addr) (Q : VK) : ER → Prop
  | .ok t e' => ∀ v F' N' Rg' H' R, Ok B pn e' σ F' N' G Rg' H' → Same F F' → Same N N' → TokOk B σ F' N' R t v → Apart F' G Rg' H' R → Q v H'
  | .exc c e' => ∀ F' N' Rg' H', Ok B pn e' σ F' N' G Rg' H' → Same F F' → Same N N' → W (.ref (cm c)) none σ H'
  | .bad => False
def tD (W : L2.WX) (cm : String → Addr) (f : DE) : TE := fun σ H Q => ∃ B pn F N G Rg env, Ok B pn env σ F N G Rg H ∧ Aft B pn σ F N G W cm Q (f env)
theorem Aft.imp {B : Hp} {pn : Nat → Option Addr} {σ : L2.St} {F N G : Hp} {W : L2.WX} {cm : String → Addr} {Q Q' : VK} {r : ER} (h : Aft B pn σ F N G W cm Q r) (k : ∀ v H, Q v H → Q' v H) : Aft B pn σ F N G W cm Q' r := by
  cases r with
  | ok t e' => exact fun v F' N' Rg' H' R I hF hN T A => k _ _ (h v F' N' Rg' H' R I hF hN T A)
  | exc c e' => exact h
  | bad => exact h
theorem PEimp {X : Cx} {e : Expr} {t t' : TE} (h : PE X e t) (k : ∀ σ H Q, t' σ H Q → t σ H Q) : PE X e t' := ⟨fun pins s σ H Q I hw => h.run pins s σ H Q I (k _ _ _ hw)⟩
theorem PSimp {X : Cx} {e : Stmt} {t t' : TS} (h : PS X e t) (k : ∀ D σ H, t' D σ H → t D σ H) : PS X e t' := ⟨fun pins s σ H D I hw => h.run pins s σ H D I (k _ _ _ hw)⟩
theorem PSsimp {X : Cx} {e : List Stmt} {t t' : TS} (h : PSs X e t) (k : ∀ D σ H, t' D σ H → t D σ H) : PSs X e t' := ⟨fun pins s σ H D I hw => h.run pins s σ H D I (k _ _ _ hw)⟩
inductive AR where
  | ok (ts : List Tok) (e : Env)
  | exc (c : String) (e : Env)
  | bad
def dArgs : List DE → Env → AR
  | [], env => .ok [] env
  | f :: fs, env => match f env with
    | .ok t e1 => match dArgs fs e1 with
      | .ok ts e2 => .ok (t :: ts) e2
      | .exc c e2 => .exc c e2
      | .bad => .bad
    | .exc c e1 => .exc c e1
    | .bad => .bad
def tAD (W : L2.WX) (cm : String → Addr) : List DE → TA
  | [] => tNil
  | f :: fs => tCons (tD W cm f) (tAD W cm fs)
def AftA (B : Hp) (pn : Nat → Option Addr) (σ : L2.St) (F N G : Hp) (W : L2.WX) (cm : String → Addr) (Q : List V → Hp → Prop) : AR → Prop
  | .ok ts e' => ∀ vs F' N' Rg' H', Ok B pn e' σ F' N' G Rg' H' → Same F F' → Same N N' → ToksOk B σ F' N' Rg' H' G ts vs → Q vs H'
  | .exc c e' => ∀ F' N' Rg' H', Ok B pn e' σ F' N' G Rg' H' → Same F F' → Same N N' → W (.ref (cm c)) none σ H'
  | .bad => False
theorem args_read {W : L2.WX} {cm : String → Addr} {B : Hp} {pn : Nat → Option Addr} {σ : L2.St} : ∀ {fs : List DE} {F N G : Hp} {Rg : Nat → Hp} {H : Hp} {env : Env} {Q : List V → Hp → Prop}, Ok B pn env σ F N G Rg H → AftA B pn σ F N G W cm Q (dArgs fs env) → tAD W cm fs σ H Q
  | [], F, N, G, Rg, H, env, Q, I, h => h [] F N Rg H I (Same.refl _) (Same.refl _) rfl
  | f :: fs, F, N, G, Rg, H, env, Q, I, h => by
    refine ⟨B, pn, F, N, G, Rg, env, I, ?_⟩
    simp only [dArgs] at h
    cases e1 : f env with
    | bad => rw [e1] at h; exact h
    | exc c en => rw [e1] at h; exact h
    | ok t en =>
      rw [e1] at h
      intro v F1 N1 Rg1 H1 R1 I1 hF1 hN1 T1 A1
      refine args_read (I1.res A1) ?_
      simp only at h
      cases e2 : dArgs fs en with
      | bad => rw [e2] at h; exact h
      | exc c en2 =>
        rw [e2] at h
        exact fun F2 N2 Rg2 H2 I2 hF2 hN2 => h F2 N2 Rg2 H2 (I2.unres (jn_left A1.dG)) (hF1.trans hF2) (hN1.trans hN2)
      | ok ts en2 =>
        rw [e2] at h
        exact fun vs F2 N2 Rg2 H2 I2 hF2 hN2 T2 => h (v :: vs) F2 N2 Rg2 H2 (I2.unres (jn_left A1.dG)) (hF1.trans hF2) (hN1.trans hN2) ⟨v, vs, R1, rfl, T1.mono hF2 hN2, .back I2 A1.dG, T2⟩
def dAp (op : List Tok → Env → ER) (fs : List DE) : DE := fun env => match dArgs fs env with
  | .ok ts e => op ts e
  | .exc c e => .exc c e
  | .bad => .bad
def ApR (W : L2.WX) (cm : String → Addr) (op : List Tok → Env → ER) (r : L2.St → List V → Hp → VK → Prop) : Prop :=
  ∀ {B : Hp} {pn : Nat → Option Addr} {env : Env} {σ : L2.St} {F N G : Hp} {Rg : Nat → Hp} {H : Hp} {ts : List Tok} {vs : List V} {Q : VK}, Ok B pn env σ F N G Rg H → ToksOk B σ F N Rg H G ts vs → Aft B pn σ F N G W cm Q (op ts env) → r σ vs H Q
theorem Aft.low {B : Hp} {pn : Nat → Option Addr} {σ : L2.St} {F N G F1 N1 : Hp} {W : L2.WX} {cm : String → Addr} {Q : VK} {r : ER} (hF : Same F F1) (hN : Same N N1) (h : Aft B pn σ F N G W cm Q r) : Aft B pn σ F1 N1 G W cm Q r := by
  cases r with
  | ok t e' => exact fun v F' N' Rg' H' R I hF' hN' T A => h v F' N' Rg' H' R I (hF.trans hF') (hN.trans hN') T A
  | exc c e' => exact fun F' N' Rg' H' I hF' hN' => h F' N' Rg' H' I (hF.trans hF') (hN.trans hN')
  | bad => exact h
theorem ap_read {W : L2.WX} {cm : String → Addr} {op : List Tok → Env → ER} {r : L2.St → List V → Hp → VK → Prop} {fs : List DE} (ho : ApR W cm op r) {σ : L2.St} {H : Hp} {Q : VK} (h : tD W cm (dAp op fs) σ H Q) : tAD W cm fs σ H fun vs H' => r σ vs H' Q := by
  obtain ⟨B, pn, F, N, G, Rg, env, I, h⟩ := h
  refine args_read I ?_
  unfold dAp at h
  cases e : dArgs fs env with
  | bad => rw [e] at h; exact h
  | exc c en => rw [e] at h; exact h
  | ok ts en =>
    rw [e] at h
    exact fun vs F1 N1 Rg1 H1 I1 hF1 hN1 T1 => ho I1 T1 (h.low hF1 hN1)

def ScR (r : L2.St → List V → Hp → VK → Prop) (op : List D → Option D) : Prop := ∀ (σ : L2.St) (H : Hp) (vs : List V) (ds : List D) (d : D) (Q : VK), RpA H vs ds → op ds = some d → (∀ v, Rp emp v d → Q v H) → r σ vs H Q
def opSc (op : List D → Option D) : List Tok → Env → ER := fun ts env => match rds env ts with
  | none => .bad
  | some ds => match op ds with
    | none => .bad
    | some d => .ok (.fz true d) env
theorem ap_sc {W : L2.WX} {cm : String → Addr} {op : List D → Option D} {r : L2.St → List V → Hp → VK → Prop} (hr : ScR r op) : ApR W cm (opSc op) r := by
  intro B pn env σ F N G Rg H ts vs Q I T h
  unfold opSc at h
  cases e1 : rds env ts with
  | none => rw [e1] at h; exact h.elim
  | some ds =>
    rw [e1] at h
    simp only at h
    cases e2 : op ds with
    | none => rw [e2] at h; exact h.elim
    | some d =>
      rw [e2] at h
      refine hr σ H vs ds d Q (rds_ok I T e1) e2 fun v rv => ?_
      exact h v F N Rg H emp I (Same.refl _) (Same.refl _) ⟨rfl, rv.mono (emp_same _)⟩ .none
def RM (N F H : Hp) (t : Tok) (v : V) (H' : Hp) : Prop :=
  (H' = H ∧ ∃ b d, t = .fz b d ∧ Rp (bsel b N F) v d) ∨
  (∃ l vs b xs, t = .nw b xs ∧ v = .ref l ∧ H l = none ∧ H' = upd H l (.lst vs) ∧ RpA (bsel b N F) vs xs) ∨
  (∃ l vs b xs, t = .fz b (.tuple xs) ∧ v = .ref l ∧ H l = none ∧ H' = upd H l (.tup vs) ∧ RpA (bsel b N F) vs xs)
theorem RM.done {B : Hp} {pn : Nat → Option Addr} {env : Env} {σ : L2.St} {F N G : Hp} {Rg : Nat → Hp} {H H' : Hp} {t : Tok} {v : V} {W : L2.WX} {cm : String → Addr} {Q : VK} (I : Ok B pn env σ F N G Rg H) (m : RM N F H t v H') (h : Aft B pn σ F N G W cm Q (.ok t env)) : Q v H' := by
  rcases m with ⟨rfl, b, d, rfl, r⟩ | ⟨l, vs, b, xs, rfl, rfl, hl, rfl, r⟩ | ⟨l, vs, b, xs, rfl, rfl, hl, rfl, r⟩
  · exact h v F N Rg H' emp I (Same.refl _) (Same.refl _) ⟨rfl, r⟩ .none
  · have I1 := I.grow (upd_Same (o := .lst vs) hl)
    exact h (.ref l) F N Rg _ _ I1 (Same.refl _) (Same.refl _) ⟨l, vs, rfl, rfl, r, I.hB l hl⟩ (I.fresh hl)
  · have I1 := I.grow (upd_Same (o := .tup vs) hl)
    have A := I.fresh (o := .tup vs) hl
    cases b with
    | true =>
      have hN := I1.djN A
      refine h (.ref l) _ _ Rg _ emp (I1.frzN A (dj_sgl (I.hB l hl)) (nofz_sgl (by intro _ _ z; cases z))) (jn_left A.dF) (jn_left hN) ⟨rfl, ?_⟩ .none
      exact .tup (.inl (jn_right _ _ sgl_same)) (r.mono (jn_left hN))
    | false =>
      refine h (.ref l) _ _ Rg _ emp (I1.frz A) (jn_left A.dF) (Same.refl _) ⟨rfl, ?_⟩ .none
      exact .tup (.inl (jn_right _ _ sgl_same)) (r.mono (jn_left A.dF))
def ElR (r : L2.St → List V → Hp → VK → Prop) (op : List (Bool × D) → Option Tok) : Prop := ∀ (σ : L2.St) (N F H : Hp) (vs : List V) (ps : List (Bool × D)) (t : Tok) (Q : VK), Same N F → Same F H → Vws N F H vs ps → op ps = some t → (∀ v H', RM N F H t v H' → Q v H') → r σ vs H Q
def opEl (op : List (Bool × D) → Option Tok) : List Tok → Env → ER := fun ts env => match views env ts with
  | none => .bad
  | some (ps, e') => match op ps with
    | none => .bad
    | some t => .ok t e'
theorem ap_el {W : L2.WX} {cm : String → Addr} {op : List (Bool × D) → Option Tok} {r : L2.St → List V → Hp → VK → Prop} (hr : ElR r op) : ApR W cm (opEl op) r := by
  intro B pn env σ F N G Rg H ts vs Q I T h
  unfold opEl at h
  cases e1 : views env ts with
  | none => rw [e1] at h; exact h.elim
  | some q =>
    obtain ⟨ps, e'⟩ := q
    rw [e1] at h
    simp only at h
    cases e2 : op ps with
    | none => rw [e2] at h; exact h.elim
    | some t =>
      rw [e2] at h
      obtain ⟨F1, N1, Rg1, I1, hF, hN, V1⟩ := views_ok I T e1
      refine hr σ N1 F1 H vs ps t Q I1.sN I1.sF V1 e2 fun v H' m => ?_
      exact m.done I1 (h.low hF hN)
def TkR (r : L2.St → List V → Hp → VK → Prop) (op : List (Bool × D) → Option Tok) : Prop := ∀ (σ : L2.St) (N F H : Hp) (vs : List V) (ps : List (Bool × D)) (t : Tok) (Q : VK), Same N F → Same F H → RpB N F vs ps → op ps = some t → (∀ v H', RM N F H t v H' → Q v H') → r σ vs H Q
def opTk (op : List (Bool × D) → Option Tok) : List Tok → Env → ER := fun ts env => match takes env ts with
  | none => .bad
  | some (ps, e') => match op ps with
    | none => .bad
    | some t => .ok t e'
theorem ap_tk {W : L2.WX} {cm : String → Addr} {op : List (Bool × D) → Option Tok} {r : L2.St → List V → Hp → VK → Prop} (hr : TkR r op) : ApR W cm (opTk op) r := by
  intro B pn env σ F N G Rg H ts vs Q I T h
  unfold opTk at h
  cases e1 : takes env ts with
  | none => rw [e1] at h; exact h.elim
  | some q =>
    obtain ⟨ps, e'⟩ := q
    rw [e1] at h
    simp only at h
    cases e2 : op ps with
    | none => rw [e2] at h; exact h.elim
    | some t =>
      rw [e2] at h
      obtain ⟨F1, N1, Rg1, I1, hF, hN, V1⟩ := takes_ok I T e1
      refine hr σ N1 F1 H vs ps t Q I1.sN I1.sF V1 e2 fun v H' m => ?_
      exact m.done I1 (h.low hF hN)
end DL
namespace DL
open PySem PySem.Spec PyProof.Rows L2
inductive Arg where
  | v (b : Bool) (d : D)
  | o (b : Bool) (xs : List D)
inductive FR where
  | ok (t : Tok) (outs : List (Option (Bool × List D)))
  | exc (c : String)
  | bad
abbrev Fn := List Arg → FR
def argSlot : Arg → Slot
  | .v b d => .fro b d
  | .o b xs => .own true b xs
def argEnv (l : List Arg) : Env := l.map argSlot
def outSlot : Option (Bool × List D) → Slot
  | none => .un
  | some (b, xs) => .own true b xs
def outEnv (l : List (Option (Bool × List D))) : Env := l.map outSlot
def noSl : Tok → Bool
  | .sl _ => false
  | _ => true
structure Entry (B : Hp) (pn : Nat → Option Addr) (args : List Arg) (vs : List V) (F N G : Hp) (Rg : Nat → Hp) (H : Hp) : Prop where
  ok : Ok B pn (argEnv args) (vs.map some) F N G Rg H
  cov : ∀ a o, H a = some o → F a = some o ∨ G a = some o ∨ ∃ i, Rg i a = some o
def spD (cm : String → Addr) (fn : Fn) : Sp := fun vs H Q E => ∃ B pn F N G Rg args, Entry B pn args vs F N G Rg H ∧ (match fn args with
  | .ok t outs => noSl t = true ∧ ∀ v F' N' Rg' H' R, Ok B pn (outEnv outs) (vs.map some) F' N' G Rg' H' → Same F F' → Same N N' → TokOk B [] F' N' R t v → Apart F' G Rg' H' R → dj H R → Q v H'
  | .exc c => ∀ F' N' Rg' H', Ok B pn (args.map fun _ => Slot.un) (vs.map some) F' N' G Rg' H' → Same F F' → Same N N' → E (.ref (cm c)) none H'
  | .bad => False)
structure PArgs (F N J : Hp) (args : List Arg) (vs : List V) : Prop where
  len : args.length = vs.length
  pv : ∀ (j : Nat) (b : Bool) (d : D), args[j]? = some (Arg.v b d) → ∃ v : V, vs[j]? = some v ∧ Rp (bsel b N F) v d
  po : ∀ (j : Nat) (b : Bool) (xs : List D), args[j]? = some (Arg.o b xs) → ∃ l ws, vs[j]? = some (V.ref l) ∧ J = sgl l (.lst ws) ∧ RpA (bsel b N F) ws xs
  one : ∀ (j k : Nat) (b : Bool) (xs : List D) (c : Bool) (ys : List D), args[j]? = some (Arg.o b xs) → args[k]? = some (Arg.o c ys) → j = k
  non : (∀ (j : Nat) (b : Bool) (xs : List D), args[j]? ≠ some (Arg.o b xs)) → J = emp
abbrev Back := Option (Option (Nat × Bool))
def prep (env : Env) : List Bool → List Tok → Option (List Arg × Back × Env)
  | [], [] => some ([], none, env)
  | m :: ms, t :: ts => match prep env ms ts with
    | none => none
    | some (args, w, e1) => match m with
      | false => match take e1 t with
        | none => none
        | some (b, d, e2) => some (.v b d :: args, w, e2)
      | true => match w with
        | some _ => none
        | none => match t with
          | .nw b xs => some (.o b xs :: args, some none, e1)
          | .sl i => match e1[i]? with
            | some (.own p b xs) => some (.o b xs :: args, some (some (i, p)), e1.set i .un)
            | _ => none
          | _ => none
  | _, _ => none
def BackOk (B : Hp) (pn : Nat → Option Addr) (env : Env) (σ : L2.St) (J : Hp) : Back → Prop
  | none => J = emp
  | some none => True
  | some (some (i, p)) => env[i]? = some .un ∧ ∃ l ws, J = sgl l (.lst ws) ∧ σ[i]? = some (some (.ref l)) ∧ (if p then pn i = some l else B l = none)
section
variable {B : Hp} {pn : Nat → Option Addr} {env : Env} {σ : L2.St} {F N G : Hp} {Rg : Nat → Hp} {H R : Hp}
theorem cons_get {α : Type} {a : α} {l : List α} {j : Nat} {x : α} (h : (a :: l)[j]? = some x) : (j = 0 ∧ a = x) ∨ ∃ k, j = k + 1 ∧ l[k]? = some x := by
  cases j with
  | zero => exact .inl ⟨rfl, by simpa using h⟩
  | succ k => exact .inr ⟨k, rfl, by simpa using h⟩
theorem PArgs.mono {F N F' N' J : Hp} {args : List Arg} {vs : List V} (hF : Same F F') (hN : Same N N') (h : PArgs F N J args vs) : PArgs F' N' J args vs where
  len := h.len
  pv := fun j b d e => let ⟨v, e1, r⟩ := h.pv j b d e; ⟨v, e1, r.mono (bsel_mono hN hF)⟩
  po := fun j b xs e => let ⟨l, ws, e1, e2, r⟩ := h.po j b xs e; ⟨l, ws, e1, e2, r.mono (bsel_mono hN hF)⟩
  one := h.one
  non := h.non
theorem PArgs.consV {F N J : Hp} {args : List Arg} {vs : List V} {v : V} {b : Bool} {d : D} (h : PArgs F N J args vs) (r : Rp (bsel b N F) v d) : PArgs F N J (.v b d :: args) (v :: vs) where
  len := by rw [List.length_cons, List.length_cons, h.len]
  pv := fun j b' d' e => by
    rcases cons_get e with ⟨rfl, e⟩ | ⟨k, rfl, e⟩
    · cases e; exact ⟨v, rfl, r⟩
    · simpa using h.pv k b' d' e
  po := fun j b' xs e => by
    rcases cons_get e with ⟨rfl, e⟩ | ⟨k, rfl, e⟩
    · cases e
    · simpa using h.po k b' xs e
  one := fun j k b xs c ys e1 e2 => by
    rcases cons_get e1 with ⟨rfl, e⟩ | ⟨j', rfl, e1⟩
    · cases e
    · rcases cons_get e2 with ⟨rfl, e⟩ | ⟨k', rfl, e2⟩
      · cases e
      · rw [h.one _ _ _ _ _ _ e1 e2]
  non := fun q => h.non fun j b xs e => q (j + 1) b xs (by simpa using e)
theorem PArgs.consO {F N : Hp} {args : List Arg} {vs : List V} {l : Addr} {ws : List V} {b : Bool} {xs : List D} (h : PArgs F N emp args vs) (no : ∀ (j : Nat) (b : Bool) (xs : List D), args[j]? ≠ some (Arg.o b xs)) (r : RpA (bsel b N F) ws xs) :
    PArgs F N (sgl l (.lst ws)) (.o b xs :: args) (.ref l :: vs) where
  len := by rw [List.length_cons, List.length_cons, h.len]
  pv := fun j b' d' e => by
    rcases cons_get e with ⟨rfl, e⟩ | ⟨k, rfl, e⟩
    · cases e
    · simpa using h.pv k b' d' e
  po := fun j b' xs e => by
    rcases cons_get e with ⟨rfl, e⟩ | ⟨k, rfl, e⟩
    · cases e; exact ⟨l, ws, rfl, rfl, r⟩
    · exact absurd e (no k b' xs)
  one := fun j k b xs c ys e1 e2 => by
    rcases cons_get e1 with ⟨rfl, e⟩ | ⟨j', rfl, e1⟩
    · rcases cons_get e2 with ⟨rfl, e⟩ | ⟨k', rfl, e2⟩
      · rfl
      · exact absurd e2 (no _ _ _)
    · exact absurd e1 (no _ _ _)
  non := fun q => absurd rfl (q 0 b xs)
theorem prep_ok : ∀ {ms : List Bool} {ts : List Tok} {vs : List V} {args : List Arg} {w : Back} {e' : Env} {G : Hp}, Ok B pn env σ F N G Rg H → ToksOk B σ F N Rg H G ts vs → prep env ms ts = some (args, w, e') →
    ∃ F' N' Rg' J, Ok B pn e' σ F' N' G Rg' H ∧ Same F F' ∧ Same N N' ∧ Apart F' G Rg' H J ∧ PArgs F' N' J args vs ∧ BackOk B pn e' σ J w ∧ (w = none → ∀ (j : Nat) (b : Bool) (xs : List D), args[j]? ≠ some (Arg.o b xs))
  | [], [], vs, args, w, e', G, I, T, h => by
    cases h
    have e : vs = [] := T
    subst e
    exact ⟨F, N, Rg, emp, I, Same.refl _, Same.refl _, .none, ⟨rfl, fun _ _ _ e => by simp at e, fun _ _ _ e => by simp at e, fun _ _ _ _ _ _ e => by simp at e, fun _ => rfl⟩, rfl, fun _ _ _ _ e => by simp at e⟩
  | [], _ :: _, _, _, _, _, _, _, _, h => by cases h
  | _ :: _, [], _, _, _, _, _, _, _, h => by cases h
  | m :: ms, t :: ts, vs, args, w, e', G, I, T, h => by
    obtain ⟨v, r, R, rfl, t1, a1, tr⟩ := T
    simp only [prep] at h
    cases e1 : prep env ms ts with
    | none => rw [e1] at h; cases h
    | some q =>
      obtain ⟨args', w', en⟩ := q
      rw [e1] at h
      simp only at h
      obtain ⟨F1, N1, Rg1, J, I1, hF1, hN1, AJ, P1, BK, NO⟩ := prep_ok (I.res a1) tr e1
      have A1 : Apart F1 G Rg1 H R := .back I1 a1.dG
      have I1' := I1.unres (jn_left a1.dG)
      have dRJ : dj R J := fun a o e => by
        cases q : R a with
        | none => rfl
        | some u =>
          have z := AJ.dG a o e
          rw [jn_right _ _ q] at z
          cases z
      have dGJ : dj G J := fun a o e => (jn_none (AJ.dG a o e)).2
      cases m with
      | false =>
        simp only at h
        cases e2 : take en t with
        | none => rw [e2] at h; cases h
        | some q =>
          obtain ⟨b, d, en2⟩ := q
          rw [e2] at h
          cases h
          -- J is kept back while t is taken
          have AJ' : Apart F1 G Rg1 H J := ⟨AJ.sR, AJ.dF, dGJ, AJ.dR⟩
          have AR : Apart F1 (jn G J) Rg1 H R := ⟨A1.sR, A1.dF, fun a o e => jn_none_of (dj_comm dRJ a o e) (A1.dG a o e), A1.dR⟩
          obtain ⟨F2, N2, Rg2, I2, hF2, hN2, r2⟩ := take_ok (I1'.res AJ') (t1.mono hF1 hN1) AR e2
          refine ⟨F2, N2, Rg2, J, I2.unres (jn_left dGJ), hF1.trans hF2, hN1.trans hN2, .back I2 dGJ, (P1.mono hF2 hN2).consV r2, ?_, fun hw j b' xs e => ?_⟩
          · -- the slot that waits is still so
            cases w with
            | none => exact BK
            | some q =>
              cases q with
              | none => trivial
              | some q =>
                obtain ⟨i, p⟩ := q
                obtain ⟨b1, l, ws, b2, b3, b4⟩ := BK
                refine ⟨?_, l, ws, b2, b3, b4⟩
                cases t with
                | fz b0 d0 => cases e2; exact b1
                | nw b0 xs => cases e2; exact b1
                | ex d0 => cases e2; exact b1
                | sl j =>
                  simp only [take] at e2
                  cases ej : en[j]? with
                  | none => rw [ej] at e2; cases e2
                  | some s =>
                    rw [ej] at e2
                    have hij : s ≠ .un → j ≠ i := fun z q => by subst q; rw [b1] at ej; cases ej; exact z rfl
                    cases s with
                    | un => cases e2
                    | kn _ _ => cases e2
                    | ob _ _ => cases e2
                    | lent => cases e2
                    | fro b0 d0 => cases e2; exact b1
                    | own p0 b0 xs =>
                      cases p0 with
                      | true => cases e2
                      | false =>
                        cases e2
                        rw [List.getElem?_set_ne (hij (by intro z; cases z))]
                        exact b1
                    | ex d0 =>
                      cases e2
                      rw [List.getElem?_set_ne (hij (by intro z; cases z))]
                      exact b1
          · rcases cons_get e with ⟨rfl, e⟩ | ⟨k, rfl, e⟩
            · cases e
            · exact NO hw k b' xs e
      | true =>
        simp only at h
        cases w' with
        | some q => cases h
        | none =>
          simp only at h
          have eJ : J = emp := BK
          subst eJ
          cases t with
          | fz b0 d0 => cases h
          | ex d0 => cases h
          | nw b0 xs =>
            cases h
            obtain ⟨l, ws, rfl, rfl, rw', q⟩ := t1.mono hF1 hN1
            exact ⟨F1, N1, Rg1, _, I1', hF1, hN1, A1, P1.consO (NO rfl) rw', trivial, fun z => by cases z⟩
          | sl i =>
            simp only at h
            cases ei : en[i]? with
            | none => rw [ei] at h; cases h
            | some s =>
              rw [ei] at h
              cases s with
              | un => cases h
              | kn _ _ => cases h
              | ob _ _ => cases h
              | lent => cases h
              | fro _ _ => cases h
              | ex _ => cases h
              | own p b0 xs =>
                cases h
                obtain ⟨l, ws, e3, e4, rw', q⟩ := I1'.sl i _ ei
                have hv := t1.2
                rw [e3] at hv
                cases hv
                have hi := Ok.slotLt ei
                have O := I1'.off hi
                have OA := I1'.offApart (i := i)
                rw [e4] at OA
                exact ⟨F1, N1, _, _, O, hF1, hN1, OA, P1.consO (NO rfl) rw', ⟨by rw [List.getElem?_set_self hi], l, ws, rfl, e3, q⟩, fun z => by cases z⟩
end
end DL
namespace DL
open PySem PySem.Spec PyProof.Rows L2
def getOut : List (Option (Bool × List D)) → Option (Bool × List D)
  | [] => none
  | some q :: _ => some q
  | none :: r => getOut r
def finish (env : Env) : Back → List (Option (Bool × List D)) → Option Env
  | none, _ => some env
  | some none, _ => some env
  | some (some (i, p)), outs => match getOut outs with
    | none => none
    | some (b, xs) => some (env.set i (.own p b xs))
def opCall (mask : List Bool) (fn : Fn) : List Tok → Env → ER := fun ts env => match prep env mask ts with
  | none => .bad
  | some (args, w, e1) => match fn args with
    | .ok t outs => match noSl t with
      | false => .bad
      | true => match finish e1 w outs with
        | none => .bad
        | some e2 => .ok t e2
    | .exc c => match w with
      | none => .exc c e1
      | some _ => .bad
    | .bad => .bad
theorem getOut_at : ∀ {outs : List (Option (Bool × List D))} {q : Bool × List D}, getOut outs = some q → ∃ j : Nat, outs[j]? = some (some q)
  | [], _, h => by cases h
  | some p :: _, q, h => ⟨0, by simpa [getOut] using h⟩
  | none :: r, q, h => by
    obtain ⟨j, e⟩ := getOut_at (outs := r) h
    exact ⟨j + 1, by simpa using e⟩
def isO : Option Arg → Bool
  | some (.o _ _) => true
  | _ => false
def cRg (args : List Arg) (J : Hp) : Nat → Hp := fun j => if isO args[j]? = true then J else emp
def cPn (args : List Arg) (l : Addr) : Nat → Option Addr := fun j => if isO args[j]? = true then some l else none
def cG (F J H : Hp) : Hp := fun a => match F a with
  | some _ => none
  | none => match J a with
    | some _ => none
    | none => H a
theorem isO_some {o : Option Arg} (h : isO o = true) : ∃ b xs, o = some (.o b xs) := by
  unfold isO at h
  split at h
  · exact ⟨_, _, rfl⟩
  · cases h
theorem cG_some {F J H : Hp} {a : Addr} {o : HO} (h : cG F J H a = some o) : F a = none ∧ J a = none ∧ H a = some o := by
  unfold cG at h
  split at h
  · cases h
  · split at h
    · cases h
    · exact ⟨by assumption, by assumption, h⟩
theorem cG_of {F J H : Hp} {a : Addr} {o : HO} (h1 : F a = none) (h2 : J a = none) (h3 : H a = some o) : cG F J H a = some o := by
  unfold cG
  rw [h1, h2]
  exact h3
theorem cG_noneJ {F J H : Hp} {a : Addr} {o : HO} (h : J a = some o) : cG F J H a = none := by
  unfold cG
  split
  · rfl
  · rw [h]
section
variable {B : Hp} {pn : Nat → Option Addr} {env : Env} {σ : L2.St} {F N G : Hp} {Rg : Nat → Hp} {H R J : Hp}
theorem entry_of {Bc Nc : Hp} {args : List Arg} {vs : List V} (sF : Same F H) (sN : Same Nc F) (nB : dj Bc Nc) (nZ : nofz Nc) (hB : ∀ a, H a = none → Bc a = none) (AJ1 : Same J H) (AJ2 : dj F J) (P : PArgs F Nc J args vs) :
    ∃ l0, Entry Bc (cPn args l0) args vs F Nc (cG F J H) (cRg args J) H ∧ (J = emp ∨ ∃ ws, J = sgl l0 (.lst ws)) := by
  have key : ∃ l0, (J = emp ∨ ∃ ws, J = sgl l0 (.lst ws)) ∧ ∀ (j : Nat) (b : Bool) (xs : List D), args[j]? = some (Arg.o b xs) → vs[j]? = some (V.ref l0) ∧ ∃ ws, J = sgl l0 (.lst ws) ∧ RpA (bsel b Nc F) ws xs := by
    by_cases h : ∃ (j : Nat) (b : Bool) (xs : List D), args[j]? = some (Arg.o b xs)
    · obtain ⟨j, b, xs, e⟩ := h
      obtain ⟨l, ws, e1, e2, r⟩ := P.po j b xs e
      refine ⟨l, .inr ⟨ws, e2⟩, fun k c ys e' => ?_⟩
      obtain rfl := P.one _ _ _ _ _ _ e e'
      rw [e] at e'
      cases e'
      exact ⟨e1, ws, e2, r⟩
    · exact ⟨0, .inl (P.non fun j b xs e => h ⟨j, b, xs, e⟩), fun j b xs e => absurd ⟨j, b, xs, e⟩ h⟩
  obtain ⟨l0, hJ, ko⟩ := key
  refine ⟨l0, ⟨⟨?_, sF, sN, ?_, ?_, nB, nZ, hB, ?_, ?_, ?_, ?_, ?_, ?_⟩, ?_⟩, hJ⟩
  · unfold argEnv
    rw [List.length_map, List.length_map, P.len]
  · exact fun a o e => (cG_some e).2.2
  · exact fun a o e => (cG_some e).1
  · intro i s e
    unfold argEnv at e
    rw [List.getElem?_map] at e
    cases ea : args[i]? with
    | none => rw [ea] at e; cases e
    | some a =>
      rw [ea] at e
      cases e
      cases a with
      | v b d =>
        obtain ⟨v, e1, r⟩ := P.pv i b d ea
        refine ⟨?_, v, ?_, r⟩
        · unfold cRg
          rw [ea]
          exact if_neg (by simp [isO])
        · rw [List.getElem?_map, e1]
          rfl
      | o b xs =>
        obtain ⟨e1, ws, e2, r⟩ := ko i b xs ea
        refine ⟨l0, ws, ?_, ?_, r, ?_⟩
        · rw [List.getElem?_map, e1]
          rfl
        · unfold cRg
          rw [ea, if_pos (show isO (some (Arg.o b xs)) = true from rfl), e2]
        · show (if true = true then cPn args l0 i = some l0 else _)
          rw [if_pos rfl]
          unfold cPn
          rw [ea]
          rfl
  · intro i
    unfold cRg
    split
    · exact AJ1
    · exact emp_same _
  · intro i
    unfold cRg
    split
    · exact AJ2
    · exact dj_emp _
  · intro i
    unfold cRg
    split
    · exact fun a o e => cG_noneJ e
    · exact dj_emp _
  · intro i j hij
    unfold cRg
    by_cases h1 : isO args[i]? = true
    · by_cases h2 : isO args[j]? = true
      · obtain ⟨b, xs, e1⟩ := isO_some h1
        obtain ⟨c, ys, e2⟩ := isO_some h2
        exact absurd (P.one _ _ _ _ _ _ e1 e2) hij
      · rw [if_neg h2]
        exact dj_emp _
    · rw [if_neg h1]
      exact emp_dj _
  · intro i hi
    unfold argEnv at hi
    rw [List.length_map] at hi
    unfold cRg
    rw [List.getElem?_eq_none hi]
    exact if_neg (by simp [isO])
  · intro a o e
    cases q : F a with
    | some u =>
      have := sF _ _ q
      rw [e] at this
      cases this
      exact .inl rfl
    | none =>
      cases q2 : J a with
      | some u =>
        have := AJ1 _ _ q2
        rw [e] at this
        cases this
        refine .inr (.inr ?_)
        by_cases h : ∃ (j : Nat) (b : Bool) (xs : List D), args[j]? = some (Arg.o b xs)
        · obtain ⟨j, b, xs, ej⟩ := h
          refine ⟨j, ?_⟩
          unfold cRg
          rw [ej, if_pos (show isO (some (Arg.o b xs)) = true from rfl)]
          exact q2
        · have := P.non fun j b xs e => h ⟨j, b, xs, e⟩
          subst this
          cases q2
      | none => exact .inr (.inl (cG_of q q2 e))

theorem after_call {e' : Env} {F1 N1 F2 N2 : Hp} {Rg1 : Nat → Hp} {H2 : Hp} (I1 : Ok B pn e' σ F1 N1 G Rg1 H) (AJ : Apart F1 G Rg1 H J) (s2F : Same F2 H2) (s2N : Same N2 F2) (nB : dj B N2) (nZ : nofz N2) (hB : ∀ a, H2 a = none → B a = none) (hF : Same F1 F2) (hN : Same N1 N2)
    (sG : Same (cG F1 J H) H2) (dG : dj F2 (cG F1 J H)) : Ok B pn e' σ F2 N2 G Rg1 H2 where
  len := I1.len
  sF := s2F
  sN := s2N
  sG := fun a o e => sG _ _ (cG_of (I1.dG a o e) (dj_comm AJ.dG |> fun d => by
    cases q : J a with
    | none => rfl
    | some u => rw [AJ.dG a u q] at e; cases e) (I1.sG _ _ e))
  dG := fun a o e => dG a o (cG_of (I1.dG a o e) (by
    cases q : J a with
    | none => rfl
    | some u => rw [AJ.dG a u q] at e; cases e) (I1.sG _ _ e))
  nB := nB
  nZ := nZ
  hB := hB
  sl := fun i s e => (I1.sl i s e).mono hF hN
  sR := fun i a o e => sG _ _ (cG_of (I1.dF i a o e) (by
    cases q : J a with
    | none => rfl
    | some u => rw [AJ.dR i a u q] at e; cases e) (I1.sR i _ _ e))
  dF := fun i a o e => dG a o (cG_of (I1.dF i a o e) (by
    cases q : J a with
    | none => rfl
    | some u => rw [AJ.dR i a u q] at e; cases e) (I1.sR i _ _ e))
  dRG := I1.dRG
  dR := I1.dR
  out := I1.out
theorem after_apart {e' : Env} {F1 N1 F2 : Hp} {Rg1 : Nat → Hp} {H2 : Hp} (I1 : Ok B pn e' σ F1 N1 G Rg1 H) (AJ : Apart F1 G Rg1 H J) {R : Hp} (sR : Same R H2) (dF : dj F2 R) (dG : dj (cG F1 J H) R) : Apart F2 G Rg1 H2 R where
  sR := sR
  dF := dF
  dG := fun a o e => by
    cases q : G a with
    | none => rfl
    | some u =>
      have z := cG_of (H := H) (I1.dG a u q) (show J a = none by
        cases q2 : J a with
        | none => rfl
        | some u2 => rw [AJ.dG a u2 q2] at q; cases q) (I1.sG _ _ q)
      rw [dG a o e] at z
      cases z
  dR := fun i a o e => by
    cases q : Rg1 i a with
    | none => rfl
    | some u =>
      have z := cG_of (H := H) (I1.dF i a u q) (show J a = none by
        cases q2 : J a with
        | none => rfl
        | some u2 => rw [AJ.dR i a u2 q2] at q; cases q) (I1.sR i _ _ q)
      rw [dG a o e] at z
      cases z
theorem TokOk.noSl {σ' : L2.St} {t : Tok} {v : V} (n : noSl t = true) (h : TokOk B σ F N R t v) : TokOk B σ' F N R t v := by
  cases t with
  | sl i => cases n
  | fz b d => exact h
  | nw b xs => exact h
  | ex d => exact h
theorem outEnv_own {outs : List (Option (Bool × List D))} {j : Nat} {b : Bool} {xs : List D} (h : outs[j]? = some (some (b, xs))) : (outEnv outs)[j]? = some (.own true b xs) := by
  unfold outEnv
  rw [List.getElem?_map, h]
  rfl
theorem ap_call {W : L2.WX} {cm : String → Addr} {mask : List Bool} {fn : Fn} : ApR W cm (opCall mask fn) (fun σ vs H Q => spD cm fn vs H Q (WE W σ)) := by
  intro B pn env σ F N G Rg H ts vs Q I T h
  unfold opCall at h
  cases e1 : prep env mask ts with
  | none => rw [e1] at h; exact h.elim
  | some q =>
    obtain ⟨args, w, en⟩ := q
    rw [e1] at h
    simp only at h
    obtain ⟨F1, N1, Rg1, J, I1, hF1, hN1, AJ, P1, BK, NO⟩ := prep_ok I T e1
    obtain ⟨l0, En, hJ⟩ := entry_of (Bc := B) I1.sF I1.sN I1.nB I1.nZ I1.hB AJ.sR AJ.dF P1
    refine ⟨B, _, F1, N1, _, _, args, En, ?_⟩
    cases e2 : fn args with
    | bad => rw [e2] at h; exact h
    | exc c =>
      rw [e2] at h
      simp only at h ⊢
      cases w with
      | some q => exact h.elim
      | none =>
        intro F2 N2 Rg2 H2 I2 hF2 hN2
        exact h F2 N2 Rg1 H2 (after_call I1 AJ I2.sF I2.sN I2.nB I2.nZ I2.hB hF2 hN2 I2.sG I2.dG) (hF1.trans hF2) (hN1.trans hN2)
    | ok t outs =>
      rw [e2] at h
      simp only at h ⊢
      cases nt : noSl t with
      | false => rw [nt] at h; exact h.elim
      | true =>
      rw [nt] at h
      simp only at h
      cases e3 : finish en w outs with
      | none => rw [e3] at h; exact h.elim
      | some e4 =>
        rw [e3] at h
        refine ⟨rfl, fun v F2 N2 Rg2 H2 R I2 hF2 hN2 TR AR dHR => ?_⟩
        · have I3 := after_call I1 AJ I2.sF I2.sN I2.nB I2.nZ I2.hB hF2 hN2 I2.sG I2.dG
          have A3 : Apart F2 G Rg1 H2 R := after_apart I1 AJ AR.sR AR.dF AR.dG
          cases w with
          | none =>
            cases e3
            exact h v F2 N2 Rg1 H2 R I3 (hF1.trans hF2) (hN1.trans hN2) (TR.noSl nt) A3
          | some w =>
            cases w with
            | none =>
              cases e3
              exact h v F2 N2 Rg1 H2 R I3 (hF1.trans hF2) (hN1.trans hN2) (TR.noSl nt) A3
            | some w =>
              obtain ⟨i, p⟩ := w
              simp only [finish] at e3
              cases e5 : getOut outs with
              | none => rw [e5] at e3; cases e3
              | some q =>
                obtain ⟨b, xs⟩ := q
                rw [e5] at e3
                cases e3
                obtain ⟨k, ek⟩ := getOut_at e5
                obtain ⟨bi, l, ws, ej, ev, eb⟩ := BK
                subst ej
                have el : l0 = l := by
                  rcases hJ with z | ⟨ws', z⟩
                  · have z := congrFun z l
                    rw [sgl_same] at z
                    cases z
                  · have z := congrFun z l
                    rw [sgl_same] at z
                    exact (sgl_some z.symm).1.symm
                subst el
                obtain ⟨l', ws', f1, f2, r2, f3⟩ := I2.sl k _ (outEnv_own ek)
                have el' : l' = l0 := by
                  rw [if_pos rfl] at f3
                  unfold cPn at f3
                  split at f3
                  · exact (Option.some.inj f3).symm
                  · cases f3
                subst el'
                have hi := Ok.slotLt bi
                have sR2 := I2.sR k
                have dF2 := I2.dF k
                have dR2 := AR.dR k
                rw [f2] at sR2 dF2 dR2
                have I4 := I3.put (σ' := σ) (i := i) (s := .own p b xs) (R := sgl l' (.lst ws')) hi ⟨l', ws', ev, rfl, r2, eb⟩ sR2 dF2 (dj_sgl (AJ.dG _ _ sgl_same)) (fun j _ => dj_sgl (AJ.dR j _ _ sgl_same)) (fun _ _ => rfl) rfl
                refine h v F2 N2 _ H2 R I4 (hF1.trans hF2) (hN1.trans hN2) (TR.noSl nt) ⟨A3.sR, A3.dF, A3.dG, fun j => ?_⟩
                by_cases hj : j = i
                · subst hj
                  rw [setR_same]
                  exact dR2
                · rw [setR_ne hj]
                  exact A3.dR j
end
end DL
namespace DL
open PySem PySem.Spec PyProof.Rows L2
def detach (env : Env) : List Bool → List Tok → Option (Option (Bool × List D) × Back × Env)
  | [], [] => some (none, none, env)
  | m :: ms, t :: ts => match detach env ms ts with
    | none => none
    | some (q, w, e1) => match m with
      | false => some (q, w, e1)
      | true => match w with
        | some _ => none
        | none => match t with
          | .nw b xs => some (some (b, xs), some none, e1)
          | .sl i => match e1[i]? with
            | some (.own p b xs) => some (some (b, xs), some (some (i, p)), e1.set i .un)
            | _ => none
          | _ => none
  | _, _ => none
def argsX (env : Env) (q : Option (Bool × List D)) : List Bool → List Tok → Option (List Arg)
  | [], [] => some []
  | m :: ms, t :: ts => match argsX env q ms ts with
    | none => none
    | some args => match m with
      | false => match rd env t with
        | none => none
        | some d => some (.v false d :: args)
      | true => match q with
        | none => none
        | some (b, xs) => match b || xs.all scal with
          | false => none
          | true => match xs.all scal with
            | false => none
            | true => some (.o true xs :: args)
  | _, _ => none
def unX : Tok → Option Tok
  | .fz b d => match scal d with
    | true => some (.fz true d)
    | false => match b with
      | true => some (.ex d)
      | false => none
  | .nw b xs => match xs.all scal with
    | true => some (.nw true xs)
    | false => match b with
      | true => some (.nw true xs)
      | false => none
  | .ex d => some (.ex d)
  | .sl _ => none
def finishX (env : Env) : Back → List (Option (Bool × List D)) → Option Env
  | none, _ => some env
  | some none, _ => some env
  | some (some (i, p)), outs => match getOut outs with
    | none => none
    | some (_, xs) => match xs.all scal with
      | false => none
      | true => some (env.set i (.own p true xs))
def opCallX (mask : List Bool) (fn : Fn) : List Tok → Env → ER := fun ts env => match detach env mask ts with
  | none => .bad
  | some (q, w, e1) => match argsX e1 q mask ts with
    | none => .bad
    | some args => match fn args with
      | .ok t outs => match unX t with
        | none => .bad
        | some t' => match finishX e1 w outs with
          | none => .bad
          | some e2 => .ok t' e2
      | .exc c => match w with
        | none => .exc c e1
        | some _ => .bad
      | .bad => .bad
def TX (B : Hp) (σ : L2.St) (F N H J : Hp) (q : Option (Bool × List D)) : List Bool → List Tok → List V → Prop
  | [], [], vs => vs = []
  | m :: ms, t :: ts, vs => ∃ v r, vs = v :: r ∧ TX B σ F N H J q ms ts r ∧ (match m with
    | false => ∃ R, TokOk B σ F N R t v ∧ Same R H ∧ dj J R
    | true => ∃ b xs l ws, q = some (b, xs) ∧ v = .ref l ∧ J = sgl l (.lst ws) ∧ RpA (bsel b N F) ws xs)
  | _, _, _ => False
section
variable {B : Hp} {pn : Nat → Option Addr} {env : Env} {σ : L2.St} {F N G : Hp} {Rg : Nat → Hp} {H R J : Hp}
theorem toksX {q : Option (Bool × List D)} : ∀ {ms : List Bool} {ts : List Tok} {vs : List V} {G : Hp}, ToksOk B σ F N Rg H G ts vs → ms.all (fun b => !b) = true → ms.length = ts.length → (∀ a o, J a = some o → (∃ u, G a = some u) ∨ ∃ i u, Rg i a = some u) → TX B σ F N H J q ms ts vs
  | [], [], vs, G, T, _, _, _ => T
  | [], _ :: _, _, _, _, _, h, _ => by cases h
  | _ :: _, [], _, _, _, _, h, _ => by cases h
  | m :: ms, t :: ts, vs, G, T, h1, h2, h3 => by
    obtain ⟨v, r, R, rfl, t1, a1, tr⟩ := T
    simp only [List.all_cons, Bool.and_eq_true] at h1
    refine ⟨v, r, rfl, toksX tr h1.2 (by simpa using h2) fun a o e => ?_, ?_⟩
    · rcases h3 a o e with ⟨u, z⟩ | z
      · exact .inl ⟨u, jn_left a1.dG _ _ z⟩
      · exact .inr z
    · cases m with
      | true => cases h1.1
      | false =>
        refine ⟨R, t1, a1.sR, fun a o e => ?_⟩
        cases q : J a with
        | none => rfl
        | some u =>
          rcases h3 a u q with ⟨w, z⟩ | ⟨i, w, z⟩
          · rw [a1.dG a o e] at z; cases z
          · rw [a1.dR i a o e] at z; cases z
theorem detach_len : ∀ {ms : List Bool} {ts : List Tok} {q : Option (Bool × List D)} {w : Back} {e' : Env}, detach env ms ts = some (q, w, e') → ms.length = ts.length
  | [], [], _, _, _, _ => rfl
  | [], _ :: _, _, _, _, h => by cases h
  | _ :: _, [], _, _, _, h => by cases h
  | m :: ms, t :: ts, q, w, e', h => by
    simp only [detach] at h
    cases e1 : detach env ms ts with
    | none => rw [e1] at h; cases h
    | some z =>
      obtain ⟨q', w', en⟩ := z
      rw [List.length_cons, List.length_cons, detach_len e1]
theorem detach_none : ∀ {ms : List Bool} {ts : List Tok} {q : Option (Bool × List D)} {e' : Env}, detach env ms ts = some (q, none, e') → ms.all (fun b => !b) = true ∧ e' = env ∧ q = none
  | [], [], _, _, h => by cases h; exact ⟨rfl, rfl, rfl⟩
  | [], _ :: _, _, _, h => by cases h
  | _ :: _, [], _, _, h => by cases h
  | m :: ms, t :: ts, q, e', h => by
    simp only [detach] at h
    cases e1 : detach env ms ts with
    | none => rw [e1] at h; cases h
    | some z =>
      obtain ⟨q', w', en⟩ := z
      rw [e1] at h
      cases m with
      | false =>
        cases h
        obtain ⟨h1, h2, h3⟩ := detach_none e1
        exact ⟨by simp [h1], h2, h3⟩
      | true =>
        simp only at h
        cases w' with
        | some _ => cases h
        | none =>
          simp only at h
          cases t with
          | fz _ _ => cases h
          | ex _ => cases h
          | nw _ _ => cases h
          | sl i =>
            simp only at h
            cases ei : en[i]? with
            | none => rw [ei] at h; cases h
            | some s => rw [ei] at h; cases s <;> cases h
theorem detach_ok : ∀ {ms : List Bool} {ts : List Tok} {vs : List V} {q : Option (Bool × List D)} {w : Back} {e' : Env} {G : Hp}, Ok B pn env σ F N G Rg H → ToksOk B σ F N Rg H G ts vs → detach env ms ts = some (q, w, e') →
    ∃ Rg' J, Ok B pn e' σ F N G Rg' H ∧ Apart F G Rg' H J ∧ BackOk B pn e' σ J w ∧ TX B σ F N H J q ms ts vs ∧ (J = emp ∨ ∃ l ws, J = sgl l (.lst ws)) ∧ (w = none → J = emp)
  | [], [], vs, q, w, e', G, I, T, h => by
    cases h
    exact ⟨Rg, emp, I, .none, rfl, T, .inl rfl, fun _ => rfl⟩
  | [], _ :: _, _, _, _, _, _, _, _, h => by cases h
  | _ :: _, [], _, _, _, _, _, _, _, h => by cases h
  | m :: ms, t :: ts, vs, q, w, e', G, I, T, h => by
    obtain ⟨v, r, R, rfl, t1, a1, tr⟩ := T
    simp only [detach] at h
    cases e1 : detach env ms ts with
    | none => rw [e1] at h; cases h
    | some z =>
      obtain ⟨q', w', en⟩ := z
      rw [e1] at h
      cases m with
      | false =>
        cases h
        obtain ⟨Rg1, J, I1, AJ, BK, TX1, sJ, wJ⟩ := detach_ok (I.res a1) tr e1
        have dRJ : dj R J := fun a o e => by
          cases q : R a with
          | none => rfl
          | some u =>
            have z := AJ.dG a o e
            rw [jn_right _ _ q] at z
            cases z
        exact ⟨Rg1, J, I1.unres (jn_left a1.dG), ⟨AJ.sR, AJ.dF, fun a o e => (jn_none (AJ.dG a o e)).2, AJ.dR⟩, BK, ⟨v, r, rfl, TX1, R, t1, a1.sR, dj_comm dRJ⟩, sJ, wJ⟩
      | true =>
        simp only at h
        cases w' with
        | some _ => cases h
        | none =>
          simp only at h
          obtain ⟨hm, rfl, rfl⟩ := detach_none e1
          have hl := detach_len e1
          cases t with
          | fz _ _ => cases h
          | ex _ => cases h
          | nw b xs =>
            cases h
            have t1' := t1
            obtain ⟨l, ws, rfl, rfl, rw', hb⟩ := t1'
            refine ⟨Rg, _, I, a1, trivial, ⟨_, r, rfl, toksX tr hm hl fun a o e => .inl ⟨o, jn_right _ _ e⟩, b, xs, l, ws, rfl, rfl, rfl, rw'⟩, .inr ⟨l, ws, rfl⟩, fun z => by cases z⟩
          | sl i =>
            simp only at h
            cases ei : en[i]? with
            | none => rw [ei] at h; cases h
            | some s =>
              rw [ei] at h
              cases s with
              | un => cases h
              | kn _ _ => cases h
              | ob _ _ => cases h
              | lent => cases h
              | fro _ _ => cases h
              | ex _ => cases h
              | own p b xs =>
                cases h
                obtain ⟨l, ws, e3, e4, rw', hb⟩ := I.sl i _ ei
                have hv := t1.2
                rw [e3] at hv
                cases hv
                have hi := Ok.slotLt ei
                have O := I.off hi
                have OA := I.offApart (i := i)
                rw [e4] at OA
                refine ⟨_, _, O, OA, ⟨by rw [List.getElem?_set_self hi], l, ws, rfl, e3, hb⟩, ⟨_, r, rfl, toksX tr hm hl fun a o e => .inr ⟨i, o, by rw [e4]; exact e⟩, b, xs, l, ws, rfl, rfl, rfl, rw'⟩, .inr ⟨l, ws, rfl⟩, fun z => by cases z⟩
def cut (H J : Hp) : Hp := fun a => match J a with
  | some _ => none
  | none => H a
theorem cut_some {H J : Hp} {a : Addr} {o : HO} (h : cut H J a = some o) : J a = none ∧ H a = some o := by
  unfold cut at h
  split at h
  · cases h
  · exact ⟨by assumption, h⟩
theorem cut_of {H J : Hp} {a : Addr} {o : HO} (h1 : J a = none) (h2 : H a = some o) : cut H J a = some o := by
  unfold cut
  rw [h1]
  exact h2
theorem cut_sub {R : Hp} (s : Same R H) (d : dj J R) : Same R (cut H J) := fun a o e => cut_of (d a o e) (s _ _ e)
theorem rdX {t : Tok} {v : V} {d : D} (I : Ok B pn env σ F N G Rg H) (T : TokOk B σ F N R t v) (sR : Same R H) (dR : dj J R) (AJ : Apart F G Rg H J) (h : rd env t = some d) : Rp (cut H J) v d := by
  have hF : Same F (cut H J) := cut_sub I.sF (dj_comm AJ.dF)
  have hb : ∀ b, Same (bsel b N F) (cut H J) := fun b => (bsel_sub I.sN).trans hF
  have hRg : ∀ i, Same (Rg i) (cut H J) := fun i => cut_sub (I.sR i) (dj_comm (AJ.dR i))
  have hR : Same R (cut H J) := cut_sub sR dR
  cases t with
  | fz b0 d0 => cases h; exact T.2.mono (hb _)
  | nw b0 xs =>
    cases h
    obtain ⟨l, vs, rfl, rfl, r, q⟩ := T
    exact .lst (.inl (hR _ _ sgl_same)) (r.mono (hb _))
  | ex d0 => cases h; exact T.1.mono hR
  | sl i =>
    obtain ⟨_, hv⟩ := T
    simp only [rd] at h
    cases e : env[i]? with
    | none => rw [e] at h; cases h
    | some s =>
      rw [e] at h
      have S := I.sl i s e
      cases s with
      | un => cases h
      | kn _ _ => cases h
      | ob p o =>
        obtain ⟨w, e1, r, q⟩ := S
        rw [hv] at e1
        cases e1
        exact (r.rp h).mono (hRg i)
      | lent => cases h
      | fro b0 d0 =>
        cases h
        obtain ⟨_, w, e1, r⟩ := S
        rw [hv] at e1
        cases e1
        exact r.mono (hb _)
      | own p b0 xs =>
        cases h
        obtain ⟨l, vs, e1, e2, r, q⟩ := S
        rw [hv] at e1
        cases e1
        have s := hRg i
        rw [e2] at s
        exact .lst (.inl (s _ _ sgl_same)) (r.mono (hb _))
      | ex d0 =>
        cases h
        obtain ⟨w, e1, r, q⟩ := S
        rw [hv] at e1
        cases e1
        exact r.mono (hRg i)
theorem argsX_ok {q : Option (Bool × List D)} (I : Ok B pn env σ F N G Rg H) (AJ : Apart F G Rg H J) : ∀ {ms : List Bool} {ts : List Tok} {vs : List V} {args : List Arg}, TX B σ F N H J q ms ts vs → argsX env q ms ts = some args →
    (args.length = vs.length ∧ (∀ (j : Nat) (b : Bool) (d : D), args[j]? = some (Arg.v b d) → ∃ v : V, vs[j]? = some v ∧ b = false ∧ Rp (cut H J) v d) ∧
      (∀ (j : Nat) (b : Bool) (xs : List D), args[j]? = some (Arg.o b xs) → ms[j]? = some true ∧ ∃ l ws, vs[j]? = some (V.ref l) ∧ J = sgl l (.lst ws) ∧ RpA emp ws xs))
  | [], [], vs, args, T, h => by
    cases h
    have e : vs = [] := T
    subst e
    exact ⟨rfl, fun _ _ _ e => by simp at e, fun _ _ _ e => by simp at e⟩
  | [], _ :: _, _, _, _, h => by cases h
  | _ :: _, [], _, _, _, h => by cases h
  | m :: ms, t :: ts, vs, args, T, h => by
    obtain ⟨v, r, rfl, Tr, Tm⟩ := T
    simp only [argsX] at h
    cases e1 : argsX env q ms ts with
    | none => rw [e1] at h; cases h
    | some args' =>
      rw [e1] at h
      obtain ⟨i1, i2, i3⟩ := argsX_ok I AJ Tr e1
      cases m with
      | false =>
        simp only at h Tm
        obtain ⟨R, t1, sR, dR⟩ := Tm
        cases e2 : rd env t with
        | none => rw [e2] at h; cases h
        | some d =>
          rw [e2] at h
          cases h
          refine ⟨by rw [List.length_cons, List.length_cons, i1], fun j b d' e => ?_, fun j b xs e => ?_⟩
          · rcases cons_get e with ⟨rfl, e⟩ | ⟨k, rfl, e⟩
            · cases e; exact ⟨v, rfl, rfl, rdX I t1 sR dR AJ e2⟩
            · simpa using i2 k b d' e
          · rcases cons_get e with ⟨rfl, e⟩ | ⟨k, rfl, e⟩
            · cases e
            · simpa using i3 k b xs e
      | true =>
        simp only at h Tm
        obtain ⟨b, xs, l, ws, rfl, rfl, eJ, rw'⟩ := Tm
        simp only at h
        cases hs : xs.all scal with
        | false =>
          rw [hs] at h
          cases b <;> cases h
        | true =>
          rw [hs] at h
          have h' : some (Arg.o true xs :: args') = some args := by cases b <;> exact h
          cases h'
          refine ⟨by rw [List.length_cons, List.length_cons, i1], fun j b' d' e => ?_, fun j b' ys e => ?_⟩
          · rcases cons_get e with ⟨rfl, e⟩ | ⟨k, rfl, e⟩
            · cases e
            · simpa using i2 k b' d' e
          · rcases cons_get e with ⟨rfl, e⟩ | ⟨k, rfl, e⟩
            · cases e; exact ⟨rfl, l, ws, rfl, eJ, rw'.scal hs⟩
            · simpa using i3 k b' ys e
theorem detach_one : ∀ {ms : List Bool} {ts : List Tok} {q : Option (Bool × List D)} {w : Back} {e' : Env}, detach env ms ts = some (q, w, e') → ∀ j k : Nat, ms[j]? = some true → ms[k]? = some true → j = k
  | [], [], _, _, _, _, j, k, h, _ => by simp at h
  | [], _ :: _, _, _, _, h, _, _, _, _ => by cases h
  | _ :: _, [], _, _, _, h, _, _, _, _ => by cases h
  | m :: ms, t :: ts, q, w, e', h, j, k, hj, hk => by
    simp only [detach] at h
    cases e1 : detach env ms ts with
    | none => rw [e1] at h; cases h
    | some z =>
      obtain ⟨q', w', en⟩ := z
      rw [e1] at h
      have ih := detach_one e1
      cases m with
      | false =>
        rcases cons_get hj with ⟨rfl, e⟩ | ⟨j', rfl, hj⟩
        · cases e
        · rcases cons_get hk with ⟨rfl, e⟩ | ⟨k', rfl, hk⟩
          · cases e
          · rw [ih _ _ hj hk]
      | true =>
        simp only at h
        cases w' with
        | some _ => cases h
        | none =>
          obtain ⟨hm, _, _⟩ := detach_none e1
          have no : ∀ i : Nat, ms[i]? ≠ some true := fun i e => by
            have := List.all_eq_true.mp hm true (List.mem_of_getElem? e)
            cases this
          rcases cons_get hj with ⟨rfl, e⟩ | ⟨j', rfl, hj⟩
          · rcases cons_get hk with ⟨rfl, e⟩ | ⟨k', rfl, hk⟩
            · rfl
            · exact absurd hk (no _)
          · exact absurd hj (no _)
end
end DL
namespace DL
open PySem PySem.Spec PyProof.Rows L2
section
variable {B : Hp} {pn : Nat → Option Addr} {env : Env} {σ : L2.St} {F N G : Hp} {Rg : Nat → Hp} {H R J : Hp}
theorem detach_some : ∀ {ms : List Bool} {ts : List Tok} {q : Option (Bool × List D)} {w : Option (Nat × Bool)} {e' : Env}, detach env ms ts = some (q, some w, e') → ∃ j : Nat, ms[j]? = some true
  | [], [], _, _, _, h => by cases h
  | [], _ :: _, _, _, _, h => by cases h
  | _ :: _, [], _, _, _, h => by cases h
  | m :: ms, t :: ts, q, w, e', h => by
    simp only [detach] at h
    cases e1 : detach env ms ts with
    | none => rw [e1] at h; cases h
    | some z =>
      obtain ⟨q', w', en⟩ := z
      rw [e1] at h
      cases m with
      | true => exact ⟨0, rfl⟩
      | false =>
        cases h
        obtain ⟨j, e⟩ := detach_some e1
        exact ⟨j + 1, by simpa using e⟩
theorem argsX_mask {q : Option (Bool × List D)} : ∀ {ms : List Bool} {ts : List Tok} {args : List Arg}, argsX env q ms ts = some args → ∀ j : Nat, ms[j]? = some true → ∃ b xs, args[j]? = some (Arg.o b xs)
  | [], [], _, _, j, e => by simp at e
  | [], _ :: _, _, h, _, _ => by cases h
  | _ :: _, [], _, h, _, _ => by cases h
  | m :: ms, t :: ts, args, h, j, e => by
    simp only [argsX] at h
    cases e1 : argsX env q ms ts with
    | none => rw [e1] at h; cases h
    | some args' =>
      rw [e1] at h
      have ih := argsX_mask e1
      cases m with
      | false =>
        rcases cons_get e with ⟨rfl, e⟩ | ⟨k, rfl, e⟩
        · cases e
        · obtain ⟨b, xs, z⟩ := ih k e
          simp only at h
          cases e2 : rd env t with
          | none => rw [e2] at h; cases h
          | some d => rw [e2] at h; cases h; exact ⟨b, xs, by simpa using z⟩
      | true =>
        simp only at h
        cases q with
        | none => cases h
        | some q =>
          obtain ⟨b, xs⟩ := q
          simp only at h
          cases hs : xs.all scal with
          | false => rw [hs] at h; cases b <;> cases h
          | true =>
            rw [hs] at h
            have h' : some (Arg.o true xs :: args') = some args := by cases b <;> exact h
            cases h'
            rcases cons_get e with ⟨rfl, e⟩ | ⟨k, rfl, e⟩
            · exact ⟨_, _, rfl⟩
            · obtain ⟨b', ys, z⟩ := ih k e
              exact ⟨b', ys, by simpa using z⟩
theorem Ok.cutGrow {e' : Env} {Rg1 : Nat → Hp} {H2 : Hp} (I : Ok B pn e' σ F N G Rg1 H) (AJ : Apart F G Rg1 H J) (s : Same (cut H J) H2) (hB : ∀ a, H2 a = none → H a = none) : Ok B pn e' σ F N G Rg1 H2 where
  len := I.len
  sF := (cut_sub I.sF (dj_comm AJ.dF)).trans s
  sN := I.sN
  sG := (cut_sub I.sG (dj_comm AJ.dG)).trans s
  dG := I.dG
  nB := I.nB
  nZ := I.nZ
  hB := fun a e => I.hB a (hB a e)
  sl := I.sl
  sR := fun i => (cut_sub (I.sR i) (dj_comm (AJ.dR i))).trans s
  dF := I.dF
  dRG := I.dRG
  dR := I.dR
  out := I.out
theorem newApart {e' : Env} {Rg1 : Nat → Hp} {H2 : Hp} (I : Ok B pn e' σ F N G Rg1 H) {M : Hp} (sM : Same M H2) (dM : dj H M) : Apart F G Rg1 H2 M :=
  ⟨sM, fun a o e => I.sF.free (dM a o e), fun a o e => I.sG.free (dM a o e), fun i a o e => (I.sR i).free (dM a o e)⟩
theorem Apart.up {Rg1 : Nat → Hp} {H2 M : Hp} (A : Apart F G Rg1 H2 R) (d : dj M R) : Apart (jn F M) G Rg1 H2 R := ⟨A.sR, fun a o e => jn_none_of (d a o e) (A.dF a o e), A.dG, A.dR⟩
theorem ap_callX {W : L2.WX} {cm : String → Addr} {mask : List Bool} {fn : Fn} : ApR W cm (opCallX mask fn) (fun σ vs H Q => spD cm fn vs H Q (WE W σ)) := by
  intro B pn env σ F N G Rg H ts vs Q I T h
  unfold opCallX at h
  cases e1 : detach env mask ts with
  | none => rw [e1] at h; exact h.elim
  | some z =>
    obtain ⟨q, w, en⟩ := z
    rw [e1] at h
    simp only at h
    obtain ⟨Rg1, J, I1, AJ, BK, TX1, sJ, wJ⟩ := detach_ok I T e1
    cases e2 : argsX en q mask ts with
    | none => rw [e2] at h; exact h.elim
    | some args =>
      rw [e2] at h
      simp only at h
      obtain ⟨a1, a2, a3⟩ := argsX_ok I1 AJ TX1 e2
      have P : PArgs (cut H J) emp J args vs :=
        { len := a1
          pv := fun j b d e => let ⟨v, e1, e2, r⟩ := a2 j b d e; ⟨v, e1, by subst e2; exact r⟩
          po := fun j b xs e => let ⟨_, l, ws, e1, e2, r⟩ := a3 j b xs e; ⟨l, ws, e1, e2, r.mono (emp_same _)⟩
          one := fun j k b xs c ys ej ek => detach_one e1 j k (a3 j b xs ej).1 (a3 k c ys ek).1
          non := fun no => by
            cases w with
            | none => exact wJ rfl
            | some w =>
              obtain ⟨j, ej⟩ := detach_some e1
              obtain ⟨b, xs, e⟩ := argsX_mask e2 j ej
              exact absurd e (no j b xs) }
      have scH : Same (cut H J) H := fun a o e => (cut_some e).2
      obtain ⟨l0, En, hJ⟩ := entry_of (Bc := H) (Nc := emp) (F := cut H J) (H := H) scH (emp_same _) (dj_emp _) (fun _ _ _ z => nomatch z) (fun _ e => e) AJ.sR (fun a o e => by unfold cut; rw [e]) P
      refine ⟨H, _, cut H J, emp, _, _, args, En, ?_⟩
      cases e3 : fn args with
      | bad => rw [e3] at h; exact h
      | exc c =>
        rw [e3] at h
        simp only at h ⊢
        cases w with
        | some q => exact h.elim
        | none =>
          intro F2 N2 Rg2 H2 I2 hF2 hN2
          have I3 := I1.cutGrow (H2 := H2) AJ (hF2.trans I2.sF) I2.hB
          exact h F N Rg1 H2 I3 (Same.refl _) (Same.refl _)
      | ok t outs =>
        rw [e3] at h
        simp only at h ⊢
        cases e4 : unX t with
        | none => rw [e4] at h; exact h.elim
        | some t' =>
          rw [e4] at h
          simp only at h
          cases e5 : finishX en w outs with
          | none => rw [e5] at h; exact h.elim
          | some e6 =>
            rw [e5] at h
            have nt : noSl t = true := by cases t <;> first | rfl | cases e4
            refine ⟨nt, fun v F2 N2 Rg2 H2 R I2 hF2 hN2 TR AR dHR => ?_⟩
            have I3 := I1.cutGrow (H2 := H2) AJ (hF2.trans I2.sF) I2.hB
            -- the slot is given back
            have back : ∃ Rg3, Ok B pn e6 σ F N G Rg3 H2 ∧ ∀ M, dj H M → Same M H2 → (∀ k, dj (Rg2 k) M) → Apart F G Rg3 H2 M := by
              cases w with
              | none => cases e5; exact ⟨Rg1, I3, fun M d s _ => newApart I1 s d⟩
              | some w =>
                cases w with
                | none => cases e5; exact ⟨Rg1, I3, fun M d s _ => newApart I1 s d⟩
                | some w =>
                  obtain ⟨i, p⟩ := w
                  simp only [finishX] at e5
                  cases e7 : getOut outs with
                  | none => rw [e7] at e5; cases e5
                  | some q =>
                    obtain ⟨b, xs⟩ := q
                    rw [e7] at e5
                    simp only at e5
                    cases hs : xs.all scal with
                    | false => rw [hs] at e5; cases e5
                    | true =>
                      rw [hs] at e5
                      cases e5
                      obtain ⟨k, ek⟩ := getOut_at e7
                      obtain ⟨bi, l, ws, ej, ev, eb⟩ := BK
                      subst ej
                      have el : l0 = l := by
                        rcases hJ with z | ⟨ws', z⟩
                        · have z := congrFun z l
                          rw [sgl_same] at z
                          cases z
                        · have z := congrFun z l
                          rw [sgl_same] at z
                          exact (sgl_some z.symm).1.symm
                      subst el
                      obtain ⟨l', ws', f1, f2, r2, f3⟩ := I2.sl k _ (outEnv_own ek)
                      have el' : l' = l0 := by
                        rw [if_pos rfl] at f3
                        unfold cPn at f3
                        split at f3
                        · exact (Option.some.inj f3).symm
                        · cases f3
                      subst el'
                      have hi := Ok.slotLt bi
                      have sR2 := I2.sR k
                      rw [f2] at sR2
                      have I4 := I3.put (σ' := σ) (i := i) (s := .own p true xs) (R := sgl l' (.lst ws')) hi ⟨l', ws', ev, rfl, r2.scal hs, eb⟩ sR2 (dj_sgl (AJ.dF _ _ sgl_same)) (dj_sgl (AJ.dG _ _ sgl_same)) (fun j _ => dj_sgl (AJ.dR j _ _ sgl_same)) (fun _ _ => rfl) rfl
                      refine ⟨_, I4, fun M d s dk => ?_⟩
                      have A := newApart (G := G) I1 s d
                      refine ⟨A.sR, A.dF, A.dG, fun j => ?_⟩
                      by_cases hj : j = i
                      · subst hj
                        rw [setR_same]
                        have := dk k
                        rw [f2] at this
                        exact this
                      · rw [setR_ne hj]
                        exact A.dR j
            obtain ⟨Rg3, I4, mk⟩ := back
            have dN2 : dj H N2 := I2.nB
            have sN2 : Same N2 H2 := I2.sN.trans I2.sF
            have AN : Apart F G Rg3 H2 N2 := mk N2 dN2 sN2 fun k a o e => by
              cases q : Rg2 k a with
              | none => rfl
              | some u =>
                have := I2.dF k a u q
                rw [I2.sN _ _ e] at this
                cases this
            have A0 : Apart F G Rg3 H2 R := mk R dHR AR.sR AR.dR
            have dB : ∀ {M : Hp}, dj H M → dj B M := fun d a o e => I1.hB a (d a o e)
            cases t with
            | sl j => cases nt
            | ex d =>
              cases e4
              exact h v F N Rg3 H2 R I4 (Same.refl _) (Same.refl _) ⟨TR.1, dB dHR, TR.2.2⟩ A0
            | fz b d =>
              simp only [unX] at e4
              obtain ⟨eR, rv⟩ := TR
              cases hs : scal d with
              | true =>
                rw [hs] at e4
                cases e4
                exact h v F N Rg3 H2 emp I4 (Same.refl _) (Same.refl _) ⟨rfl, rv.scal hs⟩ .none
              | false =>
                rw [hs] at e4
                cases b with
                | false => cases e4
                | true =>
                  cases e4
                  exact h v F N Rg3 H2 N2 I4 (Same.refl _) (Same.refl _) ⟨rv, dB dN2, I2.nZ⟩ AN
            | nw b xs =>
              simp only [unX] at e4
              obtain ⟨l, ws, rfl, eR, rv, bl⟩ := TR
              subst eR
              have bl' : B l = none := I1.hB l bl
              cases hs : xs.all scal with
              | true =>
                rw [hs] at e4
                cases e4
                exact h _ F N Rg3 H2 _ I4 (Same.refl _) (Same.refl _) ⟨l, ws, rfl, rfl, rv.scal hs, bl'⟩ A0
              | false =>
                rw [hs] at e4
                cases b with
                | false => cases e4
                | true =>
                  cases e4
                  have I5 := I4.frzN AN (dB dN2) I2.nZ
                  refine h _ _ _ Rg3 H2 _ I5 (jn_left AN.dF) (jn_left (I4.djN AN)) ⟨l, ws, rfl, rfl, rv.mono jn_right, bl'⟩ (A0.up fun a o e => ?_)
                  exact I2.sN.free (AR.dF a o e)
end
end DL
namespace DL
open PySem PySem.Spec PyProof.Rows L2
inductive Out where
  | nx (e : Env)
  | bk (e : Env)
  | ct (e : Env)
  | rt (t : Tok) (e : Env)
  | exc (c : String) (e : Env)
  | bad
abbrev DS := Env → Out
def AftS (B : Hp) (pn : Nat → Option Addr) (F N G : Hp) (W : L2.WX) (cm : String → Addr) (Dn : Ends) : Out → Prop
  | .nx e' => ∀ σ' F' N' Rg' H', Ok B pn e' σ' F' N' G Rg' H' → Same F F' → Same N N' → Dn.nx σ' H'
  | .bk e' => ∀ σ' F' N' Rg' H', Ok B pn e' σ' F' N' G Rg' H' → Same F F' → Same N N' → Dn.bk σ' H'
  | .ct e' => ∀ σ' F' N' Rg' H', Ok B pn e' σ' F' N' G Rg' H' → Same F F' → Same N N' → Dn.ct σ' H'
  | .rt t e' => ∀ σ' v F' N' Rg' H' R, Ok B pn e' σ' F' N' G Rg' H' → Same F F' → Same N N' → TokOk B σ' F' N' R t v → Apart F' G Rg' H' R → Dn.rt v H'
  | .exc c e' => ∀ σ' F' N' Rg' H', Ok B pn e' σ' F' N' G Rg' H' → Same F F' → Same N N' → W (.ref (cm c)) none σ' H'
  | .bad => False
def tS (W : L2.WX) (cm : String → Addr) (s : DS) : TS := fun Dn σ H => ∃ B pn F N G Rg env, Ok B pn env σ F N G Rg H ∧ AftS B pn F N G W cm Dn (s env)
theorem AftS.low {B : Hp} {pn : Nat → Option Addr} {F N G F1 N1 : Hp} {W : L2.WX} {cm : String → Addr} {Dn : Ends} {r : Out} (hF : Same F F1) (hN : Same N N1) (h : AftS B pn F N G W cm Dn r) : AftS B pn F1 N1 G W cm Dn r := by
  cases r with
  | nx e' => exact fun σ' F' N' Rg' H' I hF' hN' => h σ' F' N' Rg' H' I (hF.trans hF') (hN.trans hN')
  | bk e' => exact fun σ' F' N' Rg' H' I hF' hN' => h σ' F' N' Rg' H' I (hF.trans hF') (hN.trans hN')
  | ct e' => exact fun σ' F' N' Rg' H' I hF' hN' => h σ' F' N' Rg' H' I (hF.trans hF') (hN.trans hN')
  | rt t e' => exact fun σ' v F' N' Rg' H' R I hF' hN' => h σ' v F' N' Rg' H' R I (hF.trans hF') (hN.trans hN')
  | exc c e' => exact fun σ' F' N' Rg' H' I hF' hN' => h σ' F' N' Rg' H' I (hF.trans hF') (hN.trans hN')
  | bad => exact h
def sNop : DS := fun env => .nx env
def sSeq (a b : DS) : DS := fun env => match a env with
  | .nx e => b e
  | .bk e => .bk e
  | .ct e => .ct e
  | .rt t e => .rt t e
  | .exc c e => .exc c e
  | .bad => .bad
section
variable {W : L2.WX} {cm : String → Addr} {Dn : Ends} {σ : L2.St} {H : Hp}
theorem ts_nop (h : tS W cm sNop Dn σ H) : tNext Dn σ H := by
  obtain ⟨B, pn, F, N, G, Rg, env, I, h⟩ := h
  exact h σ F N Rg H I (Same.refl _) (Same.refl _)
theorem ts_seq {a b : DS} (h : tS W cm (sSeq a b) Dn σ H) : tSeq (tS W cm a) (tS W cm b) Dn σ H := by
  obtain ⟨B, pn, F, N, G, Rg, env, I, h⟩ := h
  refine ⟨B, pn, F, N, G, Rg, env, I, ?_⟩
  unfold sSeq at h
  cases e : a env with
  | nx e1 =>
    rw [e] at h
    exact fun σ' F' N' Rg' H' I' hF hN => ⟨B, pn, F', N', G, Rg', e1, I', h.low hF hN⟩
  | bk e1 => rw [e] at h; exact h
  | ct e1 => rw [e] at h; exact h
  | rt t e1 => rw [e] at h; exact h
  | exc c e1 => rw [e] at h; exact h
  | bad => rw [e] at h; exact h
end
section
variable {X : Cx} {W : L2.WX} {cm : String → Addr}
theorem g_nil : PSs X [] (tS W cm sNop) := PSsimp pss_nil fun _ _ _ h => ts_nop h
theorem g_cons {st : Stmt} {r : List Stmt} {a b : DS} (h1 : PS X st (tS W cm a)) (h2 : PSs X r (tS W cm b)) : PSs X (st :: r) (tS W cm (sSeq a b)) := PSsimp (pss_cons h1 h2) fun _ _ _ h => ts_seq h
theorem g_one {st : Stmt} {a : DS} (h1 : PS X st (tS W cm a)) : PSs X [st] (tS W cm a) := pss_one h1
end
def setSlot (env : Env) (i : Nat) (s : Slot) : Option Env := match env[i]? with
  | none => none
  | some (.own true _ _) => none
  | some (.kn _ _) => none
  | some (.ob _ _) => none
  | some .lent => none
  | some _ => some (env.set i s)
def store (env : Env) (i : Nat) : Tok → Option Env
  | .fz b d => setSlot env i (.fro b d)
  | .nw b xs => setSlot env i (.own false b xs)
  | .ex d => setSlot env i (.ex d)
  | .sl j => match take env (.sl j) with
    | none => none
    | some (b, d, e1) => setSlot e1 i (.fro b d)
section
variable {B : Hp} {pn : Nat → Option Addr} {env : Env} {σ : L2.St} {F N G : Hp} {Rg : Nat → Hp} {H R : Hp}
theorem setSlot_lt {i : Nat} {s : Slot} {e' : Env} (h : setSlot env i s = some e') : i < env.length ∧ e' = env.set i s := by
  unfold setSlot at h
  cases e : env[i]? with
  | none => rw [e] at h; cases h
  | some t =>
    rw [e] at h
    have hi := Ok.slotLt e
    cases t with
    | own p b xs =>
      cases p with
      | true => cases h
      | false => cases h; exact ⟨hi, rfl⟩
    | kn _ _ => cases h
    | ob _ _ => cases h
    | lent => cases h
    | un => cases h; exact ⟨hi, rfl⟩
    | fro b d => cases h; exact ⟨hi, rfl⟩
    | ex d => cases h; exact ⟨hi, rfl⟩
theorem Ok.set {i : Nat} {s : Slot} {v : V} {e' : Env} (I : Ok B pn env σ F N G Rg H) (h : setSlot env i s = some e') (A : Apart F G Rg H R) (hs : SlotOk B pn (σ.set i (some v)) F N i R s) : ∃ Rg', Ok B pn e' (σ.set i (some v)) F N G Rg' H := by
  obtain ⟨hi, rfl⟩ := setSlot_lt h
  exact ⟨_, I.put hi hs A.sR A.dF A.dG (fun j _ => A.dR j) (fun j hj => List.getElem?_set_ne (Ne.symm hj)) (by rw [List.length_set])⟩
theorem set_at {i : Nat} {v : V} (h : i < σ.length) : (σ.set i (some v))[i]? = some (some v) := List.getElem?_set_self h
theorem store_ok {i : Nat} {t : Tok} {v : V} {e' : Env} (I : Ok B pn env σ F N G Rg H) (T : TokOk B σ F N R t v) (A : Apart F G Rg H R) (h : store env i t = some e') : ∃ F' N' Rg', Ok B pn e' (σ.set i (some v)) F' N' G Rg' H ∧ Same F F' ∧ Same N N' := by
  have hl : ∀ {s : Slot} {e1 : Env} {σ1 : L2.St} {F1 N1 : Hp} {Rg1 : Nat → Hp}, Ok B pn e1 σ1 F1 N1 G Rg1 H → setSlot e1 i s = some e' → i < σ1.length := fun J z => by rw [← J.len]; exact (setSlot_lt z).1
  cases t with
  | fz b d =>
    have hi := hl I h
    obtain ⟨Rg', J⟩ := I.set (v := v) h .none ⟨rfl, v, set_at hi, T.2⟩
    exact ⟨F, N, Rg', J, Same.refl _, Same.refl _⟩
  | nw b xs =>
    have hi := hl I h
    obtain ⟨l, vs, rfl, rfl, r, q⟩ := T
    obtain ⟨Rg', J⟩ := I.set (v := .ref l) h A ⟨l, vs, set_at hi, rfl, r, q⟩
    exact ⟨F, N, Rg', J, Same.refl _, Same.refl _⟩
  | ex d =>
    have hi := hl I h
    obtain ⟨Rg', J⟩ := I.set (v := v) h A ⟨v, set_at hi, T⟩
    exact ⟨F, N, Rg', J, Same.refl _, Same.refl _⟩
  | sl j =>
    simp only [store] at h
    cases e : take env (.sl j) with
    | none => rw [e] at h; cases h
    | some q =>
      obtain ⟨b, d, e1⟩ := q
      rw [e] at h
      obtain ⟨F1, N1, Rg1, I1, hF, hN, r⟩ := take_ok I T A e
      have hi := hl I1 h
      obtain ⟨Rg', J⟩ := I1.set (v := v) h .none ⟨rfl, v, set_at hi, r⟩
      exact ⟨F1, N1, Rg', J, hF, hN⟩
end
def sSet (i : Nat) (f : DE) : DS := fun env => match f env with
  | .ok t e1 => match store e1 i t with
    | none => .bad
    | some e2 => .nx e2
  | .exc c e1 => .exc c e1
  | .bad => .bad
def sDrop (f : DE) : DS := fun env => match f env with
  | .ok _ e1 => .nx e1
  | .exc c e1 => .exc c e1
  | .bad => .bad
def sRet (f : DE) : DS := fun env => match f env with
  | .ok t e1 => .rt t e1
  | .exc c e1 => .exc c e1
  | .bad => .bad
section
variable {W : L2.WX} {cm : String → Addr} {Dn : Ends} {σ : L2.St} {H : Hp}
theorem ts_set {i : Nat} {f : DE} (h : tS W cm (sSet i f) Dn σ H) : tAsg (tD W cm f) (gName i) Dn σ H := by
  obtain ⟨B, pn, F, N, G, Rg, env, I, h⟩ := h
  refine ⟨B, pn, F, N, G, Rg, env, I, ?_⟩
  unfold sSet at h
  cases e : f env with
  | bad => rw [e] at h; exact h
  | exc c e1 => rw [e] at h; exact fun F' N' Rg' H' I' hF hN => h σ F' N' Rg' H' I' hF hN
  | ok t e1 =>
    rw [e] at h
    simp only at h
    cases e2 : store e1 i t with
    | none => rw [e2] at h; exact h.elim
    | some en =>
      rw [e2] at h
      intro v F' N' Rg' H' R I' hF hN T A
      obtain ⟨F2, N2, Rg2, I2, hF2, hN2⟩ := store_ok I' T A e2
      exact h _ F2 N2 Rg2 H' I2 (hF.trans hF2) (hN.trans hN2)
theorem ts_drop {f : DE} (h : tS W cm (sDrop f) Dn σ H) : tDrop (tD W cm f) Dn σ H := by
  obtain ⟨B, pn, F, N, G, Rg, env, I, h⟩ := h
  refine ⟨B, pn, F, N, G, Rg, env, I, ?_⟩
  unfold sDrop at h
  cases e : f env with
  | bad => rw [e] at h; exact h
  | exc c e1 => rw [e] at h; exact fun F' N' Rg' H' I' hF hN => h σ F' N' Rg' H' I' hF hN
  | ok t e1 =>
    rw [e] at h
    exact fun v F' N' Rg' H' R I' hF hN T A => h σ F' N' Rg' H' I' hF hN
theorem ts_ret {f : DE} (h : tS W cm (sRet f) Dn σ H) : tRet (tD W cm f) Dn σ H := by
  obtain ⟨B, pn, F, N, G, Rg, env, I, h⟩ := h
  refine ⟨B, pn, F, N, G, Rg, env, I, ?_⟩
  unfold sRet at h
  cases e : f env with
  | bad => rw [e] at h; exact h
  | exc c e1 => rw [e] at h; exact fun F' N' Rg' H' I' hF hN => h σ F' N' Rg' H' I' hF hN
  | ok t e1 =>
    rw [e] at h
    exact fun v F' N' Rg' H' R I' hF hN T A => h σ v F' N' Rg' H' R I' hF hN T A
end
inductive TR where
  | ok (b : Bool) (e : Env)
  | exc (c : String) (e : Env)
  | bad
abbrev DT := Env → TR
def AftT (B : Hp) (pn : Nat → Option Addr) (σ : L2.St) (F N G : Hp) (W : L2.WX) (cm : String → Addr) (Q : Bool → Hp → Prop) : TR → Prop
  | .ok b e' => ∀ F' N' Rg' H', Ok B pn e' σ F' N' G Rg' H' → Same F F' → Same N N' → Q b H'
  | .exc c e' => ∀ F' N' Rg' H', Ok B pn e' σ F' N' G Rg' H' → Same F F' → Same N N' → W (.ref (cm c)) none σ H'
  | .bad => False
def tT (W : L2.WX) (cm : String → Addr) (f : DT) : TT := fun σ H Q => ∃ B pn F N G Rg env, Ok B pn env σ F N G Rg H ∧ AftT B pn σ F N G W cm Q (f env)
theorem AftT.low {B : Hp} {pn : Nat → Option Addr} {σ : L2.St} {F N G F1 N1 : Hp} {W : L2.WX} {cm : String → Addr} {Q : Bool → Hp → Prop} {r : TR} (hF : Same F F1) (hN : Same N N1) (h : AftT B pn σ F N G W cm Q r) : AftT B pn σ F1 N1 G W cm Q r := by
  cases r with
  | ok t e' => exact fun F' N' Rg' H' I hF' hN' => h F' N' Rg' H' I (hF.trans hF') (hN.trans hN')
  | exc c e' => exact fun F' N' Rg' H' I hF' hN' => h F' N' Rg' H' I (hF.trans hF') (hN.trans hN')
  | bad => exact h
theorem PTimp {X : Cx} {e : Expr} {t t' : TT} (h : PT X e t) (k : ∀ σ H Q, t' σ H Q → t σ H Q) : PT X e t' := ⟨fun pins s σ H Q I hw => h.run pins s σ H Q I (k _ _ _ hw)⟩
theorem PWimp {X : Cx} {e : Expr} {t t' : TT} (h : PW X e t) (k : ∀ σ H Q, t' σ H Q → t σ H Q) : PW X e t' := ⟨fun wh pins s σ H Q I hw => h.run wh pins s σ H Q I (k _ _ _ hw)⟩
def dVal (f : DE) : DT := fun env => match f env with
  | .ok t e1 => match rd e1 t with
    | some (.bool b) => .ok b e1
    | _ => .bad
  | .exc c e1 => .exc c e1
  | .bad => .bad
def dAnd (f g : DT) : DT := fun env => match f env with
  | .ok true e1 => g e1
  | r => r
def dOr (f g : DT) : DT := fun env => match f env with
  | .ok false e1 => g e1
  | r => r
def dNot (f : DT) : DT := fun env => match f env with
  | .ok b e1 => .ok (!b) e1
  | r => r
section
variable {W : L2.WX} {cm : String → Addr} {σ : L2.St} {H : Hp} {Q : Bool → Hp → Prop}
theorem tt_val {f : DE} (h : tT W cm (dVal f) σ H Q) : tD W cm f σ H fun x H1 => ∃ c, x = .bl c ∧ Q c H1 := by
  obtain ⟨B, pn, F, N, G, Rg, env, I, h⟩ := h
  refine ⟨B, pn, F, N, G, Rg, env, I, ?_⟩
  unfold dVal at h
  cases e : f env with
  | bad => rw [e] at h; exact h
  | exc c e1 => rw [e] at h; exact h
  | ok t e1 =>
    rw [e] at h
    simp only at h
    intro v F' N' Rg' H' R I' hF hN T A
    cases e2 : rd e1 t with
    | none => rw [e2] at h; exact h.elim
    | some d =>
      have r := rd_ok I' T A.sR e2
      rw [e2] at h
      cases d with
      | bool b =>
        cases r
        exact ⟨b, rfl, h F' N' Rg' H' I' hF hN⟩
      | _ => exact h.elim
theorem tt_and {f g : DT} (h : tT W cm (dAnd f g) σ H Q) : tAnd (tT W cm f) (tT W cm g) σ H Q := by
  obtain ⟨B, pn, F, N, G, Rg, env, I, h⟩ := h
  refine ⟨B, pn, F, N, G, Rg, env, I, ?_⟩
  unfold dAnd at h
  cases e : f env with
  | bad => rw [e] at h; exact h
  | exc c e1 => rw [e] at h; exact h
  | ok b e1 =>
    rw [e] at h
    intro F' N' Rg' H' I' hF hN
    cases b with
    | true => exact iteT ⟨B, pn, F', N', G, Rg', e1, I', h.low hF hN⟩
    | false => exact iteF (h F' N' Rg' H' I' hF hN)
theorem tt_or {f g : DT} (h : tT W cm (dOr f g) σ H Q) : tOr (tT W cm f) (tT W cm g) σ H Q := by
  obtain ⟨B, pn, F, N, G, Rg, env, I, h⟩ := h
  refine ⟨B, pn, F, N, G, Rg, env, I, ?_⟩
  unfold dOr at h
  cases e : f env with
  | bad => rw [e] at h; exact h
  | exc c e1 => rw [e] at h; exact h
  | ok b e1 =>
    rw [e] at h
    intro F' N' Rg' H' I' hF hN
    cases b with
    | false => exact iteF ⟨B, pn, F', N', G, Rg', e1, I', h.low hF hN⟩
    | true => exact iteT (h F' N' Rg' H' I' hF hN)
theorem tt_not {f : DT} (h : tT W cm (dNot f) σ H Q) : tNot (tT W cm f) σ H Q := by
  obtain ⟨B, pn, F, N, G, Rg, env, I, h⟩ := h
  refine ⟨B, pn, F, N, G, Rg, env, I, ?_⟩
  unfold dNot at h
  cases e : f env with
  | bad => rw [e] at h; exact h
  | exc c e1 => rw [e] at h; exact h
  | ok b e1 =>
    rw [e] at h
    exact fun F' N' Rg' H' I' hF hN => h F' N' Rg' H' I' hF hN
end
section
variable {X : Cx} {W : L2.WX} {cm : String → Addr} {a b : Expr} {pos : Pos} {f g : DT} {rest : List Expr}
theorem gt_val {e : Expr} {f : DE} (h : PE X e (tD W cm f)) (he : ∀ whole, isTrue e X.env whole = (do let v ← whole; standAt e.pos; holding [v] (truthy v)) := by intro _; rfl) : PT X e (tT W cm (dVal f)) := PTimp (pt_val h he) fun _ _ _ h => tt_val h
theorem gt_not (h : PT X a (tT W cm f)) : PT X (.UnaryOp .Not a pos) (tT W cm (dNot f)) := PTimp (pt_not h) fun _ _ _ h => tt_not h
theorem gw_and1 (h : PT X a (tT W cm f)) : PW X (.BoolOp .And [a] pos) (tT W cm f) := pw_and1 h
theorem gw_or1 (h : PT X a (tT W cm f)) : PW X (.BoolOp .Or [a] pos) (tT W cm f) := pw_or1 h
theorem gw_and (h : PT X a (tT W cm f)) (h2 : PW X (.BoolOp .And (b :: rest) pos) (tT W cm g)) : PW X (.BoolOp .And (a :: b :: rest) pos) (tT W cm (dAnd f g)) := PWimp (pw_and h h2) fun _ _ _ h => tt_and h
theorem gw_or (h : PT X a (tT W cm f)) (h2 : PW X (.BoolOp .Or (b :: rest) pos) (tT W cm g)) : PW X (.BoolOp .Or (a :: b :: rest) pos) (tT W cm (dOr f g)) := PWimp (pw_or h h2) fun _ _ _ h => tt_or h
end
def eAnd (f g : DE) : DE := fun env => match dVal f env with
  | .ok true e1 => g e1
  | .ok false e1 => .ok (.fz true (.bool false)) e1
  | .exc c e1 => .exc c e1
  | .bad => .bad
def sIf (c : DT) (f g : DS) : DS := fun env => match c env with
  | .ok true e1 => f e1
  | .ok false e1 => g e1
  | .exc c e1 => .exc c e1
  | .bad => .bad
section
variable {W : L2.WX} {cm : String → Addr} {σ : L2.St} {H : Hp} {Q : VK}
theorem val_through {f : DE} {B : Hp} {pn : Nat → Option Addr} {F N G : Hp} {Rg : Nat → Hp} {env : Env} {K : Bool → Hp → Prop} (I : Ok B pn env σ F N G Rg H) (h : AftT B pn σ F N G W cm K (dVal f env)) : tD W cm f σ H fun x H1 => ∃ c, x = .bl c ∧ K c H1 := tt_val ⟨B, pn, F, N, G, Rg, env, I, h⟩
theorem bool_done {B : Hp} {pn : Nat → Option Addr} {F N G F' N' : Hp} {Rg' : Nat → Hp} {H' : Hp} {e1 : Env} {b : Bool} (h : Aft B pn σ F N G W cm Q (.ok (.fz true (.bool b)) e1)) (I' : Ok B pn e1 σ F' N' G Rg' H') (hF : Same F F') (hN : Same N N') : Q (.bl b) H' :=
  h (.bl b) F' N' Rg' H' emp I' hF hN ⟨rfl, .bl b⟩ .none
theorem td_and {f g : DE} (h : tD W cm (eAnd f g) σ H Q) : tAndV (tD W cm f) (tD W cm g) σ H Q := by
  obtain ⟨B, pn, F, N, G, Rg, env, I, h⟩ := h
  refine val_through I ?_
  unfold eAnd at h
  cases e : dVal f env with
  | bad => rw [e] at h; exact h
  | exc c e1 => rw [e] at h; exact h
  | ok b e1 =>
    rw [e] at h
    intro F' N' Rg' H' I' hF hN
    cases b with
    | true => exact iteT ⟨B, pn, F', N', G, Rg', e1, I', h.low hF hN⟩
    | false => exact iteF (bool_done h I' hF hN)
theorem ts_if {c : DT} {f g : DS} {Dn : Ends} (h : tS W cm (sIf c f g) Dn σ H) : tIfS (tT W cm c) (tS W cm f) (tS W cm g) Dn σ H := by
  obtain ⟨B, pn, F, N, G, Rg, env, I, h⟩ := h
  refine ⟨B, pn, F, N, G, Rg, env, I, ?_⟩
  unfold sIf at h
  cases e : c env with
  | bad => rw [e] at h; exact h
  | exc c e1 => rw [e] at h; exact fun F' N' Rg' H' I' hF hN => h σ F' N' Rg' H' I' hF hN
  | ok b e1 =>
    rw [e] at h
    intro F' N' Rg' H' I' hF hN
    cases b with
    | true => exact iteT ⟨B, pn, F', N', G, Rg', e1, I', h.low hF hN⟩
    | false => exact iteF ⟨B, pn, F', N', G, Rg', e1, I', h.low hF hN⟩
end
section
variable {X : Cx} {W : L2.WX} {cm : String → Addr} {a b c : Expr} {pos : Pos} {f g : DE} {rest : List Expr} {ct : DT} {x y : List Stmt} {s t : DS}
theorem ge_one {op} (h : PE X a (tD W cm f)) : PE X (.BoolOp op [a] pos) (tD W cm f) := pe_one h
theorem ge_and (h : PE X a (tD W cm f)) (h2 : PE X (.BoolOp .And (b :: rest) pos) (tD W cm g)) : PE X (.BoolOp .And (a :: b :: rest) pos) (tD W cm (eAnd f g)) := PEimp (pe_and h h2) fun _ _ _ h => td_and h
theorem gs_if (hc : PT X c (tT W cm ct)) (h : PSs X x (tS W cm s)) (h2 : PSs X y (tS W cm t)) : PS X (.If c x y pos) (tS W cm (sIf ct s t)) := PSimp (ps_if hc h h2) fun _ _ _ h => ts_if h
theorem gs_ret (h : PE X a (tD W cm f)) : PS X (.Return (some a) pos) (tS W cm (sRet f)) := PSimp (ps_ret h) fun _ _ _ h => ts_ret h
theorem gs_expr (h : PE X a (tD W cm f)) (hs : swapsWith a none pos.line X.env = pure false := by rfl) : PS X (.Expr a pos) (tS W cm (sDrop f)) := PSimp (ps_expr h hs) fun _ _ _ h => ts_drop h
theorem gs_set {i : Nat} {x : Str} {pos' : Pos} (hN : X.N.Nodup) (hi : X.N[i]? = some x) (hx : Loc X.env.scope x) (h : PE X a (tD W cm f)) (hs : swapsWith a (some (.Name x pos')) pos.line X.env = pure false := by rfl)
    (hf : X.fn x = true ∨ X.env.scope.names.lookup x = some .local := by first | exact .inl rfl | exact .inr rfl | assumption) : PS X (.Assign [.Name x pos'] a pos) (tS W cm (sSet i f)) := PSimp (ps_set hN hi hx h hs hf) fun _ _ _ h => ts_set h
end
end DL
namespace DL
open PySem PySem.Spec PyProof.Rows L2
mutual
inductive Tg where
  | nm (i : Nat)
  | tp (ts : Tgs)
inductive Tgs where
  | nil
  | cons (t : Tg) (r : Tgs)
end
def Tgs.len : Tgs → Nat
  | .nil => 0
  | .cons _ r => r.len + 1
mutual
def Tg.has : Tg → Nat → Bool
  | .nm i, j => decide (i = j)
  | .tp ts, j => ts.has j
def Tgs.has : Tgs → Nat → Bool
  | .nil, _ => false
  | .cons t r, j => t.has j || r.has j
end
mutual
def bind1 : Tg → Bool → D → Env → Option Env
  | .nm i, b, d, env => setSlot env i (.fro b d)
  | .tp ts, b, .list ds, env => bindN ts b ds env
  | .tp ts, b, .tuple ds, env => bindN ts b ds env
  | .tp _, _, _, _ => none
def bindN : Tgs → Bool → List D → Env → Option Env
  | .nil, _, [], env => some env
  | .cons t r, b, d :: ds, env => match bind1 t b d env with
    | none => none
    | some e1 => bindN r b ds e1
  | _, _, _, _ => none
end
mutual
def gT (K : PySem.W.Frag) : Tg → TG
  | .nm i => gName i
  | .tp ts => fun v σ H Q => gTup K ts.len (gTs K ts) v σ H Q ∨ gLst K ts.len (gTs K ts) v σ H Q
def gTs (K : PySem.W.Frag) : Tgs → TGs
  | .nil => gNil
  | .cons t r => gCons (gT K t) (gTs K r)
end
theorem bindN_len : ∀ {ts : Tgs} {b : Bool} {ds : List D} {env e' : Env}, bindN ts b ds env = some e' → ds.length = ts.len
  | .nil, _, [], _, _, _ => rfl
  | .nil, _, _ :: _, _, _, h => by simp [bindN] at h
  | .cons _ _, _, [], _, _, h => by simp [bindN] at h
  | .cons t r, b, d :: ds, env, e', h => by
    simp only [bindN] at h
    cases e : bind1 t b d env with
    | none => rw [e] at h; cases h
    | some e1 =>
      rw [e] at h
      rw [List.length_cons, bindN_len h]
      rfl
section
variable {B : Hp} {pn : Nat → Option Addr} {F N G H : Hp}
mutual
theorem bind1_ok {K : PySem.W.Frag} : ∀ {t : Tg} {b : Bool} {d : D} {v : V} {env e' : Env} {σ : L2.St} {Rg : Nat → Hp} {Q : L2.St → Hp → Prop}, Ok B pn env σ F N G Rg H → Rp (bsel b N F) v d → bind1 t b d env = some e' →
    (∀ σ' Rg', Ok B pn e' σ' F N G Rg' H → (∀ j, t.has j = false → σ'[j]? = σ[j]?) → Q σ' H) → gT K t v σ H Q
  | .nm i, b, d, v, env, e', σ, Rg, Q, I, r, h, q => by
    have hi := (setSlot_lt h).1
    rw [I.len] at hi
    obtain ⟨Rg', J⟩ := I.set (v := v) h .none ⟨rfl, v, set_at hi, r⟩
    exact q _ _ J fun j hj => List.getElem?_set_ne (by
      intro z
      subst z
      simp [Tg.has] at hj)
  | .tp ts, b, .list ds, v, env, e', σ, Rg, Q, I, r, h, q => by
    simp only [bind1] at h
    cases r with
    | lst hr ra =>
      rename_i a xs
      exact .inr ⟨a, xs, rfl, .inl (Rd.same ((bsel_sub I.sN).trans I.sF) hr), (ra.len).trans (bindN_len h), bindN_ok I ra h fun σ' Rg' I' hj => q σ' Rg' I' fun j z => hj j (by simpa [Tg.has] using z)⟩
  | .tp ts, b, .tuple ds, v, env, e', σ, Rg, Q, I, r, h, q => by
    simp only [bind1] at h
    cases r with
    | tup hr ra =>
      rename_i a xs
      exact .inl ⟨a, xs, rfl, .inl (Rd.same ((bsel_sub I.sN).trans I.sF) hr), (ra.len).trans (bindN_len h), bindN_ok I ra h fun σ' Rg' I' hj => q σ' Rg' I' fun j z => hj j (by simpa [Tg.has] using z)⟩
  | .tp _, _, .none, _, _, _, _, _, _, _, _, h, _ => by simp [bind1] at h
  | .tp _, _, .bool _, _, _, _, _, _, _, _, _, h, _ => by simp [bind1] at h
  | .tp _, _, .int _, _, _, _, _, _, _, _, _, h, _ => by simp [bind1] at h
  | .tp _, _, .str _, _, _, _, _, _, _, _, _, h, _ => by simp [bind1] at h
  | .tp _, _, .dict _, _, _, _, _, _, _, _, _, h, _ => by simp [bind1] at h
theorem bindN_ok {K : PySem.W.Frag} : ∀ {ts : Tgs} {b : Bool} {ds : List D} {vs : List V} {env e' : Env} {σ : L2.St} {Rg : Nat → Hp} {Q : L2.St → Hp → Prop}, Ok B pn env σ F N G Rg H → RpA (bsel b N F) vs ds → bindN ts b ds env = some e' →
    (∀ σ' Rg', Ok B pn e' σ' F N G Rg' H → (∀ j, ts.has j = false → σ'[j]? = σ[j]?) → Q σ' H) → gTs K ts vs σ H Q
  | .nil, b, [], vs, env, e', σ, Rg, Q, I, r, h, q => by
    simp only [bindN] at h
    cases h
    cases r
    exact ⟨rfl, q _ _ I fun _ _ => rfl⟩
  | .nil, b, _ :: _, vs, env, e', σ, Rg, Q, I, r, h, q => by simp [bindN] at h
  | .cons _ _, b, [], vs, env, e', σ, Rg, Q, I, r, h, q => by simp [bindN] at h
  | .cons t ts, b, d :: ds, vs, env, e', σ, Rg, Q, I, r, h, q => by
    simp only [bindN] at h
    cases r with
    | cons r1 r2 =>
      cases e : bind1 t b d env with
      | none => rw [e] at h; cases h
      | some e1 =>
        rw [e] at h
        exact ⟨_, _, rfl, bind1_ok I r1 e fun σ1 Rg1 I1 h1 => bindN_ok I1 r2 h fun σ2 Rg2 I2 h2 => q σ2 Rg2 I2 fun j z => by
          simp only [Tgs.has, Bool.or_eq_false_iff] at z
          exact (h2 j z.2).trans (h1 j z.1)⟩
end
end
theorem PGor {X : Cx} {e : Expr} {t u : TG} (h1 : PG X e t) (h2 : PG X e u) : PG X e (fun v σ H Q => t v σ H Q ∨ u v σ H Q) := ⟨fun pins s σ H v w Q I r q => by
  rcases q with q | q
  · exact h1.run pins s σ H v w Q I r q
  · exact h2.run pins s σ H v w Q I r q⟩
section
variable {X : Cx} {pos : Pos}
theorem gg_name {i : Nat} {x : Str} (hN : X.N.Nodup) (hi : X.N[i]? = some x) (hx : Loc X.env.scope x) (hf : X.fn x = true ∨ X.env.scope.names.lookup x = some .local := by first | exact .inl rfl | exact .inr rfl | assumption) : PG X (.Name x pos) (gT X.K (.nm i)) := pg_name hN hi hx hf
theorem gg_nil : PGs X [] (gTs X.K .nil) := pgs_nil
theorem gg_cons {e : Expr} {es : List Expr} {t : Tg} {r : Tgs} (h1 : PG X e (gT X.K t)) (h2 : PGs X es (gTs X.K r)) (hs : (assignEach (e :: es) X.env).map (·.2) = assign e X.env :: (assignEach es X.env).map (·.2) := by rfl) : PGs X (e :: es) (gTs X.K (.cons t r)) := pgs_cons h1 h2 hs
theorem gg_tup {es : List Expr} {k : Nat} {r : Tgs} (hc : X.calm = true) (h : PGs X es (gTs X.K r)) (hn : (assignEach es X.env).length = r.len := by rfl) (hst : (assignEach es X.env).findIdx? (·.1) = none := by rfl) : PG X (.Tuple es k pos) (gT X.K (.tp r)) :=
  PGor (pg_tup hc h hn hst) (pg_lst hc h hn hst)
end
def sUnp (t : Tg) (f : DE) : DS := fun env => match f env with
  | .ok tk e1 => match take e1 tk with
    | none => .bad
    | some (b, d, e2) => match bind1 t b d e2 with
      | none => .bad
      | some e3 => .nx e3
  | .exc c e1 => .exc c e1
  | .bad => .bad
theorem ts_unp {W : L2.WX} {cm : String → Addr} {Dn : Ends} {σ : L2.St} {H : Hp} {K : PySem.W.Frag} {t : Tg} {f : DE} (h : tS W cm (sUnp t f) Dn σ H) : tAsg (tD W cm f) (gT K t) Dn σ H := by
  obtain ⟨B, pn, F, N, G, Rg, env, I, h⟩ := h
  refine ⟨B, pn, F, N, G, Rg, env, I, ?_⟩
  unfold sUnp at h
  cases e : f env with
  | bad => rw [e] at h; exact h
  | exc c e1 => rw [e] at h; exact fun F' N' Rg' H' I' hF hN => h σ F' N' Rg' H' I' hF hN
  | ok tk e1 =>
    rw [e] at h
    simp only at h
    cases e2 : take e1 tk with
    | none => rw [e2] at h; exact h.elim
    | some q =>
      obtain ⟨b, d, en⟩ := q
      rw [e2] at h
      simp only at h
      cases e3 : bind1 t b d en with
      | none => rw [e3] at h; exact h.elim
      | some en' =>
        rw [e3] at h
        intro v F' N' Rg' H' R I' hF hN T A
        obtain ⟨F2, N2, Rg2, I2, hF2, hN2, r2⟩ := take_ok I' T A e2
        exact bind1_ok I2 r2 e3 fun σ' Rg3 I3 _ => h σ' F2 N2 Rg3 H' I3 (hF.trans hF2) (hN.trans hN2)
theorem gs_unp {X : Cx} {W : L2.WX} {cm : String → Addr} {tg a : Expr} {pos : Pos} {t : Tg} {f : DE} (h : PE X a (tD W cm f)) (hg : PG X tg (gT X.K t)) (hs : swapsWithSole [tg] a pos.line X.env = pure false := by rfl) (hw : swappedStores [tg] a X.env = pure none := by rfl)
    (h1 : (assignEach [tg] X.env).map (·.2) = [assign tg X.env] := by rfl) : PS X (.Assign [tg] a pos) (tS W cm (sUnp t f)) := PSimp (ps_asg h hg hs hw h1) fun _ _ _ h => ts_unp h

structure Iter (J : It) (B : Hp) (pn : Nat → Option Addr) (G F1 N1 : Hp) (b : Bool) (ds : List D) : Prop where
  go : ∀ {env : Env} {σ : L2.St} {F N G' : Hp} {Rg : Nat → Hp} {H : Hp} (i : Nat), Same G G' → Ok B pn env σ F N G' Rg H → Same F1 F → Same N1 N → i < ds.length → J.go i H
  stop : ∀ {env : Env} {σ : L2.St} {F N G' : Hp} {Rg : Nat → Hp} {H : Hp}, Same G G' → Ok B pn env σ F N G' Rg H → Same F1 F → Same N1 N → J.stop ds.length H
  yld : ∀ {env : Env} {σ : L2.St} {F N G' : Hp} {Rg : Nat → Hp} {H : Hp} (i : Nat) (x : V) (H' : Hp), Same G G' → Ok B pn env σ F N G' Rg H → Same F1 F → Same N1 N → i < ds.length → J.yld i H x H' →
    ∃ F' N' d, ds[i]? = some d ∧ Ok B pn env σ F' N' G' Rg H' ∧ Same F F' ∧ Same N N' ∧ Rp (bsel b N' F') x d
inductive SR where
  | ok (b : Bool) (ds : List D) (l : Option (Nat × Bool × Bool × List D)) (e : Env)
  | exc (c : String) (e : Env)
  | bad
abbrev DI := Env → SR
def pnS (pn : Nat → Option Addr) (i : Nat) (l : Addr) : Nat → Option Addr := fun j => if j = i then some l else pn j
def SrcOk (W : L2.WX) (cm : String → Addr) (wi : TI) (src : DI) : Prop :=
  ∀ {B : Hp} {pn : Nat → Option Addr} {env : Env} {σ : L2.St} {F N G : Hp} {Rg : Nat → Hp} {H : Hp} {R : It → Hp → Prop}, Ok B pn env σ F N G Rg H → (match src env with
    | .ok b ds none e1 => ∀ J F1 N1 Rg1 H1, Ok B pn e1 σ F1 N1 G Rg1 H1 → Same F F1 → Same N N1 → Iter J B pn G F1 N1 b ds → R J H1
    | .ok b ds (some (i, p, c, xs)) e1 => ∀ J F1 N1 Rg1 H1 l vs, Ok B (pnS pn i l) e1 σ F1 N1 (jn G (sgl l (.lst vs))) Rg1 H1 → Same F F1 → Same N N1 → dj G (sgl l (.lst vs)) → e1[i]? = some .lent → σ[i]? = some (some (.ref l)) → RpA (bsel c N1 F1) vs xs → (if p then pn i = some l else B l = none) →
      Iter J B (pnS pn i l) (jn G (sgl l (.lst vs))) F1 N1 b ds → R J H1
    | .exc c e1 => ∀ F1 N1 Rg1 H1, Ok B pn e1 σ F1 N1 G Rg1 H1 → Same F F1 → Same N N1 → W (.ref (cm c)) none σ H1
    | .bad => False) → wi σ H R
def iSeq (f : DE) : DI := fun env => match f env with
  | .ok t e1 => match t with
    | .sl i => match e1[i]? with
      | some (.own p b xs) => .ok b xs (some (i, p, b, xs)) (e1.set i .lent)
      | some (.fro b (.list ds)) => .ok b ds none e1
      | some (.fro b (.tuple ds)) => .ok b ds none e1
      | some (.ex (.list ds)) => .ok true ds none (e1.set i (.fro true (.list ds)))
      | some (.ex (.tuple ds)) => .ok true ds none (e1.set i (.fro true (.tuple ds)))
      | _ => .bad
    | t => match take e1 t with
      | some (b, .list ds, e2) => .ok b ds none e2
      | some (b, .tuple ds, e2) => .ok b ds none e2
      | _ => .bad
  | .exc c e1 => .exc c e1
  | .bad => .bad
theorem iter_list {K : PySem.W.Frag} {B : Hp} {pn : Nat → Option Addr} {G F1 N1 : Hp} {b : Bool} {ds : List D} {a : Addr} {vs : List V} (hs : ∀ {env : Env} {σ : L2.St} {F N G' : Hp} {Rg : Nat → Hp} {H : Hp}, Same G G' → Ok B pn env σ F N G' Rg H → Same F1 F → Same N1 N → SqL K H a vs)
    (r : RpA (bsel b N1 F1) vs ds) : Iter (Itl K a) B pn G F1 N1 b ds where
  go := fun i sg I hF hN hi => by
    have hi' : i < vs.length := by rw [r.len]; exact hi
    exact ⟨vs, vs[i], hs sg I hF hN, List.getElem?_eq_getElem hi'⟩
  stop := fun sg I hF hN => ⟨vs, hs sg I hF hN, Nat.le_of_eq r.len⟩
  yld := fun {env σ F N G' Rg H} i x H' sg I hF hN hi y => by
    obtain ⟨rfl, y⟩ := y
    have e := y vs (hs sg I hF hN)
    obtain ⟨d, ed, rd⟩ := r.getV e
    exact ⟨F, N, d, ed, I, Same.refl _, Same.refl _, rd.mono (bsel_mono hN hF)⟩
theorem iter_tup {K : PySem.W.Frag} {B : Hp} {pn : Nat → Option Addr} {G F1 N1 : Hp} {b : Bool} {ds : List D} {a : Addr} {vs : List V} (hs : ∀ {env : Env} {σ : L2.St} {F N G' : Hp} {Rg : Nat → Hp} {H : Hp}, Same G G' → Ok B pn env σ F N G' Rg H → Same F1 F → Same N1 N → SqT K H a vs)
    (r : RpA (bsel b N1 F1) vs ds) : Iter (Itt K a) B pn G F1 N1 b ds where
  go := fun i sg I hF hN hi => by
    have hi' : i < vs.length := by rw [r.len]; exact hi
    exact ⟨vs, vs[i], hs sg I hF hN, List.getElem?_eq_getElem hi'⟩
  stop := fun sg I hF hN => ⟨vs, hs sg I hF hN, Nat.le_of_eq r.len⟩
  yld := fun {env σ F N G' Rg H} i x H' sg I hF hN hi y => by
    obtain ⟨rfl, y⟩ := y
    have e := y vs (hs sg I hF hN)
    obtain ⟨d, ed, rd⟩ := r.getV e
    exact ⟨F, N, d, ed, I, Same.refl _, Same.refl _, rd.mono (bsel_mono hN hF)⟩
theorem Ok.lend {B : Hp} {pn : Nat → Option Addr} {env : Env} {σ : L2.St} {F N G : Hp} {Rg : Nat → Hp} {H : Hp} {i : Nat} {p b : Bool} {xs : List D} (I : Ok B pn env σ F N G Rg H) (e : env[i]? = some (.own p b xs)) :
    ∃ l vs Rg', Ok B (pnS pn i l) (env.set i .lent) σ F N (jn G (sgl l (.lst vs))) Rg' H ∧ dj G (sgl l (.lst vs)) ∧ σ[i]? = some (some (.ref l)) ∧ RpA (bsel b N F) vs xs ∧ (if p then pn i = some l else B l = none) := by
  obtain ⟨l, vs, e1, e2, r, q⟩ := I.sl i _ e
  have hi := Ok.slotLt e
  have I1 := I.off hi
  have A1 := I.offApart (i := i)
  rw [e2] at A1
  have I2 := I1.res A1
  have I3 : Ok B (pnS pn i l) (env.set i .un) σ F N (jn G (sgl l (.lst vs))) (setR Rg i emp) H := { I2 with
    sl := fun j s ej => by
      have z := I2.sl j s ej
      by_cases hj : j = i
      · subst hj
        rw [List.getElem?_set_self hi] at ej
        cases ej
        exact z
      · cases s with
        | un => exact z
        | fro b d => exact z
        | ex d => exact z
        | own p b xs =>
          obtain ⟨l', vs', z1, z2, z3, z4⟩ := z
          exact ⟨l', vs', z1, z2, z3, by unfold pnS; rw [if_neg hj]; exact z4⟩
        | kn p tab =>
          obtain ⟨a', L', z1, z2, z3, z4, z5⟩ := z
          exact ⟨a', L', z1, z2, z3, z4, by unfold pnS; rw [if_neg hj]; exact z5⟩
        | ob p o =>
          obtain ⟨a', z1, z2, z5⟩ := z
          exact ⟨a', z1, z2, by unfold pnS; rw [if_neg hj]; exact z5⟩
        | lent =>
          obtain ⟨z0, l', z1, z2⟩ := z
          exact ⟨z0, l', by unfold pnS; rw [if_neg hj]; exact z1, z2⟩ }
  have I4 := I3.put (σ' := σ) (i := i) (s := .lent) (R := emp) (by rw [List.length_set]; exact hi) ⟨rfl, l, by unfold pnS; rw [if_pos rfl], e1⟩ (emp_same _) (dj_emp _) (dj_emp _) (fun _ _ => dj_emp _) (fun _ _ => rfl) rfl
  rw [set_set] at I4
  exact ⟨l, vs, _, I4, A1.dG, e1, r, q⟩
theorem Ok.unlend {B : Hp} {pn : Nat → Option Addr} {env : Env} {σ : L2.St} {F N G : Hp} {Rg : Nat → Hp} {H : Hp} {i : Nat} {p b : Bool} {xs : List D} {l : Addr} {vs : List V} (I : Ok B (pnS pn i l) env σ F N (jn G (sgl l (.lst vs))) Rg H) (d : dj G (sgl l (.lst vs)))
    (e : env[i]? = some .lent) (r : RpA (bsel b N F) vs xs) (q : if p then pn i = some l else B l = none) : ∃ Rg', Ok B pn (env.set i (.own p b xs)) σ F N G Rg' H ∧ ∀ R, Apart F (jn G (sgl l (.lst vs))) Rg H R → Apart F G Rg' H R := by
  obtain ⟨z0, l', e1, e2⟩ := I.sl i _ e
  have el : l' = l := by
    unfold pnS at e1
    rw [if_pos rfl] at e1
    exact (Option.some.inj e1).symm
  subst el
  have hi := Ok.slotLt e
  have A : Apart F G Rg H (sgl l' (.lst vs)) := .back I d
  have I1 := (I.unres (jn_left d)).off hi
  have I3 : Ok B pn (env.set i .un) σ F N G (setR Rg i emp) H := { I1 with
    sl := fun j s ej => by
      have z := I1.sl j s ej
      by_cases hj : j = i
      · subst hj
        rw [List.getElem?_set_self hi] at ej
        cases ej
        exact z
      · cases s with
        | un => exact z
        | fro b d => exact z
        | ex d => exact z
        | own p b xs =>
          obtain ⟨l', vs', z1, z2, z3, z4⟩ := z
          refine ⟨l', vs', z1, z2, z3, ?_⟩
          unfold pnS at z4
          rw [if_neg hj] at z4
          exact z4
        | kn p tab =>
          obtain ⟨a', L', z1, z2, z3, z4, z5⟩ := z
          refine ⟨a', L', z1, z2, z3, z4, ?_⟩
          unfold pnS at z5
          rw [if_neg hj] at z5
          exact z5
        | ob p o =>
          obtain ⟨a', z1, z2, z5⟩ := z
          refine ⟨a', z1, z2, ?_⟩
          unfold pnS at z5
          rw [if_neg hj] at z5
          exact z5
        | lent =>
          obtain ⟨z0, l', z1, z2⟩ := z
          refine ⟨z0, l', ?_, z2⟩
          unfold pnS at z1
          rw [if_neg hj] at z1
          exact z1 }
  have I4 := I3.put (σ' := σ) (i := i) (s := .own p b xs) (R := sgl l' (.lst vs)) (by rw [List.length_set]; exact hi) ⟨l', vs, e2, rfl, r, q⟩ A.sR A.dF A.dG (fun j hj => by rw [setR_ne hj]; exact A.dR j) (fun _ _ => rfl) rfl
  rw [set_set] at I4
  refine ⟨_, I4, fun R AR => ⟨AR.sR, AR.dF, fun a o e => (jn_none (AR.dG a o e)).2, fun j => ?_⟩⟩
  by_cases hj : j = i
  · subst hj
    rw [setR_same]
    exact fun a o e => (jn_none (AR.dG a o e)).1
  · rw [setR_ne hj, setR_ne hj]
    exact AR.dR j
theorem src_seq {K : PySem.W.Frag} {W : L2.WX} {cm : String → Addr} {f : DE} : SrcOk W cm (fun σ H R => iList K (tD W cm f) σ H R ∨ iTup K (tD W cm f) σ H R) (iSeq f) := by
  intro B pn env σ F N G Rg H R I h
  unfold iSeq at h
  cases e : f env with
  | bad => rw [e] at h; exact h.elim
  | exc c e1 => rw [e] at h; exact .inl ⟨B, pn, F, N, G, Rg, env, I, by rw [e]; exact h⟩
  | ok t e1 =>
    rw [e] at h
    simp only at h
    -- the frozen ways
    have frL : ∀ {b : Bool} {ds : List D} {e2 : Env}, (∀ {v F' N' Rg' H' R}, Ok B pn e1 σ F' N' G Rg' H' → TokOk B σ F' N' R t v → Apart F' G Rg' H' R → ∃ F2 N2 Rg2, Ok B pn e2 σ F2 N2 G Rg2 H' ∧ Same F' F2 ∧ Same N' N2 ∧ Rp (bsel b N2 F2) v (.list ds)) →
        (∀ J F1 N1 Rg1 H1, Ok B pn e2 σ F1 N1 G Rg1 H1 → Same F F1 → Same N N1 → Iter J B pn G F1 N1 b ds → R J H1) → iList K (tD W cm f) σ H R := fun {b ds e2} k q => by
      refine ⟨B, pn, F, N, G, Rg, env, I, ?_⟩
      rw [e]
      intro v F' N' Rg' H' R' I' hF hN T A
      obtain ⟨F2, N2, Rg2, I2, hF2, hN2, r2⟩ := k I' T A
      cases r2 with
      | lst hr ra =>
        rename_i a xs
        have hs : ∀ {H3 : Hp}, Same F2 H3 → SqL K H3 a xs := fun s => .inl (Rd.same ((bsel_sub I2.sN).trans s) hr)
        exact ⟨a, rfl, ⟨xs, hs I2.sF⟩, q _ F2 N2 Rg2 H' I2 (hF.trans hF2) (hN.trans hN2) (iter_list (vs := xs) (fun _ I3 hF3 hN3 => hs (hF3.trans I3.sF)) ra)⟩
    have frT : ∀ {b : Bool} {ds : List D} {e2 : Env}, (∀ {v F' N' Rg' H' R}, Ok B pn e1 σ F' N' G Rg' H' → TokOk B σ F' N' R t v → Apart F' G Rg' H' R → ∃ F2 N2 Rg2, Ok B pn e2 σ F2 N2 G Rg2 H' ∧ Same F' F2 ∧ Same N' N2 ∧ Rp (bsel b N2 F2) v (.tuple ds)) →
        (∀ J F1 N1 Rg1 H1, Ok B pn e2 σ F1 N1 G Rg1 H1 → Same F F1 → Same N N1 → Iter J B pn G F1 N1 b ds → R J H1) → iTup K (tD W cm f) σ H R := fun {b ds e2} k q => by
      refine ⟨B, pn, F, N, G, Rg, env, I, ?_⟩
      rw [e]
      intro v F' N' Rg' H' R' I' hF hN T A
      obtain ⟨F2, N2, Rg2, I2, hF2, hN2, r2⟩ := k I' T A
      cases r2 with
      | tup hr ra =>
        rename_i a xs
        have hs : ∀ {H3 : Hp}, Same F2 H3 → SqT K H3 a xs := fun s => .inl (Rd.same ((bsel_sub I2.sN).trans s) hr)
        exact ⟨a, rfl, ⟨xs, hs I2.sF⟩, q _ F2 N2 Rg2 H' I2 (hF.trans hF2) (hN.trans hN2) (iter_tup (vs := xs) (fun _ I3 hF3 hN3 => hs (hF3.trans I3.sF)) ra)⟩
    have gen : (∀ i, t ≠ .sl i) → (match (match take e1 t with
        | some (b, .list ds, e2) => SR.ok b ds none e2
        | some (b, .tuple ds, e2) => SR.ok b ds none e2
        | _ => SR.bad) with
      | .ok b ds none e1 => ∀ J F1 N1 Rg1 H1, Ok B pn e1 σ F1 N1 G Rg1 H1 → Same F F1 → Same N N1 → Iter J B pn G F1 N1 b ds → R J H1
      | _ => False) → (iList K (tD W cm f) σ H R ∨ iTup K (tD W cm f) σ H R) := fun _ h => by
      cases e2 : take e1 t with
      | none => rw [e2] at h; exact h.elim
      | some q =>
        obtain ⟨b, d, en⟩ := q
        rw [e2] at h
        cases d with
        | list ds => exact .inl (frL (fun I' T A => take_ok I' T A e2) h)
        | tuple ds => exact .inr (frT (fun I' T A => take_ok I' T A e2) h)
        | _ => exact h.elim
    cases t with
    | fz b d => refine gen (fun i z => by cases z) ?_; cases d <;> first | exact h | exact h.elim
    | nw b xs => exact gen (fun i z => by cases z) h
    | ex d => refine gen (fun i z => by cases z) ?_; cases d <;> first | exact h | exact h.elim
    | sl i =>
      simp only at h
      cases ei : e1[i]? with
      | none => rw [ei] at h; exact h.elim
      | some s =>
        rw [ei] at h
        have tk : ∀ {b : Bool} {d : D} {en : Env}, take e1 (.sl i) = some (b, d, en) → ∀ {v F' N' Rg' H' R}, Ok B pn e1 σ F' N' G Rg' H' → TokOk B σ F' N' R (.sl i) v → Apart F' G Rg' H' R → ∃ F2 N2 Rg2, Ok B pn en σ F2 N2 G Rg2 H' ∧ Same F' F2 ∧ Same N' N2 ∧ Rp (bsel b N2 F2) v d := fun z => by
          intro v F' N' Rg' H' R I' T A
          exact take_ok I' T A z
        cases s with
        | un => exact h.elim
        | kn _ _ => exact h.elim
        | ob _ _ => exact h.elim
        | lent => exact h.elim
        | fro b d =>
          cases d with
          | list ds => exact .inl (frL (tk (by simp only [take]; rw [ei])) h)
          | tuple ds => exact .inr (frT (tk (by simp only [take]; rw [ei])) h)
          | _ => exact h.elim
        | ex d =>
          cases d with
          | list ds => exact .inl (frL (tk (by simp only [take]; rw [ei])) h)
          | tuple ds => exact .inr (frT (tk (by simp only [take]; rw [ei])) h)
          | _ => exact h.elim
        | own p b xs =>
          refine .inl ⟨B, pn, F, N, G, Rg, env, I, ?_⟩
          rw [e]
          intro v F' N' Rg' H' R' I' hF hN T A
          obtain ⟨l, vs, Rg2, I2, d2, e3, r2, q2⟩ := I'.lend ei
          have hv := T.2
          rw [e3] at hv
          cases hv
          have hs : ∀ {G' H3 : Hp}, Same (jn G (sgl l (.lst vs))) H3 → SqL K H3 l vs := fun s => .inl (.inl (s _ _ (jn_right _ _ sgl_same)))
          exact ⟨l, rfl, ⟨vs, hs (G' := G) I2.sG⟩, h _ F' N' Rg2 H' l vs I2 hF hN d2 (by rw [List.getElem?_set_self (Ok.slotLt ei)]) e3 r2 q2 (iter_list (vs := vs) (fun sg I3 _ _ => hs (G' := G) (sg.trans I3.sG)) r2)⟩
end DL
namespace DL
open PySem PySem.Spec PyProof.Rows L2
def forL (t : Tg) (body : DS) (b : Bool) : List D → Env → Out
  | [], env => .nx env
  | d :: ds, env => match bind1 t b d env with
    | none => .bad
    | some e1 => match body e1 with
      | .nx e2 => forL t body b ds e2
      | .ct e2 => forL t body b ds e2
      | .bk e2 => .nx e2
      | .rt tk e2 => .rt tk e2
      | .exc c e2 => .exc c e2
      | .bad => .bad
def giveBack (i : Nat) (p b : Bool) (xs : List D) (e : Env) : Option Env := match e[i]? with
  | some .lent => some (e.set i (.own p b xs))
  | _ => none
def unlendO (i : Nat) (p b : Bool) (xs : List D) : Out → Out
  | .nx e => match giveBack i p b xs e with
    | some e1 => .nx e1
    | none => .bad
  | .rt t e => match giveBack i p b xs e with
    | some e1 => .rt t e1
    | none => .bad
  | .exc c e => match giveBack i p b xs e with
    | some e1 => .exc c e1
    | none => .bad
  | _ => .bad
def sFor (t : Tg) (src : DI) (body : DS) : DS := fun env => match src env with
  | .ok b ds none e1 => forL t body b ds e1
  | .ok b ds (some (i, p, c, xs)) e1 => unlendO i p c xs (forL t body b ds e1)
  | .exc c e1 => .exc c e1
  | .bad => .bad
theorem giveBack_some {i : Nat} {p b : Bool} {xs : List D} {e e1 : Env} (h : giveBack i p b xs e = some e1) : e[i]? = some .lent ∧ e1 = e.set i (.own p b xs) := by
  unfold giveBack at h
  split at h
  · exact ⟨by assumption, (Option.some.inj h).symm⟩
  · cases h
theorem AftS.unlend {B : Hp} {pn : Nat → Option Addr} {F N G : Hp} {W : L2.WX} {cm : String → Addr} {Dn : Ends} {i : Nat} {p b : Bool} {xs : List D} {l : Addr} {vs : List V} {o : Out} (d : dj G (sgl l (.lst vs))) (r : RpA (bsel b N F) vs xs) (q : if p then pn i = some l else B l = none)
    (h : AftS B pn F N G W cm Dn (unlendO i p b xs o)) : AftS B (pnS pn i l) F N (jn G (sgl l (.lst vs))) W cm Dn o := by
  cases o with
  | bad => exact h
  | bk e => exact h.elim
  | ct e => exact h.elim
  | nx e =>
    intro σ' F' N' Rg' H' I hF hN
    simp only [unlendO] at h
    cases g : giveBack i p b xs e with
    | none => rw [g] at h; exact h.elim
    | some e1 =>
      rw [g] at h
      obtain ⟨g1, rfl⟩ := giveBack_some g
      obtain ⟨Rg2, I2, _⟩ := I.unlend d g1 (r.mono (bsel_mono hN hF)) q
      exact h σ' F' N' Rg2 H' I2 hF hN
  | exc c e =>
    intro σ' F' N' Rg' H' I hF hN
    simp only [unlendO] at h
    cases g : giveBack i p b xs e with
    | none => rw [g] at h; exact h.elim
    | some e1 =>
      rw [g] at h
      obtain ⟨g1, rfl⟩ := giveBack_some g
      obtain ⟨Rg2, I2, _⟩ := I.unlend d g1 (r.mono (bsel_mono hN hF)) q
      exact h σ' F' N' Rg2 H' I2 hF hN
  | rt t e =>
    intro σ' v F' N' Rg' H' R I hF hN T A
    simp only [unlendO] at h
    cases g : giveBack i p b xs e with
    | none => rw [g] at h; exact h.elim
    | some e1 =>
      rw [g] at h
      obtain ⟨g1, rfl⟩ := giveBack_some g
      obtain ⟨Rg2, I2, ap⟩ := I.unlend d g1 (r.mono (bsel_mono hN hF)) q
      exact h σ' v F' N' Rg2 H' R I2 hF hN T (ap R A)
section
variable {W : L2.WX} {cm : String → Addr}
theorem for_core {K : PySem.W.Frag} {B : Hp} {pn : Nat → Option Addr} {env : Env} {σ : L2.St} {F1 N1 G : Hp} {Rg : Nat → Hp} {H : Hp} {t : Tg} {body : DS} {b : Bool} {ds : List D} {J : It} {Dn : Ends}
    (I : Ok B pn env σ F1 N1 G Rg H) (it : Iter J B pn G F1 N1 b ds) (h : AftS B pn F1 N1 G W cm Dn (forL t body b ds env)) :
    ∃ Wv : Nat → Nat → L2.St → Hp → Prop, (∃ m, Wv 0 m σ H) ∧ ∀ i m σ H, Wv i m σ H → (J.stop i H ∧ Dn.nx σ H) ∨ (J.go i H ∧ ∃ Nx : L2.St → Hp → Prop, (∀ σ' H', Nx σ' H' → ∃ m', m' < m ∧ Wv (i + 1) m' σ' H') ∧ ∀ x H', J.yld i H x H' → gT K t x σ H' fun σ2 H2 => tS W cm body { Dn with nx := Nx, ct := Nx, bk := Dn.nx } σ2 H2) := by
  refine ⟨fun i m σ H => m + i = ds.length ∧ ∃ F N Rg env, Ok B pn env σ F N G Rg H ∧ Same F1 F ∧ Same N1 N ∧ AftS B pn F N G W cm Dn (forL t body b (ds.drop i) env), ⟨ds.length, by omega, F1, N1, Rg, env, I, Same.refl _, Same.refl _, h⟩, ?_⟩
  rintro i m σ H ⟨em, F, N, Rg, env, I, hF, hN, h⟩
  by_cases hi : i < ds.length
  · refine .inr ⟨it.go i (Same.refl _) I hF hN hi, fun σ' H' => (m - 1) + (i + 1) = ds.length ∧ ∃ F N Rg env, Ok B pn env σ' F N G Rg H' ∧ Same F1 F ∧ Same N1 N ∧ AftS B pn F N G W cm Dn (forL t body b (ds.drop (i + 1)) env), fun σ' H' q => ⟨m - 1, by omega, q⟩, fun x H' y => ?_⟩
    obtain ⟨F', N', d, ed, I', hF', hN', r⟩ := it.yld i x H' (Same.refl _) I hF hN hi y
    have e0 : ds.drop i = d :: ds.drop (i + 1) := by
      rw [List.getElem?_eq_getElem hi] at ed
      cases ed
      exact List.drop_eq_getElem_cons hi
    rw [e0] at h
    simp only [forL] at h
    cases e1 : bind1 t b d env with
    | none => rw [e1] at h; exact h.elim
    | some en =>
      rw [e1] at h
      simp only at h
      refine bind1_ok I' r e1 fun σ2 Rg2 I2 _ => ⟨B, pn, F', N', G, Rg2, en, I2, ?_⟩
      cases e2 : body en with
      | nx e3 =>
        rw [e2] at h
        exact fun σ3 F3 N3 Rg3 H3 I3 hF3 hN3 => ⟨by omega, F3, N3, Rg3, e3, I3, hF.trans (hF'.trans hF3), hN.trans (hN'.trans hN3), h.low (hF'.trans hF3) (hN'.trans hN3)⟩
      | ct e3 =>
        rw [e2] at h
        exact fun σ3 F3 N3 Rg3 H3 I3 hF3 hN3 => ⟨by omega, F3, N3, Rg3, e3, I3, hF.trans (hF'.trans hF3), hN.trans (hN'.trans hN3), h.low (hF'.trans hF3) (hN'.trans hN3)⟩
      | bk e3 =>
        rw [e2] at h
        exact fun σ3 F3 N3 Rg3 H3 I3 hF3 hN3 => h σ3 F3 N3 Rg3 H3 I3 (hF'.trans hF3) (hN'.trans hN3)
      | rt tk e3 =>
        rw [e2] at h
        exact fun σ3 v F3 N3 Rg3 H3 R I3 hF3 hN3 T A => h σ3 v F3 N3 Rg3 H3 R I3 (hF'.trans hF3) (hN'.trans hN3) T A
      | exc c e3 =>
        rw [e2] at h
        exact fun σ3 F3 N3 Rg3 H3 I3 hF3 hN3 => h σ3 F3 N3 Rg3 H3 I3 (hF'.trans hF3) (hN'.trans hN3)
      | bad => rw [e2] at h; exact h.elim
  · have ei : i = ds.length := by omega
    subst ei
    rw [List.drop_length] at h
    exact .inl ⟨it.stop (Same.refl _) I hF hN, h σ F N Rg H I (Same.refl _) (Same.refl _)⟩
theorem ts_for {K : PySem.W.Frag} {wi : TI} {t : Tg} {src : DI} {body : DS} (hs : SrcOk W cm wi src) {Dn : Ends} {σ : L2.St} {H : Hp} (h : tS W cm (sFor t src body) Dn σ H) : tFor wi (gT K t) (tS W cm body) Dn σ H := by
  obtain ⟨B, pn, F, N, G, Rg, env, I, h⟩ := h
  refine hs I ?_
  unfold sFor at h
  cases e : src env with
  | bad => rw [e] at h; exact h
  | exc c e1 => rw [e] at h; exact fun F1 N1 Rg1 H1 I1 hF hN => h σ F1 N1 Rg1 H1 I1 hF hN
  | ok b ds w e1 =>
    rw [e] at h
    cases w with
    | none => exact fun J F1 N1 Rg1 H1 I1 hF hN it => for_core I1 it (h.low hF hN)
    | some w =>
      obtain ⟨i, p, c, xs⟩ := w
      exact fun J F1 N1 Rg1 H1 l vs I1 hF hN d el ev r q it => for_core I1 it (AftS.unlend d r q (h.low hF hN))
end
theorem PIor {X : Cx} {tg iter : Expr} {w1 w2 : TI} (h1 : PI X tg iter w1) (h2 : PI X tg iter w2) : PI X tg iter (fun σ H R => w1 σ H R ∨ w2 σ H R) := ⟨fun pins s σ H R I h => by
  rcases h with h | h
  · exact h1.run pins s σ H R I h
  · exact h2.run pins s σ H R I h⟩
structure GI (X : Cx) (W : L2.WX) (cm : String → Addr) (tg iter : Expr) (src : DI) : Prop where
  ex : ∃ wi, PI X tg iter wi ∧ SrcOk W cm wi src
section
variable {X : Cx} {W : L2.WX} {cm : String → Addr} {tg iter e : Expr} {pos : Pos} {src : DI} {f : DE}
theorem gi_seq (h : PE X e (tD W cm f)) : GI X W cm tg e (iSeq f) := ⟨_, PIor (pi_list h) (pi_tup h), src_seq⟩
theorem gs_for {body : List Stmt} {t : Tg} {s : DS} (hp : PassesOwn (model X.prog X.w) X.A X.env X.xe) (hc : X.calm = true) (hi : GI X W cm tg iter src) (hg : PG X tg (gT X.K t)) (hb : PSs X body (tS W cm s))
    (hs : ∀ x, foldedSetIterable iter X.env x = pure x := by intro _; rfl) : PS X (.For tg iter body [] pos) (tS W cm (sFor t src s)) := by
  obtain ⟨wi, h1, h2⟩ := hi.ex
  exact PSimp (ps_for hp hc h1 hg hb hs) fun _ _ _ h => ts_for h2 h
end
def intsOf (lo : Int) (n : Nat) : List D := (List.range n).map fun k => PyData.int (lo + (k : Nat))
theorem intsOf_get {lo : Int} {n i : Nat} (h : i < n) : (intsOf lo n)[i]? = some (.int (lo + (i : Nat))) := by
  unfold intsOf
  rw [List.getElem?_map, List.getElem?_range h]
  rfl
theorem intsOf_len {lo : Int} {n : Nat} : (intsOf lo n).length = n := by
  unfold intsOf
  rw [List.length_map, List.length_range]
theorem iter_range {B : Hp} {pn : Nat → Option Addr} {G F1 N1 : Hp} {lo : Int} {n : Nat} : Iter (Itr lo n) B pn G F1 N1 true (intsOf lo n) where
  go := fun i _ _ _ _ hi => by rw [intsOf_len] at hi; exact hi
  stop := fun _ _ _ _ => by rw [intsOf_len]; exact Nat.le_refl _
  yld := fun {env σ F N G' Rg H} i x H' sg I hF hN hi y => by
    obtain ⟨rfl, rfl⟩ := y
    rw [intsOf_len] at hi
    exact ⟨F, N, _, intsOf_get hi, I, Same.refl _, Same.refl _, .int _⟩
def smallI (i : Int) : Bool := decide (-(2 ^ 62) ≤ i) && decide (i < 2 ^ 62)
def iRange (fs : List DE) : DI := fun env => match dArgs fs env with
  | .ok ts e1 => match rds e1 ts with
    | some [.int j] => match smallI j with
      | true => .ok true (intsOf 0 j.toNat) none e1
      | false => .bad
    | some [.int i, .int j] => match smallI i && smallI j with
      | true => .ok true (intsOf i (j - i).toNat) none e1
      | false => .bad
    | _ => .bad
  | .exc c e1 => .exc c e1
  | .bad => .bad
theorem smallI_ok {i : Int} (h : smallI i = true) : -(2 ^ 62) ≤ i ∧ i < 2 ^ 62 := by
  unfold smallI at h
  rw [Bool.and_eq_true, decide_eq_true_eq, decide_eq_true_eq] at h
  exact h
theorem src_range1 {W : L2.WX} {cm : String → Addr} {f : DE} : SrcOk W cm (iRng1 (tAD W cm [f])) (iRange [f]) := by
  intro B pn env σ F N G Rg H R I h
  unfold iRange at h
  refine args_read I ?_
  cases e : dArgs [f] env with
  | bad => rw [e] at h; exact h
  | exc c e1 => rw [e] at h; exact h
  | ok ts e1 =>
    rw [e] at h
    simp only at h
    intro vs F1 N1 Rg1 H1 I1 hF hN T1
    cases e2 : rds e1 ts with
    | none => rw [e2] at h; exact h.elim
    | some dd =>
      have r := rds_ok I1 T1 e2
      rw [e2] at h
      have l1 : ts.length = 1 := by
        simp only [dArgs] at e
        cases e3 : f env with
        | bad => rw [e3] at e; cases e
        | exc c en => rw [e3] at e; cases e
        | ok t en => rw [e3] at e; cases e; rfl
      have l2 : ∀ {ts : List Tok} {dd : List D}, rds e1 ts = some dd → dd.length = ts.length := by
        intro ts
        induction ts with
        | nil => intro dd h; cases h; rfl
        | cons t ts ih =>
          intro dd h
          simp only [rds] at h
          cases q : rd e1 t with
          | none => rw [q] at h; cases h
          | some d =>
            rw [q] at h
            cases q2 : rds e1 ts with
            | none => rw [q2] at h; cases h
            | some d2 => rw [q2] at h; cases h; simp [ih q2]
      have l3 := l2 e2
      rw [l1] at l3
      match dd, l3, r, h with
      | [d], _, r, h =>
        cases d with
        | int j =>
          simp only at h
          cases r with
          | cons r1 r2 =>
            cases r1
            cases r2
            cases hs : smallI j with
            | false => rw [hs] at h; exact h.elim
            | true =>
              rw [hs] at h
              obtain ⟨s1, s2⟩ := smallI_ok hs
              exact ⟨j, rfl, s1, s2, h _ F1 N1 Rg1 H1 I1 hF hN iter_range⟩
        | _ => exact h.elim
theorem src_range2 {W : L2.WX} {cm : String → Addr} {f g : DE} : SrcOk W cm (iRng2 (tAD W cm [f, g])) (iRange [f, g]) := by
  intro B pn env σ F N G Rg H R I h
  unfold iRange at h
  refine args_read I ?_
  cases e : dArgs [f, g] env with
  | bad => rw [e] at h; exact h
  | exc c e1 => rw [e] at h; exact h
  | ok ts e1 =>
    rw [e] at h
    simp only at h
    intro vs F1 N1 Rg1 H1 I1 hF hN T1
    cases e2 : rds e1 ts with
    | none => rw [e2] at h; exact h.elim
    | some dd =>
      have r := rds_ok I1 T1 e2
      rw [e2] at h
      have l1 : ts.length = 2 := by
        simp only [dArgs] at e
        cases e3 : f env with
        | bad => rw [e3] at e; cases e
        | exc c en => rw [e3] at e; cases e
        | ok t en =>
          rw [e3] at e
          simp only at e
          cases e4 : g en with
          | bad => rw [e4] at e; cases e
          | exc c en => rw [e4] at e; cases e
          | ok t en => rw [e4] at e; cases e; rfl
      have l2 : ∀ {ts : List Tok} {dd : List D}, rds e1 ts = some dd → dd.length = ts.length := by
        intro ts
        induction ts with
        | nil => intro dd h; cases h; rfl
        | cons t ts ih =>
          intro dd h
          simp only [rds] at h
          cases q : rd e1 t with
          | none => rw [q] at h; cases h
          | some d =>
            rw [q] at h
            cases q2 : rds e1 ts with
            | none => rw [q2] at h; cases h
            | some d2 => rw [q2] at h; cases h; simp [ih q2]
      have l3 := l2 e2
      rw [l1] at l3
      match dd, l3, r, h with
      | [d, d'], _, r, h =>
        cases d with
        | int i =>
          cases d' with
          | int j =>
            simp only at h
            cases r with
            | cons r1 r2 =>
              cases r1
              cases r2 with
              | cons r2 r3 =>
                cases r2
                cases r3
                cases hs : smallI i && smallI j with
                | false => rw [hs] at h; exact h.elim
                | true =>
                  rw [hs] at h
                  rw [Bool.and_eq_true] at hs
                  obtain ⟨s1, s2⟩ := smallI_ok hs.1
                  obtain ⟨s3, s4⟩ := smallI_ok hs.2
                  exact ⟨i, j, rfl, ⟨s1, s2, s3, s4⟩, h _ F1 N1 Rg1 H1 I1 hF hN iter_range⟩
          | _ => exact h.elim
        | _ => exact h.elim
section
variable {X : Cx} {W : L2.WX} {cm : String → Addr} {tg a b : Expr} {p pos : Pos} {f g : DE}
theorem ga_nil : PA X [] (tAD W cm []) := pa_nil
theorem ga_cons {e : Expr} {es : List Expr} {f : DE} {fs : List DE} (h : PE X e (tD W cm f)) (hr : PA X es (tAD W cm fs)) (hs : starEach (e :: es) X.env = (false, eval e X.env) :: starEach es X.env := by rfl) : PA X (e :: es) (tAD W cm (f :: fs)) := pa_cons h hr hs
theorem gi_range1 (hg : Gl X "range") (hm : X.mg "range" = none) (ha : PA X [a] (tAD W cm [f])) (hs : starEach [a] X.env = [(false, eval a X.env)] := by rfl) : GI X W cm tg (.Call (.Name "range" p) [a] [] pos) (iRange [f]) := ⟨_, pi_range1 hg hm ha hs, src_range1⟩
theorem gi_range2 (hg : Gl X "range") (hm : X.mg "range" = none) (ha : PA X [a, b] (tAD W cm [f, g])) (hs : starEach [a, b] X.env = [(false, eval a X.env), (false, eval b X.env)] := by rfl) (hs2 : starEach [b] X.env = [(false, eval b X.env)] := by rfl) : GI X W cm tg (.Call (.Name "range" p) [a, b] [] pos) (iRange [f, g]) := ⟨_, pi_range2 hg hm ha hs hs2, src_range2⟩
end
end DL
namespace DL
open PySem PySem.Spec PyProof.Rows L2
def wipeE (env : Env) : List Nat → Env
  | [] => env
  | v :: vs => (wipeE env vs).set v .un
def unwipeE (env env0 : Env) : List Nat → Env
  | [] => env
  | v :: vs => (unwipeE env env0 vs).set v (env0[v]?.getD .un)
def plainAt (env : Env) : List Nat → Bool
  | [] => true
  | v :: vs => (match env[v]? with
    | some .un => true
    | some (.fro _ _) => true
    | none => true
    | _ => false) && plainAt env vs
theorem wipeE_len (env : Env) : ∀ vs : List Nat, (wipeE env vs).length = env.length
  | [] => rfl
  | v :: vs => by unfold wipeE; rw [List.length_set, wipeE_len env vs]
theorem wipeE_get (env : Env) {j : Nat} : ∀ {vs : List Nat}, (wipeE env vs)[j]? = if j ∈ vs then (env[j]?.map fun _ => Slot.un) else env[j]?
  | [] => by simp [wipeE]
  | v :: vs => by
    unfold wipeE
    by_cases h : v = j
    · subst h
      rw [if_pos List.mem_cons_self]
      by_cases hv : v < env.length
      · rw [List.getElem?_set_self (by rw [wipeE_len]; exact hv), List.getElem?_eq_getElem hv]; rfl
      · rw [List.getElem?_eq_none (by rw [List.length_set, wipeE_len]; omega), List.getElem?_eq_none (by omega)]; rfl
    · rw [List.getElem?_set_ne h, wipeE_get env (vs := vs)]
      by_cases hj : j ∈ vs
      · rw [if_pos hj, if_pos (List.mem_cons_of_mem _ hj)]
      · rw [if_neg hj, if_neg (by simp only [List.mem_cons, not_or]; exact ⟨fun e => h e.symm, hj⟩)]
theorem unwipeE_len (env env0 : Env) : ∀ vs : List Nat, (unwipeE env env0 vs).length = env.length
  | [] => rfl
  | v :: vs => by unfold unwipeE; rw [List.length_set, unwipeE_len env env0 vs]
theorem unwipeE_get (env env0 : Env) {j : Nat} : ∀ {vs : List Nat}, (unwipeE env env0 vs)[j]? = if j ∈ vs then (env[j]?.map fun _ => env0[j]?.getD Slot.un) else env[j]?
  | [] => by simp [unwipeE]
  | v :: vs => by
    unfold unwipeE
    by_cases h : v = j
    · subst h
      rw [if_pos List.mem_cons_self]
      by_cases hv : v < env.length
      · rw [List.getElem?_set_self (by rw [unwipeE_len]; exact hv), List.getElem?_eq_getElem hv]; rfl
      · have z : env[v]? = none := List.getElem?_eq_none (by omega)
        rw [List.getElem?_eq_none (by rw [List.length_set, unwipeE_len]; omega), z]; rfl
    · rw [List.getElem?_set_ne h, unwipeE_get env env0 (vs := vs)]
      by_cases hj : j ∈ vs
      · rw [if_pos hj, if_pos (List.mem_cons_of_mem _ hj)]
      · rw [if_neg hj, if_neg (by simp only [List.mem_cons, not_or]; exact ⟨fun e => h e.symm, hj⟩)]
theorem plainAt_get {env : Env} {j : Nat} : ∀ {vs : List Nat}, plainAt env vs = true → j ∈ vs → env[j]? = none ∨ env[j]? = some .un ∨ ∃ b d, env[j]? = some (.fro b d)
  | [], _, h => by simp at h
  | v :: vs, h, hm => by
    simp only [plainAt, Bool.and_eq_true] at h
    rcases List.mem_cons.mp hm with rfl | hm
    · have h := h.1
      split at h
      · rename_i e; exact .inr (.inl e)
      · rename_i b d e; exact .inr (.inr ⟨_, _, e⟩)
      · rename_i e; exact .inl e
      · cases h
    · exact plainAt_get h.2 hm
theorem wipe_out {σ : L2.St} {j : Nat} : ∀ {vs : List Nat}, j ∉ vs → (wipe σ vs)[j]? = σ[j]?
  | [], _ => rfl
  | v :: vs, h => by
    simp only [List.mem_cons, not_or] at h
    unfold wipe
    rw [List.getElem?_set_ne (fun e => h.1 e.symm), wipe_out h.2]
theorem wipe_ext {σ σ' : L2.St} {vs : List Nat} (hl : σ'.length = σ.length) (h : ∀ j, j ∉ vs → σ'[j]? = σ[j]?) : wipe σ' vs = wipe σ vs := by
  have key : ∀ (τ : L2.St) (j : Nat), (wipe τ vs)[j]? = if j ∈ vs then (τ[j]?.map fun _ => none) else τ[j]? := by
    intro τ j
    clear h
    induction vs with
    | nil => simp [wipe]
    | cons v vs ih =>
      unfold wipe
      by_cases hv : v = j
      · subst hv
        rw [if_pos List.mem_cons_self]
        by_cases hlt : v < τ.length
        · rw [List.getElem?_set_self (by rw [wipe_length]; exact hlt), List.getElem?_eq_getElem hlt]; rfl
        · rw [List.getElem?_eq_none (by rw [List.length_set, wipe_length]; omega), List.getElem?_eq_none (by omega)]; rfl
      · rw [List.getElem?_set_ne hv, ih]
        by_cases hj : j ∈ vs
        · rw [if_pos hj, if_pos (List.mem_cons_of_mem _ hj)]
        · rw [if_neg hj, if_neg (by simp only [List.mem_cons, not_or]; exact ⟨fun e => hv e.symm, hj⟩)]
  refine List.ext_getElem? fun j => ?_
  rw [key, key]
  by_cases hj : j ∈ vs
  · rw [if_pos hj, if_pos hj]
    by_cases hlt : j < σ.length
    · rw [List.getElem?_eq_getElem hlt, List.getElem?_eq_getElem (by omega)]; rfl
    · rw [List.getElem?_eq_none (by omega), List.getElem?_eq_none (by omega)]
  · rw [if_neg hj, if_neg hj, h j hj]
section
variable {B : Hp} {pn : Nat → Option Addr} {env : Env} {σ : L2.St} {F N G : Hp} {Rg : Nat → Hp} {H R : Hp}
def offL (Rg : Nat → Hp) (vs : List Nat) : Nat → Hp := fun j => if j ∈ vs then emp else Rg j
theorem Ok.wipe {vs : List Nat} (I : Ok B pn env σ F N G Rg H) : Ok B pn (wipeE env vs) (L2.wipe σ vs) F N G (offL Rg vs) H where
  len := by rw [wipeE_len, wipe_length]; exact I.len
  sF := I.sF
  sN := I.sN
  sG := I.sG
  dG := I.dG
  nB := I.nB
  nZ := I.nZ
  hB := I.hB
  sl := fun j s e => by
    rw [wipeE_get] at e
    unfold offL
    by_cases hj : j ∈ vs
    · rw [if_pos hj] at e ⊢
      cases q : env[j]? with
      | none => rw [q] at e; cases e
      | some t => rw [q] at e; cases e; rfl
    · rw [if_neg hj] at e ⊢
      have z := I.sl j s e
      have w := wipe_out (σ := σ) hj
      cases s with
      | un => exact z
      | fro b d => exact ⟨z.1, z.2.choose, w.trans z.2.choose_spec.1, z.2.choose_spec.2⟩
      | ex d => obtain ⟨v, e1, r⟩ := z; exact ⟨v, w.trans e1, r⟩
      | own p b xs => obtain ⟨l, ws, e1, r⟩ := z; exact ⟨l, ws, w.trans e1, r⟩
      | kn p tab => obtain ⟨a, L, e1, r⟩ := z; exact ⟨a, L, w.trans e1, r⟩
      | ob p o => obtain ⟨a, e1, r⟩ := z; exact ⟨a, w.trans e1, r⟩
      | lent => obtain ⟨z0, l, e1, e2⟩ := z; exact ⟨z0, l, e1, w.trans e2⟩
  sR := fun j => by unfold offL; split; exact emp_same _; exact I.sR j
  dF := fun j => by unfold offL; split; exact dj_emp _; exact I.dF j
  dRG := fun j => by unfold offL; split; exact dj_emp _; exact I.dRG j
  dR := fun i j h => by
    unfold offL
    by_cases hj : j ∈ vs
    · rw [if_pos hj]; exact dj_emp _
    · rw [if_neg hj]
      by_cases hi : i ∈ vs
      · rw [if_pos hi]; exact emp_dj _
      · rw [if_neg hi]; exact I.dR i j h
  out := fun j h => by
    rw [wipeE_len] at h
    unfold offL
    split
    · rfl
    · exact I.out j h
theorem Apart.offL {vs : List Nat} (A : Apart F G Rg H R) : Apart F G (offL Rg vs) H R := ⟨A.sR, A.dF, A.dG, fun j => by unfold DL.offL; split; exact emp_dj _; exact A.dR j⟩
theorem Ok.unwipe {env0 : Env} {F0 N0 G0 : Hp} {Rg0 : Nat → Hp} {H0 : Hp} {pn0 : Nat → Option Addr} {vs : List Nat} (I : Ok B pn env (L2.wipe σ vs) F N G Rg H) (I0 : Ok B pn0 env0 σ F0 N0 G0 Rg0 H0) (hF : Same F0 F) (hN : Same N0 N) (hp : plainAt env0 vs = true) :
    Ok B pn (unwipeE env env0 vs) σ F N G (offL Rg vs) H where
  len := by rw [unwipeE_len, I.len, wipe_length]
  sF := I.sF
  sN := I.sN
  sG := I.sG
  dG := I.dG
  nB := I.nB
  nZ := I.nZ
  hB := I.hB
  sl := fun j s e => by
    rw [unwipeE_get] at e
    unfold offL
    by_cases hj : j ∈ vs
    · rw [if_pos hj] at e ⊢
      cases q : env[j]? with
      | none => rw [q] at e; cases e
      | some t =>
        rw [q] at e
        rcases plainAt_get hp hj with z | z | ⟨b, d, z⟩
        · rw [z] at e; cases e; rfl
        · rw [z] at e; cases e; rfl
        · rw [z] at e
          cases e
          obtain ⟨_, v, e1, r⟩ := I0.sl j _ z
          exact ⟨rfl, v, e1, r.mono (bsel_mono hN hF)⟩
    · rw [if_neg hj] at e ⊢
      have z := I.sl j s e
      have w := wipe_out (σ := σ) hj
      cases s with
      | un => exact z
      | fro b d => exact ⟨z.1, z.2.choose, w.symm.trans z.2.choose_spec.1, z.2.choose_spec.2⟩
      | ex d => obtain ⟨v, e1, r⟩ := z; exact ⟨v, w.symm.trans e1, r⟩
      | own p b xs => obtain ⟨l, ws, e1, r⟩ := z; exact ⟨l, ws, w.symm.trans e1, r⟩
      | kn p tab => obtain ⟨a, L, e1, r⟩ := z; exact ⟨a, L, w.symm.trans e1, r⟩
      | ob p o => obtain ⟨a, e1, r⟩ := z; exact ⟨a, w.symm.trans e1, r⟩
      | lent => obtain ⟨z0, l, e1, e2⟩ := z; exact ⟨z0, l, e1, w.symm.trans e2⟩
  sR := fun j => by unfold offL; split; exact emp_same _; exact I.sR j
  dF := fun j => by unfold offL; split; exact dj_emp _; exact I.dF j
  dRG := fun j => by unfold offL; split; exact dj_emp _; exact I.dRG j
  dR := fun i j h => by
    unfold offL
    by_cases hj : j ∈ vs
    · rw [if_pos hj]; exact dj_emp _
    · rw [if_neg hj]
      by_cases hi : i ∈ vs
      · rw [if_pos hi]; exact emp_dj _
      · rw [if_neg hi]; exact I.dR i j h
  out := fun j h => by
    rw [unwipeE_len] at h
    unfold offL
    split
    · rfl
    · exact I.out j h
theorem Ok.updA {l : Addr} {o o' : HO} (I : Ok B pn env σ F N G Rg H) (A : Apart F G Rg H (sgl l o)) : Ok B pn env σ F N G Rg (upd H l o') := by
  have hs : ∀ {M : Hp}, Same M H → M l = none → Same M (upd H l o') := fun s n a u e => by
    by_cases h : a = l
    · subst h; rw [n] at e; cases e
    · rw [upd_ne h]; exact s _ _ e
  exact { I with
    sF := hs I.sF (A.dF _ _ sgl_same)
    sG := hs I.sG (A.dG _ _ sgl_same)
    hB := fun a e => by
      by_cases h : a = l
      · subst h; rw [upd_same] at e; cases e
      · rw [upd_ne h] at e; exact I.hB a e
    sR := fun i => hs (I.sR i) (A.dR i _ _ sgl_same) }
theorem Apart.updA {l : Addr} {o o' : HO} (A : Apart F G Rg H (sgl l o)) : Apart F G Rg (upd H l o') (sgl l o') :=
  ⟨sgl_same_iff upd_same, dj_sgl (A.dF _ _ sgl_same), dj_sgl (A.dG _ _ sgl_same), fun i => dj_sgl (A.dR i _ _ sgl_same)⟩
end
inductive CR where
  | ok (ps : List (Bool × D)) (e : Env)
  | bad
def dYes : DT := fun env => .ok true env
def compL (own : List Nat) (t : Tg) (tt : DT) (el : DE) (b : Bool) : List D → List (Bool × D) → Env → CR
  | [], acc, env => .ok acc env
  | d :: ds, acc, env => match bind1 t b d env with
    | none => .bad
    | some e1 => match tt e1 with
      | .ok false e2 => compL own t tt el b ds acc (wipeE e2 own)
      | .ok true e2 => match el e2 with
        | .ok tk e3 => match take e3 tk with
          | none => .bad
          | some (b', d', e4) => compL own t tt el b ds (acc ++ [(b', d')]) (wipeE e4 own)
        | _ => .bad
      | _ => .bad
def inOwn (own : List Nat) : Tg → Bool
  | .nm i => own.contains i
  | .tp ts => go ts
where
  go : Tgs → Bool
  | .nil => true
  | .cons (.nm i) r => own.contains i && go r
  | .cons (.tp ts) r => go ts && go r
def eComp (own : List Nat) (t : Tg) (src : DI) (tt : DT) (el : DE) : DE := fun env => match src env with
  | .ok b ds w e1 => match decide (ds.length ≤ 16777216) && plainAt e1 own with
    | false => .bad
    | true => match compL own t tt el b ds [] (wipeE e1 own) with
      | .bad => .bad
      | .ok ps e2 => match w with
        | none => .ok (.nw (tagAll ps) (ps.map (·.2))) (unwipeE e2 e1 own)
        | some (i, p, c, xs) => match giveBack i p c xs (unwipeE e2 e1 own) with
          | none => .bad
          | some e3 => .ok (.nw (tagAll ps) (ps.map (·.2))) e3
  | .exc c e1 => .exc c e1
  | .bad => .bad
theorem RpB.snoc {N F : Hp} {v : V} {b : Bool} {d : D} (h : Rp (bsel b N F) v d) : ∀ {ps : List (Bool × D)} {vs : List V}, RpB N F vs ps → RpB N F (vs ++ [v]) (ps ++ [(b, d)])
  | [], vs, r => by
    have e : vs = [] := r
    subst e
    exact ⟨v, [], rfl, h, rfl⟩
  | (b', d') :: ps, vs, r => by
    obtain ⟨w, ws, rfl, r1, r2⟩ := r
    exact ⟨w, ws ++ [v], rfl, r1, r2.snoc h⟩
theorem RpB.len {N F : Hp} : ∀ {ps : List (Bool × D)} {vs : List V}, RpB N F vs ps → vs.length = ps.length
  | [], vs, r => by
    have e : vs = [] := r
    subst e
    rfl
  | (b', d') :: ps, vs, r => by
    obtain ⟨w, ws, rfl, r1, r2⟩ := r
    rw [List.length_cons, List.length_cons, r2.len]
section
variable {W : L2.WX} {cm : String → Addr}
abbrev W0 : L2.WX := fun _ _ _ _ => False
theorem inOwn_go {own : List Nat} {j : Nat} (hj : j ∉ own) : ∀ ts : Tgs, inOwn.go own ts = true → ts.has j = false
  | .nil, _ => rfl
  | .cons (.nm i) r, h => by
    simp only [inOwn.go, Bool.and_eq_true] at h
    simp only [Tgs.has, Tg.has, Bool.or_eq_false_iff]
    refine ⟨decide_eq_false fun e => hj ?_, inOwn_go hj r h.2⟩
    subst e
    simpa using h.1
  | .cons (.tp ts) r, h => by
    simp only [inOwn.go, Bool.and_eq_true] at h
    simp only [Tgs.has, Tg.has, Bool.or_eq_false_iff]
    exact ⟨inOwn_go hj ts h.1, inOwn_go hj r h.2⟩
theorem inOwn_has {own : List Nat} {t : Tg} (h : inOwn own t = true) {j : Nat} (hj : j ∉ own) : t.has j = false := by
  cases t with
  | nm i =>
    simp only [inOwn] at h
    simp only [Tg.has]
    exact decide_eq_false fun e => hj (by subst e; simpa using h)
  | tp ts => exact inOwn_go hj ts h
theorem comp_core {K : PySem.W.Frag} {B : Hp} {pn : Nat → Option Addr} {env : Env} {σ : L2.St} {F1 N1 G : Hp} {Rg : Nat → Hp} {H : Hp} {own : List Nat} {t : Tg} {tt : DT} {el : DE} {b : Bool} {ds : List D} {J : It} {Qd : Addr → Hp → Prop} {ps : List (Bool × D)} {en : Env}
    (I : Ok B pn env (wipe σ own) F1 N1 G Rg H) (it : Iter J B pn G F1 N1 b ds) (ho : inOwn own t = true) (hz : ds.length ≤ sizeLine) (h : compL own t tt el b ds [] env = .ok ps en)
    (hQ : ∀ Dl F N Rg H acc, Ok B pn en (wipe σ own) F N G Rg H → Same F1 F → Same N1 N → Apart F G Rg H (sgl Dl (.lst acc)) → RpB N F acc ps → B Dl = none → Qd Dl H) :
    ∀ Dl, H Dl = none → ∃ Wv : Nat → Nat → Hp → Prop, (∃ m, Wv 0 m (upd H Dl (.lst []))) ∧ ∀ i m H, Wv i m H → (J.stop i H ∧ Qd Dl H) ∨ (J.go i H ∧ ∃ Nx : Hp → Prop, (∀ H', Nx H' → ∃ m', m' < m ∧ Wv (i + 1) m' H') ∧ ∀ x H', J.yld i H x H' → gT K t x (wipe σ own) H' fun σ2 H2 => wipe σ2 own = wipe σ own ∧ tT W0 cm tt σ2 H2 fun b H3 =>
      if b = true then tD W0 cm el σ2 H3 fun y H4 => ∃ acc, H4 Dl = some (.lst acc) ∧ acc.length < sizeLine ∧ Nx (upd H4 Dl (.lst (acc ++ [y]))) else Nx H3) := by
  intro Dl hD
  have ww : ∀ σ : L2.St, wipe (wipe σ own) own = wipe σ own := fun σ => wipe_ext (wipe_length _ _) fun j hj => wipe_out hj
  -- what holds ahead of turn i
  let P : Nat → Hp → Prop := fun i H => ∃ F N Rg env acc qs, Ok B pn env (wipe σ own) F N G Rg H ∧ Same F1 F ∧ Same N1 N ∧ Apart F G Rg H (sgl Dl (.lst acc)) ∧ RpB N F acc qs ∧ qs.length ≤ i ∧ compL own t tt el b (ds.drop i) qs env = .ok ps en
  refine ⟨fun i m H => m + i = ds.length ∧ P i H, ⟨ds.length, by omega, F1, N1, Rg, env, [], [], I.grow (upd_Same hD), Same.refl _, Same.refl _, I.fresh hD, rfl, Nat.le_refl _, h⟩, ?_⟩
  rintro i m H2 ⟨em, F, N, Rg2, env2, acc, qs, I2, hF, hN, A2, r2, hq, h2⟩
  have bD : B Dl = none := I.hB Dl hD
  by_cases hi : i < ds.length
  · refine .inr ⟨it.go i (Same.refl _) I2 hF hN hi, P (i + 1), fun H' q => ⟨m - 1, by omega, by omega, q⟩, fun x H' y => ?_⟩
    have IG := I2.res A2
    obtain ⟨F3, N3, d, ed, I3, hF3, hN3, r3⟩ := it.yld i x H' (jn_left A2.dG) IG hF hN hi y
    have e0 : ds.drop i = d :: ds.drop (i + 1) := by
      rw [List.getElem?_eq_getElem hi] at ed
      cases ed
      exact List.drop_eq_getElem_cons hi
    rw [e0] at h2
    simp only [compL] at h2
    cases e1 : bind1 t b d env2 with
    | none => rw [e1] at h2; cases h2
    | some en1 =>
      rw [e1] at h2
      simp only at h2
      refine bind1_ok I3 r3 e1 fun σ4 Rg4 I4 hσ => ?_
      have wσ : wipe σ4 own = wipe σ own := by
        have hl : σ4.length = (wipe σ own).length := by
          have l1 := I4.len
          have l3 := I3.len
          obtain z : en1.length = env2.length := by
            clear h2 hσ I4
            have : ∀ (t : Tg) (b : Bool) (d : D) (e e' : Env), bind1 t b d e = some e' → e'.length = e.length := by
              intro t
              refine Tg.rec (motive_1 := fun t => ∀ (b : Bool) (d : D) (e e' : Env), bind1 t b d e = some e' → e'.length = e.length) (motive_2 := fun ts => ∀ (b : Bool) (ds : List D) (e e' : Env), bindN ts b ds e = some e' → e'.length = e.length) ?_ ?_ ?_ ?_ t
              · intro i b d e e' h
                obtain ⟨_, rfl⟩ := setSlot_lt h
                rw [List.length_set]
              · intro ts ih b d e e' h
                cases d <;> first
                  | exact ih _ _ _ _ h
                  | (simp [bind1] at h)
              · intro b ds e e' h
                cases ds with
                | nil => simp only [bindN] at h; cases h; rfl
                | cons _ _ => simp [bindN] at h
              · intro t ts ih1 ih2 b ds e e' h
                cases ds with
                | nil => simp [bindN] at h
                | cons d ds =>
                  simp only [bindN] at h
                  cases q : bind1 t b d e with
                  | none => rw [q] at h; cases h
                  | some e2 => rw [q] at h; rw [ih2 _ _ _ _ h, ih1 _ _ _ _ q]
            exact this t b d env2 en1 e1
          omega
        rw [wipe_ext (σ := wipe σ own) (σ' := σ4) hl fun j hj => hσ j (inOwn_has ho hj), ww]
      refine ⟨wσ, B, pn, F3, N3, _, Rg4, en1, I4, ?_⟩
      cases e2 : tt en1 with
      | bad => rw [e2] at h2; cases h2
      | exc c e3 => rw [e2] at h2; cases h2
      | ok c en2 =>
        rw [e2] at h2
        cases c with
        | false =>
          simp only at h2
          intro F5 N5 Rg5 H5 I5 hF5 hN5
          refine iteF ?_
          have I6 := (I5.unres (jn_left A2.dG)).wipe (vs := own)
          rw [wσ] at I6
          exact ⟨F5, N5, _, _, acc, qs, I6, hF.trans (hF3.trans hF5), hN.trans (hN3.trans hN5), (Apart.back I5 A2.dG).offL, r2.mono (hN3.trans hN5) (hF3.trans hF5), by omega, h2⟩
        | true =>
          simp only at h2
          intro F5 N5 Rg5 H5 I5 hF5 hN5
          refine iteT ⟨B, pn, F5, N5, _, Rg5, en2, I5, ?_⟩
          cases e3 : el en2 with
          | bad => rw [e3] at h2; cases h2
          | exc c e4 => rw [e3] at h2; cases h2
          | ok tk en3 =>
            rw [e3] at h2
            simp only at h2
            intro v F6 N6 Rg6 H6 R6 I6 hF6 hN6 T6 A6
            cases e4 : take en3 tk with
            | none => rw [e4] at h2; cases h2
            | some q =>
              obtain ⟨b', d', en4⟩ := q
              rw [e4] at h2
              simp only at h2
              obtain ⟨F7, N7, Rg7, I7, hF7, hN7, r7⟩ := take_ok I6 T6 A6 e4
              have A7 : Apart F7 G Rg7 H6 (sgl Dl (.lst acc)) := .back I7 A2.dG
              have hl : acc.length = qs.length := r2.len
              refine ⟨acc, A7.sR _ _ sgl_same, by omega, ?_⟩
              have I8 := ((I7.unres (jn_left A2.dG)).updA (o' := .lst (acc ++ [v])) A7).wipe (vs := own)
              rw [wσ] at I8
              have fF := hF3.trans (hF5.trans (hF6.trans hF7))
              have fN := hN3.trans (hN5.trans (hN6.trans hN7))
              exact ⟨F7, N7, _, _, acc ++ [v], qs ++ [(b', d')], I8, hF.trans fF, hN.trans fN, A7.updA.offL, (r2.mono fN fF).snoc r7, by rw [List.length_append]; simp; omega, h2⟩
  · have ei : i = ds.length := by omega
    subst ei
    rw [List.drop_length] at h2
    simp only [compL] at h2
    cases h2
    exact .inl ⟨it.stop (Same.refl _) I2 hF hN, hQ Dl F N Rg2 H2 acc I2 hF hN A2 r2 bD⟩
theorem td_comp {K : PySem.W.Frag} {wi : TI} {own : List Nat} {t : Tg} {src : DI} {tt : DT} {el : DE} (hs : SrcOk W cm wi src) (ho : inOwn own t = true) {σ : L2.St} {H : Hp} {Q : VK} (h : tD W cm (eComp own t src tt el) σ H Q) : tLc wi (gT K t) (tT W0 cm tt) (tD W0 cm el) own σ H Q := by
  obtain ⟨B, pn, F, N, G, Rg, env, I, h⟩ := h
  refine hs I ?_
  unfold eComp at h
  cases e : src env with
  | bad => rw [e] at h; exact h
  | exc c e1 => rw [e] at h; exact h
  | ok b ds w e1 =>
    rw [e] at h
    simp only at h
    cases hz : (decide (ds.length ≤ 16777216) && plainAt e1 own) with
    | false => rw [hz] at h; exact h.elim
    | true =>
      rw [hz] at h
      rw [Bool.and_eq_true, decide_eq_true_eq] at hz
      have hl : ds.length ≤ sizeLine := by rw [sizeLine_eq]; exact hz.1
      simp only at h
      cases e2 : compL own t tt el b ds [] (wipeE e1 own) with
      | bad => rw [e2] at h; exact h.elim
      | ok ps e3 =>
        rw [e2] at h
        cases w with
        | none =>
          intro J F1 N1 Rg1 H1 I1 hF hN it
          refine comp_core (Qd := fun Dl H => Q (.ref Dl) H) (I1.wipe (vs := own)) it ho hl e2 fun Dl F2 N2 Rg2 H2 acc I2 hF2 hN2 A2 r2 bD => ?_
          exact h _ F2 N2 _ H2 _ (I2.unwipe I1 hF2 hN2 hz.2) (hF.trans hF2) (hN.trans hN2) ⟨Dl, acc, rfl, rfl, r2.all I2.sN, bD⟩ A2.offL
        | some w =>
          obtain ⟨i, p, c, xs⟩ := w
          simp only at h
          cases g : giveBack i p c xs (unwipeE e3 e1 own) with
          | none => rw [g] at h; exact h.elim
          | some e4 =>
            rw [g] at h
            obtain ⟨g1, rfl⟩ := giveBack_some g
            intro J F1 N1 Rg1 H1 l vs I1 hF hN d el' ev r q it
            refine comp_core (Qd := fun Dl H => Q (.ref Dl) H) (I1.wipe (vs := own)) it ho hl e2 fun Dl F2 N2 Rg2 H2 acc I2 hF2 hN2 A2 r2 bD => ?_
            have I3 := I2.unwipe I1 hF2 hN2 hz.2
            obtain ⟨Rg4, I4, ap⟩ := I3.unlend d g1 (r.mono (bsel_mono hN2 hF2)) q
            exact h _ F2 N2 _ H2 _ I4 (hF.trans hF2) (hN.trans hN2) ⟨Dl, acc, rfl, rfl, r2.all I2.sN, bD⟩ (ap _ A2.offL)
end
section
variable {X : Cx} {W : L2.WX} {cm : String → Addr}
theorem ge_comp {elt tg iter : Expr} {ifs : List Expr} {scope : Scope} {own : List (Str × Nat)} {pos : Pos} {src : DI} {t : Tg} {tt : DT} {el : DE} (hc : X.calm = true) (hN : X.N.Nodup) (hi : GI X W cm tg iter src) (ok : BlkOk X.N X.env.scope scope own)
    (hg : ∀ (s : Shared) (H : Hp) (C : Addr) (cl : List (Str × Addr)) (fp : List Addr), PG (X.blk s H scope (compEnvC scope cl C X.env) fp) tg (gT X.K t)) (ht : ∀ (s : Shared) (H : Hp) (C : Addr) (cl : List (Str × Addr)) (fp : List Addr), PTs (X.blk s H scope (compEnvC scope cl C X.env) fp) ifs (tT W0 cm tt))
    (he : ∀ (s : Shared) (H : Hp) (C : Addr) (cl : List (Str × Addr)) (fp : List Addr), PE (X.blk s H scope (compEnvC scope cl C X.env) fp) elt (tD W0 cm el)) (ho : inOwn (own.map (·.2)) t = true := by rfl) (hs : ∀ x, foldedSetIterable iter X.env x = pure x := by intro _; rfl) :
    PE X (.ListComp elt [⟨tg, iter, ifs, 0⟩] scope pos) (tD W cm (eComp (own.map (·.2)) t src tt el)) := by
  obtain ⟨wi, h1, h2⟩ := hi.ex
  exact PEimp (pe_lc hc hN h1 ok hg ht he hs) fun _ _ _ h => td_comp h2 ho h
theorem gs_setLc {i : Nat} {y : Str} {py : Pos} {elt tg iter : Expr} {ifs : List Expr} {scope : Scope} {own : List (Str × Nat)} {pos spos : Pos} {src : DI} {t : Tg} {tt : DT} {el : DE} (hc : X.calm = true) (hN : X.N.Nodup) (hy : X.N[i]? = some y) (hyl : X.env.scope.names.lookup y = some .local)
    (hsw : swapsWith (.ListComp elt [⟨tg, iter, ifs, 0⟩] scope pos) (some (.Name y py)) spos.line X.env = pure true) (hi : GI X W cm tg iter src) (ok : BlkOk X.N X.env.scope scope own)
    (hg : ∀ (s : Shared) (H : Hp) (C : Addr) (cl : List (Str × Addr)) (fp : List Addr), PG (X.blk s H scope (compEnvC scope cl C X.env) fp) tg (gT X.K t)) (ht : ∀ (s : Shared) (H : Hp) (C : Addr) (cl : List (Str × Addr)) (fp : List Addr), PTs (X.blk s H scope (compEnvC scope cl C X.env) fp) ifs (tT W0 cm tt))
    (he : ∀ (s : Shared) (H : Hp) (C : Addr) (cl : List (Str × Addr)) (fp : List Addr), PE (X.blk s H scope (compEnvC scope cl C X.env) fp) elt (tD W0 cm el)) (ho : inOwn (own.map (·.2)) t = true := by rfl) (hs : ∀ x, foldedSetIterable iter X.env x = pure x := by intro _; rfl) :
    PS X (.Assign [.Name y py] (.ListComp elt [⟨tg, iter, ifs, 0⟩] scope pos) spos) (tS W cm (sSet i (eComp (own.map (·.2)) t src tt el))) := by
  obtain ⟨wi, h1, h2⟩ := hi.ex
  refine PSimp (ps_setLc hc hN hy hyl hsw h1 ok hg ht he hs) fun D σ H h => ?_
  have h := ts_set h
  exact td_comp (K := X.K) h2 ho h
theorem gts_nil : PTs X [] (tT W cm dYes) := by
  refine ⟨fun pins s σ H Q I hw => ?_⟩
  refine pts_nil.run pins s σ H Q I ?_
  obtain ⟨B, pn, F, N, G, Rg, env, I, h⟩ := hw
  exact h F N Rg H I (Same.refl _) (Same.refl _)
theorem gts_one {c : Expr} {f : DT} (h : PT X c (tT W cm f)) : PTs X [c] (tT W cm f) := pts_one h
end
end DL
namespace DL
open PySem PySem.Spec PyProof.Rows L2
def whileL (c : DT) (body : DS) : Nat → Env → Out
  | 0, _ => .bad
  | n + 1, env => match c env with
    | .ok true e1 => match body e1 with
      | .nx e2 => whileL c body n e2
      | .ct e2 => whileL c body n e2
      | .bk e2 => .nx e2
      | .rt t e2 => .rt t e2
      | .exc x e2 => .exc x e2
      | .bad => .bad
    | .ok false e1 => .nx e1
    | .exc x e1 => .exc x e1
    | .bad => .bad
def sWhile (c : DT) (body : DS) : DS := fun env => whileL c body 1000000 env
theorem ts_while {W : L2.WX} {cm : String → Addr} {c : DT} {body : DS} {Dn : Ends} {σ : L2.St} {H : Hp} (h : tS W cm (sWhile c body) Dn σ H) : tWhile (tT W cm c) (tS W cm body) Dn σ H := by
  obtain ⟨B, pn, F, N, G, Rg, env, I, h⟩ := h
  refine ⟨fun m σ H => ∃ F' N' Rg env, Ok B pn env σ F' N' G Rg H ∧ Same F F' ∧ Same N N' ∧ AftS B pn F' N' G W cm Dn (whileL c body m env), ⟨1000000, F, N, Rg, env, I, Same.refl _, Same.refl _, h⟩, ?_⟩
  rintro m σ H ⟨F1, N1, Rg1, env1, I1, hF, hN, h⟩
  cases m with
  | zero => exact h.elim
  | succ m =>
    refine ⟨B, pn, F1, N1, G, Rg1, env1, I1, ?_⟩
    simp only [whileL] at h
    cases e : c env1 with
    | bad => rw [e] at h; exact h
    | exc x e1 => rw [e] at h; exact fun F' N' Rg' H' I' hF' hN' => h σ F' N' Rg' H' I' hF' hN'
    | ok b e1 =>
      rw [e] at h
      intro F2 N2 Rg2 H2 I2 hF2 hN2
      cases b with
      | false => exact iteF (h σ F2 N2 Rg2 H2 I2 hF2 hN2)
      | true =>
        refine iteT ⟨fun σ' H' => ∃ F' N' Rg env, Ok B pn env σ' F' N' G Rg H' ∧ Same F F' ∧ Same N N' ∧ AftS B pn F' N' G W cm Dn (whileL c body m env), fun σ' H' q => ⟨m, Nat.lt_succ_self _, q⟩, B, pn, F2, N2, G, Rg2, e1, I2, ?_⟩
        simp only at h
        cases e2 : body e1 with
        | bad => rw [e2] at h; exact h
        | nx e3 =>
          rw [e2] at h
          exact fun σ3 F3 N3 Rg3 H3 I3 hF3 hN3 => ⟨F3, N3, Rg3, e3, I3, hF.trans (hF2.trans hF3), hN.trans (hN2.trans hN3), h.low (hF2.trans hF3) (hN2.trans hN3)⟩
        | ct e3 =>
          rw [e2] at h
          exact fun σ3 F3 N3 Rg3 H3 I3 hF3 hN3 => ⟨F3, N3, Rg3, e3, I3, hF.trans (hF2.trans hF3), hN.trans (hN2.trans hN3), h.low (hF2.trans hF3) (hN2.trans hN3)⟩
        | bk e3 =>
          rw [e2] at h
          exact fun σ3 F3 N3 Rg3 H3 I3 hF3 hN3 => h σ3 F3 N3 Rg3 H3 I3 (hF2.trans hF3) (hN2.trans hN3)
        | rt tk e3 =>
          rw [e2] at h
          exact fun σ3 v F3 N3 Rg3 H3 R I3 hF3 hN3 T A => h σ3 v F3 N3 Rg3 H3 R I3 (hF2.trans hF3) (hN2.trans hN3) T A
        | exc x e3 =>
          rw [e2] at h
          exact fun σ3 F3 N3 Rg3 H3 I3 hF3 hN3 => h σ3 F3 N3 Rg3 H3 I3 (hF2.trans hF3) (hN2.trans hN3)
theorem gs_while {X : Cx} {W : L2.WX} {cm : String → Addr} {c : Expr} {body : List Stmt} {pos : Pos} {f : DT} {s : DS} (hp : PassesOwn (model X.prog X.w) X.A X.env X.xe) (hc : PT X c (tT W cm f)) (hb : PSs X body (tS W cm s)) : PS X (.While c body [] pos) (tS W cm (sWhile f s)) :=
  PSimp (ps_while hp hc hb) fun _ _ _ h => ts_while h
def sRaise (c : String) : DS := fun env => .exc c env
theorem gs_raise {X : Cx} {W : L2.WX} {cm : String → Addr} {e : Expr} {pos : Pos} {c : String} (hc : X.calm = true) (tk : Takes X W) (he : PMk X e (fun _ H Q => Q (.ref (cm c)) none H)) : PS X (.Raise (some e) none pos) (tS W cm (sRaise c)) :=
  PSimp (ps_raise hc tk he) fun D σ H h => by
    obtain ⟨B, pn, F, N, G, Rg, env, I, h⟩ := h
    exact h σ F N Rg H I (Same.refl _) (Same.refl _)
def eVar (i : Nat) : DE := fun env => match env[i]? with
  | none => .bad
  | some .un => .bad
  | some _ => .ok (.sl i) env
def eC (d : D) : DE := fun env => .ok (.fz true d) env
section
variable {W : L2.WX} {cm : String → Addr} {σ : L2.St} {H : Hp} {Q : VK}
theorem td_var {i : Nat} (h : tD W cm (eVar i) σ H Q) : tVar i σ H Q := by
  obtain ⟨B, pn, F, N, G, Rg, env, I, h⟩ := h
  unfold eVar at h
  cases e : env[i]? with
  | none => rw [e] at h; exact h.elim
  | some s =>
    rw [e] at h
    have S := I.sl i s e
    have key : ∀ v, σ[i]? = some (some v) → Aft B pn σ F N G W cm Q (.ok (.sl i) env) → tVar i σ H Q := fun v hv h => ⟨v, hv, h v F N Rg H emp I (Same.refl _) (Same.refl _) ⟨rfl, hv⟩ .none⟩
    cases s with
    | un => exact h.elim
    | fro b d => exact key _ S.2.choose_spec.1 h
    | ex d => exact key _ S.choose_spec.1 h
    | own p b xs => obtain ⟨l, vs, e1, _⟩ := S; exact key _ e1 h
    | kn p tab => obtain ⟨a, L, e1, _⟩ := S; exact key _ e1 h
    | ob p o => obtain ⟨a, e1, _⟩ := S; exact key _ e1 h
    | lent => obtain ⟨_, l, _, e1⟩ := S; exact key _ e1 h
theorem td_c {v : V} {d : D} (r : Rp emp v d) (h : tD W cm (eC d) σ H Q) : tC v σ H Q := by
  obtain ⟨B, pn, F, N, G, Rg, env, I, h⟩ := h
  exact h v F N Rg H emp I (Same.refl _) (Same.refl _) ⟨rfl, r.mono (emp_same _)⟩ .none
end
section
variable {X : Cx} {W : L2.WX} {cm : String → Addr} {pos : Pos}
theorem gv (i : Nat) {x : Str} (hN : X.N[i]? = some x := by rfl) (hv : Vis X.env.scope x := by first | exact Or.inl rfl | exact Or.inr (Or.inl rfl) | exact Or.inr (Or.inr rfl)) (hd : (x == ("__debug__" : Str)) = false := by decide)
    (hcd : (x == ("__classdict__" : Str)) = false := by decide) : PE X (.Name x pos) (tD W cm (eVar i)) := PEimp (pe_var hN hv hd hcd) fun _ _ _ h => td_var h
theorem ge_int {i j} : PE X (.Constant (.int i) j pos) (tD W cm (eC (.int i))) := PEimp pe_int fun _ _ _ h => td_c (.int i) h
theorem ge_bl {b j} : PE X (.Constant (.bool b) j pos) (tD W cm (eC (.bool b))) := PEimp pe_bl fun _ _ _ h => td_c (.bl b) h
theorem ge_non {j} : PE X (.Constant .none j pos) (tD W cm (eC .none)) := PEimp pe_non fun _ _ _ h => td_c .non h
theorem ge_str {x j} : PE X (.Constant (.str x) j pos) (tD W cm (eC (.str x))) := PEimp pe_str fun _ _ _ h => td_c (.str x) h
theorem ge_glob {x : Str} {v : V} {d : D} {u : Value} (hg : Gl X x) (hm : X.mg x = some u) (r : RelV v u) (q : Rp emp v d) (hd : (x == ("__debug__" : Str)) = false := by decide) : PE X (.Name x pos) (tD W cm (eC d)) := PEimp (pe_glob hg hm r hd) fun _ _ _ h => td_c q h
end
section
variable {X : Cx} {W : L2.WX} {cm : String → Addr} {k : Nat} {f : Addr} {fd : FuncData} {ps : List Str} {fn : Fn} {x : Str} {p pos : Pos} {e : Expr} {es : List Expr} {fs : List DE}
theorem td_call {mask : List Bool} {σ : L2.St} {H : Hp} {Q : VK} (h : tD W cm (dAp (opCall mask fn) fs) σ H Q) : tCallS (spD cm fn) (WE W) (tAD W cm fs) σ H Q := ap_read ap_call h
theorem td_callX {mask : List Bool} {σ : L2.St} {H : Hp} {Q : VK} (h : tD W cm (dAp (opCallX mask fn) fs) σ H Q) : tCallS (spD cm fn) (WE W) (tAD W cm fs) σ H Q := ap_read ap_callX h
theorem ge_call {mask : List Bool} (F : FnOk X.prog X.w X.K X.mg X.base (L2.CX X.prog X.w) k f fd ps (spD cm fn)) (hr : Room k X.A) (hg : Gl X x) (hm : X.mg x = some (.ref f)) (hk : PySem.W.keepIn X.K (.ref f) = true) (hb : Binds X.K fd ps []) (tk : Takes X W)
    (ha : PA X (e :: es) (tAD W cm fs)) (hdb : (x == ("__debug__" : Str)) = false := by decide) (he : starEach (e :: es) X.env = (false, eval e X.env) :: starEach es X.env := by rfl) (hpl : (backTo pos (starEach es X.env)).any (·.1) = false := by rfl) :
    PE X (.Call (.Name x p) (e :: es) [] pos) (tD W cm (dAp (opCall mask fn) fs)) := PEimp (pe_callS F hr hg hm hk hb (fun σ => passAt tk σ) ha hdb he hpl) fun _ _ _ h => td_call h
theorem ge_callX {mask : List Bool} (F : FnOk X.prog X.w X.K X.mg X.base (L2.CX X.prog X.w) k f fd ps (spD cm fn)) (hr : Room k X.A) (hg : Gl X x) (hm : X.mg x = some (.ref f)) (hk : PySem.W.keepIn X.K (.ref f) = true) (hb : Binds X.K fd ps []) (tk : Takes X W)
    (ha : PA X (e :: es) (tAD W cm fs)) (hdb : (x == ("__debug__" : Str)) = false := by decide) (he : starEach (e :: es) X.env = (false, eval e X.env) :: starEach es X.env := by rfl) (hpl : (backTo pos (starEach es X.env)).any (·.1) = false := by rfl) :
    PE X (.Call (.Name x p) (e :: es) [] pos) (tD W cm (dAp (opCallX mask fn) fs)) := PEimp (pe_callS F hr hg hm hk hb (fun σ => passAt tk σ) ha hdb he hpl) fun _ _ _ h => td_callX h
end
def resTok (env : Env) : Tok → Option Tok
  | .sl i => match env[i]? with
    | some (.fro b d) => some (.fz b d)
    | some (.own false b xs) => some (.nw b xs)
    | some (.ex d) => some (.ex d)
    | _ => none
  | t => some t
def outsOf (env : Env) : List Arg → Nat → Option (List (Option (Bool × List D)))
  | [], _ => some []
  | .v _ _ :: r, i => match outsOf env r (i + 1) with
    | none => none
    | some l => some (none :: l)
  | .o _ _ :: r, i => match env[i]? with
    | some (.own true b xs) => match outsOf env r (i + 1) with
      | none => none
      | some l => some (some (b, xs) :: l)
    | _ => none
def runFn (np n : Nat) (s : DS) : Fn := fun args => match decide (args.length = np) with
  | false => .bad
  | true => match s (argEnv args ++ List.replicate (n - np) .un) with
    | .nx e => match outsOf e args 0 with
      | none => .bad
      | some l => .ok (.fz true .none) l
    | .rt t e => match resTok e t with
      | none => .bad
      | some t' => match outsOf e args 0 with
        | none => .bad
        | some l => .ok t' l
    | .exc c _ => .exc c
    | _ => .bad
theorem outsOf_get {env : Env} : ∀ {args : List Arg} {i : Nat} {l : List (Option (Bool × List D))}, outsOf env args i = some l →
    l.length = args.length ∧ ∀ j : Nat, (∀ b d, args[j]? = some (Arg.v b d) → l[j]? = some none) ∧ (∀ b xs, args[j]? = some (Arg.o b xs) → ∃ b' ys, l[j]? = some (some (b', ys)) ∧ env[i + j]? = some (.own true b' ys))
  | [], _, _, h => by
    cases h
    exact ⟨rfl, fun j => ⟨fun _ _ e => by simp at e, fun _ _ e => by simp at e⟩⟩
  | .v b d :: r, i, l, h => by
    simp only [outsOf] at h
    cases e : outsOf env r (i + 1) with
    | none => rw [e] at h; cases h
    | some l' =>
      rw [e] at h
      cases h
      obtain ⟨h1, h2⟩ := outsOf_get e
      refine ⟨by rw [List.length_cons, List.length_cons, h1], fun j => ?_⟩
      cases j with
      | zero => exact ⟨fun _ _ _ => rfl, fun _ _ e => by simp at e⟩
      | succ j =>
        obtain ⟨k1, k2⟩ := h2 j
        refine ⟨fun b' d' e => by simpa using k1 b' d' (by simpa using e), fun b' xs e => ?_⟩
        obtain ⟨c, ys, z1, z2⟩ := k2 b' xs (by simpa using e)
        exact ⟨c, ys, by simpa using z1, by rw [← z2]; congr 1; omega⟩
  | .o b xs :: r, i, l, h => by
    simp only [outsOf] at h
    cases ei : env[i]? with
    | none => rw [ei] at h; cases h
    | some s =>
      rw [ei] at h
      cases s with
      | own p c ys =>
        cases p with
        | false => cases h
        | true =>
          simp only at h
          cases e : outsOf env r (i + 1) with
          | none => rw [e] at h; cases h
          | some l' =>
            rw [e] at h
            cases h
            obtain ⟨h1, h2⟩ := outsOf_get e
            refine ⟨by rw [List.length_cons, List.length_cons, h1], fun j => ?_⟩
            cases j with
            | zero => exact ⟨fun _ _ e => by simp at e, fun _ _ _ => ⟨c, ys, rfl, ei⟩⟩
            | succ j =>
              obtain ⟨k1, k2⟩ := h2 j
              refine ⟨fun b' d' e => by simpa using k1 b' d' (by simpa using e), fun b' xs e => ?_⟩
              obtain ⟨c, ys, z1, z2⟩ := k2 b' xs (by simpa using e)
              exact ⟨c, ys, by simpa using z1, by rw [← z2]; congr 1; omega⟩
      | _ => cases h
section
variable {B : Hp} {pn : Nat → Option Addr} {env : Env} {σ : L2.St} {F N G : Hp} {Rg : Nat → Hp} {H R : Hp}
theorem Ok.pad (I : Ok B pn env σ F N G Rg H) (m : Nat) : Ok B pn (env ++ List.replicate m .un) (σ ++ List.replicate m none) F N G Rg H where
  len := by rw [List.length_append, List.length_append, I.len, List.length_replicate, List.length_replicate]
  sF := I.sF
  sN := I.sN
  sG := I.sG
  dG := I.dG
  nB := I.nB
  nZ := I.nZ
  hB := I.hB
  sl := fun j s e => by
    by_cases hj : j < env.length
    · rw [List.getElem?_append_left hj] at e
      have z := I.sl j s e
      have w : (σ ++ List.replicate m none)[j]? = σ[j]? := List.getElem?_append_left (by rw [← I.len]; exact hj)
      cases s with
      | un => exact z
      | fro b d => exact ⟨z.1, z.2.choose, w.trans z.2.choose_spec.1, z.2.choose_spec.2⟩
      | ex d => obtain ⟨v, e1, r⟩ := z; exact ⟨v, w.trans e1, r⟩
      | own p b xs => obtain ⟨l, ws, e1, r⟩ := z; exact ⟨l, ws, w.trans e1, r⟩
      | kn p tab => obtain ⟨a, L, e1, r⟩ := z; exact ⟨a, L, w.trans e1, r⟩
      | ob p o => obtain ⟨a, e1, r⟩ := z; exact ⟨a, w.trans e1, r⟩
      | lent => obtain ⟨z0, l, e1, e2⟩ := z; exact ⟨z0, l, e1, w.trans e2⟩
    · rw [List.getElem?_append_right (by omega), List.getElem?_replicate] at e
      split at e
      · cases e; exact I.out j (by omega)
      · cases e
  sR := I.sR
  dF := I.dF
  dRG := I.dRG
  dR := I.dR
  out := fun j h => I.out j (by rw [List.length_append] at h; omega)
theorem Ok.ends {args : List Arg} {vs : List V} {outs : List (Option (Bool × List D))} {e' : Env} {σ' : L2.St} {F' N' : Hp} {Rg' : Nat → Hp} {H' : Hp} (I0 : Ok B pn (argEnv args) (vs.map some) F N G Rg H) (I : Ok B pn e' σ' F' N' G Rg' H') (ho : outsOf e' args 0 = some outs) :
    Ok B pn (outEnv outs) (vs.map some) F' N' G (fun i => match outs[i]? with | some (some _) => Rg' i | _ => emp) H' where
  len := by
    have l := I0.len
    unfold argEnv at l
    unfold outEnv
    rw [List.length_map] at l ⊢
    rw [(outsOf_get ho).1]
    exact l
  sF := I.sF
  sN := I.sN
  sG := I.sG
  dG := I.dG
  nB := I.nB
  nZ := I.nZ
  hB := I.hB
  sl := fun j s e => by
    obtain ⟨hl, hg⟩ := outsOf_get ho
    unfold outEnv at e
    rw [List.getElem?_map] at e
    cases q : outs[j]? with
    | none => rw [q] at e; cases e
    | some o =>
      rw [q] at e
      cases o with
      | none => cases e; rfl
      | some o =>
        obtain ⟨b, xs⟩ := o
        cases e
        have hj : j < args.length := by rw [← hl]; exact (List.getElem?_eq_some_iff.mp q).1
        cases a : args[j]? with
        | none => rw [List.getElem?_eq_none_iff] at a; omega
        | some a' =>
          cases a' with
          | v b0 d0 => rw [(hg j).1 b0 d0 a] at q; cases q
          | o b0 ys =>
            obtain ⟨c, zs, z1, z2⟩ := (hg j).2 b0 ys a
            rw [q] at z1
            cases z1
            rw [Nat.zero_add] at z2
            obtain ⟨l, ws, w1, w2, w3, w4⟩ := I.sl j _ z2
            have e0 : (argEnv args)[j]? = some (.own true b0 ys) := by
              unfold argEnv
              rw [List.getElem?_map, a]
              rfl
            obtain ⟨l0, ws0, y1, y2, y3, y4⟩ := I0.sl j _ e0
            rw [if_pos rfl] at w4 y4
            rw [w4] at y4
            cases y4
            exact ⟨l, ws, y1, w2, w3, by rw [if_pos rfl]; exact w4⟩
  sR := fun j => by split; exact I.sR j; exact emp_same _
  dF := fun j => by split; exact I.dF j; exact dj_emp _
  dRG := fun j => by split; exact I.dRG j; exact dj_emp _
  dR := fun i j h => by
    split
    · split
      · exact I.dR i j h
      · exact dj_emp _
    · exact emp_dj _
  out := fun j h => by
    unfold outEnv at h
    rw [List.length_map] at h
    rw [List.getElem?_eq_none h]
theorem new_of {args : List Arg} {vs : List V} {outs : List (Option (Bool × List D))} {e' : Env} {σ' : L2.St} {F' N' : Hp} {Rg' : Nat → Hp} {H' : Hp} (En : Entry B pn args vs F N G Rg H) (I : Ok B pn e' σ' F' N' G Rg' H') (hF : Same F F') (ho : outsOf e' args 0 = some outs)
    (dF : dj F' R) (dG : dj G R) (dR : ∀ j, (∃ b xs, args[j]? = some (Arg.o b xs)) → dj (Rg' j) R) : dj H R := fun a o e => by
  cases q : H a with
  | none => rfl
  | some u =>
    rcases En.cov a u q with z | z | ⟨i, z⟩
    · have := hF _ _ z
      rw [dF a o e] at this
      cases this
    · rw [dG a o e] at z; cases z
    · have hi : i < args.length := by
        by_cases h : i < args.length
        · exact h
        · have := En.ok.out i (by unfold argEnv; rw [List.length_map]; omega)
          rw [this] at z
          cases z
      cases ea : args[i]? with
      | none => rw [List.getElem?_eq_none_iff] at ea; omega
      | some a' =>
        have e0 : (argEnv args)[i]? = some (argSlot a') := by unfold argEnv; rw [List.getElem?_map, ea]; rfl
        cases a' with
        | v b d =>
          have S := En.ok.sl i _ e0
          rw [S.1] at z
          cases z
        | o b xs =>
          obtain ⟨c, ys, z1, z2⟩ := ((outsOf_get ho).2 i).2 b xs ea
          rw [Nat.zero_add] at z2
          obtain ⟨l, ws, w1, w2, w3, w4⟩ := I.sl i _ z2
          obtain ⟨l0, ws0, y1, y2, y3, y4⟩ := En.ok.sl i _ e0
          rw [if_pos rfl] at w4 y4
          rw [w4] at y4
          cases y4
          rw [y2] at z
          obtain ⟨rfl, _⟩ := sgl_some z
          have d := dR i ⟨b, xs, ea⟩
          rw [w2] at d
          have := d _ _ e
          rw [sgl_same] at this
          cases this
end
theorem fn_len {cm : String → Addr} {Nm ps : List Str} {s : DS} {vs : List V} {H : Hp} {Q : VK} {E : XK} (h : spD cm (runFn ps.length Nm.length s) vs H Q E) : vs.length = ps.length := by
  obtain ⟨B, pn, Fz, N, G, Rg, args, En, h⟩ := h
  have l := En.ok.len
  unfold argEnv at l
  rw [List.length_map, List.length_map] at l
  cases e : decide (args.length = ps.length) with
  | true => rw [← l]; exact of_decide_eq_true e
  | false => unfold runFn at h; rw [e] at h; exact h.elim
theorem fn_body {cm : String → Addr} {Nm ps : List Str} {s : DS} {vs : List V} {H : Hp} {Q : VK} {E : XK} (h : spD cm (runFn ps.length Nm.length s) vs H Q E) :
    tS (fun cls d _ H => E cls d H) cm s { nx := fun _ H' => Q .non H', rt := Q } (L2.start Nm vs) H := by
  obtain ⟨B, pn, Fz, N, G, Rg, args, En, h⟩ := h
  have l := En.ok.len
  unfold argEnv at l
  rw [List.length_map, List.length_map] at l
  unfold runFn at h
  cases e : decide (args.length = ps.length) with
  | false => rw [e] at h; exact h.elim
  | true =>
    rw [e] at h
    simp only at h
    have la : args.length = ps.length := of_decide_eq_true e
    have hst : L2.start Nm vs = vs.map some ++ List.replicate (Nm.length - ps.length) none := by
      unfold L2.start
      rw [← l, la]
    have I0 := En.ok.pad (Nm.length - ps.length)
    rw [← hst] at I0
    refine ⟨B, pn, Fz, N, G, Rg, _, I0, ?_⟩
    have fin : ∀ {t : Tok} {e' : Env} {l : List (Option (Bool × List D))} {σ' : L2.St} {F' N' : Hp} {Rg' : Nat → Hp} {H' : Hp} {v : V} {R' : Hp}, outsOf e' args 0 = some l → Ok B pn e' σ' F' N' G Rg' H' → Same Fz F' → Same N N' → noSl t = true → TokOk B [] F' N' R' t v → Same R' H' → dj F' R' → dj G R' → (∀ j, (∃ b xs, args[j]? = some (Arg.o b xs)) → dj (Rg' j) R') →
        (∀ v F' N' Rg' H' R, Ok B pn (outEnv l) (vs.map some) F' N' G Rg' H' → Same Fz F' → Same N N' → TokOk B [] F' N' R t v → Apart F' G Rg' H' R → dj H R → Q v H') → Q v H' := fun {t e' l σ' F' N' Rg' H' v R'} ho I hF hN nt T sR dF dG dR q => by
      refine q v F' N' _ H' R' (En.ok.ends I ho) hF hN T ⟨sR, dF, dG, fun j => ?_⟩ (new_of En I hF ho dF dG dR)
      split
      · rename_i o eo
        refine dR j ?_
        obtain ⟨hl, hg⟩ := outsOf_get ho
        have hj : j < args.length := by rw [← hl]; exact (List.getElem?_eq_some_iff.mp eo).1
        cases ea : args[j]? with
        | none => rw [List.getElem?_eq_none_iff] at ea; omega
        | some a' =>
          cases a' with
          | v b0 d0 => rw [(hg j).1 b0 d0 ea] at eo; cases eo
          | o b0 ys => exact ⟨b0, ys, rfl⟩
      · exact emp_dj _
    cases e1 : s (argEnv args ++ List.replicate (Nm.length - ps.length) .un) with
    | bad => rw [e1] at h; exact h
    | bk e' => rw [e1] at h; exact h.elim
    | ct e' => rw [e1] at h; exact h.elim
    | exc c e' =>
      rw [e1] at h
      intro σ' F' N' Rg' H' I hF hN
      refine h F' N' (fun _ => emp) H' ?_ hF hN
      exact { I with
        len := by rw [List.length_map, List.length_map, l]
        sl := fun j s0 ej => by
          rw [List.getElem?_map] at ej
          cases q : args[j]? with
          | none => rw [q] at ej; cases ej
          | some a => rw [q] at ej; cases ej; rfl
        sR := fun _ => emp_same _
        dF := fun _ => dj_emp _
        dRG := fun _ => dj_emp _
        dR := fun _ _ _ => dj_emp _
        out := fun _ _ => rfl }
    | nx e' =>
      rw [e1] at h
      simp only at h
      intro σ' F' N' Rg' H' I hF hN
      cases e2 : outsOf e' args 0 with
      | none => rw [e2] at h; exact h.elim
      | some l =>
        rw [e2] at h
        exact fin (t := .fz true .none) (R' := emp) e2 I hF hN rfl ⟨rfl, .non⟩ (emp_same _) (dj_emp _) (dj_emp _) (fun _ _ => dj_emp _) h.2
    | rt t e' =>
      rw [e1] at h
      simp only at h
      cases e3 : resTok e' t with
      | none => rw [e3] at h; exact h.elim
      | some t' =>
        rw [e3] at h
        simp only at h
        cases e2 : outsOf e' args 0 with
        | none => rw [e2] at h; exact h.elim
        | some l =>
          rw [e2] at h
          intro σ' v F' N' Rg' H' R I hF hN T A
          have plain : (∀ i, t ≠ .sl i) → Q v H' := fun ns => by
            have et : t' = t := by
              cases t with
              | sl i => exact absurd rfl (ns i)
              | _ => cases e3; rfl
            subst et
            exact fin e2 I hF hN h.1 (T.noSl h.1) A.sR A.dF A.dG (fun j _ => A.dR j) h.2
          cases t with
          | fz b d => exact plain fun i z => by cases z
          | nw b xs => exact plain fun i z => by cases z
          | ex d => exact plain fun i z => by cases z
          | sl i =>
            simp only [resTok] at e3
            obtain ⟨_, hv⟩ := T
            cases ei : e'[i]? with
            | none => rw [ei] at e3; cases e3
            | some sl =>
              rw [ei] at e3
              have notO : ∀ {s0 : Slot}, e'[i]? = some s0 → (∀ b xs, s0 ≠ .own true b xs) → ∀ j, (∃ b xs, args[j]? = some (Arg.o b xs)) → j ≠ i := fun {s0} es hs j ⟨b, xs, ea⟩ z => by
                subst z
                obtain ⟨c, ys, z1, z2⟩ := ((outsOf_get e2).2 j).2 b xs ea
                rw [Nat.zero_add, es] at z2
                cases z2
                exact hs _ _ rfl
              cases sl with
              | un => cases e3
              | kn _ _ => cases e3
              | ob _ _ => cases e3
              | lent => cases e3
              | fro b d =>
                cases e3
                obtain ⟨_, w0, w1, w2⟩ := I.sl i _ ei
                rw [hv] at w1
                cases w1
                exact fin (t := .fz b d) (R' := emp) e2 I hF hN rfl ⟨rfl, w2⟩ (emp_same _) (dj_emp _) (dj_emp _) (fun _ _ => dj_emp _) h.2
              | ex d =>
                cases e3
                obtain ⟨w0, w1, w2⟩ := I.sl i _ ei
                rw [hv] at w1
                cases w1
                exact fin (t := .ex d) (R' := Rg' i) e2 I hF hN rfl w2 (I.sR i) (I.dF i) (I.dRG i) (fun j hj => I.dR j i (notO ei (fun _ _ z => by cases z) j hj)) h.2
              | own p b xs =>
                cases p with
                | true => cases e3
                | false =>
                  cases e3
                  obtain ⟨l0, ws, w1, w2, w3, w4⟩ := I.sl i _ ei
                  rw [hv] at w1
                  cases w1
                  exact fin (t := .nw b xs) (R' := Rg' i) e2 I hF hN rfl ⟨l0, ws, rfl, w2, w3, w4⟩ (I.sR i) (I.dF i) (I.dRG i) (fun j hj => I.dR j i (notO ei (fun _ _ z => by cases z) j hj)) h.2
theorem fn_ok {P : Program} {w : World} {K : PySem.W.Frag} {mg : Str → Option Value} {base : Heap} {cm : String → Addr} {x qual : Str} {st : Stmt} {f : Addr} {fd : FuncData} {Nm ps : List Str} {k : Nat} {s : DS} (F : Fun K x qual st f fd) (S : FnScope Nm ps (defScope st))
    (hb : ∀ (cdv : Value) (A : Around) (outer : List PySem.Env) (s0 : Shared) (H : Hp) (E : XK), Room k (A.deeper (envOfC qual (defScope st) s0.heap.objs.size f cdv)) →
      PSs (cxOf (L2.CX P w) P w K mg base Nm qual (defScope st) f cdv A outer s0 H E) (defBody st) (tS (fun cls d _ H => E cls d H) cm s)) :
    FnOk P w K mg base (L2.CX P w) (k + 1) f fd ps (spD cm (runFn ps.length Nm.length s)) :=
  F.okX S (fun _ _ _ _ h => fn_len h) (fun cdv A outer s0 H vs Q E hr h => ⟨_, hb cdv A outer s0 H E hr, fn_body h⟩)
end DL
namespace DL
open PySem PySem.Spec PyProof.Rows L2
section
variable {X : Cx} {W : L2.WX} {cm : String → Addr} {a b c : Expr} {pos : Pos} {f g h : DE}
def r2 (r : R2) : L2.St → List V → Hp → VK → Prop := fun _ vs H Q => ∃ x y, vs = [x, y] ∧ r x y H Q
theorem td_bin {op : List Tok → Env → ER} {r : R2} (ho : ApR W cm op (fun _ vs H Q => ∀ x y, vs = [x, y] → r x y H Q)) {σ : L2.St} {H : Hp} {Q : VK} (q : tD W cm (dAp op [f, g]) σ H Q) : tOp r (tD W cm f) (tD W cm g) σ H Q := by
  have z : tAD W cm [f, g] σ H (fun vs H' => ∀ x y, vs = [x, y] → r x y H' Q) := ap_read (r := fun _ vs H Q => ∀ x y, vs = [x, y] → r x y H Q) ho q
  have m : ∀ {f : DE} {σ : L2.St} {H : Hp} {Q Q' : VK}, tD W cm f σ H Q → (∀ v H, Q v H → Q' v H) → tD W cm f σ H Q' := fun ⟨B, pn, F, N, G, Rg, env, I, z⟩ k => ⟨B, pn, F, N, G, Rg, env, I, z.imp k⟩
  exact m z fun x H1 z => m z fun y H2 z => z x y rfl
theorem td_un {op : List Tok → Env → ER} {r : V → Hp → VK → Prop} (ho : ApR W cm op (fun _ vs H Q => ∀ x, vs = [x] → r x H Q)) {σ : L2.St} {H : Hp} {Q : VK} (q : tD W cm (dAp op [f]) σ H Q) : tUn r (tD W cm f) σ H Q := by
  have z : tAD W cm [f] σ H (fun vs H' => ∀ x, vs = [x] → r x H' Q) := ap_read (r := fun _ vs H Q => ∀ x, vs = [x] → r x H Q) ho q
  have m : ∀ {f : DE} {σ : L2.St} {H : Hp} {Q Q' : VK}, tD W cm f σ H Q → (∀ v H, Q v H → Q' v H) → tD W cm f σ H Q' := fun ⟨B, pn, F, N, G, Rg, env, I, z⟩ k => ⟨B, pn, F, N, G, Rg, env, I, z.imp k⟩
  exact m z fun x H1 z => z x rfl
theorem ge_sc2 {op : Operator} {r : R2} {d : List D → Option D} (ho : OpR X (binaryOp op) r) (hr : ScR (fun _ vs H Q => ∀ x y, vs = [x, y] → r x y H Q) d) (ha : PE X a (tD W cm f)) (hb : PE X b (tD W cm g)) : PE X (.BinOp a op b pos) (tD W cm (dAp (opSc d) [f, g])) :=
  PEimp (pe_op ho ha hb) fun _ _ _ q => td_bin (ap_sc hr) q
theorem ge_el2 {op : Operator} {r : R2} {d : List (Bool × D) → Option Tok} (ho : OpR X (binaryOp op) r) (hr : ElR (fun _ vs H Q => ∀ x y, vs = [x, y] → r x y H Q) d) (ha : PE X a (tD W cm f)) (hb : PE X b (tD W cm g)) : PE X (.BinOp a op b pos) (tD W cm (dAp (opEl d) [f, g])) :=
  PEimp (pe_op ho ha hb) fun _ _ _ q => td_bin (ap_el hr) q
theorem ge_cmp2 {op : CmpOp} {r : R2} {d : List D → Option D} (ho : OpR X (compareOp op) r) (hr : ScR (fun _ vs H Q => ∀ x y, vs = [x, y] → r x y H Q) d) (hm : behindInMarks op b = false) (ha : PE X a (tD W cm f)) (hb : PE X b (tD W cm g)) : PE X (.Compare a [op] [b] pos) (tD W cm (dAp (opSc d) [f, g])) :=
  PEimp (pe_cmpR ho ha hb hm) fun _ _ _ q => td_bin (ap_sc hr) q
theorem gt_cmp2 {op : CmpOp} {r : R2} {d : List D → Option D} (ho : OpR X (compareOp op) r) (hr : ScR (fun _ vs H Q => ∀ x y, vs = [x, y] → r x y H Q) d) (hm : behindInMarks op b = false) (ha : PE X a (tD W cm f)) (hb : PE X b (tD W cm g)) : PT X (.Compare a [op] [b] pos) (tT W cm (dVal (dAp (opSc d) [f, g]))) :=
  PTimp (pt_cmpR ho ha hb hm) fun _ _ _ q => td_bin (ap_sc hr) (tt_val q)
theorem ge_un1 {op : UnaryOp} {r : V → Hp → VK → Prop} {d : List D → Option D} (ho : UnR X (unaryOp op) r) (hr : ScR (fun _ vs H Q => ∀ x, vs = [x] → r x H Q) d) (ha : PE X a (tD W cm f)) : PE X (.UnaryOp op a pos) (tD W cm (dAp (opSc d) [f])) :=
  PEimp (pe_un ho ha) fun _ _ _ q => td_un (ap_sc hr) q
end
def dInt2 (C : Int → Int → Bool) (k : Int → Int → D) : List D → Option D
  | [.int i, .int j] => match C i j with
    | true => some (k i j)
    | false => none
  | _ => none
theorem rpa1 {H : Hp} {x : V} {d : D} (h : RpA H [x] [d]) : Rp H x d := by
  cases h with
  | cons h _ => exact h
theorem rpa2 {H : Hp} {x y : V} {d e : D} (h : RpA H [x, y] [d, e]) : Rp H x d ∧ Rp H y e := by
  cases h with
  | cons h r => exact ⟨h, rpa1 r⟩
theorem sc_int2 {C : Int → Int → Bool} {k : Int → Int → D} {P : Int → Int → Prop} {g : Int → Int → V} (hC : ∀ i j, C i j = true → P i j) (hk : ∀ i j, Rp emp (g i j) (k i j)) : ScR (fun _ vs H Q => ∀ x y, vs = [x, y] → rI P g x y H Q) (dInt2 C k) := by
  intro σ H vs ds d Q r e q x y ev
  subst ev
  match ds, r, e with
  | [.int i, .int j], r, e =>
    obtain ⟨r1, r2⟩ := rpa2 r
    cases r1
    cases r2
    simp only [dInt2] at e
    cases hc : C i j with
    | false => rw [hc] at e; cases e
    | true =>
      rw [hc] at e
      cases e
      exact ⟨i, j, rfl, rfl, hC i j hc, q _ (hk i j)⟩
theorem sc_int2' {k : Int → Int → D} {g : Int → Int → V} (hk : ∀ i j, Rp emp (g i j) (k i j)) : ScR (fun _ vs H Q => ∀ x y, vs = [x, y] → rI0 g x y H Q) (dInt2 (fun _ _ => true) k) := by
  intro σ H vs ds d Q r e q x y ev
  obtain ⟨i, j, e1, e2, _, z⟩ := sc_int2 (P := fun _ _ => True) (fun _ _ _ => trivial) hk σ H vs ds d Q r e q x y ev
  exact ⟨i, j, e1, e2, z⟩
abbrev dSub := dInt2 (fun _ _ => true) fun i j => .int (i - j)
abbrev dLt := dInt2 (fun _ _ => true) fun i j => .bool (decide (i < j))
abbrev dGt := dInt2 (fun _ _ => true) fun i j => .bool (decide (j < i))
abbrev dDiv := dInt2 (fun _ j => decide (0 < j) && decide (j < 2 ^ 128)) fun i j => .int (i / j)
abbrev dMod := dInt2 (fun _ j => decide (0 < j)) fun i j => .int (i % j)
abbrev dPow := dInt2 (fun i j => decide (0 ≤ j) && decide (j ≤ 1000) && decide (-(2 ^ 60) < i) && decide (i < 2 ^ 60)) fun i j => .int (i ^ j.toNat)
theorem C_div {i j : Int} (h : (decide (0 < j) && decide (j < 2 ^ 128)) = true) : CDivW i j := by
  rw [Bool.and_eq_true, decide_eq_true_eq, decide_eq_true_eq] at h
  exact wide_div (b := 128) h.1 (by omega) (by decide) (by decide)
theorem C_pow {i j : Int} (h : (decide (0 ≤ j) && decide (j ≤ 1000) && decide (-(2 ^ 60) < i) && decide (i < 2 ^ 60)) = true) : CPow i j := by
  simp only [Bool.and_eq_true, decide_eq_true_eq] at h
  obtain ⟨⟨⟨h1, h2⟩, h3⟩, h4⟩ := h
  exact ⟨h1, by omega, by omega⟩
section
variable {X : Cx} {W : L2.WX} {cm : String → Addr} {a b : Expr} {pos : Pos} {f g : DE}
theorem ge_sub (ha : PE X a (tD W cm f)) (hb : PE X b (tD W cm g)) : PE X (.BinOp a .Sub b pos) (tD W cm (dAp (opSc dSub) [f, g])) := ge_sc2 op_sub (sc_int2' fun _ _ => .int _) ha hb
theorem ge_div (ha : PE X a (tD W cm f)) (hb : PE X b (tD W cm g)) : PE X (.BinOp a .FloorDiv b pos) (tD W cm (dAp (opSc dDiv) [f, g])) := ge_sc2 op_fdivW (sc_int2 (fun _ _ => C_div) fun _ _ => .int _) ha hb
theorem ge_mod (ha : PE X a (tD W cm f)) (hb : PE X b (tD W cm g)) : PE X (.BinOp a .Mod b pos) (tD W cm (dAp (opSc dMod) [f, g])) := ge_sc2 op_mod (sc_int2 (fun _ _ h => of_decide_eq_true h) fun _ _ => .int _) ha hb
theorem ge_pow (ha : PE X a (tD W cm f)) (hb : PE X b (tD W cm g)) : PE X (.BinOp a .Pow b pos) (tD W cm (dAp (opSc dPow) [f, g])) := ge_sc2 op_pow (sc_int2 (fun _ _ => C_pow) fun _ _ => .int _) ha hb
theorem gt_lt (ha : PE X a (tD W cm f)) (hb : PE X b (tD W cm g)) : PT X (.Compare a [.Lt] [b] pos) (tT W cm (dVal (dAp (opSc dLt) [f, g]))) := gt_cmp2 op_lt (sc_int2' fun _ _ => .bl _) (nomark _) ha hb
theorem gt_gt (ha : PE X a (tD W cm f)) (hb : PE X b (tD W cm g)) : PT X (.Compare a [.Gt] [b] pos) (tT W cm (dVal (dAp (opSc dGt) [f, g]))) := gt_cmp2 op_gt (sc_int2' fun _ _ => .bl _) (nomark _) ha hb
def dEq : List D → Option D
  | [d, e] => match SeqAt.shaped d && SeqAt.shaped e with
    | true => some (.bool (PyData.eqv d e))
    | false => none
  | _ => none
def dNe : List D → Option D
  | [d, e] => match SeqAt.shaped d && SeqAt.shaped e with
    | true => some (.bool (!PyData.eqv d e))
    | false => none
  | _ => none
theorem sc_eq {K : PySem.W.Frag} : ScR (fun _ vs H Q => ∀ x y, vs = [x, y] → rEqD K x y H Q) dEq := by
  intro σ H vs ds d Q r e q x y ev
  subst ev
  match ds, r, e with
  | [d1, d2], r, e =>
    obtain ⟨q1, q2⟩ := rpa2 r
    simp only [dEq] at e
    cases hs : (SeqAt.shaped d1 && SeqAt.shaped d2) with
    | false => rw [hs] at e; cases e
    | true =>
      rw [hs] at e
      cases e
      rw [Bool.and_eq_true] at hs
      exact ⟨d1, d2, q1.dp (Same.refl _) (SeqAt.canLay_of_shaped hs.1), q2.dp (Same.refl _) (SeqAt.canLay_of_shaped hs.2), hs.1, hs.2, q _ (.bl _)⟩
theorem sc_ne {K : PySem.W.Frag} : ScR (fun _ vs H Q => ∀ x y, vs = [x, y] → rNeD K x y H Q) dNe := by
  intro σ H vs ds d Q r e q x y ev
  subst ev
  match ds, r, e with
  | [d1, d2], r, e =>
    obtain ⟨q1, q2⟩ := rpa2 r
    simp only [dNe] at e
    cases hs : (SeqAt.shaped d1 && SeqAt.shaped d2) with
    | false => rw [hs] at e; cases e
    | true =>
      rw [hs] at e
      cases e
      rw [Bool.and_eq_true] at hs
      exact ⟨d1, d2, q1.dp (Same.refl _) (SeqAt.canLay_of_shaped hs.1), q2.dp (Same.refl _) (SeqAt.canLay_of_shaped hs.2), hs.1, hs.2, q _ (.bl _)⟩
theorem ge_eq (hu : X.A.units + 64 < cLine) (ha : PE X a (tD W cm f)) (hb : PE X b (tD W cm g)) : PE X (.Compare a [.Eq] [b] pos) (tD W cm (dAp (opSc dEq) [f, g])) := ge_cmp2 (op_eqD hu) sc_eq (nomark _) ha hb
theorem ge_ne (hu : X.A.units + 64 < cLine) (ha : PE X a (tD W cm f)) (hb : PE X b (tD W cm g)) : PE X (.Compare a [.NotEq] [b] pos) (tD W cm (dAp (opSc dNe) [f, g])) := ge_cmp2 (op_neD hu) sc_ne (nomark _) ha hb
theorem gt_eq (hu : X.A.units + 64 < cLine) (ha : PE X a (tD W cm f)) (hb : PE X b (tD W cm g)) : PT X (.Compare a [.Eq] [b] pos) (tT W cm (dVal (dAp (opSc dEq) [f, g]))) := gt_cmp2 (op_eqD hu) sc_eq (nomark _) ha hb
theorem gt_ne (hu : X.A.units + 64 < cLine) (ha : PE X a (tD W cm f)) (hb : PE X b (tD W cm g)) : PT X (.Compare a [.NotEq] [b] pos) (tT W cm (dVal (dAp (opSc dNe) [f, g]))) := gt_cmp2 (op_neD hu) sc_ne (nomark _) ha hb
def dIsN : List D → Option D
  | [d, .none] => some (.bool (match d with | .none => true | _ => false))
  | _ => none
def dNeg : List D → Option D
  | [.int i] => some (.int (-i))
  | _ => none
theorem ge_neg (ha : PE X a (tD W cm f)) : PE X (.UnaryOp .USub a pos) (tD W cm (dAp (opSc dNeg) [f])) := ge_un1 un_neg (fun σ H vs ds d Q r e q x ev => by
  subst ev
  match ds, r, e with
  | [.int i], r, e =>
    have q1 := rpa1 r
    cases q1
    cases e
    exact ⟨i, rfl, q _ (.int _)⟩) ha
end
def eChain (p q : Int → Int → Bool) (f g h : DE) : DE := fun env => match f env with
  | .ok t1 e1 => match g e1 with
    | .ok t2 e2 => match rd e2 t1, rd e2 t2 with
      | some (.int i), some (.int j) => match p i j with
        | false => .ok (.fz true (.bool false)) e2
        | true => match h e2 with
          | .ok t3 e3 => match rd e3 t3 with
            | some (.int k) => .ok (.fz true (.bool (q j k))) e3
            | _ => .bad
          | .exc c e3 => .exc c e3
          | .bad => .bad
      | _, _ => .bad
    | .exc c e2 => .exc c e2
    | .bad => .bad
  | .exc c e1 => .exc c e1
  | .bad => .bad
theorem td_chain {W : L2.WX} {cm : String → Addr} {p q : Int → Int → Bool} {f g h : DE} {σ : L2.St} {H : Hp} {Q : VK} (z : tD W cm (eChain p q f g h) σ H Q) : tChain (rI0 fun i j => .bl (p i j)) (rI0 fun i j => .bl (q i j)) (tD W cm f) (tD W cm g) (tD W cm h) σ H Q := by
  obtain ⟨B, pn, F, N, G, Rg, env, I, z⟩ := z
  refine ⟨B, pn, F, N, G, Rg, env, I, ?_⟩
  unfold eChain at z
  cases e1 : f env with
  | bad => rw [e1] at z; exact z
  | exc c en => rw [e1] at z; exact z
  | ok t1 en1 =>
    rw [e1] at z
    simp only at z
    intro v1 F1 N1 Rg1 H1 R1 I1 hF1 hN1 T1 A1
    refine ⟨B, pn, F1, N1, _, Rg1, en1, I1.res A1, ?_⟩
    cases e2 : g en1 with
    | bad => rw [e2] at z; exact z
    | exc c en => rw [e2] at z; exact fun F' N' Rg' H' I' hF hN => z F' N' Rg' H' (I'.unres (jn_left A1.dG)) (hF1.trans hF) (hN1.trans hN)
    | ok t2 en2 =>
      rw [e2] at z
      simp only at z
      intro v2 F2 N2 Rg2 H2 R2 I2 hF2 hN2 T2 A2
      have A1' : Apart F2 G Rg2 H2 R1 := .back I2 A1.dG
      cases e3 : rd en2 t1 with
      | none => rw [e3] at z; exact z.elim
      | some d1 =>
        cases e4 : rd en2 t2 with
        | none => rw [e3, e4] at z; cases d1 <;> exact z.elim
        | some d2 =>
          rw [e3, e4] at z
          cases d1 with
          | int i =>
            cases d2 with
            | int j =>
              simp only at z
              have r1 := rd_ok I2 (T1.mono hF2 hN2) A1'.sR e3
              have r2 := rd_ok I2 T2 A2.sR e4
              cases r1
              cases r2
              refine ⟨i, j, rfl, rfl, p i j, rfl, ?_⟩
              cases hp : p i j with
              | false =>
                rw [hp] at z
                exact iteF (z _ F2 N2 Rg2 H2 emp (I2.unres (jn_left A1.dG)) (hF1.trans hF2) (hN1.trans hN2) ⟨rfl, .bl _⟩ .none)
              | true =>
                rw [hp] at z
                simp only at z
                refine iteT ⟨B, pn, F2, N2, _, Rg2, en2, I2.unres (jn_left A1.dG), ?_⟩
                cases e5 : h en2 with
                | bad => rw [e5] at z; exact z
                | exc c en => rw [e5] at z; exact fun F' N' Rg' H' I' hF hN => z F' N' Rg' H' I' (hF1.trans (hF2.trans hF)) (hN1.trans (hN2.trans hN))
                | ok t3 en3 =>
                  rw [e5] at z
                  simp only at z
                  intro v3 F3 N3 Rg3 H3 R3 I3 hF3 hN3 T3 A3
                  cases e6 : rd en3 t3 with
                  | none => rw [e6] at z; exact z.elim
                  | some d3 =>
                    rw [e6] at z
                    have r3 := rd_ok I3 T3 A3.sR e6
                    cases d3 with
                    | int k =>
                      cases r3
                      exact ⟨j, k, rfl, rfl, z _ F3 N3 Rg3 H3 emp I3 (hF1.trans (hF2.trans hF3)) (hN1.trans (hN2.trans hN3)) ⟨rfl, .bl _⟩ .none⟩
                    | _ => exact z.elim
            | _ => exact z.elim
          | _ => cases d2 <;> exact z.elim
section
variable {X : Cx} {W : L2.WX} {cm : String → Addr} {a b c : Expr} {pos : Pos} {f g h : DE}
theorem gt_chain {op op' : CmpOp} {p q : Int → Int → Bool} (ho : OpR X (compareOp op) (rI0 fun i j => .bl (p i j))) (ho' : OpR X (compareOp op') (rI0 fun i j => .bl (q i j))) (ha : PE X a (tD W cm f)) (hb : PE X b (tD W cm g)) (hc : PE X c (tD W cm h))
    (hm : lastMarks [op, op'] [b, c] = false := by with_unfolding_all rfl) : PT X (.Compare a [op, op'] [b, c] pos) (tT W cm (dVal (eChain p q f g h))) := PTimp (pt_chain ho ho' ha hb hc hm) fun _ _ _ z => td_chain (tt_val z)
end
end DL
namespace DL
open PySem PySem.Spec PyProof.Rows L2
theorem vws2' {N F H : Hp} {x y : V} {ps : List (Bool × D)} (h : Vws N F H [x, y] ps) : ∃ b d c e, ps = [(b, d), (c, e)] ∧ Vw N F H x b d ∧ Vw N F H y c e := by
  cases ps with
  | nil => cases (show [x, y] = [] from h)
  | cons p ps =>
    obtain ⟨b, d⟩ := p
    obtain ⟨v, r, e, h1, h2⟩ := h
    cases e
    cases ps with
    | nil => cases (show [y] = [] from h2)
    | cons p ps =>
      obtain ⟨c, e⟩ := p
      obtain ⟨v, r, e', h3, h4⟩ := h2
      cases e'
      cases ps with
      | nil => exact ⟨b, d, c, e, rfl, h1, h3⟩
      | cons p ps =>
        obtain ⟨b', d'⟩ := p
        obtain ⟨_, _, z, _⟩ := h4
        cases z
theorem Vw.int {N F H : Hp} {x : V} {b : Bool} {i : Int} (h : Vw N F H x b (.int i)) : x = .int i := by
  rcases h with h | ⟨_, _, _, _, e, _⟩
  · cases h; rfl
  · cases e
theorem Vw.str {N F H : Hp} {x : V} {b : Bool} {i : Str} (h : Vw N F H x b (.str i)) : x = .str i := by
  rcases h with h | ⟨_, _, _, _, e, _⟩
  · cases h; rfl
  · cases e
theorem Vw.bl {N F H : Hp} {x : V} {b c : Bool} (h : Vw N F H x b (.bool c)) : x = .bl c := by
  rcases h with h | ⟨_, _, _, _, e, _⟩
  · cases h; rfl
  · cases e
theorem Vw.lst {N F H : Hp} {x : V} {b : Bool} {xs : List D} (sN : Same N F) (sF : Same F H) (h : Vw N F H x b (.list xs)) : ∃ l vs, x = .ref l ∧ Rd H l (.lst vs) ∧ RpA (bsel b N F) vs xs := by
  rcases h with h | ⟨l, vs, ys, e1, e2, e3, r⟩
  · cases h with
    | lst hr ra => exact ⟨_, _, rfl, Rd.same ((bsel_sub sN).trans sF) hr, ra⟩
  · cases e2; exact ⟨l, vs, e1, .inl e3, r⟩
theorem Vw.tup {N F H : Hp} {x : V} {b : Bool} {xs : List D} (sN : Same N F) (sF : Same F H) (h : Vw N F H x b (.tuple xs)) : ∃ l vs, x = .ref l ∧ Rd H l (.tup vs) ∧ RpA (bsel b N F) vs xs := by
  rcases h with h | ⟨_, _, _, _, e, _⟩
  · cases h with
    | tup hr ra => exact ⟨_, _, rfl, Rd.same ((bsel_sub sN).trans sF) hr, ra⟩
  · cases e
theorem Vw.tupR {N F H : Hp} {x : V} {b : Bool} {xs : List D} (h : Vw N F H x b (.tuple xs)) : Rp (bsel b N F) x (.tuple xs) := by
  rcases h with h | ⟨_, _, _, _, e, _⟩
  · exact h
  · cases e
theorem Inv.lstR {X : Cx} {pins : List (Addr × Obj)} {σ : L2.St} {H : Hp} {s : Shared} {l : Addr} {xs : List V} (I : Inv X pins σ H s) (hH : Rd H l (.lst xs)) : xs.length ≤ sizeLine ∧ ∃ (its : List Value) (n : Nat), Vals xs its ∧ xs.length = its.length ∧ s.heap.get? l = some { cls := .type "list", data := .seq its.toArray n } := by
  obtain ⟨z, its, n, r, e⟩ := hH.ok I.hok
  exact ⟨z, its, n, r, r.length, e⟩
def rCat' : R2 := fun x y H Q => ∃ l b xs zs, x = .ref l ∧ y = .ref b ∧ Rd H l (.lst xs) ∧ Rd H b (.lst zs) ∧ xs.length + zs.length ≤ sizeLine ∧ ∀ p, H p = none → Q (.ref p) (upd H p (.lst (xs ++ zs)))
theorem op_cat' {X : Cx} : OpR X (binaryOp .Add) rCat' := by
  intro pins s σ H x y v u Q I rx ry h
  obtain ⟨l, b, xs, zs, rfl, rfl, hH, hB, hz, q⟩ := h
  cases rx
  cases ry
  obtain ⟨z, its, n, r, hl, e⟩ := Inv.lstR I hH
  obtain ⟨z2, its2, n2, r2, hl2, e2⟩ := Inv.lstR I hB
  refine PySem.P.add_list e e2 ?_ (by rw [List.size_toArray, List.size_toArray]; omega)
  have ea : its.toArray ++ its2.toArray = (its ++ its2).toArray := by simp
  rw [ea]
  exact ⟨.ref _, _, I.lnew (t' := s.toks) (r.append r2) (by rw [List.length_append]; omega), rfl, q _ I.fresh⟩
def rAddI : R2 := rI0 fun i j => .int (i + j)
def rAddS : R2 := fun x y H Q => ∃ i j, x = .str i ∧ y = .str j ∧ i.length + j.length ≤ sizeLine ∧ Q (.str (i ++ j)) H
def rAdd (K : PySem.W.Frag) : R2 := fun x y H Q => rAddI x y H Q ∨ rCat' x y H Q ∨ rCatA K x y H Q ∨ rAddS x y H Q
theorem op_addA {X : Cx} : OpR X (binaryOp .Add) (rAdd X.K) := op_add.or (op_cat'.or (op_catA.or op_add_str))
def fits (n : Nat) : Bool := decide (n ≤ 16777216)
theorem fits_ok {n : Nat} (h : fits n = true) : n ≤ sizeLine := by rw [sizeLine_eq]; exact of_decide_eq_true h
def dAdd : List (Bool × D) → Option Tok
  | [(_, .int i), (_, .int j)] => some (.fz true (.int (i + j)))
  | [(b, .list xs), (c, .list ys)] => match fits (xs.length + ys.length) with
    | true => some (.nw (b && c) (xs ++ ys))
    | false => none
  | [(b, .tuple xs), (c, .tuple ys)] => match fits (xs.length + ys.length) with
    | true => some (.fz (b && c) (.tuple (xs ++ ys)))
    | false => none
  | [(_, .str s), (_, .str t)] => match fits (s.length + t.length) with
    | true => some (.fz true (.str (s ++ t)))
    | false => none
  | _ => none
theorem el_add {K : PySem.W.Frag} : ElR (fun _ vs H Q => ∀ x y, vs = [x, y] → rAdd K x y H Q) dAdd := by
  intro σ N F H vs ps t Q sN sF V e q x y ev
  subst ev
  obtain ⟨b, d1, c, d2, rfl, v1, v2⟩ := vws2' V
  · skip
    cases d1 with
    | int i =>
      cases d2 with
      | int j =>
        cases e
        exact .inl ⟨i, j, v1.int, v2.int, q _ _ (.inl ⟨rfl, true, _, rfl, .int _⟩)⟩
      | _ => cases e
    | list xs =>
      cases d2 with
      | list ys =>
        have e : (match fits (xs.length + ys.length) with | true => some (Tok.nw (b && c) (xs ++ ys)) | false => none) = some t := e
        cases hf : fits (xs.length + ys.length) with
        | false => rw [hf] at e; cases e
        | true =>
          rw [hf] at e
          cases e
          obtain ⟨l, vs, e1, h1, r1⟩ := v1.lst sN sF
          obtain ⟨l', vs', e2, h2, r2⟩ := v2.lst sN sF
          exact .inr (.inl ⟨l, l', vs, vs', e1, e2, h1, h2, by rw [r1.len, r2.len]; exact fits_ok hf, fun p np => q _ _ (.inr (.inl ⟨p, _, _, _, rfl, rfl, np, rfl, (r1.mono (bsel_and_l sN)).append (r2.mono (bsel_and_r sN))⟩))⟩)
      | _ => cases e
    | tuple xs =>
      cases d2 with
      | tuple ys =>
        have e : (match fits (xs.length + ys.length) with | true => some (Tok.fz (b && c) (.tuple (xs ++ ys))) | false => none) = some t := e
        cases hf : fits (xs.length + ys.length) with
        | false => rw [hf] at e; cases e
        | true =>
          rw [hf] at e
          cases e
          obtain ⟨l, vs, e1, h1, r1⟩ := v1.tup sN sF
          obtain ⟨l', vs', e2, h2, r2⟩ := v2.tup sN sF
          refine .inr (.inr (.inl ⟨l, l', vs, vs', e1, e2, .inl h1, .inl h2, by rw [r1.len, r2.len]; exact fits_ok hf, fun z => ?_, fun z1 z => ?_, fun _ _ p np => q _ _ (.inr (.inr ⟨p, _, _, _, rfl, rfl, np, rfl, (r1.mono (bsel_and_l sN)).append (r2.mono (bsel_and_r sN))⟩))⟩))
          · have : xs = [] := by have := r1.len; rw [z] at this; exact List.length_eq_zero_iff.mp this.symm
            subst this
            rw [← e2]
            exact q _ _ (.inl ⟨rfl, _, _, rfl, v2.tupR.mono (bsel_and_r sN)⟩)
          · have : ys = [] := by have := r2.len; rw [z] at this; exact List.length_eq_zero_iff.mp this.symm
            subst this
            rw [← e1]
            exact q _ _ (.inl ⟨rfl, _, _, rfl, by rw [List.append_nil]; exact v1.tupR.mono (bsel_and_l sN)⟩)
      | _ => cases e
    | str s =>
      cases d2 with
      | str u =>
        have e : (match fits (s.length + u.length) with | true => some (Tok.fz true (.str (s ++ u))) | false => none) = some t := e
        cases hf : fits (s.length + u.length) with
        | false => rw [hf] at e; cases e
        | true =>
          rw [hf] at e
          cases e
          exact .inr (.inr (.inr ⟨s, u, v1.str, v2.str, fits_ok hf, q _ _ (.inl ⟨rfl, true, _, rfl, .str _⟩)⟩))
      | _ => cases e
    | _ => cases e
def small64 (i : Int) : Bool := decide (-(2 ^ 64) < i) && decide (i < 2 ^ 64)
theorem small64_ok {i : Int} (h : small64 i = true) : -(2 ^ 64) < i ∧ i < 2 ^ 64 := by
  unfold small64 at h
  rw [Bool.and_eq_true, decide_eq_true_eq, decide_eq_true_eq] at h
  exact h
def dMul : List (Bool × D) → Option Tok
  | [(_, .int i), (_, .int j)] => match small64 i || small64 j with
    | true => some (.fz true (.int (i * j)))
    | false => none
  | [(b, .list xs), (_, .int k)] => match smallI k && fits (xs.length * k.toNat) with
    | true => some (.nw b (List.replicate k.toNat xs).flatten)
    | false => none
  | _ => none
theorem op_repR {X : Cx} : OpR X (binaryOp .Mult) (fun x y H Q => ∃ l k xs, x = .ref l ∧ y = .int k ∧ Rd H l (.lst xs) ∧ -(2 ^ 63) ≤ k ∧ k < 2 ^ 63 ∧ xs.length * k.toNat ≤ sizeLine ∧
  ∀ p, H p = none → Q (.ref p) (upd H p (.lst (List.replicate k.toNat xs).flatten))) := by
  intro pins s σ H x y v u Q I rx ry h
  obtain ⟨l, k, xs, rfl, rfl, hH, h1, h2, hz, q⟩ := h
  cases rx
  obtain ⟨t, rfl⟩ := ry
  obtain ⟨z, its, n, r, hl, e⟩ := Inv.lstR I hH
  have hlen : its.toArray.size * k.toNat ≤ sizeLine := by rw [List.size_toArray, ← hl]; exact hz
  have hcap : ¬ its.toArray.size * k.toNat > (2 ^ 63 - 1) / 8 := by
    have : (sizeLine : Nat) ≤ (2 ^ 63 - 1) / 8 := by decide
    omega
  have hfit : ¬ (!Builtin.List.listFitsIndex k) = true := by
    rw [fitsIndex_both h1 h2]
    exact Bool.false_ne_true
  have hlong : ¬ Builtin.List.listTooLong (its.toArray.size * k.toNat) = true := by
    rw [notLongL hlen]
    exact Bool.false_ne_true
  have hnew : List.foldl (fun x1 x2 => x1 ++ x2) #[] (List.replicate (if its.toArray.isEmpty = true then 0 else k.toNat) its.toArray) = (List.replicate k.toNat its).flatten.toArray := by
    have f0 : ∀ m : Nat, List.foldl (fun x1 x2 => x1 ++ x2) #[] (List.replicate m its.toArray) = (List.replicate m its).flatten.toArray := fun m => by
      have := foldl_rep its m []
      rw [List.nil_append] at this
      exact this
    rw [f0]
    cases its with
    | nil => simp
    | cons a r' => rw [if_neg (by simp)]
  refine wpAny_binaryOp_repeat_ref (T := "list") (U := "int") (by decide) ⟨_, e, rfl⟩ (fun s' => typeIs_int s' k t) noFill_list_mul F.fills_int_mul F.slot_int_rmul repeat_list F.slot_int_index.lookup
    (call_meets F.slot_int_rmul (typeIs_int s k t) F.entry_int_rmul (F.args_int_rmul_2 _ _) (int___rmul___int_list k t l its.toArray n)
      ⟨e, rfl, ⟨_, e, rfl⟩, call_meets F.slot_list_mul ⟨_, e, rfl⟩ F.entry_list_mul (F.args_list_mul_2 _ _) (AutoListH.list___mul___list_int_3 l its.toArray n k t hfit hcap hlong) ⟨e, ?_⟩⟩)
  rw [hnew]
  exact ⟨.ref _, _, I.lnew (t' := s.toks) (r.rep k.toNat) (by rw [PyProof.Rows.lm_len_rep_flat, Nat.mul_comm]; exact hz), rfl, q _ I.fresh⟩
theorem el_mul : ElR (fun _ vs H Q => ∀ x y, vs = [x, y] → (rI CMul (fun i j => .int (i * j)) x y H Q ∨ ∃ l k xs, x = .ref l ∧ y = .int k ∧ Rd H l (.lst xs) ∧ -(2 ^ 63) ≤ k ∧ k < 2 ^ 63 ∧ xs.length * k.toNat ≤ sizeLine ∧
  ∀ p, H p = none → Q (.ref p) (upd H p (.lst (List.replicate k.toNat xs).flatten)))) dMul := by
  intro σ N F H vs ps t Q sN sF V e q x y ev
  subst ev
  obtain ⟨b, d1, c, d2, rfl, v1, v2⟩ := vws2' V
  · skip
    cases d1 with
    | int i =>
      cases d2 with
      | int j =>
        have e : (match small64 i || small64 j with | true => some (Tok.fz true (.int (i * j))) | false => none) = some t := e
        cases hf : (small64 i || small64 j) with
        | false => rw [hf] at e; cases e
        | true =>
          rw [hf] at e
          cases e
          refine .inl ⟨i, j, v1.int, v2.int, ?_, q _ _ (.inl ⟨rfl, true, _, rfl, .int _⟩)⟩
          rw [Bool.or_eq_true] at hf
          rcases hf with hf | hf
          · exact .inl (small64_ok hf)
          · exact .inr (small64_ok hf)
      | _ => cases e
    | list xs =>
      cases d2 with
      | int k =>
        have e : (match smallI k && fits (xs.length * k.toNat) with | true => some (Tok.nw b (List.replicate k.toNat xs).flatten) | false => none) = some t := e
        cases hf : (smallI k && fits (xs.length * k.toNat)) with
        | false => rw [hf] at e; cases e
        | true =>
          rw [hf] at e
          cases e
          rw [Bool.and_eq_true] at hf
          obtain ⟨f1, f2⟩ := smallI_ok hf.1
          obtain ⟨l, vs, e1, h1, r1⟩ := v1.lst sN sF
          exact .inr ⟨l, k, vs, e1, v2.int, h1, by omega, by omega, by rw [r1.len]; exact fits_ok hf.2, fun p np => q _ _ (.inr (.inl ⟨p, _, _, _, rfl, rfl, np, rfl, r1.rep _⟩))⟩
      | _ => cases e
    | _ => cases e
def dIdx : List (Bool × D) → Option Tok
  | [(b, .list xs), (_, .int i)] => (atI xs i).map fun d => .fz b d
  | [(b, .tuple xs), (_, .int i)] => (atI xs i).map fun d => .fz b d
  | [(_, .str z), (_, .int i)] => match fits z.length with
    | true => (atI z.cps.toList i).map fun c => .fz true (.str ⟨#[c]⟩)
    | false => none
  | _ => none
theorem atI_rp {F : Hp} {vs : List V} {xs : List D} {i : Int} {d : D} (r : RpA F vs xs) (h : atI xs i = some d) : ∃ v, atI vs i = some v ∧ Rp F v d := by
  unfold atI at h ⊢
  rw [r.len]
  cases e : ixN xs.length i with
  | none => rw [e] at h; cases h
  | some j =>
    rw [e] at h
    exact r.get h
theorem el_idx {K : PySem.W.Frag} : ElR (fun _ vs H Q => ∀ x y, vs = [x, y] → rIx K x y H Q) dIdx := by
  intro σ N F H vs ps t Q sN sF V e q x y ev
  subst ev
  obtain ⟨b, d1, c, d2, rfl, v1, v2⟩ := vws2' V
  · skip
    cases d2 with
    | int i =>
      cases d1 with
      | list xs =>
        obtain ⟨d, ed, rfl⟩ := Option.map_eq_some_iff.mp (show (atI xs i).map (fun d => Tok.fz b d) = some t from e)
        obtain ⟨l, vs, e1, h1, r1⟩ := v1.lst sN sF
        obtain ⟨v, ev, rv⟩ := atI_rp r1 ed
        exact .inl ⟨l, vs, i, v, e1, v2.int, .inl h1, ev, q _ _ (.inl ⟨rfl, b, d, rfl, rv⟩)⟩
      | tuple xs =>
        obtain ⟨d, ed, rfl⟩ := Option.map_eq_some_iff.mp (show (atI xs i).map (fun d => Tok.fz b d) = some t from e)
        obtain ⟨l, vs, e1, h1, r1⟩ := v1.tup sN sF
        obtain ⟨v, ev, rv⟩ := atI_rp r1 ed
        exact .inr (.inl ⟨l, vs, i, v, e1, v2.int, .inl h1, ev, q _ _ (.inl ⟨rfl, b, d, rfl, rv⟩)⟩)
      | str z =>
        have e : (match fits z.length with | true => (atI z.cps.toList i).map fun c => Tok.fz true (.str ⟨#[c]⟩) | false => none) = some t := e
        cases hf : fits z.length with
        | false => rw [hf] at e; cases e
        | true =>
          rw [hf] at e
          simp only [Option.map_eq_some_iff] at e
          obtain ⟨c, ed, rfl⟩ := e
          exact .inr (.inr ⟨z, i, c, v1.str, v2.int, fits_ok hf, ed, q _ _ (.inl ⟨rfl, true, _, rfl, .str _⟩)⟩)
      | _ => cases e
    | _ => cases d1 <;> cases e
def cutL {α : Type} (xs : List α) (lo hi : Option Int) : List α := (xs.drop (HT.sIx xs.length 0 lo)).take (HT.sIx xs.length xs.length hi - HT.sIx xs.length 0 lo)
theorem cutL_rp {F : Hp} {vs : List V} {xs : List D} {lo hi : Option Int} (r : RpA F vs xs) : RpA F (cutV vs lo hi) (cutL xs lo hi) := by
  unfold cutV cutL
  rw [r.len]
  exact (r.drop _).take _
theorem cutL_whole {α : Type} {xs : List α} {lo hi : Option Int} (h : HT.sIx xs.length 0 lo = 0 ∧ HT.sIx xs.length xs.length hi = xs.length) : cutL xs lo hi = xs := by
  unfold cutL
  rw [h.1, h.2, List.drop_zero, Nat.sub_zero]
  exact List.take_of_length_le (Nat.le_refl _)
def rSl (K : PySem.W.Frag) : V → Option Int → Option Int → Hp → VK → Prop := fun x lo hi H Q => rSlL K x lo hi H Q ∨ rSlA K x lo hi H Q ∨ rSlS x lo hi H Q
theorem sl_all {X : Cx} : SlR X (rSl X.K) := sl_list.or (sl_tupA.or sl_str)
def cut1 (b : Bool) (d : D) (lo hi : Option Int) : Option Tok := match d with
  | .list xs => some (.nw b (cutL xs lo hi))
  | .tuple xs => some (.fz b (.tuple (cutL xs lo hi)))
  | .str z => match fits z.length with
    | true => some (.fz true (.str (cutS z lo hi)))
    | false => none
  | _ => none
theorem el_cut1 {K : PySem.W.Frag} {N F H : Hp} {x : V} {b : Bool} {d : D} {lo hi : Option Int} {t : Tok} {Q : VK} (sN : Same N F) (sF : Same F H) (v1 : Vw N F H x b d)
    (e : cut1 b d lo hi = some t) (q : ∀ v H', RM N F H t v H' → Q v H') : rSl K x lo hi H Q := by
  cases d with
  | list xs =>
    cases e
    obtain ⟨l, vs, e1, h1, r1⟩ := v1.lst sN sF
    exact .inl ⟨l, vs, e1, .inl h1, fun p np => q _ _ (.inr (.inl ⟨p, _, _, _, rfl, rfl, np, rfl, cutL_rp r1⟩))⟩
  | tuple xs =>
    cases e
    obtain ⟨l, vs, e1, h1, r1⟩ := v1.tup sN sF
    refine .inr (.inl ⟨l, vs, e1, .inl h1, fun hw => ?_, fun _ p np => q _ _ (.inr (.inr ⟨p, _, _, _, rfl, rfl, np, rfl, cutL_rp r1⟩))⟩)
    rw [← e1]
    refine q _ _ (.inl ⟨rfl, b, _, rfl, ?_⟩)
    rw [r1.len] at hw
    rw [cutL_whole hw]
    exact v1.tupR
  | str z =>
    have e : (match fits z.length with | true => some (Tok.fz true (.str (cutS z lo hi))) | false => none) = some t := e
    cases hf : fits z.length with
    | false => rw [hf] at e; cases e
    | true =>
      rw [hf] at e
      cases e
      exact .inr (.inr ⟨z, v1.str, fits_ok hf, q _ _ (.inl ⟨rfl, true, _, rfl, .str _⟩)⟩)
  | _ => cases e
def dCut10 : List (Bool × D) → Option Tok
  | [(b, d), (_, .int i)] => cut1 b d (some i) none
  | _ => none
def dCut01 : List (Bool × D) → Option Tok
  | [(b, d), (_, .int j)] => cut1 b d none (some j)
  | _ => none
theorem el_cut10 {K : PySem.W.Frag} : ElR (fun _ vs H Q => ∀ x y, vs = [x, y] → ∃ i, y = .int i ∧ rSl K x (some i) none H Q) dCut10 := fun σ N F H vs ps t Q sN sF V e q x y ev => by
  subst ev
  obtain ⟨b, d, c, d2, rfl, v1, v2⟩ := vws2' V
  cases d2 with
  | int i => exact ⟨i, v2.int, el_cut1 sN sF v1 e q⟩
  | _ => cases e
theorem el_cut01 {K : PySem.W.Frag} : ElR (fun _ vs H Q => ∀ x y, vs = [x, y] → ∃ i, y = .int i ∧ rSl K x none (some i) H Q) dCut01 := fun σ N F H vs ps t Q sN sF V e q x y ev => by
  subst ev
  obtain ⟨b, d, c, d2, rfl, v1, v2⟩ := vws2' V
  cases d2 with
  | int i => exact ⟨i, v2.int, el_cut1 sN sF v1 e q⟩
  | _ => cases e
section
variable {X : Cx} {W : L2.WX} {cm : String → Addr} {a b c : Expr} {pos p2 : Pos} {f g h : DE}
theorem tdmono {f : DE} {σ : L2.St} {H : Hp} {Q Q' : VK} : tD W cm f σ H Q → (∀ v H, Q v H → Q' v H) → tD W cm f σ H Q' := fun ⟨B, pn, F, N, G, Rg, env, I, z⟩ k => ⟨B, pn, F, N, G, Rg, env, I, z.imp k⟩
theorem ge_cut10 (ha : PE X a (tD W cm f)) (hb : PE X b (tD W cm g)) : PE X (.Subscript a (.Slice (some b) none none p2) pos) (tD W cm (dAp (opEl dCut10) [f, g])) :=
  PEimp (pe_slice sl_all ha (po_some hb) po_none) fun σ H Q q => by
    have z : tAD W cm [f, g] σ H (fun vs H' => ∀ x y, vs = [x, y] → ∃ i, y = .int i ∧ rSl X.K x (some i) none H' Q) := ap_read (ap_el el_cut10) q
    exact tdmono z fun x H1 z => tdmono z fun y H2 z => z x y rfl
theorem ge_cut01 (ha : PE X a (tD W cm f)) (hb : PE X b (tD W cm g)) : PE X (.Subscript a (.Slice none (some b) none p2) pos) (tD W cm (dAp (opEl dCut01) [f, g])) :=
  PEimp (pe_slice sl_all ha po_none (po_some hb)) fun σ H Q q => by
    have z : tAD W cm [f, g] σ H (fun vs H' => ∀ x y, vs = [x, y] → ∃ i, y = .int i ∧ rSl X.K x none (some i) H' Q) := ap_read (ap_el el_cut01) q
    exact tdmono z fun x H1 z => tdmono z fun y H2 z => z x y rfl
theorem ge_add (ha : PE X a (tD W cm f)) (hb : PE X b (tD W cm g)) : PE X (.BinOp a .Add b pos) (tD W cm (dAp (opEl dAdd) [f, g])) := ge_el2 op_addA el_add ha hb
theorem ge_mul (ha : PE X a (tD W cm f)) (hb : PE X b (tD W cm g)) : PE X (.BinOp a .Mult b pos) (tD W cm (dAp (opEl dMul) [f, g])) := ge_el2 (op_mul.or op_repR) el_mul ha hb
theorem ge_idx (hs : PlainIx b) (ha : PE X a (tD W cm f)) (hb : PE X b (tD W cm g)) : PE X (.Subscript a b pos) (tD W cm (dAp (opEl dIdx) [f, g])) :=
  PEimp (pe_ix ix_seq ha hb hs) fun _ _ _ q => td_bin (ap_el el_idx) q
end
end DL
namespace DL
open PySem PySem.Spec PyProof.Rows L2
def dList (ps : List (Bool × D)) : Option Tok := match fits ps.length with
  | true => some (.nw (tagAll ps) (ps.map (·.2)))
  | false => none
def dTup (ps : List (Bool × D)) : Option Tok := match fits ps.length with
  | true => some (.fz (tagAll ps) (.tuple (ps.map (·.2))))
  | false => none
theorem tk_list : TkR (fun _ xs H Q => xs.length ≤ sizeLine ∧ ∀ p, H p = none → Q (.ref p) (upd H p (.lst xs))) dList := fun σ N F H vs ps t Q sN sF r e q => by
  have e : (match fits ps.length with | true => some (Tok.nw (tagAll ps) (ps.map (·.2))) | false => none) = some t := e
  cases hf : fits ps.length with
  | false => rw [hf] at e; cases e
  | true =>
    rw [hf] at e
    cases e
    exact ⟨by rw [r.len]; exact fits_ok hf, fun p np => q _ _ (.inr (.inl ⟨p, _, _, _, rfl, rfl, np, rfl, r.all sN⟩))⟩
theorem tk_tup : TkR (fun _ xs H Q => xs.length ≤ sizeLine ∧ ∀ p, H p = none → Q (.ref p) (upd H p (.tup xs))) dTup := fun σ N F H vs ps t Q sN sF r e q => by
  have e : (match fits ps.length with | true => some (Tok.fz (tagAll ps) (.tuple (ps.map (·.2)))) | false => none) = some t := e
  cases hf : fits ps.length with
  | false => rw [hf] at e; cases e
  | true =>
    rw [hf] at e
    cases e
    exact ⟨by rw [r.len]; exact fits_ok hf, fun p np => q _ _ (.inr (.inr ⟨p, _, _, _, rfl, rfl, np, rfl, r.all sN⟩))⟩
section
variable {X : Cx} {W : L2.WX} {cm : String → Addr} {es : List Expr} {fs : List DE} {pos : Pos}
theorem ge_list (ha : PA X es (tAD W cm fs)) : PE X (.List es pos) (tD W cm (dAp (opTk dList) fs)) := PEimp (pe_lst ha) fun σ H Q q => by
  exact ap_read (ap_tk tk_list) q
theorem ge_tuple {x1} (ha : PA X es (tAD W cm fs)) : PE X (.Tuple es x1 pos) (tD W cm (dAp (opTk dTup) fs)) := PEimp (pe_tup ha) fun σ H Q q => by
  exact ap_read (ap_tk tk_tup) q
end
section
variable {X : Cx} {W : L2.WX} {cm : String → Addr} {x : Str} {p pos : Pos} {e : Expr} {es : List Expr} {fs : List DE} {id T : String} {r : List V → Hp → VK → Prop}
theorem ge_cbS {op : List D → Option D} (hc : CallR X (.builtin id) r) (hr : ScR (fun _ vs H Q => r vs H Q) op) (hg : Gl X x) (hm : X.mg x = none) (hv : bootBuiltins x = some (.builtin id)) (ha : PA X (e :: es) (tAD W cm fs)) (hn : x ≠ "__name__" := by decide) (hdb : (x == ("__debug__" : Str)) = false := by decide)
    (he : starEach (e :: es) X.env = (false, eval e X.env) :: starEach es X.env := by rfl) (hpl : (backTo pos (starEach es X.env)).any (·.1) = false := by rfl) : PE X (.Call (.Name x p) (e :: es) [] pos) (tD W cm (dAp (opSc op) fs)) :=
  PEimp (pe_callB hc hg hm hv ha hn hdb he hpl) fun _ _ _ q => ap_read (r := fun _ vs H Q => r vs H Q) (ap_sc hr) q
theorem ge_ctS {op : List D → Option D} (hc : CallR X (.type T) r) (hr : ScR (fun _ vs H Q => r vs H Q) op) (hg : Gl X x) (hm : X.mg x = none) (hv : bootBuiltins x = some (.type T)) (ha : PA X (e :: es) (tAD W cm fs)) (hn : x ≠ "__name__" := by decide) (hdb : (x == ("__debug__" : Str)) = false := by decide)
    (he : starEach (e :: es) X.env = (false, eval e X.env) :: starEach es X.env := by rfl) (hpl : (backTo pos (starEach es X.env)).any (·.1) = false := by rfl) : PE X (.Call (.Name x p) (e :: es) [] pos) (tD W cm (dAp (opSc op) fs)) :=
  PEimp (pe_callTy hc hg hm hv ha hn hdb he hpl) fun _ _ _ q => ap_read (r := fun _ vs H Q => r vs H Q) (ap_sc hr) q
end
theorem rpa1' {H : Hp} {vs : List V} {d : D} (h : RpA H vs [d]) : ∃ x, vs = [x] ∧ Rp H x d := by
  cases h with
  | cons h r => cases r; exact ⟨_, rfl, h⟩
theorem rpa2' {H : Hp} {vs : List V} {d e : D} (h : RpA H vs [d, e]) : ∃ x y, vs = [x, y] ∧ Rp H x d ∧ Rp H y e := by
  cases h with
  | cons h r =>
    obtain ⟨y, rfl, r2⟩ := rpa1' r
    exact ⟨_, _, rfl, h, r2⟩
def lenD : D → Option Nat
  | .list xs => some xs.length
  | .tuple xs => some xs.length
  | .str z => match fits z.length with
    | true => some z.length
    | false => none
  | _ => none
def dLen : List D → Option D
  | [d] => (lenD d).map fun n => .int (n : Nat)
  | _ => none
theorem sc_len {K : PySem.W.Frag} : ScR (fun _ xs H Q => ∃ x n, xs = [x] ∧ LenV K x H n ∧ Q (.int (n : Nat)) H) dLen := fun σ H vs ds d Q r e q => by
  match ds, r, e with
  | [d1], r, e =>
    obtain ⟨x, rfl, r1⟩ := rpa1' r
    obtain ⟨n, en, rfl⟩ := Option.map_eq_some_iff.mp (show (lenD d1).map (fun n => PyData.int (n : Nat)) = some d from e)
    refine ⟨x, n, rfl, ?_, q _ (.int _)⟩
    cases r1 with
    | lst h ra => cases en; exact .inl ⟨_, .inl h, ra.len.symm⟩
    | tup h ra => cases en; exact .inr ⟨_, .inl h, ra.len.symm⟩
    | str z =>
      have en : (match fits z.length with | true => some z.length | false => none) = some n := en
      cases hf : fits z.length with
      | false => rw [hf] at en; cases en
      | true => rw [hf] at en; cases en; exact ⟨fits_ok hf, rfl⟩
    | _ => cases en
def dMax2 : List D → Option D
  | [.int i, .int j] => some (.int (if j > i then j else i))
  | _ => none
def dMin2 : List D → Option D
  | [.int i, .int j] => some (.int (if j < i then j else i))
  | _ => none
theorem sc_max2 : ScR (fun _ xs H Q => ∃ i j, xs = [V.int i, V.int j] ∧ Q (.int (if j > i then j else i)) H) dMax2 := fun σ H vs ds d Q r e q => by
  match ds, r, e with
  | [.int i, .int j], r, e =>
    obtain ⟨x, y, rfl, r1, r2⟩ := rpa2' r
    cases r1
    cases r2
    cases e
    exact ⟨i, j, rfl, q _ (.int _)⟩
theorem sc_min2 : ScR (fun _ xs H Q => ∃ i j, xs = [V.int i, V.int j] ∧ Q (.int (if j < i then j else i)) H) dMin2 := fun σ H vs ds d Q r e q => by
  match ds, r, e with
  | [.int i, .int j], r, e =>
    obtain ⟨x, y, rfl, r1, r2⟩ := rpa2' r
    cases r1
    cases r2
    cases e
    exact ⟨i, j, rfl, q _ (.int _)⟩
def dInt1 : List D → Option D
  | [.int i] => some (.int i)
  | [.bool b] => some (.int (if b then 1 else 0))
  | _ => none
theorem sc_int1 : ScR (fun _ xs H Q => (∃ i, xs = [V.int i] ∧ Q (.int i) H) ∨ ∃ k, xs = [V.bl k] ∧ Q (.int (if k then 1 else 0)) H) dInt1 := fun σ H vs ds d Q r e q => by
  match ds, r, e with
  | [.int i], r, e =>
    obtain ⟨x, rfl, r1⟩ := rpa1' r
    cases r1
    cases e
    exact .inl ⟨i, rfl, q _ (.int _)⟩
  | [.bool b], r, e =>
    obtain ⟨x, rfl, r1⟩ := rpa1' r
    cases r1
    cases e
    exact .inr ⟨b, rfl, q _ (.int _)⟩
def intsD : List D → Option (List Int)
  | [] => some []
  | .int i :: r => (intsD r).map (i :: ·)
  | _ :: _ => none
theorem intsD_some : ∀ {ds : List D} {ns : List Int}, intsD ds = some ns → ds = ns.map PyData.int
  | [], _, h => by cases h; rfl
  | .int i :: r, ns, h => by
    obtain ⟨m, e, rfl⟩ := Option.map_eq_some_iff.mp (show (intsD r).map (i :: ·) = some ns from h)
    rw [intsD_some e]
    rfl
theorem intsD_map : ∀ ns : List Int, intsD (ns.map PyData.int) = some ns
  | [] => rfl
  | n :: r => by
    show (intsD (r.map PyData.int)).map (n :: ·) = _
    rw [intsD_map r]
    rfl
def rNotInA (K : PySem.W.Frag) : R2 := fun x y H Q => ∃ d ds, Dp K H x d ∧ (Dp K H y (.list ds) ∨ Dp K H y (.tuple ds)) ∧ SeqAt.shaped d = true ∧ PyData.canLayAll0 ds = true ∧ Q (.bl (!ds.any fun z => PyData.eqv z d)) H
theorem room_in {A : Around} {d : PyData} {n : Nat} (sd : SeqAt.shaped d = true) (hu : A.units + 65 < cLine) : A.units + 1 + min n d.depth < cLine := by
  have := SeqAt.depth_of_shaped sd
  omega
theorem op_notInA {X : Cx} (hu : X.A.units + 65 < cLine) : OpR X (compareOp .NotIn) (rNotInA X.K) := by
  intro pins s σ H x y v u Q I rx ry h
  obtain ⟨d, ds, hd, he, sd, se, q⟩ := h
  obtain ⟨as, r1⟩ := Dp.reads I d x v hd rx
  rcases he with he | he
  · obtain ⟨bs, r2⟩ := Dp.reads I (.list ds) y u he ry
    exact SeqAt.notIn_list_reads r2 r1 se (SeqAt.canLay_of_shaped sd) (room_in sd hu) ⟨.bl _, H, I, rfl, q⟩
  · obtain ⟨bs, r2⟩ := Dp.reads I (.tuple ds) y u he ry
    exact SeqAt.notIn_tuple_reads r2 r1 se (SeqAt.canLay_of_shaped sd) (room_in sd hu) ⟨.bl _, H, I, rfl, q⟩
def inD (d : D) (ds : List D) : Option Bool := match SeqAt.shaped d && PyData.canLayAll0 ds with
  | true => some (ds.any fun z => PyData.eqv z d)
  | false => none
def dNotIn : List D → Option D
  | [d, .list ds] => (inD d ds).map fun b => .bool (!b)
  | [d, .tuple ds] => (inD d ds).map fun b => .bool (!b)
  | _ => none
theorem inD_some {d : D} {ds : List D} {b : Bool} (h : inD d ds = some b) : SeqAt.shaped d = true ∧ PyData.canLayAll0 ds = true ∧ b = ds.any fun z => PyData.eqv z d := by
  unfold inD at h
  cases hs : (SeqAt.shaped d && PyData.canLayAll0 ds) with
  | false => rw [hs] at h; cases h
  | true =>
    rw [hs] at h
    rw [Bool.and_eq_true] at hs
    exact ⟨hs.1, hs.2, (Option.some.inj h).symm⟩
theorem sc_notIn {K : PySem.W.Frag} : ScR (fun _ vs H Q => ∀ x y, vs = [x, y] → rNotInA K x y H Q) dNotIn := fun σ H vs ds d Q r e q x y ev => by
  subst ev
  match ds, r, e with
  | [d1, .list xs], r, e =>
    obtain ⟨r1, r2⟩ := rpa2 r
    obtain ⟨b, eb, rfl⟩ := Option.map_eq_some_iff.mp (show (inD d1 xs).map (fun b => PyData.bool (!b)) = some d from e)
    obtain ⟨h1, h2, rfl⟩ := inD_some eb
    exact ⟨d1, xs, r1.dp (Same.refl _) (SeqAt.canLay_of_shaped h1), .inl (r2.dp (Same.refl _) h2), h1, h2, q _ (.bl _)⟩
  | [d1, .tuple xs], r, e =>
    obtain ⟨r1, r2⟩ := rpa2 r
    obtain ⟨b, eb, rfl⟩ := Option.map_eq_some_iff.mp (show (inD d1 xs).map (fun b => PyData.bool (!b)) = some d from e)
    obtain ⟨h1, h2, rfl⟩ := inD_some eb
    exact ⟨d1, xs, r1.dp (Same.refl _) (SeqAt.canLay_of_shaped h1), .inr (r2.dp (Same.refl _) h2), h1, h2, q _ (.bl _)⟩
section
variable {X : Cx} {W : L2.WX} {cm : String → Addr} {a b : Expr} {pos : Pos} {f g : DE}
theorem gt_notIn (hu : X.A.units + 65 < cLine) (hm : behindInMarks .NotIn b = false) (ha : PE X a (tD W cm f)) (hb : PE X b (tD W cm g)) : PT X (.Compare a [.NotIn] [b] pos) (tT W cm (dVal (dAp (opSc dNotIn) [f, g]))) := gt_cmp2 (op_notInA hu) sc_notIn hm ha hb
end
def tyN : D → String
  | .none => "NoneType"
  | .bool _ => "bool"
  | .int _ => "int"
  | .str _ => "str"
  | .list _ => "list"
  | .tuple _ => "tuple"
  | .dict _ => "dict"
def isTy (a : String) (T : String) : Bool := decide (a = T) || (decide (a = "bool") && decide (T = "int"))
def goodT (T : String) : Bool := decide (T = "list") || decide (T = "tuple") || decide (T = "int") || decide (T = "bool") || decide (T = "str")
def eIsi (T : String) (f : DE) : DE := fun env => match f env with
  | .ok t e1 => match rd e1 t with
    | some d => match d with
      | .dict (_ :: _) => .bad
      | d => .ok (.fz true (.bool (isTy (tyN d) T))) e1
    | none => .bad
  | .exc c e1 => .exc c e1
  | .bad => .bad
theorem Rp.ty {K : PySem.W.Frag} {H : Hp} {v : V} {d : D} (h : Rp H v d) (hd : ∀ x k, d ≠ .dict (x :: k)) : TyX K H v (.type (tyN d)) := by
  cases h with
  | non => exact .base .non
  | bl b => exact .base (.bl b)
  | int i => exact .base (.int i)
  | str x => exact .base (.str x)
  | lst h _ =>
    rcases h with h | ⟨o, h⟩
    · exact .base (.lst h)
    · exact .base (.frz h)
  | tup h _ =>
    rcases h with h | ⟨o, h⟩
    · exact .base (.tup h)
    · exact .fTuple h
  | exn _ _ _ => exact absurd rfl (hd _ _)
  | dcv _ _ => exact absurd rfl (hd _ _)
  | dtv _ _ => exact absurd rfl (hd _ _)
  | kne _ => exact absurd rfl (hd _ _)
  | sepL _ _ _ => exact absurd rfl (hd _ _)
  | sepT _ _ _ => exact absurd rfl (hd _ _)
  | @dct a tab h =>
    cases tab with
    | nil => exact .base (.dK h)
    | cons x r => exact absurd rfl (hd _ _)
theorem kit_all {T : String} (hT : goodT T = true) {d : D} (hd : ∀ x k, d ≠ .dict (x :: k)) : kitB (tyN d) T = some (isTy (tyN d) T) := by
  have key : ∀ a ∈ ["NoneType", "bool", "int", "str", "list", "tuple", "dict"], ∀ T ∈ ["list", "tuple", "int", "bool", "str"], kitB a T = some (isTy a T) := by decide +kernel
  have h2 : T ∈ ["list", "tuple", "int", "bool", "str"] := by
    simp only [goodT, Bool.or_eq_true, decide_eq_true_eq] at hT
    rcases hT with (((h | h) | h) | h) | h <;> subst h <;> simp
  refine key _ ?_ T h2
  cases d <;> simp [tyN]
theorem td_isi {K : PySem.W.Frag} {W : L2.WX} {cm : String → Addr} {T : String} {f : DE} (hT : goodT T = true) {σ : L2.St} {H : Hp} {Q : VK} (h : tD W cm (eIsi T f) σ H Q) : tCB (rIsi K) (tCons (tD W cm f) (tCons (tC (.ty T)) tNil)) σ H Q := by
  obtain ⟨B, pn, F, N, G, Rg, env, I, h⟩ := h
  refine ⟨B, pn, F, N, G, Rg, env, I, ?_⟩
  unfold eIsi at h
  cases e : f env with
  | bad => rw [e] at h; exact h
  | exc c e1 => rw [e] at h; exact h
  | ok t e1 =>
    rw [e] at h
    simp only at h
    intro v F' N' Rg' H' R I' hF hN TT A
    cases e2 : rd e1 t with
    | none => rw [e2] at h; exact h.elim
    | some d =>
      have r := rd_ok I' TT A.sR e2
      rw [e2] at h
      have hd : ∀ x k, d ≠ .dict (x :: k) := fun x k z => by subst z; exact h.elim
      have h' : Aft B pn σ F N G W cm Q (.ok (.fz true (.bool (isTy (tyN d) T))) e1) := by
        cases d with
        | dict k =>
          cases k with
          | nil => exact h
          | cons x1 r1 => exact absurd rfl (hd x1 r1)
        | _ => exact h
      exact ⟨v, .ty T, .type (tyN d), .type T, _, rfl, .ty T, r.ty hd, kit_ty (kit_all hT hd), h' _ F' N' Rg' H' emp I' hF hN ⟨rfl, .bl _⟩ .none⟩
def eIsi2 (S T : String) (f : DE) : DE := fun env => match f env with
  | .ok t e1 => match rd e1 t with
    | some d => match d with
      | .dict (_ :: _) => .bad
      | d => .ok (.fz true (.bool (isTy (tyN d) S || isTy (tyN d) T))) e1
    | none => .bad
  | .exc c e1 => .exc c e1
  | .bad => .bad
theorem td_isi2 {K : PySem.W.Frag} {W : L2.WX} {cm : String → Addr} {S T : String} {f : DE} (hS : goodT S = true) (hT : goodT T = true) {σ : L2.St} {H : Hp} {Q : VK} (h : tD W cm (eIsi2 S T f) σ H Q) :
    tCB (rIsiT K) (tCons (tD W cm f) (tCons (tTup (tCons (tC (.ty S)) (tCons (tC (.ty T)) tNil))) tNil)) σ H Q := by
  obtain ⟨B, pn, F, N, G, Rg, env, I, h⟩ := h
  refine ⟨B, pn, F, N, G, Rg, env, I, ?_⟩
  unfold eIsi2 at h
  cases e : f env with
  | bad => rw [e] at h; exact h
  | exc c e1 => rw [e] at h; exact h
  | ok t e1 =>
    rw [e] at h
    simp only at h
    intro v F' N' Rg' H' R I' hF hN TT A
    cases e2 : rd e1 t with
    | none => rw [e2] at h; exact h.elim
    | some d =>
      rw [e2] at h
      have hd : ∀ x k, d ≠ .dict (x :: k) := fun x k z => by subst z; exact h.elim
      have h' : Aft B pn σ F N G W cm Q (.ok (.fz true (.bool (isTy (tyN d) S || isTy (tyN d) T))) e1) := by
        cases d with
        | dict k =>
          cases k with
          | nil => exact h
          | cons x1 r1 => exact absurd rfl (hd x1 r1)
        | _ => exact h
      refine ⟨by show 2 ≤ sizeLine; decide, fun p np => ?_⟩
      have s := upd_Same (o := HO.tup [V.ty S, V.ty T]) np
      have I2 := I'.grow s
      have r := rd_ok I2 TT (A.sR.trans s) e2
      refine ⟨v, p, [.ty S, .ty T], .type (tyN d), [.type S, .type T], _, rfl, upd_same, .cons (.ty S) (.cons (.ty T) .nil), r.ty hd, ?_, h' _ F' N' Rg' _ emp I2 hF hN ⟨rfl, .bl _⟩ .none⟩
      refine kitAny_cons (kit_ty (kit_all hS hd)) (fun z => ?_) (fun z => by rw [z]; rfl)
      rw [z, Bool.false_or]
      refine kitAny_cons (kit_ty (kit_all hT hd)) (fun z => ?_) (fun z => z)
      rw [z]
      exact kitAny_nil
section
variable {X : Cx} {W : L2.WX} {cm : String → Addr} {a : Expr} {x y : Str} {pos p p1 p2 p3 : Pos} {S T : String} {f : DE} {k : Nat}
theorem ge_isi (hT : goodT T = true) (hg : Gl X "isinstance") (hm : X.mg "isinstance" = none) (hgx : Gl X x) (hmx : X.mg x = none) (hvx : bootBuiltins x = some (.type T)) (ha : PE X a (tD W cm f)) (hn : x ≠ "__name__" := by decide) (hdb : (x == ("__debug__" : Str)) = false := by decide)
    (hs1 : starEach [a, .Name x p1] X.env = (false, eval a X.env) :: starEach [.Name x p1] X.env := by rfl) (hs2 : starEach [.Name x p1] X.env = (false, eval (.Name x p1) X.env) :: starEach [] X.env := by rfl) (hpl : (backTo pos (starEach [.Name x p1] X.env)).any (·.1) = false := by rfl) :
    PE X (.Call (.Name "isinstance" p) [a, .Name x p1] [] pos) (tD W cm (eIsi T f)) :=
  PEimp (pe_callB call_isi hg hm (by decide +kernel) (pa_cons ha (pa_cons (pe_bltn (v := .ty T) hgx hmx hvx rfl hn hdb) pa_nil hs2) hs1) (by decide) (by decide) hs1 hpl) fun _ _ _ h => td_isi hT h
theorem ge_isi2 (hS : goodT S = true) (hT : goodT T = true) (hg : Gl X "isinstance") (hm : X.mg "isinstance" = none) (hgx : Gl X x) (hmx : X.mg x = none) (hvx : bootBuiltins x = some (.type S)) (hgy : Gl X y) (hmy : X.mg y = none) (hvy : bootBuiltins y = some (.type T)) (ha : PE X a (tD W cm f)) (hn : x ≠ "__name__" := by decide) (hdb : (x == ("__debug__" : Str)) = false := by decide) (hn2 : y ≠ "__name__" := by decide) (hdb2 : (y == ("__debug__" : Str)) = false := by decide)
    (hs1 : starEach [a, .Tuple [.Name x p1, .Name y p2] k p3] X.env = (false, eval a X.env) :: starEach [.Tuple [.Name x p1, .Name y p2] k p3] X.env := by rfl) (hs2 : starEach [.Tuple [.Name x p1, .Name y p2] k p3] X.env = (false, eval (.Tuple [.Name x p1, .Name y p2] k p3) X.env) :: starEach [] X.env := by rfl)
    (hs3 : starEach [.Name x p1, .Name y p2] X.env = (false, eval (.Name x p1) X.env) :: starEach [.Name y p2] X.env := by rfl) (hs4 : starEach [.Name y p2] X.env = (false, eval (.Name y p2) X.env) :: starEach [] X.env := by rfl) (hpl : (backTo pos (starEach [.Tuple [.Name x p1, .Name y p2] k p3] X.env)).any (·.1) = false := by rfl) :
    PE X (.Call (.Name "isinstance" p) [a, .Tuple [.Name x p1, .Name y p2] k p3] [] pos) (tD W cm (eIsi2 S T f)) :=
  PEimp (pe_callB call_isiT hg hm (by decide +kernel) (pa_cons ha (pa_cons (pe_tup (pa_cons (pe_bltn (v := .ty S) hgx hmx hvx rfl hn hdb) (pa_cons (pe_bltn (v := .ty T) hgy hmy hvy rfl hn2 hdb2) pa_nil hs4) hs3)) pa_nil hs2) hs1) (by decide) (by decide) hs1 hpl) fun _ _ _ h => td_isi2 hS hT h
end
end DL
namespace DL
open PySem PySem.Spec PyProof.Rows L2
section
variable {B : Hp} {pn : Nat → Option Addr} {env : Env} {σ : L2.St} {F N G : Hp} {Rg : Nat → Hp} {H R : Hp}
theorem Ok.rewrite {i : Nat} {p b : Bool} {xs : List D} (I : Ok B pn env σ F N G Rg H) (e : env[i]? = some (.own p b xs)) :
    ∃ l vs, σ[i]? = some (some (.ref l)) ∧ H l = some (.lst vs) ∧ RpA (bsel b N F) vs xs ∧ ∀ vs' b' xs', RpA (bsel b' N F) vs' xs' →
      ∃ Rg', Ok B pn (env.set i (.own p b' xs')) σ F N G Rg' (upd H l (.lst vs')) ∧ ∀ R, Apart F G Rg H R → Apart F G Rg' (upd H l (.lst vs')) R := by
  obtain ⟨l, vs, e1, e2, r, q⟩ := I.sl i _ e
  have hi := Ok.slotLt e
  have hl : H l = some (.lst vs) := by
    have s := I.sR i
    rw [e2] at s
    exact s _ _ sgl_same
  refine ⟨l, vs, e1, hl, r, fun vs' b' xs' r' => ?_⟩
  have I1 := I.off hi
  have A1 := I.offApart (i := i)
  rw [e2] at A1
  have hu : ∀ {Y : Hp}, Same Y H → dj Y (sgl l (.lst vs)) → Same Y (upd H l (.lst vs')) := fun {Y} s d a u ea => by
    have ne : a ≠ l := fun z => by
      subst z
      rw [d _ _ sgl_same] at ea
      cases ea
    rw [upd_ne ne]
    exact s _ _ ea
  have I2 : Ok B pn (env.set i .un) σ F N G (setR Rg i emp) (upd H l (.lst vs')) := { I1 with
    sF := hu I1.sF A1.dF
    sG := hu I1.sG A1.dG
    hB := fun a ha => by
      by_cases z : a = l
      · subst z; rw [upd_same] at ha; cases ha
      · rw [upd_ne z] at ha; exact I1.hB a ha
    sR := fun j => hu (I1.sR j) (A1.dR j) }
  have I3 := I2.put (σ' := σ) (i := i) (s := .own p b' xs') (R := sgl l (.lst vs')) (by rw [List.length_set]; exact hi) ⟨l, vs', e1, rfl, r', q⟩ (sgl_same_iff upd_same) (dj_sgl (A1.dF _ _ sgl_same)) (dj_sgl (A1.dG _ _ sgl_same)) (fun j _ => dj_sgl (A1.dR j _ _ sgl_same)) (fun _ _ => rfl) rfl
  rw [set_set] at I3
  refine ⟨_, I3, fun R A => ?_⟩
  have dR : dj (sgl l (.lst vs)) R := by rw [← e2]; exact A.dR i
  refine ⟨hu A.sR (dj_comm dR), A.dF, A.dG, fun j => ?_⟩
  by_cases hj : j = i
  · subst hj
    rw [setR_same]
    exact fun a o ea => sgl_ne fun z => by
      subst z
      have := dR _ _ ea
      rw [sgl_same] at this
      cases this
  · rw [setR_ne hj, setR_ne hj]
    exact A.dR j
def asOwn (env : Env) (i : Nat) : Option (Bool × Bool × List D) := match env[i]? with
  | some (.own p b xs) => some (p, b, xs)
  | some (.ex (.list xs)) => match xs.all scal with
    | true => some (false, true, xs)
    | false => none
  | _ => none
theorem set_self {env : Env} {i : Nat} {s : Slot} (e : env[i]? = some s) : env.set i s = env := by
  apply List.ext_getElem?
  intro j
  by_cases h : j = i
  · subst h
    rw [List.getElem?_set_self (Ok.slotLt e), e]
  · rw [List.getElem?_set_ne (Ne.symm h)]
theorem Ok.toOwn {i : Nat} {p b : Bool} {xs : List D} (I : Ok B pn env σ F N G Rg H) (h : asOwn env i = some (p, b, xs)) :
    i < env.length ∧ ∃ Rg', Ok B pn (env.set i (.own p b xs)) σ F N G Rg' H ∧ ∀ R, Apart F G Rg H R → Apart F G Rg' H R := by
  unfold asOwn at h
  cases e : env[i]? with
  | none => rw [e] at h; cases h
  | some s =>
    rw [e] at h
    have hi := Ok.slotLt e
    cases s with
    | own p' b' xs' =>
      cases h
      exact ⟨hi, Rg, by rw [set_self e]; exact I, fun _ A => A⟩
    | ex d =>
      cases d with
      | list ys =>
        simp only at h
        cases hs : ys.all scal with
        | false => rw [hs] at h; cases h
        | true =>
          rw [hs] at h
          cases h
          obtain ⟨v, hv, r, dB, nz⟩ := I.sl i _ e
          cases r with
          | lst hr ra =>
            rename_i a vs
            have ha : Rg i a = some (.lst vs) := by
              rcases hr with hr | ⟨u, hr⟩
              · exact hr
              · exact absurd hr (nz _ _ _)
            have I3 := I.put (σ' := σ) (i := i) (s := .own false true xs) (R := sgl a (.lst vs)) hi ⟨a, vs, hv, rfl, ra.scal hs, dB _ _ ha⟩ (sgl_same_iff (I.sR i _ _ ha)) (dj_sgl (I.dF i _ _ ha)) (dj_sgl (I.dRG i _ _ ha)) (fun j hj => dj_sgl (I.dR j i hj _ _ ha)) (fun _ _ => rfl) rfl
            refine ⟨hi, _, I3, fun R A => ⟨A.sR, A.dF, A.dG, fun j => ?_⟩⟩
            by_cases hj : j = i
            · subst hj
              rw [setR_same]
              exact fun x o ex => sgl_ne fun z => by
                subst z
                have := A.dR j _ _ ex
                rw [ha] at this
                cases this
            · rw [setR_ne hj]; exact A.dR j
      | _ => cases h
    | _ => cases h
theorem asOwn_lst {i : Nat} {p b : Bool} {xs : List D} (I : Ok B pn env σ F N G Rg H) (h : asOwn env i = some (p, b, xs)) : ∃ l vs, σ[i]? = some (some (.ref l)) ∧ H l = some (.lst vs) := by
  obtain ⟨hi, Rg', I', _⟩ := I.toOwn h
  obtain ⟨l, vs, e1, e2, _⟩ := I'.rewrite (List.getElem?_set_self hi)
  exact ⟨l, vs, e1, e2⟩
end
abbrev MOp := Bool → List D → List (Bool × D) → Option (Bool × List D × Bool × D)
def eMut (i : Nat) (op : MOp) (fs : List DE) : DE := fun env => match asOwn env i with
  | none => .bad
  | some _ => match dArgs fs env with
    | .ok ts e1 => match takes e1 ts with
      | none => .bad
      | some (ps, e2) => match asOwn e2 i with
        | none => .bad
        | some (p, b, xs) => match op b xs ps with
          | none => .bad
          | some (b', xs', c, d) => .ok (.fz c d) (e2.set i (.own p b' xs'))
    | .exc c e1 => .exc c e1
    | .bad => .bad
def MuR (r : V → List V → Hp → VK → Prop) (op : MOp) : Prop := ∀ (N F H : Hp) (l : Addr) (vs us : List V) (xs : List D) (b : Bool) (ps : List (Bool × D)) (b' : Bool) (xs' : List D) (c : Bool) (d : D) (Q : VK), Same N F → Same F H → H l = some (.lst vs) → RpA (bsel b N F) vs xs → RpB N F us ps → op b xs ps = some (b', xs', c, d) →
  (∀ vs' y, RpA (bsel b' N F) vs' xs' → Rp (bsel c N F) y d → Q y (upd H l (.lst vs'))) → r (.ref l) us H Q
theorem td_mut {K : PySem.W.Frag} {W : L2.WX} {cm : String → Addr} {i : Nat} {op : MOp} {r : V → List V → Hp → VK → Prop} {fs : List DE} (hr : MuR r op) {σ : L2.St} {H : Hp} {Q : VK} (h : tD W cm (eMut i op fs) σ H Q) : tBM K "list" r (tD W cm (eVar i)) (tAD W cm fs) σ H Q := by
  obtain ⟨B, pn, F, N, G, Rg, env, I, h⟩ := h
  refine ⟨B, pn, F, N, G, Rg, env, I, ?_⟩
  unfold eMut at h
  cases e0 : asOwn env i with
  | none => rw [e0] at h; exact h.elim
  | some q =>
    obtain ⟨p0, b0, xs0⟩ := q
    rw [e0] at h
    simp only at h
    obtain ⟨l, vs, z1, z2⟩ := asOwn_lst I e0
    have ev : eVar i env = .ok (.sl i) env := by
      unfold asOwn at e0
      unfold eVar
      cases e : env[i]? with
      | none => rw [e] at e0; cases e0
      | some s => cases s with
        | un => rw [e] at e0; cases e0
        | _ => rfl
    rw [ev]
    intro v F' N' Rg' H' R I' hF hN T A
    obtain ⟨l1, vs1, z3, z4⟩ := asOwn_lst I' e0
    have hv := T.2
    rw [z3] at hv
    cases hv
    refine ⟨.inl ⟨rfl, vs1, .inl (.inl z4)⟩, args_read I' ?_⟩
    cases e1 : dArgs fs env with
    | bad => rw [e1] at h; exact h
    | exc c en =>
      rw [e1] at h
      exact fun F2 N2 Rg2 H2 I2 hF2 hN2 => h F2 N2 Rg2 H2 I2 (hF.trans hF2) (hN.trans hN2)
    | ok ts en =>
      rw [e1] at h
      simp only at h
      intro us F1 N1 Rg1 H1 I1 hF1 hN1 T1
      cases e2 : takes en ts with
      | none => rw [e2] at h; exact h.elim
      | some q =>
        obtain ⟨ps, en2⟩ := q
        rw [e2] at h
        simp only at h
        obtain ⟨F2, N2, Rg2, I2, hF2, hN2, r2⟩ := takes_ok I1 T1 e2
        cases e3 : asOwn en2 i with
        | none => rw [e3] at h; exact h.elim
        | some q =>
          obtain ⟨p, b, xs⟩ := q
          rw [e3] at h
          simp only at h
          obtain ⟨hi, Rg3, I3, _⟩ := I2.toOwn e3
          obtain ⟨l2, vs2, z5, z6, ra, k⟩ := I3.rewrite (List.getElem?_set_self hi)
          rw [z3] at z5
          cases z5
          cases e4 : op b xs ps with
          | none => rw [e4] at h; exact h.elim
          | some q =>
            obtain ⟨b', xs', c, d⟩ := q
            rw [e4] at h
            refine hr N2 F2 H1 l1 vs2 us xs b ps b' xs' c d Q I2.sN I2.sF z6 ra r2 e4 fun vs' y ra' ry => ?_
            obtain ⟨Rg4, I4, _⟩ := k vs' b' xs' ra'
            rw [set_set] at I4
            exact h y F2 N2 Rg4 _ emp I4 (hF.trans (hF1.trans hF2)) (hN.trans (hN1.trans hN2)) ⟨rfl, ry⟩ .none
def mAppend : MOp := fun b xs ps => match ps with
  | [(c, d)] => match decide (xs.length < 16777216) with
    | true => some (b && c, xs ++ [d], true, .none)
    | false => none
  | _ => none
def smallIx (i : Int) : Bool := decide (-(2 ^ 63) ≤ i) && decide (i < 2 ^ 63)
def mPopAt : MOp := fun b xs ps => match ps with
  | [(_, .int i)] => match smallIx i, seqIndex? i xs.length with
    | true, some k => match xs[k]? with
      | some d => some (b, xs.eraseIdx k, b, d)
      | none => none
    | _, _ => none
  | _ => none
theorem mu_popAt : MuR rPopAt mPopAt := fun N F H l vs us xs b ps b' xs' c d Q sN sF hl ra rb e q => by
  match ps, rb, e with
  | [(c1, .int i)], rb, e =>
    have e : (match smallIx i, seqIndex? i xs.length with
      | true, some k => (match xs[k]? with
        | some d => some (b, xs.eraseIdx k, b, d)
        | none => none)
      | _, _ => none) = some (b', xs', c, d) := e
    cases h1 : smallIx i with
    | false => rw [h1] at e; cases e
    | true =>
      cases h2 : seqIndex? i xs.length with
      | none => rw [h1, h2] at e; cases e
      | some k =>
        rw [h1, h2] at e
        simp only at e
        cases h3 : xs[k]? with
        | none => rw [h3] at e; cases e
        | some d1 =>
          rw [h3] at e
          cases e
          obtain ⟨v, r, rfl, g1, g2⟩ := rb
          cases (show r = [] from g2)
          cases g1
          obtain ⟨w, hw, rw'⟩ := ra.get h3
          unfold smallIx at h1
          rw [Bool.and_eq_true, decide_eq_true_eq, decide_eq_true_eq] at h1
          exact ⟨l, vs, i, k, w, rfl, rfl, hl, h1.1, h1.2, by rw [ra.len]; exact h2, hw, q _ _ (ra.erase k) rw'⟩
def rExtendD (K : PySem.W.Frag) : V → List V → Hp → VK → Prop := fun x vs H Q => ∃ l b xs zs, x = .ref l ∧ vs = [.ref b] ∧ H l = some (.lst xs) ∧ Rd H b (.lst zs) ∧ xs.length + zs.length ≤ sizeLine ∧ Q .non (upd H l (.lst (xs ++ zs)))
theorem mt_extendD {X : Cx} : MtR X "list.extend" (rExtendD X.K) := by
  intro pins s σ H x vs v us Q I rx rv h
  obtain ⟨l, b, xs, zs, rfl, rfl, hH, hB, hz, q⟩ := h
  cases rx
  obtain ⟨u, rfl, ru⟩ := rv.one
  cases ru
  obtain ⟨z, its, n, r, hl, e⟩ := I.lstM hH
  obtain ⟨z2, its2, n2, r2, hl2, e2⟩ := Inv.lstR I hB
  have hsz : its.toArray.size + its2.toArray.size ≤ sizeLine := by rw [List.size_toArray, List.size_toArray]; omega
  have hlong : ¬ (!its.toArray.isEmpty && Builtin.List.listTooLong (its.toArray.size + its2.toArray.size)) = true := by
    rw [notLongL hsz, Bool.and_false]
    exact Bool.false_ne_true
  refine call_meets F.slot_list_extend ⟨_, e, rfl⟩ F.entry_list_extend (F.args_list_extend_2 _ _)
    (AutoSeq1.list_extend_list_list_0 l its.toArray n b its2.toArray n2 hlong (by rw [List.size_toArray]; omega) (by omega)) ⟨e, e2, ?_⟩
  refine ⟨.non, _, I.lset (its' := its ++ its2) hH e (by simp) (r.append r2) ?_, rfl, q⟩
  rw [List.length_append]
  omega
def mExtend : MOp := fun b xs ps => match ps with
  | [(c, .list ys)] => match fits (xs.length + ys.length) with
    | true => some (b && c, xs ++ ys, true, .none)
    | false => none
  | _ => none
theorem mu_extend {K : PySem.W.Frag} : MuR (rExtendD K) mExtend := fun N F H l vs us xs b ps b' xs' c d Q sN sF hl ra rb e q => by
  match ps, rb, e with
  | [(c1, .list ys)], rb, e =>
    have e : (match fits (xs.length + ys.length) with | true => some (b && c1, xs ++ ys, true, PyData.none) | false => none) = some (b', xs', c, d) := e
    cases hz : fits (xs.length + ys.length) with
    | false => rw [hz] at e; cases e
    | true =>
      rw [hz] at e
      cases e
      obtain ⟨v, r, rfl, h1, h2⟩ := rb
      cases (show r = [] from h2)
      cases h1 with
      | lst hr ra2 =>
        rename_i a ws
        exact ⟨l, a, vs, ws, rfl, rfl, hl, Rd.same ((bsel_sub sN).trans sF) hr, by rw [ra.len, ra2.len]; exact fits_ok hz, q _ _ ((ra.mono (bsel_and_l sN)).append (ra2.mono (bsel_and_r sN))) .non⟩
section
variable {X : Cx} {W : L2.WX} {cm : String → Addr} {e : Expr} {es : List Expr} {fs : List DE} {x : Str} {npos apos cpos : Pos}
theorem ge_mut {name : Str} {id : String} {r : V → List V → Hp → VK → Prop} {op : MOp} (i : Nat) (slot : PySem.Slot "list" name id) (hty : typeOf (.builtin id) = pure (.type "method_descriptor")) (hm : MtR X id r) (hr : MuR r op) (ho : PE X (.Name x npos) (tD W cm (eVar i))) (ha : PA X (e :: es) (tAD W cm fs))
    (hbase : attributeBase (.Name x npos) name X.env (eval (.Name x npos) X.env) = eval (.Name x npos) X.env := by rfl)
    (hfew : ((backTo cpos (starEach (e :: es) X.env)).all (fun x => !x.1) && (backToKw cpos (keywordEach [] X.env)).all (fun x => x.1.isSome)
      && decide ((e :: es).length + ([] : List Keyword).length + (if ([] : List Keyword).isEmpty then 0 else 1) < 30)) = true := by rfl)
    (hline : (apos.endLine == cpos.line) = true := by rfl) (hs : starEach (e :: es) X.env = (false, eval e X.env) :: starEach es X.env := by rfl) (hplain : (backTo cpos (starEach es X.env)).any (·.1) = false := by rfl) :
    PE X (.Call (.Attribute (.Name x npos) name apos) (e :: es) [] cpos) (tD W cm (eMut i op fs)) := PEimp (pe_bm PySem.F.plainAttrs_list slot hty hm ho ha hbase hfew hline hs hplain) fun _ _ _ h => td_mut hr h
theorem ge_extend (i : Nat) (ho : PE X (.Name x npos) (tD W cm (eVar i))) (ha : PA X [e] (tAD W cm fs)) (hbase : attributeBase (.Name x npos) "extend" X.env (eval (.Name x npos) X.env) = eval (.Name x npos) X.env := by rfl)
    (hfew : ((backTo cpos (starEach [e] X.env)).all (fun x => !x.1) && (backToKw cpos (keywordEach [] X.env)).all (fun x => x.1.isSome)
      && decide ([e].length + ([] : List Keyword).length + (if ([] : List Keyword).isEmpty then 0 else 1) < 30)) = true := by rfl)
    (hline : (apos.endLine == cpos.line) = true := by rfl) (hs : starEach [e] X.env = (false, eval e X.env) :: starEach [] X.env := by rfl) (hplain : (backTo cpos (starEach [] X.env)).any (·.1) = false := by rfl) :
    PE X (.Call (.Attribute (.Name x npos) "extend" apos) [e] [] cpos) (tD W cm (eMut i mExtend fs)) := ge_mut i PySem.F.slot_list_extend PySem.F.type_list_extend mt_extendD mu_extend ho ha hbase hfew hline hs hplain
theorem ge_popAt (i : Nat) (ho : PE X (.Name x npos) (tD W cm (eVar i))) (ha : PA X [e] (tAD W cm fs)) (hbase : attributeBase (.Name x npos) "pop" X.env (eval (.Name x npos) X.env) = eval (.Name x npos) X.env := by rfl)
    (hfew : ((backTo cpos (starEach [e] X.env)).all (fun x => !x.1) && (backToKw cpos (keywordEach [] X.env)).all (fun x => x.1.isSome)
      && decide ([e].length + ([] : List Keyword).length + (if ([] : List Keyword).isEmpty then 0 else 1) < 30)) = true := by rfl)
    (hline : (apos.endLine == cpos.line) = true := by rfl) (hs : starEach [e] X.env = (false, eval e X.env) :: starEach [] X.env := by rfl) (hplain : (backTo cpos (starEach [] X.env)).any (·.1) = false := by rfl) :
    PE X (.Call (.Attribute (.Name x npos) "pop" apos) [e] [] cpos) (tD W cm (eMut i mPopAt fs)) := ge_mut i PySem.F.slot_list_pop PySem.F.type_list_pop mt_popAt mu_popAt ho ha hbase hfew hline hs hplain
end
def sSetIx (i : Nat) (f g : DE) : DS := fun env => match f env with
  | .ok t e1 => match take e1 t with
    | none => .bad
    | some (c, d, e2) => match asOwn e2 i with
      | none => .bad
      | some _ => match g e2 with
        | .ok tk e3 => match rd e3 tk with
          | some (.int k) => match asOwn e3 i with
            | none => .bad
            | some (p, b, xs) => match ixN xs.length k with
              | none => .bad
              | some j => .nx (e3.set i (.own p (b && c) (xs.set j d)))
          | _ => .bad
        | .exc x e3 => .exc x e3
        | .bad => .bad
  | .exc x e1 => .exc x e1
  | .bad => .bad
theorem ts_setIx {W : L2.WX} {cm : String → Addr} {i : Nat} {f g : DE} {Dn : Ends} {σ : L2.St} {H : Hp} (h : tS W cm (sSetIx i f g) Dn σ H) : tAsg (tD W cm f) (gSub (tD W cm (eVar i)) (tD W cm g) rSetL) Dn σ H := by
  obtain ⟨B, pn, F, N, G, Rg, env, I, h⟩ := h
  refine ⟨B, pn, F, N, G, Rg, env, I, ?_⟩
  unfold sSetIx at h
  cases e : f env with
  | bad => rw [e] at h; exact h
  | exc c e1 => rw [e] at h; exact fun F' N' Rg' H' I' hF hN => h σ F' N' Rg' H' I' hF hN
  | ok t e1 =>
    rw [e] at h
    simp only at h
    intro v F' N' Rg' H' R I' hF hN T A
    cases q1 : take e1 t with
    | none => rw [q1] at h; exact h.elim
    | some q =>
      obtain ⟨c, d, e2⟩ := q
      rw [q1] at h
      simp only at h
      obtain ⟨F2, N2, Rg2, I2, hF2, hN2, rv⟩ := take_ok I' T A q1
      cases q2 : asOwn e2 i with
      | none => rw [q2] at h; exact h.elim
      | some q =>
        obtain ⟨p0, b0, xs0⟩ := q
        rw [q2] at h
        simp only at h
        have ev : eVar i e2 = .ok (.sl i) e2 := by
          unfold asOwn at q2
          unfold eVar
          cases e : e2[i]? with
          | none => rw [e] at q2; cases q2
          | some s => cases s with
            | un => rw [e] at q2; cases q2
            | _ => rfl
        refine ⟨B, pn, F2, N2, G, Rg2, e2, I2, ?_⟩
        rw [ev]
        intro o F3 N3 Rg3 H3 R3 I3 hF3 hN3 T3 A3
        refine ⟨B, pn, F3, N3, G, Rg3, e2, I3, ?_⟩
        cases q3 : g e2 with
        | bad => rw [q3] at h; exact h
        | exc x e3 =>
          rw [q3] at h
          exact fun F4 N4 Rg4 H4 I4 hF4 hN4 => h σ F4 N4 Rg4 H4 I4 (hF.trans (hF2.trans (hF3.trans hF4))) (hN.trans (hN2.trans (hN3.trans hN4)))
        | ok tk e3 =>
          rw [q3] at h
          simp only at h
          intro w F4 N4 Rg4 H4 R4 I4 hF4 hN4 T4 A4
          cases q4 : rd e3 tk with
          | none => rw [q4] at h; exact h.elim
          | some dd =>
            rw [q4] at h
            have rr := rd_ok I4 T4 A4.sR q4
            cases dd with
            | int k =>
              simp only at h
              cases q5 : asOwn e3 i with
              | none => rw [q5] at h; exact h.elim
              | some q =>
                obtain ⟨p, b, xs⟩ := q
                rw [q5] at h
                simp only at h
                cases q6 : ixN xs.length k with
                | none => rw [q6] at h; exact h.elim
                | some j =>
                  rw [q6] at h
                  obtain ⟨hi, Rg5, I5, _⟩ := I4.toOwn q5
                  obtain ⟨l2, vs2, z5, z6, ra, kk⟩ := I5.rewrite (List.getElem?_set_self hi)
                  have ho := T3.2
                  rw [z5] at ho
                  cases ho
                  cases rr
                  refine ⟨l2, vs2, k, j, rfl, rfl, z6, by rw [ra.len]; exact q6, ?_⟩
                  obtain ⟨Rg6, I6, _⟩ := kk (vs2.set j v) (b && c) (xs.set j d) ((ra.mono (bsel_and_l I4.sN)).set ((rv.mono (bsel_mono (hN3.trans hN4) (hF3.trans hF4))).mono (bsel_and_r I4.sN)) j)
                  rw [set_set] at I6
                  exact h σ F4 N4 Rg6 _ I6 (hF.trans (hF2.trans (hF3.trans hF4))) (hN.trans (hN2.trans (hN3.trans hN4)))
            | _ => exact h.elim
section
variable {X : Cx} {W : L2.WX} {cm : String → Addr} {a ix : Expr} {f g : DE} {x : Str} {npos spos pos : Pos}
theorem gs_setIx (i : Nat) (h : PE X a (tD W cm f)) (ho : PE X (.Name x npos) (tD W cm (eVar i))) (hi : PE X ix (tD W cm g))
    (ha : ∀ v, assign (.Subscript (.Name x npos) ix spos) X.env v = (do
      let ov ← holding [v] (eval (.Name x npos) X.env)
      let iv ← holding [v, ov] (eval ix X.env)
      standAt spos
      holding [v, ov, iv] (setItem ov iv v)
      release [v, ov, iv] []) := by intro _; rfl)
    (hs : swapsWithSole [.Subscript (.Name x npos) ix spos] a pos.line X.env = pure false := by rfl) (hw : swappedStores [.Subscript (.Name x npos) ix spos] a X.env = pure none := by rfl)
    (h1 : (assignEach [.Subscript (.Name x npos) ix spos] X.env).map (·.2) = [assign (.Subscript (.Name x npos) ix spos) X.env] := by rfl) : PS X (.Assign [.Subscript (.Name x npos) ix spos] a pos) (tS W cm (sSetIx i f g)) :=
  PSimp (ps_asg h (pg_sub ho hi set_list ha) hs hw h1) fun _ _ _ h => ts_setIx h
end
section
variable {X : Cx} {W : L2.WX} {cm : String → Addr} {a b : Expr} {f g : DE} {p p2 pos pos2 : Pos}
end
section
variable {X : Cx} {W : L2.WX} {cm : String → Addr} {a b : Expr} {f g : DE} {p pos tpos : Pos} {elts : List Expr} {kk : Nat}
end
end DL
namespace DL
open PySem PySem.Spec PyProof.Rows L2
def noList : PySem.W.Frag → Bool
  | [] => true
  | (_, o) :: r => (match o.cls with | .type s => s != "list" | _ => true) && noList r
theorem noList_ok {K : PySem.W.Frag} (h : noList K = true) {a : Addr} {o : Obj} (m : (a, o) ∈ K) (hc : o.cls = .type "list") : False := by
  induction K with
  | nil => cases m
  | cons x r ih =>
    obtain ⟨b, u⟩ := x
    have h1 : ((match u.cls with | .type s => s != "list" | _ => true) && noList r) = true := h
    rw [Bool.and_eq_true] at h1
    rcases List.mem_cons.mp m with e | e
    · have eu : o = u := (Prod.mk.inj e).2
      subst eu
      have h2 := h1.1
      rw [hc] at h2
      exact absurd h2 (by decide)
    · exact ih h1.2 e
theorem law_entry {cm : String → Addr} {fn : Fn} {H : Hp} {a : Addr} {ns : List Int} (hO : Only H) (hS : Rd H a (.lst (ns.map V.int))) (hf : ∃ outs, fn [.v false (.list (ns.map PyData.int))] = .ok (.fz true (.bool true)) outs) :
    spD cm fn [.ref a] H (fun v _ => v = .bl true) fun _ _ _ => False := by
  obtain ⟨outs, hf⟩ := hf
  refine ⟨emp, fun _ => none, H, emp, emp, fun _ => emp, [.v false (.list (ns.map PyData.int))], ⟨?_, fun b o e => .inl e⟩, ?_⟩
  · exact {
      len := rfl
      sF := Same.refl _
      sN := emp_same _
      sG := emp_same _
      dG := dj_emp _
      nB := dj_emp _
      nZ := fun _ _ _ e => nomatch e
      hB := fun _ _ => rfl
      sl := fun i s e => by
        cases i with
        | zero =>
          cases e
          exact ⟨rfl, .ref a, rfl, .lst hS (RpA.ints _ _)⟩
        | succ i => simp [argEnv] at e
      sR := fun _ => emp_same _
      dF := fun _ => dj_emp _
      dRG := fun _ => dj_emp _
      dR := fun _ _ _ => dj_emp _
      out := fun _ _ => rfl }
  · rw [hf]
    refine ⟨rfl, fun v F' N' Rg' H' R I hF hN T A _ => ?_⟩
    obtain ⟨_, r⟩ := T
    cases r
    rfl
theorem fn_none {P : Program} {w : World} {K : PySem.W.Frag} {mg : Str → Option Value} {base : Heap} {cm : String → Addr} {x qual : Str} {st : Stmt} {f : Addr} {fd : FuncData} {Nm ps : List Str} {k : Nat} (F : Fun K x qual st f fd) (S : FnScope Nm ps (defScope st)) :
    FnOk P w K mg base (L2.CX P w) (k + 1) f fd ps (spD cm fun _ => .bad) := by
  refine F.okX S (fun vs H Q E h => ?_) (fun cdv A outer s0 H vs Q E hr h => ?_)
  · obtain ⟨B, pn, Fz, N, G, Rg, args, En, h⟩ := h
    exact h.elim
  · obtain ⟨B, pn, Fz, N, G, Rg, args, En, h⟩ := h
    exact h.elim
end DL
namespace DL
open PySem PySem.Spec PyProof.Rows L2
theorem hu65 {A : Around} {k : Nat} (hr : Room k A) : A.units + 65 < cLine := by have := hr.un; omega
section
variable {X : Cx} {W : L2.WX} {cm : String → Addr} {a b : Expr} {pos p1 p2 p3 : Pos} {f g : DE} {k : Nat}
end
end DL
namespace DL
open PySem PySem.Spec PyProof.Rows L2
def addG (k : Int) (i : Nat) : List (Int × List Nat) → List (Int × List Nat)
  | [] => [(k, [i])]
  | (k', l) :: r => if k' = k then (k', l ++ [i]) :: r else (k', l) :: addG k i r
def grpFrom : Nat → List Int → List (Int × List Nat) → List (Int × List Nat)
  | _, [], acc => acc
  | i, k :: r, acc => grpFrom (i + 1) r (addG k i acc)
def grp (ns : List Int) : List (Int × List Nat) := grpFrom 0 ns []
def natsD (l : List Nat) : D := .list (l.map fun i => .int (i : Nat))
def grpD (ns : List Int) : List D := (grp ns).map fun p => natsD p.2
def fnGrp : Fn := fun args => match args with
  | [.v _ (.list xs)] => match intsD xs with
    | some ns => match decide (ns.length ≤ 1000) with
      | true => .ok (.nw true (grpD ns)) [none]
      | false => .bad
    | none => .bad
  | _ => .bad
end DL
namespace DL
open PySem PySem.Spec PyProof.Rows L2
def rValsL : V → Hp → VK → Prop := fun x H Q => ∃ (d : Addr) (kvs : List (Key × V)), x = .ref d ∧ H d = some (.dK kvs) ∧ ∀ q, H q = none → Q (.ref q) (upd H q (.lst (kvs.map (·.2))))
def tListVals (te : TE) : TE := fun σ H Q => te σ H fun x H1 => rValsL x H1 Q
theorem pairedAt {α β : Type} {R : α → β → Prop} : ∀ {xs : List α} {ys : List β}, Paired R xs ys → ∀ {i : Nat} {x : α} {y : β}, xs[i]? = some x → ys[i]? = some y → R x y
  | _, _, .nil, i, x, y, h, _ => by simp at h
  | _, _, .cons r t, 0, x, y, h, g => by
    simp at h g
    subst h
    subst g
    exact r
  | _, _, .cons r t, i + 1, x, y, h, g => pairedAt t (by simpa using h) (by simpa using g)
theorem pe_listVals {X : Cx} {e : Expr} {te : TE} {p apos cpos pos : Pos} (hc : X.calm = true) (he : PE X e te) (hg : Gl X "list") (hm : X.mg "list" = none) (hv : bootBuiltins "list" = some (.type "list")) (hbase : attributeBase e "values" X.env (eval e X.env) = eval e X.env := by rfl) (hline : (apos.endLine == cpos.line) = true := by rfl)
    (hs : starEach [.Call (.Attribute e "values" apos) [] [] cpos] X.env = (false, eval (.Call (.Attribute e "values" apos) [] [] cpos) X.env) :: starEach [] X.env := by rfl) :
    PE X (.Call (.Name "list" p) [.Call (.Attribute e "values" apos) [] [] cpos] [] pos) (tListVals te) := by
  refine ⟨fun pins s σ H Q I hq => ?_⟩
  refine wpAny_Call_Name_kw (ld_blt I hg hm hv ?_)
  refine PyProof.Rows.callWith_type1 ?_ hs rfl
  rw [hs]
  show wpAny _ _ (spliced ((false, eval (.Call (.Attribute e "values" apos) [] [] cpos) X.env) :: backTo pos (starEach [] X.env))) _ _ s
  refine Calls.spliced_cons ?_
  refine wpAny_Call_method (T := "dict") (id := "dict.values") hbase rfl hline F.plainAttrs_dict F.slot_dict_values F.type_dict_values (thn (he.run pins s σ H _ I hq) fun u s1 ⟨x, H1, I1, rx, d, kvs, ex, hd, q⟩ => ?_)
  subst ex
  obtain rfl : u = Value.ref d := rx
  obtain ⟨hz, hs0, vs, kv, hdo⟩ := I1.hok d _ hd
  obtain ⟨ep, hat⟩ := hdo.dictAt
  have lk : kvs.length = vs.length := Paired.length kv
  have I2 : Inv X pins σ H1 { s1 with heap := s1.heap.push { cls := .type "dict_values", data := .fields #[.ref d] } } := I1.kept (t' := s1.toks) fun b ob q => Heap.get?_push_of_some _ q
  refine ⟨hdo.typeIs, hdo.mapOf.noDict, ?_⟩
  show wpAny _ _ (callWith cpos (.builtin "dict.values") [.ref d] [] []) _ X.xe s1
  refine method_meetsIn F.slot_dict_values F.entry_dict_values rfl (PySem.evalArgs_none ⟨rfl, hdo.typeIs, F.args_dict_values_1 _, _, meets_dict_values (mixKind X.prog X.w) d hs0, ⟨vs, hdo⟩, ?_⟩)
  refine Calls.spliced_nil ?_
  refine PySem.W.kdl_call (PySem.W.kdl_values (knd := mixKind X.prog X.w) (kvs := vs) (ep := ep)) (I1.ok.hd hc) ⟨⟨_, Heap.get?_push_size _ rfl, rfl, rfl⟩, hat.push _⟩ (by rw [← lk]; exact hz) fun h' tk acc' c' hkeep hS hacc => ?_
  refine ⟨.ref _, upd H1 _ (.lst (kvs.map (·.2))), I2.laid hkeep (Nat.le_refl _) (show ObjOk X.prog X.w _ _ _ (.lst (kvs.map (·.2))) from ⟨?_, acc'.toList, c', ?_, ?_⟩), rfl, q _ (I2.hok.fresh (Nat.le_refl _))⟩
  · rw [List.length_map]; exact hz
  · have el : acc'.toList.length = acc'.size := by simp
    refine vals_of_at (by rw [List.length_map, el, hacc.1, lk]) fun j x w h1 h2 => ?_
    obtain ⟨k, hk⟩ := hacc.2 j w (by rw [← Array.getElem?_toList]; exact h2)
    rw [List.getElem?_map] at h1
    cases e1 : kvs[j]? with
    | none => rw [e1] at h1; cases h1
    | some p =>
      rw [e1] at h1
      cases h1
      exact (pairedAt kv e1 hk).2
  · rw [Array.toArray_toList]; exact hS
def natsV (l : List Nat) : List V := l.map fun i => V.int (i : Nat)
def GR (H0 H : Hp) (d : Addr) : List (Int × List Nat) → List Addr → List (Key × V) → Prop
  | [], [], [] => True
  | (k, ns) :: acc, l :: ls, (k', v) :: kvs => k' = Sum.inl k ∧ v = .ref l ∧ H0 l = none ∧ l ≠ d ∧ l ∉ ls ∧ H l = some (.lst (natsV ns)) ∧ GR H0 H d acc ls kvs
  | _, _, _ => False
def hasG (k : Int) (acc : List (Int × List Nat)) : Bool := acc.any fun p => decide (p.1 = k)
theorem GR.mono {H0 H H' : Hp} {d : Addr} : ∀ {acc : List (Int × List Nat)} {ls : List Addr} {kvs : List (Key × V)}, (∀ l ∈ ls, H l = H' l) → GR H0 H d acc ls kvs → GR H0 H' d acc ls kvs
  | [], [], [], _, h => h
  | (k, ns) :: acc, l :: ls, (k', v) :: kvs, e, h => by
    obtain ⟨h1, h2, h3, h4, h5, h6, h7⟩ := h
    exact ⟨h1, h2, h3, h4, h5, by rw [← e l List.mem_cons_self]; exact h6, GR.mono (fun l hl => e l (List.mem_cons_of_mem _ hl)) h7⟩
theorem GR.some {H0 H : Hp} {d : Addr} : ∀ {acc : List (Int × List Nat)} {ls : List Addr} {kvs : List (Key × V)}, GR H0 H d acc ls kvs → ∀ l ∈ ls, H0 l = none ∧ l ≠ d ∧ ∃ o, H l = some (.lst o)
  | [], [], [], _, l, hl => by cases hl
  | (k, ns) :: acc, m :: ls, (k', v) :: kvs, h, l, hl => by
    obtain ⟨h1, h2, h3, h4, h5, h6, h7⟩ := h
    rcases List.mem_cons.mp hl with e | hl
    · subst e; exact ⟨h3, h4, _, h6⟩
    · exact GR.some h7 l hl
theorem GR.len {H0 H : Hp} {d : Addr} : ∀ {acc : List (Int × List Nat)} {ls : List Addr} {kvs : List (Key × V)}, GR H0 H d acc ls kvs → kvs.length = acc.length ∧ kvs.map (·.2) = ls.map V.ref
  | [], [], [], _ => ⟨rfl, rfl⟩
  | (k, ns) :: acc, l :: ls, (k', v) :: kvs, h => by
    obtain ⟨h1, h2, h3, h4, h5, h6, h7⟩ := h
    obtain ⟨e1, e2⟩ := GR.len h7
    exact ⟨by rw [List.length_cons, List.length_cons, e1], by rw [List.map_cons, List.map_cons, e2, h2]⟩
theorem GR.val {H0 H : Hp} {d : Addr} {k : Int} : ∀ {acc : List (Int × List Nat)} {ls : List Addr} {kvs : List (Key × V)}, GR H0 H d acc ls kvs →
    (hasG k acc = false ∧ valV kvs (Sum.inl k) = none) ∨ (hasG k acc = true ∧ ∃ l ns, l ∈ ls ∧ (∃ p ∈ acc, p.2 = ns) ∧ valV kvs (Sum.inl k) = Option.some (.ref l) ∧ H l = Option.some (.lst (natsV ns)) ∧ ∀ i, GR H0 (upd H l (.lst (natsV (ns ++ [i])))) d (addG k i acc) ls kvs)
  | [], [], [], _ => .inl ⟨rfl, rfl⟩
  | (k1, ns1) :: acc, l1 :: ls, (k', v) :: kvs, h => by
    obtain ⟨h1, h2, h3, h4, h5, h6, h7⟩ := h
    subst h1
    subst h2
    by_cases hk : k1 = k
    · subst hk
      refine .inr ⟨by simp [hasG], l1, ns1, List.mem_cons_self, ⟨_, List.mem_cons_self, rfl⟩, valV_pos rfl, h6, fun i => ?_⟩
      have ea : addG k1 i ((k1, ns1) :: acc) = (k1, ns1 ++ [i]) :: acc := by simp [addG]
      rw [ea]
      exact ⟨rfl, rfl, h3, h4, h5, upd_same, h7.mono fun l hl => (upd_ne fun z => h5 (by rw [← z]; exact hl)).symm⟩
    · have hv : valV ((Sum.inl k1, V.ref l1) :: kvs) (Sum.inl k) = valV kvs (Sum.inl k) := valV_neg (by intro z; exact hk (Sum.inl.inj z))
      have hh : hasG k ((k1, ns1) :: acc) = hasG k acc := by simp [hasG, hk]
      rw [hv, hh]
      rcases GR.val (k := k) h7 with ⟨g1, g2⟩ | ⟨g1, l, ns, g2, ⟨p, gp, gq⟩, g3, g4, g5⟩
      · exact .inl ⟨g1, g2⟩
      · refine .inr ⟨g1, l, ns, List.mem_cons_of_mem _ g2, ⟨p, List.mem_cons_of_mem _ gp, gq⟩, g3, g4, fun i => ?_⟩
        have ea : addG k i ((k1, ns1) :: acc) = (k1, ns1) :: addG k i acc := by simp [addG, hk]
        rw [ea]
        have ne : l1 ≠ l := fun z => h5 (by rw [z]; exact g2)
        exact ⟨rfl, rfl, h3, h4, h5, by rw [upd_ne ne]; exact h6, g5 i⟩
theorem GR.snoc {H0 H : Hp} {d l : Addr} {k : Int} (n0 : H0 l = none) (nd : l ≠ d) (hl : H l = Option.some (.lst [])) : ∀ {acc : List (Int × List Nat)} {ls : List Addr} {kvs : List (Key × V)}, l ∉ ls → GR H0 H d acc ls kvs → GR H0 H d (acc ++ [(k, [])]) (ls ++ [l]) (kvs ++ [(Sum.inl k, .ref l)])
  | [], [], [], _, _ => ⟨rfl, rfl, n0, nd, by simp, hl, trivial⟩
  | (k1, ns) :: acc, l1 :: ls, (k', v) :: kvs, nl, h => by
    obtain ⟨h1, h2, h3, h4, h5, h6, h7⟩ := h
    refine ⟨h1, h2, h3, h4, ?_, h6, GR.snoc n0 nd hl (fun z => nl (List.mem_cons_of_mem _ z)) h7⟩
    intro z
    rcases List.mem_append.mp z with z | z
    · exact h5 z
    · rw [List.mem_singleton] at z
      exact nl (by rw [← z]; exact List.mem_cons_self)
theorem addG_snoc {k : Int} {i : Nat} : ∀ {acc : List (Int × List Nat)}, hasG k acc = false → addG k i (acc ++ [(k, [])]) = addG k i acc
  | [], _ => by simp [addG]
  | (k1, ns) :: acc, h => by
    have h' : ¬ k1 = k ∧ hasG k acc = false := by
      unfold hasG at h
      rw [List.any_cons, Bool.or_eq_false_iff] at h
      exact ⟨of_decide_eq_false h.1, h.2⟩
    show addG k i ((k1, ns) :: (acc ++ [(k, [])])) = _
    have e1 : addG k i ((k1, ns) :: (acc ++ [(k, [])])) = (k1, ns) :: addG k i (acc ++ [(k, [])]) := by simp [addG, h'.1]
    have e2 : addG k i ((k1, ns) :: acc) = (k1, ns) :: addG k i acc := by simp [addG, h'.1]
    rw [e1, e2, addG_snoc h'.2]
theorem hasG_snoc {k : Int} {acc : List (Int × List Nat)} : hasG k (acc ++ [(k, [])]) = true := by simp [hasG]
theorem grpFrom_snoc {k : Int} : ∀ {l : List Int} {s : Nat} {acc : List (Int × List Nat)}, grpFrom s (l ++ [k]) acc = addG k (s + l.length) (grpFrom s l acc)
  | [], s, acc => rfl
  | x :: r, s, acc => by
    show grpFrom (s + 1) (r ++ [k]) (addG x s acc) = addG k (s + (r.length + 1)) (grpFrom (s + 1) r (addG x s acc))
    rw [grpFrom_snoc, Nat.add_assoc, Nat.add_comm 1]
def Bd (n : Nat) (acc : List (Int × List Nat)) : Prop := acc.length ≤ n ∧ ∀ p ∈ acc, p.2.length ≤ n
theorem Bd.add {n : Nat} {k : Int} {i : Nat} : ∀ {acc : List (Int × List Nat)}, Bd n acc → Bd (n + 1) (addG k i acc)
  | [], h => ⟨by simp [addG], by simp [addG]⟩
  | (k1, ns) :: acc, h => by
    obtain ⟨h1, h2⟩ := h
    by_cases hk : k1 = k
    · have ea : addG k i ((k1, ns) :: acc) = (k1, ns ++ [i]) :: acc := by simp [addG, hk]
      rw [ea]
      refine ⟨by simp at h1 ⊢; omega, fun p hp => ?_⟩
      rcases List.mem_cons.mp hp with e | hp
      · subst e
        have := h2 _ List.mem_cons_self
        simp at this ⊢
        omega
      · have := h2 p (List.mem_cons_of_mem _ hp); omega
    · have ea : addG k i ((k1, ns) :: acc) = (k1, ns) :: addG k i acc := by simp [addG, hk]
      rw [ea]
      obtain ⟨n', rfl⟩ : ∃ m, n = m + 1 := ⟨n - 1, by simp at h1; omega⟩
      have key : ∀ {acc : List (Int × List Nat)}, (addG k i acc).length ≤ acc.length + 1 ∧ ∀ p ∈ addG k i acc, (∃ q ∈ acc, p.2.length ≤ q.2.length + 1) ∨ p.2.length ≤ 1 := by
        intro acc
        induction acc with
        | nil => exact ⟨by simp [addG], fun p hp => .inr (by simp [addG] at hp; subst hp; simp)⟩
        | cons x r ih =>
          obtain ⟨kx, nx⟩ := x
          by_cases hx : kx = k
          · have ea : addG k i ((kx, nx) :: r) = (kx, nx ++ [i]) :: r := by simp [addG, hx]
            rw [ea]
            refine ⟨by simp, fun p hp => ?_⟩
            rcases List.mem_cons.mp hp with e | hp
            · subst e; exact .inl ⟨_, List.mem_cons_self, by simp⟩
            · exact .inl ⟨p, List.mem_cons_of_mem _ hp, by omega⟩
          · have ea : addG k i ((kx, nx) :: r) = (kx, nx) :: addG k i r := by simp [addG, hx]
            rw [ea]
            refine ⟨by simp; omega, fun p hp => ?_⟩
            rcases List.mem_cons.mp hp with e | hp
            · subst e; exact .inl ⟨_, List.mem_cons_self, by simp⟩
            · rcases ih.2 p hp with ⟨q, hq, hl⟩ | hl
              · exact .inl ⟨q, List.mem_cons_of_mem _ hq, hl⟩
              · exact .inr hl
      obtain ⟨k1', k2'⟩ := key (acc := acc)
      refine ⟨by simp at h1 ⊢; omega, fun p hp => ?_⟩
      rcases List.mem_cons.mp hp with e | hp
      · subst e
        have := h2 _ List.mem_cons_self
        omega
      · rcases k2' p hp with ⟨q, hq, hl⟩ | hl
        · have := h2 q (List.mem_cons_of_mem _ hq); omega
        · omega
theorem Bd.grp : ∀ {l : List Int} {s n : Nat} {acc : List (Int × List Nat)}, Bd n acc → Bd (n + l.length) (grpFrom s l acc)
  | [], s, n, acc, h => h
  | x :: r, s, n, acc, h => by
    have := Bd.grp (l := r) (s := s + 1) (h.add (k := x) (i := s))
    show Bd (n + (r.length + 1)) (grpFrom (s + 1) r (addG x s acc))
    rw [show n + (r.length + 1) = n + 1 + r.length by omega]
    exact this
def lsR (H : Hp) (ls : List Addr) : Hp := fun a => if a ∈ ls then H a else none
theorem lsR_some {H : Hp} {ls : List Addr} {a : Addr} {o : HO} (h : lsR H ls a = some o) : a ∈ ls ∧ H a = some o := by
  unfold lsR at h
  split at h
  · exact ⟨by assumption, h⟩
  · cases h
theorem GR.rp {H0 H F : Hp} {d : Addr} : ∀ {acc : List (Int × List Nat)} {ls : List Addr} {kvs : List (Key × V)}, (∀ l ∈ ls, ∀ o, H l = Option.some o → F l = Option.some o) → GR H0 H d acc ls kvs → RpA F (ls.map V.ref) (acc.map fun p => natsD p.2)
  | [], [], [], _, _ => .nil
  | (k, ns) :: acc, l :: ls, (k', v) :: kvs, e, h => by
    obtain ⟨h1, h2, h3, h4, h5, h6, h7⟩ := h
    refine .cons (.lst (.inl (e l List.mem_cons_self _ h6)) ?_) (GR.rp (fun l hl => e l (List.mem_cons_of_mem _ hl)) h7)
    have := RpA.ints F (ns.map fun i => ((i : Nat) : Int))
    rw [List.map_map, List.map_map] at this
    exact this
theorem grp_done {B : Hp} {pn : Nat → Option Addr} {b : Bool} {dd : D} {va : V} {F N G : Hp} {Rg : Nat → Hp} {H0 Hf : Hp} {d q : Addr} {acc : List (Int × List Nat)} {ls : List Addr} {kvs : List (Key × V)} {Q : VK} (I : Ok B pn [.fro b dd] [some va] F N G Rg H0) (s : Same H0 Hf) (g : GR H0 Hf d acc ls kvs) (nq : Hf q = none)
    (k : ∀ v F' N' Rg' H' R, Ok B pn (outEnv [none]) ([va].map some) F' N' G Rg' H' → Same F F' → Same N N' → TokOk B [] F' N' R (.nw true (acc.map fun p => natsD p.2)) v → Apart F' G Rg' H' R → dj H0 R → Q v H') : Q (.ref q) (upd Hf q (.lst (ls.map V.ref))) := by
  have sq : Same Hf (upd Hf q (.lst (ls.map V.ref))) := upd_Same nq
  have ql : q ∉ ls := fun z => by
    obtain ⟨_, _, o, e⟩ := g.some q z
    rw [nq] at e
    cases e
  have n0 : H0 q = none := s.free nq
  have I1 : Ok B pn [.un] [some va] F N G (setR Rg 0 emp) (upd Hf q (.lst (ls.map V.ref))) := (I.off (i := 0) (by simp)).grow (s.trans sq)
  have hR : ∀ a o, lsR Hf ls a = some o → H0 a = none := fun a o e => (g.some a (lsR_some e).1).1
  have hdj : ∀ {Y : Hp}, Same Y H0 → dj Y (lsR Hf ls) := fun {Y} sY a o e => sY.free (hR a o e)
  have A : Apart F G (setR Rg 0 emp) (upd Hf q (.lst (ls.map V.ref))) (lsR Hf ls) := ⟨fun a o e => sq _ _ (lsR_some e).2, hdj I.sF, hdj I.sG, fun i => by
    by_cases hi : i = 0
    · subst hi; rw [setR_same]; exact emp_dj _
    · rw [setR_ne hi]; exact hdj (I.sR i)⟩
  have hN := I1.djN A
  have I2 := I1.frzN A (fun a o e => I.hB a (hR a o e)) (fun a ob u e => by
    obtain ⟨m, e⟩ := lsR_some e
    obtain ⟨_, _, o, e2⟩ := g.some a m
    rw [e] at e2
    cases e2)
  have nR : lsR Hf ls q = none := by unfold lsR; rw [if_neg ql]
  refine k (.ref q) _ _ _ _ (sgl q (.lst (ls.map V.ref))) I2 (jn_left A.dF) (jn_left hN) ⟨q, ls.map V.ref, rfl, rfl, ?_, I.hB q n0⟩ ⟨sgl_same_iff upd_same, dj_sgl (jn_none_of nR (I.sF.free n0)), dj_sgl (I.sG.free n0), fun i => ?_⟩ (dj_sgl n0)
  · exact g.rp fun l hl o e => jn_right _ _ (by unfold lsR; rw [if_pos hl]; exact e)
  · by_cases hi : i = 0
    · subst hi; rw [setR_same]; exact emp_dj _
    · rw [setR_ne hi]; exact dj_sgl ((I.sR i).free n0)
end DL
namespace DL
open PySem PySem.Spec PyProof.Rows L2
theorem fnGrp_inv {cm : String → Addr} {vs : List V} {H : Hp} {Q : VK} {E : XK} (h : spD cm fnGrp vs H Q E) : ∃ (B : Hp) (pn : Nat → Option Addr) (F N G : Hp) (Rg : Nat → Hp) (b : Bool) (ns : List Int) (a : Addr), vs = [.ref a] ∧ ns.length ≤ 1000 ∧
    Ok B pn [.fro b (.list (ns.map PyData.int))] [some (.ref a)] F N G Rg H ∧ (∀ {H' : Hp}, Same H H' → Rd H' a (.lst (ns.map V.int))) ∧
    (∀ v F' N' Rg' H' R, Ok B pn (outEnv [none]) ([V.ref a].map some) F' N' G Rg' H' → Same F F' → Same N N' → TokOk B [] F' N' R (.nw true ((grp ns).map fun p => natsD p.2)) v → Apart F' G Rg' H' R → dj H R → Q v H') := by
  obtain ⟨B, pn, F, N, G, Rg, args, En, h⟩ := h
  unfold fnGrp at h
  have En := En.ok
  match args, En, h with
  | [.v b (.list xs)], En, h =>
    simp only at h
    cases e1 : intsD xs with
    | none => rw [e1] at h; exact h.elim
    | some ns =>
      rw [e1] at h
      simp only at h
      cases e2 : decide (ns.length ≤ 1000) with
      | false => rw [e2] at h; exact h.elim
      | true =>
        rw [e2] at h
        have ex := intsD_some e1
        subst ex
        have hl : vs.length = 1 := by
          have := En.len
          simp [argEnv] at this
          omega
        match vs, hl, En with
        | [va], _, En =>
          obtain ⟨z1, v, z2, z3⟩ := En.sl 0 _ rfl
          cases z2
          cases z3 with
          | @lst a ws _ hr ra =>
            have := RpA.ofInts ra
            subst this
            exact ⟨B, pn, F, N, G, Rg, b, ns, a, rfl, of_decide_eq_true e2, En, fun {H'} s => Rd.same ((bsel_sub En.sN).trans (En.sF.trans s)) hr, h.2⟩
def tByKind (K : PySem.W.Frag) : TS :=
  tSeq (tAsg tDNewK (gName 1)) (tSeq (tFor (iEnum K (tCons (tVar 0) tNil)) (gTup K 2 (gCons (gName 2) (gCons (gName 3) gNil)))
    (tSeq (tIfS (tB (tDNotIn (tVar 3) (tVar 1))) (sDPut (tVar 1) (tVar 3) (tLst tNil)) tNext) (tDrop (tBM K "list" rAppend (tDGet (tVar 1) (tVar 3)) (tCons (tVar 2) tNil)))))
    (tRet (tListVals (tVar 1))))
theorem by_kind_ok {P : Program} {w : World} {K : PySem.W.Frag} {mg : Str → Option Value} {base : Heap} {cm : String → Addr} {x qual : Str} {st : Stmt} {f : Addr} {fd : FuncData} {k : Nat} (F : Fun K x qual st f fd) (S : FnScope ["kinds", "found", "thing", "kind"] ["kinds"] (defScope st))
    (hb : ∀ (cdv : Value) (A : Around) (outer : List PySem.Env) (s0 : Shared) (H : Hp) (E : XK), Room k (A.deeper (envOfC qual (defScope st) s0.heap.objs.size f cdv)) →
      PSs (cxOf (L2.CX P w) P w K mg base ["kinds", "found", "thing", "kind"] qual (defScope st) f cdv A outer s0 H E) (defBody st) (tByKind K)) :
    FnOk P w K mg base (L2.CX P w) (k + 1) f fd ["kinds"] (spD cm fnGrp) := by
  refine F.okX S (fun vs H Q E h => ?_) (fun cdv A outer s0 H vs Q E hr h => ⟨_, hb cdv A outer s0 H E hr, ?_⟩)
  · obtain ⟨B, pn, F, N, G, Rg, b, ns, a, rfl, _⟩ := fnGrp_inv h
    rfl
  · obtain ⟨B, pn, F, N, G, Rg, b, ns, a, rfl, hn, I, hS, q⟩ := fnGrp_inv h
    -- found = {}
    intro d nd
    have s1 : Same H (upd H d (.dK [])) := upd_Same nd
    -- for thing, kind in enumerate(kinds)
    refine ⟨.ref a, rfl, a, ns.map V.int, rfl, .inl (hS s1), ?_⟩
    refine ⟨fun i m σ H3 => ∃ y2 y3 ls kvs, σ = [some (.ref a), some (.ref d), y2, y3] ∧ i + m = ns.length ∧ Same H H3 ∧ H3 d = some (.dK kvs) ∧ GR H H3 d (grpFrom 0 (ns.take i) []) ls kvs,
      ⟨ns.length, none, none, [], [], rfl, by omega, s1, upd_same, trivial⟩, fun i m σ H3 hW => ?_⟩
    obtain ⟨y2, y3, ls, kvs, rfl, em, sm, hd, g⟩ := hW
    have hA : SqL K H3 a (ns.map V.int) := .inl (hS sm)
    have nD : ∀ {T : Addr}, H3 T = none → T ≠ d := fun {T} n z => by subst z; rw [hd] at n; cases n
    by_cases hi : i < ns.length
    · have gi : (ns.map V.int)[i]? = some (.int ns[i]) := by
        rw [List.getElem?_map, List.getElem?_eq_getElem hi]
        rfl
      refine .inr ⟨⟨_, _, hA, gi⟩, fun σ' H' => ∃ y2 y3 ls kvs, σ' = [some (.ref a), some (.ref d), y2, y3] ∧ Same H H' ∧ H' d = some (.dK kvs) ∧ GR H H' d (grpFrom 0 (ns.take (i + 1)) []) ls kvs, fun σ' H' hN => ?_, fun v H' hy => ?_⟩
      · obtain ⟨z2, z3, ls', kvs', e, sm', hd', g'⟩ := hN
        exact ⟨m - 1, by omega, z2, z3, ls', kvs', e, by omega, sm', hd', g'⟩
      · obtain ⟨T, vx, rfl, nT, rfl, fx⟩ := hy
        have ev : vx = .int ns[i] := Option.some.inj ((fx _ hA).symm.trans gi)
        subst ev
        have sT : Same H3 (upd H3 T (.tup [.int (i : Nat), .int ns[i]])) := upd_Same nT
        have smT : Same H (upd H3 T (.tup [.int (i : Nat), .int ns[i]])) := sm.trans sT
        have hdT : (upd H3 T (.tup [.int (i : Nat), .int ns[i]])) d = some (.dK kvs) := sT _ _ hd
        have gT : GR H (upd H3 T (.tup [.int (i : Nat), .int ns[i]])) d (grpFrom 0 (ns.take i) []) ls kvs := g.mono fun l hl => by
          obtain ⟨_, _, o, e⟩ := g.some l hl
          exact (e.trans (sT _ _ e).symm)
        have et : grpFrom 0 (ns.take (i + 1)) [] = addG ns[i] i (grpFrom 0 (ns.take i) []) := by
          rw [List.take_succ_eq_append_getElem hi, grpFrom_snoc, List.length_take, Nat.min_eq_left (Nat.le_of_lt hi), Nat.zero_add]
        have bd : Bd i (grpFrom 0 (ns.take i) []) := by
          have := Bd.grp (l := ns.take i) (s := 0) (n := 0) (acc := []) ⟨Nat.le_refl _, fun p hp => by cases hp⟩
          rw [List.length_take, Nat.min_eq_left (Nat.le_of_lt hi), Nat.zero_add] at this
          exact this
        rw [et]
        generalize grpFrom 0 (ns.take i) [] = acc at gT bd
        have hK : SqT K (upd H3 T (.tup [.int (i : Nat), .int ns[i]])) T [.int (i : Nat), .int ns[i]] := .inl (.inl upd_same)
        generalize (upd H3 T (.tup [.int (i : Nat), .int ns[i]])) = HT at smT hdT gT hK
        refine ⟨T, [.int (i : Nat), .int ns[i]], rfl, hK, rfl, .int (i : Nat), [.int ns[i]], rfl, .int ns[i], [], rfl, rfl, ?_⟩
        -- found[kind].append(thing)
        have step2 : ∀ (H5 : Hp) (acc5 : List (Int × List Nat)) (ls5 : List Addr) (kvs5 : List (Key × V)), Same H H5 → H5 d = some (.dK kvs5) → GR H H5 d acc5 ls5 kvs5 → hasG ns[i] acc5 = true → (∀ p ∈ acc5, p.2.length ≤ i) → addG ns[i] i acc5 = addG ns[i] i acc →
            tDrop (tBM K "list" rAppend (tDGet (tVar 1) (tVar 3)) (tCons (tVar 2) tNil)) { nx := fun σ' H' => ∃ y2 y3 ls kvs, σ' = [some (V.ref a), some (.ref d), y2, y3] ∧ Same H H' ∧ H' d = some (.dK kvs) ∧ GR H H' d (addG ns[i] i acc) ls kvs, rt := Q, bk := fun σ' H' => True, ct := fun σ' H' => True } [some (.ref a), some (.ref d), some (.int (i : Nat)), some (.int ns[i])] H5 := fun H5 acc5 ls5 kvs5 s5 d5 g5 h5 b5 ea => by
          rcases g5.val (k := ns[i]) with ⟨z, _⟩ | ⟨_, l, ms, ml, ⟨p, mp, pe⟩, vl, hl, gg⟩
          · rw [h5] at z; cases z
          · refine ⟨.ref d, rfl, .int ns[i], rfl, d, .ref l, rfl, .inl ⟨kvs5, .inl ns[i], .inl d5, rfl, vl.symm⟩, .inl ⟨rfl, _, .inl (.inl hl)⟩, .int (i : Nat), rfl, l, natsV ms, .int (i : Nat), rfl, rfl, hl, ?_, ?_⟩
            · have := b5 p mp
              rw [pe] at this
              unfold natsV
              rw [List.length_map, sizeLine_eq]
              omega
            · obtain ⟨n0, ld, _⟩ := g5.some l ml
              refine ⟨_, _, ls5, kvs5, rfl, fun b o e => ?_, ?_, ?_⟩
              · rw [upd_ne (fun z => by subst z; rw [n0] at e; cases e)]
                exact s5 _ _ e
              · rw [upd_ne (Ne.symm ld)]
                exact d5
              · have := gg i
                rw [ea] at this
                unfold natsV at this ⊢
                rw [List.map_append] at this
                exact this
        rcases gT.val (k := ns[i]) with ⟨z1, z2⟩ | ⟨z1, _, _, _, _, z2, _⟩
        · -- not there yet
          refine ⟨.int ns[i], rfl, .ref d, rfl, d, _, rfl, .inl ⟨kvs, .inl ns[i], .inl hdT, rfl, rfl⟩, true, by rw [z2]; rfl, iteT ?_⟩
          refine ⟨Nat.zero_le _, fun l nl => ?_⟩
          have ld : l ≠ d := fun z => by subst z; rw [hdT] at nl; cases nl
          have d6 : (upd HT l (.lst [])) d = some (.dK kvs) := by rw [upd_ne (Ne.symm ld)]; exact hdT
          refine ⟨.ref d, rfl, .int ns[i], rfl, d, _, rfl, DPut.k (k := .inl ns[i]) d6 (by rw [(gT.len).1, sizeLine_eq]; have := bd.1; omega), ?_⟩
          rw [putK_new _ z2]
          have l0 : H l = none := smT.free nl
          have lls : l ∉ ls := fun z => by
            obtain ⟨_, _, o, e⟩ := gT.some l z
            rw [nl] at e
            cases e
          have hll : (upd (upd HT l (.lst [])) d (.dK (kvs ++ [(.inl ns[i], .ref l)]))) l = some (.lst []) := by rw [upd_ne ld, upd_same]
          refine step2 _ (acc ++ [(ns[i], [])]) (ls ++ [l]) (kvs ++ [(.inl ns[i], .ref l)]) (fun b o e => ?_) upd_same (GR.snoc l0 ld hll lls (gT.mono fun m hm => ?_)) hasG_snoc (fun p hp => ?_) (addG_snoc z1)
          · have n1 : b ≠ d := fun z => by subst z; rw [nd] at e; cases e
            have n2 : b ≠ l := fun z => by subst z; rw [l0] at e; cases e
            rw [upd_ne n1, upd_ne n2]
            exact smT _ _ e
          · obtain ⟨_, md, _⟩ := gT.some m hm
            rw [upd_ne md, upd_ne (fun z => lls (by rw [← z]; exact hm))]
          · rcases List.mem_append.mp hp with hp | hp
            · exact bd.2 p hp
            · rw [List.mem_singleton] at hp
              subst hp
              exact Nat.zero_le _
        · refine ⟨.int ns[i], rfl, .ref d, rfl, d, _, rfl, .inl ⟨kvs, .inl ns[i], .inl hdT, rfl, rfl⟩, false, by rw [z2]; rfl, iteF ?_⟩
          exact step2 HT acc ls kvs smT hdT gT z1 bd.2 rfl
    · refine .inl ⟨⟨_, hA, ?_⟩, ?_⟩
      · rw [List.length_map]; omega
      · have ei : ns.take i = ns := List.take_of_length_le (by omega)
        rw [ei] at g
        refine ⟨.ref d, rfl, d, kvs, rfl, hd, fun p np => ?_⟩
        rw [(g.len).2]
        exact grp_done I sm g np q
end DL
namespace DL
open PySem PySem.Spec PyProof.Rows L2
def FP (ns : List Int) (acc : List (Int × List Nat)) : Prop := ∀ p ∈ acc, ∃ m r, p.2 = m :: r ∧ ns[m]? = some p.1
theorem FP.add {ns : List Int} {k : Int} {i : Nat} (hk : ns[i]? = some k) : ∀ {acc : List (Int × List Nat)}, FP ns acc → FP ns (addG k i acc)
  | [], _ => fun p hp => by
    simp [addG] at hp
    subst hp
    exact ⟨i, [], rfl, hk⟩
  | (k1, ms) :: acc, h => by
    have h1 := h _ List.mem_cons_self
    by_cases hx : k1 = k
    · have ea : addG k i ((k1, ms) :: acc) = (k1, ms ++ [i]) :: acc := by simp [addG, hx]
      rw [ea]
      intro p hp
      rcases List.mem_cons.mp hp with e | hp
      · subst e
        obtain ⟨m, r, e1, e2⟩ := h1
        exact ⟨m, r ++ [i], by show ms ++ [i] = _; rw [show ms = m :: r from e1]; rfl, e2⟩
      · exact h p (List.mem_cons_of_mem _ hp)
    · have ea : addG k i ((k1, ms) :: acc) = (k1, ms) :: addG k i acc := by simp [addG, hx]
      rw [ea]
      intro p hp
      rcases List.mem_cons.mp hp with e | hp
      · subst e; exact h1
      · exact FP.add hk (fun q hq => h q (List.mem_cons_of_mem _ hq)) p hp
theorem GR.at {H0 H : Hp} {d : Addr} : ∀ {acc : List (Int × List Nat)} {ls : List Addr} {kvs : List (Key × V)}, GR H0 H d acc ls kvs → ∀ {j : Nat} {l : Addr}, ls[j]? = Option.some l → ∃ p, acc[j]? = Option.some p ∧ H l = Option.some (.lst (natsV p.2))
  | [], [], [], _, j, l, e => by simp at e
  | (k, ns) :: acc, m :: ls, (k', v) :: kvs, h, 0, l, e => by
    obtain ⟨h1, h2, h3, h4, h5, h6, h7⟩ := h
    simp at e
    subst e
    exact ⟨_, rfl, h6⟩
  | (k, ns) :: acc, m :: ls, (k', v) :: kvs, h, j + 1, l, e => by
    obtain ⟨h1, h2, h3, h4, h5, h6, h7⟩ := h
    obtain ⟨p, e1, e2⟩ := GR.at h7 (j := j) (l := l) (by simpa using e)
    exact ⟨p, by simpa using e1, e2⟩
theorem GR.ls {H0 H : Hp} {d : Addr} : ∀ {acc : List (Int × List Nat)} {ls : List Addr} {kvs : List (Key × V)}, GR H0 H d acc ls kvs → acc.length = ls.length
  | [], [], [], _ => rfl
  | (k, ns) :: acc, l :: ls, (k', v) :: kvs, h => by
    obtain ⟨h1, h2, h3, h4, h5, h6, h7⟩ := h
    rw [List.length_cons, List.length_cons, GR.ls h7]
end DL
namespace DL
open PySem PySem.Spec PyProof.Rows L2
theorem tagAll_true {ps : List (Bool × D)} (h : ∀ p ∈ ps, p.1 = true) : tagAll ps = true := by
  induction ps with
  | nil => rfl
  | cons p r ih =>
    obtain ⟨b, d⟩ := p
    have : b = true := h (b, d) List.mem_cons_self
    subst this
    exact ih fun p hp => h p (List.mem_cons_of_mem _ hp)
theorem runFn_rt {np n : Nat} {s : DS} {args : List Arg} {t t' : Tok} {e : Env} {l : List (Option (Bool × List D))} (hl : args.length = np) (hs : s (argEnv args ++ List.replicate (n - np) .un) = .rt t e) (ht : resTok e t = some t') (ho : outsOf e args 0 = some l) : runFn np n s args = .ok t' l := by
  unfold runFn
  rw [decide_eq_true hl]
  simp only [hs, ht, ho]
theorem runFn_nx {np n : Nat} {s : DS} {args : List Arg} {e : Env} {l : List (Option (Bool × List D))} (hl : args.length = np) (hs : s (argEnv args ++ List.replicate (n - np) .un) = .nx e) (ho : outsOf e args 0 = some l) : runFn np n s args = .ok (.fz true .none) l := by
  unfold runFn
  rw [decide_eq_true hl]
  simp only [hs, ho]
theorem runFn_exc {np n : Nat} {s : DS} {args : List Arg} {e : Env} {c : String} (hl : args.length = np) (hs : s (argEnv args ++ List.replicate (n - np) .un) = .exc c e) : runFn np n s args = .exc c := by
  unfold runFn
  rw [decide_eq_true hl]
  simp only [hs]
theorem fits_of {n : Nat} (h : n ≤ 16777216) : fits n = true := decide_eq_true h
end DL
namespace DL
open PySem PySem.Spec PyProof.Rows L2
section
variable {B : Hp} {pn : Nat → Option Addr} {env : DL.Env} {σ : L2.St} {F N G : Hp} {Rg : Nat → Hp} {H R : Hp}
theorem Ok.poke {l : Addr} {o o' : HO} (I : Ok B pn env σ F N G Rg H) (A : Apart F G Rg H R) (hl : R l = some o) : Ok B pn env σ F N G Rg (upd H l o') := by
  have hu : ∀ {Y : Hp}, Same Y H → dj Y R → Same Y (upd H l o') := fun {Y} s d a u ea => by
    have ne : a ≠ l := fun z => by
      subst z
      rw [d _ _ hl] at ea
      cases ea
    rw [upd_ne ne]
    exact s _ _ ea
  exact { I with
    sF := hu I.sF A.dF
    sG := hu I.sG A.dG
    hB := fun a ha => by
      by_cases z : a = l
      · subst z; rw [upd_same] at ha; cases ha
      · rw [upd_ne z] at ha; exact I.hB a ha
    sR := fun j => hu (I.sR j) (A.dR j) }
end
section
variable {X : Cx} {W : L2.WX} {cm : String → Addr} {e : Expr} {fs : List DE} {x : Str} {npos ipos spos apos cpos pos : Pos} {j : Nat}
end
end DL
namespace DL
open PySem PySem.Spec PyProof.Rows L2
end DL
namespace TS
open DL
inductive M (α : Type) where
  | ok (a : α)
  | exc (c : String)
  | bad
namespace M
def bind {α β : Type} : M α → (α → M β) → M β
  | .ok a, k => k a
  | .exc c, _ => .exc c
  | .bad, _ => .bad
def val {α β : Type} (v : α) (k : α → M β) : M β := k v
def orRet {σ τ : Type} : M (σ ⊕ τ) → (σ → M τ) → M τ
  | .ok (.inl s), k => k s
  | .ok (.inr t), _ => .ok t
  | .exc c, _ => .exc c
  | .bad, _ => .bad
end M
inductive SD where
  | un
  | pl
  | any
  | fro (b : Bool) (d : D)
  | own (p b : Bool) (xs : List D)
  | ex (d : D)
  | kn (p : Bool) (tab : NTab)
  | ob (p : Bool) (o : Ob)
  | lent
abbrev ES := List SD
def fr : DL.Slot → Bool
  | .own true _ _ => false
  | .kn _ _ => false
  | .ob _ _ => false
  | .lent => false
  | _ => true
def SFit : SD → DL.Slot → Prop
  | .un, s => s = .un
  | .pl, s => s = .un ∨ ∃ b d, s = .fro b d
  | .any, s => fr s = true
  | .fro b d, s => ∃ b', s = .fro b' d ∧ (b = true → b' = true)
  | .own p b xs, s => ∃ b', s = .own p b' xs ∧ (b = true → b' = true)
  | .ex d, s => s = .ex d
  | .kn p tab, s => s = .kn p tab
  | .ob p o, s => s = .ob p o
  | .lent, s => s = .lent
def Fit : ES → Env → Prop
  | [], e => e = []
  | d :: E, e => ∃ s r, e = s :: r ∧ SFit d s ∧ Fit E r
theorem Fit.get : ∀ {E : ES} {e : Env} {i : Nat} {d : SD}, Fit E e → E[i]? = some d → ∃ s, e[i]? = some s ∧ SFit d s
  | [], _, _, _, _, h => by simp at h
  | d0 :: E, e, 0, d, f, h => by
    obtain ⟨s, r, rfl, g, _⟩ := f
    simp at h
    subst h
    exact ⟨s, rfl, g⟩
  | d0 :: E, e, i + 1, d, f, h => by
    obtain ⟨s, r, rfl, _, g⟩ := f
    simp at h
    obtain ⟨s', h1, h2⟩ := Fit.get g h
    exact ⟨s', by simpa using h1, h2⟩
theorem Fit.len : ∀ {E : ES} {e : Env}, Fit E e → E.length = e.length
  | [], _, f => by rw [show _ = [] from f]; rfl
  | d0 :: E, e, f => by
    obtain ⟨s, r, rfl, _, g⟩ := f
    simp [Fit.len g]
theorem Fit.set : ∀ {E : ES} {e : Env} {i : Nat} {d : SD} {s : DL.Slot}, Fit E e → SFit d s → Fit (E.set i d) (e.set i s)
  | [], _, _, _, _, f, _ => by rw [show _ = [] from f]; rfl
  | d0 :: E, e, 0, d, s, f, g => by
    obtain ⟨s0, r, rfl, _, h⟩ := f
    exact ⟨s, r, rfl, g, h⟩
  | d0 :: E, e, i + 1, d, s, f, g => by
    obtain ⟨s0, r, rfl, h0, h⟩ := f
    exact ⟨s0, r.set i s, rfl, h0, Fit.set h g⟩
inductive TD where
  | fz (b : Bool) (d : D)
  | nw (b : Bool) (xs : List D)
  | ex (d : D)
  | sl (i : Nat)
def TFit : TD → DL.Tok → Prop
  | .fz b d, t => ∃ b', t = .fz b' d ∧ (b = true → b' = true)
  | .nw b xs, t => ∃ b', t = .nw b' xs ∧ (b = true → b' = true)
  | .ex d, t => t = .ex d
  | .sl i, t => t = .sl i
def rdE (E : ES) : TD → Option D
  | .fz _ d => some d
  | .nw _ xs => some (.list xs)
  | .ex d => some d
  | .sl i => match E[i]? with
    | some (.fro _ d) => some d
    | some (.own _ _ xs) => some (.list xs)
    | some (.ex d) => some d
    | some (.ob _ o) => obD o
    | _ => none
theorem rdE_ok {E : ES} {e : Env} {td : TD} {t : DL.Tok} {d : D} (f : Fit E e) (g : TFit td t) (h : rdE E td = some d) : rd e t = some d := by
  cases td with
  | fz b d0 => obtain ⟨b', rfl, _⟩ := g; exact h
  | nw b d0 => obtain ⟨b', rfl, _⟩ := g; exact h
  | ex d0 => rw [show t = _ from g]; exact h
  | sl i =>
    rw [show t = _ from g]
    simp only [rdE] at h
    simp only [rd]
    cases q : E[i]? with
    | none => rw [q] at h; cases h
    | some s =>
      rw [q] at h
      obtain ⟨s', h1, h2⟩ := f.get q
      rw [h1]
      cases s with
      | fro b d1 => obtain ⟨b', rfl, _⟩ := h2; exact h
      | own p b d1 => obtain ⟨b', rfl, _⟩ := h2; exact h
      | ex d1 => rw [show s' = _ from h2]; exact h
      | ob p o => rw [show s' = _ from h2]; exact h
      | _ => cases h
def rdsE (E : ES) : List TD → Option (List D)
  | [] => some []
  | t :: ts => match rdE E t with
    | none => none
    | some d => match rdsE E ts with
      | none => none
      | some ds => some (d :: ds)
def TFits : List TD → List DL.Tok → Prop
  | [], ts => ts = []
  | d :: ds, ts => ∃ t r, ts = t :: r ∧ TFit d t ∧ TFits ds r
theorem rdsE_ok {E : ES} {e : Env} (f : Fit E e) : ∀ {tds : List TD} {ts : List DL.Tok} {ds : List D}, TFits tds ts → rdsE E tds = some ds → rds e ts = some ds
  | [], ts, ds, g, h => by
    rw [show ts = [] from g]
    exact h
  | td :: tds, ts, ds, g, h => by
    obtain ⟨t, r, rfl, g1, g2⟩ := g
    simp only [rdsE] at h
    cases q : rdE E td with
    | none => rw [q] at h; cases h
    | some d =>
      rw [q] at h
      cases q2 : rdsE E tds with
      | none => rw [q2] at h; cases h
      | some ds' =>
        rw [q2] at h
        simp only [rds, rdE_ok f g1 q, rdsE_ok f g2 q2]
        exact h
def takeE (E : ES) : TD → Option (Bool × D × ES)
  | .fz b d => some (b, d, E)
  | .nw b xs => some (b, .list xs, E)
  | .ex d => some (true, d, E)
  | .sl i => match E[i]? with
    | some (.fro b d) => some (b, d, E)
    | some (.own false b xs) => some (b, .list xs, E.set i (.fro b (.list xs)))
    | some (.ex d) => some (true, d, E.set i (.fro true d))
    | _ => none
theorem takeE_ok {E : ES} {e : Env} {td : TD} {t : DL.Tok} {b : Bool} {d : D} {E' : ES} (f : Fit E e) (g : TFit td t) (h : takeE E td = some (b, d, E')) : ∃ b' e', take e t = some (b', d, e') ∧ (b = true → b' = true) ∧ Fit E' e' := by
  cases td with
  | fz b0 d0 => obtain ⟨b', rfl, q⟩ := g; cases h; exact ⟨b', e, rfl, q, f⟩
  | nw b0 d0 => obtain ⟨b', rfl, q⟩ := g; cases h; exact ⟨b', e, rfl, q, f⟩
  | ex d0 => rw [show t = _ from g]; cases h; exact ⟨true, e, rfl, fun _ => rfl, f⟩
  | sl i =>
    rw [show t = _ from g]
    simp only [takeE] at h
    simp only [take]
    cases q : E[i]? with
    | none => rw [q] at h; cases h
    | some s =>
      rw [q] at h
      obtain ⟨s', h1, h2⟩ := f.get q
      rw [h1]
      cases s with
      | fro b d1 => obtain ⟨b', rfl, q2⟩ := h2; cases h; exact ⟨b', e, rfl, q2, f⟩
      | own p b d1 =>
        obtain ⟨b', rfl, q2⟩ := h2
        cases p with
        | true => cases h
        | false => cases h; exact ⟨b', _, rfl, q2, f.set ⟨b', rfl, q2⟩⟩
      | ex d1 => rw [show s' = _ from h2]; cases h; exact ⟨true, _, rfl, fun _ => rfl, f.set ⟨true, rfl, fun _ => rfl⟩⟩
      | _ => cases h
def viewE (E : ES) : TD → Option (Bool × D × ES)
  | .fz b d => some (b, d, E)
  | .nw b xs => some (b, .list xs, E)
  | .ex d => some (true, d, E)
  | .sl i => match E[i]? with
    | some (.fro b d) => some (b, d, E)
    | some (.own _ b xs) => some (b, .list xs, E)
    | some (.ex d) => some (true, d, E.set i (.fro true d))
    | _ => none
theorem viewE_ok {E : ES} {e : Env} {td : TD} {t : DL.Tok} {b : Bool} {d : D} {E' : ES} (f : Fit E e) (g : TFit td t) (h : viewE E td = some (b, d, E')) : ∃ b' e', view e t = some (b', d, e') ∧ (b = true → b' = true) ∧ Fit E' e' := by
  cases td with
  | fz b0 d0 => obtain ⟨b', rfl, q⟩ := g; cases h; exact ⟨b', e, rfl, q, f⟩
  | nw b0 d0 => obtain ⟨b', rfl, q⟩ := g; cases h; exact ⟨b', e, rfl, q, f⟩
  | ex d0 => rw [show t = _ from g]; cases h; exact ⟨true, e, rfl, fun _ => rfl, f⟩
  | sl i =>
    rw [show t = _ from g]
    simp only [viewE] at h
    simp only [view]
    cases q : E[i]? with
    | none => rw [q] at h; cases h
    | some s =>
      rw [q] at h
      obtain ⟨s', h1, h2⟩ := f.get q
      rw [h1]
      cases s with
      | fro b d1 => obtain ⟨b', rfl, q2⟩ := h2; cases h; exact ⟨b', e, rfl, q2, f⟩
      | own p b d1 => obtain ⟨b', rfl, q2⟩ := h2; cases h; exact ⟨b', _, rfl, q2, f⟩
      | ex d1 => rw [show s' = _ from h2]; cases h; exact ⟨true, _, rfl, fun _ => rfl, f.set ⟨true, rfl, fun _ => rfl⟩⟩
      | _ => cases h
def LePs : List (Bool × D) → List (Bool × D) → Prop
  | [], qs => qs = []
  | (b, d) :: ps, qs => ∃ b' r, qs = (b', d) :: r ∧ (b = true → b' = true) ∧ LePs ps r
def takesE (E : ES) : List TD → Option (List (Bool × D) × ES)
  | [] => some ([], E)
  | t :: ts => match takesE E ts with
    | none => none
    | some (ps, e1) => match takeE e1 t with
      | none => none
      | some (b, d, e2) => some ((b, d) :: ps, e2)
theorem takesE_ok {E : ES} {e : Env} (f : Fit E e) : ∀ {tds : List TD} {ts : List DL.Tok} {ps : List (Bool × D)} {E' : ES}, TFits tds ts → takesE E tds = some (ps, E') → ∃ ps' e', takes e ts = some (ps', e') ∧ LePs ps ps' ∧ Fit E' e'
  | [], ts, ps, E', g, h => by
    rw [show ts = [] from g]
    cases h
    exact ⟨[], e, rfl, rfl, f⟩
  | td :: tds, ts, ps, E', g, h => by
    obtain ⟨t, r, rfl, g1, g2⟩ := g
    simp only [takesE] at h
    cases q : takesE E tds with
    | none => rw [q] at h; cases h
    | some z =>
      obtain ⟨qs, E1⟩ := z
      rw [q] at h
      simp only at h
      obtain ⟨ps', e1, h1, h2, f1⟩ := takesE_ok f g2 q
      cases q2 : takeE E1 td with
      | none => rw [q2] at h; cases h
      | some z =>
        obtain ⟨b, d, E2⟩ := z
        rw [q2] at h
        cases h
        obtain ⟨b', e2, h3, h4, f2⟩ := takeE_ok f1 g1 q2
        exact ⟨(b', d) :: ps', e2, by simp only [takes, h1, h3], ⟨b', ps', rfl, h4, h2⟩, f2⟩
def viewsE (E : ES) : List TD → Option (List (Bool × D) × ES)
  | [] => some ([], E)
  | t :: ts => match viewsE E ts with
    | none => none
    | some (ps, e1) => match viewE e1 t with
      | none => none
      | some (b, d, e2) => some ((b, d) :: ps, e2)
theorem viewsE_ok {E : ES} {e : Env} (f : Fit E e) : ∀ {tds : List TD} {ts : List DL.Tok} {ps : List (Bool × D)} {E' : ES}, TFits tds ts → viewsE E tds = some (ps, E') → ∃ ps' e', views e ts = some (ps', e') ∧ LePs ps ps' ∧ Fit E' e'
  | [], ts, ps, E', g, h => by
    rw [show ts = [] from g]
    cases h
    exact ⟨[], e, rfl, rfl, f⟩
  | td :: tds, ts, ps, E', g, h => by
    obtain ⟨t, r, rfl, g1, g2⟩ := g
    simp only [viewsE] at h
    cases q : viewsE E tds with
    | none => rw [q] at h; cases h
    | some z =>
      obtain ⟨qs, E1⟩ := z
      rw [q] at h
      simp only at h
      obtain ⟨ps', e1, h1, h2, f1⟩ := viewsE_ok f g2 q
      cases q2 : viewE E1 td with
      | none => rw [q2] at h; cases h
      | some z =>
        obtain ⟨b, d, E2⟩ := z
        rw [q2] at h
        cases h
        obtain ⟨b', e2, h3, h4, f2⟩ := viewE_ok f1 g1 q2
        exact ⟨(b', d) :: ps', e2, by simp only [views, h1, h3], ⟨b', ps', rfl, h4, h2⟩, f2⟩
def setE (E : ES) (i : Nat) (s : SD) : Option ES := match E[i]? with
  | none => none
  | some (.own true _ _) => none
  | some (.kn _ _) => none
  | some (.ob _ _) => none
  | some .lent => none
  | some _ => some (E.set i s)
theorem setE_ok {E E' : ES} {e : Env} {i : Nat} {d : SD} {s : DL.Slot} (f : Fit E e) (g : SFit d s) (h : setE E i d = some E') : ∃ e', setSlot e i s = some e' ∧ Fit E' e' := by
  simp only [setE] at h
  simp only [setSlot]
  cases q : E[i]? with
  | none => rw [q] at h; cases h
  | some z =>
    rw [q] at h
    obtain ⟨s', h1, h2⟩ := f.get q
    rw [h1]
    cases z with
    | un => rw [show s' = _ from h2]; cases h; exact ⟨_, rfl, f.set g⟩
    | pl => cases h; rcases h2 with rfl | ⟨b, d, rfl⟩ <;> exact ⟨_, rfl, f.set g⟩
    | any =>
      cases h
      have h3 : fr s' = true := h2
      cases s' with
      | own p b xs => cases p with
        | true => cases h3
        | false => exact ⟨_, rfl, f.set g⟩
      | kn _ _ => cases h3
      | ob _ _ => cases h3
      | lent => cases h3
      | _ => exact ⟨_, rfl, f.set g⟩
    | fro b d1 => obtain ⟨b', rfl, q2⟩ := h2; cases h; exact ⟨_, rfl, f.set g⟩
    | own p b d1 =>
      obtain ⟨b', rfl, q2⟩ := h2
      cases p with
      | true => cases h
      | false => cases h; exact ⟨_, rfl, f.set g⟩
    | ex d1 => rw [show s' = _ from h2]; cases h; exact ⟨_, rfl, f.set g⟩
    | kn _ _ => cases h
    | ob _ _ => cases h
    | lent => cases h
def storeE (E : ES) (i : Nat) : TD → Option ES
  | .fz b d => setE E i (.fro b d)
  | .nw b xs => setE E i (.own false b xs)
  | .ex d => setE E i (.ex d)
  | .sl j => match takeE E (.sl j) with
    | none => none
    | some (b, d, e1) => setE e1 i (.fro b d)
theorem storeE_ok {E E' : ES} {e : Env} {i : Nat} {td : TD} {t : DL.Tok} (f : Fit E e) (g : TFit td t) (h : storeE E i td = some E') : ∃ e', store e i t = some e' ∧ Fit E' e' := by
  cases td with
  | fz b d => obtain ⟨b', rfl, q⟩ := g; exact setE_ok (d := .fro b d) f ⟨b', rfl, q⟩ h
  | nw b d => obtain ⟨b', rfl, q⟩ := g; exact setE_ok (d := .own false b d) f ⟨b', rfl, q⟩ h
  | ex d => rw [show t = _ from g]; exact setE_ok (d := .ex d) f rfl h
  | sl j =>
    rw [show t = _ from g]
    simp only [storeE] at h
    cases q : takeE E (.sl j) with
    | none => rw [q] at h; cases h
    | some z =>
      obtain ⟨b, d, E1⟩ := z
      rw [q] at h
      obtain ⟨b', e1, h1, h2, f1⟩ := takeE_ok f (show TFit (.sl j) (.sl j) from rfl) q
      obtain ⟨e2, h3, f2⟩ := setE_ok (d := .fro b d) (s := .fro b' d) f1 ⟨b', rfl, h2⟩ h
      exact ⟨e2, by simp only [store, h1]; exact h3, f2⟩
def asOwnE (E : ES) (i : Nat) : Option (Bool × Bool × List D) := match E[i]? with
  | some (.own p b xs) => some (p, b, xs)
  | some (.ex (.list xs)) => match xs.all scal with
    | true => some (false, true, xs)
    | false => none
  | _ => none
theorem asOwnE_ok {E : ES} {e : Env} {i : Nat} {p b : Bool} {xs : List D} (f : Fit E e) (h : asOwnE E i = some (p, b, xs)) : ∃ b', asOwn e i = some (p, b', xs) ∧ (b = true → b' = true) := by
  simp only [asOwnE] at h
  simp only [asOwn]
  cases q : E[i]? with
  | none => rw [q] at h; cases h
  | some z =>
    rw [q] at h
    obtain ⟨s', h1, h2⟩ := f.get q
    rw [h1]
    cases z with
    | own p b d1 => obtain ⟨b', rfl, q2⟩ := h2; cases h; exact ⟨b', rfl, q2⟩
    | ex d1 =>
      rw [show s' = _ from h2]
      cases d1 with
      | list ys =>
        simp only at h ⊢
        cases q2 : ys.all scal with
        | false => rw [q2] at h; cases h
        | true => rw [q2] at h; cases h; exact ⟨true, rfl, fun _ => rfl⟩
      | _ => cases h
    | _ => cases h
end TS
namespace TS
open DL
abbrev XC := String → ES → Prop
def NX : XC := fun _ _ => True
section
variable {ρ : Type}
def WE (f : DE) (E : ES) (m : M ρ) (P : TD → ES → M ρ → Prop) (X : XC) : Prop := ∀ e, Fit E e → m = .bad ∨ (∃ c E' e', f e = .exc c e' ∧ m = .exc c ∧ Fit E' e' ∧ X c E') ∨ ∃ td t E' e', f e = .ok t e' ∧ TFit td t ∧ Fit E' e' ∧ P td E' m
def WA (fs : List DE) (E : ES) (m : M ρ) (P : List TD → ES → M ρ → Prop) (X : XC) : Prop := ∀ e, Fit E e → m = .bad ∨ (∃ c E' e', dArgs fs e = .exc c e' ∧ m = .exc c ∧ Fit E' e' ∧ X c E') ∨ ∃ tds ts E' e', dArgs fs e = .ok ts e' ∧ TFits tds ts ∧ Fit E' e' ∧ P tds E' m
def WT (f : DT) (E : ES) (m : M ρ) (P : Bool → ES → M ρ → Prop) (X : XC) : Prop := ∀ e, Fit E e → m = .bad ∨ (∃ c E' e', f e = .exc c e' ∧ m = .exc c ∧ Fit E' e' ∧ X c E') ∨ ∃ b E' e', f e = .ok b e' ∧ Fit E' e' ∧ P b E' m
structure PK (ρ : Type) where
  nx : ES → M ρ → Prop
  rt : TD → ES → M ρ → Prop
  bk : ES → M ρ → Prop
  ct : ES → M ρ → Prop
def WS (f : DS) (E : ES) (m : M ρ) (P : PK ρ) (X : XC) : Prop := ∀ e, Fit E e → m = .bad ∨ (∃ c E' e', f e = .exc c e' ∧ m = .exc c ∧ Fit E' e' ∧ X c E') ∨ (∃ E' e', f e = .nx e' ∧ Fit E' e' ∧ P.nx E' m) ∨
  (∃ td t E' e', f e = .rt t e' ∧ TFit td t ∧ Fit E' e' ∧ P.rt td E' m) ∨ (∃ E' e', f e = .bk e' ∧ Fit E' e' ∧ P.bk E' m) ∨ (∃ E' e', f e = .ct e' ∧ Fit E' e' ∧ P.ct E' m)
variable {E : ES} {m : M ρ} {X : XC} {P : TD → ES → M ρ → Prop} {PL : List TD → ES → M ρ → Prop} {PB : Bool → ES → M ρ → Prop}
theorem we_ok {f : DE} (h : ∀ e, Fit E e → ∃ td t E' e', f e = .ok t e' ∧ TFit td t ∧ Fit E' e' ∧ P td E' m) : WE f E m P X := fun e fe => .inr (.inr (h e fe))
theorem WE.then {f : DE} {K : Prop} {e : Env} (h : WE f E m P X) (fe : Fit E e) (h1 : m = .bad → K) (h2 : ∀ c E' e', f e = .exc c e' → m = .exc c → Fit E' e' → X c E' → K) (h3 : ∀ td t E' e', f e = .ok t e' → TFit td t → Fit E' e' → P td E' m → K) : K := by
  rcases h e fe with h | ⟨c, E', e', a, b, fx, xx⟩ | ⟨td, t, E', e', a, b, c, d⟩
  · exact h1 h
  · exact h2 c E' e' a b fx xx
  · exact h3 td t E' e' a b c d
theorem WA.then {fs : List DE} {K : Prop} {e : Env} (h : WA fs E m PL X) (fe : Fit E e) (h1 : m = .bad → K) (h2 : ∀ c E' e', dArgs fs e = .exc c e' → m = .exc c → Fit E' e' → X c E' → K) (h3 : ∀ tds ts E' e', dArgs fs e = .ok ts e' → TFits tds ts → Fit E' e' → PL tds E' m → K) : K := by
  rcases h e fe with h | ⟨c, E', e', a, b, fx, xx⟩ | ⟨td, t, E', e', a, b, c, d⟩
  · exact h1 h
  · exact h2 c E' e' a b fx xx
  · exact h3 td t E' e' a b c d
theorem WT.then {f : DT} {K : Prop} {e : Env} (h : WT f E m PB X) (fe : Fit E e) (h1 : m = .bad → K) (h2 : ∀ c E' e', f e = .exc c e' → m = .exc c → Fit E' e' → X c E' → K) (h3 : ∀ b E' e', f e = .ok b e' → Fit E' e' → PB b E' m → K) : K := by
  rcases h e fe with h | ⟨c, E', e', a, b, fx, xx⟩ | ⟨b, E', e', a, c, d⟩
  · exact h1 h
  · exact h2 c E' e' a b fx xx
  · exact h3 b E' e' a c d
theorem WE.imp {f : DE} {P' : TD → ES → M ρ → Prop} (h : WE f E m P X) (k : ∀ td E' , P td E' m → P' td E' m) : WE f E m P' X := fun e fe => h.then fe (fun z => .inl z) (fun c E' e' a b fx xx => .inr (.inl ⟨c, E', e', a, b, fx, xx⟩)) fun td t E' e' a b c d => .inr (.inr ⟨td, t, E', e', a, b, c, k _ _ d⟩)
def liveE (E : ES) (i : Nat) : Bool := match E[i]? with
  | some (.fro _ _) => true
  | some (.own _ _ _) => true
  | some (.ex _) => true
  | some .lent => true
  | _ => false
theorem we_var {i : Nat} (h : liveE E i = true) (k : P (.sl i) E m) : WE (eVar i) E m P X := we_ok fun e fe => by
  refine ⟨.sl i, .sl i, E, e, ?_, rfl, fe, k⟩
  unfold liveE at h
  cases q : E[i]? with
  | none => rw [q] at h; cases h
  | some s =>
    rw [q] at h
    obtain ⟨s', h1, h2⟩ := fe.get q
    unfold eVar
    rw [h1]
    cases s with
    | fro b d => obtain ⟨b', rfl, _⟩ := h2; rfl
    | own p b d => obtain ⟨b', rfl, _⟩ := h2; rfl
    | ex d => rw [show s' = _ from h2]
    | lent => rw [show s' = _ from h2]
    | _ => cases h
theorem we_c {d : D} (k : P (.fz true d) E m) : WE (eC d) E m P X := we_ok fun e fe => ⟨.fz true d, .fz true d, E, e, rfl, ⟨true, rfl, fun _ => rfl⟩, fe, k⟩
theorem wa_nil (k : PL [] E m) : WA [] E m PL X := fun e fe => .inr (.inr ⟨[], [], E, e, rfl, rfl, fe, k⟩)
theorem wa_cons {f : DE} {fs : List DE} (h : WE f E m (fun td E1 m1 => WA fs E1 m1 (fun tds E2 m2 => PL (td :: tds) E2 m2) X) X) : WA (f :: fs) E m PL X := fun e fe =>
  h.then fe (fun z => .inl z) (fun c E' e' a b fx xx => .inr (.inl ⟨c, E', e', by simp only [dArgs, a], b, fx, xx⟩)) fun td t E' e' a b fe' d =>
    d.then fe' (fun z => .inl z) (fun c E2 e2 a2 b2 fx xx => .inr (.inl ⟨c, E2, e2, by simp only [dArgs, a, a2], b2, fx, xx⟩)) fun tds ts E2 e2 a2 b2 fe2 d2 =>
      .inr (.inr ⟨td :: tds, t :: ts, E2, e2, by simp only [dArgs, a, a2], ⟨t, ts, rfl, b, b2⟩, fe2, d2⟩)
theorem we_ap {op : List DL.Tok → Env → ER} {fs : List DE} (h : WA fs E m (fun tds E1 m1 => ∀ ts e, TFits tds ts → Fit E1 e → m1 = .bad ∨ (∃ c E' e', op ts e = .exc c e' ∧ m1 = .exc c ∧ Fit E' e' ∧ X c E') ∨ ∃ td t E' e', op ts e = .ok t e' ∧ TFit td t ∧ Fit E' e' ∧ P td E' m1) X) : WE (dAp op fs) E m P X := fun e fe =>
  h.then fe (fun z => .inl z) (fun c E' e' a b fx xx => .inr (.inl ⟨c, E', e', by simp only [dAp, a], b, fx, xx⟩)) fun tds ts E' e' a b fe' d => by
    rcases d ts e' b fe' with h | ⟨c, E2, e2, a2, b2, fx, xx⟩ | ⟨td, t, E2, e2, a2, b2, c2, d2⟩
    · exact .inl h
    · exact .inr (.inl ⟨c, E2, e2, by simp only [dAp, a, a2], b2, fx, xx⟩)
    · exact .inr (.inr ⟨td, t, E2, e2, by simp only [dAp, a, a2], b2, c2, d2⟩)
theorem WA.imp {fs : List DE} {P' : List TD → ES → M ρ → Prop} (h : WA fs E m PL X) (k : ∀ td E', PL td E' m → P' td E' m) : WA fs E m P' X := fun e fe => h.then fe (fun z => .inl z) (fun c E' e' a b fx xx => .inr (.inl ⟨c, E', e', a, b, fx, xx⟩)) fun td t E' e' a b c d => .inr (.inr ⟨td, t, E', e', a, b, c, k _ _ d⟩)
theorem we_sc {op : List D → Option D} {fs : List DE} (h : WA fs E m (fun tds E1 m1 => ∃ ds d, rdsE E1 tds = some ds ∧ op ds = some d ∧ P (.fz true d) E1 m1) X) : WE (dAp (opSc op) fs) E m P X :=
  we_ap (h.imp fun tds E1 ⟨ds, d, h1, h2, k⟩ ts e g fe => .inr (.inr ⟨.fz true d, .fz true d, E1, e, by simp only [opSc, rdsE_ok fe g h1, h2], ⟨true, rfl, fun _ => rfl⟩, fe, k⟩))
structure PSc {β : Type} (op : List D → Option D) (ds : List D) (n : M β) (t : β → D) : Prop where
  h : match n with
    | .ok v => op ds = some (t v)
    | .exc _ => False
    | .bad => True
theorem we_scM {β : Type} (t : β → D) {op : List D → Option D} {fs : List DE} (h : WA fs E m (fun tds E1 m1 => ∃ (n : M β) (kk : β → M ρ), m1 = n.bind kk ∧ ∃ ds, rdsE E1 tds = some ds ∧ PSc op ds n t ∧ ∀ v, P (.fz true (t v)) E1 (kk v)) X) : WE (dAp (opSc op) fs) E m P X :=
  we_ap (h.imp fun tds E1 ⟨n, kk, h0, ds, h1, h2, k⟩ ts e g fe => by
    cases n with
    | ok v =>
      refine .inr (.inr ⟨.fz true (t v), .fz true (t v), E1, e, ?_, ⟨true, rfl, fun _ => rfl⟩, fe, ?_⟩)
      · simp only [opSc, rdsE_ok fe g h1, show op ds = some (t v) from h2.h]
      · rw [h0]; exact k v
    | exc c => exact h2.h.elim
    | bad => exact .inl h0)
def dt : DL.Tok → TD
  | .fz b d => .fz b d
  | .nw b xs => .nw b xs
  | .ex d => .ex d
  | .sl i => .sl i
def Mono (op : List (Bool × D) → Option DL.Tok) : Prop := ∀ {ps qs : List (Bool × D)} {t : DL.Tok}, op ps = some t → LePs ps qs → ∃ t', op qs = some t' ∧ TFit (dt t) t'
theorem we_elG {op : List (Bool × D) → Option DL.Tok} {fs : List DE} (mo : Mono op) (h : WA fs E m (fun tds E1 m1 => ∃ ps E2 t, viewsE E1 tds = some (ps, E2) ∧ op ps = some t ∧ P (dt t) E2 m1) X) : WE (dAp (opEl op) fs) E m P X :=
  we_ap (h.imp fun tds E1 ⟨ps, E2, t, h1, h2, k⟩ ts e g fe => by
    obtain ⟨qs, e2, g1, g2, f2⟩ := viewsE_ok fe g h1
    obtain ⟨t', g3, g4⟩ := mo h2 g2
    exact .inr (.inr ⟨dt t, t', E2, e2, by simp only [opEl, g1, g3], g4, f2, k⟩))
theorem we_tkG {op : List (Bool × D) → Option DL.Tok} {fs : List DE} (mo : Mono op) (h : WA fs E m (fun tds E1 m1 => ∃ ps E2 t, takesE E1 tds = some (ps, E2) ∧ op ps = some t ∧ P (dt t) E2 m1) X) : WE (dAp (opTk op) fs) E m P X :=
  we_ap (h.imp fun tds E1 ⟨ps, E2, t, h1, h2, k⟩ ts e g fe => by
    obtain ⟨qs, e2, g1, g2, f2⟩ := takesE_ok fe g h1
    obtain ⟨t', g3, g4⟩ := mo h2 g2
    exact .inr (.inr ⟨dt t, t', E2, e2, by simp only [opTk, g1, g3], g4, f2, k⟩))
theorem we_elF {op : List (Bool × D) → Option DL.Tok} {fs : List DE} (mo : Mono op) (h : WA fs E m (fun tds E1 m1 => ∃ ps E2 b d, viewsE E1 tds = some (ps, E2) ∧ op ps = some (.fz b d) ∧ P (.fz b d) E2 m1) X) : WE (dAp (opEl op) fs) E m P X := we_elG mo (h.imp fun _ _ ⟨ps, E2, b, d, h1, h2, k⟩ => ⟨ps, E2, .fz b d, h1, h2, k⟩)
theorem we_elN {op : List (Bool × D) → Option DL.Tok} {fs : List DE} (mo : Mono op) (h : WA fs E m (fun tds E1 m1 => ∃ ps E2 b d, viewsE E1 tds = some (ps, E2) ∧ op ps = some (.nw b d) ∧ P (.nw b d) E2 m1) X) : WE (dAp (opEl op) fs) E m P X := we_elG mo (h.imp fun _ _ ⟨ps, E2, b, d, h1, h2, k⟩ => ⟨ps, E2, .nw b d, h1, h2, k⟩)
theorem we_tkF {op : List (Bool × D) → Option DL.Tok} {fs : List DE} (mo : Mono op) (h : WA fs E m (fun tds E1 m1 => ∃ ps E2 b d, takesE E1 tds = some (ps, E2) ∧ op ps = some (.fz b d) ∧ P (.fz b d) E2 m1) X) : WE (dAp (opTk op) fs) E m P X := we_tkG mo (h.imp fun _ _ ⟨ps, E2, b, d, h1, h2, k⟩ => ⟨ps, E2, .fz b d, h1, h2, k⟩)
theorem we_tkN {op : List (Bool × D) → Option DL.Tok} {fs : List DE} (mo : Mono op) (h : WA fs E m (fun tds E1 m1 => ∃ ps E2 b d, takesE E1 tds = some (ps, E2) ∧ op ps = some (.nw b d) ∧ P (.nw b d) E2 m1) X) : WE (dAp (opTk op) fs) E m P X := we_tkG mo (h.imp fun _ _ ⟨ps, E2, b, d, h1, h2, k⟩ => ⟨ps, E2, .nw b d, h1, h2, k⟩)
def tokOf : TD → DL.Tok
  | .fz b d => .fz b d
  | .nw b xs => .nw b xs
  | .ex d => .ex d
  | .sl i => .sl i
theorem dt_tokOf (t : TD) : dt (tokOf t) = t := by cases t <;> rfl
structure PEl {β : Type} (op : List (Bool × D) → Option DL.Tok) (ps : List (Bool × D)) (n : M β) (t : β → TD) : Prop where
  h : match n with
    | .ok v => op ps = some (tokOf (t v))
    | .exc _ => False
    | .bad => True
theorem we_elM {β : Type} (t : β → TD) {op : List (Bool × D) → Option DL.Tok} {fs : List DE} (mo : Mono op) (h : WA fs E m (fun tds E1 m1 => ∃ (n : M β) (kk : β → M ρ), m1 = n.bind kk ∧ ∃ ps E2, viewsE E1 tds = some (ps, E2) ∧ PEl op ps n t ∧ ∀ v, P (t v) E2 (kk v)) X) : WE (dAp (opEl op) fs) E m P X :=
  we_ap (h.imp fun tds E1 ⟨n, kk, h0, ps, E2, h1, h2, k⟩ ts e g fe => by
    obtain ⟨qs, e2, g1, g2, f2⟩ := viewsE_ok fe g h1
    cases n with
    | ok v =>
      obtain ⟨t', g3, g4⟩ := mo (show op ps = some (tokOf (t v)) from h2.h) g2
      rw [dt_tokOf] at g4
      refine .inr (.inr ⟨t v, t', E2, e2, by simp only [opEl, g1, g3], g4, f2, ?_⟩)
      rw [h0]; exact k v
    | exc c => exact h2.h.elim
    | bad => exact .inl h0)
def MMono (op : MOp) : Prop := ∀ {b b1 : Bool} {xs : List D} {ps qs : List (Bool × D)} {r : Bool × List D × Bool × D}, (b = true → b1 = true) → op b xs ps = some r → LePs ps qs → ∃ b2 c2, op b1 xs qs = some (b2, r.2.1, c2, r.2.2.2) ∧ (r.1 = true → b2 = true) ∧ (r.2.2.1 = true → c2 = true)
structure PMu {β : Type} (op : MOp) (b : Bool) (xs : List D) (ps : List (Bool × D)) (n : M β) (t : β → Bool × List D × Bool × D) : Prop where
  h : match n with
    | .ok v => op b xs ps = some (t v)
    | .exc _ => False
    | .bad => True
theorem we_mut {β : Type} (t : β → Bool × List D × Bool × D) {i : Nat} {op : MOp} {fs : List DE} (mo : MMono op) (ho : (asOwnE E i).isSome = true)
    (h : WA fs E m (fun tds E1 m1 => ∃ (n : M β) (kk : β → M ρ), m1 = n.bind kk ∧ ∃ ps E2 p b xs, takesE E1 tds = some (ps, E2) ∧ asOwnE E2 i = some (p, b, xs) ∧ PMu op b xs ps n t ∧ ∀ v, P (.fz (t v).2.2.1 (t v).2.2.2) (E2.set i (.own p (t v).1 (t v).2.1)) (kk v)) X) : WE (eMut i op fs) E m P X := fun e fe => by
  cases q : asOwnE E i with
  | none => rw [q] at ho; cases ho
  | some z =>
    obtain ⟨p0, b0, xs0⟩ := z
    obtain ⟨b0', o1, _⟩ := asOwnE_ok fe q
    refine h.then fe (fun z => .inl z) (fun c E' e' a b fx xx => .inr (.inl ⟨c, E', e', by simp only [eMut, o1, a], b, fx, xx⟩)) ?_
    rintro tds ts E1 e1 a g f1 ⟨n, kk, h0, ps, E2, p, b, xs, h1, h2, h3, k⟩
    obtain ⟨qs, e2, g1, g2, f2⟩ := takesE_ok f1 g h1
    obtain ⟨b', o2, o3⟩ := asOwnE_ok f2 h2
    cases n with
    | ok v =>
      obtain ⟨b2, c2, m1, m2, m3⟩ := mo o3 (show op b xs ps = some (t v) from h3.h) g2
      refine .inr (.inr ⟨.fz (t v).2.2.1 (t v).2.2.2, .fz c2 (t v).2.2.2, _, e2.set i (.own p b2 (t v).2.1), by simp only [eMut, o1, a, g1, o2, m1], ⟨c2, rfl, m3⟩, f2.set (d := .own p (t v).1 (t v).2.1) ⟨b2, rfl, m2⟩, ?_⟩)
      rw [h0]; exact k v
    | exc c => exact h3.h.elim
    | bad => exact .inl h0
theorem wt_val {f : DE} (h : WE f E m (fun td E1 m1 => ∃ b, rdE E1 td = some (.bool b) ∧ PB b E1 m1) X) : WT (dVal f) E m PB X := fun e fe =>
  h.then fe (fun z => .inl z) (fun c E' e' a b fx xx => .inr (.inl ⟨c, E', e', by simp only [dVal, a], b, fx, xx⟩)) fun td t E' e' a g f1 ⟨b, h1, k⟩ => .inr (.inr ⟨b, E', e', by simp only [dVal, a, rdE_ok f1 g h1], f1, k⟩)
theorem wt_not {f : DT} (h : WT f E m (fun b E1 m1 => PB (!b) E1 m1) X) : WT (dNot f) E m PB X := fun e fe =>
  h.then fe (fun z => .inl z) (fun c E' e' a b fx xx => .inr (.inl ⟨c, E', e', by simp only [dNot, a], b, fx, xx⟩)) fun b E' e' a f1 k => .inr (.inr ⟨!b, E', e', by simp only [dNot, a], f1, k⟩)
theorem wt_yes (k : PB true E m) : WT dYes E m PB X := fun e fe => .inr (.inr ⟨true, E, e, rfl, fe, k⟩)
def TestIs (f : DT) (E : ES) (b : Bool) : Prop := WT f E (.ok () : M Unit) (fun b' E' m => b' = b ∧ E' = E ∧ m = .ok ()) NX
theorem TestIs.run {f : DT} {b : Bool} (h : TestIs f E b) {e : Env} (fe : Fit E e) : ∃ e', f e = .ok b e' ∧ Fit E e' := by
  rcases h e fe with h | ⟨c, E', e', a, b', fx, xx⟩ | ⟨b', E', e', a, f1, rfl, rfl, _⟩
  · cases h
  · cases b'
  · exact ⟨e', a, f1⟩
theorem wt_andP {f g : DT} (h : WT f E m (fun b E1 m1 => ∃ b2, TestIs g E1 b2 ∧ PB (b && b2) E1 m1) X) : WT (dAnd f g) E m PB X := fun e fe =>
  h.then fe (fun z => .inl z) (fun c E' e' a b fx xx => .inr (.inl ⟨c, E', e', by simp only [dAnd, a], b, fx, xx⟩)) fun b E' e' a f1 ⟨b2, q, k⟩ => by
    obtain ⟨e2, a2, f2⟩ := q.run f1
    cases b with
    | false => exact .inr (.inr ⟨false, E', e', by simp only [dAnd, a], f1, by simpa using k⟩)
    | true => exact .inr (.inr ⟨b2, E', e2, by simp only [dAnd, a, a2], f2, by simpa using k⟩)
theorem wt_orM {f g : DT} (h : WT f E m (fun b E1 m1 => ∃ (n : M Bool) (kk : Bool → M ρ), m1 = M.bind (cond b (.ok true) n) kk ∧ WT g E1 n (fun b' E2 n2 => n2 = .ok b' ∧ E2 = E1) X ∧ ∀ b, PB b E1 (kk b)) X) : WT (dOr f g) E m PB X := fun e fe =>
  h.then fe (fun z => .inl z) (fun c E' e' a b fx xx => .inr (.inl ⟨c, E', e', by simp only [dOr, a], b, fx, xx⟩)) fun b E' e' a f1 ⟨n, kk, h0, q, k⟩ => by
    cases b with
    | true => exact .inr (.inr ⟨true, E', e', by simp only [dOr, a], f1, by rw [h0]; exact k true⟩)
    | false =>
      refine q.then f1 (fun z => .inl ?_) (fun c E2 e2 a2 b2 fx xx => .inr (.inl ⟨c, E2, e2, by simp only [dOr, a, a2], ?_, fx, xx⟩)) fun b2 E2 e2 a2 f2 ⟨z, zz⟩ => .inr (.inr ⟨b2, E2, e2, by simp only [dOr, a, a2], f2, ?_⟩)
      · rw [h0, z]; rfl
      · rw [h0, b2]; rfl
      · rw [h0, z, zz]; exact k b2
def ExprIs (f : DE) (E : ES) (td : TD) : Prop := WE f E (.ok () : M Unit) (fun td' E' m => td' = td ∧ E' = E ∧ m = .ok ()) NX
theorem ExprIs.run {f : DE} {td : TD} (h : ExprIs f E td) {e : Env} (fe : Fit E e) : ∃ t e', f e = .ok t e' ∧ TFit td t ∧ Fit E e' := by
  rcases h e fe with h | ⟨c, E', e', a, b', fx, xx⟩ | ⟨td', t, E', e', a, g, f1, rfl, rfl, _⟩
  · cases h
  · cases b'
  · exact ⟨t, e', a, g, f1⟩
theorem we_andM {f g : DE} (h : WT (dVal f) E m (fun b E1 m1 => ∃ (n : M Bool) (kk : Bool → M ρ), m1 = M.bind (cond b n (.ok false)) kk ∧ WE g E1 n (fun td E2 n2 => ∃ b', n2 = .ok b' ∧ td = .fz true (.bool b') ∧ E2 = E1) X ∧ ∀ b, P (.fz true (.bool b)) E1 (kk b)) X) : WE (eAnd f g) E m P X := fun e fe =>
  h.then fe (fun z => .inl z) (fun c E' e' a b fx xx => .inr (.inl ⟨c, E', e', by simp only [eAnd, a], b, fx, xx⟩)) fun b E' e' a f1 ⟨n, kk, h0, q, k⟩ => by
    cases b with
    | false => exact .inr (.inr ⟨.fz true (.bool false), _, E', e', by simp only [eAnd, a], ⟨true, rfl, fun _ => rfl⟩, f1, by rw [h0]; exact k false⟩)
    | true =>
      refine q.then f1 (fun z => .inl ?_) (fun c E2 e2 a2 b2 fx xx => .inr (.inl ⟨c, E2, e2, by simp only [eAnd, a, a2], ?_, fx, xx⟩)) fun td t E2 e2 a2 g2 f2 ⟨b2, z, zz, zzz⟩ => .inr (.inr ⟨td, t, E2, e2, by simp only [eAnd, a, a2], g2, f2, ?_⟩)
      · rw [h0, z]; rfl
      · rw [h0, b2]; rfl
      · rw [h0, z, zz, zzz]; exact k b2
end
end TS
namespace TS
open DL
def LeS (d s : SD) : Prop := ∀ x, SFit s x → SFit d x
theorem leR {d : SD} : LeS d d := fun _ h => h
def looseS : SD → Bool
  | .own true _ _ => false
  | .kn _ _ => false
  | .ob _ _ => false
  | .lent => false
  | _ => true
theorem leA {s : SD} (h : looseS s = true) : LeS .any s := fun x g => by
  cases s with
  | un => rw [show x = _ from g]; rfl
  | pl => rcases g with rfl | ⟨b, d, rfl⟩ <;> rfl
  | any => exact g
  | fro b d => obtain ⟨b', rfl, _⟩ := g; rfl
  | own p b d => obtain ⟨b', rfl, _⟩ := g; cases p; rfl; cases h
  | ex d => rw [show x = _ from g]; rfl
  | kn _ _ => cases h
  | ob _ _ => cases h
  | lent => cases h
def plainS : SD → Bool
  | .un => true
  | .pl => true
  | .fro _ _ => true
  | _ => false
theorem leP {s : SD} (h : plainS s = true) : LeS .pl s := fun x g => by
  cases s with
  | un => exact .inl g
  | pl => exact g
  | fro b d => obtain ⟨b', rfl, _⟩ := g; exact .inr ⟨b', d, rfl⟩
  | _ => cases h
theorem leF {b : Bool} {d : D} : LeS (.fro false d) (.fro b d) := fun x ⟨b', h, _⟩ => ⟨b', h, fun z => by cases z⟩
def LeE : ES → ES → Prop
  | [], E => E = []
  | d :: L, E => ∃ s r, E = s :: r ∧ LeS d s ∧ LeE L r
theorem LeE.fit : ∀ {L E : ES} {e : Env}, LeE L E → Fit E e → Fit L e
  | [], E, e, h, f => by rw [show E = [] from h] at f; exact f
  | d :: L, E, e, h, f => by
    obtain ⟨s, r, rfl, h1, h2⟩ := h
    obtain ⟨x, q, rfl, g1, g2⟩ := f
    exact ⟨x, q, rfl, h1 _ g1, h2.fit g2⟩
theorem le_nil : LeE [] [] := rfl
theorem le_cons {d s : SD} {L r : ES} (h : LeS d s) (k : LeE L r) : LeE (d :: L) (s :: r) := ⟨s, r, rfl, h, k⟩
theorem LeE.refl : ∀ E : ES, LeE E E
  | [] => rfl
  | d :: E => ⟨d, E, rfl, leR, LeE.refl E⟩
section
variable {ρ : Type} {E : ES} {m : M ρ} {X : XC} {P : TD → ES → M ρ → Prop} {PL : List TD → ES → M ρ → Prop} {PB : Bool → ES → M ρ → Prop} {Q : PK ρ}
theorem WS.then {f : DS} {K : Prop} {e : Env} (h : WS f E m Q X) (fe : Fit E e) (h1 : m = .bad → K) (h2 : ∀ c E' e', f e = .exc c e' → m = .exc c → Fit E' e' → X c E' → K) (h3 : ∀ E' e', f e = .nx e' → Fit E' e' → Q.nx E' m → K)
    (h4 : ∀ td t E' e', f e = .rt t e' → TFit td t → Fit E' e' → Q.rt td E' m → K) (h5 : ∀ E' e', f e = .bk e' → Fit E' e' → Q.bk E' m → K) (h6 : ∀ E' e', f e = .ct e' → Fit E' e' → Q.ct E' m → K) : K := by
  rcases h e fe with h | ⟨c, E', e', a, b, fx, xx⟩ | ⟨E', e', a, f1, k⟩ | ⟨td, t, E', e', a, g, f1, k⟩ | ⟨E', e', a, f1, k⟩ | ⟨E', e', a, f1, k⟩
  · exact h1 h
  · exact h2 c E' e' a b fx xx
  · exact h3 E' e' a f1 k
  · exact h4 td t E' e' a g f1 k
  · exact h5 E' e' a f1 k
  · exact h6 E' e' a f1 k
theorem ws_nx {f : DS} (h : ∀ e, Fit E e → ∃ E' e', f e = .nx e' ∧ Fit E' e' ∧ Q.nx E' m) : WS f E m Q X := fun e fe => .inr (.inr (.inl (h e fe)))
theorem ws_nop (k : Q.nx E m) : WS sNop E m Q X := ws_nx fun e fe => ⟨E, e, rfl, fe, k⟩
theorem ws_raise {c : String} (h : m = .exc c) (x : X c E) : WS (sRaise c) E m Q X := fun e fe => .inr (.inl ⟨c, E, e, rfl, h, fe, x⟩)
theorem ws_seq {a b : DS} (h : WS a E m ⟨fun E1 m1 => WS b E1 m1 Q X, Q.rt, Q.bk, Q.ct⟩ X) : WS (sSeq a b) E m Q X := fun e fe => by
  refine h.then fe (fun z => .inl z) (fun c E' e' a b fx xx => .inr (.inl ⟨c, E', e', by simp only [sSeq, a], b, fx, xx⟩)) (fun E1 e1 a f1 k => ?_) (fun td t E' e' a g f1 k => .inr (.inr (.inr (.inl ⟨td, t, E', e', by simp only [sSeq, a], g, f1, k⟩))))
    (fun E' e' a f1 k => .inr (.inr (.inr (.inr (.inl ⟨E', e', by simp only [sSeq, a], f1, k⟩))))) (fun E' e' a f1 k => .inr (.inr (.inr (.inr (.inr ⟨E', e', by simp only [sSeq, a], f1, k⟩)))))
  rcases k e1 f1 with h | ⟨c, E', e', z, b, fx, xx⟩ | ⟨E', e', z, f2, k⟩ | ⟨td, t, E', e', z, g, f2, k⟩ | ⟨E', e', z, f2, k⟩ | ⟨E', e', z, f2, k⟩
  · exact .inl h
  · exact .inr (.inl ⟨c, E', e', by simp only [sSeq, a, z], b, fx, xx⟩)
  · exact .inr (.inr (.inl ⟨E', e', by simp only [sSeq, a, z], f2, k⟩))
  · exact .inr (.inr (.inr (.inl ⟨td, t, E', e', by simp only [sSeq, a, z], g, f2, k⟩)))
  · exact .inr (.inr (.inr (.inr (.inl ⟨E', e', by simp only [sSeq, a, z], f2, k⟩))))
  · exact .inr (.inr (.inr (.inr (.inr ⟨E', e', by simp only [sSeq, a, z], f2, k⟩))))
theorem ws_set {i : Nat} {f : DE} (h : WE f E m (fun td E1 m1 => ∃ E2, storeE E1 i td = some E2 ∧ Q.nx E2 m1) X) : WS (sSet i f) E m Q X := fun e fe =>
  h.then fe (fun z => .inl z) (fun c E' e' a b fx xx => .inr (.inl ⟨c, E', e', by simp only [sSet, a], b, fx, xx⟩)) fun td t E' e' a g f1 ⟨E2, h1, k⟩ => by
    obtain ⟨e2, g1, f2⟩ := storeE_ok f1 g h1
    exact .inr (.inr (.inl ⟨E2, e2, by simp only [sSet, a, g1], f2, k⟩))
theorem ws_setV {α : Type} (t : α → TD) {i : Nat} {f : DE} (h : WE f E m (fun td E1 m1 => ∃ (v : α) (kk : α → M ρ), m1 = M.val v kk ∧ td = t v ∧ ∀ x, ∃ E2, storeE E1 i (t x) = some E2 ∧ Q.nx E2 (kk x)) X) : WS (sSet i f) E m Q X :=
  ws_set (h.imp fun td E1 ⟨v, kk, h1, h2, h3⟩ => by
    obtain ⟨E2, g1, g2⟩ := h3 v
    subst h2
    exact ⟨E2, g1, by rw [h1]; exact g2⟩)
theorem ws_drop {f : DE} (h : WE f E m (fun td E1 m1 => Q.nx E1 m1) X) : WS (sDrop f) E m Q X := fun e fe =>
  h.then fe (fun z => .inl z) (fun c E' e' a b fx xx => .inr (.inl ⟨c, E', e', by simp only [sDrop, a], b, fx, xx⟩)) fun td t E' e' a g f1 k => .inr (.inr (.inl ⟨E', e', by simp only [sDrop, a], f1, k⟩))
theorem ws_ret {f : DE} (h : WE f E m (fun td E1 m1 => Q.rt td E1 m1) X) : WS (sRet f) E m Q X := fun e fe =>
  h.then fe (fun z => .inl z) (fun c E' e' a b fx xx => .inr (.inl ⟨c, E', e', by simp only [sRet, a], b, fx, xx⟩)) fun td t E' e' a g f1 k => .inr (.inr (.inr (.inl ⟨td, t, E', e', by simp only [sRet, a], g, f1, k⟩)))
theorem ws_if {c : DT} {s1 s2 : DS} (h : WT c E m (fun b E1 m1 => ∃ (ma mb : M ρ), m1 = cond b ma mb ∧ WS s1 E1 ma Q X ∧ WS s2 E1 mb Q X) X) : WS (sIf c s1 s2) E m Q X := fun e fe =>
  h.then fe (fun z => .inl z) (fun c E' e' a b fx xx => .inr (.inl ⟨c, E', e', by simp only [sIf, a], b, fx, xx⟩)) fun b E1 e1 a f1 ⟨ma, mb, h0, k1, k2⟩ => by
    cases b with
    | true => 
      have hm : m = ma := h0
      subst hm
      have hs : sIf c s1 s2 e = s1 e1 := by simp only [sIf, a]
      rw [hs]
      exact k1 e1 f1
    | false =>
      have hm : m = mb := h0
      subst hm
      have hs : sIf c s1 s2 e = s2 e1 := by simp only [sIf, a]
      rw [hs]
      exact k2 e1 f1
theorem ws_join {σ : Type} {s : DS} {n : M σ} {kk : σ → M ρ} (L : σ → ES) (h0 : m = M.bind n kk) (h : WS s E n ⟨fun E1 n1 => ∃ v, n1 = .ok v ∧ LeE (L v) E1, fun _ _ _ => False, fun _ _ => False, fun _ _ => False⟩ X) (k : ∀ v, Q.nx (L v) (kk v)) : WS s E m Q X := fun e fe =>
  h.then fe (fun z => .inl (by rw [h0, z]; rfl)) (fun c E' e' a b fx xx => .inr (.inl ⟨c, E', e', a, by rw [h0, b]; rfl, fx, xx⟩)) (fun E1 e1 a f1 ⟨v, hv, le⟩ => .inr (.inr (.inl ⟨L v, e1, a, le.fit f1, by rw [h0, hv]; exact k v⟩))) (fun _ _ _ _ _ _ _ k => k.elim) (fun _ _ _ _ k => k.elim) (fun _ _ _ _ k => k.elim)
mutual
def bindE : Tg → Bool → D → ES → Option ES
  | .nm i, b, d, E => setE E i (.fro b d)
  | .tp ts, b, .list ds, E => bindsE ts b ds E
  | .tp ts, b, .tuple ds, E => bindsE ts b ds E
  | .tp _, _, _, _ => none
def bindsE : Tgs → Bool → List D → ES → Option ES
  | .nil, _, [], E => some E
  | .cons t r, b, d :: ds, E => match bindE t b d E with
    | none => none
    | some E1 => bindsE r b ds E1
  | _, _, _, _ => none
end
mutual
theorem bindE_ok : ∀ {t : Tg} {b b' : Bool} {d : D} {E E' : ES} {e : Env}, (b = true → b' = true) → Fit E e → bindE t b d E = some E' → ∃ e', bind1 t b' d e = some e' ∧ Fit E' e'
  | .nm i, b, b', d, E, E', e, hb, f, h => by
    simp only [bindE] at h
    simp only [bind1]
    exact setE_ok (d := .fro b d) f ⟨b', rfl, hb⟩ h
  | .tp ts, b, b', .list ds, E, E', e, hb, f, h => by
    simp only [bindE] at h
    simp only [bind1]
    exact bindsE_ok hb f h
  | .tp ts, b, b', .tuple ds, E, E', e, hb, f, h => by
    simp only [bindE] at h
    simp only [bind1]
    exact bindsE_ok hb f h
  | .tp ts, _, _, .none, _, _, _, _, _, h => by simp [bindE] at h
  | .tp ts, _, _, .bool _, _, _, _, _, _, h => by simp [bindE] at h
  | .tp ts, _, _, .int _, _, _, _, _, _, h => by simp [bindE] at h
  | .tp ts, _, _, .str _, _, _, _, _, _, h => by simp [bindE] at h
  | .tp ts, _, _, .dict _, _, _, _, _, _, h => by simp [bindE] at h
theorem bindsE_ok : ∀ {ts : Tgs} {b b' : Bool} {ds : List D} {E E' : ES} {e : Env}, (b = true → b' = true) → Fit E e → bindsE ts b ds E = some E' → ∃ e', bindN ts b' ds e = some e' ∧ Fit E' e'
  | .nil, b, b', [], E, E', e, hb, f, h => by
    simp only [bindsE, Option.some.injEq] at h
    subst h
    exact ⟨e, by simp only [bindN], f⟩
  | .nil, b, b', _ :: _, E, E', e, hb, f, h => by simp [bindsE] at h
  | .cons t r, b, b', [], E, E', e, hb, f, h => by simp [bindsE] at h
  | .cons t r, b, b', d :: ds, E, E', e, hb, f, h => by
    simp only [bindsE] at h
    cases q : bindE t b d E with
    | none => rw [q] at h; cases h
    | some E1 =>
      rw [q] at h
      obtain ⟨e1, h1, f1⟩ := bindE_ok hb f q
      obtain ⟨e2, h2, f2⟩ := bindsE_ok hb f1 h
      exact ⟨e2, by simp only [bindN, h1, h2], f2⟩
end
theorem ws_unp {t : Tg} {f : DE} (h : WE f E m (fun td E1 m1 => ∃ b d E2 E3, takeE E1 td = some (b, d, E2) ∧ bindE t b d E2 = some E3 ∧ Q.nx E3 m1) X) : WS (sUnp t f) E m Q X := fun e fe =>
  h.then fe (fun z => .inl z) (fun c E' e' a b fx xx => .inr (.inl ⟨c, E', e', by simp only [sUnp, a], b, fx, xx⟩)) fun td t E' e' a g f1 ⟨b, d, E2, E3, h1, h2, k⟩ => by
    obtain ⟨b', e2, g1, g2, f2⟩ := takeE_ok f1 g h1
    obtain ⟨e3, g3, f3⟩ := bindE_ok g2 f2 h2
    exact .inr (.inr (.inl ⟨E3, e3, by simp only [sUnp, a, g1, g3], f3, k⟩))
structure PSi {β : Type} (xs : List D) (k : Int) (d : D) (n : M β) (t : β → List D) : Prop where
  h : match n with
    | .ok v => ∃ j, L2.ixN xs.length k = some j ∧ xs.set j d = t v
    | .exc _ => False
    | .bad => True
theorem ws_setIxM {β : Type} (t : β → List D) {i : Nat} {f g : DE} (h : WE f E m (fun td E1 m1 => ∃ c d E2, takeE E1 td = some (c, d, E2) ∧ (asOwnE E2 i).isSome = true ∧ WE g E2 m1 (fun td2 E3 m3 => ∃ (n : M β) (kk : β → M ρ), m3 = M.bind n kk ∧ ∃ k p b xs, rdE E3 td2 = some (.int k) ∧ asOwnE E3 i = some (p, b, xs) ∧ PSi xs k d n t ∧ ∀ v, Q.nx (E3.set i (.own p (b && c) (t v))) (kk v)) X) X) : WS (sSetIx i f g) E m Q X := fun e fe =>
  h.then fe (fun z => .inl z) (fun c E' e' a b fx xx => .inr (.inl ⟨c, E', e', by simp only [sSetIx, a], b, fx, xx⟩)) fun td t1 E1 e1 a g1 f1 ⟨c, d, E2, h1, ho, h2⟩ => by
    obtain ⟨c', e2, g2, g3, f2⟩ := takeE_ok f1 g1 h1
    cases q : asOwnE E2 i with
    | none => rw [q] at ho; cases ho
    | some z =>
      obtain ⟨p0, b0, xs0⟩ := z
      obtain ⟨b0', o1, _⟩ := asOwnE_ok f2 q
      refine h2.then f2 (fun z => .inl z) (fun c E' e' a2 b fx xx => .inr (.inl ⟨c, E', e', by simp only [sSetIx, a, g2, o1, a2], b, fx, xx⟩)) ?_
      rintro td2 t2 E3 e3 a3 g4 f3 ⟨n, kk, h0, k, p, b, xs, h3, h4, h5, kc⟩
      obtain ⟨b', o2, o3⟩ := asOwnE_ok f3 h4
      cases n with
      | ok v =>
        obtain ⟨j, j1, j2⟩ := h5.h
        refine .inr (.inr (.inl ⟨_, e3.set i (.own p (b' && c') (xs.set j d)), by simp only [sSetIx, a, g2, o1, a3, rdE_ok f3 g4 h3, o2, j1], f3.set (d := .own p (b && c) (t v)) ⟨b' && c', by rw [j2], fun hh => ?_⟩, ?_⟩))
        · simp only [Bool.and_eq_true] at hh ⊢
          exact ⟨o3 hh.1, g3 hh.2⟩
        · rw [h0]; exact kc v
      | exc c => exact h5.h.elim
      | bad => exact .inl h0
theorem ws_setIxV {β : Type} (t : β → List D) {i : Nat} {f g : DE} (h : WE f E m (fun td E1 m1 => ∃ c d E2, takeE E1 td = some (c, d, E2) ∧ (asOwnE E2 i).isSome = true ∧ WE g E2 m1 (fun td2 E3 m3 => ∃ (v : β) (kk : β → M ρ), m3 = M.val v kk ∧ ∃ k p b xs j, rdE E3 td2 = some (.int k) ∧ asOwnE E3 i = some (p, b, xs) ∧ L2.ixN xs.length k = some j ∧ xs.set j d = t v ∧ ∀ v, Q.nx (E3.set i (.own p (b && c) (t v))) (kk v)) X) X) : WS (sSetIx i f g) E m Q X :=
  ws_setIxM t (h.imp fun td E1 ⟨c, d, E2, h1, ho, h2⟩ => ⟨c, d, E2, h1, ho, h2.imp fun td2 E3 ⟨v, kk, h0, k, p, b, xs, j, h3, h4, h5, h6, h7⟩ => ⟨.ok v, kk, h0, k, p, b, xs, h3, h4, ⟨⟨j, h5, h6⟩⟩, h7⟩⟩)
end
end TS
namespace TS
open DL
abbrev Lend := Option (Nat × Bool × Bool × List D)
def LdLe : Lend → Lend → Prop
  | none, w => w = none
  | some (i, p, b, xs), w => ∃ b', w = some (i, p, b', xs) ∧ (b = true → b' = true)
section
variable {ρ : Type} {E : ES} {m : M ρ} {X : XC} {P : TD → ES → M ρ → Prop} {PL : List TD → ES → M ρ → Prop} {PB : Bool → ES → M ρ → Prop} {Q : PK ρ} {PI : Bool → List D → Lend → ES → M ρ → Prop}
def WI (f : DI) (E : ES) (m : M ρ) (P : Bool → List D → Lend → ES → M ρ → Prop) (X : XC) : Prop := ∀ e, Fit E e → m = .bad ∨ (∃ c E' e', f e = .exc c e' ∧ m = .exc c ∧ Fit E' e' ∧ X c E') ∨ ∃ b b' ds w w' E' e', f e = .ok b' ds w' e' ∧ (b = true → b' = true) ∧ LdLe w w' ∧ Fit E' e' ∧ P b ds w E' m
theorem WI.then {f : DI} {K : Prop} {e : Env} (h : WI f E m PI X) (fe : Fit E e) (h1 : m = .bad → K) (h2 : ∀ c E' e', f e = .exc c e' → m = .exc c → Fit E' e' → X c E' → K) (h3 : ∀ b b' ds w w' E' e', f e = .ok b' ds w' e' → (b = true → b' = true) → LdLe w w' → Fit E' e' → PI b ds w E' m → K) : K := by
  rcases h e fe with h | ⟨c, E', e', a, b, fx, xx⟩ | ⟨b, b', ds, w, w', E', e', a, q1, q2, f1, k⟩
  · exact h1 h
  · exact h2 c E' e' a b fx xx
  · exact h3 b b' ds w w' E' e' a q1 q2 f1 k
def seqOf (b : Bool) : D → ES → Option (Bool × List D × Lend × ES)
  | .list ds, E => some (b, ds, none, E)
  | .tuple ds, E => some (b, ds, none, E)
  | _, _ => none
def seqE (E : ES) : TD → Option (Bool × List D × Lend × ES)
  | .fz b d => seqOf b d E
  | .nw b xs => some (b, xs, none, E)
  | .ex d => seqOf true d E
  | .sl i => match E[i]? with
    | some (.own p b xs) => some (b, xs, some (i, p, b, xs), E.set i .lent)
    | some (.fro b d) => seqOf b d E
    | some (.ex d) => seqOf true d (E.set i (.fro true d))
    | _ => none
theorem seqOf_some {b : Bool} {d : D} {E : ES} {z : Bool × List D × Lend × ES} (h : seqOf b d E = some z) : (d = .list z.2.1 ∨ d = .tuple z.2.1) ∧ z.1 = b ∧ z.2.2.1 = none ∧ z.2.2.2 = E := by
  cases d with
  | list ds => cases h; exact ⟨.inl rfl, rfl, rfl, rfl⟩
  | tuple ds => cases h; exact ⟨.inr rfl, rfl, rfl, rfl⟩
  | _ => cases h
theorem wi_seq {f : DE} (h : WE f E m (fun td E1 m1 => ∃ b ds w E2, seqE E1 td = some (b, ds, w, E2) ∧ PI b ds w E2 m1) X) : WI (iSeq f) E m PI X := fun e fe =>
  h.then fe (fun z => .inl z) (fun c E' e' a b fx xx => .inr (.inl ⟨c, E', e', by simp only [iSeq, a], b, fx, xx⟩)) fun td t E1 e1 a g f1 ⟨b, ds, w, E2, h1, k⟩ => by
    refine .inr (.inr ?_)
    cases td with
    | fz b0 d0 =>
      obtain ⟨b', rfl, q⟩ := g
      obtain ⟨h2, h3, h4, h5⟩ := seqOf_some h1
      simp only at h2 h3 h4 h5
      subst h3 h4 h5
      refine ⟨b, b', ds, none, none, E2, e1, ?_, q, rfl, f1, k⟩
      rcases h2 with rfl | rfl <;> simp only [iSeq, a, take]
    | nw b0 d0 =>
      obtain ⟨b', rfl, q⟩ := g
      cases h1
      exact ⟨b, b', ds, none, none, E1, e1, by simp only [iSeq, a, take], q, rfl, f1, k⟩
    | ex d0 =>
      rw [show t = _ from g] at a
      obtain ⟨h2, h3, h4, h5⟩ := seqOf_some h1
      simp only at h2 h3 h4 h5
      subst h3 h4 h5
      refine ⟨true, true, ds, none, none, E2, e1, ?_, fun _ => rfl, rfl, f1, k⟩
      rcases h2 with rfl | rfl <;> simp only [iSeq, a, take]
    | sl i =>
      rw [show t = _ from g] at a
      simp only [seqE] at h1
      cases q : E1[i]? with
      | none => rw [q] at h1; cases h1
      | some s =>
        rw [q] at h1
        obtain ⟨s', g1, g2⟩ := f1.get q
        cases s with
        | own p b0 xs =>
          obtain ⟨b', rfl, q2⟩ := g2
          cases h1
          exact ⟨b, b', ds, some (i, p, b, ds), some (i, p, b', ds), _, e1.set i .lent, by simp only [iSeq, a, g1], q2, ⟨b', rfl, q2⟩, f1.set (d := .lent) (s := .lent) rfl, k⟩
        | fro b0 d0 =>
          obtain ⟨b', rfl, q2⟩ := g2
          obtain ⟨h2, h3, h4, h5⟩ := seqOf_some h1
          simp only at h2 h3 h4 h5
          subst h3 h4 h5
          refine ⟨b, b', ds, none, none, E2, e1, ?_, q2, rfl, f1, k⟩
          rcases h2 with rfl | rfl <;> simp only [iSeq, a, g1]
        | ex d0 =>
          rw [show s' = _ from g2] at g1
          obtain ⟨h2, h3, h4, h5⟩ := seqOf_some h1
          simp only at h2 h3 h4 h5
          subst h3 h4 h5
          refine ⟨true, true, ds, none, none, _, e1.set i (.fro true d0), ?_, fun _ => rfl, rfl, f1.set (d := .fro true d0) ⟨true, rfl, fun _ => rfl⟩, k⟩
          rcases h2 with rfl | rfl <;> simp only [iSeq, a, g1]
        | _ => cases h1
def irange (lo : Int) (n : Nat) : List Int := (List.range n).map fun k => lo + (k : Nat)
theorem ints_eq (lo : Int) (n : Nat) : DL.intsOf lo n = (irange lo n).map PySem.PyData.int := by
  unfold DL.intsOf irange
  rw [List.map_map]
  rfl
def rng1 (n : Int) : M (List Int) := match smallI n with
  | true => .ok (irange 0 n.toNat)
  | false => .bad
def rng2 (i j : Int) : M (List Int) := match smallI i && smallI j with
  | true => .ok (irange i (j - i).toNat)
  | false => .bad
theorem wi_range1 {fs : List DE} (h : WA fs E m (fun tds E1 m1 => ∃ (n : Int) (kk : List Int → M ρ), m1 = M.bind (rng1 n) kk ∧ rdsE E1 tds = some [.int n] ∧ ∀ xs : List Int, PI true (xs.map PySem.PyData.int) none E1 (kk xs)) X) : WI (iRange fs) E m PI X := fun e fe =>
  h.then fe (fun z => .inl z) (fun c E' e' a b fx xx => .inr (.inl ⟨c, E', e', by simp only [iRange, a], b, fx, xx⟩)) fun tds ts E1 e1 a g f1 ⟨n, kk, h0, h1, k⟩ => by
    have r := rdsE_ok f1 g h1
    cases q : smallI n with
    | false => exact .inl (by rw [h0]; simp only [rng1, q]; rfl)
    | true =>
      refine .inr (.inr ⟨true, true, DL.intsOf 0 n.toNat, none, none, E1, e1, by simp only [iRange, a, r, q], fun _ => rfl, rfl, f1, ?_⟩)
      rw [ints_eq, h0]
      simp only [rng1, q]
      exact k _
theorem wi_range2 {fs : List DE} (h : WA fs E m (fun tds E1 m1 => ∃ (i j : Int) (kk : List Int → M ρ), m1 = M.bind (rng2 i j) kk ∧ rdsE E1 tds = some [.int i, .int j] ∧ ∀ xs : List Int, PI true (xs.map PySem.PyData.int) none E1 (kk xs)) X) : WI (iRange fs) E m PI X := fun e fe =>
  h.then fe (fun z => .inl z) (fun c E' e' a b fx xx => .inr (.inl ⟨c, E', e', by simp only [iRange, a], b, fx, xx⟩)) fun tds ts E1 e1 a g f1 ⟨i, j, kk, h0, h1, k⟩ => by
    have r := rdsE_ok f1 g h1
    cases q : smallI i && smallI j with
    | false => exact .inl (by rw [h0]; simp only [rng2, q]; rfl)
    | true =>
      refine .inr (.inr ⟨true, true, DL.intsOf i (j - i).toNat, none, none, E1, e1, by simp only [iRange, a, r, q], fun _ => rfl, rfl, f1, ?_⟩)
      rw [ints_eq, h0]
      simp only [rng2, q]
      exact k _
abbrev e2 {α β : Type} (f : α → D) (g : β → D) (x : α × β) : D := .tuple [f x.1, g x.2]
abbrev e3 {α β γ : Type} (f : α → D) (g : β → D) (h : γ → D) (x : α × β × γ) : D := .tuple [f x.1, g x.2.1, h x.2.2]
abbrev e4 {α β γ δ : Type} (f : α → D) (g : β → D) (h : γ → D) (i : δ → D) (x : α × β × γ × δ) : D := .tuple [f x.1, g x.2.1, h x.2.2.1, i x.2.2.2]
abbrev eL {α : Type} (f : α → D) (xs : List α) : D := .list (xs.map f)
abbrev v1 {α : Type} (f : α → D) (x : α) : D := .list [f x]
abbrev v2 {α β : Type} (f : α → D) (g : β → D) (x : α × β) : D := .list [f x.1, g x.2]
abbrev v3 {α β γ : Type} (f : α → D) (g : β → D) (h : γ → D) (x : α × β × γ) : D := .list [f x.1, g x.2.1, h x.2.2]
def eO {α : Type} (f : α → D) : Option α → D
  | none => .none
  | some x => f x
abbrev eD (d : D) : D := d
abbrev eU (_ : Unit) : D := .none
def giveE (E : ES) : Lend → Option ES
  | none => some E
  | some (i, p, b, xs) => match E[i]? with
    | some .lent => some (E.set i (.own p b xs))
    | _ => none
def Gave (E' : ES) (e : Env) : Lend → Prop
  | none => Fit E' e
  | some (i, p, b, xs) => ∃ e', giveBack i p b xs e = some e' ∧ Fit E' e'
theorem giveE_ok {w w' : Lend} {E E' : ES} {e : Env} (f : Fit E e) (l : LdLe w w') (h : giveE E w = some E') : Gave E' e w' := by
  cases w with
  | none =>
    rw [show w' = none from l]
    cases h
    exact f
  | some z =>
    obtain ⟨i, p, b, xs⟩ := z
    obtain ⟨b', rfl, q⟩ := l
    simp only [giveE] at h
    cases q1 : E[i]? with
    | none => rw [q1] at h; cases h
    | some s =>
      rw [q1] at h
      obtain ⟨s', g1, g2⟩ := f.get q1
      cases s with
      | lent =>
        cases h
        rw [show s' = _ from g2] at g1
        exact ⟨e.set i (.own p b' xs), by simp only [giveBack, g1], f.set (d := .own p b xs) ⟨b', rfl, q⟩⟩
      | _ => cases h
inductive Lp (σ τ : Type) where
  | nx (s : σ)
  | bk (s : σ)
  | ex (t : τ)
def forS {α σ : Type} (f : α → σ → M σ) : List α → σ → M σ
  | [], s => .ok s
  | x :: xs, s => match f x s with
    | .ok s' => forS f xs s'
    | .exc c => .exc c
    | .bad => .bad
def forX {α σ τ : Type} (f : α → σ → M (Lp σ τ)) : List α → σ → M (σ ⊕ τ)
  | [], s => .ok (.inl s)
  | x :: xs, s => match f x s with
    | .ok (.nx s') => forX f xs s'
    | .ok (.bk s') => .ok (.inl s')
    | .ok (.ex t) => .ok (.inr t)
    | .exc c => .exc c
    | .bad => .bad
def liftS {α σ τ : Type} (f : α → σ → M σ) : α → σ → M (Lp σ τ) := fun x s => M.bind (f x s) fun s' => .ok (.nx s')
theorem forX_lift {α σ τ : Type} (f : α → σ → M σ) : ∀ (xs : List α) (s : σ), forX (τ := τ) (liftS f) xs s = M.bind (forS f xs s) fun s => .ok (.inl s)
  | [], s => rfl
  | x :: xs, s => by
    unfold forX forS liftS
    cases f x s with
    | ok s' => exact forX_lift f xs s'
    | exc c => rfl
    | bad => rfl
def XB (w : Lend) (X : XC) : XC := fun c E => ∃ E', giveE E w = some E' ∧ X c E'
def PLp {σ : Type} (w : Lend) (L : σ → ES) (Q : PK ρ) : PK (Lp σ ρ) where
  nx E n := ∃ v, n = .ok (.nx v) ∧ LeE (L v) E
  ct E n := ∃ v, n = .ok (.nx v) ∧ LeE (L v) E
  bk E n := ∃ v, n = .ok (.bk v) ∧ LeE (L v) E
  rt td E n := ∃ r E', n = .ok (.ex r) ∧ giveE E w = some E' ∧ Q.rt td E' (.ok r)
theorem forL_ok {α σ : Type} {enc : α → D} {t : Tg} {body : DS} {b b' : Bool} {L : σ → ES} {w : Lend} {f : α → σ → M (Lp σ ρ)} (hb : b = true → b' = true)
    (hs : ∀ x s, ∃ E2, bindE t b (enc x) (L s) = some E2 ∧ WS body E2 (f x s) (PLp w L Q) (XB w X)) : ∀ (xs : List α) (s : σ) (e : Env), Fit (L s) e →
    forX f xs s = .bad ∨ (∃ c E' e', forL t body b' (xs.map enc) e = .exc c e' ∧ forX f xs s = .exc c ∧ Fit E' e' ∧ XB w X c E') ∨ (∃ s' e', forL t body b' (xs.map enc) e = .nx e' ∧ Fit (L s') e' ∧ forX f xs s = .ok (.inl s')) ∨
      (∃ td tk E' E'' e' r, forL t body b' (xs.map enc) e = .rt tk e' ∧ TFit td tk ∧ Fit E' e' ∧ giveE E' w = some E'' ∧ forX f xs s = .ok (.inr r) ∧ Q.rt td E'' (.ok r))
  | [], s, e, fe => .inr (.inr (.inl ⟨s, e, rfl, fe, rfl⟩))
  | x :: xs, s, e, fe => by
    obtain ⟨E2, h1, h2⟩ := hs x s
    obtain ⟨e2, g1, f2⟩ := bindE_ok hb fe h1
    refine h2.then f2 (fun z => .inl (by simp only [forX, z])) (fun c E' e' a b fx xx => .inr (.inl ⟨c, E', e', by simp only [List.map_cons, forL, g1, a], by simp only [forX, b], fx, xx⟩)) (fun E3 e3 a f3 ⟨v, hv, le⟩ => ?_) (fun td tk E3 e3 a g f3 ⟨r, E4, hv, hg, k⟩ => ?_) (fun E3 e3 a f3 ⟨v, hv, le⟩ => ?_) (fun E3 e3 a f3 ⟨v, hv, le⟩ => ?_)
    · have e1 : forX f (x :: xs) s = forX f xs v := by simp only [forX, hv]
      have e2 : forL t body b' ((x :: xs).map enc) e = forL t body b' (xs.map enc) e3 := by simp only [List.map_cons, forL, g1, a]
      rw [e1, e2]
      exact forL_ok hb hs xs v e3 (le.fit f3)
    · exact .inr (.inr (.inr ⟨td, tk, E3, E4, e3, r, by simp only [List.map_cons, forL, g1, a], g, f3, hg, by simp only [forX, hv], k⟩))
    · exact .inr (.inr (.inl ⟨v, e3, by simp only [List.map_cons, forL, g1, a], le.fit f3, by simp only [forX, hv]⟩))
    · have e1 : forX f (x :: xs) s = forX f xs v := by simp only [forX, hv]
      have e2 : forL t body b' ((x :: xs).map enc) e = forL t body b' (xs.map enc) e3 := by simp only [List.map_cons, forL, g1, a]
      rw [e1, e2]
      exact forL_ok hb hs xs v e3 (le.fit f3)
theorem ws_forX {α σ : Type} {enc : α → D} {t : Tg} {src : DI} {body : DS}
    (h : WI src E m (fun b ds w E1 m1 => ∃ (L : σ → ES) (xs : List α) (s0 : σ) (f : α → σ → M (Lp σ ρ)) (kk : σ → M ρ), m1 = M.orRet (forX f xs s0) kk ∧ ds = xs.map enc ∧ LeE (L s0) E1 ∧ (∀ x s, ∃ E2, bindE t b (enc x) (L s) = some E2 ∧ WS body E2 (f x s) (PLp w L Q) (XB w X)) ∧ ∀ s, ∃ E4, giveE (L s) w = some E4 ∧ Q.nx E4 (kk s)) X) : WS (sFor t src body) E m Q X := fun e fe => by
  refine h.then fe (fun z => .inl z) (fun c E' e' a b fx xx => .inr (.inl ⟨c, E', e', by simp only [sFor, a], b, fx, xx⟩)) ?_
  rintro b b' ds w w' E1 e1 a q1 q2 f1 ⟨L, xs, s0, f, kk, h0, rfl, h2, h3, h4⟩
  have key := forL_ok (Q := Q) (X := X) q1 h3 xs s0 e1 (h2.fit f1)
  have give : ∀ {E3 E4 : ES} {e3 : Env} {o : Env → DL.Out}, (∀ i p b xs e, unlendO i p b xs (o e) = match giveBack i p b xs e with | some e1 => o e1 | none => .bad) → Fit E3 e3 → giveE E3 w = some E4 → forL t body b' (xs.map enc) e1 = o e3 → ∃ e4, sFor t src body e = o e4 ∧ Fit E4 e4 := fun {E3 E4 e3 o} ho f3 hg hf => by
    have gk := giveE_ok f3 q2 hg
    cases w' with
    | none => exact ⟨e3, by simp only [sFor, a, hf], gk⟩
    | some z =>
      obtain ⟨i, p, b, ys⟩ := z
      obtain ⟨e4, g1, g2⟩ := gk
      refine ⟨e4, ?_, g2⟩
      simp only [sFor, a, hf, ho, g1]
  rcases key with z | ⟨c, E', e', z1, z2, z3, E4, z4, z5⟩ | ⟨s', e', z1, z2, z3⟩ | ⟨td, tk, E', E'', e', r, z1, z2, z3, z4, z5, z6⟩
  · exact .inl (by rw [h0, z]; rfl)
  · obtain ⟨e4, g1, g2⟩ := give (o := fun e => .exc c e) (fun _ _ _ _ _ => rfl) z3 z4 z1
    exact .inr (.inl ⟨c, E4, e4, g1, by rw [h0, z2]; rfl, g2, z5⟩)
  · obtain ⟨E4, k1, k2⟩ := h4 s'
    obtain ⟨e4, g1, g2⟩ := give (o := fun e => .nx e) (fun _ _ _ _ _ => rfl) z2 k1 z1
    exact .inr (.inr (.inl ⟨E4, e4, g1, g2, by rw [h0, z3]; exact k2⟩))
  · obtain ⟨e4, g1, g2⟩ := give (o := fun e => .rt tk e) (fun _ _ _ _ _ => rfl) z3 z4 z1
    exact .inr (.inr (.inr (.inl ⟨td, tk, E'', e4, g1, z2, g2, by rw [h0, z5]; exact z6⟩)))
def PSt {σ : Type} (L : σ → ES) : PK σ where
  nx E n := ∃ v, n = .ok v ∧ LeE (L v) E
  ct E n := ∃ v, n = .ok v ∧ LeE (L v) E
  bk _ _ := False
  rt _ _ _ := False
theorem ws_forS {α σ : Type} {enc : α → D} {t : Tg} {src : DI} {body : DS}
    (h : WI src E m (fun b ds w E1 m1 => ∃ (L : σ → ES) (xs : List α) (s0 : σ) (f : α → σ → M σ) (kk : σ → M ρ), m1 = M.bind (forS f xs s0) kk ∧ ds = xs.map enc ∧ LeE (L s0) E1 ∧ (∀ x s, ∃ E2, bindE t b (enc x) (L s) = some E2 ∧ WS body E2 (f x s) (PSt L) (XB w X)) ∧ ∀ s, ∃ E4, giveE (L s) w = some E4 ∧ Q.nx E4 (kk s)) X) : WS (sFor t src body) E m Q X :=
  ws_forX (enc := enc) (fun e fe => h.then fe (fun z => .inl z) (fun c E' e' a b fx xx => .inr (.inl ⟨c, E', e', a, b, fx, xx⟩)) (by
    rintro b b' ds w w' E1 e1 a q1 q2 f1 ⟨L, xs, s0, f, kk, h0, h1, h2, h3, h4⟩
    refine .inr (.inr ⟨b, b', ds, w, w', E1, e1, a, q1, q2, f1, L, xs, s0, liftS f, kk, ?_, h1, h2, fun x s => ?_, h4⟩)
    · rw [forX_lift, h0]
      cases forS f xs s0 <;> rfl
    · obtain ⟨E2, k1, k2⟩ := h3 x s
      refine ⟨E2, k1, fun e fe => k2.then fe (fun z => .inl (by simp only [liftS, z]; rfl)) (fun c E' e' a b fx xx => .inr (.inl ⟨c, E', e', a, by simp only [liftS, b]; rfl, fx, xx⟩)) (fun E1 e1 a f1 ⟨v, hv, le⟩ => .inr (.inr (.inl ⟨E1, e1, a, f1, v, by simp only [liftS, hv]; rfl, le⟩))) (fun _ _ _ _ _ _ _ k => k.elim) (fun _ _ _ _ k => k.elim) (fun E1 e1 a f1 ⟨v, hv, le⟩ => .inr (.inr (.inr (.inr (.inr ⟨E1, e1, a, f1, v, by simp only [liftS, hv]; rfl, le⟩)))))⟩))
def whX {σ τ : Type} (c : σ → M Bool) (f : σ → M (Lp σ τ)) : Nat → σ → M (σ ⊕ τ)
  | 0, _ => .bad
  | n + 1, s => match c s with
    | .ok true => match f s with
      | .ok (.nx s') => whX c f n s'
      | .ok (.bk s') => .ok (.inl s')
      | .ok (.ex t) => .ok (.inr t)
      | .exc c => .exc c
      | .bad => .bad
    | .ok false => .ok (.inl s)
    | .exc c => .exc c
    | .bad => .bad
def fuelW : Nat := 1000000
theorem whileL_ok {σ : Type} {c : DT} {body : DS} {L : σ → ES} {cm : σ → M Bool} {f : σ → M (Lp σ ρ)}
    (hc : ∀ s, WT c (L s) (cm s) (fun b E1 m1 => m1 = .ok b ∧ E1 = L s) X) (hs : ∀ s, WS body (L s) (f s) (PLp none L Q) X) : ∀ (n : Nat) (s : σ) (e : Env), Fit (L s) e →
    whX cm f n s = .bad ∨ (∃ x E' e', whileL c body n e = .exc x e' ∧ whX cm f n s = .exc x ∧ Fit E' e' ∧ X x E') ∨ (∃ s' e', whileL c body n e = .nx e' ∧ Fit (L s') e' ∧ whX cm f n s = .ok (.inl s')) ∨
      (∃ td tk E' e' r, whileL c body n e = .rt tk e' ∧ TFit td tk ∧ Fit E' e' ∧ whX cm f n s = .ok (.inr r) ∧ Q.rt td E' (.ok r))
  | 0, s, e, fe => .inl rfl
  | n + 1, s, e, fe => by
    refine (hc s).then fe (fun z => .inl (by simp only [whX, z])) (fun x E' e' a b fx xx => .inr (.inl ⟨x, E', e', by simp only [whileL, a], by simp only [whX, b], fx, xx⟩)) fun b E1 e1 a f1 ⟨hm, hE⟩ => ?_
    subst hE
    cases b with
    | false => exact .inr (.inr (.inl ⟨s, e1, by simp only [whileL, a], f1, by simp only [whX, hm]⟩))
    | true =>
      refine (hs s).then f1 (fun z => .inl (by simp only [whX, hm, z])) (fun x E' e' a2 b fx xx => .inr (.inl ⟨x, E', e', by simp only [whileL, a, a2], by simp only [whX, hm, b], fx, xx⟩)) (fun E3 e3 a2 f3 ⟨v, hv, le⟩ => ?_) (fun td tk E3 e3 a2 g f3 ⟨r, E4, hv, hg, k⟩ => ?_) (fun E3 e3 a2 f3 ⟨v, hv, le⟩ => ?_) (fun E3 e3 a2 f3 ⟨v, hv, le⟩ => ?_)
      · have z1 : whX cm f (n + 1) s = whX cm f n v := by simp only [whX, hm, hv]
        have z2 : whileL c body (n + 1) e = whileL c body n e3 := by simp only [whileL, a, a2]
        rw [z1, z2]
        exact whileL_ok hc hs n v e3 (le.fit f3)
      · cases hg
        exact .inr (.inr (.inr ⟨td, tk, E3, e3, r, by simp only [whileL, a, a2], g, f3, by simp only [whX, hm, hv], k⟩))
      · exact .inr (.inr (.inl ⟨v, e3, by simp only [whileL, a, a2], le.fit f3, by simp only [whX, hm, hv]⟩))
      · have z1 : whX cm f (n + 1) s = whX cm f n v := by simp only [whX, hm, hv]
        have z2 : whileL c body (n + 1) e = whileL c body n e3 := by simp only [whileL, a, a2]
        rw [z1, z2]
        exact whileL_ok hc hs n v e3 (le.fit f3)
theorem ws_while {σ : Type} (L : σ → ES) {s0 : σ} {cm : σ → M Bool} {f : σ → M (Lp σ ρ)} {kk : σ → M ρ} {c : DT} {body : DS} (h0 : m = M.orRet (whX cm f fuelW s0) kk) (h2 : LeE (L s0) E)
    (hc : ∀ s, WT c (L s) (cm s) (fun b E1 m1 => m1 = .ok b ∧ E1 = L s) X) (hs : ∀ s, WS body (L s) (f s) (PLp none L Q) X) (k : ∀ s, Q.nx (L s) (kk s)) : WS (sWhile c body) E m Q X := fun e fe => by
  rcases whileL_ok (Q := Q) (X := X) hc hs fuelW s0 e (h2.fit fe) with z | ⟨x, E', e', z1, z2, z3, z4⟩ | ⟨s', e', z1, z2, z3⟩ | ⟨td, tk, E', e', r, z1, z2, z3, z4, z5⟩
  · exact .inl (by rw [h0, z]; rfl)
  · exact .inr (.inl ⟨x, E', e', z1, by rw [h0, z2]; rfl, z3, z4⟩)
  · exact .inr (.inr (.inl ⟨L s', e', z1, z2, by rw [h0, z3]; exact k s'⟩))
  · exact .inr (.inr (.inr (.inl ⟨td, tk, E', e', z1, z2, z3, by rw [h0, z4]; exact z5⟩)))
end
end TS
namespace TS
open DL
def wipeES (E : ES) : List Nat → ES
  | [] => E
  | v :: vs => (wipeES E vs).set v .un
def unwipeES (E E0 : ES) : List Nat → ES
  | [] => E
  | v :: vs => (unwipeES E E0 vs).set v (E0[v]?.getD .un)
def plainAtE (E : ES) : List Nat → Bool
  | [] => true
  | v :: vs => (match E[v]? with
    | some s => plainS s
    | none => true) && plainAtE E vs
theorem Fit.wipe {E : ES} {e : Env} (f : Fit E e) : ∀ own : List Nat, Fit (wipeES E own) (wipeE e own)
  | [] => f
  | v :: vs => (Fit.wipe f vs).set (d := .un) rfl
theorem Fit.getN {E : ES} {e : Env} {i : Nat} (f : Fit E e) (h : E[i]? = none) : e[i]? = none := by
  rw [List.getElem?_eq_none_iff] at h ⊢
  rw [← f.len]
  exact h
theorem Fit.unwipe {E E0 : ES} {e e0 : Env} (f : Fit E e) (f0 : Fit E0 e0) : ∀ own : List Nat, Fit (unwipeES E E0 own) (unwipeE e e0 own)
  | [] => f
  | v :: vs => by
    refine (Fit.unwipe f f0 vs).set ?_
    cases h : E0[v]? with
    | none => rw [f0.getN h]; exact rfl
    | some s =>
      obtain ⟨s', h1, h2⟩ := f0.get h
      rw [h1]
      exact h2
theorem plainAtE_ok {E : ES} {e : Env} (f : Fit E e) : ∀ {own : List Nat}, plainAtE E own = true → plainAt e own = true
  | [], _ => rfl
  | v :: vs, h => by
    simp only [plainAtE, Bool.and_eq_true] at h
    simp only [plainAt, Bool.and_eq_true]
    refine ⟨?_, plainAtE_ok f h.2⟩
    cases q : E[v]? with
    | none => rw [f.getN q]
    | some s =>
      have h1 := h.1
      rw [q] at h1
      obtain ⟨s', g1, g2⟩ := f.get q
      rw [g1]
      cases s with
      | un => rw [show s' = _ from g2]
      | pl => rcases g2 with rfl | ⟨b, d, rfl⟩ <;> rfl
      | fro b d => obtain ⟨b', rfl, _⟩ := g2; rfl
      | _ => cases h1
def filM {α β σ : Type} (f : α → σ → M (Option β × σ)) : List α → σ → M (List β × σ)
  | [], s => .ok ([], s)
  | x :: xs, s => match f x s with
    | .ok (o, s') => match filM f xs s' with
      | .ok (ys, s2) => .ok (match o with | some y => y :: ys | none => ys, s2)
      | _ => .bad
    | _ => .bad
def big (n : Nat) : Bool := decide (n ≤ 16777216)
def filF {α β σ : Type} (f : α → σ → M (Option β × σ)) (xs : List α) (s : σ) : M (List β × σ) := match big xs.length with
  | true => filM f xs s
  | false => .bad
section
variable {ρ : Type} {E : ES} {m : M ρ} {X : XC} {P : TD → ES → M ρ → Prop} {PL : List TD → ES → M ρ → Prop} {PB : Bool → ES → M ρ → Prop} {Q : PK ρ} {PI : Bool → List D → Lend → ES → M ρ → Prop}
def BodyF {β σ : Type} (own : List Nat) (tt : DT) (el : DE) (enc2 : β → D) (bt : Bool) (L : σ → ES) (E2 : ES) (n : M (Option β × σ)) : Prop :=
  WT tt E2 n (fun c E3 n3 => ∃ na nb, n3 = cond c na nb ∧ (c = false → ∃ s1, nb = .ok (none, s1) ∧ LeE (L s1) (wipeES E3 own)) ∧ (c = true → WE el E3 na (fun td E4 n4 => ∃ v s' E5, takeE E4 td = some (bt, enc2 v, E5) ∧ n4 = .ok (some v, s') ∧ LeE (L s') (wipeES E5 own)) NX)) NX
theorem compL_ok {α β σ : Type} {own : List Nat} {enc : α → D} {enc2 : β → D} {t : Tg} {tt : DT} {el : DE} {b b' bt : Bool} {L : σ → ES} {f : α → σ → M (Option β × σ)} (hb : b = true → b' = true)
    (hs : ∀ x s, ∃ E2, bindE t b (enc x) (L s) = some E2 ∧ BodyF own tt el enc2 bt L E2 (f x s)) : ∀ (xs : List α) (s : σ) (e : Env) (acc : List (Bool × D)), Fit (L s) e →
    filM f xs s = .bad ∨ ∃ ys s' e' ps, compL own t tt el b' (xs.map enc) acc e = .ok (acc ++ ps) e' ∧ ps.map (·.2) = ys.map enc2 ∧ (bt = true → ∀ p ∈ ps, p.1 = true) ∧ Fit (L s') e' ∧ filM f xs s = .ok (ys, s')
  | [], s, e, acc, fe => .inr ⟨[], s, e, [], by simp [compL], rfl, fun _ p hp => by simp at hp, fe, rfl⟩
  | x :: xs, s, e, acc, fe => by
    obtain ⟨E2, h1, h2⟩ := hs x s
    obtain ⟨e2, g1, f2⟩ := bindE_ok hb fe h1
    refine h2.then f2 (fun z => .inl (by simp only [filM, z])) (fun c E' e' a b fx xx => .inl (by simp only [filM, b])) fun c E3 e3 a f3 ⟨na, nb, hn, hz, hw⟩ => ?_
    cases c with
    | false =>
      obtain ⟨s1, hz, le⟩ := hz rfl
      have hf : f x s = .ok (none, s1) := by rw [← hz]; exact hn
      rcases compL_ok hb hs xs s1 (wipeE e3 own) acc (le.fit (f3.wipe own)) with z | ⟨ys, s', e', ps, k1, k2, k3, k4, k5⟩
      · exact .inl (by simp only [filM, hf, z])
      · exact .inr ⟨ys, s', e', ps, by simp only [List.map_cons, compL, g1, a, k1], k2, k3, k4, by simp only [filM, hf, k5]⟩
    | true =>
      have hf : f x s = na := hn
      refine (hw rfl).then f3 (fun z => .inl (by simp only [filM, hf, z])) (fun c E' e' a b fx xx => .inl (by simp only [filM, hf, b])) fun td tk E4 e4 a4 g4 f4 ⟨v, s', E5, h5, h6, h7⟩ => ?_
      obtain ⟨bt', e5, t1, t2, f5⟩ := takeE_ok f4 g4 h5
      rcases compL_ok hb hs xs s' (wipeE e5 own) (acc ++ [(bt', enc2 v)]) (h7.fit (f5.wipe own)) with z | ⟨ys, s2, e', ps, k1, k2, k3, k4, k5⟩
      · exact .inl (by simp only [filM, hf, h6, z])
      · refine .inr ⟨v :: ys, s2, e', (bt', enc2 v) :: ps, ?_, by rw [List.map_cons, List.map_cons, k2], fun hbt p hp => ?_, k4, by simp only [filM, hf, h6, k5]⟩
        · simp only [List.map_cons, compL, g1, a, a4, t1, k1, List.append_assoc, List.cons_append, List.nil_append]
        · rcases List.mem_cons.mp hp with rfl | hp
          · exact t2 hbt
          · exact k3 hbt p hp
theorem we_filF {α β σ : Type} {enc : α → D} {enc2 : β → D} {bt : Bool} {own : List Nat} {t : Tg} {src : DI} {tt : DT} {el : DE}
    (h : WI src E m (fun b ds w E1 m1 => ∃ (L : σ → ES) (xs : List α) (s0 : σ) (f : α → σ → M (Option β × σ)) (kk : List β × σ → M ρ), m1 = M.bind (filF f xs s0) kk ∧ ds = xs.map enc ∧ plainAtE E1 own = true ∧ LeE (L s0) (wipeES E1 own) ∧ (∀ x s, ∃ E2, bindE t b (enc x) (L s) = some E2 ∧ BodyF own tt el enc2 bt L E2 (f x s)) ∧ ∀ ys s, ∃ E6, giveE (unwipeES (L s) E1 own) w = some E6 ∧ P (.nw bt (ys.map enc2)) E6 (kk (ys, s))) X) : WE (eComp own t src tt el) E m P X := fun e fe => by
  refine h.then fe (fun z => .inl z) (fun c E' e' a b fx xx => .inr (.inl ⟨c, E', e', by simp only [eComp, a], b, fx, xx⟩)) ?_
  rintro b b' ds w w' E1 e1 a q1 q2 f1 ⟨L, xs, s0, f, kk, h0, rfl, h1, h2, h3, h4⟩
  cases hl : big xs.length with
  | false => exact .inl (by rw [h0]; simp only [filF, hl]; rfl)
  | true =>
    have hg : (decide ((xs.map enc).length ≤ 16777216) && plainAt e1 own) = true := by
      rw [List.length_map, plainAtE_ok f1 h1]
      have : decide (xs.length ≤ 16777216) = true := hl
      rw [this]
      rfl
    rcases compL_ok (b' := b') q1 h3 xs s0 (wipeE e1 own) [] (h2.fit (f1.wipe own)) with z | ⟨ys, s', e', ps, k1, k2, k3, k4, k5⟩
    · exact .inl (by rw [h0]; simp only [filF, hl, z]; rfl)
    · rw [List.nil_append] at k1
      obtain ⟨E6, g1, k⟩ := h4 ys s'
      have gk := giveE_ok (k4.unwipe f1 own) q2 g1
      have hk : m = kk (ys, s') := by rw [h0]; simp only [filF, hl, k5]; rfl
      rw [← hk] at k
      have tf : TFit (.nw bt (ys.map enc2)) (.nw (tagAll ps) (ps.map (·.2))) := ⟨tagAll ps, by rw [k2], fun hbt => tagAll_true (k3 hbt)⟩
      cases w' with
      | none => exact .inr (.inr ⟨.nw bt (ys.map enc2), .nw (tagAll ps) (ps.map (·.2)), E6, unwipeE e' e1 own, by simp only [eComp, a, hg, k1], tf, gk, k⟩)
      | some z =>
        obtain ⟨i, p, b0, zs⟩ := z
        obtain ⟨e4, g4, f4⟩ := gk
        exact .inr (.inr ⟨.nw bt (ys.map enc2), .nw (tagAll ps) (ps.map (·.2)), E6, e4, by simp only [eComp, a, hg, k1, g4], tf, f4, k⟩)
def filL {α β : Type} (f : α → M (Option β)) : List α → M (List β)
  | [] => .ok []
  | x :: xs => match f x with
    | .ok o => match filL f xs with
      | .ok ys => .ok (match o with | some y => y :: ys | none => ys)
      | _ => .bad
    | _ => .bad
def filU {α β : Type} (f : α → M (Option β)) (xs : List α) : M (List β) := match big xs.length with
  | true => filL f xs
  | false => .bad
def mapL {α β : Type} (f : α → M β) : List α → M (List β)
  | [] => .ok []
  | x :: xs => match f x with
    | .ok y => match mapL f xs with
      | .ok ys => .ok (y :: ys)
      | _ => .bad
    | _ => .bad
def mapU {α β : Type} (f : α → M β) (xs : List α) : M (List β) := match big xs.length with
  | true => mapL f xs
  | false => .bad
theorem filM_filL {α β : Type} {f : α → M (Option β)} {g : α → Unit → M (Option β × Unit)} (h : ∀ x s, g x s = M.bind (f x) fun p => .ok (p, s)) : ∀ (xs : List α) (s : Unit), filM g xs s = M.bind (filL f xs) fun ys => .ok (ys, ())
  | [], s => rfl
  | x :: xs, s => by
    simp only [filM, filL, h x s]
    cases f x with
    | ok p => simp only [M.bind, filM_filL h xs s]; cases filL f xs <;> rfl
    | exc c => rfl
    | bad => rfl
theorem filM_mapL {α β : Type} {f : α → M β} {g : α → Unit → M (Option β × Unit)} (h : ∀ x s, g x s = M.bind (f x) fun p => .ok (some p, s)) : ∀ (xs : List α) (s : Unit), filM g xs s = M.bind (mapL f xs) fun ys => .ok (ys, ())
  | [], s => rfl
  | x :: xs, s => by
    simp only [filM, mapL, h x s]
    cases f x with
    | ok p => simp only [M.bind, filM_mapL h xs s]; cases mapL f xs <;> rfl
    | exc c => rfl
    | bad => rfl
theorem WE.bind {τ : Type} {f : DE} {g : ρ → M τ} {P' : TD → ES → M τ → Prop} (h : WE f E m P X) (k : ∀ td E1, P td E1 m → P' td E1 (M.bind m g)) : WE f E (M.bind m g) P' X := fun e fe =>
  h.then fe (fun z => .inl (by rw [z]; rfl)) (fun c E' e' a b fx xx => .inr (.inl ⟨c, E', e', a, by rw [b]; rfl, fx, xx⟩)) fun td t E' e' a g1 f1 k1 => .inr (.inr ⟨td, t, E', e', a, g1, f1, k _ _ k1⟩)
theorem WT.bind {τ : Type} {f : DT} {g : ρ → M τ} {P' : Bool → ES → M τ → Prop} (h : WT f E m PB X) (k : ∀ td E1, PB td E1 m → P' td E1 (M.bind m g)) : WT f E (M.bind m g) P' X := fun e fe =>
  h.then fe (fun z => .inl (by rw [z]; rfl)) (fun c E' e' a b fx xx => .inr (.inl ⟨c, E', e', a, by rw [b]; rfl, fx, xx⟩)) fun td E' e' a f1 k1 => .inr (.inr ⟨td, E', e', a, f1, k _ _ k1⟩)
theorem WI.imp {f : DI} {PI' : Bool → List D → Lend → ES → M ρ → Prop} (h : WI f E m PI X) (k : ∀ b ds w E1, PI b ds w E1 m → PI' b ds w E1 m) : WI f E m PI' X := fun e fe =>
  h.then fe (fun z => .inl z) (fun c E' e' a b fx xx => .inr (.inl ⟨c, E', e', a, b, fx, xx⟩)) fun b b' ds w w' E' e' a q1 q2 f1 k1 => .inr (.inr ⟨b, b', ds, w, w', E', e', a, q1, q2, f1, k _ _ _ _ k1⟩)
def BodyU {β : Type} (own : List Nat) (tt : DT) (el : DE) (enc2 : β → D) (bt : Bool) (L : ES) (E2 : ES) (n : M (Option β)) : Prop :=
  WT tt E2 n (fun c E3 n3 => ∃ na nb, n3 = cond c na nb ∧ (c = false → nb = .ok none ∧ LeE L (wipeES E3 own)) ∧ (c = true → WE el E3 na (fun td E4 n4 => ∃ v E5, takeE E4 td = some (bt, enc2 v, E5) ∧ n4 = .ok (some v) ∧ LeE L (wipeES E5 own)) NX)) NX
theorem we_filU {α β : Type} {enc : α → D} {enc2 : β → D} {bt : Bool} {own : List Nat} {t : Tg} {src : DI} {tt : DT} {el : DE}
    (h : WI src E m (fun b ds w E1 m1 => ∃ (L : ES) (xs : List α) (f : α → M (Option β)) (kk : List β → M ρ), m1 = M.bind (filU f xs) kk ∧ ds = xs.map enc ∧ plainAtE E1 own = true ∧ LeE L (wipeES E1 own) ∧ (∀ x, ∃ E2, bindE t b (enc x) L = some E2 ∧ BodyU own tt el enc2 bt L E2 (f x)) ∧ ∀ ys, ∃ E6, giveE (unwipeES L E1 own) w = some E6 ∧ P (.nw bt (ys.map enc2)) E6 (kk ys)) X) : WE (eComp own t src tt el) E m P X :=
  we_filF (enc := enc) (enc2 := enc2) (bt := bt) (h.imp fun b ds w E1 ⟨L, xs, f, kk, h0, h1, h2, h3, h4, h5⟩ => ⟨fun _ => L, xs, (), fun x s => M.bind (f x) fun p => .ok (p, s), fun p => kk p.1, by
    rw [h0]
    unfold filU filF
    cases big xs.length with
    | true =>
      simp only [filM_filL (f := f) fun _ _ => rfl]
      cases filL f xs <;> rfl
    | false => rfl, h1, h2, h3, fun x s => by
      obtain ⟨E2, k1, k2⟩ := h4 x
      refine ⟨E2, k1, k2.bind fun c E3 ⟨na, nb, q1, q2, q3⟩ => ⟨M.bind na fun p => .ok (p, s), M.bind nb fun p => .ok (p, s), ?_, fun hc => ⟨s, ?_, (q2 hc).2⟩, fun hc => (q3 hc).bind fun td E4 ⟨v, E5, r1, r2, r3⟩ => ⟨v, s, E5, r1, by rw [r2]; rfl, r3⟩⟩⟩
      · rw [q1]; cases c <;> rfl
      · rw [(q2 hc).1]; rfl, fun ys s => h5 ys⟩)
theorem we_mapU {α β : Type} {enc : α → D} {enc2 : β → D} {bt : Bool} {own : List Nat} {t : Tg} {src : DI} {el : DE}
    (h : WI src E m (fun b ds w E1 m1 => ∃ (L : ES) (xs : List α) (f : α → M β) (kk : List β → M ρ), m1 = M.bind (mapU f xs) kk ∧ ds = xs.map enc ∧ plainAtE E1 own = true ∧ LeE L (wipeES E1 own) ∧ (∀ x, ∃ E2, bindE t b (enc x) L = some E2 ∧ WE el E2 (f x) (fun td E4 n4 => ∃ v E5, takeE E4 td = some (bt, enc2 v, E5) ∧ n4 = .ok v ∧ LeE L (wipeES E5 own)) NX) ∧ ∀ ys, ∃ E6, giveE (unwipeES L E1 own) w = some E6 ∧ P (.nw bt (ys.map enc2)) E6 (kk ys)) X) : WE (eComp own t src dYes el) E m P X :=
  we_filF (enc := enc) (enc2 := enc2) (bt := bt) (h.imp fun b ds w E1 ⟨L, xs, f, kk, h0, h1, h2, h3, h4, h5⟩ => ⟨fun _ => L, xs, (), fun x s => M.bind (f x) fun p => .ok (some p, s), fun p => kk p.1, by
    rw [h0]
    unfold mapU filF
    cases big xs.length with
    | true =>
      simp only [filM_mapL (f := f) fun _ _ => rfl]
      cases mapL f xs <;> rfl
    | false => rfl, h1, h2, h3, fun x s => by
      obtain ⟨E2, k1, k2⟩ := h4 x
      exact ⟨E2, k1, wt_yes ⟨M.bind (f x) fun p => .ok (some p, s), .bad, rfl, fun z => (by cases z), fun _ => k2.bind fun td E4 ⟨v, E5, q1, q2, q3⟩ => ⟨v, s, E5, q1, by rw [q2]; rfl, q3⟩⟩⟩, fun ys s => h5 ys⟩)
end
end TS
namespace TS
open DL
def AFit : DL.Arg → DL.Arg → Prop
  | .v b d, a => ∃ b', a = .v b' d ∧ (b = true → b' = true)
  | .o b xs, a => ∃ b', a = .o b' xs ∧ (b = true → b' = true)
def AFits : List DL.Arg → List DL.Arg → Prop
  | [], as => as = []
  | x :: xs, as => ∃ a r, as = a :: r ∧ AFit x a ∧ AFits xs r
abbrev Outs := List (Option (Bool × List D))
def OFit : Option (Bool × List D) → Option (Bool × List D) → Prop
  | none, o => o = none
  | some (b, xs), o => ∃ b', o = some (b', xs) ∧ (b = true → b' = true)
def OFits : Outs → Outs → Prop
  | [], os => os = []
  | x :: xs, os => ∃ a r, os = a :: r ∧ OFit x a ∧ OFits xs r
def SimF {ρ : Type} (fn : Fn) (args : List DL.Arg) (m : M ρ) (res : ρ → TD) (outs : ρ → Outs) : Prop :=
  ∀ as, AFits args as → m = .bad ∨ (∃ c, fn as = .exc c ∧ m = .exc c) ∨ ∃ r t o, m = .ok r ∧ fn as = .ok t o ∧ TFit (res r) t ∧ OFits (outs r) o
theorem AFits.len : ∀ {xs as : List DL.Arg}, AFits xs as → xs.length = as.length
  | [], as, h => by rw [show as = [] from h]
  | x :: xs, as, h => by
    obtain ⟨a, r, rfl, _, h⟩ := h
    simp [AFits.len h]
def argE : DL.Arg → SD
  | .v b d => .fro b d
  | .o b xs => .own true b xs
theorem fit_args : ∀ {xs as : List DL.Arg} {n : Nat}, AFits xs as → Fit (xs.map argE ++ List.replicate n .un) (argEnv as ++ List.replicate n .un)
  | [], as, n, h => by
    rw [show as = [] from h]
    show Fit (List.replicate n .un) (List.replicate n .un)
    induction n with
    | zero => rfl
    | succ n ih => exact ⟨_, _, rfl, rfl, ih⟩
  | x :: xs, as, n, h => by
    obtain ⟨a, r, rfl, h1, h2⟩ := h
    refine ⟨argSlot a, argEnv r ++ List.replicate n .un, rfl, ?_, fit_args h2⟩
    cases x with
    | v b d => obtain ⟨b', rfl, q⟩ := h1; exact ⟨b', rfl, q⟩
    | o b d => obtain ⟨b', rfl, q⟩ := h1; exact ⟨b', rfl, q⟩
def resE (E : ES) : TD → Option TD
  | .sl i => match E[i]? with
    | some (.fro b d) => some (.fz b d)
    | some (.own false b xs) => some (.nw b xs)
    | some (.ex d) => some (.ex d)
    | _ => none
  | t => some t
theorem resE_ok {E : ES} {e : Env} {td td' : TD} {t : DL.Tok} (f : Fit E e) (g : TFit td t) (h : resE E td = some td') : ∃ t', resTok e t = some t' ∧ TFit td' t' := by
  cases td with
  | fz b d => obtain ⟨b', rfl, q⟩ := g; cases h; exact ⟨_, rfl, b', rfl, q⟩
  | nw b d => obtain ⟨b', rfl, q⟩ := g; cases h; exact ⟨_, rfl, b', rfl, q⟩
  | ex d => rw [show t = _ from g]; cases h; exact ⟨_, rfl, rfl⟩
  | sl i =>
    rw [show t = _ from g]
    simp only [resE] at h
    simp only [resTok]
    cases q : E[i]? with
    | none => rw [q] at h; cases h
    | some s =>
      rw [q] at h
      obtain ⟨s', g1, g2⟩ := f.get q
      rw [g1]
      cases s with
      | fro b d => obtain ⟨b', rfl, qq⟩ := g2; cases h; exact ⟨_, rfl, b', rfl, qq⟩
      | own p b d =>
        obtain ⟨b', rfl, qq⟩ := g2
        cases p with
        | true => cases h
        | false => cases h; exact ⟨_, rfl, b', rfl, qq⟩
      | ex d => rw [show s' = _ from g2]; cases h; exact ⟨_, rfl, rfl⟩
      | _ => cases h
def outsE (E : ES) : List DL.Arg → Nat → Option Outs
  | [], _ => some []
  | .v _ _ :: r, i => match outsE E r (i + 1) with
    | none => none
    | some l => some (none :: l)
  | .o _ _ :: r, i => match E[i]? with
    | some (.own true b xs) => match outsE E r (i + 1) with
      | none => none
      | some l => some (some (b, xs) :: l)
    | _ => none
theorem outsE_ok {E : ES} {e : Env} (f : Fit E e) : ∀ {xs as : List DL.Arg} {i : Nat} {l : Outs}, AFits xs as → outsE E xs i = some l → ∃ l', outsOf e as i = some l' ∧ OFits l l'
  | [], as, i, l, h, g => by
    rw [show as = [] from h]
    cases g
    exact ⟨[], rfl, rfl⟩
  | .v b d :: xs, as, i, l, h, g => by
    obtain ⟨a, r, rfl, ⟨b', rfl, _⟩, h2⟩ := h
    simp only [outsE] at g
    cases q : outsE E xs (i + 1) with
    | none => rw [q] at g; cases g
    | some l1 =>
      rw [q] at g
      cases g
      obtain ⟨l', k1, k2⟩ := outsE_ok f h2 q
      exact ⟨none :: l', by simp only [outsOf, k1], none, l', rfl, rfl, k2⟩
  | .o b d :: xs, as, i, l, h, g => by
    obtain ⟨a, r, rfl, ⟨b', rfl, _⟩, h2⟩ := h
    simp only [outsE] at g
    cases q0 : E[i]? with
    | none => rw [q0] at g; cases g
    | some s =>
      rw [q0] at g
      obtain ⟨s', g1, g2⟩ := f.get q0
      cases s with
      | own p c ys =>
        obtain ⟨c', rfl, qq⟩ := g2
        cases p with
        | false => cases g
        | true =>
          simp only at g
          cases q : outsE E xs (i + 1) with
          | none => rw [q] at g; cases g
          | some l1 =>
            rw [q] at g
            cases g
            obtain ⟨l', k1, k2⟩ := outsE_ok f h2 q
            exact ⟨some (c', ys) :: l', by simp only [outsOf, g1, k1], some (c', ys), l', rfl, ⟨c', rfl, qq⟩, k2⟩
      | _ => cases g
theorem simF_bad {ρ : Type} {fn : Fn} {args : List DL.Arg} {res : ρ → TD} {outs : ρ → Outs} : SimF fn args (.bad : M ρ) res outs := fun _ _ => .inl rfl
theorem simF_law {fn : Fn} {ns : List Int} {m : M Bool} (h : SimF fn [.v false (.list (ns.map PySem.PyData.int))] m (fun b => .fz true (.bool b)) (fun _ => [none])) (hm : m = .ok true) : ∃ outs, fn [.v false (.list (ns.map PySem.PyData.int))] = .ok (.fz true (.bool true)) outs := by
  rcases h [.v false (.list (ns.map PySem.PyData.int))] ⟨_, _, rfl, ⟨false, rfl, fun z => z⟩, rfl⟩ with z | ⟨c, _, z⟩ | ⟨r, t, o, h1, h2, h3, h4⟩
  · rw [hm] at z; cases z
  · rw [hm] at z; cases z
  · rw [hm] at h1
    cases h1
    obtain ⟨b', rfl, hb⟩ := h3
    rw [hb rfl] at h2
    exact ⟨o, h2⟩
section
variable {ρ : Type} {E : ES} {m : M ρ} {X : XC} {P : TD → ES → M ρ → Prop}
def detachE (E : ES) : List Bool → List TD → Option (Option (Bool × List D) × Back × ES)
  | [], [] => some (none, none, E)
  | m :: ms, t :: ts => match detachE E ms ts with
    | none => none
    | some (q, w, e1) => match m with
      | false => some (q, w, e1)
      | true => match w with
        | some _ => none
        | none => match t with
          | .nw b xs => some (some (b, xs), some none, e1)
          | .sl i => match e1[i]? with
            | some (.own p b xs) => some (some (b, xs), some (some (i, p)), e1.set i .un)
            | _ => none
          | _ => none
  | _, _ => none
theorem detachE_ok {E : ES} {e : Env} (f : Fit E e) : ∀ {ms : List Bool} {tds : List TD} {ts : List DL.Tok} {q : Option (Bool × List D)} {w : Back} {E' : ES}, TFits tds ts → detachE E ms tds = some (q, w, E') → ∃ q' e', detach e ms ts = some (q', w, e') ∧ OFit q q' ∧ Fit E' e'
  | [], [], ts, q, w, E', g, h => by
    rw [show ts = [] from g]
    cases h
    exact ⟨none, e, rfl, rfl, f⟩
  | [], _ :: _, ts, q, w, E', g, h => by cases h
  | _ :: _, [], ts, q, w, E', g, h => by cases h
  | mk :: ms, td :: tds, ts, q, w, E', g, h => by
    obtain ⟨t, r, rfl, g1, g2⟩ := g
    simp only [detachE] at h
    cases z : detachE E ms tds with
    | none => rw [z] at h; cases h
    | some y =>
      obtain ⟨q0, w0, E1⟩ := y
      rw [z] at h
      obtain ⟨q', e1, k1, k2, f1⟩ := detachE_ok f g2 z
      cases mk with
      | false => cases h; exact ⟨q', e1, by simp only [detach, k1], k2, f1⟩
      | true =>
        cases w0 with
        | some _ => cases h
        | none =>
          cases td with
          | nw b xs =>
            obtain ⟨b', rfl, qb⟩ := g1
            cases h
            exact ⟨some (b', xs), e1, by simp only [detach, k1], ⟨b', rfl, qb⟩, f1⟩
          | sl i =>
            rw [show t = _ from g1]
            simp only at h
            cases q1 : E1[i]? with
            | none => rw [q1] at h; cases h
            | some s =>
              rw [q1] at h
              obtain ⟨s', g3, g4⟩ := f1.get q1
              cases s with
              | own p b xs =>
                obtain ⟨b', rfl, qb⟩ := g4
                cases h
                exact ⟨some (b', xs), e1.set i .un, by simp only [detach, k1, g3], ⟨b', rfl, qb⟩, f1.set (d := .un) rfl⟩
              | _ => cases h
          | _ => cases h
def argsXE (E : ES) (q : Option (Bool × List D)) : List Bool → List TD → Option (List DL.Arg)
  | [], [] => some []
  | m :: ms, t :: ts => match argsXE E q ms ts with
    | none => none
    | some args => match m with
      | false => match rdE E t with
        | none => none
        | some d => some (.v false d :: args)
      | true => match q with
        | none => none
        | some (b, xs) => match xs.all scal with
          | false => none
          | true => some (.o true xs :: args)
  | _, _ => none
theorem argsXE_ok {E : ES} {e : Env} (f : Fit E e) {q q' : Option (Bool × List D)} (hq : OFit q q') : ∀ {ms : List Bool} {tds : List TD} {ts : List DL.Tok} {args : List DL.Arg}, TFits tds ts → argsXE E q ms tds = some args → argsX e q' ms ts = some args
  | [], [], ts, args, g, h => by
    rw [show ts = [] from g]
    exact h
  | [], _ :: _, ts, args, g, h => by cases h
  | _ :: _, [], ts, args, g, h => by cases h
  | mk :: ms, td :: tds, ts, args, g, h => by
    obtain ⟨t, r, rfl, g1, g2⟩ := g
    simp only [argsXE] at h
    cases z : argsXE E q ms tds with
    | none => rw [z] at h; cases h
    | some y =>
      rw [z] at h
      have k1 := argsXE_ok f hq g2 z
      cases mk with
      | false =>
        simp only at h
        cases z2 : rdE E td with
        | none => rw [z2] at h; cases h
        | some d =>
          rw [z2] at h
          cases h
          simp only [argsX, k1, rdE_ok f g1 z2]
      | true =>
        cases q with
        | none => cases h
        | some bx =>
          obtain ⟨b, xs⟩ := bx
          obtain ⟨b', rfl, qb⟩ := hq
          simp only at h
          cases z2 : xs.all scal with
          | false => rw [z2] at h; cases h
          | true =>
            rw [z2] at h
            cases h
            simp only [argsX, k1, z2, Bool.or_true]
def unXE : TD → Option TD
  | .fz b d => match scal d with
    | true => some (.fz true d)
    | false => match b with
      | true => some (.ex d)
      | false => none
  | .nw b xs => match xs.all scal with
    | true => some (.nw true xs)
    | false => match b with
      | true => some (.nw true xs)
      | false => none
  | .ex d => some (.ex d)
  | .sl _ => none
theorem unXE_ok {td td' : TD} {t : DL.Tok} (g : TFit td t) (h : unXE td = some td') : ∃ t', unX t = some t' ∧ TFit td' t' := by
  cases td with
  | fz b d =>
    obtain ⟨b', rfl, q⟩ := g
    simp only [unXE] at h
    simp only [unX]
    cases z : scal d with
    | true => rw [z] at h; cases h; exact ⟨_, rfl, true, rfl, fun _ => rfl⟩
    | false =>
      rw [z] at h
      cases b with
      | true => cases h; rw [q rfl]; exact ⟨_, rfl, rfl⟩
      | false => cases h
  | nw b xs =>
    obtain ⟨b', rfl, q⟩ := g
    simp only [unXE] at h
    simp only [unX]
    cases z : xs.all scal with
    | true => rw [z] at h; cases h; exact ⟨_, rfl, true, rfl, fun _ => rfl⟩
    | false =>
      rw [z] at h
      cases b with
      | true => cases h; rw [q rfl]; exact ⟨_, rfl, true, rfl, fun _ => rfl⟩
      | false => cases h
  | ex d => rw [show t = _ from g]; cases h; exact ⟨_, rfl, rfl⟩
  | sl i => cases h
theorem getOut_fit : ∀ {l l' : Outs} {b : Bool} {xs : List D}, OFits l l' → getOut l = some (b, xs) → ∃ b', getOut l' = some (b', xs) ∧ (b = true → b' = true)
  | [], l', b, xs, h, g => by cases g
  | none :: l, l', b, xs, h, g => by
    obtain ⟨a, r, rfl, h1, h2⟩ := h
    rw [show a = none from h1]
    obtain ⟨b', k1, k2⟩ := getOut_fit h2 (show getOut l = some (b, xs) from g)
    exact ⟨b', k1, k2⟩
  | some z :: l, l', b, xs, h, g => by
    obtain ⟨a, r, rfl, h1, h2⟩ := h
    cases g
    obtain ⟨b', rfl, q⟩ := h1
    exact ⟨b', rfl, q⟩
def finishXE (E : ES) : Back → Outs → Option ES
  | none, _ => some E
  | some none, _ => some E
  | some (some (i, p)), outs => match getOut outs with
    | none => none
    | some (_, xs) => match xs.all scal with
      | false => none
      | true => some (E.set i (.own p true xs))
theorem finishXE_ok {E E' : ES} {e : Env} {w : Back} {l l' : Outs} (f : Fit E e) (hl : OFits l l') (h : finishXE E w l = some E') : ∃ e', finishX e w l' = some e' ∧ Fit E' e' := by
  match w, h with
  | none, h => cases h; exact ⟨e, rfl, f⟩
  | some none, h => cases h; exact ⟨e, rfl, f⟩
  | some (some (i, p)), h =>
    simp only [finishXE] at h
    simp only [finishX]
    cases z : getOut l with
    | none => rw [z] at h; cases h
    | some y =>
      obtain ⟨b, xs⟩ := y
      rw [z] at h
      obtain ⟨b', k1, k2⟩ := getOut_fit hl z
      rw [k1]
      simp only at h ⊢
      cases z2 : xs.all scal with
      | false => rw [z2] at h; cases h
      | true => rw [z2] at h; cases h; exact ⟨_, rfl, f.set (d := .own p true xs) ⟨true, rfl, fun _ => rfl⟩⟩
def M.nx {α : Type} : M α → M α
  | .ok a => .ok a
  | _ => .bad
theorem we_callX0 {β : Type} {mask : List Bool} {fn : Fn} {fs : List DE} {res : β → TD} {outs : β → Outs}
    (h : WA fs E m (fun tds E1 m1 => ∃ (n : M β) (kk : β → M ρ), ∃ q w E2 args, (m1 = M.bind n kk ∧ w = none ∧ (∀ c, X c E2) ∨ m1 = M.bind (M.nx n) kk) ∧ detachE E1 mask tds = some (q, w, E2) ∧ argsXE E2 q mask tds = some args ∧ SimF fn args n res outs ∧ ∀ r, ∃ t' E3, unXE (res r) = some t' ∧ finishXE E2 w (outs r) = some E3 ∧ P t' E3 (kk r)) X) : WE (dAp (opCallX mask fn) fs) E m P X :=
  we_ap (h.imp fun tds E1 ⟨n, kk, q, w, E2, args, h0, h1, h2, h3, h4⟩ ts e g fe => by
    obtain ⟨q', e2, k1, k2, f2⟩ := detachE_ok fe g h1
    have k3 := argsXE_ok f2 k2 g h2
    have ra : AFits args args := by
      clear h2 h3 k3
      induction args with
      | nil => rfl
      | cons a r ih =>
        refine ⟨a, r, rfl, ?_, ih⟩
        cases a with
        | v b d => exact ⟨b, rfl, fun z => z⟩
        | o b d => exact ⟨b, rfl, fun z => z⟩
    rcases h3 args ra with z | ⟨c, z1, z2⟩ | ⟨r, t, o, z1, z2, z3, z4⟩
    · refine .inl ?_
      rcases h0 with ⟨h0, _⟩ | h0
      · rw [h0, z]; rfl
      · rw [h0, z]; rfl
    · rcases h0 with ⟨h0, rfl, hx⟩ | h0
      · exact .inr (.inl ⟨c, E2, e2, by simp only [opCallX, k1, k3, z1], by rw [h0, z2]; rfl, f2, hx c⟩)
      · exact .inl (by rw [h0, z2]; rfl)
    · obtain ⟨t', E3, y1, y2, y3⟩ := h4 r
      obtain ⟨t2, y4, y5⟩ := unXE_ok z3 y1
      obtain ⟨e3, y6, f3⟩ := finishXE_ok f2 z4 y2
      refine .inr (.inr ⟨t', t2, E3, e3, by simp only [opCallX, k1, k3, z2, y4, y6], y5, f3, ?_⟩)
      rcases h0 with ⟨h0, _⟩ | h0
      · rw [h0, z1]; exact y3
      · rw [h0, z1]; exact y3)
theorem we_callX {β : Type} {mask : List Bool} {fn : Fn} {fs : List DE} {res : β → TD} {outs : β → Outs}
    (h : WA fs E m (fun tds E1 m1 => ∃ (n : M β) (kk : β → M ρ), m1 = M.bind n kk ∧ (∀ c, X c E1) ∧ ∃ args, detachE E1 mask tds = some (none, none, E1) ∧ argsXE E1 none mask tds = some args ∧ SimF fn args n res outs ∧ ∀ r, ∃ t', unXE (res r) = some t' ∧ P t' E1 (kk r)) X) : WE (dAp (opCallX mask fn) fs) E m P X :=
  we_callX0 (h.imp fun tds E1 ⟨n, kk, h0, hx, args, h1, h2, h3, h4⟩ => ⟨n, kk, none, none, E1, args, .inl ⟨h0, rfl, hx⟩, h1, h2, h3, fun r => by
    obtain ⟨t', k1, k2⟩ := h4 r
    exact ⟨t', E1, k1, rfl, k2⟩⟩)
theorem we_callM {β : Type} {mask : List Bool} {fn : Fn} {fs : List DE} {res : β → TD} {outs : β → Outs}
    (h : WA fs E m (fun tds E1 m1 => ∃ (n : M β) (kk : β → M ρ), m1 = M.bind (M.nx n) kk ∧ ∃ q w E2 args, detachE E1 mask tds = some (q, w, E2) ∧ argsXE E2 q mask tds = some args ∧ SimF fn args n res outs ∧ ∀ r, ∃ t' E3, unXE (res r) = some t' ∧ finishXE E2 w (outs r) = some E3 ∧ P t' E3 (kk r)) X) : WE (dAp (opCallX mask fn) fs) E m P X :=
  we_callX0 (h.imp fun tds E1 ⟨n, kk, h0, q, w, E2, args, h1, h2, h3, h4⟩ => ⟨n, kk, q, w, E2, args, .inr h0, h1, h2, h3, h4⟩)
def prepE (E : ES) : List Bool → List TD → Option (List DL.Arg × Back × ES)
  | [], [] => some ([], none, E)
  | m :: ms, t :: ts => match prepE E ms ts with
    | none => none
    | some (args, w, e1) => match m with
      | false => match takeE e1 t with
        | none => none
        | some (b, d, e2) => some (.v b d :: args, w, e2)
      | true => match w with
        | some _ => none
        | none => match t with
          | .nw b xs => some (.o b xs :: args, some none, e1)
          | .sl i => match e1[i]? with
            | some (.own p b xs) => some (.o b xs :: args, some (some (i, p)), e1.set i .un)
            | _ => none
          | _ => none
  | _, _ => none
theorem prepE_ok {E : ES} {e : Env} (f : Fit E e) : ∀ {ms : List Bool} {tds : List TD} {ts : List DL.Tok} {args : List DL.Arg} {w : Back} {E' : ES}, TFits tds ts → prepE E ms tds = some (args, w, E') → ∃ as e', prep e ms ts = some (as, w, e') ∧ AFits args as ∧ Fit E' e'
  | [], [], ts, args, w, E', g, h => by
    rw [show ts = [] from g]
    cases h
    exact ⟨[], e, rfl, rfl, f⟩
  | [], _ :: _, ts, q, w, E', g, h => by cases h
  | _ :: _, [], ts, q, w, E', g, h => by cases h
  | mk :: ms, td :: tds, ts, args, w, E', g, h => by
    obtain ⟨t, r, rfl, g1, g2⟩ := g
    simp only [prepE] at h
    cases z : prepE E ms tds with
    | none => rw [z] at h; cases h
    | some y =>
      obtain ⟨a0, w0, E1⟩ := y
      rw [z] at h
      obtain ⟨as, e1, k1, k2, f1⟩ := prepE_ok f g2 z
      cases mk with
      | false =>
        simp only at h
        cases z2 : takeE E1 td with
        | none => rw [z2] at h; cases h
        | some y =>
          obtain ⟨b, d, E2⟩ := y
          rw [z2] at h
          cases h
          obtain ⟨b', e2, k3, k4, f2⟩ := takeE_ok f1 g1 z2
          exact ⟨.v b' d :: as, e2, by simp only [prep, k1, k3], ⟨_, _, rfl, ⟨b', rfl, k4⟩, k2⟩, f2⟩
      | true =>
        cases w0 with
        | some _ => cases h
        | none =>
          cases td with
          | nw b xs =>
            obtain ⟨b', rfl, qb⟩ := g1
            cases h
            exact ⟨.o b' xs :: as, e1, by simp only [prep, k1], ⟨_, _, rfl, ⟨b', rfl, qb⟩, k2⟩, f1⟩
          | sl i =>
            rw [show t = _ from g1]
            simp only at h
            cases q1 : E1[i]? with
            | none => rw [q1] at h; cases h
            | some s =>
              rw [q1] at h
              obtain ⟨s', g3, g4⟩ := f1.get q1
              cases s with
              | own p b xs =>
                obtain ⟨b', rfl, qb⟩ := g4
                cases h
                exact ⟨.o b' xs :: as, e1.set i .un, by simp only [prep, k1, g3], ⟨_, _, rfl, ⟨b', rfl, qb⟩, k2⟩, f1.set (d := .un) rfl⟩
              | _ => cases h
          | _ => cases h
def finishE (E : ES) : Back → Outs → Option ES
  | none, _ => some E
  | some none, _ => some E
  | some (some (i, p)), outs => match getOut outs with
    | none => none
    | some (b, xs) => some (E.set i (.own p b xs))
theorem finishE_ok {E E' : ES} {e : Env} {w : Back} {l l' : Outs} (f : Fit E e) (hl : OFits l l') (h : finishE E w l = some E') : ∃ e', finish e w l' = some e' ∧ Fit E' e' := by
  match w, h with
  | none, h => cases h; exact ⟨e, rfl, f⟩
  | some none, h => cases h; exact ⟨e, rfl, f⟩
  | some (some (i, p)), h =>
    simp only [finishE] at h
    simp only [finish]
    cases z : getOut l with
    | none => rw [z] at h; cases h
    | some y =>
      obtain ⟨b, xs⟩ := y
      rw [z] at h
      obtain ⟨b', k1, k2⟩ := getOut_fit hl z
      rw [k1]
      cases h
      exact ⟨_, rfl, f.set (d := .own p b xs) ⟨b', rfl, k2⟩⟩
def noSlT : TD → Bool
  | .sl _ => false
  | _ => true
theorem noSl_fit {td : TD} {t : DL.Tok} (g : TFit td t) (h : noSlT td = true) : noSl t = true := by
  cases td with
  | fz b d => obtain ⟨b', rfl, _⟩ := g; rfl
  | nw b d => obtain ⟨b', rfl, _⟩ := g; rfl
  | ex d => rw [show t = _ from g]; rfl
  | sl i => cases h
theorem we_call0 {β : Type} {mask : List Bool} {fn : Fn} {fs : List DE} {res : β → TD} {outs : β → Outs}
    (h : WA fs E m (fun tds E1 m1 => ∃ (n : M β) (kk : β → M ρ), ∃ args w E2, (m1 = M.bind n kk ∧ w = none ∧ (∀ c, X c E2) ∨ m1 = M.bind (M.nx n) kk) ∧ prepE E1 mask tds = some (args, w, E2) ∧ SimF fn args n res outs ∧ ∀ r, ∃ E3, noSlT (res r) = true ∧ finishE E2 w (outs r) = some E3 ∧ P (res r) E3 (kk r)) X) : WE (dAp (opCall mask fn) fs) E m P X :=
  we_ap (h.imp fun tds E1 ⟨n, kk, args, w, E2, h0, h1, h3, h4⟩ ts e g fe => by
    obtain ⟨as, e2, k1, k2, f2⟩ := prepE_ok fe g h1
    rcases h3 as k2 with z | ⟨c, z1, z2⟩ | ⟨r, t, o, z1, z2, z3, z4⟩
    · refine .inl ?_
      rcases h0 with ⟨h0, _⟩ | h0
      · rw [h0, z]; rfl
      · rw [h0, z]; rfl
    · rcases h0 with ⟨h0, rfl, hx⟩ | h0
      · exact .inr (.inl ⟨c, E2, e2, by simp only [opCall, k1, z1], by rw [h0, z2]; rfl, f2, hx c⟩)
      · exact .inl (by rw [h0, z2]; rfl)
    · obtain ⟨E3, y1, y2, y3⟩ := h4 r
      obtain ⟨e3, y6, f3⟩ := finishE_ok f2 z4 y2
      refine .inr (.inr ⟨res r, t, E3, e3, by simp only [opCall, k1, z2, noSl_fit z3 y1, y6], z3, f3, ?_⟩)
      rcases h0 with ⟨h0, _⟩ | h0
      · rw [h0, z1]; exact y3
      · rw [h0, z1]; exact y3)
theorem we_callK {β : Type} {mask : List Bool} {fn : Fn} {fs : List DE} {res : β → TD} {outs : β → Outs}
    (h : WA fs E m (fun tds E1 m1 => ∃ (n : M β) (kk : β → M ρ), m1 = M.bind n kk ∧ ∃ args E2, prepE E1 mask tds = some (args, none, E2) ∧ (∀ c, X c E2) ∧ SimF fn args n res outs ∧ ∀ r, noSlT (res r) = true ∧ P (res r) E2 (kk r)) X) : WE (dAp (opCall mask fn) fs) E m P X :=
  we_call0 (h.imp fun tds E1 ⟨n, kk, h0, args, E2, h1, hx, h3, h4⟩ => ⟨n, kk, args, none, E2, .inl ⟨h0, rfl, hx⟩, h1, h3, fun r => ⟨E2, (h4 r).1, rfl, (h4 r).2⟩⟩)
end
end TS
namespace TS
open DL
theorem le1 {b : Bool} {d : D} {qs : List (Bool × D)} (h : LePs [(b, d)] qs) : ∃ b', qs = [(b', d)] ∧ (b = true → b' = true) := by
  obtain ⟨b', r, rfl, q, h2⟩ := h
  rw [show r = [] from h2]
  exact ⟨b', rfl, q⟩
theorem le2 {b c : Bool} {d e : D} {qs : List (Bool × D)} (h : LePs [(b, d), (c, e)] qs) : ∃ b' c', qs = [(b', d), (c', e)] ∧ (b = true → b' = true) ∧ (c = true → c' = true) := by
  obtain ⟨b', r, rfl, q, h2⟩ := h
  obtain ⟨c', rfl, q2⟩ := le1 h2
  exact ⟨b', c', rfl, q, q2⟩
theorem and_mono {b c b' c' : Bool} (h1 : b = true → b' = true) (h2 : c = true → c' = true) : (b && c) = true → (b' && c') = true := fun h => by
  simp only [Bool.and_eq_true] at h ⊢
  exact ⟨h1 h.1, h2 h.2⟩
theorem mono2 {op : List (Bool × D) → Option DL.Tok} (hn : ∀ ps t, op ps = some t → ∃ b d c e, ps = [(b, d), (c, e)]) (h : ∀ (d e : D) (b c b' c' : Bool) (t : DL.Tok), op [(b, d), (c, e)] = some t → (b = true → b' = true) → (c = true → c' = true) → ∃ t', op [(b', d), (c', e)] = some t' ∧ TFit (dt t) t') : Mono op := fun {ps qs t} h1 h2 => by
  obtain ⟨b, d, c, e, rfl⟩ := hn ps t h1
  obtain ⟨b', c', rfl, q1, q2⟩ := le2 h2
  exact h d e b c b' c' t h1 q1 q2
theorem two_of {op : List (Bool × D) → Option DL.Tok} (h0 : op [] = none) (h1 : ∀ x, op [x] = none) (h3 : ∀ x y z r, op (x :: y :: z :: r) = none) : ∀ ps t, op ps = some t → ∃ b d c e, ps = [(b, d), (c, e)] := fun ps t h => by
  match ps, h with
  | [], h => rw [h0] at h; cases h
  | [x], h => rw [h1] at h; cases h
  | [(b, d), (c, e)], h => exact ⟨b, d, c, e, rfl⟩
  | x :: y :: z :: r, h => rw [h3] at h; cases h
theorem mono_add : Mono dAdd := mono2 (two_of rfl (fun x => by simp [dAdd]) (fun x y z r => by simp [dAdd])) fun d e b c b' c' t h q1 q2 => by
  cases d <;> cases e <;> simp only [dAdd] at h ⊢ <;> try (cases h; done)
  · cases h; exact ⟨_, rfl, true, rfl, fun _ => rfl⟩
  · rename_i s s'
    cases z : fits (s.length + s'.length) with
    | false => rw [z] at h; cases h
    | true => rw [z] at h; cases h; exact ⟨_, rfl, true, rfl, fun _ => rfl⟩
  · rename_i s s'
    cases z : fits (s.length + s'.length) with
    | false => rw [z] at h; cases h
    | true => rw [z] at h; cases h; exact ⟨_, rfl, _, rfl, and_mono q1 q2⟩
  · rename_i s s'
    cases z : fits (s.length + s'.length) with
    | false => rw [z] at h; cases h
    | true => rw [z] at h; cases h; exact ⟨_, rfl, _, rfl, and_mono q1 q2⟩
theorem mono_mul : Mono dMul := mono2 (two_of rfl (fun x => by simp [dMul]) (fun x y z r => by simp [dMul])) fun d e b c b' c' t h q1 q2 => by
  cases d <;> cases e <;> simp only [dMul] at h ⊢ <;> try (cases h; done)
  · rename_i i j
    cases z : small64 i || small64 j with
    | false => rw [z] at h; cases h
    | true => rw [z] at h; cases h; exact ⟨_, rfl, true, rfl, fun _ => rfl⟩
  · rename_i xs k
    cases z : smallI k && fits (xs.length * k.toNat) with
    | false => rw [z] at h; cases h
    | true => rw [z] at h; cases h; exact ⟨_, rfl, _, rfl, q1⟩
theorem mono_idx : Mono dIdx := mono2 (two_of rfl (fun x => by simp [dIdx]) (fun x y z r => by simp [dIdx])) fun d e b c b' c' t h q1 q2 => by
  cases d <;> cases e <;> simp only [dIdx] at h ⊢ <;> try (cases h; done)
  · rename_i s i
    cases z : fits s.length with
    | false => rw [z] at h; cases h
    | true =>
      rw [z] at h
      simp only at h ⊢
      cases z2 : L2.atI s.cps.toList i with
      | none => rw [z2] at h; cases h
      | some v => rw [z2] at h; cases h; exact ⟨_, rfl, true, rfl, fun _ => rfl⟩
  · rename_i xs i
    cases z2 : L2.atI xs i with
    | none => rw [z2] at h; cases h
    | some v => rw [z2] at h; cases h; exact ⟨_, rfl, _, rfl, q1⟩
  · rename_i xs i
    cases z2 : L2.atI xs i with
    | none => rw [z2] at h; cases h
    | some v => rw [z2] at h; cases h; exact ⟨_, rfl, _, rfl, q1⟩
theorem cut1_mono {b b' : Bool} {d : D} {lo hi : Option Int} {t : DL.Tok} (h : cut1 b d lo hi = some t) (q : b = true → b' = true) : ∃ t', cut1 b' d lo hi = some t' ∧ TFit (dt t) t' := by
  cases d <;> simp only [cut1] at h ⊢ <;> try (cases h; done)
  · rename_i s
    cases z : fits s.length with
    | false => rw [z] at h; cases h
    | true => rw [z] at h; cases h; exact ⟨_, rfl, true, rfl, fun _ => rfl⟩
  · cases h; exact ⟨_, rfl, _, rfl, q⟩
  · cases h; exact ⟨_, rfl, _, rfl, q⟩
theorem mono_cut10 : Mono dCut10 := mono2 (two_of rfl (fun x => by simp [dCut10]) (fun x y z r => by simp [dCut10])) fun d e b c b' c' t h q1 q2 => by
  cases e <;> simp only [dCut10] at h ⊢ <;> first | (cases h; done) | exact cut1_mono h q1
theorem mono_cut01 : Mono dCut01 := mono2 (two_of rfl (fun x => by simp [dCut01]) (fun x y z r => by simp [dCut01])) fun d e b c b' c' t h q1 q2 => by
  cases e <;> simp only [dCut01] at h ⊢ <;> first | (cases h; done) | exact cut1_mono h q1
theorem tagAll_mono : ∀ {ps qs : List (Bool × D)}, LePs ps qs → ps.map (·.2) = qs.map (·.2) ∧ (tagAll ps = true → tagAll qs = true)
  | [], qs, h => by rw [show qs = [] from h]; exact ⟨rfl, fun z => z⟩
  | (b, d) :: ps, qs, h => by
    obtain ⟨b', r, rfl, q, h2⟩ := h
    obtain ⟨k1, k2⟩ := tagAll_mono h2
    refine ⟨by rw [List.map_cons, List.map_cons, k1], fun z => ?_⟩
    exact and_mono q k2 z
theorem mono_list : Mono dList := fun {ps qs t} h1 h2 => by
  obtain ⟨k1, k2⟩ := tagAll_mono h2
  have hl : ps.length = qs.length := by have := congrArg List.length k1; simpa using this
  simp only [dList] at h1 ⊢
  rw [← hl]
  cases z : fits ps.length with
  | false => rw [z] at h1; cases h1
  | true => rw [z] at h1; cases h1; exact ⟨_, rfl, _, by rw [k1], k2⟩
theorem mono_tup : Mono dTup := fun {ps qs t} h1 h2 => by
  obtain ⟨k1, k2⟩ := tagAll_mono h2
  have hl : ps.length = qs.length := by have := congrArg List.length k1; simpa using this
  simp only [dTup] at h1 ⊢
  rw [← hl]
  cases z : fits ps.length with
  | false => rw [z] at h1; cases h1
  | true => rw [z] at h1; cases h1; exact ⟨_, rfl, _, by rw [k1], k2⟩
theorem mmono_append : MMono mAppend := fun {b b1 xs ps qs r} hb h1 h2 => by
  match ps, h1 with
  | [(c, d)], h1 =>
    obtain ⟨c', rfl, q1⟩ := le1 h2
    simp only [mAppend] at h1 ⊢
    cases z : decide (xs.length < 16777216) with
    | false => rw [z] at h1; cases h1
    | true => rw [z] at h1; cases h1; exact ⟨_, _, rfl, and_mono hb q1, fun _ => rfl⟩
theorem mmono_popAt : MMono mPopAt := fun {b b1 xs ps qs r} hb h1 h2 => by
  match ps, h1 with
  | [(c, .int i)], h1 =>
    obtain ⟨c', rfl, q1⟩ := le1 h2
    simp only [mPopAt] at h1 ⊢
    cases z1 : smallIx i with
    | false => rw [z1] at h1; simp at h1
    | true =>
      rw [z1] at h1
      cases z2 : PySem.seqIndex? i xs.length with
      | none => rw [z2] at h1; cases h1
      | some k =>
        rw [z2] at h1
        simp only at h1 ⊢
        cases z3 : xs[k]? with
        | none => rw [z3] at h1; cases h1
        | some v => rw [z3] at h1; cases h1; exact ⟨_, _, rfl, hb, hb⟩
theorem mmono_extend : MMono mExtend := fun {b b1 xs ps qs r} hb h1 h2 => by
  match ps, h1 with
  | [(c, .list ys)], h1 =>
    obtain ⟨c', rfl, q1⟩ := le1 h2
    simp only [mExtend] at h1 ⊢
    cases z : fits (xs.length + ys.length) with
    | false => rw [z] at h1; cases h1
    | true => rw [z] at h1; cases h1; exact ⟨_, _, rfl, and_mono hb q1, fun _ => rfl⟩
end TS
namespace TS
open DL
section
variable {α β : Type}
theorem atI_map (f : α → β) (xs : List α) (i : Int) : L2.atI (xs.map f) i = (L2.atI xs i).map f := by
  unfold L2.atI
  rw [List.length_map]
  cases L2.ixN xs.length i with
  | none => rfl
  | some j => simp
def ofO : Option α → M α
  | some v => .ok v
  | none => .bad
def idx (xs : List α) (i : Int) : M α := ofO (L2.atI xs i)
theorem po_idx (f : α → D) (xs : List α) (i : Int) (b c : Bool) : PEl dIdx [(b, .list (xs.map f)), (c, .int i)] (idx xs i) (fun v => .fz b (f v)) := by
  refine ⟨?_⟩
  unfold idx
  cases h : L2.atI xs i with
  | none => trivial
  | some v =>
    show dIdx _ = _
    simp only [dIdx, atI_map, h]
    rfl
def b2i (c : Bool) : Int := if c then 1 else 0
theorem pick2 (f : α → D) (x y : α) (c : Bool) (b t : Bool) : dIdx [(b, .list [f x, f y]), (t, .int (b2i c))] = some (.fz b (f (cond c y x))) := by
  cases c <;> rfl
def cat (xs ys : List α) : M (List α) := match fits (xs.length + ys.length) with
  | true => .ok (xs ++ ys)
  | false => .bad
theorem po_cat (f : α → D) (xs ys : List α) (b c : Bool) : PEl dAdd [(b, .list (xs.map f)), (c, .list (ys.map f))] (cat xs ys) (fun v => .nw (b && c) (v.map f)) := by
  refine ⟨?_⟩
  unfold cat
  cases h : fits (xs.length + ys.length) with
  | false => trivial
  | true =>
    show dAdd _ = _
    simp only [dAdd, List.length_map, h, List.map_append]
    rfl
def rep (xs : List α) (k : Int) : M (List α) := match smallI k && fits (xs.length * k.toNat) with
  | true => .ok (List.replicate k.toNat xs).flatten
  | false => .bad
def mulI (i j : Int) : M Int := match small64 i || small64 j with
  | true => .ok (i * j)
  | false => .bad
theorem po_mulI (i j : Int) (b c : Bool) : PEl dMul [(b, .int i), (c, .int j)] (mulI i j) (fun v => .fz true (.int v)) := by
  refine ⟨?_⟩
  unfold mulI
  cases h : small64 i || small64 j with
  | false => trivial
  | true =>
    show dMul _ = _
    simp only [dMul, h]
    rfl
theorem mul_lit (i j : Int) (b c : Bool) (h : (small64 i || small64 j) = true) : dMul [(b, .int i), (c, .int j)] = some (.fz true (.int (i * j))) := by
  simp only [dMul, h]
theorem small_l {i j : Int} (h : small64 i = true) : (small64 i || small64 j) = true := by rw [h]; rfl
theorem small_r {i j : Int} (h : small64 j = true) : (small64 i || small64 j) = true := by rw [h, Bool.or_true]
def divM (i j : Int) : M Int := match decide (0 < j) && decide (j < 2 ^ 128) with
  | true => .ok (i / j)
  | false => .bad
def modM (i j : Int) : M Int := match decide (0 < j) with
  | true => .ok (i % j)
  | false => .bad
theorem ps_div (i j : Int) : PSc dDiv [.int i, .int j] (divM i j) (fun v => .int v) := by
  refine ⟨?_⟩
  unfold divM
  cases h : decide (0 < j) && decide (j < 2 ^ 128) with
  | false => trivial
  | true =>
    show dDiv _ = _
    simp only [dDiv, dInt2, h]
theorem ps_mod (i j : Int) : PSc dMod [.int i, .int j] (modM i j) (fun v => .int v) := by
  refine ⟨?_⟩
  unfold modM
  cases h : decide (0 < j) with
  | false => trivial
  | true =>
    show dMod _ = _
    simp only [dMod, dInt2, h]
theorem div_lit (i j : Int) (h : (decide (0 < j) && decide (j < 2 ^ 128)) = true) : dDiv [.int i, .int j] = some (.int (i / j)) := by simp only [dDiv, dInt2, h]
theorem mod_lit (i j : Int) (h : decide (0 < j) = true) : dMod [.int i, .int j] = some (.int (i % j)) := by simp only [dMod, dInt2, h]
def app (xs : List α) (x : α) : M (List α) := match decide (xs.length < 16777216) with
  | true => .ok (xs ++ [x])
  | false => .bad
theorem pm_app (f : α → D) (xs : List α) (x : α) (b c : Bool) : PMu mAppend b (xs.map f) [(c, f x)] (app xs x) (fun v => (b && c, v.map f, true, .none)) := by
  refine ⟨?_⟩
  unfold app
  cases h : decide (xs.length < 16777216) with
  | false => trivial
  | true =>
    show mAppend _ _ _ = _
    simp only [mAppend, List.length_map, h, List.map_append, List.map_cons, List.map_nil]
theorem eraseIdx_map' (f : α → β) : ∀ (l : List α) (k : Nat), (l.map f).eraseIdx k = (l.eraseIdx k).map f
  | [], _ => rfl
  | _ :: _, 0 => rfl
  | x :: r, k + 1 => by
    show f x :: (r.map f).eraseIdx k = f x :: (r.eraseIdx k).map f
    rw [eraseIdx_map' f r k]
def popAtL (xs : List α) (i : Int) : M (α × List α) := match smallIx i, PySem.seqIndex? i xs.length with
  | true, some k => match xs[k]? with
    | some v => .ok (v, xs.eraseIdx k)
    | none => .bad
  | _, _ => .bad
theorem pm_popAt (f : α → D) (xs : List α) (i : Int) (b c : Bool) : PMu mPopAt b (xs.map f) [(c, .int i)] (popAtL xs i) (fun v => (b, v.2.map f, b, f v.1)) := by
  refine ⟨?_⟩
  unfold popAtL
  cases h1 : smallIx i with
  | false => trivial
  | true =>
    cases h2 : PySem.seqIndex? i xs.length with
    | none => trivial
    | some k =>
      simp only
      cases h3 : xs[k]? with
      | none => trivial
      | some v =>
        show mPopAt _ _ _ = _
        simp only [mPopAt, List.length_map, h1, h2, List.getElem?_map, h3, Option.map_some, eraseIdx_map']
theorem pm_extend (f : α → D) (xs ys : List α) (b c : Bool) : PMu mExtend b (xs.map f) [(c, .list (ys.map f))] (cat xs ys) (fun v => (b && c, v.map f, true, .none)) := by
  refine ⟨?_⟩
  unfold cat
  cases h : fits (xs.length + ys.length) with
  | false => trivial
  | true =>
    show mExtend _ _ _ = _
    simp only [mExtend, List.length_map, h, List.map_append]
theorem cutL_map (f : α → β) (xs : List α) (lo hi : Option Int) : cutL (xs.map f) lo hi = (cutL xs lo hi).map f := by
  unfold cutL
  rw [List.length_map, List.map_take, List.map_drop]
theorem el_cut10 (f : α → D) (xs : List α) (i : Int) (b c : Bool) : dCut10 [(b, .list (xs.map f)), (c, .int i)] = some (.nw b ((cutL xs (some i) none).map f)) := by
  show some (DL.Tok.nw b (cutL (xs.map f) (some i) none)) = _
  rw [cutL_map]
theorem el_cut01 (f : α → D) (xs : List α) (i : Int) (b c : Bool) : dCut01 [(b, .list (xs.map f)), (c, .int i)] = some (.nw b ((cutL xs none (some i)).map f)) := by
  show some (DL.Tok.nw b (cutL (xs.map f) none (some i))) = _
  rw [cutL_map]
theorem len_op (f : α → D) (xs : List α) : dLen [.list (xs.map f)] = some (.int (xs.length : Nat)) := by
  show some (PySem.PyData.int ((xs.map f).length : Nat)) = _
  rw [List.length_map]
end
structure EncOk {α : Type} [DecidableEq α] (n : Nat) (f : α → D) : Prop where
  lay : ∀ x, (f x).canLay0 = true
  dep : ∀ x, (f x).depth ≤ n
  eq : ∀ x y, PySem.PyData.eqv (f x) (f y) = decide (x = y)
theorem enc_int : EncOk 0 PySem.PyData.int := ⟨fun _ => by simp [PySem.PyData.canLay0], fun _ => by simp [PySem.PyData.depth], fun x y => by simp only [PySem.PyData.eqv]; exact (Bool.beq_eq_decide_eq x y)⟩
theorem enc_bool : EncOk 0 PySem.PyData.bool := ⟨fun _ => by simp [PySem.PyData.canLay0], fun _ => by simp [PySem.PyData.depth], fun x y => by simp only [PySem.PyData.eqv]; exact (Bool.beq_eq_decide_eq x y)⟩
section
variable {α β γ : Type} [DecidableEq α] [DecidableEq β] [DecidableEq γ] {f : α → D} {g : β → D} {h : γ → D} {n n1 n2 n3 : Nat}
theorem EncOk.mono (o : EncOk n1 f) (l : n1 ≤ n) : EncOk n f := ⟨o.lay, fun x => Nat.le_trans (o.dep x) l, o.eq⟩
theorem EncOk.layAll (o : EncOk n f) : ∀ xs : List α, PySem.PyData.canLayAll0 (xs.map f) = true
  | [] => by simp [PySem.PyData.canLayAll0]
  | x :: r => by simp only [List.map_cons, PySem.PyData.canLayAll0, o.lay x, o.layAll r, Bool.and_self]
theorem EncOk.depAll (o : EncOk n f) : ∀ xs : List α, PySem.PyData.depthAll (xs.map f) ≤ n
  | [] => by simp [PySem.PyData.depthAll]
  | x :: r => by
    simp only [List.map_cons, PySem.PyData.depthAll]
    exact Nat.max_le.mpr ⟨o.dep x, o.depAll r⟩
theorem EncOk.eqAll (o : EncOk n f) : ∀ xs ys : List α, PySem.PyData.eqvAll (xs.map f) (ys.map f) = decide (xs = ys)
  | [], [] => by simp [PySem.PyData.eqvAll]
  | [], y :: ys => by simp [PySem.PyData.eqvAll]
  | x :: xs, [] => by simp [PySem.PyData.eqvAll]
  | x :: xs, y :: ys => by
    simp only [List.map_cons, PySem.PyData.eqvAll, o.eq x y, o.eqAll xs ys]
    by_cases h1 : x = y <;> by_cases h2 : xs = ys <;> simp [h1, h2]
theorem enc_list (o : EncOk n f) : EncOk (n + 1) (eL f) := ⟨fun x => by simp only [PySem.PyData.canLay0]; exact o.layAll x, fun x => by simp only [PySem.PyData.depth]; exact Nat.succ_le_succ (o.depAll x), fun x y => by simp only [PySem.PyData.eqv]; exact o.eqAll x y⟩
theorem EncOk.shaped (o : EncOk n f) (hn : n ≤ 64) (x : α) : PySem.SeqAt.shaped (f x) = true := by
  unfold PySem.SeqAt.shaped
  rw [o.lay x, Bool.true_and]
  exact decide_eq_true (Nat.le_trans (o.dep x) hn)
theorem eq_op (o : EncOk n f) (hn : n ≤ 64) (x y : α) : dEq [f x, f y] = some (.bool (decide (x = y))) := by
  simp only [dEq, o.shaped hn, Bool.and_self, o.eq]
theorem ne_op (o : EncOk n f) (hn : n ≤ 64) (x y : α) : dNe [f x, f y] = some (.bool (!decide (x = y))) := by
  simp only [dNe, o.shaped hn, Bool.and_self, o.eq]
theorem eqnil_op (o : EncOk n f) (hn : n + 1 ≤ 64) (xs : List α) : dEq [.list (xs.map f), .list []] = some (.bool xs.isEmpty) := by
  have h := eq_op (enc_list o) hn xs []
  rw [show dEq [.list (xs.map f), .list []] = dEq [eL f xs, eL f []] from rfl, h]
  cases xs <;> simp
theorem nenil_op (o : EncOk n f) (hn : n + 1 ≤ 64) (xs : List α) : dNe [.list (xs.map f), .list []] = some (.bool (!xs.isEmpty)) := by
  have h := ne_op (enc_list o) hn xs []
  rw [show dNe [.list (xs.map f), .list []] = dNe [eL f xs, eL f []] from rfl, h]
  cases xs <;> simp
def mem (x : α) (xs : List α) : Bool := xs.any fun z => decide (z = x)
theorem inD_op (o : EncOk n f) (hn : n ≤ 64) (x : α) (xs : List α) : inD (f x) (xs.map f) = some (mem x xs) := by
  unfold inD mem
  rw [o.shaped hn, o.layAll, Bool.and_self]
  simp only [List.any_map]
  congr 2
  funext z
  exact o.eq z x
theorem notin_op (o : EncOk n f) (hn : n ≤ 64) (x : α) (xs : List α) : dNotIn [f x, .list (xs.map f)] = some (.bool (!mem x xs)) := by
  simp only [dNotIn, inD_op o hn]; rfl
end
end TS
namespace TS
open DL
def LeT (a b : TD) : Prop := ∀ t, TFit b t → TFit a t
theorem ltR {a : TD} : LeT a a := fun _ h => h
def LeO : Outs → Outs → Prop := fun a b => ∀ o, OFits b o → OFits a o
theorem loR {a : Outs} : LeO a a := fun _ h => h
theorem simF_def {ρ : Type} {np n : Nat} {s : DS} {args : List DL.Arg} {m : M ρ} {res : ρ → TD} {outs : ρ → Outs} (hl : args.length = np)
    (h : WS s (args.map argE ++ List.replicate (n - np) .un) m ⟨fun E m => ∃ r o, m = .ok r ∧ res r = .fz true .none ∧ outsE E args 0 = some o ∧ LeO (outs r) o, fun td E m => ∃ r t o, m = .ok r ∧ resE E td = some t ∧ LeT (res r) t ∧ outsE E args 0 = some o ∧ LeO (outs r) o, fun _ _ => False, fun _ _ => False⟩ NX) : SimF (runFn np n s) args m res outs := fun as ha => by
  have hl' : as.length = np := by rw [← ha.len]; exact hl
  refine h.then (fit_args ha) (fun z => .inl z) (fun c E' e' a b fx xx => .inr (.inl ⟨c, runFn_exc hl' a, b⟩)) (fun E' e' a f1 ⟨r, o, h1, h2, h3, h4⟩ => ?_) (fun td t E' e' a g f1 ⟨r, t1, o, h1, h2, h3, h4, h5⟩ => ?_) (fun _ _ _ _ k => k.elim) (fun _ _ _ _ k => k.elim)
  · obtain ⟨l, k1, k2⟩ := outsE_ok f1 ha h3
    exact .inr (.inr ⟨r, _, l, h1, runFn_nx hl' a k1, by rw [h2]; exact ⟨true, rfl, fun _ => rfl⟩, h4 _ k2⟩)
  · obtain ⟨l, k1, k2⟩ := outsE_ok f1 ha h4
    obtain ⟨t', k3, k4⟩ := resE_ok f1 g h2
    exact .inr (.inr ⟨r, t', l, h1, runFn_rt hl' a k3 k1, h3 _ k4, h5 _ k2⟩)
theorem afit_le {b c : Bool} {d : D} (h : b = true → c = true) {a : DL.Arg} (f : AFit (.v c d) a) : AFit (.v b d) a := by
  obtain ⟨b', rfl, q⟩ := f
  exact ⟨b', rfl, fun z => q (h z)⟩
def LeA : List DL.Arg → List DL.Arg → Prop
  | [], as => as = []
  | x :: xs, as => ∃ a r, as = a :: r ∧ (∀ z, AFit a z → AFit x z) ∧ LeA xs r
theorem LeA.fit : ∀ {xs as zs : List DL.Arg}, LeA xs as → AFits as zs → AFits xs zs
  | [], as, zs, h, f => by rw [show as = [] from h] at f; exact f
  | x :: xs, as, zs, h, f => by
    obtain ⟨a, r, rfl, h1, h2⟩ := h
    obtain ⟨z, q, rfl, g1, g2⟩ := f
    exact ⟨z, q, rfl, h1 _ g1, h2.fit g2⟩
theorem SimF.le {ρ : Type} {fn : Fn} {xs as : List DL.Arg} {m : M ρ} {res : ρ → TD} {outs : ρ → Outs} (h : SimF fn xs m res outs) (l : LeA xs as) : SimF fn as m res outs := fun zs f => h zs (l.fit f)
theorem laN : LeA [] [] := rfl
theorem laV {b : Bool} {d : D} {xs as : List DL.Arg} (h : LeA xs as) : LeA (.v false d :: xs) (.v b d :: as) := ⟨_, _, rfl, fun _ g => afit_le (fun z => by cases z) g, h⟩
theorem laR {a : DL.Arg} {xs as : List DL.Arg} (h : LeA xs as) : LeA (a :: xs) (a :: as) := ⟨_, _, rfl, fun _ g => g, h⟩
theorem unX_nw (xs : List D) : unXE (.nw true xs) = some (.nw true xs) := by
  simp only [unXE]
  generalize xs.all scal = z
  cases z <;> rfl
def eqD (d e : D) : M Bool := match PySem.SeqAt.shaped d && PySem.SeqAt.shaped e with
  | true => .ok (PySem.PyData.eqv d e)
  | false => .bad
theorem ps_eqD (d e : D) : PSc dEq [d, e] (eqD d e) (fun v => .bool v) := by
  refine ⟨?_⟩
  unfold eqD
  cases h : PySem.SeqAt.shaped d && PySem.SeqAt.shaped e with
  | false => trivial
  | true => show dEq _ = _; simp only [dEq, h]
def idxD : D → Int → M D
  | .list xs, i => ofO (L2.atI xs i)
  | .tuple xs, i => ofO (L2.atI xs i)
  | _, _ => .bad
theorem po_idxD (d : D) (i : Int) (b c : Bool) : PEl dIdx [(b, d), (c, .int i)] (idxD d i) (fun v => .fz b v) := by
  refine ⟨?_⟩
  cases d with
  | list xs =>
    simp only [idxD]
    cases h : L2.atI xs i with
    | none => trivial
    | some v => show dIdx _ = _; simp only [dIdx, h]; rfl
  | tuple xs =>
    simp only [idxD]
    cases h : L2.atI xs i with
    | none => trivial
    | some v => show dIdx _ = _; simp only [dIdx, h]; rfl
  | _ => trivial
def lenM (d : D) : M Int := match lenD d with
  | some n => .ok (n : Nat)
  | none => .bad
theorem ps_lenD (d : D) : PSc dLen [d] (lenM d) (fun v => .int v) := by
  refine ⟨?_⟩
  unfold lenM
  cases h : lenD d with
  | none => trivial
  | some n => show dLen _ = _; simp only [dLen, h]; rfl
def powM (i j : Int) : M Int := match decide (0 ≤ j) && decide (j ≤ 1000) && decide (-(2 ^ 60) < i) && decide (i < 2 ^ 60) with
  | true => .ok (i ^ j.toNat)
  | false => .bad
theorem ps_pow (i j : Int) : PSc dPow [.int i, .int j] (powM i j) (fun v => .int v) := by
  refine ⟨?_⟩
  unfold powM
  cases h : decide (0 ≤ j) && decide (j ≤ 1000) && decide (-(2 ^ 60) < i) && decide (i < 2 ^ 60) with
  | false => trivial
  | true => show dPow _ = _; simp only [dPow, dInt2, h]
def maxI (i j : Int) : Int := if j > i then j else i
def minI (i j : Int) : Int := if j < i then j else i
section
variable {ρ : Type} {E : ES} {m : M ρ} {X : XC} {P : TD → ES → M ρ → Prop}
theorem we_chain' {p q : Int → Int → Bool} {f g h3 : DE} (h : WE f E m (fun t1 E1 m1 => WE g E1 m1 (fun t2 E2 m2 => ∃ (i j k : Int), rdE E2 t1 = some (.int i) ∧ rdE E2 t2 = some (.int j) ∧ WE h3 E2 (.ok () : M Unit) (fun td E' m => rdE E' td = some (.int k) ∧ E' = E2 ∧ m = .ok ()) NX ∧ P (.fz true (.bool (p i j && q j k))) E2 m2) X) X) : WE (eChain p q f g h3) E m P X := fun e fe =>
  h.then fe (fun z => .inl z) (fun c E' e' a b fx xx => .inr (.inl ⟨c, E', e', by simp only [eChain, a], b, fx, xx⟩)) fun t1 tk1 E1 e1 a1 g1 f1 h2 =>
    h2.then f1 (fun z => .inl z) (fun c E' e' a b fx xx => .inr (.inl ⟨c, E', e', by simp only [eChain, a1, a], b, fx, xx⟩)) fun t2 tk2 E2 e2 a2 g2 f2 ⟨i, j, k, r1, r2, q3, kk⟩ => by
      rcases q3 e2 f2 with z | ⟨c, E', e', a, b', fx, xx⟩ | ⟨td', t3, E', e3, a3, g3, f3, r3, rfl, _⟩
      · cases z
      · cases b'
      · have r3 := rdE_ok f3 g3 r3
        cases hp : p i j with
        | false =>
          rw [hp] at kk
          exact .inr (.inr ⟨.fz true (.bool false), _, E', e2, by simp only [eChain, a1, a2, rdE_ok f2 g1 r1, rdE_ok f2 g2 r2, hp], ⟨true, rfl, fun _ => rfl⟩, f2, by simpa using kk⟩)
        | true =>
          rw [hp] at kk
          exact .inr (.inr ⟨.fz true (.bool (q j k)), _, E', e3, by simp only [eChain, a1, a2, rdE_ok f2 g1 r1, rdE_ok f2 g2 r2, hp, a3, r3], ⟨true, rfl, fun _ => rfl⟩, f3, by simpa using kk⟩)
end
end TS
namespace DL
open PySem PySem.Spec PyProof.Rows L2
def sRetF (f : DE) : DS := fun env => match f env with
  | .ok t e1 => match take e1 t with
    | some (b, d, e2) => .rt (.fz b d) e2
    | none => .bad
  | .exc c e1 => .exc c e1
  | .bad => .bad
theorem ts_retF {W : L2.WX} {cm : String → Addr} {Dn : Ends} {σ : L2.St} {H : Hp} {f : DE} (h : tS W cm (sRetF f) Dn σ H) : tRet (tD W cm f) Dn σ H := by
  obtain ⟨B, pn, F, N, G, Rg, env, I, h⟩ := h
  refine ⟨B, pn, F, N, G, Rg, env, I, ?_⟩
  unfold sRetF at h
  cases e : f env with
  | bad => rw [e] at h; exact h
  | exc c e1 => rw [e] at h; exact fun F' N' Rg' H' I' hF hN => h σ F' N' Rg' H' I' hF hN
  | ok t e1 =>
    rw [e] at h
    simp only at h
    cases e2 : take e1 t with
    | none => rw [e2] at h; exact h.elim
    | some z =>
      obtain ⟨b, d, e2'⟩ := z
      rw [e2] at h
      intro v F' N' Rg' H' R I' hF hN T A
      obtain ⟨F2, N2, Rg2, I2, hF2, hN2, r⟩ := take_ok (I'.unres (Same.refl _)) T A e2
      exact h σ v F2 N2 Rg2 H' emp I2 (hF.trans hF2) (hN.trans hN2) ⟨rfl, r⟩ .none
theorem gs_retF {X : Cx} {W : L2.WX} {cm : String → Addr} {a : Expr} {pos : Pos} {f : DE} (h : PE X a (tD W cm f)) : PS X (.Return (some a) pos) (tS W cm (sRetF f)) := PSimp (ps_ret h) fun _ _ _ h => ts_retF h
end DL
namespace TS
open DL
theorem ws_retF {ρ : Type} {E : ES} {m : M ρ} {X : XC} {Q : PK ρ} {f : DE} (h : WE f E m (fun td E1 m1 => ∃ b d E2, takeE E1 td = some (b, d, E2) ∧ Q.rt (.fz b d) E2 m1) X) : WS (sRetF f) E m Q X := fun e fe =>
  h.then fe (fun z => .inl z) (fun c E' e' a b fx xx => .inr (.inl ⟨c, E', e', by simp only [sRetF, a], b, fx, xx⟩)) fun td t E' e' a g f1 ⟨b, d, E2, h1, k⟩ => by
    obtain ⟨b', e2, k1, k2, f2⟩ := takeE_ok f1 g h1
    exact .inr (.inr (.inr (.inl ⟨.fz b d, .fz b' d, E2, e2, by simp only [sRetF, a, k1], ⟨b', rfl, k2⟩, f2, k⟩)))
end TS
namespace DL
open PySem PySem.Spec PyProof.Rows L2
def maxDf (ns : List Int) (d : Int) : Int := match ns with
  | [] => d
  | x :: r => r.foldl max x
def rMaxDf (K : PySem.W.Frag) : List V → List V → Hp → VK → Prop := fun vs zs H Q => ∃ (a : Addr) (ns : List Int) (d : Int), vs = [V.ref a] ∧ zs = [V.int d] ∧ SqL K H a (ns.map V.int) ∧ Q (.int (maxDf ns d)) H
theorem reads_of_ints {h : Heap} : ∀ {ns : List Int} {us : List Value}, IntsAre us ns → ∃ as, ReadsAll h us (ns.map PyData.int) as
  | _, _, .nil => ⟨[], .nil⟩
  | _, _, .cons n t r => by
    obtain ⟨as, k⟩ := reads_of_ints r
    exact ⟨_, .cons (.int n t) k⟩
theorem alike_ints (ns : List Int) : PySem.W.AlikeAll (ns.map PyData.int) := by
  refine ⟨fun x hx y hy => ?_, fun x hx => ?_⟩
  · obtain ⟨i, _, rfl⟩ := List.mem_map.mp hx
    obtain ⟨j, _, rfl⟩ := List.mem_map.mp hy
    rfl
  · obtain ⟨i, _, rfl⟩ := List.mem_map.mp hx
    exact fun z => by cases z
theorem depth_ints : ∀ ns : List Int, PyData.depthAll (ns.map PyData.int) = 0
  | [] => by simp [PyData.depthAll]
  | n :: r => by simp only [List.map_cons, PyData.depthAll, depth_ints r, PyData.depth, Nat.max_self]
theorem cr_maxDf {X : Cx} (hc : X.calm = true) (hu : X.A.units + 65 < cLine) : CallRK X (.builtin "max") [Str.ofString "default"] (rMaxDf X.K) := by
  intro pins s σ H vs zs us ws Q I r rz h
  obtain ⟨a, ns, d, rfl, rfl, hs, q⟩ := h
  obtain ⟨its, rv, hl, _⟩ := I.list hs
  rw [Vals.ref1 r]
  obtain ⟨w1, rfl, t1, rfl⟩ := vals1 rz
  obtain ⟨as, ra⟩ := reads_of_ints (h := s.heap) (ints_of_vals rv)
  refine PySem.W.max_list_default (vs := its.toArray) (as := as) (I.ok.hd hc) hl.isList (by simpa using ra) (alike_ints ns) (by rw [depth_ints]; omega) (fun he h' tk hk => ?_) (fun y ys i v h' tk bs he hv hr hk => ?_)
  · have e : ns = [] := by cases ns; rfl; cases he
    subst e
    exact ⟨.int d, H, I.kept hk, ⟨_, rfl⟩, q⟩
  · cases ns with
    | nil => cases he
    | cons n ns =>
      rw [List.map_cons] at he
      cases he
      rw [PySem.W.maxD_ints] at hr
      cases hr
      exact ⟨.int _, H, I.kept hk, ⟨_, rfl⟩, q⟩
def dMaxDf : List D → Option D
  | [.list xs, .int d] => (intsD xs).map fun ns => .int (maxDf ns d)
  | _ => none
theorem sc_maxDf {K : PySem.W.Frag} : ScR (fun _ vs H Q => ∀ x y, vs = [x, y] → rMaxDf K [x] [y] H Q) dMaxDf := fun σ H vs ds d Q r e q => by
  match ds, r, e with
  | [.list xs, .int d0], r, e =>
    intro x y exy
    obtain ⟨x', y', e2, r1, r2⟩ := rpa2' r
    rw [exy] at e2
    cases e2
    obtain ⟨ns, en, rfl⟩ := Option.map_eq_some_iff.mp (show (intsD xs).map (fun ns => PyData.int (maxDf ns d0)) = some d from e)
    cases r1 with
    | lst hr ra =>
      rw [intsD_some en] at ra
      have := RpA.ofInts ra
      subst this
      cases r2
      exact ⟨_, ns, d0, rfl, rfl, .inl hr, q _ (.int _)⟩
theorem ge_maxDf {X : Cx} {W : L2.WX} {cm : String → Addr} {a b : Expr} {f g : DE} {p pos kpos : Pos} {nm : Option Str} (hc : X.calm = true) (hu : X.A.units + 65 < cLine) (hg : Gl X "max") (hm : X.mg "max" = none) (ha : PE X a (tD W cm f)) (hb : PE X b (tD W cm g))
    (he : backTo pos (starEach [a] X.env) = (false, eval a X.env) :: backTo pos (starEach [] X.env) := by rfl) (hpl : (backTo pos (starEach [a] X.env)).any (·.1) = false := by rfl) (hs : starEach [a] X.env = (false, eval a X.env) :: starEach [] X.env := by rfl)
    (hall : (backToKw pos (keywordEach [⟨nm, b, kpos⟩] X.env)).all (·.1.isSome) = true := by rfl) (hnone : (backToKw pos (keywordEach [⟨nm, b, kpos⟩] X.env)).any (·.1.isNone) = false := by rfl) (hks : (backToKw pos (keywordEach [⟨nm, b, kpos⟩] X.env)).filterMap (·.1) = [Str.ofString "default"] := by rfl) :
    PE X (.Call (.Name "max" p) [a] [⟨nm, b, kpos⟩] pos) (tD W cm (dAp (opSc dMaxDf) [f, g])) := by
  refine PEimp (pe_callBK (cr_maxDf hc hu) hg hm (by decide +kernel) (ga_cons ha ga_nil hs) (pk_cons hb pk_nil) (by decide) (by decide) he hpl hall hnone hks) fun σ H Q h => ?_
  have h1 := ap_read (ap_sc (sc_maxDf (K := X.K))) h
  exact tdmono (f := f) h1 fun x H1 k => tdmono (f := g) k fun y H2 k => k x y rfl
def maxL : List Int → Option Int
  | [] => none
  | x :: r => some (r.foldl max x)
theorem foldmax : ∀ (r : List Int) (x m : Int), (∀ y ∈ x :: r, y ≤ m) → m ∈ x :: r → r.foldl max x = m
  | [], x, m, h, hm => (by simpa using hm : m = x).symm
  | y :: r, x, m, h, hm => by
    rw [List.foldl_cons]
    refine foldmax r (max x y) m (fun z hz => ?_) ?_
    · rcases List.mem_cons.mp hz with rfl | hz
      · have h1 := h x List.mem_cons_self; have h2 := h y (List.mem_cons_of_mem _ List.mem_cons_self); omega
      · exact h z (List.mem_cons_of_mem _ (List.mem_cons_of_mem _ hz))
    · have h1 := h x List.mem_cons_self
      have h2 := h y (List.mem_cons_of_mem _ List.mem_cons_self)
      rcases List.mem_cons.mp hm with rfl | hm
      · rw [Int.max_eq_left h2]; exact List.mem_cons_self
      · rcases List.mem_cons.mp hm with rfl | hm
        · rw [Int.max_eq_right h1]; exact List.mem_cons_self
        · exact List.mem_cons_of_mem _ hm
def dOfI (k : List Int → Option D) : List D → Option D
  | [.list xs] => match intsD xs with
    | some ns => k ns
    | none => none
  | _ => none
theorem sc_ofI {r : List V → Hp → VK → Prop} {k : List Int → Option D} (hr : ∀ (a : Addr) (ns : List Int) (d : D) (H : Hp) (Q : VK), Rd H a (.lst (ns.map V.int)) → k ns = some d → (∀ v, Rp emp v d → Q v H) → r [.ref a] H Q) : ScR (fun _ vs H Q => r vs H Q) (dOfI k) := fun σ H vs ds d Q rv e q => by
  match ds, rv, e with
  | [.list xs], rv, e =>
    obtain ⟨x, rfl, r1⟩ := rpa1' rv
    simp only [dOfI] at e
    cases en : intsD xs with
    | none => rw [en] at e; cases e
    | some ns =>
      rw [en] at e
      cases r1 with
      | lst h ra =>
        rw [intsD_some en] at ra
        have := RpA.ofInts ra
        subst this
        exact hr _ ns d H Q h e q
abbrev dMaxL := dOfI fun ns => (maxL ns).map fun m => .int m
theorem sc_maxL {K : PySem.W.Frag} : ScR (fun _ vs H Q => rMax K vs H Q) dMaxL := sc_ofI fun a ns d H Q h e q => by
  cases ns with
  | nil => cases e
  | cons x r =>
    cases e
    exact ⟨a, x :: r, rfl, .inl h, by simp, fun m hm hy => by rw [← foldmax r x m hy hm]; exact q _ (.int _)⟩
def eMeth (op : List D → List D → Option D) (f : DE) (fs : List DE) : DE := fun env => match f env with
  | .ok t e1 => match rd e1 t with
    | some (.list _) => match dArgs fs e1 with
      | .ok ts e2 => match rd e2 t, rds e2 ts with
        | some (.list xs), some ds => match op xs ds with
          | some d => .ok (.fz true d) e2
          | none => .bad
        | _, _ => .bad
      | .exc c e2 => .exc c e2
      | .bad => .bad
    | _ => .bad
  | .exc c e1 => .exc c e1
  | .bad => .bad
def ScM (r : V → List V → Hp → VK → Prop) (op : List D → List D → Option D) : Prop := ∀ (H : Hp) (v : V) (vs : List V) (xs ds : List D) (d : D) (Q : VK), Rp H v (.list xs) → RpA H vs ds → op xs ds = some d → (∀ y, Rp emp y d → Q y H) → r v vs H Q
theorem td_meth {K : PySem.W.Frag} {W : L2.WX} {cm : String → Addr} {op : List D → List D → Option D} {r : V → List V → Hp → VK → Prop} {f : DE} {fs : List DE} (hr : ScM r op) {σ : L2.St} {H : Hp} {Q : VK} (h : tD W cm (eMeth op f fs) σ H Q) : tBM K "list" r (tD W cm f) (tAD W cm fs) σ H Q := by
  obtain ⟨B, pn, F, N, G, Rg, env, I, h⟩ := h
  refine ⟨B, pn, F, N, G, Rg, env, I, ?_⟩
  unfold eMeth at h
  cases e1 : f env with
  | bad => rw [e1] at h; exact h
  | exc c en => rw [e1] at h; exact h
  | ok t en =>
    rw [e1] at h
    simp only at h
    intro v F1 N1 Rg1 H1 R1 I1 hF1 hN1 T1 A1
    cases e2 : rd en t with
    | none => rw [e2] at h; exact h.elim
    | some d0 =>
      rw [e2] at h
      cases d0 with
      | list xs0 =>
        simp only at h
        have r0 := rd_ok I1 T1 A1.sR e2
        have hty : tyV K "list" v H1 := by
          cases r0 with
          | lst hr0 ra => exact .inl ⟨rfl, _, .inl hr0⟩
        refine ⟨hty, args_read (I1.res A1) ?_⟩
        cases e3 : dArgs fs en with
        | bad => rw [e3] at h; exact h
        | exc c en2 =>
          rw [e3] at h
          exact fun F2 N2 Rg2 H2 I2 hF2 hN2 => h F2 N2 Rg2 H2 (I2.unres (jn_left A1.dG)) (hF1.trans hF2) (hN1.trans hN2)
        | ok ts en2 =>
          rw [e3] at h
          simp only at h
          intro vs F2 N2 Rg2 H2 I2 hF2 hN2 T2
          cases e4 : rd en2 t with
          | none => rw [e4] at h; exact h.elim
          | some d1 =>
            rw [e4] at h
            cases d1 with
            | list xs =>
              cases e5 : rds en2 ts with
              | none => rw [e5] at h; exact h.elim
              | some ds =>
                rw [e5] at h
                simp only at h
                cases e6 : op xs ds with
                | none => rw [e6] at h; exact h.elim
                | some d =>
                  rw [e6] at h
                  have A2 : Apart F2 G Rg2 H2 R1 := .back I2 A1.dG
                  have I3 := I2.unres (jn_left A1.dG)
                  refine hr H2 v vs xs ds d Q (rd_ok I3 (T1.mono hF2 hN2) A2.sR e4) (rds_ok I2 T2 e5) e6 fun y ry => ?_
                  exact h y F2 N2 Rg2 H2 emp I3 (hF1.trans hF2) (hN1.trans hN2) ⟨rfl, ry.mono (emp_same _)⟩ .none
            | _ => exact h.elim
      | _ => exact h.elim
def rCountD (K : PySem.W.Frag) : V → List V → Hp → VK → Prop := fun x xs H Q => ∃ (a : Addr) (y : V) (d : PyData) (ds : List PyData), x = V.ref a ∧ xs = [y] ∧ Dp K H (V.ref a) (.list ds) ∧ Dp K H y d ∧
  SeqAt.shaped (.list ds) = true ∧ SeqAt.shaped d = true ∧ Q (.int ((ds.countP fun z => PyData.eqv z d : Nat) : Int)) H
theorem mt_countD {X : Cx} (hu : X.A.units + 65 < cLine) : MtR X "list.count" (rCountD X.K) := by
  intro pins s σ H x xs v us Q I rx rxs h
  obtain ⟨a, y, d, ds, rfl, rfl, hl, hy, sl, sd, q⟩ := h
  cases rx
  cases rxs with
  | cons ry rt =>
    rename_i uy ut
    cases rt
    obtain ⟨bs, r1⟩ := Dp.reads I d y uy hy ry
    have hxs : PyData.canLayAll0 ds = true := SeqAt.canLay_of_shaped sl
    have hroom : X.A.units + 1 + min (PyData.depthAll ds) d.depth < cLine := room_in_shaped sd hu
    cases hl with
    | lst hs ha =>
      obtain ⟨its, rv, ⟨⟨cls, dd, data, sls⟩, n, ho, hc, hdn, hdt⟩, hlen⟩ := I.list hs
      simp only at hc hdt
      subst hc hdt
      obtain ⟨as, h4⟩ := Dp.readsAll I ds _ its ha rv
      have hmap : its.map (SeqAt.readOf s.heap) = ds := SeqAt.readsAll_map ds its as hxs h4
      refine call_meets PySem.F.slot_list_count ⟨_, ho, rfl⟩ PySem.F.entry_list_count (PySem.F.args_list_count_2 _ _)
        (SeqAt.list_countAt a its.toArray n dd sls uy (fun u => PyData.eqv (SeqAt.readOf s.heap u) d)) ⟨ho, SeqAt.items_eqAt (vs := its.toArray) (show ReadsAll s.heap its.toArray.toList ds as from h4) r1 hxs (SeqAt.canLay_of_shaped sd) hroom, ?_⟩
      have ec : its.toArray.toList.countP (fun u => PyData.eqv (SeqAt.readOf s.heap u) d) = ds.countP fun z => PyData.eqv z d := by
        rw [← hmap, List.countP_map]
        rfl
      refine ⟨.int ((ds.countP fun z => PyData.eqv z d : Nat) : Int), H, I.tok _, ⟨s.toks, ?_⟩, q⟩
      show Value.int ((its.toArray.toList.countP (fun u => PyData.eqv (SeqAt.readOf s.heap u) d) : Nat) : Int) s.toks = Value.int ((ds.countP fun z => PyData.eqv z d : Nat) : Int) s.toks
      rw [ec]
def mCount : List D → List D → Option D := fun xs ds => match ds with
  | [d] => match SeqAt.shaped (.list xs) && SeqAt.shaped d with
    | true => some (.int ((xs.countP fun z => PyData.eqv z d : Nat) : Int))
    | false => none
  | _ => none
theorem rp_Dp {K : PySem.W.Frag} {H : Hp} {v : V} {d : D} (r : Rp H v d) (h : SeqAt.shaped d = true) : Dp K H v d := r.dp (Same.refl _) (SeqAt.canLay_of_shaped h)
theorem scm_count {K : PySem.W.Frag} : ScM (rCountD K) mCount := fun H v vs xs ds d Q rv rvs e q => by
  match ds, rvs, e with
  | [d0], rvs, e =>
    obtain ⟨y, rfl, ry⟩ := rpa1' rvs
    simp only [mCount] at e
    cases h : SeqAt.shaped (.list xs) && SeqAt.shaped d0 with
    | false => rw [h] at e; cases e
    | true =>
      rw [h] at e
      cases e
      rw [Bool.and_eq_true] at h
      have hd := rp_Dp (K := K) rv h.1
      cases rv with
      | lst hr ra => exact ⟨_, y, d0, xs, rfl, rfl, hd, rp_Dp ry h.2, h.1, h.2, q _ (.int _)⟩
section
variable {X : Cx} {W : L2.WX} {cm : String → Addr} {o e : Expr} {f : DE} {fs : List DE} {apos cpos : Pos}
theorem ge_count (hu : X.A.units + 65 < cLine) (ho : PE X o (tD W cm f)) (ha : PA X [e] (tAD W cm fs)) (hbase : attributeBase o "count" X.env (eval o X.env) = eval o X.env := by rfl)
    (hfew : ((backTo cpos (starEach [e] X.env)).all (fun x => !x.1) && (backToKw cpos (keywordEach [] X.env)).all (fun x => x.1.isSome)
      && decide ([e].length + ([] : List Keyword).length + (if ([] : List Keyword).isEmpty then 0 else 1) < 30)) = true := by rfl)
    (hline : (apos.endLine == cpos.line) = true := by rfl) (hs : starEach [e] X.env = (false, eval e X.env) :: starEach [] X.env := by rfl) (hplain : (backTo cpos (starEach [] X.env)).any (·.1) = false := by rfl) :
    PE X (.Call (.Attribute o "count" apos) [e] [] cpos) (tD W cm (eMeth mCount f fs)) := PEimp (pe_bm PySem.F.plainAttrs_list PySem.F.slot_list_count PySem.F.type_list_count (mt_countD hu) ho ha hbase hfew hline hs hplain) fun _ _ _ h => td_meth scm_count h
end
end DL
namespace TS
open DL
def grpI (ks : List Int) : List (List Int) := (grp ks).map fun p => p.2.map fun i => ((i : Nat) : Int)
theorem grpI_enc (ks : List Int) : (grpI ks).map (eL PySem.PyData.int) = grpD ks := by
  unfold grpI grpD
  rw [List.map_map]
  congr 1
  funext p
  show PySem.PyData.list _ = natsD p.2
  unfold natsD
  rw [List.map_map]
  rfl
def x_by_kind (ks : List Int) : M (List (List Int)) := match decide (ks.length ≤ 1000) with
  | true => .ok (grpI ks)
  | false => .bad
theorem t_grp (ks : List Int) : SimF fnGrp [.v false (eL PySem.PyData.int ks)] (x_by_kind ks) (fun r => .nw true (r.map (eL PySem.PyData.int))) (fun _ => [none]) := fun as ha => by
  obtain ⟨a, r, rfl, ⟨b', rfl, _⟩, h2⟩ := ha
  rw [show r = [] from h2]
  unfold x_by_kind
  cases h : decide (ks.length ≤ 1000) with
  | false => exact .inl rfl
  | true =>
    refine .inr (.inr ⟨grpI ks, .nw true (grpD ks), [none], rfl, ?_, ⟨true, by rw [grpI_enc], fun _ => rfl⟩, ⟨none, [], rfl, rfl, rfl⟩⟩)
    simp only [fnGrp, intsD_map, h]
end TS
namespace TS
open DL
section
variable {α β γ σ τ ρ : Type}
@[simp] theorem bind_ok (a : α) (k : α → M β) : M.bind (.ok a) k = k a := rfl
@[simp] theorem bind_exc (c : String) (k : α → M β) : M.bind (.exc c) k = .exc c := rfl
@[simp] theorem val_eq (a : α) (k : α → M β) : M.val a k = k a := rfl
@[simp] theorem nx_ok (a : α) : M.nx (.ok a) = .ok a := rfl
@[simp] theorem orRet_l (s : σ) (k : σ → M τ) : M.orRet (.ok (.inl s)) k = k s := rfl
@[simp] theorem orRet_r (t : τ) (k : σ → M τ) : M.orRet (.ok (.inr t)) k = .ok t := rfl
@[simp] theorem orRet_exc (c : String) (k : σ → M τ) : M.orRet (.exc c) k = .exc c := rfl
theorem cat_ok {xs ys : List α} (h : xs.length + ys.length ≤ 16777216) : cat xs ys = .ok (xs ++ ys) := by simp only [cat, fits_of h]
theorem idx_ok {xs : List α} {i : Int} {v : α} (h0 : 0 ≤ i) (h : xs[i.toNat]? = some v) : idx xs i = .ok v := by
  obtain ⟨k, rfl⟩ := Int.eq_ofNat_of_zero_le h0
  unfold idx
  rw [L2.atI_nat (by simpa using h)]
  rfl
theorem idx_nat {xs : List α} {k : Nat} {v : α} (h : xs[k]? = some v) : idx xs (k : Int) = .ok v := idx_ok (by omega) (by simpa using h)
theorem idx_ex {xs : List α} {i : Int} (h0 : 0 ≤ i) (h : i < xs.length) : ∃ v, idx xs i = .ok v ∧ v ∈ xs := by
  obtain ⟨k, rfl⟩ := Int.eq_ofNat_of_zero_le h0
  have hk : k < xs.length := by omega
  exact ⟨xs[k], idx_nat (List.getElem?_eq_getElem hk), List.getElem_mem hk⟩
theorem smallIx_nat {k : Nat} (h : k ≤ 16777216) : smallIx (k : Int) = true := by
  unfold smallIx
  rw [Bool.and_eq_true]
  exact ⟨decide_eq_true (by omega), decide_eq_true (by omega)⟩
theorem seqIx_nat {k n : Nat} (h : k < n) : PySem.seqIndex? (k : Int) n = some k := by
  unfold PySem.seqIndex?
  simp
  omega
theorem popAt_gen {xs : List α} {i : Int} {k : Nat} {v : α} (h1 : smallIx i = true) (h2 : PySem.seqIndex? i xs.length = some k) (h3 : xs[k]? = some v) : popAtL xs i = .ok (v, xs.eraseIdx k) := by
  simp only [popAtL, h1, h2, h3]
theorem popAt_ok {xs : List α} {i : Int} (h0 : 0 ≤ i) (h : i < xs.length) (hl : xs.length ≤ 16777216) : ∃ v, popAtL xs i = .ok (v, xs.eraseIdx i.toNat) ∧ xs[i.toNat]? = some v := by
  obtain ⟨k, rfl⟩ := Int.eq_ofNat_of_zero_le h0
  have hk : k < xs.length := by omega
  exact ⟨xs[k], popAt_gen (smallIx_nat (by omega)) (seqIx_nat hk) (List.getElem?_eq_getElem hk), by simp [List.getElem?_eq_getElem hk]⟩
theorem modM_ok {i j : Int} (h : 0 < j) : modM i j = .ok (i % j) := by simp only [modM, decide_eq_true h]
theorem divM_ok {i j : Int} (h : 0 < j) (h2 : j < 2 ^ 128) : divM i j = .ok (i / j) := by simp only [divM, decide_eq_true h, decide_eq_true h2, Bool.and_self]
theorem small64_of {i : Int} (h1 : -(2 ^ 64) < i) (h2 : i < 2 ^ 64) : small64 i = true := by
  unfold small64
  rw [Bool.and_eq_true]
  exact ⟨decide_eq_true h1, decide_eq_true h2⟩
theorem mulI_r {i j : Int} (h1 : -(2 ^ 64) < j) (h2 : j < 2 ^ 64) : mulI i j = .ok (i * j) := by simp only [mulI, small64_of h1 h2, Bool.or_true]
end
end TS
namespace TS
open DL
inductive Tree where
  | one (i : Int)
  | none
  | ask (i j : Int) (a u : Tree)
  deriving DecidableEq
def eT : Tree → D
  | .one i => .tuple [.str "one", .int i]
  | .none => .tuple [.str "none"]
  | .ask i j a u => .tuple [.str "ask", .int i, .int j, eT a, eT u]
namespace Tree
def tag : Tree → PySem.Str
  | .one _ => "one"
  | .none => "none"
  | .ask _ _ _ _ => "ask"
def isAsk : Tree → Bool
  | .ask _ _ _ _ => true
  | _ => false
def isNone : Tree → Bool
  | .none => true
  | _ => false
def at3 : Tree → M Tree
  | .ask _ _ a _ => .ok a
  | _ => .bad
def at4 : Tree → M Tree
  | .ask _ _ _ u => .ok u
  | _ => .bad
def things : Tree → List Int
  | .one i => [i]
  | .none => []
  | .ask i j _ _ => [i, j]
end Tree
theorem tree_at0 (t : Tree) (b c : Bool) : dIdx [(b, eT t), (c, .int 0)] = some (.fz b (.str t.tag)) := by cases t <;> rfl
theorem tree_at3 (t : Tree) (b c : Bool) : PEl dIdx [(b, eT t), (c, .int 3)] t.at3 (fun v => .fz b (eT v)) := ⟨by cases t <;> first | trivial | rfl⟩
theorem tree_at4 (t : Tree) (b c : Bool) : PEl dIdx [(b, eT t), (c, .int 4)] t.at4 (fun v => .fz b (eT v)) := ⟨by cases t <;> first | trivial | rfl⟩
theorem ok_ask : PySem.PyData.strOk "ask" = true := by decide +kernel
theorem ok_one : PySem.PyData.strOk "one" = true := by decide +kernel
theorem ok_none : PySem.PyData.strOk "none" = true := by decide +kernel
theorem tag_ok (t : Tree) : PySem.PyData.strOk t.tag = true := by cases t <;> first | exact ok_one | exact ok_none | exact ok_ask
theorem ne_str {x y : PySem.Str} (h1 : PySem.PyData.strOk x = true) (h2 : PySem.PyData.strOk y = true) : dNe [.str x, .str y] = some (.bool (!(x == y))) := by
  simp [dNe, PySem.SeqAt.shaped, PySem.PyData.canLay0, h1, h2, PySem.PyData.depth, PySem.PyData.eqv]
theorem tag_ne_ask (t : Tree) : dNe [.str t.tag, .str "ask"] = some (.bool (!t.isAsk)) := by rw [ne_str (tag_ok t) ok_ask]; cases t <;> first | rfl | decide +kernel | (show some (PySem.PyData.bool _) = some (PySem.PyData.bool _); congr 2; decide +kernel)
section
variable {ρ : Type} {E : ES} {m : M ρ} {X : XC} {P : TD → ES → M ρ → Prop} {Q : PK ρ}
theorem we_meth {op : List D → List D → Option D} {f : DE} {fs : List DE} (h : WE f E m (fun td E1 m1 => ∃ xs0, rdE E1 td = some (.list xs0) ∧ WA fs E1 m1 (fun tds E2 m2 => ∃ xs ds d, rdE E2 td = some (.list xs) ∧ rdsE E2 tds = some ds ∧ op xs ds = some d ∧ P (.fz true d) E2 m2) X) X) : WE (eMeth op f fs) E m P X := fun e fe =>
  h.then fe (fun z => .inl z) (fun c E' e' a b fx xx => .inr (.inl ⟨c, E', e', by simp only [eMeth, a], b, fx, xx⟩)) fun td t E1 e1 a g f1 ⟨xs0, h1, h2⟩ =>
    h2.then f1 (fun z => .inl z) (fun c E' e' a2 b fx xx => .inr (.inl ⟨c, E', e', by simp only [eMeth, a, rdE_ok f1 g h1, a2], b, fx, xx⟩)) fun tds ts E2 e2 a2 g2 f2 ⟨xs, ds, d, h3, h4, h5, k⟩ => .inr (.inr ⟨.fz true d, .fz true d, E2, e2, by simp only [eMeth, a, rdE_ok f1 g h1, a2, rdE_ok f2 g h3, rdsE_ok f2 g2 h4, h5], ⟨true, rfl, fun _ => rfl⟩, f2, k⟩)
end
section
variable {α : Type} [DecidableEq α] {f : α → D} {n : Nat}
def cnt (xs : List α) (x : α) : Int := ((xs.countP fun z => decide (z = x) : Nat) : Int)
theorem count_op (o : EncOk n f) (hn : n + 1 ≤ 64) (xs : List α) (x : α) : mCount (xs.map f) [f x] = some (.int (cnt xs x)) := by
  have h1 : PySem.SeqAt.shaped (.list (xs.map f)) = true := (enc_list o).shaped hn xs
  have h2 : PySem.SeqAt.shaped (f x) = true := o.shaped (by omega) x
  simp only [mCount, h1, h2, Bool.and_self, List.countP_map, cnt]
  congr 3
  congr 1
  funext z
  exact o.eq z x
end
def ofOI : Option Int → M Int
  | some v => .ok v
  | none => .bad
theorem ps_ofI {k : List Int → Option D} {g : List Int → Option Int} (h : ∀ ns, k ns = (g ns).map fun m => .int m) (ns : List Int) : PSc (dOfI k) [.list (ns.map PySem.PyData.int)] (ofOI (g ns)) (fun v => .int v) := by
  refine ⟨?_⟩
  cases hg : g ns with
  | none => trivial
  | some v =>
    show dOfI k _ = _
    simp only [dOfI, intsD_map, h, hg]
    rfl
theorem ps_maxL (ns : List Int) : PSc dMaxL [.list (ns.map PySem.PyData.int)] (ofOI (maxL ns)) (fun v => .int v) := ps_ofI (fun _ => rfl) ns
theorem maxDf_op (ns : List Int) (d : Int) : dMaxDf [.list (ns.map PySem.PyData.int), .int d] = some (.int (maxDf ns d)) := by
  show (intsD _).map _ = _
  rw [intsD_map]
  rfl
def isNoneD : D → Bool
  | .none => true
  | _ => false
section
variable {ρ : Type} {E : ES} {m : M ρ} {X : XC} {P : TD → ES → M ρ → Prop} {PB : Bool → ES → M ρ → Prop}
end
end TS
namespace DL
open PySem PySem.Spec PyProof.Rows L2
section
variable {W : L2.WX} {cm : String → Addr} {tab : List (Key × Int)} {df : Option Int} {σ : L2.St} {H : Hp} {Q : VK} {f : DE}
end
section
variable {X : Cx} {W : L2.WX} {cm : String → Addr} {tab : List (Key × Int)} {f : DE} {pos dpos : Pos} {keys : List (Option Expr)} {values : List Expr} {e : Expr}
end
def eFz (f : DE) : DE := fun env => match f env with
  | .ok t e1 => match take e1 t with
    | some (b, d, e2) => .ok (.fz b d) e2
    | none => .bad
  | .exc c e1 => .exc c e1
  | .bad => .bad
theorem td_fz {W : L2.WX} {cm : String → Addr} {σ : L2.St} {H : Hp} {Q : VK} {f : DE} (h : tD W cm (eFz f) σ H Q) : tD W cm f σ H Q := by
  obtain ⟨B, pn, F, N, G, Rg, env, I, h⟩ := h
  refine ⟨B, pn, F, N, G, Rg, env, I, ?_⟩
  unfold eFz at h
  cases e : f env with
  | bad => rw [e] at h; exact h
  | exc c e1 => rw [e] at h; exact h
  | ok t e1 =>
    rw [e] at h
    simp only at h
    cases e2 : take e1 t with
    | none => rw [e2] at h; exact h.elim
    | some z =>
      obtain ⟨b, d, e2'⟩ := z
      rw [e2] at h
      intro v F' N' Rg' H' R I' hF hN T A
      obtain ⟨F2, N2, Rg2, I2, hF2, hN2, r⟩ := take_ok (I'.unres (Same.refl _)) T A e2
      exact h v F2 N2 Rg2 H' emp I2 (hF.trans hF2) (hN.trans hN2) ⟨rfl, r⟩ .none
theorem ge_fz {X : Cx} {W : L2.WX} {cm : String → Addr} {a : Expr} {f : DE} (h : PE X a (tD W cm f)) : PE X a (tD W cm (eFz f)) := PEimp h fun _ _ _ h => td_fz h
end DL
namespace TS
open DL
theorem we_fz {ρ : Type} {E : ES} {m : M ρ} {X : XC} {P : TD → ES → M ρ → Prop} {f : DE} (h : WE f E m (fun td E1 m1 => ∃ b d E2, takeE E1 td = some (b, d, E2) ∧ P (.fz b d) E2 m1) X) : WE (eFz f) E m P X := fun e fe =>
  h.then fe (fun z => .inl z) (fun c E' e' a b fx xx => .inr (.inl ⟨c, E', e', by simp only [eFz, a], b, fx, xx⟩)) fun td t E' e' a g f1 ⟨b, d, E2, h1, k⟩ => by
    obtain ⟨b', e2, k1, k2, f2⟩ := takeE_ok f1 g h1
    exact .inr (.inr ⟨.fz b d, .fz b' d, E2, e2, by simp only [eFz, a, k1], ⟨b', rfl, k2⟩, f2, k⟩)
abbrev v0 : Unit → D := fun _ => .list []
end TS
namespace DL
open PySem PySem.Spec PyProof.Rows L2
end DL
namespace TS
open DL
end TS
namespace DL
open PySem PySem.Spec PyProof.Rows L2
def dedI (ns : List Int) : List Int := ns.foldl step_dedup []
def rSetL (K : PySem.W.Frag) : List V → Hp → VK → Prop := fun xs H Q => ∃ (a : Addr) (ns : List Int), xs = [V.ref a] ∧ SqL K H a (ns.map V.int) ∧ ns.length ≤ 4000 ∧ ∀ p, H p = none → Q (.ref p) (upd H p (.set (fun k => (dedI ns).any (· == k)) (dedI ns).length))
end DL
namespace TS
open DL
end TS
namespace DL
open PySem PySem.Spec PyProof.Rows L2
def leR (a b : List Int) : Bool := decide (a ≤ b)
end DL
namespace TS
open DL
end TS
namespace DL
open PySem PySem.Spec PyProof.Rows L2
section
variable {X : Cx} {x n : Str} {c : Value} {i : Nat} {body suite : List Stmt} {b₀ : Stmt} {np pos pos' : Pos} {tb : WX → TS} {ts : Addr → Obj → Value → TS} {Wout : WX}
end
inductive Exn where
  | noThing | noFit | tooMany | noName | noAsk | noText | noForm | noneYet
  deriving DecidableEq
def Exn.name : Exn → String
  | .noThing => "NoThing" | .noFit => "NoFit" | .tooMany => "TooMany" | .noName => "NoName" | .noAsk => "NoAsk" | .noText => "NoText" | .noForm => "NoForm" | .noneYet => "NoneYet"
def Exn.code : Exn → Int
  | .noThing => 0 | .noFit => 1 | .tooMany => 2 | .noName => 3 | .noAsk => 4 | .noText => 5 | .noForm => 6 | .noneYet => 7
def Exn.every : List Exn := [.noThing, .noFit, .tooMany, .noName, .noAsk, .noText, .noForm, .noneYet]
def Exn.of (c : String) : Option Exn := Exn.every.find? fun x => decide (x.name = c)
def eX (cm : String → Addr) (x : Exn) : D := .dict [(.none, .int x.code), (.none, .int ((cm x.name : Nat) : Int))]
section
variable {B : Hp} {pn : Nat → Option Addr} {env : Env} {σ : L2.St} {F N G : Hp} {Rg : Nat → Hp} {H R : Hp}
end
section
variable {X : Cx} {W W0 : L2.WX} {cm : String → Addr} {xs : List Exn} {x n : Str} {c : Value} {i : Nat} {body suite : List Stmt} {b₀ : Stmt} {np pos pos' : Pos} {s t : DS}
end
section
variable {X : Cx}
end
section
variable {X : Cx} {W : L2.WX} {cm : String → Addr} {xs : List Exn} {g : Exn → Bool} {a : Expr} {pos p : Pos} {f : DE} {k : Nat}
end
end DL
namespace TS
open DL
class CmC where
  cm : String → PySem.Addr
def eE [C : CmC] (x : Exn) : D := eX C.cm x
section
variable {ρ : Type} {E : ES} {m : M ρ} {P : TD → ES → M ρ → Prop} {Q : PK ρ} {X : XC} [C : CmC]
end
end TS
namespace HT
open PySem PySem.Spec PySem.Builtin PyProof.Rows
section
variable {prog : Program} {w : World} {A : Around} {E : Value → Shared → Prop} {s : Shared}
end
end HT

namespace DL
open PySem PySem.Spec PyProof.Rows L2
section
variable {X : Cx} {W : L2.WX} {cm : String → Addr} {a : Expr} {pos p1 p2 p3 : Pos} {f : DE} {k : Nat}
end
end DL
namespace TS
open DL
section
variable {ρ : Type} {E : ES} {m : M ρ} {P : TD → ES → M ρ → Prop} {Q : PK ρ} {X : XC}
def isiD (T : String) (d : D) : M Bool := match d with
  | .dict (_ :: _) => .bad
  | d => .ok (isTy (tyN d) T)
theorem isiD_ok {T : String} {d : D} (h : ∀ x k, d ≠ .dict (x :: k)) : isiD T d = .ok (isTy (tyN d) T) := by
  cases d with
  | dict k =>
    cases k with
    | nil => rfl
    | cons x r => exact absurd rfl (h x r)
  | _ => rfl
theorem we_isiD {T : String} {f : DE} (h : WE f E m (fun td E1 m1 => ∃ (d : D) (kk : Bool → M ρ), m1 = M.bind (isiD T d) kk ∧ rdE E1 td = some d ∧ ∀ b, P (.fz true (.bool b)) E1 (kk b)) X) : WE (eIsi T f) E m P X := fun e fe =>
  h.then fe (fun z => .inl z) (fun c E' e' a b fx xx => .inr (.inl ⟨c, E', e', by simp only [eIsi, a], b, fx, xx⟩)) fun td t E1 e1 a g1 f1 ⟨d, kk, hm, hr, k⟩ => by
    by_cases hd : ∃ x z, d = .dict (x :: z)
    · obtain ⟨x, z, rfl⟩ := hd
      exact .inl (by rw [hm]; rfl)
    · have hd' : ∀ x z, d ≠ .dict (x :: z) := fun x z e => hd ⟨x, z, e⟩
      refine .inr (.inr ⟨.fz true (.bool (isTy (tyN d) T)), .fz true (.bool (isTy (tyN d) T)), E1, e1, ?_, ⟨true, rfl, fun _ => rfl⟩, f1, ?_⟩)
      · cases d with
        | dict z =>
          cases z with
          | nil => simp only [eIsi, a, rdE_ok f1 g1 hr]
          | cons x z => exact absurd rfl (hd' x z)
        | _ => simp only [eIsi, a, rdE_ok f1 g1 hr]
      · rw [hm, isiD_ok hd']
        exact k _
theorem ws_dec {T : Type} (enc : T → D) (dec : D → Option T) (hd : ∀ d x, dec d = some x → d = enc x) {d : D} {s : DS} {kk : T → M ρ} (h0 : m = M.bind (ofO (dec d)) kk) (h : ∀ x, d = enc x → WS s E (kk x) Q X) : WS s E m Q X := by
  cases e : dec d with
  | none =>
    intro v _
    exact .inl (by rw [h0, e]; rfl)
  | some x =>
    have := h x (hd d x e)
    rw [h0, e]
    exact this
def decL : D → Option (List D)
  | .list ds => some ds
  | _ => none
theorem map_eD (ds : List D) : ds.map eD = ds := by
  induction ds with
  | nil => rfl
  | cons x r ih => rw [List.map_cons, ih]
theorem decL_ok : ∀ (d : D) (x : List D), decL d = some x → d = eL eD x := fun d x h => by
  cases d with
  | list ds =>
    cases h
    show _ = PySem.PyData.list (x.map eD)
    rw [map_eD]
  | _ => cases h
def bpL : List D → Option (List (Bool × D))
  | [] => some []
  | .tuple [.bool b, p] :: r => (bpL r).map fun l => (b, p) :: l
  | _ :: _ => none
theorem bpL_some : ∀ {xs : List D} {l : List (Bool × D)}, bpL xs = some l → xs = l.map (e2 PySem.PyData.bool eD) := by
  intro xs
  induction xs with
  | nil => intro l h; cases h; rfl
  | cons x r ih =>
    intro l h
    unfold bpL at h
    split at h
    · cases ‹_ :: _ = []›
    · rename_i b p r' e
      cases e
      obtain ⟨qs, e1, rfl⟩ := Option.map_eq_some_iff.mp h
      rw [ih e1]
      rfl
    · cases h
def decBP : D → Option (List (Bool × D))
  | .list ds => bpL ds
  | _ => none
theorem decBP_ok : ∀ (d : D) (x : List (Bool × D)), decBP d = some x → d = eL (e2 PySem.PyData.bool eD) x := fun d x h => by
  cases d with
  | list ds => rw [bpL_some (show bpL ds = some x from h)]
  | _ => cases h
def sdO {α : Type} (b : Bool) (enc : α → D) : Option α → SD
  | none => .un
  | some x => .fro b (enc x)
theorem set_opt {α : Type} {E : ES} {i : Nat} {b : Bool} {enc : α → D} {v : Option α} {s : SD} (h : E[i]? = some (sdO b enc v)) : setE E i s = some (E.set i s) := by
  unfold setE
  rw [h]
  cases v <;> rfl
theorem set_self : ∀ {E : ES} {i : Nat} {s : SD}, E[i]? = some s → E.set i s = E
  | [], _, _, h => by simp at h
  | x :: r, 0, _, h => by simp at h; subst h; rfl
  | x :: r, i + 1, _, h => by
    rw [List.set_cons_succ, set_self (by simpa using h)]
theorem we_varO {α : Type} {i : Nat} {b : Bool} {enc : α → D} {v : Option α} {kk : α → M ρ} (hi : E[i]? = some (sdO b enc v)) (h0 : m = M.bind (ofO v) kk) (h : ∀ x, P (.sl i) (E.set i (.fro b (enc x))) (kk x)) : WE (eVar i) E m P X := by
  cases v with
  | none =>
    intro e _
    exact .inl (by rw [h0]; rfl)
  | some x =>
    have hx := h x
    rw [show SD.fro b (enc x) = sdO b enc (some x) from rfl, set_self hi] at hx
    rw [h0]
    exact we_var (by unfold liveE; rw [hi]; rfl) hx
end
end TS
namespace DL
open PySem PySem.Spec PyProof.Rows L2
section
variable {X : Cx} {W : L2.WX} {cm : String → Addr} {f g : DE} {ks : List Key} {fs : List DE} {pos dpos : Pos} {keys : List (Option Expr)} {values : List Expr} {o e : Expr}
end
end DL
namespace TS
open DL PySem
section
variable {ρ : Type} {E : ES} {m : M ρ} {P : TD → ES → M ρ → Prop} {Q : PK ρ} {X : XC}
end
end TS
namespace DL
open PySem PySem.Spec PyProof.Rows L2
section
variable {X : Cx} {W : L2.WX} {cm : String → Addr} {pos : Pos}
end
theorem gvr {X : Cx} {pos : Pos} (i : Nat) {x : Str} (hN : X.N[i]? = some x := by rfl) (hv : Vis X.env.scope x := by first | exact Or.inl rfl | exact Or.inr (Or.inl rfl) | exact Or.inr (Or.inr rfl)) (hd : (x == ("__debug__" : Str)) = false := by decide)
    (hcd : (x == ("__classdict__" : Str)) = false := by decide) : PE X (.Name x pos) (tVar i) := pe_var hN hv hd hcd
section
variable {X : Cx} {W : L2.WX} {cm : String → Addr} {a b : Expr} {pos : Pos} {f g : DE}
end
end DL
namespace TS
open DL
section
variable {ρ : Type} {E : ES} {m : M ρ} {P : TD → ES → M ρ → Prop} {Q : PK ρ} {X : XC}
def isi2D (S T : String) (d : D) : M Bool := match d with
  | .dict (_ :: _) => .bad
  | d => .ok (isTy (tyN d) S || isTy (tyN d) T)
theorem isi2D_ok {S T : String} {d : D} (h : ∀ x k, d ≠ .dict (x :: k)) : isi2D S T d = .ok (isTy (tyN d) S || isTy (tyN d) T) := by
  cases d with
  | dict k =>
    cases k with
    | nil => rfl
    | cons x r => exact absurd rfl (h x r)
  | _ => rfl
theorem we_isi2D {S T : String} {f : DE} (h : WE f E m (fun td E1 m1 => ∃ (d : D) (kk : Bool → M ρ), m1 = M.bind (isi2D S T d) kk ∧ rdE E1 td = some d ∧ ∀ b, P (.fz true (.bool b)) E1 (kk b)) X) : WE (eIsi2 S T f) E m P X := fun e fe =>
  h.then fe (fun z => .inl z) (fun c E' e' a b fx xx => .inr (.inl ⟨c, E', e', by simp only [eIsi2, a], b, fx, xx⟩)) fun td t E1 e1 a g1 f1 ⟨d, kk, hm, hr, k⟩ => by
    by_cases hd : ∃ x z, d = .dict (x :: z)
    · obtain ⟨x, z, rfl⟩ := hd
      exact .inl (by rw [hm]; rfl)
    · have hd' : ∀ x z, d ≠ .dict (x :: z) := fun x z e => hd ⟨x, z, e⟩
      refine .inr (.inr ⟨.fz true (.bool (isTy (tyN d) S || isTy (tyN d) T)), .fz true (.bool (isTy (tyN d) S || isTy (tyN d) T)), E1, e1, ?_, ⟨true, rfl, fun _ => rfl⟩, f1, ?_⟩)
      · cases d with
        | dict z =>
          cases z with
          | nil => simp only [eIsi2, a, rdE_ok f1 g1 hr]
          | cons x z => exact absurd rfl (hd' x z)
        | _ => simp only [eIsi2, a, rdE_ok f1 g1 hr]
      · rw [hm, isi2D_ok hd']
        exact k _
end
def e1 {α : Type} (f : α → D) (x : α) : D := .tuple [f x]
end TS
namespace HT
open PySem PySem.Spec PySem.Builtin PyProof.Rows
section
variable {prog : Program} {w : World} {A : Around} {R : Result → Shared → Prop} {I ax S : Addr} {items : Array Value}
end
end HT

namespace DL
open PySem PySem.Spec PyProof.Rows L2
inductive LsR (P : Addr → List V → Prop) : List V → List (List V) → Prop
  | nil : LsR P [] []
  | cons {b : Addr} {vs : List V} {ws : List V} {vss : List (List V)} : P b vs → LsR P ws vss → LsR P (.ref b :: ws) (vs :: vss)
theorem LsR.same {H H' : Hp} (s : Same H H') : ∀ {ws : List V} {vss : List (List V)}, LsR (fun b vs => Rd H b (.lst vs)) ws vss → LsR (fun b vs => Rd H' b (.lst vs)) ws vss
  | _, _, .nil => .nil
  | _, _, .cons h t => .cons (Rd.same s h) (LsR.same s t)
section
variable {X : Cx} {W : L2.WX} {cm : String → Addr} {a : Expr} {f : DE} {p pos lpos : Pos}
end
end DL
namespace TS
open DL
section
variable {ρ : Type} {E : ES} {m : M ρ} {P : TD → ES → M ρ → Prop} {Q : PK ρ} {X : XC}
end
end TS
namespace DL
open PySem PySem.Spec PyProof.Rows L2
def scopeS : Slot → Slot
  | .own _ _ xs => .fro false (.list xs)
  | .ex d => .fro false d
  | .kn _ _ => .un
  | .ob _ _ => .un
  | s => s
def scopeE (env : DL.Env) : DL.Env := env.map scopeS
section
variable {B : Hp} {pn : Nat → Option Addr} {env e1 : DL.Env} {σ : L2.St} {F N G F' F1 N1 : Hp} {Rg Rg1 : Nat → Hp} {H H1 R : Hp}
open Classical in
noncomputable def wholeF (F : Hp) (Rg : Nat → Hp) (H : Hp) : Hp := fun a => if F a ≠ none ∨ ∃ i, Rg i a ≠ none then H a else none
theorem whole_some {a : Addr} {o : HO} (h : wholeF F Rg H a = some o) : H a = some o ∧ (F a ≠ none ∨ ∃ i, Rg i a ≠ none) := by
  unfold wholeF at h
  split at h
  · exact ⟨h, by assumption⟩
  · cases h
theorem whole_F (s : Same F H) : Same F (wholeF F Rg H) := fun a o e => by
  unfold wholeF
  rw [if_pos (.inl (by rw [e]; simp))]
  exact s _ _ e
theorem whole_R (i : Nat) (s : Same (Rg i) H) : Same (Rg i) (wholeF F Rg H) := fun a o e => by
  unfold wholeF
  rw [if_pos (.inr ⟨i, by rw [e]; simp⟩)]
  exact s _ _ e
theorem Ok.scope (I : Ok B pn env σ F N G Rg H) : Ok B pn (scopeE env) σ (wholeF F Rg H) N G (fun _ => emp) H where
  len := by unfold scopeE; rw [List.length_map]; exact I.len
  sF := fun a o e => (whole_some e).1
  sN := I.sN.trans (whole_F I.sF)
  sG := I.sG
  dG := fun a o e => by
    cases q : wholeF F Rg H a with
    | none => rfl
    | some u =>
      obtain ⟨_, z⟩ := whole_some q
      rcases z with z | ⟨i, z⟩
      · exact absurd (I.dG a o e) z
      · exfalso
        cases q2 : Rg i a with
        | none => exact z q2
        | some w =>
          have := I.dRG i a w q2
          rw [e] at this
          cases this
  nB := I.nB
  nZ := I.nZ
  hB := I.hB
  sl := fun i s e => by
    unfold scopeE at e
    rw [List.getElem?_map] at e
    obtain ⟨t, ht, rfl⟩ := Option.map_eq_some_iff.mp e
    have z := I.sl i t ht
    cases t with
    | un => rfl
    | lent => exact ⟨rfl, z.2⟩
    | kn p tab => rfl
    | ob p o => rfl
    | fro b d =>
      obtain ⟨_, v, e1, r⟩ := z
      exact ⟨rfl, v, e1, r.mono (bsel_mono (Same.refl _) (whole_F I.sF))⟩
    | own p b xs =>
      obtain ⟨l, vs, e1, e2, r, _⟩ := z
      refine ⟨rfl, .ref l, e1, .lst (.inl (whole_R i (I.sR i) _ _ (by rw [e2]; exact sgl_same))) (r.mono ?_)⟩
      exact (bsel_sub I.sN).trans (whole_F I.sF)
    | ex d =>
      obtain ⟨v, e1, r, _⟩ := z
      exact ⟨rfl, v, e1, r.mono (whole_R i (I.sR i))⟩
  sR := fun i => emp_same _
  dF := fun i => dj_emp _
  dRG := fun i => dj_emp _
  dR := fun i j h => dj_emp _
  out := fun i h => rfl
end
structure Rows (R : Hp) (v : V) (nss : List (List Int)) (a : Addr) (ls : List Addr) : Prop where
  ev : v = .ref a
  ra : R a = some (.lst (ls.map V.ref))
  len : ls.length = nss.length
  get : ∀ (k : Nat) l ns, ls[k]? = some l → nss[k]? = some ns → R l = some (.lst (ns.map V.int))
  nd : ls.Nodup
  na : a ∉ ls
section
variable {B : Hp} {pn : Nat → Option Addr} {env : DL.Env} {σ : L2.St} {F N G : Hp} {Rg : Nat → Hp} {H H' R : Hp}
end
def longer (c : Int) (nss : List (List Int)) : List (List Int) := nss.map fun ns => ns ++ [c]
section
variable {X : Cx} {W : L2.WX} {cm : String → Addr}
end
section
variable {X : Cx} {W : L2.WX} {cm : String → Addr}
end
end DL
namespace TS
open DL
def scopeSD : SD → SD
  | .own _ _ xs => .fro false (.list xs)
  | .ex d => .fro false d
  | .kn _ _ => .un
  | .ob _ _ => .un
  | s => s
def scopeEE (E : ES) : ES := E.map scopeSD
theorem SFit.scope : ∀ {d : SD} {s : DL.Slot}, SFit d s → SFit (scopeSD d) (scopeS s)
  | .un, s, h => by rw [show s = _ from h]; rfl
  | .lent, s, h => by rw [show s = _ from h]; rfl
  | .pl, s, h => by
    rcases h with rfl | ⟨b, d, rfl⟩
    · exact .inl rfl
    · exact .inr ⟨b, d, rfl⟩
  | .any, s, h => by
    have h : fr s = true := h
    cases s with
    | own p b xs => rfl
    | lent => cases h
    | _ => rfl
  | .fro b d, s, h => by obtain ⟨b', rfl, q⟩ := h; exact ⟨b', rfl, q⟩
  | .own p b xs, s, h => by obtain ⟨b', rfl, q⟩ := h; exact ⟨false, rfl, fun z => z⟩
  | .ex d, s, h => by rw [show s = _ from h]; exact ⟨false, rfl, fun z => z⟩
  | .kn p tab, s, h => by rw [show s = _ from h]; rfl
  | .ob p o, s, h => by rw [show s = _ from h]; rfl
theorem Fit.scope : ∀ {E : ES} {e : DL.Env}, Fit E e → Fit (scopeEE E) (scopeE e)
  | [], e, f => by rw [show e = [] from f]; rfl
  | d :: E, e, f => by
    obtain ⟨s, r, rfl, g, h⟩ := f
    exact ⟨scopeS s, scopeE r, rfl, g.scope, Fit.scope h⟩
section
variable {ρ : Type} {E : ES} {m : M ρ} {P : TD → ES → M ρ → Prop} {Q : PK ρ} {X : XC}
end
end TS
namespace DL
open PySem PySem.Spec PyProof.Rows L2
section
variable {B : Hp} {pn : Nat → Option Addr} {env : DL.Env} {σ : L2.St} {F N G : Hp} {Rg : Nat → Hp} {H H' R : Hp}
end
section
variable {X : Cx} {W : L2.WX} {cm : String → Addr}
end
end DL
namespace TS
open DL
section
variable {ρ : Type} {E : ES} {m : M ρ} {P : TD → ES → M ρ → Prop} {Q : PK ρ} {X : XC}
end
end TS
namespace DL
open PySem PySem.Spec PyProof.Rows L2
section
variable {X : Cx} {W : L2.WX} {cm : String → Addr} {a b : Expr} {pos : Pos} {f g : DE}
end
section
variable {X : Cx} {tg : Expr}
end
section
variable {X : Cx} {W : L2.WX} {cm : String → Addr} {a tg : Expr} {p pos : Pos} {f : DE}
end
end DL
namespace TS
open DL
section
variable {ρ : Type} {E : ES} {m : M ρ} {X : XC} {P : TD → ES → M ρ → Prop}
end
end TS
namespace DL
open PySem PySem.Spec PyProof.Rows L2
structure FnN (P : Program) (w : World) (K : PySem.W.Frag) (mg : Str → Option Value) (base : Heap) (CX : CXT) (k : Nat) (f : Addr) (fd : FuncData) (ps : List Str) (sp : Sp) : Prop where
  len : ∀ vs H Q E, sp vs H Q E → vs.length = ps.length
  run : ∀ (A : Around) (outer : List PySem.Env) (s : Shared) (H : Hp) (args : Args) (us : List Value) (vs : List V) (Q : VK) (E : XK), L2H.RoomH k A → Env0 P w K mg base A outer s H → BindsTo s fd args (ps.zip us) → Vals vs us → sp vs H Q E →
    codeAny (model P w) A (.call (.ref f) args) (L2.CR CX outer P w H s Q E) s
section
variable {X : Cx} {W : L2.WX} {cm : String → Addr} {k : Nat} {f : Addr} {fd : FuncData} {ps : List Str} {fn : Fn} {x : Str} {p pos : Pos} {e : Expr} {es : List Expr} {fs : List DE}
end
end DL
namespace DL
open PySem PySem.Spec PyProof.Rows L2
def CellsL (R E : Hp) : List Addr → List (List D) → Prop
  | [], [] => True
  | l :: ls, ds :: dss => l ∉ ls ∧ (∃ ws, R l = some (.lst ws) ∧ RpA E ws ds) ∧ CellsL R E ls dss
  | _, _ => False
theorem CellsL.mono {R E R' E' : Hp} (sR : Same R R') (sE : Same E E') : ∀ {ls : List Addr} {dss : List (List D)}, CellsL R E ls dss → CellsL R' E' ls dss
  | [], [], _ => trivial
  | _ :: _, _ :: _, ⟨n, ⟨_, h, r⟩, q⟩ => ⟨n, ⟨_, sR _ _ h, r.mono sE⟩, CellsL.mono sR sE q⟩
  | [], _ :: _, h => h.elim
  | _ :: _, [], h => h.elim
theorem CellsL.len {R E : Hp} : ∀ {ls : List Addr} {dss : List (List D)}, CellsL R E ls dss → ls.length = dss.length
  | [], [], _ => rfl
  | _ :: _, _ :: _, ⟨_, _, q⟩ => by rw [List.length_cons, List.length_cons, CellsL.len q]
  | [], _ :: _, h => h.elim
  | _ :: _, [], h => h.elim
theorem CellsL.mem {R E : Hp} : ∀ {ls : List Addr} {dss : List (List D)}, CellsL R E ls dss → ∀ l ∈ ls, ∃ ws, R l = some (.lst ws)
  | [], [], _, _, h => by cases h
  | _ :: _, _ :: _, ⟨_, ⟨ws, h, _⟩, q⟩, l, hm => by
    rcases List.mem_cons.mp hm with rfl | hm
    · exact ⟨ws, h⟩
    · exact CellsL.mem q l hm
  | [], _ :: _, h, _, _ => h.elim
  | _ :: _, [], h, _, _ => h.elim
theorem CellsL.scal {R E E' : Hp} : ∀ {ls : List Addr} {dss : List (List D)}, CellsL R E ls dss → dss.all (fun ds => ds.all DL.scal) = true → CellsL R E' ls dss
  | [], [], _, _ => trivial
  | _ :: _, _ :: _, ⟨n, ⟨_, h, r⟩, q⟩, s => by
    rw [List.all_cons, Bool.and_eq_true] at s
    exact ⟨n, ⟨_, h, r.scal s.1⟩, CellsL.scal q s.2⟩
  | [], _ :: _, h, _ => h.elim
  | _ :: _, [], h, _ => h.elim
section
variable {B : Hp} {pn : Nat → Option Addr} {σ : L2.St} {F N H : Hp}
end
theorem dj_jn {B R S : Hp} (h1 : dj B R) (h2 : dj B S) : dj B (jn R S) := fun a o z => by
  rcases jn_some z with z | ⟨_, z⟩
  · exact h2 a o z
  · exact h1 a o z
section
variable {X : Cx} {W : L2.WX} {cm : String → Addr} {es : List Expr} {pos : Pos}
end
end DL
namespace TS
open DL
section
variable {ρ : Type} {E : ES} {m : M ρ} {P : TD → ES → M ρ → Prop} {Q : PK ρ} {X : XC}
end
end TS
namespace DL
open PySem PySem.Spec PyProof.Rows L2
def untab : List (D × D) → Option (List (Key × D))
  | [] => some []
  | (.int k, v) :: r => (untab r).map fun t => (.inl k, v) :: t
  | (.str k, v) :: r => (untab r).map fun t => (.inr k, v) :: t
  | _ :: _ => none
def dcvT : D → Option (List (Key × D))
  | .dict ((.none, .none) :: r) => untab r
  | _ => none
def dictAt (env : Env) (i : Nat) : Option (List (Key × D)) := match env[i]? with
  | some (.ex d) => dcvT d
  | _ => none
section
variable {B : Hp} {pn : Nat → Option Addr} {env : Env} {σ : L2.St} {F N G : Hp} {Rg : Nat → Hp} {H R : Hp}
end
section
variable {X : Cx} {W : L2.WX} {cm : String → Addr} {a b : Expr} {pos : Pos} {f : DE}
end
end DL
namespace DL
open PySem PySem.Spec PyProof.Rows L2
section
variable {X : Cx} {W : L2.WX} {cm : String → Addr} {a b ix e : Expr} {c f : DE} {lpos spos apos cpos pos : Pos}
end
end DL
namespace TS
open DL
section
variable {ρ : Type} {E : ES} {m : M ρ} {P : TD → ES → M ρ → Prop} {Q : PK ρ} {X : XC}
end
end TS
namespace DL
open PySem PySem.Spec PyProof.Rows L2
theorem RpL.len {F : Hp} : ∀ {ls : List Addr} {dss : List (List D)}, RpL F ls dss → ls.length = dss.length
  | _, _, .nil => rfl
  | _, _, .cons _ _ _ q => by rw [List.length_cons, List.length_cons, RpL.len q]
theorem RpL.at {F : Hp} : ∀ {ls : List Addr} {dss : List (List D)}, RpL F ls dss → ∀ l ∈ ls, ∃ ws, F l = some (.lst ws)
  | _, _, .nil, _, h => by cases h
  | _, _, .cons h _ _ q, l, m => by
    rcases List.mem_cons.mp m with rfl | m
    · exact ⟨_, h⟩
    · exact RpL.at q l m
theorem RpL.snoc {F : Hp} {p : Addr} {ws : List V} {ds : List D} (h : F p = some (.lst ws)) (r : RpA F ws ds) : ∀ {ls : List Addr} {dss : List (List D)}, RpL F ls dss → p ∉ ls → RpL F (ls ++ [p]) (dss ++ [ds])
  | _, _, .nil, _ => .cons h (by simp) r .nil
  | _, _, .cons h0 n0 r0 q, np => by
    rw [List.mem_cons, not_or] at np
    refine .cons h0 (fun z => ?_) r0 (RpL.snoc h r q np.2)
    rcases List.mem_append.mp z with z | z
    · exact n0 z
    · exact np.1 (List.mem_singleton.mp z).symm
theorem RpL.get {F : Hp} : ∀ {ls : List Addr} {dss : List (List D)} {k : Nat} {ys : List D}, RpL F ls dss → dss[k]? = some ys → ∃ l ws, ls[k]? = some l ∧ F l = some (.lst ws) ∧ RpA F ws ys
  | _, _, k, ys, .nil, h => by simp at h
  | _, _, 0, ys, .cons h0 n0 r0 q, h => by
    rw [List.getElem?_cons_zero] at h
    cases h
    exact ⟨_, _, rfl, h0, r0⟩
  | _, _, k + 1, ys, .cons h0 n0 r0 q, h => by
    rw [List.getElem?_cons_succ] at h
    obtain ⟨l, ws, h1, h2, h3⟩ := RpL.get q h
    exact ⟨l, ws, h1, h2, h3⟩
theorem RpL.frame {R S : Hp} : ∀ {ls : List Addr} {dss : List (List D)}, RpL R ls dss → (dss.all fun ds => ds.all scal) = true → (∀ l ∈ ls, S l = R l) → RpL S ls dss
  | _, _, .nil, _, _ => .nil
  | _, _, .cons h0 n0 r0 q, s, e => by
    rw [List.all_cons, Bool.and_eq_true] at s
    exact .cons ((e _ List.mem_cons_self).trans h0) n0 (r0.scal s.1) (RpL.frame q s.2 fun l m => e l (List.mem_cons_of_mem _ m))
theorem RpL.poke {R S : Hp} {l : Addr} {ws : List V} {ys : List D} (hS : S l = some (.lst ws)) (r : RpA S ws ys) (e : ∀ a, a ≠ l → S a = R a) : ∀ {ls : List Addr} {dss : List (List D)} {k : Nat}, RpL R ls dss → (dss.all fun ds => ds.all scal) = true → ls[k]? = some l → RpL S ls (dss.set k ys)
  | _, _, k, .nil, _, h => by simp at h
  | _, _, 0, .cons h0 n0 r0 q, s, h => by
    rw [List.all_cons, Bool.and_eq_true] at s
    rw [List.getElem?_cons_zero] at h
    cases h
    exact .cons hS n0 r (q.frame s.2 fun a m => e a fun z => n0 (by rw [← z]; exact m))
  | _, _, k + 1, .cons h0 n0 r0 q, s, h => by
    rw [List.all_cons, Bool.and_eq_true] at s
    rw [List.getElem?_cons_succ] at h
    refine .cons ((e _ fun z => n0 ?_).trans h0) n0 (r0.scal s.1) (RpL.poke hS r e q s.2 h)
    rw [z]
    exact List.mem_of_getElem? h
section
variable {W : L2.WX} {cm : String → Addr}
end
section
variable {X : Cx} {W : L2.WX} {cm : String → Addr}
end
section
variable {B : Hp} {pn : Nat → Option Addr} {env : Env} {σ : L2.St} {F N G : Hp} {Rg : Nat → Hp} {H : Hp}
end
section
variable {X : Cx} {W : L2.WX} {cm : String → Addr} {x y z : Str} {npos ipos spos apos cpos pos epos : Pos}
end
end DL
namespace TS
open DL
section
variable {ρ : Type} {E : ES} {m : M ρ} {P : TD → ES → M ρ → Prop} {Q : PK ρ} {X : XC}
end
end TS
namespace DL
open PySem PySem.Spec PyProof.Rows L2
abbrev PL := List (Addr × Int × Int)
section
variable {X : Cx} {pins : List (Addr × Obj)} {σ : L2.St} {H : Hp} {s : Shared} {a : Addr} {A : Around} {E : Value → Shared → Prop} {L : PL}
end
def leA (p q : Addr × Int × Int) : Bool := decide (p.2.1 < q.2.1 ∨ (p.2.1 = q.2.1 ∧ p.2.2 ≤ q.2.2))
section
variable {X : Cx} {pos pos' : Pos} {o i value : Expr} {td ty tv : TE}
end
end DL
namespace DL
open PySem PySem.Spec PyProof.Rows L2
def leP (p q : Int × Int) : Bool := decide (p.1 < q.1 ∨ (p.1 = q.1 ∧ p.2 ≤ q.2))
section
variable {X : Cx} {W : L2.WX} {cm : String → Addr} {x : Str} {npos pos pos' tpos cpos fpos : Pos} {es : List Expr} {fs : List DE}
end
end DL
namespace TS
open DL
section
variable {ρ : Type} {E : ES} {m : M ρ} {P : TD → ES → M ρ → Prop} {Q : PK ρ} {X : XC}
end
end TS
namespace DL
open PySem PySem.Spec PyProof.Rows L2
def kk (x : NK) : NestedKey := .tup (x.map fun l => .tup (l.map .num))
section
variable {X : Cx} {pins : List (Addr × Obj)} {σ : L2.St} {H : Hp} {s : Shared} {F : Hp}
end
section
variable {X : Cx} {pins : List (Addr × Obj)} {σ : L2.St} {H : Hp} {s : Shared} {a : Addr} {A : Around} {E : Value → Shared → Prop} {L : NL} {F : Hp}
end
end DL
namespace DL
open PySem PySem.Spec PyProof.Rows L2
section
variable {B : Hp} {pn : Nat → Option Addr} {env : Env} {σ : L2.St} {F N G : Hp} {Rg : Nat → Hp} {H R : Hp}
end
end DL
namespace DL
open PySem PySem.Spec PyProof.Rows L2
inductive FRK where
  | ok (d : D) (tab : NTab)
  | bad
section
variable {B : Hp} {pn : Nat → Option Addr} {env : Env} {σ : L2.St} {F N G : Hp} {Rg : Nat → Hp} {H R : Hp}
end
section
variable {B : Hp} {pn : Nat → Option Addr} {env : Env} {σ : L2.St} {F N G : Hp} {Rg : Nat → Hp} {H R J : Hp}
theorem rpa_len : ∀ {vs : List V} {ds : List D}, RpA F vs ds → vs.length = ds.length
  | _, _, .nil => rfl
  | _, _, .cons _ r => by rw [List.length_cons, List.length_cons, rpa_len r]
theorem rpa_at : ∀ {vs : List V} {ds : List D} {j : Nat} {d : D}, RpA F vs ds → ds[j]? = some d → ∃ v, vs[j]? = some v ∧ Rp F v d
  | _, _, _, _, .nil, e => by simp at e
  | v :: _, _, 0, d, .cons r _, e => by
    cases e
    exact ⟨v, rfl, r⟩
  | _, _, j + 1, d, .cons _ r, e => rpa_at (j := j) r (by simpa using e)
end
end DL
namespace DL
open PySem PySem.Spec PyProof.Rows L2
inductive ORes where
  | ok (d : D) (o : Ob)
  | exc (c : String) (o : Ob)
  | bad
abbrev OpO := Ob → List D → ORes
def obC : Ob → Option Addr
  | .kp C _ => some C
  | .dk C _ => some C
  | .rw _ => none
  | .pp _ => none
def obN : List Str := ["order", "rows", "coming", "at", "answers", "many"]
structure Beh (R H R' H' : Hp) : Prop where
  st : ∀ b u, R b = none → H b = some u → H' b = some u
  gr : ∀ b, H' b = none → H b = none
  sR : Same R' H'
  nw : ∀ b u, R' b = some u → H b = none ∨ ∃ w, R b = some w
theorem Beh.refl {R H : Hp} (h : Same R H) : Beh R H R H := ⟨fun _ _ _ e => e, fun _ e => e, h, fun b u e => .inr ⟨u, e⟩⟩
theorem Beh.trans {R H R1 H1 R2 H2 : Hp} (a : Beh R H R1 H1) (b : Beh R1 H1 R2 H2) (s : Same R H) : Beh R H R2 H2 where
  st := fun x u n e => b.st x u (by
    cases q : R1 x with
    | none => rfl
    | some w =>
      rcases a.nw x w q with z | ⟨w', z⟩
      · rw [e] at z; cases z
      · rw [n] at z; cases z) (a.st x u n e)
  gr := fun x e => a.gr x (b.gr x e)
  sR := b.sR
  nw := fun x u e => by
    rcases b.nw x u e with z | ⟨w, z⟩
    · exact .inl (a.gr x z)
    · exact a.nw x w z
theorem Beh.keep {R H R' H' Y : Hp} (b : Beh R H R' H') (s : Same Y H) (d : dj Y R) : Same Y H' ∧ dj Y R' := by
  refine ⟨fun x u e => b.st x u ?_ (s x u e), fun x u e => ?_⟩
  · cases q : R x with
    | none => rfl
    | some w => rw [d x w q] at e; cases e
  · rcases b.nw x u e with z | ⟨w, z⟩
    · exact s.free z
    · exact d x w z
theorem ObR.cls {R : Hp} {a C : Addr} {o : Ob} (h : ObR R a o) (hc : obC o = some C) : ∃ dx fs, R a = some (.ins C dx fs) ∧ ∀ m, m ∉ obN → fs.lookup m = none := by
  cases o with
  | rw _ => cases hc
  | pp _ => cases hc
  | kp C' st =>
    cases hc
    obtain ⟨dx, lo, lr, ls, h1, _⟩ := h
    refine ⟨dx, _, h1, fun m hm => ?_⟩
    simp only [obN, List.mem_cons, List.not_mem_nil, or_false, not_or] at hm
    obtain ⟨m1, m2, m3, m4, m5, m6⟩ := hm
    simp only [ksF, List.lookup, beq_eq_false_iff_ne.mpr m1, beq_eq_false_iff_ne.mpr m2, beq_eq_false_iff_ne.mpr m3, beq_eq_false_iff_ne.mpr m4, beq_eq_false_iff_ne.mpr m5]
  | dk C' st =>
    cases hc
    obtain ⟨dx, la, vs, h1, _⟩ := h
    refine ⟨dx, _, h1, fun m hm => ?_⟩
    simp only [obN, List.mem_cons, List.not_mem_nil, or_false, not_or] at hm
    obtain ⟨m1, m2, m3, m4, m5, m6⟩ := hm
    simp only [dsF, List.lookup, beq_eq_false_iff_ne.mpr m5, beq_eq_false_iff_ne.mpr m6]
section
variable {B : Hp} {pn : Nat → Option Addr} {env : Env} {σ : L2.St} {F N G : Hp} {Rg : Nat → Hp} {H R J : Hp}
theorem Ok.obj {i : Nat} {p : Bool} {o o' : Ob} {a : Addr} {R' H' : Hp} (I : Ok B pn env σ F N G Rg H) (es : env[i]? = some (.ob p o)) (ha : σ[i]? = some (some (.ref a))) (b : Beh (Rg i) H R' H') (r : ObR R' a o') : Ok B pn (env.set i (.ob p o')) σ F N G (setR Rg i R') H' where
  len := by rw [List.length_set]; exact I.len
  sF := (b.keep I.sF (I.dF i)).1
  sN := I.sN
  sG := (b.keep I.sG (I.dRG i)).1
  dG := I.dG
  nB := I.nB
  nZ := I.nZ
  hB := fun x e => I.hB x (b.gr x e)
  sl := fun j s ej => by
    by_cases hj : j = i
    · subst hj
      rw [List.getElem?_set_self (Ok.slotLt es)] at ej
      cases ej
      rw [setR_same]
      obtain ⟨a0, e0, _, e2⟩ := I.sl _ _ es
      rw [ha] at e0
      cases e0
      refine ⟨a, ha, r, ?_⟩
      cases p with
      | true => exact e2
      | false =>
        exact fun x u e => by
          rcases b.nw x u e with z | ⟨w, z⟩
          · exact I.hB x z
          · exact e2 x w z
    · rw [List.getElem?_set_ne (Ne.symm hj)] at ej
      rw [setR_ne hj]
      exact I.sl j s ej
  sR := fun j => by
    by_cases hj : j = i
    · subst hj; rw [setR_same]; exact b.sR
    · rw [setR_ne hj]; exact (b.keep (I.sR j) (I.dR j i hj)).1
  dF := fun j => by
    by_cases hj : j = i
    · subst hj; rw [setR_same]; exact (b.keep I.sF (I.dF j)).2
    · rw [setR_ne hj]; exact I.dF j
  dRG := fun j => by
    by_cases hj : j = i
    · subst hj; rw [setR_same]; exact (b.keep I.sG (I.dRG j)).2
    · rw [setR_ne hj]; exact I.dRG j
  dR := fun j k hjk => by
    by_cases hj : j = i
    · subst hj
      rw [setR_same, setR_ne (Ne.symm hjk)]
      exact dj_comm (b.keep (I.sR k) (I.dR k j (Ne.symm hjk))).2
    · rw [setR_ne hj]
      by_cases hk : k = i
      · subst hk
        rw [setR_same]
        exact (b.keep (I.sR j) (I.dR j k hjk)).2
      · rw [setR_ne hk]
        exact I.dR j k hjk
  out := fun j hj => by
    rw [List.length_set] at hj
    have := Ok.slotLt es
    rw [setR_ne (by omega)]
    exact I.out j hj
end
section
variable {X : Cx} {CX : CXT} {k : Nat} {f C : Addr} {fd : FuncData} {ps : List Str} {sp : Sp} {E : L2.St → XK} {x m : Str} {p pos apos : Pos} {e o : Expr} {es : List Expr} {ta : TE} {t : TA}
end
section
variable {X : Cx} {W : L2.WX} {cm : String → Addr} {k : Nat} {xx : Bool} {f C : Addr} {fd : FuncData} {ps : List Str} {op : OpO} {x m : Str} {p pos apos : Pos} {o e : Expr} {es : List Expr} {fs : List DE} {i : Nat}
end
end DL
namespace DL
open PySem PySem.Spec PyProof.Rows L2
section
variable {B : Hp} {pn : Nat → Option Addr} {env : Env} {σ : L2.St} {F N G : Hp} {Rg : Nat → Hp} {H R J : Hp}
end
inductive MRes where
  | ok (o : Ob)
  | exc (c : String)
  | bad
abbrev OpM := List D → MRes
def mEnv (ds : List D) : Env := ds.map (fun d => Slot.fro false d)
theorem enterM {H : Hp} {vs : List V} {ds : List D} (r : RpA H vs ds) : Ok H (fun _ => none) (mEnv ds) (vs.map some) H emp emp (fun _ => emp) H where
  len := by unfold mEnv; rw [List.length_map, List.length_map, rpa_len r]
  sF := Same.refl _
  sN := emp_same _
  sG := emp_same _
  dG := dj_emp _
  nB := dj_emp _
  nZ := fun _ _ _ e => nomatch e
  hB := fun _ e => e
  sl := fun j s es => by
    unfold mEnv at es
    rw [List.getElem?_map] at es
    obtain ⟨d, hd, rfl⟩ := Option.map_eq_some_iff.mp es
    obtain ⟨v, hv, rv⟩ := rpa_at r hd
    exact ⟨rfl, v, by rw [List.getElem?_map, hv]; rfl, rv⟩
  sR := fun _ => emp_same _
  dF := fun _ => dj_emp _
  dRG := fun _ => dj_emp _
  dR := fun _ _ _ => dj_emp _
  out := fun _ _ => rfl
section
variable {X : Cx} {W : L2.WX} {cm : String → Addr} {k : Nat} {f C : Addr} {fd : FuncData} {ps : List Str} {op : OpM} {x y m : Str} {p pos apos pos' : Pos} {e : Expr} {es : List Expr} {fs : List DE} {i : Nat}
end
end DL
namespace DL
open PySem PySem.Spec PyProof.Rows L2
end DL
namespace DL
open PySem PySem.Spec PyProof.Rows L2
structure KpR (R : Hp) (a C dx lo lr : Addr) (ls : List Addr) (st : Ks) : Prop where
  ha : R a = some (.ins C dx (ksF lo lr st))
  ho : R lo = some (.lst (st.order.map V.int))
  hr : R lr = some (.lst (ls.map V.ref))
  n1 : lo ≠ lr
  n2 : lo ∉ ls
  n3 : lr ∉ ls
  rw : RowsR R ls st.rows
theorem KpR.of {R : Hp} {a C : Addr} {st : Ks} (h : ObR R a (.kp C st)) : ∃ dx lo lr ls, KpR R a C dx lo lr ls st := by
  obtain ⟨dx, lo, lr, ls, h1, h2, h3, h4, h5, h6, h7⟩ := h
  exact ⟨dx, lo, lr, ls, h1, h2, h3, h4, h5, h6, h7⟩
theorem KpR.ob {R : Hp} {a C dx lo lr : Addr} {ls : List Addr} {st : Ks} (k : KpR R a C dx lo lr ls st) : ObR R a (.kp C st) := ⟨dx, lo, lr, ls, k.ha, k.ho, k.hr, k.n1, k.n2, k.n3, k.rw⟩
theorem RowsR.len {R : Hp} : ∀ {ls : List Addr} {rs : List (List Int)}, RowsR R ls rs → ls.length = rs.length
  | [], rs, h => by rw [show rs = [] from h]; rfl
  | l :: ls, rs, h => by
    obtain ⟨r, q, rfl, _, _, h3⟩ := h
    rw [List.length_cons, List.length_cons, h3.len]
theorem RowsR.at {R : Hp} : ∀ {ls : List Addr} {rs : List (List Int)} {j : Nat} {r : List Int}, RowsR R ls rs → rs[j]? = some r → ∃ l, ls[j]? = some l ∧ R l = some (.lst (r.map V.int))
  | [], rs, j, r, h, e => by rw [show rs = [] from h] at e; simp at e
  | l :: ls, rs, 0, r, h, e => by
    obtain ⟨r0, q, rfl, h1, _, _⟩ := h
    cases e
    exact ⟨l, rfl, h1⟩
  | l :: ls, rs, j + 1, r, h, e => by
    obtain ⟨r0, q, rfl, _, _, h3⟩ := h
    obtain ⟨l', e1, e2⟩ := h3.at (j := j) (by simpa using e)
    exact ⟨l', by simpa using e1, e2⟩
theorem RowsR.fnd {R : Hp} : ∀ {ls : List Addr} {rs : List (List Int)} {l : Addr}, RowsR R ls rs → l ∈ ls → ∃ r : List Int, R l = some (.lst (r.map V.int))
  | [], rs, l, h, m => by cases m
  | l0 :: ls, rs, l, h, m => by
    obtain ⟨r0, q, rfl, h1, _, h3⟩ := h
    rcases List.mem_cons.mp m with rfl | m
    · exact ⟨r0, h1⟩
    · exact h3.fnd m
theorem RowsR.frame {R S : Hp} : ∀ {ls : List Addr} {rs : List (List Int)}, RowsR R ls rs → (∀ l ∈ ls, S l = R l) → RowsR S ls rs
  | [], rs, h, _ => h
  | l :: ls, rs, h, e => by
    obtain ⟨r, q, rfl, h1, h2, h3⟩ := h
    exact ⟨r, q, rfl, (e l List.mem_cons_self).trans h1, h2, h3.frame fun m hm => e m (List.mem_cons_of_mem _ hm)⟩
theorem RowsR.snoc {R : Hp} {p : Addr} {r : List Int} (hp : R p = some (.lst (r.map V.int))) : ∀ {ls : List Addr} {rs : List (List Int)}, RowsR R ls rs → p ∉ ls → RowsR R (ls ++ [p]) (rs ++ [r])
  | [], rs, h, _ => by
    rw [show rs = [] from h]
    exact ⟨r, [], rfl, hp, by simp, rfl⟩
  | l :: ls, rs, h, n => by
    obtain ⟨r0, q, rfl, h1, h2, h3⟩ := h
    rw [List.mem_cons, not_or] at n
    refine ⟨r0, q ++ [r], rfl, h1, fun z => ?_, h3.snoc hp n.2⟩
    rcases List.mem_append.mp z with z | z
    · exact h2 z
    · exact n.1 (List.mem_singleton.mp z).symm
theorem RowsR.poke {R S : Hp} {l : Addr} {r : List Int} (hl : S l = some (.lst (r.map V.int))) (e : ∀ b, b ≠ l → S b = R b) : ∀ {ls : List Addr} {rs : List (List Int)} {j : Nat}, RowsR R ls rs → ls[j]? = some l → RowsR S ls (rs.set j r)
  | [], rs, j, h, z => by simp at z
  | l0 :: ls, rs, 0, h, z => by
    obtain ⟨r0, q, rfl, h1, h2, h3⟩ := h
    cases z
    exact ⟨r, q, rfl, hl, h2, h3.frame fun m hm => e m fun w => h2 (by rw [← w]; exact hm)⟩
  | l0 :: ls, rs, j + 1, h, z => by
    obtain ⟨r0, q, rfl, h1, h2, h3⟩ := h
    have z : ls[j]? = some l := by simpa using z
    refine ⟨r0, q.set j r, rfl, (e _ fun w => h2 ?_).trans h1, h2, RowsR.poke hl e h3 z⟩
    rw [w]
    exact List.mem_of_getElem? z
theorem KpR.frame {R S : Hp} {a C dx lo lr : Addr} {ls : List Addr} {st : Ks} (k : KpR R a C dx lo lr ls st) (s : Same R S) : KpR S a C dx lo lr ls st :=
  ⟨s _ _ k.ha, s _ _ k.ho, s _ _ k.hr, k.n1, k.n2, k.n3, k.rw.frame fun l m => by obtain ⟨r, e⟩ := k.rw.fnd m; exact (s _ _ e).trans e.symm⟩
theorem KpR.nao {R : Hp} {a C dx lo lr : Addr} {ls : List Addr} {st : Ks} (k : KpR R a C dx lo lr ls st) : a ≠ lo := fun z => by have := k.ha; rw [z, k.ho] at this; cases this
theorem KpR.nar {R : Hp} {a C dx lo lr : Addr} {ls : List Addr} {st : Ks} (k : KpR R a C dx lo lr ls st) : a ≠ lr := fun z => by have := k.ha; rw [z, k.hr] at this; cases this
theorem KpR.nal {R : Hp} {a C dx lo lr : Addr} {ls : List Addr} {st : Ks} (k : KpR R a C dx lo lr ls st) : a ∉ ls := fun z => by
  obtain ⟨r, e⟩ := k.rw.fnd z
  have := k.ha
  rw [e] at this
  cases this
theorem KpR.put {R : Hp} {a C dx lo lr : Addr} {ls : List Addr} {st : Ks} (k : KpR R a C dx lo lr ls st) {st' : Ks} (h1 : st'.order = st.order) (h2 : st'.rows = st.rows) : KpR (upd R a (.ins C dx (ksF lo lr st'))) a C dx lo lr ls st' where
  ha := upd_same
  ho := by rw [upd_ne (Ne.symm k.nao), h1]; exact k.ho
  hr := by rw [upd_ne (Ne.symm k.nar)]; exact k.hr
  n1 := k.n1
  n2 := k.n2
  n3 := k.n3
  rw := by rw [h2]; exact k.rw.frame fun l m => upd_ne fun z => k.nal (by rw [← z]; exact m)
theorem KpR.row {R : Hp} {a C dx lo lr l : Addr} {ls : List Addr} {st : Ks} (k : KpR R a C dx lo lr ls st) {j : Nat} (hj : ls[j]? = some l) (r : List Int) : KpR (upd R l (.lst (r.map V.int))) a C dx lo lr ls { st with rows := st.rows.set j r } := by
  have m : l ∈ ls := List.mem_of_getElem? hj
  exact {
    ha := by rw [upd_ne fun z => k.nal (by rw [z]; exact m)]; exact k.ha
    ho := by rw [upd_ne fun z => k.n2 (by rw [z]; exact m)]; exact k.ho
    hr := by rw [upd_ne fun z => k.n3 (by rw [z]; exact m)]; exact k.hr
    n1 := k.n1
    n2 := k.n2
    n3 := k.n3
    rw := RowsR.poke upd_same (fun b z => upd_ne z) k.rw hj }
theorem Beh.upd {R H : Hp} {b : Addr} {o : HO} (s : Same R H) (h : H b = none ∨ ∃ w, R b = some w) : Beh R H (L2.upd R b o) (L2.upd H b o) where
  st := fun x u n e => by
    by_cases hx : x = b
    · subst hx
      rcases h with h | ⟨w, h⟩
      · rw [h] at e; cases e
      · rw [n] at h; cases h
    · rw [upd_ne hx]; exact e
  gr := fun x e => by
    by_cases hx : x = b
    · subst hx; rw [upd_same] at e; cases e
    · rw [upd_ne hx] at e; exact e
  sR := fun x u e => by
    by_cases hx : x = b
    · subst hx; rw [upd_same] at e ⊢; exact e
    · rw [upd_ne hx] at e ⊢; exact s _ _ e
  nw := fun x u e => by
    by_cases hx : x = b
    · subst hx; exact h
    · rw [upd_ne hx] at e; exact .inr ⟨u, e⟩
structure KCls (K : PySem.W.Frag) (C : Addr) : Prop where
  cl : Cls K C
  n_order : NoAttr K C "order"
  n_rows : NoAttr K C "rows"
  n_coming : NoAttr K C "coming"
  n_at : NoAttr K C "at"
  n_answers : NoAttr K C "answers"
section
variable {K : PySem.W.Frag} {R H : Hp} {a C dx lo lr : Addr} {ls : List Addr} {st : Ks} {σ : L2.St} {Q : VK} {D : Ends}
end
section
variable {P : Program} {w : World} {K : PySem.W.Frag} {mg : Str → Option Value} {base : Heap} {cm : String → Addr} {x qual : Str} {st : Stmt} {f C : Addr} {fd : FuncData} {k : Nat}
abbrev PSm (P : Program) (w : World) (K : PySem.W.Frag) (mg : Str → Option Value) (base : Heap) (Nm : List Str) (qual : Str) (st : Stmt) (f : Addr) (k : Nat) (t : L2.WX → TS) : Prop :=
  ∀ (cdv : Value) (A : Around) (outer : List PySem.Env) (s0 : Shared) (H : Hp) (E : XK), Room k (A.deeper (envOfC qual (defScope st) s0.heap.objs.size f cdv)) → PSs (cxOf (L2.CX P w) P w K mg base Nm qual (defScope st) f cdv A outer s0 H E) (defBody st) (t fun cls d _ H => E cls d H)
end
end DL
namespace DL
open PySem PySem.Spec PyProof.Rows L2
section
variable {K : PySem.W.Frag} {R H R' H' : Hp} {a C dx lo lr : Addr} {ls : List Addr} {st st' : Ks} {σ : L2.St} {Q : VK} {D : Ends} {cm : String → Addr} {o' : Ob} {d : DL.D}
theorem tyL {l : Addr} {xs : List V} (h : H l = some (.lst xs)) : tyV K "list" (.ref l) H := .inl ⟨rfl, xs, .inl (.inl h)⟩
end
section
variable {P : Program} {w : World} {K : PySem.W.Frag} {mg : Str → Option Value} {base : Heap} {cm : String → Addr} {x qual : Str} {st : Stmt} {f C : Addr} {fd : FuncData} {k : Nat}
theorem rpA_nil {F : Hp} {vs : List V} (h : RpA F vs []) : vs = [] := by cases h; rfl
end
end DL
namespace DL
open PySem PySem.Spec PyProof.Rows L2
theorem Beh.grow {R H H' : Hp} (s : Same R H) (g : Same H H') : Beh R H R H' := ⟨fun b u _ e => g b u e, fun b e => g.free e, s.trans g, fun b u e => .inr ⟨u, e⟩⟩
section
variable {K : PySem.W.Frag} {R H : Hp} {σ : L2.St} {Q : VK}
end
section
variable {P : Program} {w : World} {K : PySem.W.Frag} {mg : Str → Option Value} {base : Heap} {cm : String → Addr} {x qual : Str} {st : Stmt} {f C : Addr} {fd : FuncData} {k : Nat}
end
end DL
namespace DL
open PySem PySem.Spec PyProof.Rows L2
def rListOf (K : PySem.W.Frag) : List V → Hp → VK → Prop := fun xs H Q => ∃ p ys, xs = [.ref p] ∧ (SqL K H p ys ∨ SqT K H p ys) ∧ ∀ l, H l = none → Q (.ref l) (upd H l (.lst ys))
end DL
namespace DL
open PySem PySem.Spec PyProof.Rows L2
section
variable {P : Program} {w : World} {K : PySem.W.Frag} {mg : Str → Option Value} {base : Heap} {cm : String → Addr} {x qual : Str} {st : Stmt} {f C : Addr} {fd : FuncData} {k : Nat}
end
end DL
namespace DL
open PySem PySem.Spec PyProof.Rows L2
section
variable {P : Program} {w : World} {K : PySem.W.Frag} {mg : Str → Option Value} {base : Heap} {cm : String → Addr} {x qual : Str} {st : Stmt} {f C : Addr} {fd : FuncData} {k : Nat}
end
end DL
namespace DL
open PySem
end DL
namespace TS
open DL
section
variable {ρ : Type} {E : ES} {m : M ρ} {X : XC} {P : TD → ES → M ρ → Prop}
end
end TS
namespace TS
open DL
section
variable {ρ : Type} {E : ES} {m : M ρ} {X : XC} {P : TD → ES → M ρ → Prop} {PB : Bool → ES → M ρ → Prop} {Q : PK ρ}
end
end TS
namespace TS
open DL
def SimO {S β : Type} (g : S → Ob) (op : OpO) (ds : List D) (x : S → M (β × S)) (f : β → D) : Prop := ∀ st, (∀ v st', x st = .ok (v, st') → op (g st) ds = .ok (f v) (g st')) ∧ ∀ c, x st = .exc c → op (g st) ds = .exc c (g st)
section
variable {ρ : Type} {E : ES} {m : M ρ} {X : XC} {P : TD → ES → M ρ → Prop} {PB : Bool → ES → M ρ → Prop} {Q : PK ρ}
theorem fit_ob {e : Env} {i : Nat} {p : Bool} {o : Ob} (fe : Fit E e) (h : E[i]? = some (.ob p o)) : e[i]? = some (.ob p o) := by
  obtain ⟨s, h1, h2⟩ := fe.get h
  rw [h1, show s = _ from h2]
theorem we_varOb {i : Nat} {p : Bool} {o : Ob} (h : E[i]? = some (.ob p o)) (k : P (.sl i) E m) : WE (eVar i) E m P X := we_ok fun e fe => ⟨.sl i, .sl i, E, e, by unfold eVar; rw [fit_ob fe h], rfl, fe, k⟩
end
theorem fit_fro : ∀ (ds : List D) (n : Nat), Fit (ds.map (.fro false) ++ List.replicate n .un) (ds.map (fun d => DL.Slot.fro false d) ++ List.replicate n .un)
  | [], n => by
    show Fit (List.replicate n .un) (List.replicate n .un)
    induction n with
    | zero => rfl
    | succ n ih => exact ⟨_, _, rfl, rfl, ih⟩
  | d :: ds, n => ⟨.fro false d, _, rfl, ⟨false, rfl, fun z => z⟩, fit_fro ds n⟩
section
variable {C : PySem.Addr}
end
end TS
namespace TS
open DL
def SimR {S β : Type} (g : S → Ob) (op : OpO) (ds : List D) (x : S → M β) (f : β → D) : Prop := ∀ st, (∀ v, x st = .ok v → op (g st) ds = .ok (f v) (g st)) ∧ ∀ c, x st = .exc c → op (g st) ds = .exc c (g st)
def lookO {S β : Type} (x : S → M β) (st : S) : M (β × S) := M.bind (x st) fun v => .ok (v, st)
section
variable {ρ : Type} {E : ES} {m : M ρ} {X : XC} {P : TD → ES → M ρ → Prop} {Q : PK ρ}
end
theorem SimR.of {S β : Type} {g : S → Ob} {op : OpO} {ds : List D} {x : S → M (β × S)} {y : S → M β} {f : β → D} (h : SimO g op ds x f) (e : ∀ st, x st = lookO y st) : SimR g op ds y f := fun st => by
  refine ⟨fun v q => ?_, fun c q => ?_⟩
  · exact (h st).1 v st (by rw [e]; unfold lookO; rw [q]; rfl)
  · exact (h st).2 c (by rw [e]; unfold lookO; rw [q]; rfl)
section
variable {C : PySem.Addr}
end
end TS
namespace DL
open PySem PySem.Spec PyProof.Rows L2
inductive ORes2 where
  | ok (d : D) (o1 o2 : Ob)
  | bad
abbrev OpO2 := Ob → Ob → List D → ORes2
structure Beh2 (R1 R2 H R1' R2' H' : Hp) : Prop where
  st : ∀ b u, R1 b = none → R2 b = none → H b = some u → H' b = some u
  gr : ∀ b, H' b = none → H b = none
  s1 : Same R1' H'
  s2 : Same R2' H'
  n1 : ∀ b u, R1' b = some u → H b = none ∨ ∃ w, R1 b = some w
  n2 : ∀ b u, R2' b = some u → H b = none ∨ ∃ w, R2 b = some w
  d12 : dj R1' R2'
theorem Beh2.keep {R1 R2 H R1' R2' H' Y : Hp} (b : Beh2 R1 R2 H R1' R2' H') (s : Same Y H) (d1 : dj Y R1) (d2 : dj Y R2) : Same Y H' ∧ dj Y R1' ∧ dj Y R2' := by
  have no : ∀ {R : Hp}, dj Y R → ∀ {x u}, Y x = some u → R x = none := fun {R} d {x u} e => by
    cases q : R x with
    | none => rfl
    | some w => rw [d x w q] at e; cases e
  refine ⟨fun x u e => b.st x u (no d1 e) (no d2 e) (s x u e), fun x u e => ?_, fun x u e => ?_⟩
  · rcases b.n1 x u e with z | ⟨w, z⟩
    · exact s.free z
    · exact d1 x w z
  · rcases b.n2 x u e with z | ⟨w, z⟩
    · exact s.free z
    · exact d2 x w z
section
variable {B : Hp} {pn : Nat → Option Addr} {env : Env} {σ : L2.St} {F N G : Hp} {Rg : Nat → Hp} {H R J : Hp}
end
section
variable {B : Hp} {pn : Nat → Option Addr} {env : Env} {σ : L2.St} {F N G : Hp} {Rg : Nat → Hp} {H R J : Hp}
end
section
variable {X : Cx} {W : L2.WX} {cm : String → Addr} {k : Nat} {f : Addr} {fd : FuncData} {ps : List Str} {op : OpO2} {x : Str} {p pos : Pos} {e : Expr} {es : List Expr} {fs : List DE}
end
end DL
namespace DL
open PySem PySem.Spec PyProof.Rows L2
inductive AskR where
  | no (st : Ks)
  | grow (i : Nat) (h : Int) (st : Ks)
  | new (h : Int) (st : Ks)
  | bad
theorem Beh2.of {R1 R2 H R1' H' R2' H'' : Hp} (b : Beh R1 H R1' H') (s1 : Same R1 H) (s2 : Same R2 H) (d : dj R1 R2) (b2 : Beh R2 H' R2' H'') : Beh2 R1 R2 H R1' R2' H'' := by
  have k := b.keep s2 (dj_comm d)
  have k2 := b2.keep b.sR (dj_comm k.2)
  exact {
    st := fun x u e1 e2 e => b2.st x u e2 (b.st x u e1 e)
    gr := fun x e => b.gr x (b2.gr x e)
    s1 := k2.1
    s2 := b2.sR
    n1 := b.nw
    n2 := fun x u e => by
      rcases b2.nw x u e with z | z
      · exact .inl (b.gr x z)
      · exact .inr z
    d12 := k2.2 }
section
variable {K : PySem.W.Frag} {R1 R2 H : Hp} {a1 a2 C : Addr} {σ : L2.St}
end
section
variable {P : Program} {w : World} {K : PySem.W.Frag} {mg : Str → Option Value} {base : Heap} {cm : String → Addr} {x qual : Str} {st : Stmt} {f C : Addr} {fd : FuncData} {k : Nat}
end
end DL
namespace DL
open PySem PySem.Spec PyProof.Rows L2
section
variable {X : Cx} {W : L2.WX} {cm : String → Addr}
end
def setRw (env : Env) (i : Nat) (s : Slot) : Option Env := match env[i]? with
  | some (.ob false _) => some (env.set i s)
  | _ => setSlot env i s
section
variable {B : Hp} {pn : Nat → Option Addr} {env : Env} {σ : L2.St} {F N G : Hp} {Rg : Nat → Hp} {H R : Hp}
theorem setRw_eq {i : Nat} {s : Slot} {e : Env} (h : setRw env i s = some e) : i < env.length ∧ e = env.set i s := by
  unfold setRw at h
  split at h
  · rename_i q
    cases h
    exact ⟨Ok.slotLt q, rfl⟩
  · exact setSlot_lt h
end
end DL
namespace TS
open DL
def setRwE (E : ES) (i : Nat) (s : SD) : Option ES := match E[i]? with
  | some (.ob false _) => some (E.set i s)
  | _ => setE E i s
section
variable {ρ : Type} {E : ES} {m : M ρ} {X : XC} {P : TD → ES → M ρ → Prop} {Q : PK ρ}
end
section
variable {C : PySem.Addr}
end
end TS
namespace DL
open PySem PySem.Spec PyProof.Rows L2
section
variable {B : Hp} {pn : Nat → Option Addr} {env : Env} {σ : L2.St} {F N G : Hp} {Rg : Nat → Hp} {H R J : Hp}
end
structure DCls (K : PySem.W.Frag) (C : Addr) : Prop where
  cl : Cls K C
  n_many : NoAttr K C "many"
  n_answers : NoAttr K C "answers"
section
variable {B : Hp} {pn : Nat → Option Addr} {env : Env} {σ : L2.St} {F N G : Hp} {Rg : Nat → Hp} {H R J : Hp}
end
section
variable {K : PySem.W.Frag} {W : L2.WX} {cm : String → Addr} {C : Addr} {fn : Fn} {i j : Nat} {σ : L2.St} {H : Hp} {Q : VK}
end
end DL
namespace DL
open PySem PySem.Spec PyProof.Rows L2
theorem rd_upd {R : Hp} {a q : Addr} {xs : List V} {o : HO} (h : Rd R q (.tup xs)) (hn : q ≠ a) : Rd (upd R a o) q (.tup xs) := by
  rcases h with h | ⟨d, h⟩
  · exact .inl (by rw [upd_ne hn]; exact h)
  · exact .inr ⟨d, by rw [upd_ne hn]; exact h⟩
section
variable {K : PySem.W.Frag} {W : L2.WX} {cm : String → Addr} {C : Addr} {i j : Nat} {σ : L2.St} {H : Hp} {Dn : Ends} {f : DE}
theorem lst_nt {R : Hp} {a : Addr} {ys : List V} (h : R a = some (.lst ys)) {q : Addr} {xs : List V} (z : Rd R q (.tup xs)) : q ≠ a := fun e => by
  subst e
  rcases z with z | ⟨d, z⟩
  · rw [h] at z; cases z
  · rw [h] at z; cases z
end
end DL
namespace DL
open PySem PySem.Spec PyProof.Rows L2
mutual
theorem PpR.at {R : Hp} : ∀ {v : V} {d : D} {L : List Addr} {x : Addr}, PpR R v d L → x ∈ L → ∃ xs, R x = some (.lst xs)
  | _, _, _, _, .leaf _, m => by cases m
  | _, _, _, x, .node h a n, m => by
    rcases List.mem_cons.mp m with rfl | m
    · exact ⟨_, h⟩
    · exact a.at m
theorem PpA.at {R : Hp} : ∀ {vs : List V} {ds : List D} {L : List Addr} {x : Addr}, PpA R vs ds L → x ∈ L → ∃ xs, R x = some (.lst xs)
  | _, _, _, _, .nil, m => by cases m
  | _, _, _, x, .cons h r a n, m => by
    rcases List.mem_append.mp m with m | m
    · exact r.at m
    · exact a.at m
end
mutual
theorem PpR.frame {R U : Hp} {C : List Addr} (e1 : ∀ b xs, b ∉ C → R b = some (.lst xs) → U b = some (.lst xs)) (e2 : ∀ b xs, Rd R b (.tup xs) → Rd U b (.tup xs)) : ∀ {v : V} {d : D} {L : List Addr}, PpR R v d L → (∀ x ∈ L, x ∉ C) → PpR U v d L
  | _, _, _, .leaf h, _ => .leaf (e2 _ _ h)
  | _, _, _, .node h a n, m => .node (e1 _ _ (m _ List.mem_cons_self) h) (a.frame e1 e2 fun x hx => m x (List.mem_cons_of_mem _ hx)) n
theorem PpA.frame {R U : Hp} {C : List Addr} (e1 : ∀ b xs, b ∉ C → R b = some (.lst xs) → U b = some (.lst xs)) (e2 : ∀ b xs, Rd R b (.tup xs) → Rd U b (.tup xs)) : ∀ {vs : List V} {ds : List D} {L : List Addr}, PpA R vs ds L → (∀ x ∈ L, x ∉ C) → PpA U vs ds L
  | _, _, _, .nil, _ => .nil
  | _, _, _, .cons h r a n, m => .cons (e2 _ _ h) (r.frame e1 e2 fun x hx => m x (List.mem_append_left _ hx)) (a.frame e1 e2 fun x hx => m x (List.mem_append_right _ hx)) n
end
theorem PpA.append {R : Hp} : ∀ {vs ws : List V} {ds es : List D} {L M : List Addr}, PpA R vs ds L → PpA R ws es M → (∀ x ∈ L, x ∉ M) → PpA R (vs ++ ws) (ds ++ es) (L ++ M)
  | _, ws, _, es, _, M, .nil, b, _ => b
  | _, ws, _, es, _, M, .cons (L := L1) (M := L2) h r a n, b, m => by
    rw [List.append_assoc]
    refine .cons h r (a.append b fun x hx => m x (List.mem_append_right _ hx)) fun x hx z => ?_
    rcases List.mem_append.mp z with z | z
    · exact n x hx z
    · exact m x (List.mem_append_left _ hx) z
theorem PpA.len {R : Hp} : ∀ {vs : List V} {ds : List D} {L : List Addr}, PpA R vs ds L → vs.length = ds.length
  | _, _, _, .nil => rfl
  | _, _, _, .cons _ _ a _ => by rw [List.length_cons, List.length_cons, a.len]
def sPpNil (i : Nat) : DS := fun env => match setRw env i (.ob false (.pp (.list []))) with
  | some e => .nx e
  | none => .bad
def sPpApp (i k j : Nat) : DS := fun env => match env[i]?, env[j]?, rd env (.sl k) with
  | some (.ob false (.pp (.list ds))), some (.ob false (.pp d)), some (.bool b) => match !decide (i = j) && decide (ds.length < 16777216) with
    | true => .nx ((env.set j .un).set i (.ob false (.pp (.list (ds ++ [.tuple [.bool b, d]])))))
    | false => .bad
  | _, _, _ => .bad
def dNoOb (i : Nat) : DT := fun env => match env[i]? with
  | some (.ob false (.pp _)) => .ok false env
  | some (.fro _ .none) => .ok true env
  | _ => .bad
section
variable {K : PySem.W.Frag} {W : L2.WX} {cm : String → Addr} {i j k : Nat} {σ : L2.St} {H : Hp} {Dn : Ends}
theorem ts_ppNil (h : tS W cm (sPpNil i) Dn σ H) : tAsg (tLst tNil) (gName i) Dn σ H := by
  obtain ⟨B, pn, F, N, G, Rg, env, I, h⟩ := h
  unfold sPpNil at h
  cases e : setRw env i (.ob false (.pp (.list []))) with
  | none => rw [e] at h; exact h.elim
  | some en =>
    rw [e] at h
    refine ⟨Nat.zero_le _, fun p hp => ?_⟩
    obtain ⟨hi, rfl⟩ := setRw_eq e
    have A := I.fresh (o := .lst []) hp
    have I2 := I.grow (upd_Same (o := .lst []) hp)
    have I3 := I2.put (σ' := σ.set i (some (.ref p))) (i := i) (s := .ob false (.pp (.list []))) (R := sgl p (.lst [])) hi ⟨p, set_at (by rw [← I.len]; exact hi), ⟨[p], .node sgl_same .nil (by simp)⟩, dj_sgl (I.hB p hp)⟩ A.sR A.dF A.dG (fun j _ => A.dR j) (fun j hj => List.getElem?_set_ne (Ne.symm hj)) (by rw [List.length_set])
    exact h _ F N _ _ I3 (Same.refl _) (Same.refl _)
theorem ts_ppApp (h : tS W cm (sPpApp i k j) Dn σ H) : tDrop (tBM K "list" rAppend (tVar i) (tCons (tTup (tCons (tVar k) (tCons (tVar j) tNil))) tNil)) Dn σ H := by
  obtain ⟨B, pn, F, N, G, Rg, env, I, h⟩ := h
  unfold sPpApp at h
  split at h
  · rename_i ds d b es ej ek
    cases ec : (!decide (i = j) && decide (ds.length < 16777216)) with
    | false => rw [ec] at h; exact h.elim
    | true =>
      rw [ec] at h
      simp only at h
      rw [Bool.and_eq_true, decide_eq_true_eq] at ec
      have nij : i ≠ j := by simpa using ec.1
      obtain ⟨a, ha, ⟨L, hL⟩, hp⟩ := I.sl i _ es
      obtain ⟨aj, haj, ⟨Lj, hLj⟩, hpj⟩ := I.sl j _ ej
      cases hL with
      | @node _ vs _ L' h1 h2 h3 =>
        obtain ⟨v, hv⟩ : ∃ v, σ[k]? = some (some v) := by
          simp only [rd] at ek
          cases q : env[k]? with
          | none => rw [q] at ek; cases ek
          | some s =>
            rw [q] at ek
            have S := I.sl k s q
            cases s with
            | un => cases ek
            | kn _ _ => cases ek
            | lent => cases ek
            | ob p o => obtain ⟨w, z, _⟩ := S; exact ⟨_, z⟩
            | fro b0 d0 => obtain ⟨_, w, z, _⟩ := S; exact ⟨_, z⟩
            | own p b0 xs => obtain ⟨l, vs, z, _⟩ := S; exact ⟨_, z⟩
            | ex d0 => obtain ⟨w, z, _⟩ := S; exact ⟨_, z⟩
        have rv : Rp H v (.bool b) := rd_ok I (R := emp) (t := .sl k) ⟨rfl, hv⟩ (emp_same _) ek
        cases rv
        unfold tDrop tBM tCons tTup tNil
        have hl : H a = some (.lst vs) := I.sR i _ _ h1
        refine ⟨.ref a, ha, tyL hl, .bl b, hv, .ref aj, haj, by show (2 : Nat) ≤ sizeLine; rw [sizeLine_eq]; omega, fun q hq => ?_⟩
        have naq : a ≠ q := fun z => by rw [← z, hl] at hq; cases hq
        refine ⟨a, vs, .ref q, rfl, rfl, by rw [upd_ne naq]; exact hl, by rw [h2.len, sizeLine_eq]; omega, ?_⟩
        -- what is j's goes over, and the pair
        have hj := Ok.slotLt ej
        have I1 := (I.off hj).grow (upd_Same (o := .tup [.bl b, .ref aj]) hq)
        have es1 : (env.set j .un)[i]? = some (.ob false (.pp (.list ds))) := by rw [List.getElem?_set_ne (Ne.symm nij)]; exact es
        have dIJ : dj (Rg i) (Rg j) := I.dR i j nij
        have A := I.fresh (o := .tup [.bl b, .ref aj]) hq
        have dIJq : dj (jn (Rg i) (Rg j)) (sgl q (.tup [.bl b, .ref aj])) := dj_sgl (jn_none_of (A.dR j _ _ sgl_same) (A.dR i _ _ sgl_same))
        generalize hRn : jn (jn (Rg i) (Rg j)) (sgl q (.tup [.bl b, .ref aj])) = Rn
        have sI : Same (Rg i) Rn := by rw [← hRn]; exact (jn_left dIJ).trans (jn_left dIJq)
        have sJ : Same (Rg j) Rn := by rw [← hRn]; exact (fun _ _ z => jn_left dIJq _ _ (jn_right _ _ z))
        have sQ : Rn q = some (.tup [.bl b, .ref aj]) := by rw [← hRn]; exact jn_right _ _ sgl_same
        have g : Same H (upd H q (.tup [.bl b, .ref aj])) := upd_Same hq
        have I2 := I1.put (σ' := σ) (i := i) (s := .ob false (.pp (.list ds))) (R := Rn) (Ok.slotLt es1)
          ⟨a, ha, ⟨a :: L', .node (sI _ _ h1) (h2.mono sI) h3⟩, by rw [← hRn]; exact dj_jn (dj_jn hp hpj) (dj_sgl (I.hB q hq))⟩
          (by rw [← hRn]; exact jn_same (jn_same ((I.sR i).trans g) ((I.sR j).trans g)) (sgl_same_iff upd_same))
          (by rw [← hRn]; exact dj_jn (dj_jn (I.dF i) (I.dF j)) A.dF)
          (by rw [← hRn]; exact dj_jn (dj_jn (I.dRG i) (I.dRG j)) A.dG)
          (fun m hm => by
            rw [← hRn]
            by_cases mj : m = j
            · subst mj; rw [setR_same]; exact emp_dj _
            · rw [setR_ne mj]; exact dj_jn (dj_jn (I.dR m i hm) (I.dR m j mj)) (A.dR m)) (fun _ _ => rfl) rfl
        have es2 : ((env.set j .un).set i (.ob false (.pp (.list ds))))[i]? = some (.ob false (.pp (.list ds))) := List.getElem?_set_self (Ok.slotLt es1)
        have hR : setR (setR Rg j emp) i Rn i = Rn := setR_same
        have sN : Same Rn (upd H q (.tup [.bl b, .ref aj])) := by have := I2.sR i; rw [hR] at this; exact this
        have aL : ∀ x ∈ Lj, x ≠ a := fun x hx z => by
          obtain ⟨xs, e⟩ := hLj.at hx
          subst z
          rw [dIJ _ _ e] at h1
          cases h1
        have fr1 : ∀ b' xs, b' ∉ [a] → Rn b' = some (.lst xs) → upd Rn a (.lst (vs ++ [.ref q])) b' = some (.lst xs) := fun b' xs n e => by rw [upd_ne (by simpa using n)]; exact e
        have fr2 : ∀ b' xs, Rd Rn b' (.tup xs) → Rd (upd Rn a (.lst (vs ++ [.ref q]))) b' (.tup xs) := fun b' xs z => rd_upd z (lst_nt (sI _ _ h1) z)
        have I3 := I2.obj es2 ha (o' := .pp (.list (ds ++ [.tuple [.bool b, d]]))) (R' := upd Rn a (.lst (vs ++ [.ref q]))) (H' := upd (upd H q (.tup [.bl b, .ref aj])) a (.lst (vs ++ [.ref q]))) (by rw [hR]; exact .upd sN (.inr ⟨_, sI _ _ h1⟩))
          ⟨a :: (L' ++ (Lj ++ [])), .node upd_same (((h2.mono sI).frame (C := [a]) fr1 fr2 fun x hx => by
              intro z
              rw [List.mem_singleton] at z
              subst z
              exact h3 hx).append (.cons (fr2 _ _ (.inl sQ)) ((hLj.mono sJ).frame (C := [a]) fr1 fr2 fun x hx => by
              intro z
              exact aL x hx (List.mem_singleton.mp z)) .nil (fun _ _ z => by cases z)) fun x hx z => by
                rw [List.append_nil] at z
                obtain ⟨xs, e⟩ := hLj.at z
                obtain ⟨ys, e'⟩ := h2.at hx
                rw [dIJ _ _ e] at e'
                cases e') (fun z => by
                rw [List.append_nil] at z
                rcases List.mem_append.mp z with z | z
                · exact h3 z
                · exact aL _ z rfl)⟩
        rw [List.set_set] at I3
        exact h σ F N _ _ I3 (Same.refl _) (Same.refl _)
  · exact h.elim
end
end DL
namespace DL
open PySem PySem.Spec PyProof.Rows L2
inductive HRes where
  | non
  | pp (d : D)
  | exc (c : String)
  | bad
abbrev OpH := List D → HRes
def spHd (cm : String → Addr) (op : OpH) : Sp := fun vs H Q E => ∃ ds, RpA H vs ds ∧ (match op ds with
  | .non => ∀ H', Same H H' → Q .non H'
  | .pp d => ∀ a H' R', Same H H' → Same R' H' → dj H R' → (∃ L, PpR R' (.ref a) d L) → Q (.ref a) H'
  | .exc c => ∀ H', Same H H' → E (.ref (cm c)) none H'
  | .bad => False)
def ppAt (e : Env) (i : Nat) : Option D := match e[i]? with
  | some (.ob false (.pp d)) => some d
  | _ => none
theorem ppAt_at {e : Env} {i : Nat} {d : D} (h : ppAt e i = some d) : e[i]? = some (.ob false (.pp d)) := by
  unfold ppAt at h
  split at h
  · rename_i q; cases h; exact q
  · cases h
def hres (e : Env) : Tok → HRes
  | .sl i => match ppAt e i with
    | some d => .pp d
    | none => .bad
  | .fz _ .none => .non
  | .fz true (.tuple []) => .pp (.tuple [])
  | _ => .bad
def runHd (np n : Nat) (s : DS) : OpH := fun ds => match decide (ds.length = np) with
  | false => .bad
  | true => match s (mEnv ds ++ List.replicate (n - np) .un) with
    | .rt t e => hres e t
    | .exc c _ => .exc c
    | _ => .bad
theorem spHd_len {cm : String → Addr} {np n : Nat} {s : DS} {vs : List V} {H : Hp} {Q : VK} {E : XK} (h : spHd cm (runHd np n s) vs H Q E) : vs.length = np := by
  obtain ⟨ds, r, h⟩ := h
  cases e : decide (ds.length = np) with
  | false => unfold runHd at h; rw [e] at h; exact h.elim
  | true => rw [rpa_len r]; exact of_decide_eq_true e
theorem bodyHd {cm : String → Addr} {Nm : List Str} {np : Nat} {s : DS} {vs : List V} {H : Hp} {Q : VK} {E : XK} (h : spHd cm (runHd np Nm.length s) vs H Q E) :
    tS (fun cls d _ H => E cls d H) cm s { nx := fun _ H' => Q .non H', rt := Q } (L2.start Nm vs) H := by
  have hl := spHd_len (np := np) (n := Nm.length) h
  obtain ⟨ds, r, h⟩ := h
  unfold runHd at h
  cases e : decide (ds.length = np) with
  | false => rw [e] at h; exact h.elim
  | true =>
    rw [e] at h
    simp only at h
    have hst : L2.start Nm vs = vs.map some ++ List.replicate (Nm.length - np) none := by
      unfold L2.start
      rw [hl]
    have I1 := (enterM r).pad (Nm.length - np)
    rw [← hst] at I1
    refine ⟨H, _, H, emp, _, _, _, I1, ?_⟩
    cases e1 : s (mEnv ds ++ List.replicate (Nm.length - np) .un) with
    | bad => rw [e1] at h; exact h.elim
    | bk e' => rw [e1] at h; exact h.elim
    | ct e' => rw [e1] at h; exact h.elim
    | nx e' => rw [e1] at h; exact h.elim
    | exc c e' =>
      rw [e1] at h
      intro σ' F' N' Rg' H' I hF hN
      exact h H' (hF.trans I.sF)
    | rt t e' =>
      rw [e1] at h
      simp only at h
      intro σ' v F' N' Rg' H' R' I hF hN T A
      cases t with
      | sl i =>
        simp only [hres] at h
        cases es : ppAt e' i with
        | none => rw [es] at h; exact h.elim
        | some d =>
          rw [es] at h
          obtain ⟨a, ha, ro, hp⟩ := I.sl i _ (ppAt_at es)
          have hv := T.2
          rw [ha] at hv
          cases hv
          exact h a H' _ (hF.trans I.sF) (I.sR i) hp ro
      | nw _ _ => exact h.elim
      | ex _ => exact h.elim
      | fz b d =>
        have rv := T.2
        cases d with
        | none =>
          have h : ∀ H', Same H H' → Q .non H' := by cases b <;> exact h
          cases rv
          exact h H' (hF.trans I.sF)
        | tuple ds' =>
          cases b with
          | false => cases ds' <;> exact h.elim
          | true =>
            cases ds' with
            | cons _ _ => exact h.elim
            | nil =>
              cases rv with
              | @tup a xs _ h1 h2 =>
                rw [rpA_nil h2] at h1
                exact h a H' N' (hF.trans I.sF) (I.sN.trans I.sF) I.nB ⟨[], .leaf h1⟩
        | bool _ => cases b <;> exact h.elim
        | int _ => cases b <;> exact h.elim
        | str _ => cases b <;> exact h.elim
        | list _ => cases b <;> exact h.elim
        | dict _ => cases b <;> exact h.elim
theorem fn_okHd {P : Program} {w : World} {K : PySem.W.Frag} {mg : Str → Option Value} {base : Heap} {cm : String → Addr} {x qual : Str} {st : Stmt} {f : Addr} {fd : FuncData} {Nm ps : List Str} {k : Nat} {s : DS} (F : Fun K x qual st f fd) (S : FnScope Nm ps (defScope st))
    (hb : ∀ (cdv : Value) (A : Around) (outer : List PySem.Env) (s0 : Shared) (H : Hp) (E : XK), Room k (A.deeper (envOfC qual (defScope st) s0.heap.objs.size f cdv)) →
      PSs (cxOf (L2.CX P w) P w K mg base Nm qual (defScope st) f cdv A outer s0 H E) (defBody st) (tS (fun cls d _ H => E cls d H) cm s)) :
    FnOk P w K mg base (L2.CX P w) (k + 1) f fd ps (spHd cm (runHd ps.length Nm.length s)) :=
  F.okX S (fun _ _ _ _ h => spHd_len h) (fun cdv A outer s0 H vs Q E hr h => ⟨_, hb cdv A outer s0 H E hr, bodyHd h⟩)
theorem fn_noneHd {P : Program} {w : World} {K : PySem.W.Frag} {mg : Str → Option Value} {base : Heap} {cm : String → Addr} {f : Addr} {fd : FuncData} {ps : List Str} {k : Nat} : FnOk P w K mg base (L2.CX P w) k f fd ps (spHd cm fun _ => .bad) :=
  ⟨fun vs H Q E h => by obtain ⟨_, _, h⟩ := h; exact h.elim, fun A outer s H args us vs Q E hr e0 hb hv h => by obtain ⟨_, _, h⟩ := h; exact h.elim⟩
def runHc (np n : Nat) (s : DS) (op : OpH) (fs : List DE) : OpH := fun ds => match decide (ds.length = np) with
  | false => .bad
  | true => match s (mEnv ds ++ List.replicate (n - np) .un) with
    | .nx e => match dArgs fs e with
      | .ok ts e1 => match rds e1 ts with
        | some ds' => op ds'
        | none => .bad
      | .exc c _ => .exc c
      | .bad => .bad
    | .exc c _ => .exc c
    | _ => .bad
def tHc (cm : String → Addr) (s : DS) (op : OpH) (fs : List DE) (W : L2.WX) : TS := tSeq (tS W cm s) (tRet (tCallS (spHd cm op) (WE W) (tAD W cm fs)))
theorem bodyHc {cm : String → Addr} {Nm : List Str} {np : Nat} {s : DS} {op : OpH} {fs : List DE} {vs : List V} {H : Hp} {Q : VK} {E : XK} (h : spHd cm (runHc np Nm.length s op fs) vs H Q E) :
    tHc cm s op fs (fun cls d _ H => E cls d H) { nx := fun _ H' => Q .non H', rt := Q } (L2.start Nm vs) H := by
  obtain ⟨ds, r, h⟩ := h
  unfold runHc at h
  cases e : decide (ds.length = np) with
  | false => rw [e] at h; exact h.elim
  | true =>
    rw [e] at h
    simp only at h
    have hl : vs.length = np := by rw [rpa_len r]; exact of_decide_eq_true e
    have hst : L2.start Nm vs = vs.map some ++ List.replicate (Nm.length - np) none := by
      unfold L2.start
      rw [hl]
    have I1 := (enterM r).pad (Nm.length - np)
    rw [← hst] at I1
    unfold tHc tSeq
    refine ⟨H, _, H, emp, _, _, _, I1, ?_⟩
    cases e1 : s (mEnv ds ++ List.replicate (Nm.length - np) .un) with
    | bad => rw [e1] at h; exact h.elim
    | bk e' => rw [e1] at h; exact h.elim
    | ct e' => rw [e1] at h; exact h.elim
    | rt t e' => rw [e1] at h; exact h.elim
    | exc c e' =>
      rw [e1] at h
      intro σ' F' N' Rg' H' I hF hN
      exact h H' (hF.trans I.sF)
    | nx e' =>
      rw [e1] at h
      simp only at h
      intro σ' F' N' Rg' H' I hF hN
      unfold tRet tCallS
      refine args_read I ?_
      cases e2 : dArgs fs e' with
      | bad => rw [e2] at h; exact h.elim
      | exc c en =>
        rw [e2] at h
        intro F1 N1 Rg1 H1 I1 hF1 hN1
        exact h H1 ((hF.trans hF1).trans I1.sF)
      | ok ts en =>
        rw [e2] at h
        simp only at h
        intro us F1 N1 Rg1 H1 I1 hF1 hN1 T1
        cases e3 : rds en ts with
        | none => rw [e3] at h; exact h.elim
        | some ds' =>
          rw [e3] at h
          simp only at h
          have s1 : Same H H1 := (hF.trans hF1).trans I1.sF
          refine ⟨ds', rds_ok I1 T1 e3, ?_⟩
          cases e4 : op ds' with
          | bad => rw [e4] at h; exact h.elim
          | non => rw [e4] at h; exact fun H2 s2 => h H2 (s1.trans s2)
          | exc c => rw [e4] at h; exact fun H2 s2 => h H2 (s1.trans s2)
          | pp d => rw [e4] at h; exact fun a H2 R' s2 sR dR hp => h a H2 R' (s1.trans s2) sR (fun x u z => s1.free (dR x u z)) hp
theorem spHc_len {cm : String → Addr} {np n : Nat} {s : DS} {op : OpH} {fs : List DE} {vs : List V} {H : Hp} {Q : VK} {E : XK} (h : spHd cm (runHc np n s op fs) vs H Q E) : vs.length = np := by
  obtain ⟨ds, r, h⟩ := h
  cases e : decide (ds.length = np) with
  | false => unfold runHc at h; rw [e] at h; exact h.elim
  | true => rw [rpa_len r]; exact of_decide_eq_true e
theorem fn_okHc {P : Program} {w : World} {K : PySem.W.Frag} {mg : Str → Option Value} {base : Heap} {cm : String → Addr} {x qual : Str} {st : Stmt} {f : Addr} {fd : FuncData} {Nm ps : List Str} {k : Nat} {s : DS} {op : OpH} {fs : List DE} (F : Fun K x qual st f fd) (S : FnScope Nm ps (defScope st))
    (hb : PSm P w K mg base Nm qual st f k (tHc cm s op fs)) :
    FnOk P w K mg base (L2.CX P w) (k + 1) f fd ps (spHd cm (runHc ps.length Nm.length s op fs)) :=
  F.okX S (fun _ _ _ _ h => spHc_len h) (fun cdv A outer s0 H vs Q E hr h => ⟨_, hb cdv A outer s0 H E hr, bodyHc h⟩)
def sHd (i : Nat) (op : OpH) (fs : List DE) : DS := fun env => match dArgs fs env with
  | .ok ts e => match rds e ts with
    | none => .bad
    | some ds => match op ds with
      | .non => match setRw e i (.fro true .none) with
        | some e' => .nx e'
        | none => .bad
      | .pp d => match setRw e i (.ob false (.pp d)) with
        | some e' => .nx e'
        | none => .bad
      | .exc c => .exc c e
      | .bad => .bad
  | .exc c e => .exc c e
  | .bad => .bad
theorem ts_hd {W : L2.WX} {cm : String → Addr} {i : Nat} {op : OpH} {fs : List DE} {Dn : Ends} {σ : L2.St} {H : Hp} (h : tS W cm (sHd i op fs) Dn σ H) : tAD W cm fs σ H fun vs H1 => spHd cm op vs H1 (fun v H2 => Dn.nx (σ.set i (some v)) H2) (WE W σ) := by
  obtain ⟨B, pn, F, N, G, Rg, env, I, h⟩ := h
  refine args_read I ?_
  unfold sHd at h
  cases e1 : dArgs fs env with
  | bad => rw [e1] at h; exact h.elim
  | exc c en => rw [e1] at h; exact fun F' N' Rg' H' I' hF hN => h σ F' N' Rg' H' I' hF hN
  | ok ts en =>
    rw [e1] at h
    simp only at h
    intro vs F1 N1 Rg1 H1 I1 hF1 hN1 T1
    cases e2 : rds en ts with
    | none => rw [e2] at h; exact h.elim
    | some ds =>
      rw [e2] at h
      simp only at h
      refine ⟨ds, rds_ok I1 T1 e2, ?_⟩
      cases e3 : op ds with
      | bad => rw [e3] at h; exact h.elim
      | exc c =>
        rw [e3] at h
        intro H' s'
        exact h σ F1 N1 Rg1 H' (I1.grow s') hF1 hN1
      | non =>
        rw [e3] at h
        simp only at h ⊢
        intro H' s'
        cases e4 : setRw en i (.fro true .none) with
        | none => rw [e4] at h; exact h.elim
        | some e' =>
          rw [e4] at h
          obtain ⟨hi, rfl⟩ := setRw_eq e4
          have I2 := I1.grow s'
          have I3 := I2.put (σ' := σ.set i (some .non)) (i := i) (s := .fro true .none) (R := emp) hi ⟨rfl, .non, set_at (by rw [← I1.len]; exact hi), .non⟩ (emp_same _) (dj_emp _) (dj_emp _) (fun j _ => dj_emp _) (fun j hj => List.getElem?_set_ne (Ne.symm hj)) (by rw [List.length_set])
          exact h _ F1 N1 _ H' I3 hF1 hN1
      | pp d =>
        rw [e3] at h
        simp only at h ⊢
        intro a H' R' s' sR dR hp
        cases e4 : setRw en i (.ob false (.pp d)) with
        | none => rw [e4] at h; exact h.elim
        | some e' =>
          rw [e4] at h
          obtain ⟨hi, rfl⟩ := setRw_eq e4
          have I2 := I1.grow s'
          have I3 := I2.put (σ' := σ.set i (some (.ref a))) (i := i) (s := .ob false (.pp d)) (R := R') hi ⟨a, set_at (by rw [← I1.len]; exact hi), hp, fun x u e => I1.hB x (dR x u e)⟩ sR (fun x u e => I1.sF.free (dR x u e)) (fun x u e => I1.sG.free (dR x u e)) (fun j _ => fun x u e => (I1.sR j).free (dR x u e)) (fun j hj => List.getElem?_set_ne (Ne.symm hj)) (by rw [List.length_set])
          exact h _ F1 N1 _ H' I3 hF1 hN1
section
variable {X : Cx} {W : L2.WX} {cm : String → Addr} {k : Nat} {f : Addr} {fd : FuncData} {ps : List Str} {op : OpH} {x y : Str} {p pos apos pos' : Pos} {e : Expr} {es : List Expr} {fs : List DE} {i j l : Nat}
theorem ge_hd (hN : X.N.Nodup) (hi : X.N[i]? = some y) (hx : Loc X.env.scope y) (F : FnOk X.prog X.w X.K X.mg X.base (L2.CX X.prog X.w) k f fd ps (spHd cm op)) (hr : Room k X.A) (hg : Gl X x) (hm : X.mg x = some (.ref f)) (hk : PySem.W.keepIn X.K (.ref f) = true) (hb : Binds X.K fd ps []) (tk : Takes X W)
    (ha : PA X (e :: es) (tAD W cm fs)) (hs : swapsWith (.Call (.Name x p) (e :: es) [] pos) (some (.Name y pos')) apos.line X.env = pure false := by rfl)
    (hdb : (x == ("__debug__" : Str)) = false := by decide) (he : starEach (e :: es) X.env = (false, eval e X.env) :: starEach es X.env := by rfl) (hpl : (backTo pos (starEach es X.env)).any (·.1) = false := by rfl)
    (hf : X.fn y = true ∨ X.env.scope.names.lookup y = some .local := by first | exact .inl rfl | exact .inr rfl | assumption) :
    PS X (.Assign [.Name y pos'] (.Call (.Name x p) (e :: es) [] pos) apos) (tS W cm (sHd i op fs)) :=
  PSimp (ps_set hN hi hx (pe_callS F hr hg hm hk hb (fun σ => passAt tk σ) ha hdb he hpl) hs hf) fun _ _ _ h => ts_hd h
theorem gs_ppNil {a : Expr} (hN : X.N.Nodup) (hi : X.N[i]? = some x) (hx : Loc X.env.scope x) (h : PE X a (tLst tNil)) (hs : swapsWith a (some (.Name x pos')) pos.line X.env = pure false := by rfl)
    (hf : X.fn x = true ∨ X.env.scope.names.lookup x = some .local := by first | exact .inl rfl | exact .inr rfl | assumption) : PS X (.Assign [.Name x pos'] a pos) (tS W cm (sPpNil i)) := PSimp (ps_set hN hi hx h hs hf) fun _ _ _ h => ts_ppNil h
theorem gs_ppApp (h : PS X (.Expr e pos) (tDrop (tBM X.K "list" rAppend (tVar i) (tCons (tTup (tCons (tVar j) (tCons (tVar l) tNil))) tNil)))) : PS X (.Expr e pos) (tS W cm (sPpApp i j l)) := PSimp h fun _ _ _ z => ts_ppApp z
theorem tt_noOb {σ : L2.St} {H : Hp} {Q : Bool → Hp → Prop} (h : tT W cm (dNoOb i) σ H Q) : tB (tIsN (tVar i)) σ H Q := by
  obtain ⟨B, pn, F, N, G, Rg, env, I, h⟩ := h
  unfold dNoOb at h
  split at h
  · rename_i d es
    obtain ⟨a, ha, _, _⟩ := I.sl i _ es
    exact ⟨.ref a, ha, _, rfl, h F N Rg H I (Same.refl _) (Same.refl _)⟩
  · rename_i b es
    obtain ⟨_, v, hv, rv⟩ := I.sl i _ es
    cases rv
    exact ⟨.non, hv, _, rfl, h F N Rg H I (Same.refl _) (Same.refl _)⟩
  · exact h.elim
theorem gt_noOb {c : Expr} (h : PT X c (tB (tIsN (tVar i)))) : PT X c (tT W cm (dNoOb i)) := PTimp h fun _ _ _ z => tt_noOb z
end
end DL
namespace DL
open PySem PySem.Spec PyProof.Rows L2
def growE (g : D → D) : D → D
  | .tuple [b, d] => .tuple [b, g d]
  | e => e
def newP : D := .tuple [.bool true, .tuple []]
def growP : Nat → D → D
  | n + 1, .list ds => .list (ds.map (growE (growP n)) ++ [newP])
  | _, d => d
def chE (g : D → Bool) : D → Bool
  | .tuple [.bool _, d] => g d
  | _ => false
def chOk : Nat → D → Bool
  | n + 1, .list ds => decide (ds.length < 1000) && ds.all (chE (chOk n))
  | _ + 1, .tuple [] => true
  | _, _ => false
def spCh (n : Nat) : Sp := fun vs H Q E => ∃ v d L R, vs = [v] ∧ Same R H ∧ PpR R v d L ∧ chOk n d = true ∧ ∀ H' R', Beh R H R' H' → (∀ x o, x ∉ L → R x = some o → R' x = some o) → PpR R' v (growP n d) L → Q (.bl true) H'
def growI (g : D → D) : Nat → List D → List D
  | 0, ds => ds
  | _ + 1, [] => []
  | i + 1, d :: r => growE g d :: growI g i r
theorem growI_len (g : D → D) : ∀ (i : Nat) (ds : List D), (growI g i ds).length = ds.length
  | 0, ds => rfl
  | _ + 1, [] => rfl
  | i + 1, d :: r => by rw [growI, List.length_cons, List.length_cons, growI_len]
theorem growI_at (g : D → D) : ∀ (i : Nat) (ds : List D), (growI g i ds)[i]? = ds[i]?
  | 0, ds => rfl
  | _ + 1, [] => rfl
  | i + 1, d :: r => by rw [growI, List.getElem?_cons_succ, List.getElem?_cons_succ, growI_at]
theorem growI_set (g : D → D) : ∀ (i : Nat) (ds : List D) (d : D), ds[i]? = some d → (growI g i ds).set i (growE g d) = growI g (i + 1) ds
  | 0, d :: r, _, h => by cases h; cases r <;> rfl
  | i + 1, d :: r, e, h => by
    rw [List.getElem?_cons_succ] at h
    rw [growI, List.set_cons_succ, growI_set g i r e h]
    rfl
theorem growI_all (g : D → D) : ∀ (ds : List D), growI g ds.length ds = ds.map (growE g)
  | [] => rfl
  | d :: r => by rw [List.length_cons, growI, List.map_cons, growI_all]
theorem PpA.pick {R : Hp} : ∀ {vs : List V} {ds : List D} {L : List Addr} {i : Nat}, PpA R vs ds L → i < ds.length → ∃ q b w d Li, vs[i]? = some (V.ref q) ∧ ds[i]? = some (.tuple [.bool b, d]) ∧ Rd R q (.tup [.bl b, w]) ∧ PpR R w d Li ∧ (∀ x ∈ Li, x ∈ L) ∧
    ∀ R' d', (∀ x o, x ∉ Li → R x = some o → R' x = some o) → PpR R' w d' Li → PpA R' vs (ds.set i (.tuple [.bool b, d'])) L
  | _, _, _, i, .nil, h => absurd h (Nat.not_lt_zero _)
  | _, _, _, 0, .cons (q := q) (b := b) (w := w) (d := d) (L := Li) h r a n, _ => by
    refine ⟨q, b, w, d, Li, rfl, rfl, h, r, fun x hx => List.mem_append_left _ hx, fun R' d' fr p => ?_⟩
    have e2 : ∀ y xs, Rd R y (.tup xs) → Rd R' y (.tup xs) := fun y xs z => by
      have ny : y ∉ Li := fun m => by
        obtain ⟨ys, e⟩ := r.at m
        rcases z with z | ⟨o, z⟩ <;> · rw [e] at z; cases z
      rcases z with z | ⟨o, z⟩
      · exact .inl (fr y _ ny z)
      · exact .inr ⟨o, fr y _ ny z⟩
    exact .cons (e2 _ _ h) p (a.frame (C := Li) (fun y xs ny z => fr y _ ny z) e2 fun x hx m => n x m hx) n
  | _, _, _, i + 1, .cons (q := q0) (b := b0) (w := w0) (d := d0) (L := L0) h r a n, hi => by
    obtain ⟨q, b, w, d, Li, e1, e2, e3, e4, e5, e6⟩ := a.pick (i := i) (by rw [List.length_cons] at hi; omega)
    refine ⟨q, b, w, d, Li, e1, e2, e3, e4, fun x hx => List.mem_append_right _ (e5 x hx), fun R' d' fr p => ?_⟩
    have f2 : ∀ y xs, Rd R y (.tup xs) → Rd R' y (.tup xs) := fun y xs z => by
      have ny : y ∉ Li := fun m => by
        obtain ⟨ys, e⟩ := e4.at m
        rcases z with z | ⟨o, z⟩ <;> · rw [e] at z; cases z
      rcases z with z | ⟨o, z⟩
      · exact .inl (fr y _ ny z)
      · exact .inr ⟨o, fr y _ ny z⟩
    exact .cons (f2 _ _ h) (r.frame (C := Li) (fun y xs ny z => fr y _ ny z) f2 fun x hx m => n x hx (e5 x m)) (e6 R' d' fr p) n
abbrev rLenV (K : PySem.W.Frag) : List V → Hp → VK → Prop := fun xs H Q => ∃ x n, xs = [x] ∧ LenV K x H n ∧ Q (.int (n : Nat)) H
def tChanged (K : PySem.W.Frag) (g : Sp) (W : L2.WX) : TS :=
  tSeq (tIfS (tB (tCB (rIsi K) (tCons (tVar 0) (tCons (tC (.ty "list")) tNil))))
    (tSeq (tAsg (tCB (rLenV K) (tCons (tVar 0) tNil)) (gName 1))
    (tSeq (tFor (iList K (tCB (rListOf K) (tCons (tVar 0) tNil))) (gTup K 2 (gCons (gName 2) (gCons (gName 3) gNil))) (tDrop (tCallS g (WE W) (tCons (tVar 3) tNil))))
    (tSeq (tDrop (tBM K "list" rAppend (tVar 0) (tCons (tTup (tCons (tC (.bl true)) (tCons (tTup tNil) tNil))) tNil)))
    (tRet (tOp rEq (tCB (rLenV K) (tCons (tVar 0) tNil)) (tOp L2.rAdd (tVar 1) (tC (.int 1)))))))) tNext)
  (tRet (tC (.bl true)))
abbrev chN : List Str := ["paper", "many", "alike", "under"]
section
variable {P : Program} {w : World} {K : PySem.W.Frag} {mg : Str → Option Value} {base : Heap} {cm : String → Addr} {x qual : Str} {st : Stmt} {f : Addr} {fd : FuncData} {k n : Nat}
theorem ok_changed (F : Fun K x qual st f fd) (S : FnScope chN ["paper"] (defScope st)) (hb : PSm P w K mg base chN qual st f k (tChanged K (spCh n))) : FnOk P w K mg base (L2.CX P w) (k + 1) f fd ["paper"] (spCh (n + 1)) := by
  refine F.okX S (fun vs H Q E h => ?_) (fun cdv A outer s0 H vs Q E hr h => ⟨_, hb cdv A outer s0 H E hr, ?_⟩)
  · obtain ⟨v, d, L, R, rfl, _⟩ := h
    rfl
  · obtain ⟨v, d, L, R, rfl, sR, pr, ck, h⟩ := h
    unfold tChanged
    show tIfS _ _ _ _ _ H
    unfold tIfS tB tCB
    cases pr with
    | @leaf p h0 =>
      refine ⟨.ref p, rfl, .ref p, .ty "list", .type "tuple", .type "list", false, rfl, .ty "list", (Rp.tup (h0.imp (fun z => sR _ _ z) fun ⟨o, z⟩ => ⟨o, sR _ _ z⟩) .nil : Rp H (.ref p) (.tuple [])).ty (fun _ _ z => nomatch z), kit_ty (by decide +kernel), ?_⟩
      exact ⟨_, rfl, iteF (h H R (.refl sR) (fun _ _ _ z => z) (.leaf h0))⟩
    | @node a vs ds L' h1 h2 h3 =>
      rw [chOk, Bool.and_eq_true, decide_eq_true_eq, List.all_eq_true] at ck
      have hl := h2.len
      have ha : H a = some (.lst vs) := sR _ _ h1
      refine ⟨.ref a, rfl, .ref a, .ty "list", .type "list", .type "list", true, rfl, .ty "list", .base (.lst ha), kit_ty (by decide +kernel), ?_⟩
      refine ⟨_, rfl, iteT ?_⟩
      show tAsg _ _ _ _ H
      unfold tAsg
      refine ⟨.ref a, rfl, .ref a, vs.length, rfl, .inl ⟨vs, .inl (.inl ha), rfl⟩, ?_⟩
      unfold gName tSeq
      dsimp only
      unfold tFor iList
      refine ⟨.ref a, rfl, a, vs, rfl, .inl (.inl (.inl ha)), fun l hlN => ?_⟩
      have nal : a ≠ l := fun z => by rw [← z, ha] at hlN; cases hlN
      have sH : Same H (upd H l (.lst vs)) := upd_Same hlN
      have b0 : Beh R H R (upd H l (.lst vs)) := .grow sR sH
      have Rl : R l = none := sR.free hlN
      refine ⟨l, rfl, ⟨vs, .inl (.inl upd_same)⟩, ?_⟩
      refine ⟨fun i m σ' H' => ∃ y z R', σ' = [some (.ref a), some (.int (vs.length : Nat)), y, z] ∧ m + i = ds.length ∧ Beh R (upd H l (.lst vs)) R' H' ∧ (∀ x o, x ∉ L' → R x = some o → R' x = some o) ∧ PpA R' vs (growI (growP n) i ds) L', ⟨ds.length, _, _, R, rfl, by omega, .refl (sR.trans sH), fun _ _ _ z => z, h2⟩, ?_⟩
      rintro i m σ' H' ⟨y, z, R', rfl, em, bb, fr, pa⟩
      have hL : SqL K H' l vs := .inl (.inl (bb.st _ _ Rl upd_same))
      have fra : R' a = some (.lst vs) := fr a _ h3 h1
      by_cases hi : i < ds.length
      · obtain ⟨q, b, wv, d, Li, e1, e2, e3, e4, e5, e6⟩ := pa.pick (i := i) (by rw [growI_len]; exact hi)
        rw [growI_at] at e2
        refine .inr ⟨⟨_, _, hL, e1⟩, fun σ' H2 => ∃ y z R', σ' = [some (.ref a), some (.int (vs.length : Nat)), y, z] ∧ Beh R (upd H l (.lst vs)) R' H2 ∧ (∀ x o, x ∉ L' → R x = some o → R' x = some o) ∧ PpA R' vs (growI (growP n) (i + 1) ds) L', fun σ' H2 hN => ?_, fun v H2 hy => ?_⟩
        · obtain ⟨y, z, R', e3, e4, e5, e6⟩ := hN
          exact ⟨m - 1, by omega, y, z, R', e3, by omega, e4, e5, e6⟩
        · obtain ⟨rfl, fx⟩ := hy
          have ev : v = .ref q := Option.some.inj ((fx _ hL).symm.trans e1)
          subst ev
          have md : PyData.tuple [.bool b, d] ∈ ds := List.mem_of_getElem? e2
          have cd : chOk n d = true := ck.2 _ md
          refine ⟨q, [.bl b, wv], rfl, .inl (e3.imp (fun z => bb.sR _ _ z) fun ⟨o, z⟩ => ⟨o, bb.sR _ _ z⟩), rfl, ?_⟩
          refine ⟨.bl b, _, rfl, wv, _, rfl, rfl, ?_⟩
          unfold tDrop tCallS tCons tNil
          refine ⟨wv, rfl, ?_⟩
          refine ⟨wv, d, Li, R', rfl, bb.sR, e4, cd, fun H3 R3 b3 f3 p3 => ?_⟩
          refine ⟨some (.bl b), some wv, R3, rfl, bb.trans b3 (sR.trans sH), fun x o nx ex => f3 x o (fun m => nx (e5 x m)) (fr x o nx ex), ?_⟩
          have e7 := e6 R3 _ f3 p3
          rw [show PyData.tuple [.bool b, growP n d] = growE (growP n) (.tuple [.bool b, d]) from rfl, growI_set _ _ _ _ e2] at e7
          exact e7
      · have ei : i = ds.length := by omega
        subst ei
        rw [growI_all] at pa
        refine .inl ⟨⟨_, hL, by omega⟩, ?_⟩
        have ha' := bb.sR _ _ fra
        dsimp only
        unfold tDrop tBM tCons tTup tNil
        refine ⟨.ref a, rfl, tyL ha', Nat.zero_le _, fun p0 hp0 => ?_⟩
        refine ⟨by show (2 : Nat) ≤ sizeLine; rw [sizeLine_eq]; omega, fun p hp => ?_⟩
        have na0 : a ≠ p0 := fun z => by rw [← z, ha'] at hp0; cases hp0
        have n0p : p0 ≠ p := fun z => by rw [← z, upd_same] at hp; cases hp
        have nap : a ≠ p := fun z => by rw [← z, upd_ne na0, ha'] at hp; cases hp
        have hpH : H' p = none := by rw [upd_ne (Ne.symm n0p)] at hp; exact hp
        refine ⟨a, vs, .ref p, rfl, rfl, by rw [upd_ne nap, upd_ne na0]; exact ha', by rw [hl, sizeLine_eq]; omega, ?_⟩
        have b1 : Beh R' H' _ _ := .upd (b := p0) (o := .tup []) bb.sR (.inl hp0)
        have b2 := b1.trans (.upd (b := p) (o := .tup [.bl true, .ref p0]) b1.sR (.inl hp)) bb.sR
        have b3 := b2.trans (.upd (b := a) (o := .lst (vs ++ [.ref p])) b2.sR (.inr ⟨_, by rw [upd_ne nap, upd_ne na0]; exact fra⟩)) bb.sR
        have b4 := (b0.trans bb sR).trans b3 sR
        unfold tRet tOp
        refine ⟨.ref a, rfl, .ref a, (vs ++ [V.ref p]).length, rfl, .inl ⟨_, .inl (.inl upd_same), rfl⟩, ?_⟩
        refine ⟨.int (vs.length : Nat), rfl, vs.length, 1, rfl, rfl, rfl, ?_⟩
        rw [show decide (V.int ((vs ++ [V.ref p]).length : Nat) = V.int ((vs.length : Nat) + 1)) = true by rw [List.length_append]; simp]
        have R'p0 : R' p0 = none := bb.sR.free hp0
        have R'p : R' p = none := bb.sR.free hpH
        have keep : ∀ y o, y ≠ a → R' y = some o → upd (upd (upd R' p0 (.tup [])) p (.tup [.bl true, .ref p0])) a (.lst (vs ++ [.ref p])) y = some o := fun y o ny e => by
          have n1 : y ≠ p := fun z => by rw [z, R'p] at e; cases e
          have n2 : y ≠ p0 := fun z => by rw [z, R'p0] at e; cases e
          rw [upd_ne ny, upd_ne n1, upd_ne n2]
          exact e
        have kt : ∀ y xs, Rd R' y (.tup xs) → Rd (upd (upd (upd R' p0 (.tup [])) p (.tup [.bl true, .ref p0])) a (.lst (vs ++ [.ref p]))) y (.tup xs) := fun y xs z => by
          have ny : y ≠ a := fun e => by subst e; rcases z with z | ⟨o, z⟩ <;> · rw [fra] at z; cases z
          rcases z with z | ⟨o, z⟩
          · exact .inl (keep y _ ny z)
          · exact .inr ⟨o, keep y _ ny z⟩
        refine h _ _ b4 (fun x o nx ex => ?_) ?_
        · have nx' : x ≠ a ∧ x ∉ L' := ⟨fun z => nx (by rw [z]; exact List.mem_cons_self), fun z => nx (List.mem_cons_of_mem _ z)⟩
          exact keep x o nx'.1 (fr x o nx'.2 ex)
        · refine .node upd_same ?_ h3
          have e8 := (pa.frame (C := [a]) (U := upd (upd (upd R' p0 (.tup [])) p (.tup [.bl true, .ref p0])) a (.lst (vs ++ [.ref p]))) (fun y xs ny e => keep y _ (by simpa using ny) e) kt fun x hx m => h3 (by rw [← List.mem_singleton.mp m]; exact hx)).append
            (PpA.cons (q := p) (b := true) (w := .ref p0) (d := .tuple []) (L := []) (M := []) (.inl (by rw [upd_ne (Ne.symm nap), upd_same])) (.leaf (.inl (by rw [upd_ne (Ne.symm na0), upd_ne n0p, upd_same]))) .nil (fun _ z => nomatch z)) (fun _ _ z => nomatch z)
          rw [List.append_nil, List.append_nil] at e8
          exact e8
end
end DL
namespace DL
open PySem PySem.Spec PyProof.Rows L2
def eChg (n i : Nat) : DE := fun env => match env[i]? with
  | some (.ob false (.pp d)) => match chOk n d with
    | true => .ok (.fz true (.bool true)) (env.set i (.ob false (.pp (growP n d))))
    | false => .bad
  | _ => .bad
theorem td_chg {W : L2.WX} {cm : String → Addr} {n i : Nat} {σ : L2.St} {H : Hp} {Q : VK} (h : tD W cm (eChg n i) σ H Q) : tCallS (spCh n) (WE W) (tCons (tVar i) tNil) σ H Q := by
  obtain ⟨B, pn, F, N, G, Rg, env, I, h⟩ := h
  unfold eChg at h
  split at h
  · rename_i d es
    cases ec : chOk n d with
    | false => rw [ec] at h; exact h.elim
    | true =>
      rw [ec] at h
      simp only at h
      obtain ⟨a, ha, ⟨L, hL⟩, hp⟩ := I.sl i _ es
      unfold tCallS tCons tNil
      refine ⟨.ref a, ha, .ref a, d, L, Rg i, rfl, I.sR i, hL, ec, fun H' R' b fr pr => ?_⟩
      exact h (.bl true) F N _ H' emp (I.obj es ha b ⟨L, pr⟩) (Same.refl _) (Same.refl _) ⟨rfl, .bl _⟩ .none
  · exact h.elim
section
variable {P : Program} {w : World} {K : PySem.W.Frag} {mg : Str → Option Value} {base : Heap} {f : Addr} {fd : FuncData} {ps : List Str} {k : Nat}
theorem fn_noneCh : FnOk P w K mg base (L2.CX P w) k f fd ps (spCh 0) :=
  ⟨fun vs H Q E h => (by obtain ⟨_, d, _, _, _, _, _, h, _⟩ := h; cases d <;> cases h), fun A outer s H args us vs Q E hr e0 hb hv h => (by obtain ⟨_, d, _, _, _, _, _, h, _⟩ := h; cases d <;> cases h)⟩
end
section
variable {X : Cx} {W : L2.WX} {cm : String → Addr} {k n : Nat} {f : Addr} {fd : FuncData} {ps : List Str} {x : Str} {p pos : Pos} {e : Expr} {i : Nat}
theorem ge_chg (F : FnOk X.prog X.w X.K X.mg X.base (L2.CX X.prog X.w) k f fd ps (spCh n)) (hr : Room k X.A) (hg : Gl X x) (hm : X.mg x = some (.ref f)) (hk : PySem.W.keepIn X.K (.ref f) = true) (hb : Binds X.K fd ps []) (tk : Takes X W)
    (ha : PE X e (tVar i)) (hdb : (x == ("__debug__" : Str)) = false := by decide) (he : starEach [e] X.env = (false, eval e X.env) :: starEach [] X.env := by rfl) (hpl : (backTo pos (starEach [] X.env)).any (·.1) = false := by rfl) :
    PE X (.Call (.Name x p) [e] [] pos) (tD W cm (eChg n i)) :=
  PEimp (pe_callS F hr hg hm hk hb (fun σ => passAt tk σ) (pa_cons ha pa_nil he) hdb he hpl) fun _ _ _ h => td_chg h
end
end DL
namespace TS
open DL
def sdP : Option D → SD
  | none => .fro true .none
  | some d => .ob false (.pp d)
def ppL (xs : List (Bool × D)) : Ob := .pp (.list (xs.map (e2 PySem.PyData.bool eD)))
def SimH (op : OpH) (ds : List D) (x : M (Option D)) : Prop := ∀ z, x = .ok z → op ds = (match z with | none => .non | some d => .pp d)
def sdU : Option D → SD
  | none => .un
  | some d => .ob false (.pp d)
def RwOk (E : ES) (i : Nat) : Prop := (∃ o, E[i]? = some (sdP o)) ∨ (∃ o, E[i]? = some (sdU o)) ∨ (setRwE E i (.ob false (.pp .none))).isSome = true
section
variable {ρ : Type} {E : ES} {m : M ρ} {X : XC} {P : TD → ES → M ρ → Prop} {PB : Bool → ES → M ρ → Prop} {Q : PK ρ}
theorem fit_sdP {e : Env} {i : Nat} {o : Option D} (fe : Fit E e) (h : E[i]? = some (sdP o)) : (o = none ∧ ∃ b, e[i]? = some (.fro b .none)) ∨ ∃ d, o = some d ∧ e[i]? = some (.ob false (.pp d)) := by
  cases o with
  | none =>
    obtain ⟨s, h1, b, rfl, _⟩ := fe.get (d := .fro true .none) h
    exact .inl ⟨rfl, b, h1⟩
  | some d => exact .inr ⟨d, rfl, fit_ob fe h⟩
theorem setRwE_any {E' : ES} {e : Env} {i : Nat} {s0 sd : SD} {s : DL.Slot} (f : Fit E e) (g : SFit sd s) (h : setRwE E i s0 = some E') : setRw e i s = some (e.set i s) ∧ Fit (E.set i sd) (e.set i s) := by
  refine ⟨?_, f.set g⟩
  unfold setRwE at h
  split at h
  · rename_i o' q
    have := fit_ob f q
    unfold setRw
    rw [this]
  · rename_i hn
    have h2 : ∃ E2, setE E i sd = some E2 := by
      unfold setE at h ⊢
      split at h <;> first | exact ⟨_, rfl⟩ | cases h
    obtain ⟨E2, h2⟩ := h2
    obtain ⟨e', k1, k2⟩ := setE_ok (d := sd) (s := s) f g h2
    have k3 : e' = e.set i s := (setSlot_lt k1).2
    subst k3
    unfold setRw
    split
    · rename_i q
      unfold setSlot at k1
      simp [q] at k1
    · exact k1
theorem rwok_set {e : Env} {i : Nat} {sd : SD} {s : DL.Slot} (f : Fit E e) (g : SFit sd s) (h : RwOk E i) : setRw e i s = some (e.set i s) ∧ Fit (E.set i sd) (e.set i s) := by
  rcases h with ⟨o, h⟩ | ⟨o, h⟩ | h
  rotate_left
  · refine ⟨?_, f.set g⟩
    cases o with
    | none =>
      obtain ⟨s1, h1, h2⟩ := f.get (d := .un) h
      rw [show s1 = .un from h2] at h1
      unfold setRw setSlot
      rw [h1]
    | some d =>
      unfold setRw
      rw [fit_ob f h]
  rotate_left
  · refine ⟨?_, f.set g⟩
    rcases fit_sdP f h with ⟨_, b, q⟩ | ⟨d, _, q⟩ <;> unfold setRw <;> rw [q]
    all_goals (simp only [setSlot, q])
  · cases q : setRwE E i (.ob false (.pp .none)) with
    | none => rw [q] at h; cases h
    | some E' => exact setRwE_any f g q
theorem ws_ppNil {i : Nat} (h : RwOk E i ∧ Q.nx (E.set i (.ob false (ppL []))) m) : WS (sPpNil i) E m Q X := fun e fe => by
  obtain ⟨k1, k2⟩ := rwok_set (sd := .ob false (.pp (.list []))) (s := .ob false (.pp (.list []))) fe rfl h.1
  exact .inr (.inr (.inl ⟨_, _, by simp only [sPpNil, k1], k2, h.2⟩))
theorem ws_ppApp {i k j : Nat} {found : List (Bool × D)} {o : Option Bool} {u : Option D} {kk : Bool → D → List (Bool × D) → M ρ} (hi : E[i]? = some (.ob false (ppL found))) (hk : E[k]? = some (sdO true PySem.PyData.bool o)) (hj : E[j]? = some (sdP u)) (hne : decide (i = j) = false)
    (hm : m = M.bind (ofO o) fun b => M.bind (ofO u) fun d => M.bind (app found (b, d)) (kk b d)) (h : ∀ b d f', Q.nx (((E.set k (.fro true (.bool b))).set j .un).set i (.ob false (ppL f'))) (kk b d f')) : WS (sPpApp i k j) E m Q X := fun e fe => by
  cases ho : o with
  | none => exact .inl (by rw [hm, ho]; rfl)
  | some b =>
    cases hu : u with
    | none => exact .inl (by rw [hm, ho, hu]; rfl)
    | some d =>
      have h1 := fit_ob fe hi
      have h3 : e[j]? = some (.ob false (.pp d)) := by
        rw [hu] at hj
        exact fit_ob fe hj
      rw [ho] at hk
      have hk' : E[k]? = some (.fro true (.bool b)) := hk
      obtain ⟨s, h2, b', rfl, _⟩ := fe.get hk'
      have eE : E.set k (.fro true (.bool b)) = E := by
        refine List.ext_getElem? fun x => ?_
        by_cases hx : k = x
        · subst hx
          rw [hk', List.getElem?_set_self (List.getElem?_eq_some_iff.mp hk').1]
        · rw [List.getElem?_set_ne hx]
      unfold app at hm
      have hb : (M.bind (match decide (found.length < 16777216) with | true => M.ok (found ++ [(b, d)]) | false => .bad) (kk b d)) = m := by rw [hm, ho, hu]; rfl
      cases hl : decide (found.length < 16777216) with
      | false => exact .inl (by rw [← hb, hl]; rfl)
      | true =>
        rw [hl] at hb
        have e4 : sPpApp i k j e = .nx ((e.set j .un).set i (.ob false (.pp (.list (found.map (e2 PySem.PyData.bool eD) ++ [.tuple [.bool b, d]]))))) := by
          unfold sPpApp
          rw [h1, h3]
          simp only [ppL, rd, h2, hne, List.length_map, hl, Bool.not_false, Bool.and_self]
        refine .inr (.inr (.inl ⟨((E.set k (.fro true (.bool b))).set j .un).set i (.ob false (ppL (found ++ [(b, d)]))), _, e4, ?_, ?_⟩))
        · rw [eE]
          refine (fe.set (d := .un) rfl).set (d := .ob false (ppL (found ++ [(b, d)]))) ?_
          show _ = _
          unfold ppL
          rw [List.map_append]
          rfl
        · rw [← hb]
          exact h b d _
theorem wt_noOb {i : Nat} {o : Option D} (h : E[i]? = some (sdP o)) (k : PB o.isNone E m) : WT (dNoOb i) E m PB X := fun e fe => by
  rcases fit_sdP fe h with ⟨rfl, b, q⟩ | ⟨d, rfl, q⟩
  · exact .inr (.inr ⟨true, E, e, by simp only [dNoOb, q], fe, k⟩)
  · exact .inr (.inr ⟨false, E, e, by simp only [dNoOb, q], fe, k⟩)
theorem ws_hd {op : OpH} {i : Nat} {fs : List DE} (h : WA fs E m (fun tds E1 m1 => ∃ (ds : List D) (x : M (Option D)) (kk : Option D → M ρ), m1 = M.bind (M.nx x) kk ∧ rdsE E1 tds = some ds ∧ SimH op ds x ∧ RwOk E1 i ∧ ∀ v, Q.nx (E1.set i (sdP v)) (kk v)) X) : WS (sHd i op fs) E m Q X := fun e fe =>
  h.then fe (fun z => .inl z) (fun c E' e' a b fx xx => .inr (.inl ⟨c, E', e', by simp only [sHd, a], b, fx, xx⟩)) fun tds ts E1 e1 a b f1 ⟨ds, x, kk, h1, h2, h3, h4, k⟩ => by
    cases q : x with
    | bad => exact .inl (by rw [h1, q]; rfl)
    | exc c => exact .inl (by rw [h1, q]; rfl)
    | ok v =>
      have e2 := h3 v q
      cases v with
      | none =>
        obtain ⟨k1, k2⟩ := rwok_set (sd := sdP none) (s := .fro true .none) f1 ⟨true, rfl, fun z => z⟩ h4
        exact .inr (.inr (.inl ⟨_, _, by simp only [sHd, a, rdsE_ok f1 b h2, e2, k1], k2, by rw [h1, q]; exact k none⟩))
      | some d =>
        obtain ⟨k1, k2⟩ := rwok_set (sd := sdP (some d)) (s := .ob false (.pp d)) f1 rfl h4
        exact .inr (.inr (.inl ⟨_, _, by simp only [sHd, a, rdsE_ok f1 b h2, e2, k1], k2, by rw [h1, q]; exact k (some d)⟩))
theorem ws_hdS {op : OpH} {i : Nat} {fs : List DE} (h : WA fs E m (fun tds E1 m1 => ∃ (ds : List D) (x : M (Option D)) (kk : D → M ρ), m1 = M.bind (M.nx x) (fun o => M.bind (ofO o) kk) ∧ rdsE E1 tds = some ds ∧ SimH op ds x ∧ RwOk E1 i ∧ ∀ v, Q.nx (E1.set i (.ob false (.pp v))) (kk v)) X) : WS (sHd i op fs) E m Q X := fun e fe =>
  h.then fe (fun z => .inl z) (fun c E' e' a b fx xx => .inr (.inl ⟨c, E', e', by simp only [sHd, a], b, fx, xx⟩)) fun tds ts E1 e1 a b f1 ⟨ds, x, kk, h1, h2, h3, h4, k⟩ => by
    cases q : x with
    | bad => exact .inl (by rw [h1, q]; rfl)
    | exc c => exact .inl (by rw [h1, q]; rfl)
    | ok v =>
      have e2 := h3 v q
      cases v with
      | none => exact .inl (by rw [h1, q]; rfl)
      | some d =>
        obtain ⟨k1, k2⟩ := rwok_set (sd := .ob false (.pp d)) (s := .ob false (.pp d)) f1 rfl h4
        exact .inr (.inr (.inl ⟨_, _, by simp only [sHd, a, rdsE_ok f1 b h2, e2, k1], k2, by rw [h1, q]; exact k d⟩))
def growM (n : Nat) (d : D) : M D := match chOk n d with
  | true => .ok (growP n d)
  | false => .bad
theorem we_chg {n i : Nat} {d : D} {kk : D → M ρ} (h : E[i]? = some (.ob false (.pp d))) (hm : m = M.bind (growM n d) kk) (k : ∀ d', P (.fz true (.bool true)) (E.set i (.ob false (.pp d'))) (kk d')) : WE (eChg n i) E m P X := fun e fe => by
  have h1 := fit_ob fe h
  unfold growM at hm
  cases hc : chOk n d with
  | false => exact .inl (by rw [hm, hc]; rfl)
  | true =>
    rw [hc] at hm
    exact .inr (.inr ⟨.fz true (.bool true), .fz true (.bool true), E.set i (.ob false (.pp (growP n d))), e.set i (.ob false (.pp (growP n d))), by simp only [eChg, h1, hc], ⟨true, rfl, fun z => z⟩, fe.set (d := .ob false (.pp (growP n d))) rfl, by rw [hm]; exact k _⟩)
end
def okZ : Option D → Bool
  | none => true
  | some (.tuple []) => true
  | _ => false
theorem okZ_cond (b : Bool) : okZ (cond b (some (.tuple [])) none) = true := by cases b <;> rfl
def PH : PK (Option D) := ⟨fun _ _ => False, fun td E m => ∃ z, m = .ok z ∧ ((td = .fz true (eO eD z) ∧ okZ z = true) ∨ ∃ i d, td = .sl i ∧ E[i]? = some (.ob false (.pp d)) ∧ z = some d), fun _ _ => False, fun _ _ => False⟩
theorem simH_def {np n : Nat} {s : DS} {ds : List D} {x : M (Option D)} (hl : ds.length = np) (h : WS s (ds.map (.fro false) ++ List.replicate (n - np) .un) x PH NX) : SimH (runHd np n s) ds x := fun v hx => by
  unfold runHd
  rw [decide_eq_true hl]
  refine h.then (fit_fro ds _) (fun z => by rw [hx] at z; cases z) (fun c E' e' a b fx xx => by rw [hx] at b; cases b) (fun E' e' a f1 k => k.elim) (fun td tk E' e' a g1 f1 k => ?_) (fun _ _ _ _ k => k.elim) (fun _ _ _ _ k => k.elim)
  obtain ⟨z, h1, h2⟩ := k
  rw [hx] at h1
  cases h1
  unfold mEnv
  rcases h2 with ⟨rfl, h2⟩ | ⟨i, d, rfl, h2, rfl⟩
  · obtain ⟨b', rfl, hb⟩ := g1
    obtain rfl := hb rfl
    simp only [a]
    cases v with
    | none => rfl
    | some d =>
      cases d with
      | tuple xs => cases xs with
        | nil => rfl
        | cons _ _ => cases h2
      | none => cases h2
      | bool _ => cases h2
      | int _ => cases h2
      | str _ => cases h2
      | list _ => cases h2
      | dict _ => cases h2
  · rw [show tk = .sl i from g1] at a
    have z := fit_ob f1 h2
    simp only [a, hres, ppAt, z]
theorem simH_bad {op : OpH} {ds : List D} : SimH op ds .bad := fun _ h => by cases h
def PHc (op : OpH) (fs : List DE) : PK (Option D) := ⟨fun E m => WA fs E m (fun tds E1 m1 => ∃ ds' x', m1 = M.bind (M.nx x') (fun v => .ok v) ∧ rdsE E1 tds = some ds' ∧ SimH op ds' x') NX, fun _ _ _ => False, fun _ _ => False, fun _ _ => False⟩
theorem hc_end {op : OpH} {fs : List DE} {E : ES} {m : M (Option D)} (h : WA fs E m (fun tds E1 m1 => ∃ ds' x', m1 = M.bind (M.nx x') (fun v => .ok v) ∧ rdsE E1 tds = some ds' ∧ SimH op ds' x') NX) : (PHc op fs).nx E m := h
theorem simHc_def {np n : Nat} {s : DS} {op : OpH} {fs : List DE} {ds : List D} {x : M (Option D)} (hl : ds.length = np)
    (h : WS s (ds.map (.fro false) ++ List.replicate (n - np) .un) x (PHc op fs) NX) : SimH (runHc np n s op fs) ds x := fun v hx => by
  unfold runHc
  rw [decide_eq_true hl]
  refine h.then (fit_fro ds _) (fun z => by rw [hx] at z; cases z) (fun c E' e' a b fx xx => by rw [hx] at b; cases b) (fun E' e' a f1 k => ?_) (fun td tk E' e' a g1 f1 k => k.elim) (fun _ _ _ _ k => k.elim) (fun _ _ _ _ k => k.elim)
  unfold mEnv
  simp only [a]
  have k : WA fs E' x (fun tds E1 m1 => ∃ ds' x', m1 = M.bind (M.nx x') (fun v => .ok v) ∧ rdsE E1 tds = some ds' ∧ SimH op ds' x') NX := k
  refine k.then f1 (fun z => by rw [hx] at z; cases z) (fun c E' e' a b fx xx => by rw [hx] at b; cases b) fun tds ts E1 e1 a1 b f2 ⟨ds', x', h1, h2, h3⟩ => ?_
  simp only [a1, rdsE_ok f2 b h2]
  cases q : x' with
  | bad => rw [hx, q] at h1; cases h1
  | exc c => rw [hx, q] at h1; cases h1
  | ok w =>
    rw [hx, q] at h1
    have e : v = w := by cases h1; rfl
    subst e
    exact h3 _ q
end TS
set_option maxHeartbeats 2000000
namespace LbP
open DL TS 
noncomputable section

def fn_by_kind : Fn := fnGrp
def d_more_than_half : DS :=
  sSeq (sFor (.nm 1) (iSeq (dAp (opCallX [false] fn_by_kind) [eVar 0])) (sIf (dVal (dAp (opSc dGt) [dAp (opEl dMul) [eC (.int 2), dAp (opSc dLen) [eVar 1]], dAp (opSc dLen) [eVar 0]])) (sRetF (eVar 1)) (sNop))) (sRetF (dAp (opTk dList) []))
def fn_more_than_half : Fn := runFn 1 2 d_more_than_half
def x_more_than_half_b1 (a_kinds : (List Int)) (x_2 : (List Int)) (s_3 : Unit) : M (Lp Unit (List Int)) :=
cond (decide ((a_kinds.length : Int) < (2 * (x_2.length : Int)))) (.ok (.ex x_2)) (.ok (.nx ()))
def x_more_than_half (a_kinds : (List Int)) : M (List Int) :=
M.bind (x_by_kind a_kinds) fun (r_1 : (List (List Int))) =>
M.orRet (forX (τ := (List Int)) (x_more_than_half_b1 a_kinds) r_1 ()) fun (e_4 : Unit) =>
.ok ([] : (List Int))
theorem t_more_than_half (a_kinds : (List Int)) : SimF fn_more_than_half [.v false ((eL PySem.PyData.int) a_kinds)] (x_more_than_half a_kinds) (fun (r : (List Int)) => .fz true ((eL PySem.PyData.int) r)) (fun _ => [none]) := by
  delta x_more_than_half fn_more_than_half d_more_than_half
  exact simF_def rfl (ws_seq (ws_forX (enc := (eL PySem.PyData.int)) (wi_seq (we_callX (wa_cons (we_var rfl (wa_nil ⟨_, _, rfl, (fun _ => trivial), _, rfl, rfl, t_grp a_kinds, fun r_1 => ⟨_, unX_nw _, ⟨_, _, _, _, rfl, ⟨(fun (s_3 : Unit) => [.fro false ((eL PySem.PyData.int) a_kinds), .pl]), _, _, _, _, rfl, rfl, (le_cons leR (le_cons (leP rfl) le_nil)), (fun x_2 s_3 => ⟨[.fro false ((eL PySem.PyData.int) a_kinds), .fro true ((eL PySem.PyData.int) x_2)], rfl, (ws_if (wt_val (we_sc (wa_cons (we_elF mono_mul (wa_cons (we_c (wa_cons (we_sc (wa_cons (we_var rfl (wa_nil ⟨_, _, rfl, len_op PySem.PyData.int x_2, (wa_nil ⟨_, _, _, _, rfl, mul_lit _ _ _ _ (small_l (by decide)), (wa_cons (we_sc (wa_cons (we_var rfl (wa_nil ⟨_, _, rfl, len_op PySem.PyData.int a_kinds, (wa_nil ⟨_, _, rfl, rfl, ⟨_, rfl, ⟨_, _, rfl, (ws_retF (we_var rfl ⟨_, _, _, rfl, ⟨_, _, rfl, rfl, ⟨x_2, _, _, rfl, rfl, ltR, rfl, loR⟩⟩⟩)), (ws_nop ⟨_, rfl, (le_cons leR (le_cons (leP rfl) le_nil))⟩)⟩⟩⟩)⟩)))))⟩)⟩))))))))))))⟩), fun e_4 => ⟨[.fro false ((eL PySem.PyData.int) a_kinds), .pl], rfl, (ws_retF (we_tkN mono_list (wa_nil ⟨_, _, _, _, rfl, rfl, ⟨_, _, _, rfl, ⟨([] : (List Int)), _, _, rfl, rfl, ltR, rfl, loR⟩⟩⟩)))⟩⟩⟩⟩⟩)))))))
def fuel_depth : Nat := 130
def d_depth (g : Fn) : DS :=
  sSeq (sIf (dVal (dAp (opSc dNe) [dAp (opEl dIdx) [eVar 0, eC (.int 0)], eC (.str "ask")])) (sRet (eC (.int 0))) (sNop)) (sRet (dAp (opEl dAdd) [eC (.int 1), dAp (opSc dMax2) [dAp (opCallX [false] g) [dAp (opEl dIdx) [eVar 0, eC (.int 3)]], dAp (opCallX [false] g) [dAp (opEl dIdx) [eVar 0, eC (.int 4)]]]]))
def fn_depth : Nat → Fn
  | 0 => fun _ => .bad
  | k + 1 => runFn 1 1 (d_depth (fn_depth k))
def x_depth_ (gx : Tree → M Int) (a_tree : Tree) : M Int :=
cond (!Tree.isAsk a_tree) (.ok 0) (M.bind (Tree.at3 a_tree) fun (x_1 : Tree) =>
M.bind (gx x_1) fun (r_2 : Int) =>
M.bind (Tree.at4 a_tree) fun (x_3 : Tree) =>
M.bind (gx x_3) fun (r_4 : Int) =>
.ok (1 + (maxI r_2 r_4)))
def x_depth : Nat → Tree → M Int
  | 0 => fun _ => .bad
  | k + 1 => x_depth_ (x_depth k)
theorem t_depth_ (g : Fn) (gx : Tree → M Int) (gs : ∀ (a_tree : Tree), SimF g [.v false (eT a_tree)] (gx a_tree) (fun (r : Int) => .fz true (PySem.PyData.int r)) (fun _ => [none])) (a_tree : Tree) : SimF (runFn 1 1 (d_depth g)) [.v false (eT a_tree)] (x_depth_ gx a_tree) (fun (r : Int) => .fz true (PySem.PyData.int r)) (fun _ => [none]) := by
  delta x_depth_ d_depth
  exact simF_def rfl (ws_seq (ws_if (wt_val (we_sc (wa_cons (we_elF mono_idx (wa_cons (we_var rfl (wa_cons (we_c (wa_nil ⟨_, _, _, _, rfl, tree_at0 _ _ _, (wa_cons (we_c (wa_nil ⟨_, _, rfl, tag_ne_ask a_tree, ⟨_, rfl, ⟨_, _, rfl, (ws_ret (we_c ⟨0, _, _, rfl, rfl, ltR, rfl, loR⟩)), (ws_nop (ws_ret (we_elF mono_add (wa_cons (we_c (wa_cons (we_sc (wa_cons (we_callX (wa_cons (we_elM (fun v => .fz false (eT v)) mono_idx (wa_cons (we_var rfl (wa_cons (we_c (wa_nil ⟨_, _, rfl, _, _, rfl, tree_at3 _ _ _, fun x_1 => (wa_nil ⟨_, _, rfl, (fun _ => trivial), _, rfl, rfl, gs x_1, fun r_2 => ⟨_, rfl, (wa_cons (we_callX (wa_cons (we_elM (fun v => .fz false (eT v)) mono_idx (wa_cons (we_var rfl (wa_cons (we_c (wa_nil ⟨_, _, rfl, _, _, rfl, tree_at4 _ _ _, fun x_3 => (wa_nil ⟨_, _, rfl, (fun _ => trivial), _, rfl, rfl, gs x_3, fun r_4 => ⟨_, rfl, (wa_nil ⟨_, _, rfl, rfl, (wa_nil ⟨_, _, _, _, rfl, rfl, ⟨(1 + (maxI r_2 r_4)), _, _, rfl, rfl, ltR, rfl, loR⟩⟩)⟩)⟩⟩)⟩)))))))))⟩⟩)⟩))))))))))))))))⟩⟩⟩)))⟩)))))))))))
theorem t_depth : ∀ (k : Nat) (a_tree : Tree), SimF (fn_depth k) [.v false (eT a_tree)] (x_depth k a_tree) (fun (r : Int) => .fz true (PySem.PyData.int r)) (fun _ => [none])
  | 0, _ => simF_bad
  | k + 1, a_tree => t_depth_ _ _ (t_depth k) a_tree
def d_all_sorts : DS :=
  sSeq (sIf (dNot (dVal (eChain (fun i j => decide (i ≤ j)) (fun i j => decide (i ≤ j)) (eC (.int 0)) (eVar 0) (eC (.int (7)))))) (sRaise "TooMany") (sNop)) (sSeq (sSet 2 (eFz (dAp (opTk dList) [dAp (opTk dList) []]))) (sSeq (sFor (.nm 3) (iRange [eVar 0]) (sSeq (sSet 4 (dAp (opTk dList) [])) (sSeq (sFor (.nm 5) (iSeq (eVar 2)) (sSeq (sSet 6 (dAp (opSc dMin2) [dAp (opEl dAdd) [dAp (opSc dMaxDf) [eVar 5, dAp (opSc dNeg) [eC (.int 1)]], eC (.int 2)], eVar 1])) (sDrop (eMut 4 mExtend [eComp [7] (.nm 7) (iRange [eVar 6]) (dYes) (dAp (opEl dAdd) [eVar 5, dAp (opTk dList) [eVar 7]])])))) (sSet 2 (eFz (eVar 4)))))) (sRet (eVar 2))))
def fn_all_sorts : Fn := runFn 2 8 d_all_sorts
def x_all_sorts_c1 (x_6 : (List Int)) (x_10 : Int) : M (List Int) :=
M.bind (cat x_6 ([x_10] : (List Int))) fun (l_12 : (List Int)) =>
.ok l_12
def x_all_sorts_b1 (a_most : Int) (x_6 : (List Int)) (s_7 : (List (List Int))) : M (List (List Int)) :=
M.val (minI ((maxDf x_6 (-1)) + 2) a_most) fun (beyond_8 : Int) =>
M.bind (rng1 beyond_8) fun (ks_9 : (List Int)) =>
M.bind (mapU (β := (List Int)) (x_all_sorts_c1 x_6) ks_9) fun (ys_13 : (List (List Int))) =>
M.bind (cat s_7 ys_13) fun (longer_14 : (List (List Int))) =>
.ok longer_14
def x_all_sorts_b2 (a_most : Int) (x_3 : Int) (s_4 : (List (List Int))) : M (List (List Int)) :=
M.val ([] : (List (List Int))) fun (longer_5 : (List (List Int))) =>
M.bind (forS (x_all_sorts_b1 a_most) s_4 longer_5) fun (e_15 : (List (List Int))) =>
.ok e_15
def x_all_sorts (a_many : Int) (a_most : Int) : M (List (List Int)) :=
cond (!(decide (0 ≤ a_many) && decide (a_many ≤ 7))) (.exc "TooMany") (M.val ([([] : (List Int))] : (List (List Int))) fun (found_1 : (List (List Int))) =>
M.bind (rng1 a_many) fun (ks_2 : (List Int)) =>
M.bind (forS (x_all_sorts_b2 a_most) ks_2 found_1) fun (e_16 : (List (List Int))) =>
.ok e_16)
theorem t_all_sorts (a_many : Int) (a_most : Int) : SimF fn_all_sorts [.v false (PySem.PyData.int a_many), .v false (PySem.PyData.int a_most)] (x_all_sorts a_many a_most) (fun (r : (List (List Int))) => .fz true ((eL (eL PySem.PyData.int)) r)) (fun _ => [none, none]) := by
  delta x_all_sorts fn_all_sorts d_all_sorts
  exact simF_def rfl (ws_seq (ws_if (wt_not (wt_val (we_chain' (we_c (we_var rfl ⟨_, _, _, rfl, rfl, (we_c ⟨rfl, rfl, rfl⟩), ⟨_, rfl, ⟨_, _, rfl, (ws_raise rfl trivial), (ws_nop (ws_seq (ws_setV (α := (List (List Int))) (fun v => .fz true ((eL (eL PySem.PyData.int)) v)) (we_fz (we_tkN mono_list (wa_cons (we_tkN mono_list (wa_nil ⟨_, _, _, _, rfl, rfl, (wa_nil ⟨_, _, _, _, rfl, rfl, ⟨_, _, _, rfl, ⟨_, _, rfl, rfl, fun found_1 => ⟨[.fro false (PySem.PyData.int a_many), .fro false (PySem.PyData.int a_most), .fro true ((eL (eL PySem.PyData.int)) found_1), .un, .un, .un, .un, .un], rfl, (ws_seq (ws_forS (enc := PySem.PyData.int) (wi_range1 (wa_cons (we_var rfl (wa_nil ⟨_, _, rfl, rfl, fun ks_2 => ⟨(fun (s_4 : (List (List Int))) => [.fro false (PySem.PyData.int a_many), .fro false (PySem.PyData.int a_most), .fro true ((eL (eL PySem.PyData.int)) s_4), .pl, .pl, .pl, .pl, .un]), _, _, _, _, rfl, rfl, (le_cons leR (le_cons leR (le_cons leR (le_cons (leP rfl) (le_cons (leP rfl) (le_cons (leP rfl) (le_cons (leP rfl) (le_cons leR le_nil)))))))), (fun x_3 s_4 => ⟨[.fro false (PySem.PyData.int a_many), .fro false (PySem.PyData.int a_most), .fro true ((eL (eL PySem.PyData.int)) s_4), .fro true (PySem.PyData.int x_3), .pl, .pl, .pl, .un], rfl, (ws_seq (ws_setV (α := (List (List Int))) (fun v => .nw true (v.map (eL PySem.PyData.int))) (we_tkN mono_list (wa_nil ⟨_, _, _, _, rfl, rfl, ⟨_, _, rfl, rfl, fun longer_5 => ⟨[.fro false (PySem.PyData.int a_many), .fro false (PySem.PyData.int a_most), .fro true ((eL (eL PySem.PyData.int)) s_4), .fro true (PySem.PyData.int x_3), .own false true (longer_5.map (eL PySem.PyData.int)), .pl, .pl, .un], rfl, (ws_seq (ws_forS (enc := (eL PySem.PyData.int)) (wi_seq (we_var rfl ⟨_, _, _, _, rfl, ⟨(fun (s_7 : (List (List Int))) => [.fro false (PySem.PyData.int a_many), .fro false (PySem.PyData.int a_most), .fro true ((eL (eL PySem.PyData.int)) s_4), .fro true (PySem.PyData.int x_3), .own false true (s_7.map (eL PySem.PyData.int)), .pl, .pl, .un]), _, _, _, _, rfl, rfl, (LeE.refl _), (fun x_6 s_7 => ⟨[.fro false (PySem.PyData.int a_many), .fro false (PySem.PyData.int a_most), .fro true ((eL (eL PySem.PyData.int)) s_4), .fro true (PySem.PyData.int x_3), .own false true (s_7.map (eL PySem.PyData.int)), .fro true ((eL PySem.PyData.int) x_6), .pl, .un], rfl, (ws_seq (ws_setV (α := Int) (fun v => .fz true (PySem.PyData.int v)) (we_sc (wa_cons (we_elF mono_add (wa_cons (we_sc (wa_cons (we_var rfl (wa_cons (we_sc (wa_cons (we_c (wa_nil ⟨_, _, rfl, rfl, (wa_nil ⟨_, _, rfl, maxDf_op x_6 (-1), (wa_cons (we_c (wa_nil ⟨_, _, _, _, rfl, rfl, (wa_cons (we_var rfl (wa_nil ⟨_, _, rfl, rfl, ⟨_, _, rfl, rfl, fun beyond_8 => ⟨[.fro false (PySem.PyData.int a_many), .fro false (PySem.PyData.int a_most), .fro true ((eL (eL PySem.PyData.int)) s_4), .fro true (PySem.PyData.int x_3), .own false true (s_7.map (eL PySem.PyData.int)), .fro true ((eL PySem.PyData.int) x_6), .fro true (PySem.PyData.int beyond_8), .un], rfl, (ws_drop (we_mut (fun v => (true && true, v.map (eL PySem.PyData.int), true, .none)) mmono_extend rfl (wa_cons (we_mapU (enc := PySem.PyData.int) (enc2 := (eL PySem.PyData.int)) (bt := true) (wi_range1 (wa_cons (we_var rfl (wa_nil ⟨_, _, rfl, rfl, fun ks_9 => ⟨[.fro false (PySem.PyData.int a_many), .fro false (PySem.PyData.int a_most), .fro true ((eL (eL PySem.PyData.int)) s_4), .fro true (PySem.PyData.int x_3), .own false true (s_7.map (eL PySem.PyData.int)), .fro true ((eL PySem.PyData.int) x_6), .fro true (PySem.PyData.int beyond_8), .un], _, _, _, rfl, rfl, rfl, (LeE.refl _), (fun x_10 => ⟨[.fro false (PySem.PyData.int a_many), .fro false (PySem.PyData.int a_most), .fro true ((eL (eL PySem.PyData.int)) s_4), .fro true (PySem.PyData.int x_3), .own false true (s_7.map (eL PySem.PyData.int)), .fro true ((eL PySem.PyData.int) x_6), .fro true (PySem.PyData.int beyond_8), .fro true (PySem.PyData.int x_10)], rfl, (we_elM (fun v => .nw (true && true) (v.map PySem.PyData.int)) mono_add (wa_cons (we_var rfl (wa_cons (we_tkN mono_list (wa_cons (we_var rfl (wa_nil ⟨_, _, _, _, rfl, rfl, (wa_nil ⟨_, _, rfl, _, _, rfl, po_cat PySem.PyData.int x_6 ([x_10] : (List Int)) _ _, fun l_12 => ⟨_, _, rfl, rfl, (LeE.refl _)⟩⟩)⟩))))))))⟩), fun ys_13 => ⟨[.fro false (PySem.PyData.int a_many), .fro false (PySem.PyData.int a_most), .fro true ((eL (eL PySem.PyData.int)) s_4), .fro true (PySem.PyData.int x_3), .own false true (s_7.map (eL PySem.PyData.int)), .fro true ((eL PySem.PyData.int) x_6), .fro true (PySem.PyData.int beyond_8), .un], rfl, (wa_nil ⟨_, _, rfl, _, _, _, _, _, rfl, rfl, pm_extend (eL PySem.PyData.int) s_7 ys_13 _ _, fun longer_14 => ⟨_, rfl, (le_cons leR (le_cons leR (le_cons leR (le_cons leR (le_cons leR (le_cons (leP rfl) (le_cons (leP rfl) (le_cons leR le_nil))))))))⟩⟩)⟩⟩⟩))))))))⟩⟩⟩)))⟩)))⟩)⟩))))))))))))))⟩), fun e_15 => ⟨[.fro false (PySem.PyData.int a_many), .fro false (PySem.PyData.int a_most), .fro true ((eL (eL PySem.PyData.int)) s_4), .fro true (PySem.PyData.int x_3), .own false true (e_15.map (eL PySem.PyData.int)), .pl, .pl, .un], rfl, (ws_set (we_fz (we_var rfl ⟨_, _, _, rfl, ⟨[.fro false (PySem.PyData.int a_many), .fro false (PySem.PyData.int a_most), .fro true ((eL (eL PySem.PyData.int)) e_15), .fro true (PySem.PyData.int x_3), .fro true ((eL (eL PySem.PyData.int)) e_15), .pl, .pl, .un], rfl, ⟨_, rfl, (le_cons leR (le_cons leR (le_cons leR (le_cons (leP rfl) (le_cons (leP rfl) (le_cons leR (le_cons leR (le_cons leR le_nil))))))))⟩⟩⟩)))⟩⟩⟩))))⟩⟩⟩))))⟩), fun e_16 => ⟨[.fro false (PySem.PyData.int a_many), .fro false (PySem.PyData.int a_most), .fro true ((eL (eL PySem.PyData.int)) e_16), .pl, .pl, .pl, .pl, .un], rfl, (ws_ret (we_var rfl ⟨e_16, _, _, rfl, rfl, ltR, rfl, loR⟩))⟩⟩⟩))))))⟩⟩⟩⟩)⟩))))))))⟩⟩⟩)))))))
def d_need_some : DS :=
  sSeq (sIf (dVal (dAp (opSc dLt) [eVar 0, eC (.int 1)])) (sRaise "NoThing") (sNop)) (sIf (dVal (dAp (opSc dGt) [eVar 0, eVar 1])) (sRaise "TooMany") (sNop))
def fn_need_some : Fn := runFn 2 2 d_need_some
def x_need_some (a_many : Int) (a_most : Int) : M Unit :=
cond (decide (a_many < 1)) (.exc "NoThing") (cond (decide (a_most < a_many)) (.exc "TooMany") (.ok ()))
theorem t_need_some (a_many : Int) (a_most : Int) : SimF fn_need_some [.v false (PySem.PyData.int a_many), .v false (PySem.PyData.int a_most)] (x_need_some a_many a_most) (fun (r : Unit) => .fz true (eU r)) (fun _ => [none, none]) := by
  delta x_need_some fn_need_some d_need_some
  exact simF_def rfl (ws_seq (ws_if (wt_val (we_sc (wa_cons (we_var rfl (wa_cons (we_c (wa_nil ⟨_, _, rfl, rfl, ⟨_, rfl, ⟨_, _, rfl, (ws_raise rfl trivial), (ws_nop (ws_if (wt_val (we_sc (wa_cons (we_var rfl (wa_cons (we_var rfl (wa_nil ⟨_, _, rfl, rfl, ⟨_, rfl, ⟨_, _, rfl, (ws_raise rfl trivial), (ws_nop ⟨_, _, rfl, rfl, rfl, loR⟩)⟩⟩⟩)))))))))⟩⟩⟩)))))))))
def fuel_looking : Nat := 10
def d_looking (g : Fn) : DS :=
  sSeq (sIf (dVal (dAp (opSc dEq) [eVar 0, dAp (opTk dList) []])) (sRet (dAp (opEl dIdx) [dAp (opTk dList) [dAp (opTk dTup) [eC (.str "one"), eVar 2], dAp (opTk dTup) [eC (.str "none")]], dAp (opSc dInt1) [dAp (opSc dEq) [eVar 1, dAp (opTk dList) []]]])) (sNop)) (sSeq (sSet 3 (dAp (opTk dTup) [eC (.str "one"), eVar 2])) (sSeq (sIf (dVal (dAp (opSc dGt) [dAp (opSc dLen) [eVar 0], eC (.int 1)])) (sSet 3 (dAp (opCall [false, false, false] g) [dAp (opEl dCut01) [eVar 0, dAp (opSc dNeg) [eC (.int 2)]], eVar 1, eVar 2])) (sNop)) (sSeq (sIf (dVal (dAp (opSc dEq) [dAp (opEl dIdx) [eVar 0, dAp (opSc dNeg) [eC (.int 1)]], eVar 2])) (sRet (eVar 3)) (sNop)) (sSeq (sSet 4 (dAp (opTk dTup) [eC (.str "none")])) (sSeq (sIf (dVal (dAp (opSc dNe) [eVar 1, dAp (opTk dList) []])) (sSet 4 (dAp (opCall [false, false, false] g) [dAp (opEl dCut01) [eVar 0, dAp (opSc dNeg) [eC (.int 1)]], dAp (opEl dCut01) [eVar 1, dAp (opSc dNeg) [eC (.int 1)]], eVar 2])) (sNop)) (sRet (dAp (opTk dTup) [eC (.str "ask"), eVar 2, dAp (opEl dIdx) [eVar 0, dAp (opSc dNeg) [eC (.int 1)]], eVar 3, eVar 4])))))))
def fn_looking : Nat → Fn
  | 0 => fun _ => .bad
  | k + 1 => runFn 3 5 (d_looking (fn_looking k))
def x_looking_ (gx : (List Int) → (List Int) → Int → M Tree) (a_row : (List Int)) (a_heap : (List Int)) (a_taken : Int) : M Tree :=
cond (a_row.isEmpty) (.ok (cond (a_heap.isEmpty) (Tree.none) (Tree.one a_taken))) (M.val (Tree.one a_taken) fun (alike_1 : Tree) =>
M.bind (cond (decide (1 < (a_row.length : Int))) (M.bind (gx (cutL a_row none (some (-2))) a_heap a_taken) fun (r_2 : Tree) =>
.ok r_2) (.ok alike_1)) fun (j_3 : Tree) =>
M.bind (idx a_row (-1)) fun (x_4 : Int) =>
cond (decide (x_4 = a_taken)) (.ok j_3) (M.val (Tree.none) fun (unlike_5 : Tree) =>
M.bind (cond (!a_heap.isEmpty) (M.bind (gx (cutL a_row none (some (-1))) (cutL a_heap none (some (-1))) a_taken) fun (r_6 : Tree) =>
.ok r_6) (.ok unlike_5)) fun (j_7 : Tree) =>
M.bind (idx a_row (-1)) fun (x_8 : Int) =>
.ok (Tree.ask a_taken x_8 j_3 j_7)))
def x_looking : Nat → (List Int) → (List Int) → Int → M Tree
  | 0 => fun _ _ _ => .bad
  | k + 1 => x_looking_ (x_looking k)
theorem t_looking_ (g : Fn) (gx : (List Int) → (List Int) → Int → M Tree) (gs : ∀ (a_row : (List Int)) (a_heap : (List Int)) (a_taken : Int), SimF g [.v false ((eL PySem.PyData.int) a_row), .v false ((eL PySem.PyData.int) a_heap), .v false (PySem.PyData.int a_taken)] (gx a_row a_heap a_taken) (fun (r : Tree) => .fz false (eT r)) (fun _ => [none, none, none])) (a_row : (List Int)) (a_heap : (List Int)) (a_taken : Int) : SimF (runFn 3 5 (d_looking g)) [.v false ((eL PySem.PyData.int) a_row), .v false ((eL PySem.PyData.int) a_heap), .v false (PySem.PyData.int a_taken)] (x_looking_ gx a_row a_heap a_taken) (fun (r : Tree) => .fz false (eT r)) (fun _ => [none, none, none]) := by
  delta x_looking_ d_looking
  exact simF_def rfl (ws_seq (ws_if (wt_val (we_sc (wa_cons (we_var rfl (wa_cons (we_tkN mono_list (wa_nil ⟨_, _, _, _, rfl, rfl, (wa_nil ⟨_, _, rfl, (eqnil_op enc_int (by decide) a_row), ⟨_, rfl, ⟨_, _, rfl, (ws_ret (we_elF mono_idx (wa_cons (we_tkN mono_list (wa_cons (we_tkF mono_tup (wa_cons (we_c (wa_cons (we_var rfl (wa_nil ⟨_, _, _, _, rfl, rfl, (wa_cons (we_tkF mono_tup (wa_cons (we_c (wa_nil ⟨_, _, _, _, rfl, rfl, (wa_nil ⟨_, _, _, _, rfl, rfl, (wa_cons (we_sc (wa_cons (we_sc (wa_cons (we_var rfl (wa_cons (we_tkN mono_list (wa_nil ⟨_, _, _, _, rfl, rfl, (wa_nil ⟨_, _, rfl, (eqnil_op enc_int (by decide) a_heap), (wa_nil ⟨_, _, rfl, rfl, (wa_nil ⟨_, _, _, _, rfl, pick2 eT (Tree.one a_taken) (Tree.none) (a_heap.isEmpty) _ _, ⟨(cond (a_heap.isEmpty) (Tree.none) (Tree.one a_taken)), _, _, rfl, rfl, ltR, rfl, loR⟩⟩)⟩)⟩)⟩)))))))))⟩)⟩)))))⟩))))))))))), (ws_nop (ws_seq (ws_setV (α := Tree) (fun v => .fz false (eT v)) (we_tkF mono_tup (wa_cons (we_c (wa_cons (we_var rfl (wa_nil ⟨_, _, _, _, rfl, rfl, ⟨_, _, rfl, rfl, fun alike_1 => ⟨[.fro false ((eL PySem.PyData.int) a_row), .fro false ((eL PySem.PyData.int) a_heap), .fro false (PySem.PyData.int a_taken), .fro false (eT alike_1), .un], rfl, (ws_seq (ws_join (fun (j_3 : Tree) => [.fro false ((eL PySem.PyData.int) a_row), .fro false ((eL PySem.PyData.int) a_heap), .fro false (PySem.PyData.int a_taken), .fro false (eT j_3), .un]) rfl (ws_if (wt_val (we_sc (wa_cons (we_sc (wa_cons (we_var rfl (wa_nil ⟨_, _, rfl, len_op PySem.PyData.int a_row, (wa_cons (we_c (wa_nil ⟨_, _, rfl, rfl, ⟨_, rfl, ⟨_, _, rfl, (ws_set (we_callK (wa_cons (we_elN mono_cut01 (wa_cons (we_var rfl (wa_cons (we_sc (wa_cons (we_c (wa_nil ⟨_, _, rfl, rfl, (wa_nil ⟨_, _, _, _, rfl, el_cut01 PySem.PyData.int a_row (-2) _ _, (wa_cons (we_var rfl (wa_cons (we_var rfl (wa_nil ⟨_, _, rfl, _, _, rfl, (fun _ => trivial), SimF.le (gs (cutL a_row none (some (-2))) a_heap a_taken) (laR (laR (laR laN))), fun r_2 => ⟨rfl, ⟨[.fro false ((eL PySem.PyData.int) a_row), .fro false ((eL PySem.PyData.int) a_heap), .fro false (PySem.PyData.int a_taken), .fro false (eT r_2), .un], rfl, ⟨_, rfl, (LeE.refl _)⟩⟩⟩⟩)))))⟩)⟩))))))))))), (ws_nop ⟨_, rfl, (LeE.refl _)⟩)⟩⟩⟩)))⟩)))))))) (fun j_3 => (ws_seq (ws_if (wt_val (we_sc (wa_cons (we_elM (fun v => .fz false (PySem.PyData.int v)) mono_idx (wa_cons (we_var rfl (wa_cons (we_sc (wa_cons (we_c (wa_nil ⟨_, _, rfl, rfl, (wa_nil ⟨_, _, rfl, _, _, rfl, po_idx PySem.PyData.int a_row (-1) _ _, fun x_4 => (wa_cons (we_var rfl (wa_nil ⟨_, _, rfl, (eq_op enc_int (by decide) x_4 a_taken), ⟨_, rfl, ⟨_, _, rfl, (ws_ret (we_var rfl ⟨j_3, _, _, rfl, rfl, ltR, rfl, loR⟩)), (ws_nop (ws_seq (ws_setV (α := Tree) (fun v => .fz true (eT v)) (we_tkF mono_tup (wa_cons (we_c (wa_nil ⟨_, _, _, _, rfl, rfl, ⟨_, _, rfl, rfl, fun unlike_5 => ⟨[.fro false ((eL PySem.PyData.int) a_row), .fro false ((eL PySem.PyData.int) a_heap), .fro false (PySem.PyData.int a_taken), .fro false (eT j_3), .fro true (eT unlike_5)], rfl, (ws_seq (ws_join (fun (j_7 : Tree) => [.fro false ((eL PySem.PyData.int) a_row), .fro false ((eL PySem.PyData.int) a_heap), .fro false (PySem.PyData.int a_taken), .fro false (eT j_3), .fro false (eT j_7)]) rfl (ws_if (wt_val (we_sc (wa_cons (we_var rfl (wa_cons (we_tkN mono_list (wa_nil ⟨_, _, _, _, rfl, rfl, (wa_nil ⟨_, _, rfl, (nenil_op enc_int (by decide) a_heap), ⟨_, rfl, ⟨_, _, rfl, (ws_set (we_callK (wa_cons (we_elN mono_cut01 (wa_cons (we_var rfl (wa_cons (we_sc (wa_cons (we_c (wa_nil ⟨_, _, rfl, rfl, (wa_nil ⟨_, _, _, _, rfl, el_cut01 PySem.PyData.int a_row (-1) _ _, (wa_cons (we_elN mono_cut01 (wa_cons (we_var rfl (wa_cons (we_sc (wa_cons (we_c (wa_nil ⟨_, _, rfl, rfl, (wa_nil ⟨_, _, _, _, rfl, el_cut01 PySem.PyData.int a_heap (-1) _ _, (wa_cons (we_var rfl (wa_nil ⟨_, _, rfl, _, _, rfl, (fun _ => trivial), SimF.le (gs (cutL a_row none (some (-1))) (cutL a_heap none (some (-1))) a_taken) (laR (laR (laR laN))), fun r_6 => ⟨rfl, ⟨[.fro false ((eL PySem.PyData.int) a_row), .fro false ((eL PySem.PyData.int) a_heap), .fro false (PySem.PyData.int a_taken), .fro false (eT j_3), .fro false (eT r_6)], rfl, ⟨_, rfl, (LeE.refl _)⟩⟩⟩⟩)))⟩)⟩)))))))))⟩)⟩))))))))))), (ws_nop ⟨_, rfl, (le_cons leR (le_cons leR (le_cons leR (le_cons leR (le_cons leF le_nil)))))⟩)⟩⟩⟩)⟩)))))))) (fun j_7 => (ws_ret (we_tkF mono_tup (wa_cons (we_c (wa_cons (we_var rfl (wa_cons (we_elM (fun v => .fz false (PySem.PyData.int v)) mono_idx (wa_cons (we_var rfl (wa_cons (we_sc (wa_cons (we_c (wa_nil ⟨_, _, rfl, rfl, (wa_nil ⟨_, _, rfl, _, _, rfl, po_idx PySem.PyData.int a_row (-1) _ _, fun x_8 => (wa_cons (we_var rfl (wa_cons (we_var rfl (wa_nil ⟨_, _, _, _, rfl, rfl, ⟨(Tree.ask a_taken x_8 j_3 j_7), _, _, rfl, rfl, ltR, rfl, loR⟩⟩)))))⟩)⟩))))))))))))))))))⟩⟩⟩)))))))⟩⟩⟩)))⟩)⟩))))))))))))))))⟩⟩⟩)))))))))⟩⟩⟩)⟩)))))))))
theorem t_looking : ∀ (k : Nat) (a_row : (List Int)) (a_heap : (List Int)) (a_taken : Int), SimF (fn_looking k) [.v false ((eL PySem.PyData.int) a_row), .v false ((eL PySem.PyData.int) a_heap), .v false (PySem.PyData.int a_taken)] (x_looking k a_row a_heap a_taken) (fun (r : Tree) => .fz false (eT r)) (fun _ => [none, none, none])
  | 0, _, _, _ => simF_bad
  | k + 1, a_row, a_heap, a_taken => t_looking_ _ _ (t_looking k) a_row a_heap a_taken
def fuel_laying : Nat := 10
def d_laying (g : Fn) : DS :=
  sSeq (sIf (dVal (dAp (opSc dEq) [eVar 1, eVar 0])) (sRet (dAp (opCall [false, false, false] (fn_looking fuel_looking)) [eVar 2, eVar 3, dAp (opEl dIdx) [eVar 2, dAp (opSc dNeg) [eC (.int 1)]]])) (sNop)) (sSeq (sSet 4 (dAp (opCall [false, false, false, false] g) [eVar 0, dAp (opEl dAdd) [eVar 1, eC (.int 1)], eVar 2, dAp (opEl dAdd) [eVar 3, dAp (opTk dList) [eVar 1]]])) (sSeq (sSet 5 (dAp (opCall [false, false, false, false] g) [eVar 0, dAp (opEl dAdd) [eVar 1, eC (.int 1)], dAp (opEl dAdd) [dAp (opEl dAdd) [eVar 2, dAp (opTk dList) [eVar 1]], dAp (opEl dCut10) [eVar 3, dAp (opSc dNeg) [eC (.int 1)]]], dAp (opEl dCut01) [eVar 3, dAp (opSc dNeg) [eC (.int 1)]]])) (sRet (dAp (opTk dTup) [eC (.str "ask"), dAp (opEl dIdx) [eVar 2, dAp (opSc dNeg) [eC (.int 1)]], eVar 1, eVar 4, eVar 5]))))
def fn_laying : Nat → Fn
  | 0 => fun _ => .bad
  | k + 1 => runFn 4 6 (d_laying (fn_laying k))
def x_laying_ (gx : Int → Int → (List Int) → (List Int) → M Tree) (a_many : Int) (a_thing : Int) (a_row : (List Int)) (a_heap : (List Int)) : M Tree :=
cond (decide (a_thing = a_many)) (M.bind (idx a_row (-1)) fun (x_1 : Int) =>
M.bind (x_looking fuel_looking a_row a_heap x_1) fun (r_2 : Tree) =>
.ok r_2) (M.bind (cat a_heap ([a_thing] : (List Int))) fun (l_3 : (List Int)) =>
M.bind (gx a_many (a_thing + 1) a_row l_3) fun (r_4 : Tree) =>
M.bind (cat a_row ([a_thing] : (List Int))) fun (l_5 : (List Int)) =>
M.bind (cat l_5 (cutL a_heap (some (-1)) none)) fun (l_6 : (List Int)) =>
M.bind (gx a_many (a_thing + 1) l_6 (cutL a_heap none (some (-1)))) fun (r_7 : Tree) =>
M.bind (idx a_row (-1)) fun (x_8 : Int) =>
.ok (Tree.ask x_8 a_thing r_4 r_7))
def x_laying : Nat → Int → Int → (List Int) → (List Int) → M Tree
  | 0 => fun _ _ _ _ => .bad
  | k + 1 => x_laying_ (x_laying k)
theorem t_laying_ (g : Fn) (gx : Int → Int → (List Int) → (List Int) → M Tree) (gs : ∀ (a_many : Int) (a_thing : Int) (a_row : (List Int)) (a_heap : (List Int)), SimF g [.v false (PySem.PyData.int a_many), .v false (PySem.PyData.int a_thing), .v false ((eL PySem.PyData.int) a_row), .v false ((eL PySem.PyData.int) a_heap)] (gx a_many a_thing a_row a_heap) (fun (r : Tree) => .fz false (eT r)) (fun _ => [none, none, none, none])) (a_many : Int) (a_thing : Int) (a_row : (List Int)) (a_heap : (List Int)) : SimF (runFn 4 6 (d_laying g)) [.v false (PySem.PyData.int a_many), .v false (PySem.PyData.int a_thing), .v false ((eL PySem.PyData.int) a_row), .v false ((eL PySem.PyData.int) a_heap)] (x_laying_ gx a_many a_thing a_row a_heap) (fun (r : Tree) => .fz false (eT r)) (fun _ => [none, none, none, none]) := by
  delta x_laying_ d_laying
  exact simF_def rfl (ws_seq (ws_if (wt_val (we_sc (wa_cons (we_var rfl (wa_cons (we_var rfl (wa_nil ⟨_, _, rfl, (eq_op enc_int (by decide) a_thing a_many), ⟨_, rfl, ⟨_, _, rfl, (ws_ret (we_callK (wa_cons (we_var rfl (wa_cons (we_var rfl (wa_cons (we_elM (fun v => .fz false (PySem.PyData.int v)) mono_idx (wa_cons (we_var rfl (wa_cons (we_sc (wa_cons (we_c (wa_nil ⟨_, _, rfl, rfl, (wa_nil ⟨_, _, rfl, _, _, rfl, po_idx PySem.PyData.int a_row (-1) _ _, fun x_1 => (wa_nil ⟨_, _, rfl, _, _, rfl, (fun _ => trivial), SimF.le (t_looking fuel_looking a_row a_heap x_1) (laR (laR (laR laN))), fun r_2 => ⟨rfl, ⟨r_2, _, _, rfl, rfl, ltR, rfl, loR⟩⟩⟩)⟩)⟩))))))))))))))), (ws_nop (ws_seq (ws_set (we_callK (wa_cons (we_var rfl (wa_cons (we_elF mono_add (wa_cons (we_var rfl (wa_cons (we_c (wa_nil ⟨_, _, _, _, rfl, rfl, (wa_cons (we_var rfl (wa_cons (we_elM (fun v => .nw (false && false) (v.map PySem.PyData.int)) mono_add (wa_cons (we_var rfl (wa_cons (we_tkN mono_list (wa_cons (we_var rfl (wa_nil ⟨_, _, _, _, rfl, rfl, (wa_nil ⟨_, _, rfl, _, _, rfl, po_cat PySem.PyData.int a_heap ([a_thing] : (List Int)) _ _, fun l_3 => (wa_nil ⟨_, _, rfl, _, _, rfl, (fun _ => trivial), SimF.le (gs a_many (a_thing + 1) a_row l_3) (laR (laV (laR (laR laN)))), fun r_4 => ⟨rfl, ⟨[.fro false (PySem.PyData.int a_many), .fro false (PySem.PyData.int a_thing), .fro false ((eL PySem.PyData.int) a_row), .fro false ((eL PySem.PyData.int) a_heap), .fro false (eT r_4), .un], rfl, (ws_seq (ws_set (we_callK (wa_cons (we_var rfl (wa_cons (we_elF mono_add (wa_cons (we_var rfl (wa_cons (we_c (wa_nil ⟨_, _, _, _, rfl, rfl, (wa_cons (we_elM (fun v => .nw (false && false) (v.map PySem.PyData.int)) mono_add (wa_cons (we_elM (fun v => .nw (false && false) (v.map PySem.PyData.int)) mono_add (wa_cons (we_var rfl (wa_cons (we_tkN mono_list (wa_cons (we_var rfl (wa_nil ⟨_, _, _, _, rfl, rfl, (wa_nil ⟨_, _, rfl, _, _, rfl, po_cat PySem.PyData.int a_row ([a_thing] : (List Int)) _ _, fun l_5 => (wa_cons (we_elN mono_cut10 (wa_cons (we_var rfl (wa_cons (we_sc (wa_cons (we_c (wa_nil ⟨_, _, rfl, rfl, (wa_nil ⟨_, _, _, _, rfl, el_cut10 PySem.PyData.int a_heap (-1) _ _, (wa_nil ⟨_, _, rfl, _, _, rfl, po_cat PySem.PyData.int l_5 (cutL a_heap (some (-1)) none) _ _, fun l_6 => (wa_cons (we_elN mono_cut01 (wa_cons (we_var rfl (wa_cons (we_sc (wa_cons (we_c (wa_nil ⟨_, _, rfl, rfl, (wa_nil ⟨_, _, _, _, rfl, el_cut01 PySem.PyData.int a_heap (-1) _ _, (wa_nil ⟨_, _, rfl, _, _, rfl, (fun _ => trivial), SimF.le (gs a_many (a_thing + 1) l_6 (cutL a_heap none (some (-1)))) (laR (laV (laR (laR laN)))), fun r_7 => ⟨rfl, ⟨[.fro false (PySem.PyData.int a_many), .fro false (PySem.PyData.int a_thing), .fro false ((eL PySem.PyData.int) a_row), .fro false ((eL PySem.PyData.int) a_heap), .fro false (eT r_4), .fro false (eT r_7)], rfl, (ws_ret (we_tkF mono_tup (wa_cons (we_c (wa_cons (we_elM (fun v => .fz false (PySem.PyData.int v)) mono_idx (wa_cons (we_var rfl (wa_cons (we_sc (wa_cons (we_c (wa_nil ⟨_, _, rfl, rfl, (wa_nil ⟨_, _, rfl, _, _, rfl, po_idx PySem.PyData.int a_row (-1) _ _, fun x_8 => (wa_cons (we_var rfl (wa_cons (we_var rfl (wa_cons (we_var rfl (wa_nil ⟨_, _, _, _, rfl, rfl, ⟨(Tree.ask x_8 a_thing r_4 r_7), _, _, rfl, rfl, ltR, rfl, loR⟩⟩)))))))⟩)⟩)))))))))))))⟩⟩⟩)⟩)⟩)))))))))⟩)⟩)⟩)))))))))⟩)⟩)))))))))))⟩))))))))))))⟩⟩⟩)⟩)⟩)))))))))))⟩)))))))))))))⟩⟩⟩)))))))))
theorem t_laying : ∀ (k : Nat) (a_many : Int) (a_thing : Int) (a_row : (List Int)) (a_heap : (List Int)), SimF (fn_laying k) [.v false (PySem.PyData.int a_many), .v false (PySem.PyData.int a_thing), .v false ((eL PySem.PyData.int) a_row), .v false ((eL PySem.PyData.int) a_heap)] (x_laying k a_many a_thing a_row a_heap) (fun (r : Tree) => .fz false (eT r)) (fun _ => [none, none, none, none])
  | 0, _, _, _, _ => simF_bad
  | k + 1, a_many, a_thing, a_row, a_heap => t_laying_ _ _ (t_laying k) a_many a_thing a_row a_heap
def d_fewest : DS :=
  sSeq (sDrop (dAp (opCallX [false, false] fn_need_some) [eVar 0, eC (.int (5))])) (sSeq (sSet 1 (dAp (opCall [false, false, false, false] (fn_laying fuel_laying)) [eVar 0, eC (.int 1), dAp (opTk dList) [eC (.int 0)], dAp (opTk dList) []])) (sRet (dAp (opTk dTup) [dAp (opCallX [false] (fn_depth fuel_depth)) [eVar 1], eVar 1])))
def fn_fewest : Fn := runFn 1 2 d_fewest
def x_fewest (a_many : Int) : M (Int × Tree) :=
M.bind (x_need_some a_many 5) fun (r_1 : Unit) =>
M.bind (x_laying fuel_laying a_many 1 ([0] : (List Int)) ([] : (List Int))) fun (r_2 : Tree) =>
M.bind (x_depth fuel_depth r_2) fun (r_3 : Int) =>
.ok (r_3, r_2)
theorem t_fewest (a_many : Int) : SimF fn_fewest [.v false (PySem.PyData.int a_many)] (x_fewest a_many) (fun (r : (Int × Tree)) => .fz false ((e2 PySem.PyData.int eT) r)) (fun _ => [none]) := by
  delta x_fewest fn_fewest d_fewest
  exact simF_def rfl (ws_seq (ws_drop (we_callX (wa_cons (we_var rfl (wa_cons (we_c (wa_nil ⟨_, _, rfl, (fun _ => trivial), _, rfl, rfl, t_need_some a_many 5, fun r_1 => ⟨_, rfl, (ws_seq (ws_set (we_callK (wa_cons (we_var rfl (wa_cons (we_c (wa_cons (we_tkN mono_list (wa_cons (we_c (wa_nil ⟨_, _, _, _, rfl, rfl, (wa_cons (we_tkN mono_list (wa_nil ⟨_, _, _, _, rfl, rfl, (wa_nil ⟨_, _, rfl, _, _, rfl, (fun _ => trivial), SimF.le (t_laying fuel_laying a_many 1 ([0] : (List Int)) ([] : (List Int))) (laR (laV (laV (laV laN)))), fun r_2 => ⟨rfl, ⟨[.fro false (PySem.PyData.int a_many), .fro false (eT r_2)], rfl, (ws_ret (we_tkF mono_tup (wa_cons (we_callX (wa_cons (we_var rfl (wa_nil ⟨_, _, rfl, (fun _ => trivial), _, rfl, rfl, t_depth fuel_depth r_2, fun r_3 => ⟨_, rfl, (wa_cons (we_var rfl (wa_nil ⟨_, _, _, _, rfl, rfl, ⟨(r_3, r_2), _, _, rfl, rfl, ltR, rfl, loR⟩⟩)))⟩⟩)))))))⟩⟩⟩)⟩)))⟩))))))))))))⟩⟩))))))))
end
end LbP
set_option maxHeartbeats 2000000
namespace LbB
open DL TS LbP
noncomputable section

def d_law_hand : DS :=
  sRet (dAp (opTk dList) [dAp (opSc dMax2) [eC (.int 0), dAp (opSc dSub) [eVar 0, dAp (opSc dPow) [eC (.int 10), eC (.int 18)]]], dAp (opEl dMul) [dAp (opEl dAdd) [dAp (opSc dMod) [eVar 0, eC (.int 2147483629)], eC (.int 1)], dAp (opSc dInt1) [dAp (opSc dNe) [eVar 0, dAp (opSc dPow) [eC (.int 10), eC (.int 18)]]]]])
def fn_law_hand : Fn := runFn 1 1 d_law_hand
def x_law_hand (a_cell : Int) : M (Int × Int) :=
M.bind (mulI ((a_cell % 2147483629) + 1) (b2i (!decide (a_cell = (10 ^ (18 : Int).toNat))))) fun (x_1 : Int) =>
.ok ((maxI 0 (a_cell - (10 ^ (18 : Int).toNat))), x_1)
theorem t_law_hand (a_cell : Int) : SimF fn_law_hand [.v false (PySem.PyData.int a_cell)] (x_law_hand a_cell) (fun (r : (Int × Int)) => .nw true [(PySem.PyData.int (r.1)), (PySem.PyData.int (r.2))]) (fun _ => [none]) := by
  delta x_law_hand fn_law_hand d_law_hand
  exact simF_def rfl (ws_ret (we_tkN mono_list (wa_cons (we_sc (wa_cons (we_c (wa_cons (we_sc (wa_cons (we_var rfl (wa_cons (we_sc (wa_cons (we_c (wa_cons (we_c (wa_nil ⟨_, _, rfl, rfl, (wa_nil ⟨_, _, rfl, rfl, (wa_nil ⟨_, _, rfl, rfl, (wa_cons (we_elM (fun v => .fz true (PySem.PyData.int v)) mono_mul (wa_cons (we_elF mono_add (wa_cons (we_sc (wa_cons (we_var rfl (wa_cons (we_c (wa_nil ⟨_, _, rfl, (mod_lit _ _ (by decide)), (wa_cons (we_c (wa_nil ⟨_, _, _, _, rfl, rfl, (wa_cons (we_sc (wa_cons (we_sc (wa_cons (we_var rfl (wa_cons (we_sc (wa_cons (we_c (wa_cons (we_c (wa_nil ⟨_, _, rfl, rfl, (wa_nil ⟨_, _, rfl, (ne_op enc_int (by decide) a_cell (10 ^ (18 : Int).toNat)), (wa_nil ⟨_, _, rfl, rfl, (wa_nil ⟨_, _, rfl, _, _, rfl, po_mulI _ _ _ _, fun x_1 => (wa_nil ⟨_, _, _, _, rfl, rfl, ⟨((maxI 0 (a_cell - (10 ^ (18 : Int).toNat))), x_1), _, _, rfl, rfl, ltR, rfl, loR⟩⟩)⟩)⟩)⟩)⟩)))))))))))))⟩)))⟩)))))))))))⟩)⟩)⟩)))))))))))))))))
def d_law_take : DS :=
  sSeq (sIf (dVal (dAp (opSc dGt) [dAp (opEl dIdx) [eVar 0, eC (.int 0)], eC (.int 0)])) (sSeq (sSet 2 (dAp (opSc dMod) [dAp (opEl dIdx) [eVar 0, eC (.int 0)], eVar 1])) (sSeq (sSetIx 0 (dAp (opSc dDiv) [dAp (opEl dIdx) [eVar 0, eC (.int 0)], eVar 1]) (eC (.int 0))) (sRet (eVar 2)))) (sNop)) (sSeq (sSetIx 0 (dAp (opSc dMod) [dAp (opEl dMul) [dAp (opEl dIdx) [eVar 0, eC (.int 1)], eC (.int 48271)], eC (.int 2147483647)]) (eC (.int 1))) (sRet (dAp (opSc dMod) [dAp (opSc dDiv) [dAp (opSc dPow) [dAp (opEl dAdd) [dAp (opEl dIdx) [eVar 0, eC (.int 1)], eC (.int 1)], eC (.int 7)], eC (.int 8)], eVar 1])))
def fn_law_take : Fn := runFn 2 3 d_law_take
def x_law_take (a_hand : (Int × Int)) (a_many : Int) : M (Int × (Int × Int)) :=
cond (decide (0 < a_hand.1)) (M.bind (modM (a_hand.1) a_many) fun (x_1 : Int) =>
M.bind (divM (a_hand.1) a_many) fun (x_2 : Int) =>
M.val (x_2, a_hand.2) fun (hand_3 : (Int × Int)) =>
.ok (x_1, hand_3)) (M.val (a_hand.1, (((a_hand.2) * 48271) % 2147483647)) fun (hand_4 : (Int × Int)) =>
M.bind (powM ((hand_4.2) + 1) 7) fun (x_5 : Int) =>
M.bind (modM (x_5 / 8) a_many) fun (x_6 : Int) =>
.ok (x_6, hand_4))
theorem t_law_take (a_hand : (Int × Int)) (a_many : Int) : SimF fn_law_take [.o true [(PySem.PyData.int (a_hand.1)), (PySem.PyData.int (a_hand.2))], .v false (PySem.PyData.int a_many)] (x_law_take a_hand a_many) (fun (r : (Int × (Int × Int))) => .fz true (PySem.PyData.int (r.1))) (fun r => [some (true, [(PySem.PyData.int ((r.2).1)), (PySem.PyData.int ((r.2).2))]), none]) := by
  delta x_law_take fn_law_take d_law_take
  exact simF_def rfl (ws_seq (ws_if (wt_val (we_sc (wa_cons (we_elF mono_idx (wa_cons (we_var rfl (wa_cons (we_c (wa_nil ⟨_, _, _, _, rfl, rfl, (wa_cons (we_c (wa_nil ⟨_, _, rfl, rfl, ⟨_, rfl, ⟨_, _, rfl, (ws_seq (ws_set (we_scM (fun v => PySem.PyData.int v) (wa_cons (we_elF mono_idx (wa_cons (we_var rfl (wa_cons (we_c (wa_nil ⟨_, _, _, _, rfl, rfl, (wa_cons (we_var rfl (wa_nil ⟨_, _, rfl, _, rfl, ps_mod _ _, fun x_1 => ⟨[.own true true [(PySem.PyData.int (a_hand.1)), (PySem.PyData.int (a_hand.2))], .fro false (PySem.PyData.int a_many), .fro true (PySem.PyData.int x_1)], rfl, (ws_seq (ws_setIxV (β := (Int × Int)) (fun v => [(PySem.PyData.int (v.1)), (PySem.PyData.int (v.2))]) (we_scM (fun v => PySem.PyData.int v) (wa_cons (we_elF mono_idx (wa_cons (we_var rfl (wa_cons (we_c (wa_nil ⟨_, _, _, _, rfl, rfl, (wa_cons (we_var rfl (wa_nil ⟨_, _, rfl, _, rfl, ps_div _ _, fun x_2 => ⟨_, _, _, rfl, rfl, (we_c ⟨_, _, rfl, _, _, _, _, _, rfl, rfl, rfl, rfl, fun hand_3 => (ws_ret (we_var rfl ⟨(x_1, hand_3), _, _, rfl, rfl, ltR, rfl, loR⟩))⟩)⟩⟩)))⟩))))))))))⟩⟩)))⟩)))))))))), (ws_nop (ws_seq (ws_setIxV (β := (Int × Int)) (fun v => [(PySem.PyData.int (v.1)), (PySem.PyData.int (v.2))]) (we_sc (wa_cons (we_elF mono_mul (wa_cons (we_elF mono_idx (wa_cons (we_var rfl (wa_cons (we_c (wa_nil ⟨_, _, _, _, rfl, rfl, (wa_cons (we_c (wa_nil ⟨_, _, _, _, rfl, mul_lit _ _ _ _ (small_r (by decide)), (wa_cons (we_c (wa_nil ⟨_, _, rfl, (mod_lit _ _ (by decide)), ⟨_, _, _, rfl, rfl, (we_c ⟨_, _, rfl, _, _, _, _, _, rfl, rfl, rfl, rfl, fun hand_4 => (ws_ret (we_scM (fun v => PySem.PyData.int v) (wa_cons (we_sc (wa_cons (we_scM (fun v => PySem.PyData.int v) (wa_cons (we_elF mono_add (wa_cons (we_elF mono_idx (wa_cons (we_var rfl (wa_cons (we_c (wa_nil ⟨_, _, _, _, rfl, rfl, (wa_cons (we_c (wa_nil ⟨_, _, _, _, rfl, rfl, (wa_cons (we_c (wa_nil ⟨_, _, rfl, _, rfl, ps_pow _ _, fun x_5 => (wa_cons (we_c (wa_nil ⟨_, _, rfl, (div_lit _ _ (by decide)), (wa_cons (we_var rfl (wa_nil ⟨_, _, rfl, _, rfl, ps_mod _ _, fun x_6 => ⟨(x_6, hand_4), _, _, rfl, rfl, ltR, rfl, loR⟩⟩)))⟩)))⟩)))⟩)))⟩)))))))))))))))⟩)⟩⟩)))⟩)))⟩)))))))))))))⟩⟩⟩)))⟩)))))))))))
end
end LbB
set_option maxHeartbeats 2000000
namespace LbH
open DL TS LbP
noncomputable section

def d_need_held : DS :=
  sSeq (sIf (dVal (dAp (opSc dLt) [eVar 0, eC (.int 2)])) (sRaise "NoThing") (sNop)) (sIf (dVal (dAp (opSc dGt) [eVar 0, eC (.int (4))])) (sRaise "TooMany") (sNop))
def fn_need_held : Fn := runFn 1 1 d_need_held
def x_need_held (a_many : Int) : M Unit :=
cond (decide (a_many < 2)) (.exc "NoThing") (cond (decide (4 < a_many)) (.exc "TooMany") (.ok ()))
theorem t_need_held (a_many : Int) : SimF fn_need_held [.v false (PySem.PyData.int a_many)] (x_need_held a_many) (fun (r : Unit) => .fz true (eU r)) (fun _ => [none]) := by
  delta x_need_held fn_need_held d_need_held
  exact simF_def rfl (ws_seq (ws_if (wt_val (we_sc (wa_cons (we_var rfl (wa_cons (we_c (wa_nil ⟨_, _, rfl, rfl, ⟨_, rfl, ⟨_, _, rfl, (ws_raise rfl trivial), (ws_nop (ws_if (wt_val (we_sc (wa_cons (we_var rfl (wa_cons (we_c (wa_nil ⟨_, _, rfl, rfl, ⟨_, rfl, ⟨_, _, rfl, (ws_raise rfl trivial), (ws_nop ⟨_, _, rfl, rfl, rfl, loR⟩)⟩⟩⟩)))))))))⟩⟩⟩)))))))))
def d_is_open : DS :=
  sSeq (sSet 1 (eComp [2] (.nm 2) (iSeq (eVar 0)) (dYes) (dAp (opCallX [false] fn_more_than_half) [eVar 2]))) (sSeq (sIf (dVal (dAp (opSc dEq) [eComp [3] (.nm 3) (iSeq (eVar 1)) (dVal (dAp (opSc dNe) [eVar 3, dAp (opTk dList) []])) (eVar 3), dAp (opTk dList) []])) (sRet (eC (.bool false))) (sNop)) (sRet (dAp (opSc dEq) [eComp [4] (.nm 4) (iSeq (dAp (opEl dIdx) [eVar 1, eC (.int 0)])) (dVal (dAp (opSc dEq) [eComp [3] (.nm 3) (iSeq (eVar 1)) (dVal (dAp (opSc dNotIn) [eVar 4, eVar 3])) (eVar 3), dAp (opTk dList) []])) (eVar 4), dAp (opTk dList) []])))
def fn_is_open : Fn := runFn 1 5 d_is_open
def x_is_open_c1 (x_9 : Int) (x_11 : (List Int)) : M (Option (List Int)) :=
cond (!mem x_9 x_11) (.ok (some x_11)) (.ok none)
def x_is_open_c2 (ys_4 : (List (List Int))) (x_9 : Int) : M (Option Int) :=
M.bind (filU (β := (List Int)) (x_is_open_c1 x_9) ys_4) fun (ys_13 : (List (List Int))) =>
cond (ys_13.isEmpty) (.ok (some x_9)) (.ok none)
def x_is_open_c3 (x_5 : (List Int)) : M (Option (List Int)) :=
cond (!x_5.isEmpty) (.ok (some x_5)) (.ok none)
def x_is_open_c4 (x_1 : (List Int)) : M (List Int) :=
M.bind (x_more_than_half x_1) fun (r_3 : (List Int)) =>
.ok r_3
def x_is_open (a_fitting : (List (List Int))) : M Bool :=
M.bind (mapU (β := (List Int)) x_is_open_c4 a_fitting) fun (ys_4 : (List (List Int))) =>
M.bind (filU (β := (List Int)) x_is_open_c3 ys_4) fun (ys_7 : (List (List Int))) =>
cond (ys_7.isEmpty) (.ok false) (M.bind (idx ys_4 0) fun (x_8 : (List Int)) =>
M.bind (filU (β := Int) (x_is_open_c2 ys_4) x_8) fun (ys_14 : (List Int)) =>
.ok (ys_14.isEmpty))
theorem t_is_open (a_fitting : (List (List Int))) : SimF fn_is_open [.v false ((eL (eL PySem.PyData.int)) a_fitting)] (x_is_open a_fitting) (fun (r : Bool) => .fz true (PySem.PyData.bool r)) (fun _ => [none]) := by
  delta x_is_open fn_is_open d_is_open
  exact simF_def rfl (ws_seq (ws_set (we_mapU (enc := (eL PySem.PyData.int)) (enc2 := (eL PySem.PyData.int)) (bt := true) (wi_seq (we_var rfl ⟨_, _, _, _, rfl, ⟨[.fro false ((eL (eL PySem.PyData.int)) a_fitting), .un, .un, .un, .un], _, _, _, rfl, rfl, rfl, (LeE.refl _), (fun x_1 => ⟨[.fro false ((eL (eL PySem.PyData.int)) a_fitting), .un, .fro false ((eL PySem.PyData.int) x_1), .un, .un], rfl, (we_callX (wa_cons (we_var rfl (wa_nil ⟨_, _, rfl, (fun _ => trivial), _, rfl, rfl, t_more_than_half x_1, fun r_3 => ⟨_, rfl, ⟨_, _, rfl, rfl, (LeE.refl _)⟩⟩⟩))))⟩), fun ys_4 => ⟨[.fro false ((eL (eL PySem.PyData.int)) a_fitting), .un, .un, .un, .un], rfl, ⟨[.fro false ((eL (eL PySem.PyData.int)) a_fitting), .own false true (ys_4.map (eL PySem.PyData.int)), .un, .un, .un], rfl, (ws_seq (ws_if (wt_val (we_sc (wa_cons (we_filU (enc := (eL PySem.PyData.int)) (enc2 := (eL PySem.PyData.int)) (bt := true) (wi_seq (we_var rfl ⟨_, _, _, _, rfl, ⟨[.fro false ((eL (eL PySem.PyData.int)) a_fitting), .lent, .un, .un, .un], _, _, _, rfl, rfl, rfl, (LeE.refl _), (fun x_5 => ⟨[.fro false ((eL (eL PySem.PyData.int)) a_fitting), .lent, .un, .fro true ((eL PySem.PyData.int) x_5), .un], rfl, (wt_val (we_sc (wa_cons (we_var rfl (wa_cons (we_tkN mono_list (wa_nil ⟨_, _, _, _, rfl, rfl, (wa_nil ⟨_, _, rfl, (nenil_op enc_int (by decide) x_5), ⟨_, rfl, ⟨_, _, rfl, (fun _ => ⟨rfl, (LeE.refl _)⟩), fun _ => (we_var rfl ⟨_, _, rfl, rfl, (LeE.refl _)⟩)⟩⟩⟩)⟩)))))))⟩), fun ys_7 => ⟨[.fro false ((eL (eL PySem.PyData.int)) a_fitting), .own false true (ys_4.map (eL PySem.PyData.int)), .un, .un, .un], rfl, (wa_cons (we_tkN mono_list (wa_nil ⟨_, _, _, _, rfl, rfl, (wa_nil ⟨_, _, rfl, (eqnil_op (enc_list enc_int) (by decide) ys_7), ⟨_, rfl, ⟨_, _, rfl, (ws_ret (we_c ⟨false, _, _, rfl, rfl, ltR, rfl, loR⟩)), (ws_nop (ws_ret (we_sc (wa_cons (we_filU (enc := PySem.PyData.int) (enc2 := PySem.PyData.int) (bt := true) (wi_seq (we_elM (fun v => .fz true ((eL PySem.PyData.int) v)) mono_idx (wa_cons (we_var rfl (wa_cons (we_c (wa_nil ⟨_, _, rfl, _, _, rfl, po_idx (eL PySem.PyData.int) ys_4 0 _ _, fun x_8 => ⟨_, _, _, _, rfl, ⟨[.fro false ((eL (eL PySem.PyData.int)) a_fitting), .own false true (ys_4.map (eL PySem.PyData.int)), .un, .un, .un], _, _, _, rfl, rfl, rfl, (LeE.refl _), (fun x_9 => ⟨[.fro false ((eL (eL PySem.PyData.int)) a_fitting), .own false true (ys_4.map (eL PySem.PyData.int)), .un, .un, .fro true (PySem.PyData.int x_9)], rfl, (wt_val (we_sc (wa_cons (we_filU (enc := (eL PySem.PyData.int)) (enc2 := (eL PySem.PyData.int)) (bt := true) (wi_seq (we_var rfl ⟨_, _, _, _, rfl, ⟨[.fro false ((eL (eL PySem.PyData.int)) a_fitting), .lent, .un, .un, .fro true (PySem.PyData.int x_9)], _, _, _, rfl, rfl, rfl, (LeE.refl _), (fun x_11 => ⟨[.fro false ((eL (eL PySem.PyData.int)) a_fitting), .lent, .un, .fro true ((eL PySem.PyData.int) x_11), .fro true (PySem.PyData.int x_9)], rfl, (wt_val (we_sc (wa_cons (we_var rfl (wa_cons (we_var rfl (wa_nil ⟨_, _, rfl, (notin_op enc_int (by decide) x_9 x_11), ⟨_, rfl, ⟨_, _, rfl, (fun _ => ⟨rfl, (LeE.refl _)⟩), fun _ => (we_var rfl ⟨_, _, rfl, rfl, (LeE.refl _)⟩)⟩⟩⟩)))))))⟩), fun ys_13 => ⟨[.fro false ((eL (eL PySem.PyData.int)) a_fitting), .own false true (ys_4.map (eL PySem.PyData.int)), .un, .un, .fro true (PySem.PyData.int x_9)], rfl, (wa_cons (we_tkN mono_list (wa_nil ⟨_, _, _, _, rfl, rfl, (wa_nil ⟨_, _, rfl, (eqnil_op (enc_list enc_int) (by decide) ys_13), ⟨_, rfl, ⟨_, _, rfl, (fun _ => ⟨rfl, (LeE.refl _)⟩), fun _ => (we_var rfl ⟨_, _, rfl, rfl, (LeE.refl _)⟩)⟩⟩⟩)⟩)))⟩⟩⟩))))))⟩), fun ys_14 => ⟨[.fro false ((eL (eL PySem.PyData.int)) a_fitting), .own false true (ys_4.map (eL PySem.PyData.int)), .un, .un, .un], rfl, (wa_cons (we_tkN mono_list (wa_nil ⟨_, _, _, _, rfl, rfl, (wa_nil ⟨_, _, rfl, (eqnil_op enc_int (by decide) ys_14), ⟨(ys_14.isEmpty), _, _, rfl, rfl, ltR, rfl, loR⟩⟩)⟩)))⟩⟩⟩⟩))))))))))))⟩⟩⟩)⟩)))⟩⟩⟩))))))))⟩⟩⟩⟩)))))
def d_pairs_of : DS :=
  sSeq (sSet 1 (dAp (opTk dList) [])) (sSeq (sFor (.nm 2) (iRange [eVar 0]) (sDrop (eMut 1 mExtend [eComp [3] (.nm 3) (iRange [dAp (opEl dAdd) [eVar 2, eC (.int 1)], eVar 0]) (dYes) (dAp (opTk dTup) [eVar 2, eVar 3])]))) (sRet (eVar 1)))
def fn_pairs_of : Fn := runFn 1 4 d_pairs_of
def x_pairs_of_c1 (x_3 : Int) (x_6 : Int) : M (Int × Int) :=
.ok (x_3, x_6)
def x_pairs_of_b1 (a_many : Int) (x_3 : Int) (s_4 : (List (Int × Int))) : M (List (Int × Int)) :=
M.bind (rng2 (x_3 + 1) a_many) fun (ks_5 : (List Int)) =>
M.bind (mapU (β := (Int × Int)) (x_pairs_of_c1 x_3) ks_5) fun (ys_8 : (List (Int × Int))) =>
M.bind (cat s_4 ys_8) fun (found_9 : (List (Int × Int))) =>
.ok found_9
def x_pairs_of (a_many : Int) : M (List (Int × Int)) :=
M.val ([] : (List (Int × Int))) fun (found_1 : (List (Int × Int))) =>
M.bind (rng1 a_many) fun (ks_2 : (List Int)) =>
M.bind (forS (x_pairs_of_b1 a_many) ks_2 found_1) fun (e_10 : (List (Int × Int))) =>
.ok e_10
theorem t_pairs_of (a_many : Int) : SimF fn_pairs_of [.v false (PySem.PyData.int a_many)] (x_pairs_of a_many) (fun (r : (List (Int × Int))) => .nw true (r.map (e2 PySem.PyData.int PySem.PyData.int))) (fun _ => [none]) := by
  delta x_pairs_of fn_pairs_of d_pairs_of
  exact simF_def rfl (ws_seq (ws_setV (α := (List (Int × Int))) (fun v => .nw true (v.map (e2 PySem.PyData.int PySem.PyData.int))) (we_tkN mono_list (wa_nil ⟨_, _, _, _, rfl, rfl, ⟨_, _, rfl, rfl, fun found_1 => ⟨[.fro false (PySem.PyData.int a_many), .own false true (found_1.map (e2 PySem.PyData.int PySem.PyData.int)), .un, .un], rfl, (ws_seq (ws_forS (enc := PySem.PyData.int) (wi_range1 (wa_cons (we_var rfl (wa_nil ⟨_, _, rfl, rfl, fun ks_2 => ⟨(fun (s_4 : (List (Int × Int))) => [.fro false (PySem.PyData.int a_many), .own false true (s_4.map (e2 PySem.PyData.int PySem.PyData.int)), .pl, .un]), _, _, _, _, rfl, rfl, (le_cons leR (le_cons leR (le_cons (leP rfl) (le_cons leR le_nil)))), (fun x_3 s_4 => ⟨[.fro false (PySem.PyData.int a_many), .own false true (s_4.map (e2 PySem.PyData.int PySem.PyData.int)), .fro true (PySem.PyData.int x_3), .un], rfl, (ws_drop (we_mut (fun v => (true && true, v.map (e2 PySem.PyData.int PySem.PyData.int), true, .none)) mmono_extend rfl (wa_cons (we_mapU (enc := PySem.PyData.int) (enc2 := (e2 PySem.PyData.int PySem.PyData.int)) (bt := true) (wi_range2 (wa_cons (we_elF mono_add (wa_cons (we_var rfl (wa_cons (we_c (wa_nil ⟨_, _, _, _, rfl, rfl, (wa_cons (we_var rfl (wa_nil ⟨_, _, _, rfl, rfl, fun ks_5 => ⟨[.fro false (PySem.PyData.int a_many), .own false true (s_4.map (e2 PySem.PyData.int PySem.PyData.int)), .fro true (PySem.PyData.int x_3), .un], _, _, _, rfl, rfl, rfl, (LeE.refl _), (fun x_6 => ⟨[.fro false (PySem.PyData.int a_many), .own false true (s_4.map (e2 PySem.PyData.int PySem.PyData.int)), .fro true (PySem.PyData.int x_3), .fro true (PySem.PyData.int x_6)], rfl, (we_tkF mono_tup (wa_cons (we_var rfl (wa_cons (we_var rfl (wa_nil ⟨_, _, _, _, rfl, rfl, ⟨_, _, rfl, rfl, (LeE.refl _)⟩⟩))))))⟩), fun ys_8 => ⟨[.fro false (PySem.PyData.int a_many), .own false true (s_4.map (e2 PySem.PyData.int PySem.PyData.int)), .fro true (PySem.PyData.int x_3), .un], rfl, (wa_nil ⟨_, _, rfl, _, _, _, _, _, rfl, rfl, pm_extend (e2 PySem.PyData.int PySem.PyData.int) s_4 ys_8 _ _, fun found_9 => ⟨_, rfl, (le_cons leR (le_cons leR (le_cons (leP rfl) (le_cons leR le_nil))))⟩⟩)⟩⟩⟩)))⟩))))))))))))⟩), fun e_10 => ⟨[.fro false (PySem.PyData.int a_many), .own false true (e_10.map (e2 PySem.PyData.int PySem.PyData.int)), .pl, .un], rfl, (ws_ret (we_var rfl ⟨e_10, _, _, rfl, rfl, ltR, rfl, loR⟩))⟩⟩⟩))))))⟩⟩⟩))))
def d_fitting_to : DS :=
  sRet (eComp [4] (.nm 4) (iSeq (eVar 0)) (dVal (dAp (opSc dEq) [dAp (opSc dEq) [dAp (opEl dIdx) [eVar 4, eVar 1], dAp (opEl dIdx) [eVar 4, eVar 2]], eVar 3])) (eVar 4))
def fn_fitting_to : Fn := runFn 4 5 d_fitting_to
def x_fitting_to_c1 (a_i : Int) (a_j : Int) (a_alike : Bool) (x_1 : (List Int)) : M (Option (List Int)) :=
M.bind (idx x_1 a_i) fun (x_3 : Int) =>
M.bind (idx x_1 a_j) fun (x_4 : Int) =>
cond (decide ((decide (x_3 = x_4)) = a_alike)) (.ok (some x_1)) (.ok none)
def x_fitting_to (a_fitting : (List (List Int))) (a_i : Int) (a_j : Int) (a_alike : Bool) : M (List (List Int)) :=
M.bind (filU (β := (List Int)) (x_fitting_to_c1 a_i a_j a_alike) a_fitting) fun (ys_5 : (List (List Int))) =>
.ok ys_5
theorem t_fitting_to (a_fitting : (List (List Int))) (a_i : Int) (a_j : Int) (a_alike : Bool) : SimF fn_fitting_to [.v false ((eL (eL PySem.PyData.int)) a_fitting), .v false (PySem.PyData.int a_i), .v false (PySem.PyData.int a_j), .v false (PySem.PyData.bool a_alike)] (x_fitting_to a_fitting a_i a_j a_alike) (fun (r : (List (List Int))) => .nw false (r.map (eL PySem.PyData.int))) (fun _ => [none, none, none, none]) := by
  delta x_fitting_to fn_fitting_to d_fitting_to
  exact simF_def rfl (ws_ret (we_filU (enc := (eL PySem.PyData.int)) (enc2 := (eL PySem.PyData.int)) (bt := false) (wi_seq (we_var rfl ⟨_, _, _, _, rfl, ⟨[.fro false ((eL (eL PySem.PyData.int)) a_fitting), .fro false (PySem.PyData.int a_i), .fro false (PySem.PyData.int a_j), .fro false (PySem.PyData.bool a_alike), .un], _, _, _, rfl, rfl, rfl, (LeE.refl _), (fun x_1 => ⟨[.fro false ((eL (eL PySem.PyData.int)) a_fitting), .fro false (PySem.PyData.int a_i), .fro false (PySem.PyData.int a_j), .fro false (PySem.PyData.bool a_alike), .fro false ((eL PySem.PyData.int) x_1)], rfl, (wt_val (we_sc (wa_cons (we_sc (wa_cons (we_elM (fun v => .fz false (PySem.PyData.int v)) mono_idx (wa_cons (we_var rfl (wa_cons (we_var rfl (wa_nil ⟨_, _, rfl, _, _, rfl, po_idx PySem.PyData.int x_1 a_i _ _, fun x_3 => (wa_cons (we_elM (fun v => .fz false (PySem.PyData.int v)) mono_idx (wa_cons (we_var rfl (wa_cons (we_var rfl (wa_nil ⟨_, _, rfl, _, _, rfl, po_idx PySem.PyData.int x_1 a_j _ _, fun x_4 => (wa_nil ⟨_, _, rfl, (eq_op enc_int (by decide) x_3 x_4), (wa_cons (we_var rfl (wa_nil ⟨_, _, rfl, (eq_op enc_bool (by decide) (decide (x_3 = x_4)) a_alike), ⟨_, rfl, ⟨_, _, rfl, (fun _ => ⟨rfl, (LeE.refl _)⟩), fun _ => (we_var rfl ⟨_, _, rfl, rfl, (LeE.refl _)⟩)⟩⟩⟩)))⟩)⟩)))))))⟩)))))))))))⟩), fun ys_5 => ⟨[.fro false ((eL (eL PySem.PyData.int)) a_fitting), .fro false (PySem.PyData.int a_i), .fro false (PySem.PyData.int a_j), .fro false (PySem.PyData.bool a_alike), .un], rfl, ⟨ys_5, _, _, rfl, rfl, ltR, rfl, loR⟩⟩⟩⟩))))
def fuel_held : Nat := 8
def d_held (g : Fn) : DS :=
  sSeq (sIf (dVal (dAp (opSc dEq) [eVar 1, eC (.int 0)])) (sRetF (dAp (opEl dIdx) [dAp (opTk dList) [eC .none, dAp (opTk dTup) []], dAp (opSc dInt1) [dAp (opCallX [false] fn_is_open) [eVar 2]]])) (sNop)) (sSeq (sSet 3 (dAp (opTk dList) [])) (sSeq (sFor (.tp (.cons (.nm 4) (.cons (.nm 5) (.nil)))) (iSeq (eVar 0)) (sSeq (sSet 6 (eC .none)) (sSeq (sFor (.nm 7) (iSeq (dAp (opTk dList) [eC (.bool true), eC (.bool false)])) (sSeq (sSet 8 (dAp (opCall [false, false, false, false] fn_fitting_to) [eVar 2, eVar 4, eVar 5, eVar 7])) (sIf (dAnd (dVal (dAp (opSc dIsN) [eVar 6, eC .none])) (dVal (dAp (opSc dNe) [eVar 8, dAp (opTk dList) []]))) (sSeq (sSet 6 (dAp (opCall [false, false, false] g) [eVar 0, dAp (opSc dSub) [eVar 1, eC (.int 1)], eVar 8])) (sSet 9 (eVar 7))) (sNop)))) (sSeq (sIf (dVal (dAp (opSc dIsN) [eVar 6, eC .none])) (sRetF (eC .none)) (sNop)) (sDrop (eMut 3 mAppend [dAp (opTk dTup) [eVar 9, eVar 6]])))))) (sRetF (eVar 3))))
def fn_held : Nat → Fn
  | 0 => fun _ => .bad
  | k + 1 => runFn 3 10 (d_held (fn_held k))
def x_held_b1 (gx : (List (Int × Int)) → Int → (List (List Int)) → M D) (a_pairs : (List (Int × Int))) (a_asks : Int) (a_fitting : (List (List Int))) (x_3 : (Int × Int)) (x_6 : Bool) (s_7 : (D × (Option Bool))) : M (D × (Option Bool)) :=
M.bind (x_fitting_to a_fitting (x_3.1) (x_3.2) x_6) fun (r_8 : (List (List Int))) =>
M.bind (cond ((isNoneD (s_7.1)) && (!r_8.isEmpty)) (M.bind (gx a_pairs (a_asks - 1) r_8) fun (r_9 : D) =>
.ok (r_9, (some x_6))) (.ok (s_7.1, s_7.2))) fun (j_10 : (D × (Option Bool))) =>
.ok (j_10.1, j_10.2)
def x_held_b2 (gx : (List (Int × Int)) → Int → (List (List Int)) → M D) (a_pairs : (List (Int × Int))) (a_asks : Int) (a_fitting : (List (List Int))) (x_3 : (Int × Int)) (s_4 : ((List (Bool × D)) × (Option Bool))) : M (Lp ((List (Bool × D)) × (Option Bool)) D) :=
M.val (eU ()) fun (under_5 : D) =>
M.bind (forS (x_held_b1 gx a_pairs a_asks a_fitting x_3) ([true, false] : List Bool) (under_5, s_4.2)) fun (e_11 : (D × (Option Bool))) =>
cond (isNoneD (e_11.1)) (.ok (.ex (eU ()))) (M.bind (ofO (e_11.2)) fun (truth_12 : Bool) =>
M.bind (app (s_4.1) (truth_12, e_11.1)) fun (found_13 : (List (Bool × D))) =>
.ok (.nx (found_13, (some truth_12))))
def x_held_ (gx : (List (Int × Int)) → Int → (List (List Int)) → M D) (a_pairs : (List (Int × Int))) (a_asks : Int) (a_fitting : (List (List Int))) : M D :=
cond (decide (a_asks = 0)) (M.bind (x_is_open a_fitting) fun (r_1 : Bool) =>
.ok ((eO eD) (cond r_1 (some (PySem.PyData.tuple [])) none))) (M.val ([] : (List (Bool × D))) fun (found_2 : (List (Bool × D))) =>
M.orRet (forX (τ := D) (x_held_b2 gx a_pairs a_asks a_fitting) a_pairs (found_2, none)) fun (e_14 : ((List (Bool × D)) × (Option Bool))) =>
.ok ((eL (e2 PySem.PyData.bool eD)) (e_14.1)))
def x_held : Nat → (List (Int × Int)) → Int → (List (List Int)) → M D
  | 0 => fun _ _ _ => .bad
  | k + 1 => x_held_ (x_held k)
theorem t_held_ (g : Fn) (gx : (List (Int × Int)) → Int → (List (List Int)) → M D) (gs : ∀ (a_pairs : (List (Int × Int))) (a_asks : Int) (a_fitting : (List (List Int))), SimF g [.v false ((eL (e2 PySem.PyData.int PySem.PyData.int)) a_pairs), .v false (PySem.PyData.int a_asks), .v false ((eL (eL PySem.PyData.int)) a_fitting)] (gx a_pairs a_asks a_fitting) (fun (r : D) => .fz true r) (fun _ => [none, none, none])) (a_pairs : (List (Int × Int))) (a_asks : Int) (a_fitting : (List (List Int))) : SimF (runFn 3 10 (d_held g)) [.v false ((eL (e2 PySem.PyData.int PySem.PyData.int)) a_pairs), .v false (PySem.PyData.int a_asks), .v false ((eL (eL PySem.PyData.int)) a_fitting)] (x_held_ gx a_pairs a_asks a_fitting) (fun (r : D) => .fz true r) (fun _ => [none, none, none]) := by
  delta x_held_ d_held
  exact simF_def rfl (ws_seq (ws_if (wt_val (we_sc (wa_cons (we_var rfl (wa_cons (we_c (wa_nil ⟨_, _, rfl, (eq_op enc_int (by decide) a_asks 0), ⟨_, rfl, ⟨_, _, rfl, (ws_retF (we_elF mono_idx (wa_cons (we_tkN mono_list (wa_cons (we_c (wa_cons (we_tkF mono_tup (wa_nil ⟨_, _, _, _, rfl, rfl, (wa_nil ⟨_, _, _, _, rfl, rfl, (wa_cons (we_sc (wa_cons (we_callX (wa_cons (we_var rfl (wa_nil ⟨_, _, rfl, (fun _ => trivial), _, rfl, rfl, t_is_open a_fitting, fun r_1 => ⟨_, rfl, (wa_nil ⟨_, _, rfl, rfl, (wa_nil ⟨_, _, _, _, rfl, pick2 (eO eD) none (some (PySem.PyData.tuple [])) r_1 _ _, ⟨_, _, _, rfl, ⟨((eO eD) (cond r_1 (some (PySem.PyData.tuple [])) none)), _, _, rfl, rfl, ltR, rfl, loR⟩⟩⟩)⟩)⟩⟩)))))))⟩)⟩))))))))), (ws_nop (ws_seq (ws_setV (α := (List (Bool × D))) (fun v => .nw true (v.map (e2 PySem.PyData.bool eD))) (we_tkN mono_list (wa_nil ⟨_, _, _, _, rfl, rfl, ⟨_, _, rfl, rfl, fun found_2 => ⟨[.fro false ((eL (e2 PySem.PyData.int PySem.PyData.int)) a_pairs), .fro false (PySem.PyData.int a_asks), .fro false ((eL (eL PySem.PyData.int)) a_fitting), .own false true (found_2.map (e2 PySem.PyData.bool eD)), .un, .un, .un, .un, .un, .un], rfl, (ws_seq (ws_forX (enc := (e2 PySem.PyData.int PySem.PyData.int)) (wi_seq (we_var rfl ⟨_, _, _, _, rfl, ⟨(fun (s_4 : ((List (Bool × D)) × (Option Bool))) => [.fro false ((eL (e2 PySem.PyData.int PySem.PyData.int)) a_pairs), .fro false (PySem.PyData.int a_asks), .fro false ((eL (eL PySem.PyData.int)) a_fitting), .own false true ((s_4.1).map (e2 PySem.PyData.bool eD)), .pl, .pl, .pl, .pl, .any, sdO true PySem.PyData.bool (s_4.2)]), _, _, _, _, rfl, rfl, (le_cons leR (le_cons leR (le_cons leR (le_cons leR (le_cons (leP rfl) (le_cons (leP rfl) (le_cons (leP rfl) (le_cons (leP rfl) (le_cons (leA rfl) (le_cons leR le_nil)))))))))), (fun x_3 s_4 => ⟨[.fro false ((eL (e2 PySem.PyData.int PySem.PyData.int)) a_pairs), .fro false (PySem.PyData.int a_asks), .fro false ((eL (eL PySem.PyData.int)) a_fitting), .own false true ((s_4.1).map (e2 PySem.PyData.bool eD)), .fro false (PySem.PyData.int (x_3.1)), .fro false (PySem.PyData.int (x_3.2)), .pl, .pl, .any, sdO true PySem.PyData.bool (s_4.2)], rfl, (ws_seq (ws_setV (α := D) (fun v => .fz true v) (we_c ⟨_, _, rfl, rfl, fun under_5 => ⟨[.fro false ((eL (e2 PySem.PyData.int PySem.PyData.int)) a_pairs), .fro false (PySem.PyData.int a_asks), .fro false ((eL (eL PySem.PyData.int)) a_fitting), .own false true ((s_4.1).map (e2 PySem.PyData.bool eD)), .fro false (PySem.PyData.int (x_3.1)), .fro false (PySem.PyData.int (x_3.2)), .fro true under_5, .pl, .any, sdO true PySem.PyData.bool (s_4.2)], rfl, (ws_seq (ws_forS (enc := PySem.PyData.bool) (wi_seq (we_tkN mono_list (wa_cons (we_c (wa_cons (we_c (wa_nil ⟨_, _, _, _, rfl, rfl, ⟨_, _, _, _, rfl, ⟨(fun (s_7 : (D × (Option Bool))) => [.fro false ((eL (e2 PySem.PyData.int PySem.PyData.int)) a_pairs), .fro false (PySem.PyData.int a_asks), .fro false ((eL (eL PySem.PyData.int)) a_fitting), .own false true ((s_4.1).map (e2 PySem.PyData.bool eD)), .fro false (PySem.PyData.int (x_3.1)), .fro false (PySem.PyData.int (x_3.2)), .fro true (s_7.1), .pl, .any, sdO true PySem.PyData.bool (s_7.2)]), _, _, _, _, rfl, rfl, (LeE.refl _), (fun x_6 s_7 => ⟨[.fro false ((eL (e2 PySem.PyData.int PySem.PyData.int)) a_pairs), .fro false (PySem.PyData.int a_asks), .fro false ((eL (eL PySem.PyData.int)) a_fitting), .own false true ((s_4.1).map (e2 PySem.PyData.bool eD)), .fro false (PySem.PyData.int (x_3.1)), .fro false (PySem.PyData.int (x_3.2)), .fro true (s_7.1), .fro true (PySem.PyData.bool x_6), .any, sdO true PySem.PyData.bool (s_7.2)], rfl, (ws_seq (ws_set (we_callK (wa_cons (we_var rfl (wa_cons (we_var rfl (wa_cons (we_var rfl (wa_cons (we_var rfl (wa_nil ⟨_, _, rfl, _, _, rfl, (fun _ => ⟨_, rfl, ⟨_, rfl, trivial⟩⟩), SimF.le (t_fitting_to a_fitting (x_3.1) (x_3.2) x_6) (laR (laR (laR (laV laN)))), fun r_8 => ⟨rfl, ⟨[.fro false ((eL (e2 PySem.PyData.int PySem.PyData.int)) a_pairs), .fro false (PySem.PyData.int a_asks), .fro false ((eL (eL PySem.PyData.int)) a_fitting), .own false true ((s_4.1).map (e2 PySem.PyData.bool eD)), .fro false (PySem.PyData.int (x_3.1)), .fro false (PySem.PyData.int (x_3.2)), .fro true (s_7.1), .fro true (PySem.PyData.bool x_6), .own false false (r_8.map (eL PySem.PyData.int)), sdO true PySem.PyData.bool (s_7.2)], rfl, (ws_join (fun (j_10 : (D × (Option Bool))) => [.fro false ((eL (e2 PySem.PyData.int PySem.PyData.int)) a_pairs), .fro false (PySem.PyData.int a_asks), .fro false ((eL (eL PySem.PyData.int)) a_fitting), .own false true ((s_4.1).map (e2 PySem.PyData.bool eD)), .fro false (PySem.PyData.int (x_3.1)), .fro false (PySem.PyData.int (x_3.2)), .fro true (j_10.1), .fro true (PySem.PyData.bool x_6), .any, sdO true PySem.PyData.bool (j_10.2)]) rfl (ws_if (wt_andP (wt_val (we_sc (wa_cons (we_var rfl (wa_cons (we_c (wa_nil ⟨_, _, rfl, rfl, ⟨_, rfl, ⟨_, (wt_val (we_sc (wa_cons (we_var rfl (wa_cons (we_tkN mono_list (wa_nil ⟨_, _, _, _, rfl, rfl, (wa_nil ⟨_, _, rfl, (nenil_op (enc_list enc_int) (by decide) r_8), ⟨_, rfl, ⟨rfl, rfl, rfl⟩⟩⟩)⟩))))))), ⟨_, _, rfl, (ws_seq (ws_set (we_callK (wa_cons (we_var rfl (wa_cons (we_sc (wa_cons (we_var rfl (wa_cons (we_c (wa_nil ⟨_, _, rfl, rfl, (wa_cons (we_var rfl (wa_nil ⟨_, _, rfl, _, _, rfl, (fun _ => ⟨_, rfl, ⟨_, rfl, trivial⟩⟩), SimF.le (gs a_pairs (a_asks - 1) r_8) (laR (laV (laR laN))), fun r_9 => ⟨rfl, ⟨[.fro false ((eL (e2 PySem.PyData.int PySem.PyData.int)) a_pairs), .fro false (PySem.PyData.int a_asks), .fro false ((eL (eL PySem.PyData.int)) a_fitting), .own false true ((s_4.1).map (e2 PySem.PyData.bool eD)), .fro false (PySem.PyData.int (x_3.1)), .fro false (PySem.PyData.int (x_3.2)), .fro true r_9, .fro true (PySem.PyData.bool x_6), .fro false ((eL (eL PySem.PyData.int)) r_8), sdO true PySem.PyData.bool (s_7.2)], rfl, (ws_set (we_var rfl ⟨[.fro false ((eL (e2 PySem.PyData.int PySem.PyData.int)) a_pairs), .fro false (PySem.PyData.int a_asks), .fro false ((eL (eL PySem.PyData.int)) a_fitting), .own false true ((s_4.1).map (e2 PySem.PyData.bool eD)), .fro false (PySem.PyData.int (x_3.1)), .fro false (PySem.PyData.int (x_3.2)), .fro true r_9, .fro true (PySem.PyData.bool x_6), .fro false ((eL (eL PySem.PyData.int)) r_8), .fro true (PySem.PyData.bool x_6)], (set_opt rfl), ⟨_, rfl, (le_cons leR (le_cons leR (le_cons leR (le_cons leR (le_cons leR (le_cons leR (le_cons leR (le_cons leR (le_cons (leA rfl) (le_cons leR le_nil))))))))))⟩⟩))⟩⟩⟩)))⟩)))))))))))), (ws_nop ⟨_, rfl, (le_cons leR (le_cons leR (le_cons leR (le_cons leR (le_cons leR (le_cons leR (le_cons leR (le_cons leR (le_cons (leA rfl) (le_cons leR le_nil))))))))))⟩)⟩⟩⟩⟩))))))))) (fun j_10 => ⟨_, rfl, (le_cons leR (le_cons leR (le_cons leR (le_cons leR (le_cons leR (le_cons leR (le_cons leR (le_cons (leP rfl) (le_cons leR (le_cons leR le_nil))))))))))⟩))⟩⟩⟩))))))))))))⟩), fun e_11 => ⟨[.fro false ((eL (e2 PySem.PyData.int PySem.PyData.int)) a_pairs), .fro false (PySem.PyData.int a_asks), .fro false ((eL (eL PySem.PyData.int)) a_fitting), .own false true ((s_4.1).map (e2 PySem.PyData.bool eD)), .fro false (PySem.PyData.int (x_3.1)), .fro false (PySem.PyData.int (x_3.2)), .fro true (e_11.1), .pl, .any, sdO true PySem.PyData.bool (e_11.2)], rfl, (ws_seq (ws_if (wt_val (we_sc (wa_cons (we_var rfl (wa_cons (we_c (wa_nil ⟨_, _, rfl, rfl, ⟨_, rfl, ⟨_, _, rfl, (ws_retF (we_c ⟨_, _, _, rfl, ⟨_, _, rfl, rfl, ⟨(eU ()), _, _, rfl, rfl, ltR, rfl, loR⟩⟩⟩)), (ws_nop (ws_drop (we_mut (fun v => (true && true, v.map (e2 PySem.PyData.bool eD), true, .none)) mmono_append rfl (wa_cons (we_tkF mono_tup (wa_cons (we_varO rfl rfl fun truth_12 => (wa_cons (we_var rfl (wa_nil ⟨_, _, _, _, rfl, rfl, (wa_nil ⟨_, _, rfl, _, _, _, _, _, rfl, rfl, pm_app (e2 PySem.PyData.bool eD) (s_4.1) (truth_12, e_11.1) _ _, fun found_13 => ⟨_, rfl, (le_cons leR (le_cons leR (le_cons leR (le_cons leR (le_cons (leP rfl) (le_cons (leP rfl) (le_cons (leP rfl) (le_cons leR (le_cons leR (le_cons leR le_nil))))))))))⟩⟩)⟩))))))))))⟩⟩⟩)))))))))⟩⟩⟩⟩)))))))))⟩⟩)))⟩), fun e_14 => ⟨[.fro false ((eL (e2 PySem.PyData.int PySem.PyData.int)) a_pairs), .fro false (PySem.PyData.int a_asks), .fro false ((eL (eL PySem.PyData.int)) a_fitting), .own false true ((e_14.1).map (e2 PySem.PyData.bool eD)), .pl, .pl, .pl, .pl, .any, sdO true PySem.PyData.bool (e_14.2)], rfl, (ws_retF (we_var rfl ⟨_, _, _, rfl, ⟨((eL (e2 PySem.PyData.bool eD)) (e_14.1)), _, _, rfl, rfl, ltR, rfl, loR⟩⟩))⟩⟩⟩))))⟩⟩⟩)))))⟩⟩⟩)))))))))
theorem t_held : ∀ (k : Nat) (a_pairs : (List (Int × Int))) (a_asks : Int) (a_fitting : (List (List Int))), SimF (fn_held k) [.v false ((eL (e2 PySem.PyData.int PySem.PyData.int)) a_pairs), .v false (PySem.PyData.int a_asks), .v false ((eL (eL PySem.PyData.int)) a_fitting)] (x_held k a_pairs a_asks a_fitting) (fun (r : D) => .fz true r) (fun _ => [none, none, none])
  | 0, _, _, _ => simF_bad
  | k + 1, a_pairs, a_asks, a_fitting => t_held_ _ _ (t_held k) a_pairs a_asks a_fitting
def d_holding_paper : DS :=
  sSeq (sDrop (dAp (opCallX [false] fn_need_held) [eVar 0])) (sRet (dAp (opCall [false, false, false] (fn_held fuel_held)) [dAp (opCallX [false] fn_pairs_of) [eVar 0], dAp (opSc dSub) [dAp (opEl dIdx) [dAp (opCall [false] fn_fewest) [eVar 0], eC (.int 0)], eC (.int 1)], dAp (opCallX [false, false] fn_all_sorts) [eVar 0, eVar 0]]))
def fn_holding_paper : Fn := runFn 1 1 d_holding_paper
def x_holding_paper (a_many : Int) : M D :=
M.bind (x_need_held a_many) fun (r_1 : Unit) =>
M.bind (x_pairs_of a_many) fun (r_2 : (List (Int × Int))) =>
M.bind (x_fewest a_many) fun (r_3 : (Int × Tree)) =>
M.bind (x_all_sorts a_many a_many) fun (r_4 : (List (List Int))) =>
M.bind (x_held fuel_held r_2 ((r_3.1) - 1) r_4) fun (r_5 : D) =>
.ok r_5
theorem t_holding_paper (a_many : Int) : SimF fn_holding_paper [.v false (PySem.PyData.int a_many)] (x_holding_paper a_many) (fun (r : D) => .fz true r) (fun _ => [none]) := by
  delta x_holding_paper fn_holding_paper d_holding_paper
  exact simF_def rfl (ws_seq (ws_drop (we_callX (wa_cons (we_var rfl (wa_nil ⟨_, _, rfl, (fun _ => trivial), _, rfl, rfl, t_need_held a_many, fun r_1 => ⟨_, rfl, (ws_ret (we_callK (wa_cons (we_callX (wa_cons (we_var rfl (wa_nil ⟨_, _, rfl, (fun _ => trivial), _, rfl, rfl, t_pairs_of a_many, fun r_2 => ⟨_, unX_nw _, (wa_cons (we_sc (wa_cons (we_elF mono_idx (wa_cons (we_callK (wa_cons (we_var rfl (wa_nil ⟨_, _, rfl, _, _, rfl, (fun _ => trivial), SimF.le (t_fewest a_many) (laR laN), fun r_3 => ⟨rfl, (wa_cons (we_c (wa_nil ⟨_, _, _, _, rfl, rfl, (wa_cons (we_c (wa_nil ⟨_, _, rfl, rfl, (wa_cons (we_callX (wa_cons (we_var rfl (wa_cons (we_var rfl (wa_nil ⟨_, _, rfl, (fun _ => trivial), _, rfl, rfl, t_all_sorts a_many a_many, fun r_4 => ⟨_, rfl, (wa_nil ⟨_, _, rfl, _, _, rfl, (fun _ => trivial), SimF.le (t_held fuel_held r_2 ((r_3.1) - 1) r_4) (laV (laV (laV laN))), fun r_5 => ⟨rfl, ⟨r_5, _, _, rfl, rfl, ltR, rfl, loR⟩⟩⟩)⟩⟩)))))))⟩)))⟩)))⟩⟩)))))))))⟩⟩)))))))⟩⟩))))))

end
end LbH
set_option maxHeartbeats 2000000
namespace LbT
open DL TS LbP LbB LbH
noncomputable section

def d_law_sorts : DS :=
  sSeq (sSet 2 (eFz (dAp (opTk dList) [dAp (opTk dList) []]))) (sSeq (sFor (.nm 3) (iRange [eVar 0]) (sSeq (sSet 4 (dAp (opTk dList) [])) (sSeq (sFor (.nm 5) (iSeq (eVar 2)) (sSet 4 (dAp (opEl dAdd) [eVar 4, eComp [6] (.nm 6) (iRange [dAp (opSc dMin2) [eVar 1, dAp (opEl dAdd) [dAp (opSc dMaxL) [dAp (opEl dAdd) [dAp (opTk dList) [dAp (opSc dNeg) [eC (.int 1)]], eVar 5]], eC (.int 2)]]]) (dYes) (dAp (opEl dAdd) [eVar 5, dAp (opTk dList) [eVar 6]])]))) (sSet 2 (eFz (eVar 4)))))) (sRet (eVar 2)))
def fn_law_sorts : Fn := runFn 2 7 d_law_sorts
def x_law_sorts_c1 (x_6 : (List Int)) (x_11 : Int) : M (List Int) :=
M.bind (cat x_6 ([x_11] : (List Int))) fun (l_13 : (List Int)) =>
.ok l_13
def x_law_sorts_b1 (a_most : Int) (x_6 : (List Int)) (s_7 : (List (List Int))) : M (List (List Int)) :=
M.bind (cat ([(-1)] : (List Int)) x_6) fun (l_8 : (List Int)) =>
M.bind (ofOI (maxL l_8)) fun (x_9 : Int) =>
M.bind (rng1 (minI a_most (x_9 + 2))) fun (ks_10 : (List Int)) =>
M.bind (mapU (β := (List Int)) (x_law_sorts_c1 x_6) ks_10) fun (ys_14 : (List (List Int))) =>
M.bind (cat s_7 ys_14) fun (l_15 : (List (List Int))) =>
.ok l_15
def x_law_sorts_b2 (a_most : Int) (x_3 : Int) (s_4 : (List (List Int))) : M (List (List Int)) :=
M.val ([] : (List (List Int))) fun (longer_5 : (List (List Int))) =>
M.bind (forS (x_law_sorts_b1 a_most) s_4 longer_5) fun (e_16 : (List (List Int))) =>
.ok e_16
def x_law_sorts (a_many : Int) (a_most : Int) : M (List (List Int)) :=
M.val ([([] : (List Int))] : (List (List Int))) fun (found_1 : (List (List Int))) =>
M.bind (rng1 a_many) fun (ks_2 : (List Int)) =>
M.bind (forS (x_law_sorts_b2 a_most) ks_2 found_1) fun (e_17 : (List (List Int))) =>
.ok e_17
theorem t_law_sorts (a_many : Int) (a_most : Int) : SimF fn_law_sorts [.v false (PySem.PyData.int a_many), .v false (PySem.PyData.int a_most)] (x_law_sorts a_many a_most) (fun (r : (List (List Int))) => .fz true ((eL (eL PySem.PyData.int)) r)) (fun _ => [none, none]) := by
  delta x_law_sorts fn_law_sorts d_law_sorts
  exact simF_def rfl (ws_seq (ws_setV (α := (List (List Int))) (fun v => .fz true ((eL (eL PySem.PyData.int)) v)) (we_fz (we_tkN mono_list (wa_cons (we_tkN mono_list (wa_nil ⟨_, _, _, _, rfl, rfl, (wa_nil ⟨_, _, _, _, rfl, rfl, ⟨_, _, _, rfl, ⟨_, _, rfl, rfl, fun found_1 => ⟨[.fro false (PySem.PyData.int a_many), .fro false (PySem.PyData.int a_most), .fro true ((eL (eL PySem.PyData.int)) found_1), .un, .un, .un, .un], rfl, (ws_seq (ws_forS (enc := PySem.PyData.int) (wi_range1 (wa_cons (we_var rfl (wa_nil ⟨_, _, rfl, rfl, fun ks_2 => ⟨(fun (s_4 : (List (List Int))) => [.fro false (PySem.PyData.int a_many), .fro false (PySem.PyData.int a_most), .fro true ((eL (eL PySem.PyData.int)) s_4), .pl, .pl, .pl, .un]), _, _, _, _, rfl, rfl, (le_cons leR (le_cons leR (le_cons leR (le_cons (leP rfl) (le_cons (leP rfl) (le_cons (leP rfl) (le_cons leR le_nil))))))), (fun x_3 s_4 => ⟨[.fro false (PySem.PyData.int a_many), .fro false (PySem.PyData.int a_most), .fro true ((eL (eL PySem.PyData.int)) s_4), .fro true (PySem.PyData.int x_3), .pl, .pl, .un], rfl, (ws_seq (ws_setV (α := (List (List Int))) (fun v => .nw true (v.map (eL PySem.PyData.int))) (we_tkN mono_list (wa_nil ⟨_, _, _, _, rfl, rfl, ⟨_, _, rfl, rfl, fun longer_5 => ⟨[.fro false (PySem.PyData.int a_many), .fro false (PySem.PyData.int a_most), .fro true ((eL (eL PySem.PyData.int)) s_4), .fro true (PySem.PyData.int x_3), .own false true (longer_5.map (eL PySem.PyData.int)), .pl, .un], rfl, (ws_seq (ws_forS (enc := (eL PySem.PyData.int)) (wi_seq (we_var rfl ⟨_, _, _, _, rfl, ⟨(fun (s_7 : (List (List Int))) => [.fro false (PySem.PyData.int a_many), .fro false (PySem.PyData.int a_most), .fro true ((eL (eL PySem.PyData.int)) s_4), .fro true (PySem.PyData.int x_3), .own false true (s_7.map (eL PySem.PyData.int)), .pl, .un]), _, _, _, _, rfl, rfl, (LeE.refl _), (fun x_6 s_7 => ⟨[.fro false (PySem.PyData.int a_many), .fro false (PySem.PyData.int a_most), .fro true ((eL (eL PySem.PyData.int)) s_4), .fro true (PySem.PyData.int x_3), .own false true (s_7.map (eL PySem.PyData.int)), .fro true ((eL PySem.PyData.int) x_6), .un], rfl, (ws_set (we_elM (fun v => .nw (true && true) (v.map (eL PySem.PyData.int))) mono_add (wa_cons (we_var rfl (wa_cons (we_mapU (enc := PySem.PyData.int) (enc2 := (eL PySem.PyData.int)) (bt := true) (wi_range1 (wa_cons (we_sc (wa_cons (we_var rfl (wa_cons (we_elF mono_add (wa_cons (we_scM (fun v => PySem.PyData.int v) (wa_cons (we_elM (fun v => .nw (true && true) (v.map PySem.PyData.int)) mono_add (wa_cons (we_tkN mono_list (wa_cons (we_sc (wa_cons (we_c (wa_nil ⟨_, _, rfl, rfl, (wa_nil ⟨_, _, _, _, rfl, rfl, (wa_cons (we_var rfl (wa_nil ⟨_, _, rfl, _, _, rfl, po_cat PySem.PyData.int ([(-1)] : (List Int)) x_6 _ _, fun l_8 => (wa_nil ⟨_, _, rfl, _, rfl, ps_maxL l_8, fun x_9 => (wa_cons (we_c (wa_nil ⟨_, _, _, _, rfl, rfl, (wa_nil ⟨_, _, rfl, rfl, (wa_nil ⟨_, _, rfl, rfl, fun ks_10 => ⟨[.fro false (PySem.PyData.int a_many), .fro false (PySem.PyData.int a_most), .fro true ((eL (eL PySem.PyData.int)) s_4), .fro true (PySem.PyData.int x_3), .own false true (s_7.map (eL PySem.PyData.int)), .fro true ((eL PySem.PyData.int) x_6), .un], _, _, _, rfl, rfl, rfl, (LeE.refl _), (fun x_11 => ⟨[.fro false (PySem.PyData.int a_many), .fro false (PySem.PyData.int a_most), .fro true ((eL (eL PySem.PyData.int)) s_4), .fro true (PySem.PyData.int x_3), .own false true (s_7.map (eL PySem.PyData.int)), .fro true ((eL PySem.PyData.int) x_6), .fro true (PySem.PyData.int x_11)], rfl, (we_elM (fun v => .nw (true && true) (v.map PySem.PyData.int)) mono_add (wa_cons (we_var rfl (wa_cons (we_tkN mono_list (wa_cons (we_var rfl (wa_nil ⟨_, _, _, _, rfl, rfl, (wa_nil ⟨_, _, rfl, _, _, rfl, po_cat PySem.PyData.int x_6 ([x_11] : (List Int)) _ _, fun l_13 => ⟨_, _, rfl, rfl, (LeE.refl _)⟩⟩)⟩))))))))⟩), fun ys_14 => ⟨[.fro false (PySem.PyData.int a_many), .fro false (PySem.PyData.int a_most), .fro true ((eL (eL PySem.PyData.int)) s_4), .fro true (PySem.PyData.int x_3), .own false true (s_7.map (eL PySem.PyData.int)), .fro true ((eL PySem.PyData.int) x_6), .un], rfl, (wa_nil ⟨_, _, rfl, _, _, rfl, po_cat (eL PySem.PyData.int) s_7 ys_14 _ _, fun l_15 => ⟨[.fro false (PySem.PyData.int a_many), .fro false (PySem.PyData.int a_most), .fro true ((eL (eL PySem.PyData.int)) s_4), .fro true (PySem.PyData.int x_3), .own false true (l_15.map (eL PySem.PyData.int)), .fro true ((eL PySem.PyData.int) x_6), .un], rfl, ⟨_, rfl, (le_cons leR (le_cons leR (le_cons leR (le_cons leR (le_cons leR (le_cons (leP rfl) (le_cons leR le_nil)))))))⟩⟩⟩)⟩⟩⟩)⟩)⟩)))⟩)⟩)))⟩)⟩))))))))))))))))))))))))⟩), fun e_16 => ⟨[.fro false (PySem.PyData.int a_many), .fro false (PySem.PyData.int a_most), .fro true ((eL (eL PySem.PyData.int)) s_4), .fro true (PySem.PyData.int x_3), .own false true (e_16.map (eL PySem.PyData.int)), .pl, .un], rfl, (ws_set (we_fz (we_var rfl ⟨_, _, _, rfl, ⟨[.fro false (PySem.PyData.int a_many), .fro false (PySem.PyData.int a_most), .fro true ((eL (eL PySem.PyData.int)) e_16), .fro true (PySem.PyData.int x_3), .fro true ((eL (eL PySem.PyData.int)) e_16), .pl, .un], rfl, ⟨_, rfl, (le_cons leR (le_cons leR (le_cons leR (le_cons (leP rfl) (le_cons (leP rfl) (le_cons leR (le_cons leR le_nil)))))))⟩⟩⟩)))⟩⟩⟩))))⟩⟩⟩))))⟩), fun e_17 => ⟨[.fro false (PySem.PyData.int a_many), .fro false (PySem.PyData.int a_most), .fro true ((eL (eL PySem.PyData.int)) e_17), .pl, .pl, .pl, .un], rfl, (ws_ret (we_var rfl ⟨e_17, _, _, rfl, rfl, ltR, rfl, loR⟩))⟩⟩⟩))))))⟩⟩⟩⟩)⟩)))))))
def d_law_half : DS :=
  sSeq (sFor (.nm 1) (iSeq (eVar 0)) (sIf (dVal (dAp (opSc dGt) [dAp (opEl dMul) [eC (.int 2), eMeth mCount (eVar 0) [eVar 1]], dAp (opSc dLen) [eVar 0]])) (sRet (eComp [2] (.nm 2) (iRange [dAp (opSc dLen) [eVar 0]]) (dVal (dAp (opSc dEq) [dAp (opEl dIdx) [eVar 0, eVar 2], eVar 1])) (eVar 2))) (sNop))) (sRet (dAp (opTk dList) []))
def fn_law_half : Fn := runFn 1 3 d_law_half
def x_law_half_c1 (a_sorts : (List Int)) (x_1 : Int) (x_4 : Int) : M (Option Int) :=
M.bind (idx a_sorts x_4) fun (x_6 : Int) =>
cond (decide (x_6 = x_1)) (.ok (some x_4)) (.ok none)
def x_law_half_b1 (a_sorts : (List Int)) (x_1 : Int) (s_2 : Unit) : M (Lp Unit (List Int)) :=
cond (decide ((a_sorts.length : Int) < (2 * (cnt a_sorts x_1)))) (M.bind (rng1 (a_sorts.length : Int)) fun (ks_3 : (List Int)) =>
M.bind (filU (β := Int) (x_law_half_c1 a_sorts x_1) ks_3) fun (ys_7 : (List Int)) =>
.ok (.ex ys_7)) (.ok (.nx ()))
def x_law_half (a_sorts : (List Int)) : M (List Int) :=
M.orRet (forX (τ := (List Int)) (x_law_half_b1 a_sorts) a_sorts ()) fun (e_8 : Unit) =>
.ok ([] : (List Int))
theorem t_law_half (a_sorts : (List Int)) : SimF fn_law_half [.v false ((eL PySem.PyData.int) a_sorts)] (x_law_half a_sorts) (fun (r : (List Int)) => .nw true (r.map PySem.PyData.int)) (fun _ => [none]) := by
  delta x_law_half fn_law_half d_law_half
  exact simF_def rfl (ws_seq (ws_forX (enc := PySem.PyData.int) (wi_seq (we_var rfl ⟨_, _, _, _, rfl, ⟨(fun (s_2 : Unit) => [.fro false ((eL PySem.PyData.int) a_sorts), .pl, .un]), _, _, _, _, rfl, rfl, (le_cons leR (le_cons (leP rfl) (le_cons leR le_nil))), (fun x_1 s_2 => ⟨[.fro false ((eL PySem.PyData.int) a_sorts), .fro false (PySem.PyData.int x_1), .un], rfl, (ws_if (wt_val (we_sc (wa_cons (we_elF mono_mul (wa_cons (we_c (wa_cons (we_meth (we_var rfl ⟨_, rfl, (wa_cons (we_var rfl (wa_nil ⟨_, _, _, rfl, rfl, count_op enc_int (by decide) a_sorts x_1, (wa_nil ⟨_, _, _, _, rfl, mul_lit _ _ _ _ (small_l (by decide)), (wa_cons (we_sc (wa_cons (we_var rfl (wa_nil ⟨_, _, rfl, len_op PySem.PyData.int a_sorts, (wa_nil ⟨_, _, rfl, rfl, ⟨_, rfl, ⟨_, _, rfl, (ws_ret (we_filU (enc := PySem.PyData.int) (enc2 := PySem.PyData.int) (bt := true) (wi_range1 (wa_cons (we_sc (wa_cons (we_var rfl (wa_nil ⟨_, _, rfl, len_op PySem.PyData.int a_sorts, (wa_nil ⟨_, _, rfl, rfl, fun ks_3 => ⟨[.fro false ((eL PySem.PyData.int) a_sorts), .fro false (PySem.PyData.int x_1), .un], _, _, _, rfl, rfl, rfl, (LeE.refl _), (fun x_4 => ⟨[.fro false ((eL PySem.PyData.int) a_sorts), .fro false (PySem.PyData.int x_1), .fro true (PySem.PyData.int x_4)], rfl, (wt_val (we_sc (wa_cons (we_elM (fun v => .fz false (PySem.PyData.int v)) mono_idx (wa_cons (we_var rfl (wa_cons (we_var rfl (wa_nil ⟨_, _, rfl, _, _, rfl, po_idx PySem.PyData.int a_sorts x_4 _ _, fun x_6 => (wa_cons (we_var rfl (wa_nil ⟨_, _, rfl, (eq_op enc_int (by decide) x_6 x_1), ⟨_, rfl, ⟨_, _, rfl, (fun _ => ⟨rfl, (LeE.refl _)⟩), fun _ => (we_var rfl ⟨_, _, rfl, rfl, (LeE.refl _)⟩)⟩⟩⟩)))⟩)))))))))⟩), fun ys_7 => ⟨[.fro false ((eL PySem.PyData.int) a_sorts), .fro false (PySem.PyData.int x_1), .un], rfl, ⟨_, _, rfl, rfl, ⟨ys_7, _, _, rfl, rfl, ltR, rfl, loR⟩⟩⟩⟩⟩)⟩)))))))), (ws_nop ⟨_, rfl, (le_cons leR (le_cons (leP rfl) (le_cons leR le_nil)))⟩)⟩⟩⟩)⟩)))))⟩)⟩)))⟩))))))))))⟩), fun e_8 => ⟨[.fro false ((eL PySem.PyData.int) a_sorts), .pl, .un], rfl, (ws_ret (we_tkN mono_list (wa_nil ⟨_, _, _, _, rfl, rfl, ⟨([] : (List Int)), _, _, rfl, rfl, ltR, rfl, loR⟩⟩)))⟩⟩⟩))))
end
end LbT
set_option maxHeartbeats 2000000
namespace Mk24
open DL TS LbB LbH LbP LbT
noncomputable section

def fuel_held : Nat := 8
def d_held (g : OpH) : DS :=
  sSeq (sIf (dVal (dAp (opSc dEq) [eVar 1, eC (.int 0)])) (sRetF (dAp (opEl dIdx) [dAp (opTk dList) [eC .none, dAp (opTk dTup) []], dAp (opSc dInt1) [dAp (opCallX [false] fn_is_open) [eVar 2]]])) (sNop)) (sSeq (sPpNil 3) (sSeq (sFor (.tp (.cons (.nm 4) (.cons (.nm 5) (.nil)))) (iSeq (eVar 0)) (sSeq (sSet 6 (eC .none)) (sSeq (sFor (.nm 7) (iSeq (dAp (opTk dList) [eC (.bool true), eC (.bool false)])) (sSeq (sSet 8 (dAp (opCall [false, false, false, false] fn_fitting_to) [eVar 2, eVar 4, eVar 5, eVar 7])) (sIf (dAnd (dNoOb 6) (dVal (dAp (opSc dNe) [eVar 8, dAp (opTk dList) []]))) (sSeq (sHd 6 g [eVar 0, dAp (opSc dSub) [eVar 1, eC (.int 1)], eVar 8]) (sSet 9 (eVar 7))) (sNop)))) (sSeq (sIf (dNoOb 6) (sRetF (eC .none)) (sNop)) (sPpApp 3 9 6))))) (sRet (eVar 3))))
def fn_held : Nat → OpH
  | 0 => fun _ => .bad
  | k + 1 => runHd 3 10 (d_held (fn_held k))
def x_held_b1 (gx : (List (Int × Int)) → Int → (List (List Int)) → M (Option D)) (a_pairs : (List (Int × Int))) (a_asks : Int) (a_fitting : (List (List Int))) (x_2 : (Int × Int)) (x_4 : Bool) (s_5 : ((Option D) × (Option Bool))) : M ((Option D) × (Option Bool)) :=
M.bind (x_fitting_to a_fitting (x_2.1) (x_2.2) x_4) fun (r_6 : (List (List Int))) =>
M.bind (cond ((((s_5.1)).isNone) && (!r_6.isEmpty)) (M.bind (M.nx (gx a_pairs (a_asks - 1) r_6)) fun (under_7 : (Option D)) =>
.ok (under_7, (some x_4))) (.ok (s_5.1, s_5.2))) fun (j_8 : ((Option D) × (Option Bool))) =>
.ok (j_8.1, j_8.2)
def x_held_b2 (gx : (List (Int × Int)) → Int → (List (List Int)) → M (Option D)) (a_pairs : (List (Int × Int))) (a_asks : Int) (a_fitting : (List (List Int))) (x_2 : (Int × Int)) (s_3 : ((List (Bool × D)) × (Option Bool))) : M (Lp ((List (Bool × D)) × (Option Bool)) (Option D)) :=
M.bind (forS (x_held_b1 gx a_pairs a_asks a_fitting x_2) ([true, false] : List Bool) (none, s_3.2)) fun (e_9 : ((Option D) × (Option Bool))) =>
cond (((e_9.1)).isNone) (.ok (.ex none)) (M.bind (ofO (e_9.2)) fun (truth_10 : Bool) =>
M.bind (ofO (e_9.1)) fun (under_11 : D) =>
M.bind (app (s_3.1) (truth_10, under_11)) fun (found_12 : List (Bool × D)) =>
.ok (.nx (found_12, (some truth_10))))
def x_held_ (gx : (List (Int × Int)) → Int → (List (List Int)) → M (Option D)) (a_pairs : (List (Int × Int))) (a_asks : Int) (a_fitting : (List (List Int))) : M (Option D) :=
cond (decide (a_asks = 0)) (M.bind (x_is_open a_fitting) fun (r_1 : Bool) =>
.ok (cond r_1 (some (PySem.PyData.tuple [])) none)) (M.orRet (forX (τ := (Option D)) (x_held_b2 gx a_pairs a_asks a_fitting) a_pairs (([] : List (Bool × D)), none)) fun (e_13 : ((List (Bool × D)) × (Option Bool))) =>
.ok (some ((eL (e2 PySem.PyData.bool eD)) (e_13.1))))
def x_held : Nat → (List (Int × Int)) → Int → (List (List Int)) → M (Option D)
  | 0 => fun _ _ _ => .bad
  | k + 1 => x_held_ (x_held k)
theorem t_held_ (g : OpH) (gx : (List (Int × Int)) → Int → (List (List Int)) → M (Option D)) (gs : ∀ (a_pairs : (List (Int × Int))) (a_asks : Int) (a_fitting : (List (List Int))), SimH g [((eL (e2 PySem.PyData.int PySem.PyData.int)) a_pairs), (PySem.PyData.int a_asks), ((eL (eL PySem.PyData.int)) a_fitting)] (gx a_pairs a_asks a_fitting)) (a_pairs : (List (Int × Int))) (a_asks : Int) (a_fitting : (List (List Int))) : SimH (runHd 3 10 (d_held g)) [((eL (e2 PySem.PyData.int PySem.PyData.int)) a_pairs), (PySem.PyData.int a_asks), ((eL (eL PySem.PyData.int)) a_fitting)] (x_held_ gx a_pairs a_asks a_fitting) := by
  delta x_held_ d_held
  exact simH_def rfl (ws_seq (ws_if (wt_val (we_sc (wa_cons (we_var rfl (wa_cons (we_c (wa_nil ⟨_, _, rfl, (eq_op enc_int (by decide) a_asks 0), ⟨_, rfl, ⟨_, _, rfl, (ws_retF (we_elF mono_idx (wa_cons (we_tkN mono_list (wa_cons (we_c (wa_cons (we_tkF mono_tup (wa_nil ⟨_, _, _, _, rfl, rfl, (wa_nil ⟨_, _, _, _, rfl, rfl, (wa_cons (we_sc (wa_cons (we_callX (wa_cons (we_var rfl (wa_nil ⟨_, _, rfl, (fun _ => trivial), _, rfl, rfl, t_is_open a_fitting, fun r_1 => ⟨_, rfl, (wa_nil ⟨_, _, rfl, rfl, (wa_nil ⟨_, _, _, _, rfl, pick2 (eO eD) none (some (PySem.PyData.tuple [])) r_1 _ _, ⟨_, _, _, rfl, ⟨_, rfl, .inl ⟨rfl, okZ_cond _⟩⟩⟩⟩)⟩)⟩⟩)))))))⟩)⟩))))))))), (ws_nop (ws_seq (ws_ppNil ⟨(.inr (.inr rfl)), (ws_seq (ws_forX (enc := (e2 PySem.PyData.int PySem.PyData.int)) (wi_seq (we_var rfl ⟨_, _, _, _, rfl, ⟨(fun (s_3 : ((List (Bool × D)) × (Option Bool))) => [.fro false ((eL (e2 PySem.PyData.int PySem.PyData.int)) a_pairs), .fro false (PySem.PyData.int a_asks), .fro false ((eL (eL PySem.PyData.int)) a_fitting), .ob false (ppL (s_3.1)), .pl, .pl, .un, .pl, .any, sdO true PySem.PyData.bool (s_3.2)]), _, _, _, _, rfl, rfl, (le_cons leR (le_cons leR (le_cons leR (le_cons leR (le_cons (leP rfl) (le_cons (leP rfl) (le_cons leR (le_cons (leP rfl) (le_cons (leA rfl) (le_cons leR le_nil)))))))))), (fun x_2 s_3 => ⟨[.fro false ((eL (e2 PySem.PyData.int PySem.PyData.int)) a_pairs), .fro false (PySem.PyData.int a_asks), .fro false ((eL (eL PySem.PyData.int)) a_fitting), .ob false (ppL (s_3.1)), .fro false (PySem.PyData.int (x_2.1)), .fro false (PySem.PyData.int (x_2.2)), .un, .pl, .any, sdO true PySem.PyData.bool (s_3.2)], rfl, (ws_seq (ws_set (we_c ⟨_, rfl, (ws_seq (ws_forS (enc := PySem.PyData.bool) (wi_seq (we_tkN mono_list (wa_cons (we_c (wa_cons (we_c (wa_nil ⟨_, _, _, _, rfl, rfl, ⟨_, _, _, _, rfl, ⟨(fun (s_5 : ((Option D) × (Option Bool))) => [.fro false ((eL (e2 PySem.PyData.int PySem.PyData.int)) a_pairs), .fro false (PySem.PyData.int a_asks), .fro false ((eL (eL PySem.PyData.int)) a_fitting), .ob false (ppL (s_3.1)), .fro false (PySem.PyData.int (x_2.1)), .fro false (PySem.PyData.int (x_2.2)), sdP (s_5.1), .pl, .any, sdO true PySem.PyData.bool (s_5.2)]), _, _, _, _, rfl, rfl, (le_cons leR (le_cons leR (le_cons leR (le_cons leR (le_cons leR (le_cons leR (le_cons leR (le_cons leR (le_cons leR (le_cons leR le_nil)))))))))), (fun x_4 s_5 => ⟨[.fro false ((eL (e2 PySem.PyData.int PySem.PyData.int)) a_pairs), .fro false (PySem.PyData.int a_asks), .fro false ((eL (eL PySem.PyData.int)) a_fitting), .ob false (ppL (s_3.1)), .fro false (PySem.PyData.int (x_2.1)), .fro false (PySem.PyData.int (x_2.2)), sdP (s_5.1), .fro true (PySem.PyData.bool x_4), .any, sdO true PySem.PyData.bool (s_5.2)], rfl, (ws_seq (ws_set (we_callK (wa_cons (we_var rfl (wa_cons (we_var rfl (wa_cons (we_var rfl (wa_cons (we_var rfl (wa_nil ⟨_, _, rfl, _, _, rfl, (fun _ => ⟨_, rfl, ⟨_, rfl, trivial⟩⟩), SimF.le (t_fitting_to a_fitting (x_2.1) (x_2.2) x_4) (laR (laR (laR (laV laN)))), fun r_6 => ⟨rfl, ⟨[.fro false ((eL (e2 PySem.PyData.int PySem.PyData.int)) a_pairs), .fro false (PySem.PyData.int a_asks), .fro false ((eL (eL PySem.PyData.int)) a_fitting), .ob false (ppL (s_3.1)), .fro false (PySem.PyData.int (x_2.1)), .fro false (PySem.PyData.int (x_2.2)), sdP (s_5.1), .fro true (PySem.PyData.bool x_4), .own false false (r_6.map (eL PySem.PyData.int)), sdO true PySem.PyData.bool (s_5.2)], rfl, (ws_join (fun (j_8 : ((Option D) × (Option Bool))) => [.fro false ((eL (e2 PySem.PyData.int PySem.PyData.int)) a_pairs), .fro false (PySem.PyData.int a_asks), .fro false ((eL (eL PySem.PyData.int)) a_fitting), .ob false (ppL (s_3.1)), .fro false (PySem.PyData.int (x_2.1)), .fro false (PySem.PyData.int (x_2.2)), sdP (j_8.1), .fro true (PySem.PyData.bool x_4), .own false false (r_6.map (eL PySem.PyData.int)), sdO true PySem.PyData.bool (j_8.2)]) rfl (ws_if (wt_andP (wt_noOb (o := (s_5.1)) rfl ⟨_, (wt_val (we_sc (wa_cons (we_var rfl (wa_cons (we_tkN mono_list (wa_nil ⟨_, _, _, _, rfl, rfl, (wa_nil ⟨_, _, rfl, (nenil_op (enc_list enc_int) (by decide) r_6), ⟨_, rfl, ⟨rfl, rfl, rfl⟩⟩⟩)⟩))))))), ⟨_, _, rfl, (ws_seq (ws_hd (wa_cons (we_var rfl (wa_cons (we_sc (wa_cons (we_var rfl (wa_cons (we_c (wa_nil ⟨_, _, rfl, rfl, (wa_cons (we_var rfl (wa_nil ⟨_, _, _, rfl, rfl, gs a_pairs (a_asks - 1) r_6, (.inl ⟨_, rfl⟩), fun under_7 => (ws_set (we_var rfl ⟨[.fro false ((eL (e2 PySem.PyData.int PySem.PyData.int)) a_pairs), .fro false (PySem.PyData.int a_asks), .fro false ((eL (eL PySem.PyData.int)) a_fitting), .ob false (ppL (s_3.1)), .fro false (PySem.PyData.int (x_2.1)), .fro false (PySem.PyData.int (x_2.2)), sdP under_7, .fro true (PySem.PyData.bool x_4), .own false false (r_6.map (eL PySem.PyData.int)), .fro true (PySem.PyData.bool x_4)], (set_opt rfl), ⟨_, rfl, (le_cons leR (le_cons leR (le_cons leR (le_cons leR (le_cons leR (le_cons leR (le_cons leR (le_cons leR (le_cons leR (le_cons leR le_nil))))))))))⟩⟩))⟩)))⟩))))))))))), (ws_nop ⟨_, rfl, (LeE.refl _)⟩)⟩⟩))) (fun j_8 => ⟨_, rfl, (le_cons leR (le_cons leR (le_cons leR (le_cons leR (le_cons leR (le_cons leR (le_cons leR (le_cons (leP rfl) (le_cons (leA rfl) (le_cons leR le_nil))))))))))⟩))⟩⟩⟩))))))))))))⟩), fun e_9 => ⟨[.fro false ((eL (e2 PySem.PyData.int PySem.PyData.int)) a_pairs), .fro false (PySem.PyData.int a_asks), .fro false ((eL (eL PySem.PyData.int)) a_fitting), .ob false (ppL (s_3.1)), .fro false (PySem.PyData.int (x_2.1)), .fro false (PySem.PyData.int (x_2.2)), sdP (e_9.1), .pl, .any, sdO true PySem.PyData.bool (e_9.2)], rfl, (ws_seq (ws_if (wt_noOb (o := (e_9.1)) rfl ⟨_, _, rfl, (ws_retF (we_c ⟨_, _, _, rfl, ⟨_, _, rfl, rfl, ⟨none, rfl, .inl ⟨rfl, rfl⟩⟩⟩⟩)), (ws_nop (ws_ppApp rfl rfl rfl rfl rfl fun truth_10 under_11 found_12 => ⟨_, rfl, (le_cons leR (le_cons leR (le_cons leR (le_cons leR (le_cons (leP rfl) (le_cons (leP rfl) (le_cons leR (le_cons leR (le_cons leR (le_cons leR le_nil))))))))))⟩))⟩)))⟩⟩⟩⟩)))))))))⟩)))⟩), fun e_13 => ⟨[.fro false ((eL (e2 PySem.PyData.int PySem.PyData.int)) a_pairs), .fro false (PySem.PyData.int a_asks), .fro false ((eL (eL PySem.PyData.int)) a_fitting), .ob false (ppL (e_13.1)), .pl, .pl, .un, .pl, .any, sdO true PySem.PyData.bool (e_13.2)], rfl, (ws_ret (we_varOb rfl ⟨_, rfl, .inr ⟨_, _, rfl, rfl, rfl⟩⟩))⟩⟩⟩))))⟩)))⟩⟩⟩)))))))))
theorem t_held : ∀ (k : Nat) (a_pairs : (List (Int × Int))) (a_asks : Int) (a_fitting : (List (List Int))), SimH (fn_held k) [((eL (e2 PySem.PyData.int PySem.PyData.int)) a_pairs), (PySem.PyData.int a_asks), ((eL (eL PySem.PyData.int)) a_fitting)] (x_held k a_pairs a_asks a_fitting)
  | 0, _, _, _ => simH_bad
  | k + 1, a_pairs, a_asks, a_fitting => t_held_ _ _ (t_held k) a_pairs a_asks a_fitting
def d_holding_paper : DS :=
  sDrop (dAp (opCallX [false] fn_need_held) [eVar 0])
def fn_holding_paper : OpH := runHc 1 1 d_holding_paper (fn_held fuel_held) [dAp (opCallX [false] fn_pairs_of) [eVar 0], dAp (opSc dSub) [dAp (opEl dIdx) [dAp (opCall [false] fn_fewest) [eVar 0], eC (.int 0)], eC (.int 1)], dAp (opCallX [false, false] fn_all_sorts) [eVar 0, eVar 0]]
def x_holding_paper (a_many : Int) : M (Option D) :=
M.bind (x_need_held a_many) fun (r_1 : Unit) =>
M.bind (x_pairs_of a_many) fun (r_2 : (List (Int × Int))) =>
M.bind (x_fewest a_many) fun (r_3 : (Int × Tree)) =>
M.bind (x_all_sorts a_many a_many) fun (r_4 : (List (List Int))) =>
M.bind (M.nx (x_held fuel_held r_2 ((r_3.1) - 1) r_4)) fun (v : Option D) => .ok v
theorem t_holding_paper (a_many : Int) : SimH fn_holding_paper [(PySem.PyData.int a_many)] (x_holding_paper a_many) := by
  delta x_holding_paper fn_holding_paper d_holding_paper
  exact simHc_def rfl (ws_drop (we_callX (wa_cons (we_var rfl (wa_nil ⟨_, _, rfl, (fun _ => trivial), _, rfl, rfl, t_need_held a_many, fun r_1 => ⟨_, rfl, (hc_end (wa_cons (we_callX (wa_cons (we_var rfl (wa_nil ⟨_, _, rfl, (fun _ => trivial), _, rfl, rfl, t_pairs_of a_many, fun r_2 => ⟨_, unX_nw _, (wa_cons (we_sc (wa_cons (we_elF mono_idx (wa_cons (we_callK (wa_cons (we_var rfl (wa_nil ⟨_, _, rfl, _, _, rfl, (fun _ => trivial), SimF.le (t_fewest a_many) (laR laN), fun r_3 => ⟨rfl, (wa_cons (we_c (wa_nil ⟨_, _, _, _, rfl, rfl, (wa_cons (we_c (wa_nil ⟨_, _, rfl, rfl, (wa_cons (we_callX (wa_cons (we_var rfl (wa_cons (we_var rfl (wa_nil ⟨_, _, rfl, (fun _ => trivial), _, rfl, rfl, t_all_sorts a_many a_many, fun r_4 => ⟨_, rfl, (wa_nil ⟨_, _, rfl, rfl, t_held fuel_held r_2 ((r_3.1) - 1) r_4⟩)⟩⟩)))))))⟩)))⟩)))⟩⟩)))))))))⟩⟩))))))⟩⟩)))))
def d_law_all_pairs : DS :=
  sSeq (sSet 1 (dAp (opTk dList) [])) (sSeq (sFor (.nm 2) (iRange [eVar 0]) (sSet 1 (dAp (opEl dAdd) [eVar 1, eComp [3] (.nm 3) (iRange [dAp (opEl dAdd) [eVar 2, eC (.int 1)], eVar 0]) (dYes) (dAp (opTk dTup) [eVar 2, eVar 3])]))) (sRet (eVar 1)))
def fn_law_all_pairs : Fn := runFn 1 4 d_law_all_pairs
def x_law_all_pairs_c1 (x_3 : Int) (x_6 : Int) : M (Int × Int) :=
.ok (x_3, x_6)
def x_law_all_pairs_b1 (a_many : Int) (x_3 : Int) (s_4 : (List (Int × Int))) : M (List (Int × Int)) :=
M.bind (rng2 (x_3 + 1) a_many) fun (ks_5 : (List Int)) =>
M.bind (mapU (β := (Int × Int)) (x_law_all_pairs_c1 x_3) ks_5) fun (ys_8 : (List (Int × Int))) =>
M.bind (cat s_4 ys_8) fun (l_9 : (List (Int × Int))) =>
.ok l_9
def x_law_all_pairs (a_many : Int) : M (List (Int × Int)) :=
M.val ([] : (List (Int × Int))) fun (found_1 : (List (Int × Int))) =>
M.bind (rng1 a_many) fun (ks_2 : (List Int)) =>
M.bind (forS (x_law_all_pairs_b1 a_many) ks_2 found_1) fun (e_10 : (List (Int × Int))) =>
.ok e_10
theorem t_law_all_pairs (a_many : Int) : SimF fn_law_all_pairs [.v false (PySem.PyData.int a_many)] (x_law_all_pairs a_many) (fun (r : (List (Int × Int))) => .nw true (r.map (e2 PySem.PyData.int PySem.PyData.int))) (fun _ => [none]) := by
  delta x_law_all_pairs fn_law_all_pairs d_law_all_pairs
  exact simF_def rfl (ws_seq (ws_setV (α := (List (Int × Int))) (fun v => .nw true (v.map (e2 PySem.PyData.int PySem.PyData.int))) (we_tkN mono_list (wa_nil ⟨_, _, _, _, rfl, rfl, ⟨_, _, rfl, rfl, fun found_1 => ⟨[.fro false (PySem.PyData.int a_many), .own false true (found_1.map (e2 PySem.PyData.int PySem.PyData.int)), .un, .un], rfl, (ws_seq (ws_forS (enc := PySem.PyData.int) (wi_range1 (wa_cons (we_var rfl (wa_nil ⟨_, _, rfl, rfl, fun ks_2 => ⟨(fun (s_4 : (List (Int × Int))) => [.fro false (PySem.PyData.int a_many), .own false true (s_4.map (e2 PySem.PyData.int PySem.PyData.int)), .pl, .un]), _, _, _, _, rfl, rfl, (le_cons leR (le_cons leR (le_cons (leP rfl) (le_cons leR le_nil)))), (fun x_3 s_4 => ⟨[.fro false (PySem.PyData.int a_many), .own false true (s_4.map (e2 PySem.PyData.int PySem.PyData.int)), .fro true (PySem.PyData.int x_3), .un], rfl, (ws_set (we_elM (fun (v : (List (Int × Int))) => .nw (true && true) (v.map (e2 PySem.PyData.int PySem.PyData.int))) mono_add (wa_cons (we_var rfl (wa_cons (we_mapU (enc := PySem.PyData.int) (enc2 := (e2 PySem.PyData.int PySem.PyData.int)) (bt := true) (wi_range2 (wa_cons (we_elF mono_add (wa_cons (we_var rfl (wa_cons (we_c (wa_nil ⟨_, _, _, _, rfl, rfl, (wa_cons (we_var rfl (wa_nil ⟨_, _, _, rfl, rfl, fun ks_5 => ⟨[.fro false (PySem.PyData.int a_many), .own false true (s_4.map (e2 PySem.PyData.int PySem.PyData.int)), .fro true (PySem.PyData.int x_3), .un], _, _, _, rfl, rfl, rfl, (LeE.refl _), (fun x_6 => ⟨[.fro false (PySem.PyData.int a_many), .own false true (s_4.map (e2 PySem.PyData.int PySem.PyData.int)), .fro true (PySem.PyData.int x_3), .fro true (PySem.PyData.int x_6)], rfl, (we_tkF mono_tup (wa_cons (we_var rfl (wa_cons (we_var rfl (wa_nil ⟨_, _, _, _, rfl, rfl, ⟨_, _, rfl, rfl, (LeE.refl _)⟩⟩))))))⟩), fun ys_8 => ⟨[.fro false (PySem.PyData.int a_many), .own false true (s_4.map (e2 PySem.PyData.int PySem.PyData.int)), .fro true (PySem.PyData.int x_3), .un], rfl, (wa_nil ⟨_, _, rfl, _, _, rfl, po_cat (e2 PySem.PyData.int PySem.PyData.int) s_4 ys_8 _ _, fun l_9 => ⟨[.fro false (PySem.PyData.int a_many), .own false true (l_9.map (e2 PySem.PyData.int PySem.PyData.int)), .fro true (PySem.PyData.int x_3), .un], rfl, ⟨_, rfl, (le_cons leR (le_cons leR (le_cons (leP rfl) (le_cons leR le_nil))))⟩⟩⟩)⟩⟩⟩)))⟩))))))))))))))⟩), fun e_10 => ⟨[.fro false (PySem.PyData.int a_many), .own false true (e_10.map (e2 PySem.PyData.int PySem.PyData.int)), .pl, .un], rfl, (ws_ret (we_var rfl ⟨e_10, _, _, rfl, rfl, ltR, rfl, loR⟩))⟩⟩⟩))))))⟩⟩⟩))))
def d_law_open : DS :=
  sSeq (sSet 1 (eComp [3] (.nm 3) (iSeq (eVar 0)) (dYes) (dAp (opCallX [false] fn_law_half) [eVar 3]))) (sSeq (sIf (dVal (dAp (opSc dEq) [eComp [4] (.nm 4) (iSeq (eVar 1)) (dVal (dAp (opSc dNe) [eVar 4, dAp (opTk dList) []])) (eVar 4), dAp (opTk dList) []])) (sRet (eC (.bool false))) (sNop)) (sSeq (sSet 2 (eComp [5] (.nm 5) (iSeq (dAp (opEl dIdx) [eVar 1, eC (.int 0)])) (dVal (dAp (opSc dEq) [eComp [4] (.nm 4) (iSeq (eVar 1)) (dVal (dAp (opSc dNotIn) [eVar 5, eVar 4])) (eVar 4), dAp (opTk dList) []])) (eVar 5))) (sRet (dAp (opSc dEq) [eVar 2, dAp (opTk dList) []]))))
def fn_law_open : Fn := runFn 1 6 d_law_open
def x_law_open_c1 (x_9 : Int) (x_11 : (List Int)) : M (Option (List Int)) :=
cond (!mem x_9 x_11) (.ok (some x_11)) (.ok none)
def x_law_open_c2 (ys_4 : (List (List Int))) (x_9 : Int) : M (Option Int) :=
M.bind (filU (β := (List Int)) (x_law_open_c1 x_9) ys_4) fun (ys_13 : (List (List Int))) =>
cond (ys_13.isEmpty) (.ok (some x_9)) (.ok none)
def x_law_open_c3 (x_5 : (List Int)) : M (Option (List Int)) :=
cond (!x_5.isEmpty) (.ok (some x_5)) (.ok none)
def x_law_open_c4 (x_1 : (List Int)) : M (List Int) :=
M.bind (x_law_half x_1) fun (r_3 : (List Int)) =>
.ok r_3
def x_law_open (a_left : (List (List Int))) : M Bool :=
M.bind (mapU (β := (List Int)) x_law_open_c4 a_left) fun (ys_4 : (List (List Int))) =>
M.bind (filU (β := (List Int)) x_law_open_c3 ys_4) fun (ys_7 : (List (List Int))) =>
cond (ys_7.isEmpty) (.ok false) (M.bind (idx ys_4 0) fun (x_8 : (List Int)) =>
M.bind (filU (β := Int) (x_law_open_c2 ys_4) x_8) fun (ys_14 : (List Int)) =>
.ok (ys_14.isEmpty))
theorem t_law_open (a_left : (List (List Int))) : SimF fn_law_open [.v false ((eL (eL PySem.PyData.int)) a_left)] (x_law_open a_left) (fun (r : Bool) => .fz true (PySem.PyData.bool r)) (fun _ => [none]) := by
  delta x_law_open fn_law_open d_law_open
  exact simF_def rfl (ws_seq (ws_set (we_mapU (enc := (eL PySem.PyData.int)) (enc2 := (eL PySem.PyData.int)) (bt := true) (wi_seq (we_var rfl ⟨_, _, _, _, rfl, ⟨[.fro false ((eL (eL PySem.PyData.int)) a_left), .un, .un, .un, .un, .un], _, _, _, rfl, rfl, rfl, (LeE.refl _), (fun x_1 => ⟨[.fro false ((eL (eL PySem.PyData.int)) a_left), .un, .un, .fro false ((eL PySem.PyData.int) x_1), .un, .un], rfl, (we_callX (wa_cons (we_var rfl (wa_nil ⟨_, _, rfl, (fun _ => trivial), _, rfl, rfl, t_law_half x_1, fun r_3 => ⟨_, unX_nw _, ⟨_, _, rfl, rfl, (LeE.refl _)⟩⟩⟩))))⟩), fun ys_4 => ⟨[.fro false ((eL (eL PySem.PyData.int)) a_left), .un, .un, .un, .un, .un], rfl, ⟨[.fro false ((eL (eL PySem.PyData.int)) a_left), .own false true (ys_4.map (eL PySem.PyData.int)), .un, .un, .un, .un], rfl, (ws_seq (ws_if (wt_val (we_sc (wa_cons (we_filU (enc := (eL PySem.PyData.int)) (enc2 := (eL PySem.PyData.int)) (bt := true) (wi_seq (we_var rfl ⟨_, _, _, _, rfl, ⟨[.fro false ((eL (eL PySem.PyData.int)) a_left), .lent, .un, .un, .un, .un], _, _, _, rfl, rfl, rfl, (LeE.refl _), (fun x_5 => ⟨[.fro false ((eL (eL PySem.PyData.int)) a_left), .lent, .un, .un, .fro true ((eL PySem.PyData.int) x_5), .un], rfl, (wt_val (we_sc (wa_cons (we_var rfl (wa_cons (we_tkN mono_list (wa_nil ⟨_, _, _, _, rfl, rfl, (wa_nil ⟨_, _, rfl, (nenil_op enc_int (by decide) x_5), ⟨_, rfl, ⟨_, _, rfl, (fun _ => ⟨rfl, (LeE.refl _)⟩), fun _ => (we_var rfl ⟨_, _, rfl, rfl, (LeE.refl _)⟩)⟩⟩⟩)⟩)))))))⟩), fun ys_7 => ⟨[.fro false ((eL (eL PySem.PyData.int)) a_left), .own false true (ys_4.map (eL PySem.PyData.int)), .un, .un, .un, .un], rfl, (wa_cons (we_tkN mono_list (wa_nil ⟨_, _, _, _, rfl, rfl, (wa_nil ⟨_, _, rfl, (eqnil_op (enc_list enc_int) (by decide) ys_7), ⟨_, rfl, ⟨_, _, rfl, (ws_ret (we_c ⟨false, _, _, rfl, rfl, ltR, rfl, loR⟩)), (ws_nop (ws_seq (ws_set (we_filU (enc := PySem.PyData.int) (enc2 := PySem.PyData.int) (bt := true) (wi_seq (we_elM (fun v => .fz true ((eL PySem.PyData.int) v)) mono_idx (wa_cons (we_var rfl (wa_cons (we_c (wa_nil ⟨_, _, rfl, _, _, rfl, po_idx (eL PySem.PyData.int) ys_4 0 _ _, fun x_8 => ⟨_, _, _, _, rfl, ⟨[.fro false ((eL (eL PySem.PyData.int)) a_left), .own false true (ys_4.map (eL PySem.PyData.int)), .un, .un, .un, .un], _, _, _, rfl, rfl, rfl, (LeE.refl _), (fun x_9 => ⟨[.fro false ((eL (eL PySem.PyData.int)) a_left), .own false true (ys_4.map (eL PySem.PyData.int)), .un, .un, .un, .fro true (PySem.PyData.int x_9)], rfl, (wt_val (we_sc (wa_cons (we_filU (enc := (eL PySem.PyData.int)) (enc2 := (eL PySem.PyData.int)) (bt := true) (wi_seq (we_var rfl ⟨_, _, _, _, rfl, ⟨[.fro false ((eL (eL PySem.PyData.int)) a_left), .lent, .un, .un, .un, .fro true (PySem.PyData.int x_9)], _, _, _, rfl, rfl, rfl, (LeE.refl _), (fun x_11 => ⟨[.fro false ((eL (eL PySem.PyData.int)) a_left), .lent, .un, .un, .fro true ((eL PySem.PyData.int) x_11), .fro true (PySem.PyData.int x_9)], rfl, (wt_val (we_sc (wa_cons (we_var rfl (wa_cons (we_var rfl (wa_nil ⟨_, _, rfl, (notin_op enc_int (by decide) x_9 x_11), ⟨_, rfl, ⟨_, _, rfl, (fun _ => ⟨rfl, (LeE.refl _)⟩), fun _ => (we_var rfl ⟨_, _, rfl, rfl, (LeE.refl _)⟩)⟩⟩⟩)))))))⟩), fun ys_13 => ⟨[.fro false ((eL (eL PySem.PyData.int)) a_left), .own false true (ys_4.map (eL PySem.PyData.int)), .un, .un, .un, .fro true (PySem.PyData.int x_9)], rfl, (wa_cons (we_tkN mono_list (wa_nil ⟨_, _, _, _, rfl, rfl, (wa_nil ⟨_, _, rfl, (eqnil_op (enc_list enc_int) (by decide) ys_13), ⟨_, rfl, ⟨_, _, rfl, (fun _ => ⟨rfl, (LeE.refl _)⟩), fun _ => (we_var rfl ⟨_, _, rfl, rfl, (LeE.refl _)⟩)⟩⟩⟩)⟩)))⟩⟩⟩))))))⟩), fun ys_14 => ⟨[.fro false ((eL (eL PySem.PyData.int)) a_left), .own false true (ys_4.map (eL PySem.PyData.int)), .un, .un, .un, .un], rfl, ⟨[.fro false ((eL (eL PySem.PyData.int)) a_left), .own false true (ys_4.map (eL PySem.PyData.int)), .own false true (ys_14.map PySem.PyData.int), .un, .un, .un], rfl, (ws_ret (we_sc (wa_cons (we_var rfl (wa_cons (we_tkN mono_list (wa_nil ⟨_, _, _, _, rfl, rfl, (wa_nil ⟨_, _, rfl, (eqnil_op enc_int (by decide) ys_14), ⟨(ys_14.isEmpty), _, _, rfl, rfl, ltR, rfl, loR⟩⟩)⟩)))))))⟩⟩⟩⟩⟩)))))))))))⟩⟩⟩)⟩)))⟩⟩⟩))))))))⟩⟩⟩⟩)))))
def fuel_law_holds : Nat := 10
def d_law_holds (g : Fn) : DS :=
  sSeq (sIf (dVal (dAp (opSc dEq) [eVar 3, dAp (opTk dList) []])) (sRet (eC (.bool false))) (sNop)) (sSeq (sIf (dVal (dAp (opSc dEq) [eVar 1, eC (.int 0)])) (sRet (eAnd (eIsi "tuple" (eVar 2)) (eAnd (dAp (opSc dEq) [eVar 2, dAp (opTk dTup) []]) (dAp (opCallX [false] fn_law_open) [eVar 3])))) (sNop)) (sSeq (sSet 4 (dAp (opCallX [false] fn_law_all_pairs) [eVar 0])) (sSeq (sIf (dOr (dNot (dVal (eIsi "list" (eVar 2)))) (dVal (dAp (opSc dNe) [dAp (opSc dLen) [eVar 2], dAp (opSc dLen) [eVar 4]]))) (sRet (eC (.bool false))) (sNop)) (sSeq (sFor (.nm 5) (iRange [dAp (opSc dLen) [eVar 4]]) (sSeq (sUnp (.tp (.cons (.nm 6) (.cons (.nm 7) (.nil)))) (dAp (opEl dIdx) [eVar 4, eVar 5])) (sSeq (sUnp (.tp (.cons (.nm 8) (.cons (.nm 9) (.nil)))) (dAp (opEl dIdx) [eVar 2, eVar 5])) (sSeq (sSet 10 (eComp [11] (.nm 11) (iSeq (eVar 3)) (dVal (dAp (opSc dEq) [dAp (opSc dEq) [dAp (opEl dIdx) [eVar 11, eVar 6], dAp (opEl dIdx) [eVar 11, eVar 7]], eVar 8])) (eVar 11))) (sIf (dNot (dVal (dAp (opCallX [false, false, false, false] g) [eVar 0, dAp (opSc dSub) [eVar 1, eC (.int 1)], eVar 9, eVar 10]))) (sRet (eC (.bool false))) (sNop)))))) (sRet (eC (.bool true)))))))
def fn_law_holds : Nat → Fn
  | 0 => fun _ => .bad
  | k + 1 => runFn 4 12 (d_law_holds (fn_law_holds k))
def x_law_holds_c1 (x_14 : (Int × Int)) (x_15 : (Bool × D)) (x_16 : (List Int)) : M (Option (List Int)) :=
M.bind (idx x_16 (x_14.1)) fun (x_18 : Int) =>
M.bind (idx x_16 (x_14.2)) fun (x_19 : Int) =>
cond (decide ((decide (x_18 = x_19)) = x_15.1)) (.ok (some x_16)) (.ok none)
def x_law_holds_b1 (gx : Int → Int → D → (List (List Int)) → M Bool) (a_many : Int) (a_asks : Int) (a_left : (List (List Int))) (r_6 : (List (Int × Int))) (paper_10 : (List (Bool × D))) (x_12 : Int) (s_13 : Unit) : M (Lp Unit Bool) :=
M.bind (idx r_6 x_12) fun (x_14 : (Int × Int)) =>
M.bind (idx paper_10 x_12) fun (x_15 : (Bool × D)) =>
M.bind (filU (β := (List Int)) (x_law_holds_c1 x_14 x_15) a_left) fun (ys_20 : (List (List Int))) =>
M.bind (gx a_many (a_asks - 1) (x_15.2) ys_20) fun (r_21 : Bool) =>
cond (!r_21) (.ok (.ex false)) (.ok (.nx ()))
def x_law_holds_ (gx : Int → Int → D → (List (List Int)) → M Bool) (a_many : Int) (a_asks : Int) (a_paper : D) (a_left : (List (List Int))) : M Bool :=
cond (a_left.isEmpty) (.ok false) (cond (decide (a_asks = 0)) (M.bind (isiD "tuple" a_paper) fun (b_1 : Bool) =>
M.bind (cond b_1 (M.bind (eqD a_paper (PySem.PyData.tuple [])) fun (q_2 : Bool) =>
M.bind (cond q_2 (M.bind (x_law_open a_left) fun (r_3 : Bool) =>
.ok r_3) (.ok false)) fun (c_4 : Bool) =>
.ok c_4) (.ok false)) fun (c_5 : Bool) =>
.ok c_5) (M.bind (x_law_all_pairs a_many) fun (r_6 : (List (Int × Int))) =>
M.bind (isiD "list" a_paper) fun (b_7 : Bool) =>
M.bind (cond (!b_7) (.ok true) (M.bind (lenM a_paper) fun (x_8 : Int) =>
.ok (!decide (x_8 = (r_6.length : Int))))) fun (c_9 : Bool) =>
cond c_9 (.ok false) (M.bind (ofO (decBP a_paper)) fun (paper_10 : (List (Bool × D))) =>
M.bind (rng1 (r_6.length : Int)) fun (ks_11 : (List Int)) =>
M.orRet (forX (τ := Bool) (x_law_holds_b1 gx a_many a_asks a_left r_6 paper_10) ks_11 ()) fun (e_22 : Unit) =>
.ok true)))
def x_law_holds : Nat → Int → Int → D → (List (List Int)) → M Bool
  | 0 => fun _ _ _ _ => .bad
  | k + 1 => x_law_holds_ (x_law_holds k)
theorem t_law_holds_ (g : Fn) (gx : Int → Int → D → (List (List Int)) → M Bool) (gs : ∀ (a_many : Int) (a_asks : Int) (a_paper : D) (a_left : (List (List Int))), SimF g [.v false (PySem.PyData.int a_many), .v false (PySem.PyData.int a_asks), .v false a_paper, .v false ((eL (eL PySem.PyData.int)) a_left)] (gx a_many a_asks a_paper a_left) (fun (r : Bool) => .fz true (PySem.PyData.bool r)) (fun _ => [none, none, none, none])) (a_many : Int) (a_asks : Int) (a_paper : D) (a_left : (List (List Int))) : SimF (runFn 4 12 (d_law_holds g)) [.v false (PySem.PyData.int a_many), .v false (PySem.PyData.int a_asks), .v false a_paper, .v false ((eL (eL PySem.PyData.int)) a_left)] (x_law_holds_ gx a_many a_asks a_paper a_left) (fun (r : Bool) => .fz true (PySem.PyData.bool r)) (fun _ => [none, none, none, none]) := by
  delta x_law_holds_ d_law_holds
  exact simF_def rfl (ws_seq (ws_if (wt_val (we_sc (wa_cons (we_var rfl (wa_cons (we_tkN mono_list (wa_nil ⟨_, _, _, _, rfl, rfl, (wa_nil ⟨_, _, rfl, (eqnil_op (enc_list enc_int) (by decide) a_left), ⟨_, rfl, ⟨_, _, rfl, (ws_ret (we_c ⟨false, _, _, rfl, rfl, ltR, rfl, loR⟩)), (ws_nop (ws_seq (ws_if (wt_val (we_sc (wa_cons (we_var rfl (wa_cons (we_c (wa_nil ⟨_, _, rfl, (eq_op enc_int (by decide) a_asks 0), ⟨_, rfl, ⟨_, _, rfl, (ws_ret (we_andM (wt_val (we_isiD (we_var rfl ⟨_, _, rfl, rfl, fun b_1 => ⟨_, rfl, ⟨_, _, rfl, (we_andM (wt_val (we_scM (fun v => PySem.PyData.bool v) (wa_cons (we_var rfl (wa_cons (we_tkF mono_tup (wa_nil ⟨_, _, _, _, rfl, rfl, (wa_nil ⟨_, _, rfl, _, rfl, ps_eqD a_paper (PySem.PyData.tuple []), fun q_2 => ⟨_, rfl, ⟨_, _, rfl, (we_callX (wa_cons (we_var rfl (wa_nil ⟨_, _, rfl, (fun _ => trivial), _, rfl, rfl, t_law_open a_left, fun r_3 => ⟨_, rfl, ⟨_, rfl, rfl, rfl⟩⟩⟩)))), fun c_4 => ⟨_, rfl, rfl, rfl⟩⟩⟩⟩)⟩)))))))), fun c_5 => ⟨c_5, _, _, rfl, rfl, ltR, rfl, loR⟩⟩⟩⟩))))), (ws_nop (ws_seq (ws_set (we_callX (wa_cons (we_var rfl (wa_nil ⟨_, _, rfl, (fun _ => trivial), _, rfl, rfl, t_law_all_pairs a_many, fun r_6 => ⟨_, unX_nw _, ⟨[.fro false (PySem.PyData.int a_many), .fro false (PySem.PyData.int a_asks), .fro false a_paper, .fro false ((eL (eL PySem.PyData.int)) a_left), .own false true (r_6.map (e2 PySem.PyData.int PySem.PyData.int)), .un, .un, .un, .un, .un, .un, .un], rfl, (ws_seq (ws_if (wt_orM (wt_not (wt_val (we_isiD (we_var rfl ⟨_, _, rfl, rfl, fun b_7 => ⟨_, rfl, ⟨_, _, rfl, (wt_val (we_sc (wa_cons (we_scM (fun v => PySem.PyData.int v) (wa_cons (we_var rfl (wa_nil ⟨_, _, rfl, _, rfl, ps_lenD _, fun x_8 => (wa_cons (we_sc (wa_cons (we_var rfl (wa_nil ⟨_, _, rfl, len_op (e2 PySem.PyData.int PySem.PyData.int) r_6, (wa_nil ⟨_, _, rfl, (ne_op enc_int (by decide) x_8 (r_6.length : Int)), ⟨_, rfl, ⟨rfl, rfl⟩⟩⟩)⟩)))))⟩))))))), fun c_9 => ⟨_, _, rfl, (ws_ret (we_c ⟨false, _, _, rfl, rfl, ltR, rfl, loR⟩)), (ws_nop (ws_seq (ws_dec (eL (e2 PySem.PyData.bool eD)) decBP decBP_ok rfl (fun paper_10 hx => by subst hx; exact (ws_forX (enc := PySem.PyData.int) (wi_range1 (wa_cons (we_sc (wa_cons (we_var rfl (wa_nil ⟨_, _, rfl, len_op (e2 PySem.PyData.int PySem.PyData.int) r_6, (wa_nil ⟨_, _, rfl, rfl, fun ks_11 => ⟨(fun (s_13 : Unit) => [.fro false (PySem.PyData.int a_many), .fro false (PySem.PyData.int a_asks), .fro false ((eL (e2 PySem.PyData.bool eD)) paper_10), .fro false ((eL (eL PySem.PyData.int)) a_left), .own false true (r_6.map (e2 PySem.PyData.int PySem.PyData.int)), .pl, .pl, .pl, .pl, .pl, .any, .un]), _, _, _, _, rfl, rfl, (le_cons leR (le_cons leR (le_cons leR (le_cons leR (le_cons leR (le_cons (leP rfl) (le_cons (leP rfl) (le_cons (leP rfl) (le_cons (leP rfl) (le_cons (leP rfl) (le_cons (leA rfl) (le_cons leR le_nil)))))))))))), (fun x_12 s_13 => ⟨[.fro false (PySem.PyData.int a_many), .fro false (PySem.PyData.int a_asks), .fro false ((eL (e2 PySem.PyData.bool eD)) paper_10), .fro false ((eL (eL PySem.PyData.int)) a_left), .own false true (r_6.map (e2 PySem.PyData.int PySem.PyData.int)), .fro true (PySem.PyData.int x_12), .pl, .pl, .pl, .pl, .any, .un], rfl, (ws_seq (ws_unp (we_elM (fun v => .fz true ((e2 PySem.PyData.int PySem.PyData.int) v)) mono_idx (wa_cons (we_var rfl (wa_cons (we_var rfl (wa_nil ⟨_, _, rfl, _, _, rfl, po_idx (e2 PySem.PyData.int PySem.PyData.int) r_6 x_12 _ _, fun x_14 => ⟨_, _, _, [.fro false (PySem.PyData.int a_many), .fro false (PySem.PyData.int a_asks), .fro false ((eL (e2 PySem.PyData.bool eD)) paper_10), .fro false ((eL (eL PySem.PyData.int)) a_left), .own false true (r_6.map (e2 PySem.PyData.int PySem.PyData.int)), .fro true (PySem.PyData.int x_12), .fro true (PySem.PyData.int (x_14.1)), .fro true (PySem.PyData.int (x_14.2)), .pl, .pl, .any, .un], rfl, rfl, (ws_seq (ws_unp (we_elM (fun v => .fz false ((e2 PySem.PyData.bool eD) v)) mono_idx (wa_cons (we_var rfl (wa_cons (we_var rfl (wa_nil ⟨_, _, rfl, _, _, rfl, po_idx (e2 PySem.PyData.bool eD) paper_10 x_12 _ _, fun x_15 => ⟨_, _, _, [.fro false (PySem.PyData.int a_many), .fro false (PySem.PyData.int a_asks), .fro false ((eL (e2 PySem.PyData.bool eD)) paper_10), .fro false ((eL (eL PySem.PyData.int)) a_left), .own false true (r_6.map (e2 PySem.PyData.int PySem.PyData.int)), .fro true (PySem.PyData.int x_12), .fro true (PySem.PyData.int (x_14.1)), .fro true (PySem.PyData.int (x_14.2)), .fro false (PySem.PyData.bool (x_15.1)), .fro false (x_15.2), .any, .un], rfl, rfl, (ws_seq (ws_set (we_filU (enc := (eL PySem.PyData.int)) (enc2 := (eL PySem.PyData.int)) (bt := false) (wi_seq (we_var rfl ⟨_, _, _, _, rfl, ⟨[.fro false (PySem.PyData.int a_many), .fro false (PySem.PyData.int a_asks), .fro false ((eL (e2 PySem.PyData.bool eD)) paper_10), .fro false ((eL (eL PySem.PyData.int)) a_left), .own false true (r_6.map (e2 PySem.PyData.int PySem.PyData.int)), .fro true (PySem.PyData.int x_12), .fro true (PySem.PyData.int (x_14.1)), .fro true (PySem.PyData.int (x_14.2)), .fro false (PySem.PyData.bool (x_15.1)), .fro false (x_15.2), .any, .un], _, _, _, rfl, rfl, rfl, (LeE.refl _), (fun x_16 => ⟨[.fro false (PySem.PyData.int a_many), .fro false (PySem.PyData.int a_asks), .fro false ((eL (e2 PySem.PyData.bool eD)) paper_10), .fro false ((eL (eL PySem.PyData.int)) a_left), .own false true (r_6.map (e2 PySem.PyData.int PySem.PyData.int)), .fro true (PySem.PyData.int x_12), .fro true (PySem.PyData.int (x_14.1)), .fro true (PySem.PyData.int (x_14.2)), .fro false (PySem.PyData.bool (x_15.1)), .fro false (x_15.2), .any, .fro false ((eL PySem.PyData.int) x_16)], rfl, (wt_val (we_sc (wa_cons (we_sc (wa_cons (we_elM (fun v => .fz false (PySem.PyData.int v)) mono_idx (wa_cons (we_var rfl (wa_cons (we_var rfl (wa_nil ⟨_, _, rfl, _, _, rfl, po_idx PySem.PyData.int x_16 (x_14.1) _ _, fun x_18 => (wa_cons (we_elM (fun v => .fz false (PySem.PyData.int v)) mono_idx (wa_cons (we_var rfl (wa_cons (we_var rfl (wa_nil ⟨_, _, rfl, _, _, rfl, po_idx PySem.PyData.int x_16 (x_14.2) _ _, fun x_19 => (wa_nil ⟨_, _, rfl, (eq_op enc_int (by decide) x_18 x_19), (wa_cons (we_var rfl (wa_nil ⟨_, _, rfl, (eq_op enc_bool (by decide) (decide (x_18 = x_19)) (x_15.1)), ⟨_, rfl, ⟨_, _, rfl, (fun _ => ⟨rfl, (LeE.refl _)⟩), fun _ => (we_var rfl ⟨_, _, rfl, rfl, (LeE.refl _)⟩)⟩⟩⟩)))⟩)⟩)))))))⟩)))))))))))⟩), fun ys_20 => ⟨[.fro false (PySem.PyData.int a_many), .fro false (PySem.PyData.int a_asks), .fro false ((eL (e2 PySem.PyData.bool eD)) paper_10), .fro false ((eL (eL PySem.PyData.int)) a_left), .own false true (r_6.map (e2 PySem.PyData.int PySem.PyData.int)), .fro true (PySem.PyData.int x_12), .fro true (PySem.PyData.int (x_14.1)), .fro true (PySem.PyData.int (x_14.2)), .fro false (PySem.PyData.bool (x_15.1)), .fro false (x_15.2), .any, .un], rfl, ⟨[.fro false (PySem.PyData.int a_many), .fro false (PySem.PyData.int a_asks), .fro false ((eL (e2 PySem.PyData.bool eD)) paper_10), .fro false ((eL (eL PySem.PyData.int)) a_left), .own false true (r_6.map (e2 PySem.PyData.int PySem.PyData.int)), .fro true (PySem.PyData.int x_12), .fro true (PySem.PyData.int (x_14.1)), .fro true (PySem.PyData.int (x_14.2)), .fro false (PySem.PyData.bool (x_15.1)), .fro false (x_15.2), .own false false (ys_20.map (eL PySem.PyData.int)), .un], rfl, (ws_if (wt_not (wt_val (we_callX (wa_cons (we_var rfl (wa_cons (we_sc (wa_cons (we_var rfl (wa_cons (we_c (wa_nil ⟨_, _, rfl, rfl, (wa_cons (we_var rfl (wa_cons (we_var rfl (wa_nil ⟨_, _, rfl, (fun _ => ⟨_, rfl, trivial⟩), _, rfl, rfl, gs a_many (a_asks - 1) (x_15.2) ys_20, fun r_21 => ⟨_, rfl, ⟨_, rfl, ⟨_, _, rfl, (ws_ret (we_c ⟨_, _, rfl, rfl, ⟨false, _, _, rfl, rfl, ltR, rfl, loR⟩⟩)), (ws_nop ⟨_, rfl, (le_cons leR (le_cons leR (le_cons leR (le_cons leR (le_cons leR (le_cons (leP rfl) (le_cons (leP rfl) (le_cons (leP rfl) (le_cons (leP rfl) (le_cons (leP rfl) (le_cons (leA rfl) (le_cons leR le_nil))))))))))))⟩)⟩⟩⟩⟩)))))⟩)))))))))))))⟩⟩⟩⟩)))))⟩⟩))))))))⟩⟩))))))))⟩), fun e_22 => ⟨[.fro false (PySem.PyData.int a_many), .fro false (PySem.PyData.int a_asks), .fro false ((eL (e2 PySem.PyData.bool eD)) paper_10), .fro false ((eL (eL PySem.PyData.int)) a_left), .own false true (r_6.map (e2 PySem.PyData.int PySem.PyData.int)), .pl, .pl, .pl, .pl, .pl, .any, .un], rfl, (ws_ret (we_c ⟨true, _, _, rfl, rfl, ltR, rfl, loR⟩))⟩⟩⟩)⟩)))))))))))⟩⟩⟩⟩)))))))⟩⟩⟩)))))))⟩⟩⟩))))))))))⟩⟩⟩)⟩)))))))))
theorem t_law_holds : ∀ (k : Nat) (a_many : Int) (a_asks : Int) (a_paper : D) (a_left : (List (List Int))), SimF (fn_law_holds k) [.v false (PySem.PyData.int a_many), .v false (PySem.PyData.int a_asks), .v false a_paper, .v false ((eL (eL PySem.PyData.int)) a_left)] (x_law_holds k a_many a_asks a_paper a_left) (fun (r : Bool) => .fz true (PySem.PyData.bool r)) (fun _ => [none, none, none, none])
  | 0, _, _, _, _ => simF_bad
  | k + 1, a_many, a_asks, a_paper, a_left => t_law_holds_ _ _ (t_law_holds k) a_many a_asks a_paper a_left
def fuel_law_truths : Nat := 8
def d_law_truths (g : Fn) : DS :=
  sSeq (sIf (dVal (eIsi "tuple" (eVar 0))) (sRet (dAp (opSc dEq) [eVar 0, dAp (opTk dTup) []])) (sNop)) (sSeq (sFor (.nm 1) (iSeq (eVar 0)) (sSeq (sIf (dOr (dNot (dVal (eIsi "tuple" (eVar 1)))) (dVal (dAp (opSc dNe) [dAp (opSc dLen) [eVar 1], eC (.int 2)]))) (sRet (eC (.bool false))) (sNop)) (sIf (dOr (dNot (dVal (eIsi "bool" (dAp (opEl dIdx) [eVar 1, eC (.int 0)])))) (dNot (dVal (dAp (opCallX [false] g) [dAp (opEl dIdx) [eVar 1, eC (.int 1)]])))) (sRet (eC (.bool false))) (sNop)))) (sRet (eC (.bool true))))
def fn_law_truths : Nat → Fn
  | 0 => fun _ => .bad
  | k + 1 => runFn 1 2 (d_law_truths (fn_law_truths k))
def x_law_truths_b1 (gx : D → M Bool) (x_4 : D) (s_5 : Unit) : M (Lp Unit Bool) :=
M.bind (isiD "tuple" x_4) fun (b_6 : Bool) =>
M.bind (cond (!b_6) (.ok true) (M.bind (lenM x_4) fun (x_7 : Int) =>
.ok (!decide (x_7 = 2)))) fun (c_8 : Bool) =>
cond c_8 (.ok (.ex false)) (M.bind (idxD x_4 0) fun (x_9 : D) =>
M.bind (isiD "bool" x_9) fun (b_10 : Bool) =>
M.bind (cond (!b_10) (.ok true) (M.bind (idxD x_4 1) fun (x_11 : D) =>
M.bind (gx x_11) fun (r_12 : Bool) =>
.ok (!r_12))) fun (c_13 : Bool) =>
cond c_13 (.ok (.ex false)) (.ok (.nx ())))
def x_law_truths_ (gx : D → M Bool) (a_paper : D) : M Bool :=
M.bind (isiD "tuple" a_paper) fun (b_1 : Bool) =>
cond b_1 (M.bind (eqD a_paper (PySem.PyData.tuple [])) fun (q_2 : Bool) =>
.ok q_2) (M.bind (ofO (decL a_paper)) fun (paper_3 : (List D)) =>
M.orRet (forX (τ := Bool) (x_law_truths_b1 gx) paper_3 ()) fun (e_14 : Unit) =>
.ok true)
def x_law_truths : Nat → D → M Bool
  | 0 => fun _ => .bad
  | k + 1 => x_law_truths_ (x_law_truths k)
theorem t_law_truths_ (g : Fn) (gx : D → M Bool) (gs : ∀ (a_paper : D), SimF g [.v false a_paper] (gx a_paper) (fun (r : Bool) => .fz true (PySem.PyData.bool r)) (fun _ => [none])) (a_paper : D) : SimF (runFn 1 2 (d_law_truths g)) [.v false a_paper] (x_law_truths_ gx a_paper) (fun (r : Bool) => .fz true (PySem.PyData.bool r)) (fun _ => [none]) := by
  delta x_law_truths_ d_law_truths
  exact simF_def rfl (ws_seq (ws_if (wt_val (we_isiD (we_var rfl ⟨_, _, rfl, rfl, fun b_1 => ⟨_, rfl, ⟨_, _, rfl, (ws_ret (we_scM (fun v => PySem.PyData.bool v) (wa_cons (we_var rfl (wa_cons (we_tkF mono_tup (wa_nil ⟨_, _, _, _, rfl, rfl, (wa_nil ⟨_, _, rfl, _, rfl, ps_eqD a_paper (PySem.PyData.tuple []), fun q_2 => ⟨q_2, _, _, rfl, rfl, ltR, rfl, loR⟩⟩)⟩))))))), (ws_nop (ws_seq (ws_dec (eL eD) decL decL_ok rfl (fun paper_3 hx => by subst hx; exact (ws_forX (enc := eD) (wi_seq (we_var rfl ⟨_, _, _, _, rfl, ⟨(fun (s_5 : Unit) => [.fro false ((eL eD) paper_3), .pl]), _, _, _, _, rfl, rfl, (le_cons leR (le_cons (leP rfl) le_nil)), (fun x_4 s_5 => ⟨[.fro false ((eL eD) paper_3), .fro false x_4], rfl, (ws_seq (ws_if (wt_orM (wt_not (wt_val (we_isiD (we_var rfl ⟨_, _, rfl, rfl, fun b_6 => ⟨_, rfl, ⟨_, _, rfl, (wt_val (we_sc (wa_cons (we_scM (fun v => PySem.PyData.int v) (wa_cons (we_var rfl (wa_nil ⟨_, _, rfl, _, rfl, ps_lenD _, fun x_7 => (wa_cons (we_c (wa_nil ⟨_, _, rfl, (ne_op enc_int (by decide) x_7 2), ⟨_, rfl, ⟨rfl, rfl⟩⟩⟩)))⟩))))))), fun c_8 => ⟨_, _, rfl, (ws_ret (we_c ⟨_, _, rfl, rfl, ⟨false, _, _, rfl, rfl, ltR, rfl, loR⟩⟩)), (ws_nop (ws_if (wt_orM (wt_not (wt_val (we_isiD (we_elM (fun v => .fz false v) mono_idx (wa_cons (we_var rfl (wa_cons (we_c (wa_nil ⟨_, _, rfl, _, _, rfl, po_idxD x_4 0 _ _, fun x_9 => ⟨_, _, rfl, rfl, fun b_10 => ⟨_, rfl, ⟨_, _, rfl, (wt_not (wt_val (we_callX (wa_cons (we_elM (fun v => .fz false v) mono_idx (wa_cons (we_var rfl (wa_cons (we_c (wa_nil ⟨_, _, rfl, _, _, rfl, po_idxD x_4 1 _ _, fun x_11 => (wa_nil ⟨_, _, rfl, (fun _ => ⟨_, rfl, trivial⟩), _, rfl, rfl, gs x_11, fun r_12 => ⟨_, rfl, ⟨_, rfl, ⟨rfl, rfl⟩⟩⟩⟩)⟩)))))))))), fun c_13 => ⟨_, _, rfl, (ws_ret (we_c ⟨_, _, rfl, rfl, ⟨false, _, _, rfl, rfl, ltR, rfl, loR⟩⟩)), (ws_nop ⟨_, rfl, (le_cons leR (le_cons (leP rfl) le_nil))⟩)⟩⟩⟩⟩⟩))))))))))))⟩⟩⟩⟩)))))))⟩), fun e_14 => ⟨[.fro false ((eL eD) paper_3), .pl], rfl, (ws_ret (we_c ⟨true, _, _, rfl, rfl, ltR, rfl, loR⟩))⟩⟩⟩)))))))⟩⟩⟩)))))
theorem t_law_truths : ∀ (k : Nat) (a_paper : D), SimF (fn_law_truths k) [.v false a_paper] (x_law_truths k a_paper) (fun (r : Bool) => .fz true (PySem.PyData.bool r)) (fun _ => [none])
  | 0, _ => simF_bad
  | k + 1, a_paper => t_law_truths_ _ _ (t_law_truths k) a_paper
def fuel_law_apart : Nat := 8
def d_law_apart (g : Fn) : DS :=
  sSeq (sIf (dVal (eIsi "tuple" (eVar 0))) (sRet (eC (.bool true))) (sNop)) (sSeq (sIf (dVal (dAp (opSc dNe) [dAp (opSc dLen) [eVar 0], dAp (opEl dAdd) [eVar 1, eC (.int 1)]])) (sRet (eC (.bool false))) (sNop)) (sRet (dAp (opSc dEq) [eComp [2, 3] (.tp (.cons (.nm 2) (.cons (.nm 3) (.nil)))) (iSeq (dAp (opEl dCut01) [eVar 0, dAp (opSc dNeg) [eC (.int 1)]])) (dNot (dVal (dAp (opCallX [false, false] g) [eVar 3, eVar 1]))) (eVar 3), dAp (opTk dList) []])))
def fn_law_apart : Nat → Fn
  | 0 => fun _ => .bad
  | k + 1 => runFn 2 4 (d_law_apart (fn_law_apart k))
def x_law_apart_c1 (gx : D → Int → M Bool) (a_many : Int) (x_4 : (Bool × D)) : M (Option D) :=
M.bind (gx (x_4.2) a_many) fun (r_6 : Bool) =>
cond (!r_6) (.ok (some (x_4.2))) (.ok none)
def x_law_apart_ (gx : D → Int → M Bool) (a_paper : D) (a_many : Int) : M Bool :=
M.bind (isiD "tuple" a_paper) fun (b_1 : Bool) =>
cond b_1 (.ok true) (M.bind (lenM a_paper) fun (x_2 : Int) =>
cond (!decide (x_2 = (a_many + 1))) (.ok false) (M.bind (ofO (decBP a_paper)) fun (paper_3 : (List (Bool × D))) =>
M.bind (filU (β := D) (x_law_apart_c1 gx a_many) (cutL paper_3 none (some (-1)))) fun (ys_7 : (List D)) =>
M.bind (eqD ((eL eD) ys_7) (v0 ())) fun (q_8 : Bool) =>
.ok q_8))
def x_law_apart : Nat → D → Int → M Bool
  | 0 => fun _ _ => .bad
  | k + 1 => x_law_apart_ (x_law_apart k)
theorem t_law_apart_ (g : Fn) (gx : D → Int → M Bool) (gs : ∀ (a_paper : D) (a_many : Int), SimF g [.v false a_paper, .v false (PySem.PyData.int a_many)] (gx a_paper a_many) (fun (r : Bool) => .fz true (PySem.PyData.bool r)) (fun _ => [none, none])) (a_paper : D) (a_many : Int) : SimF (runFn 2 4 (d_law_apart g)) [.v false a_paper, .v false (PySem.PyData.int a_many)] (x_law_apart_ gx a_paper a_many) (fun (r : Bool) => .fz true (PySem.PyData.bool r)) (fun _ => [none, none]) := by
  delta x_law_apart_ d_law_apart
  exact simF_def rfl (ws_seq (ws_if (wt_val (we_isiD (we_var rfl ⟨_, _, rfl, rfl, fun b_1 => ⟨_, rfl, ⟨_, _, rfl, (ws_ret (we_c ⟨true, _, _, rfl, rfl, ltR, rfl, loR⟩)), (ws_nop (ws_seq (ws_if (wt_val (we_sc (wa_cons (we_scM (fun v => PySem.PyData.int v) (wa_cons (we_var rfl (wa_nil ⟨_, _, rfl, _, rfl, ps_lenD _, fun x_2 => (wa_cons (we_elF mono_add (wa_cons (we_var rfl (wa_cons (we_c (wa_nil ⟨_, _, _, _, rfl, rfl, (wa_nil ⟨_, _, rfl, (ne_op enc_int (by decide) x_2 (a_many + 1)), ⟨_, rfl, ⟨_, _, rfl, (ws_ret (we_c ⟨false, _, _, rfl, rfl, ltR, rfl, loR⟩)), (ws_nop (ws_dec (eL (e2 PySem.PyData.bool eD)) decBP decBP_ok rfl (fun paper_3 hx => by subst hx; exact (ws_ret (we_scM (fun v => PySem.PyData.bool v) (wa_cons (we_filU (enc := (e2 PySem.PyData.bool eD)) (enc2 := eD) (bt := false) (wi_seq (we_elN mono_cut01 (wa_cons (we_var rfl (wa_cons (we_sc (wa_cons (we_c (wa_nil ⟨_, _, rfl, rfl, (wa_nil ⟨_, _, _, _, rfl, el_cut01 (e2 PySem.PyData.bool eD) paper_3 (-1) _ _, ⟨_, _, _, _, rfl, ⟨[.fro false ((eL (e2 PySem.PyData.bool eD)) paper_3), .fro false (PySem.PyData.int a_many), .un, .un], _, _, _, rfl, rfl, rfl, (LeE.refl _), (fun x_4 => ⟨[.fro false ((eL (e2 PySem.PyData.bool eD)) paper_3), .fro false (PySem.PyData.int a_many), .fro false (PySem.PyData.bool (x_4.1)), .fro false (x_4.2)], rfl, (wt_not (wt_val (we_callX (wa_cons (we_var rfl (wa_cons (we_var rfl (wa_nil ⟨_, _, rfl, (fun _ => trivial), _, rfl, rfl, gs (x_4.2) a_many, fun r_6 => ⟨_, rfl, ⟨_, rfl, ⟨_, _, rfl, (fun _ => ⟨rfl, (LeE.refl _)⟩), fun _ => (we_var rfl ⟨_, _, rfl, rfl, (LeE.refl _)⟩)⟩⟩⟩⟩))))))))⟩), fun ys_7 => ⟨[.fro false ((eL (e2 PySem.PyData.bool eD)) paper_3), .fro false (PySem.PyData.int a_many), .un, .un], rfl, (wa_cons (we_tkN mono_list (wa_nil ⟨_, _, _, _, rfl, rfl, (wa_nil ⟨_, _, rfl, _, rfl, ps_eqD ((eL eD) ys_7) (v0 ()), fun q_8 => ⟨q_8, _, _, rfl, rfl, ltR, rfl, loR⟩⟩)⟩)))⟩⟩⟩⟩)⟩))))))))))))))))⟩⟩⟩)⟩)))))))⟩))))))))))⟩⟩⟩)))))
theorem t_law_apart : ∀ (k : Nat) (a_paper : D) (a_many : Int), SimF (fn_law_apart k) [.v false a_paper, .v false (PySem.PyData.int a_many)] (x_law_apart k a_paper a_many) (fun (r : Bool) => .fz true (PySem.PyData.bool r)) (fun _ => [none, none])
  | 0, _, _ => simF_bad
  | k + 1, a_paper, a_many => t_law_apart_ _ _ (t_law_apart k) a_paper a_many
def d_law : DS :=
  sSeq (sSet 1 (dAp (opCallX [false] fn_law_hand) [dAp (opEl dIdx) [dAp (opEl dAdd) [eVar 0, dAp (opTk dList) [dAp (opSc dPow) [eC (.int 10), eC (.int 18)]]], eC (.int 0)]])) (sSeq (sSet 2 (dAp (opTk dList) [eC (.int 2), eC (.int 3), eC (.int 4)])) (sSeq (sWhile (dVal (dAp (opSc dNe) [eVar 2, dAp (opTk dList) []])) (sSeq (sSet 3 (eMut 2 mPopAt [dAp (opCallX [true, false] fn_law_take) [eVar 1, dAp (opSc dLen) [eVar 2]]])) (sSeq (sSet 4 (dAp (opSc dSub) [dAp (opSc dDiv) [dAp (opEl dAdd) [dAp (opEl dMul) [eC (.int 3), eVar 3], eC (.int 1)], eC (.int 2)], eC (.int 3)])) (sFor (.nm 5) (iRange [eC (.int 2)]) (sSeq (sHd 6 fn_holding_paper [eVar 3]) (sSeq (sIf (dOr (dNot (dVal (eIsi2 "list" "tuple" (eVar 6)))) (dNot (dVal (dAp (opCallX [false] (fn_law_truths fuel_law_truths)) [eVar 6])))) (sRet (eC (.bool false))) (sNop)) (sSeq (sIf (dNot (dVal (dAp (opCallX [false, false, false, false] (fn_law_holds fuel_law_holds)) [eVar 3, eVar 4, eVar 6, dAp (opCallX [false, false] fn_law_sorts) [eVar 3, eVar 3]]))) (sRet (eC (.bool false))) (sNop)) (sIf (dOr (dNot (dVal (eChg 5 6))) (dNot (dVal (dAp (opCallX [false, false] (fn_law_apart fuel_law_apart)) [eVar 6, dAp (opSc dDiv) [dAp (opEl dMul) [eVar 3, dAp (opSc dSub) [eVar 3, eC (.int 1)]], eC (.int 2)]])))) (sRet (eC (.bool false))) (sNop))))))))) (sRet (eC (.bool true)))))
def fn_law : Fn := runFn 1 7 d_law
def x_law_b1 (many_8 : Int) (asks_9 : Int) (x_11 : Int) (s_12 : (Option D)) : M (Lp (Option D) (Lp ((Int × Int) × (List Int) × (Option D)) Bool)) :=
M.bind (M.nx (x_holding_paper many_8)) fun (o_23 : Option D) =>
M.bind (ofO o_23) fun (paper_13 : D) =>
M.bind (isi2D "list" "tuple" paper_13) fun (b_14 : Bool) =>
M.bind (cond (!b_14) (.ok true) (M.bind (x_law_truths fuel_law_truths paper_13) fun (r_15 : Bool) =>
.ok (!r_15))) fun (c_16 : Bool) =>
cond c_16 (.ok (.ex (.ex false))) (M.bind (x_law_sorts many_8 many_8) fun (r_17 : (List (List Int))) =>
M.bind (x_law_holds fuel_law_holds many_8 asks_9 paper_13 r_17) fun (r_18 : Bool) =>
cond (!r_18) (.ok (.ex (.ex false))) (M.bind (growM 5 paper_13) fun (p_19 : D) =>
M.bind (cond (!true) (.ok true) (M.bind (mulI many_8 (many_8 - 1)) fun (x_20 : Int) =>
M.bind (x_law_apart fuel_law_apart p_19 (x_20 / 2)) fun (r_21 : Bool) =>
.ok (!r_21))) fun (c_22 : Bool) =>
cond c_22 (.ok (.ex (.ex false))) (.ok (.nx (some p_19)))))
def x_law_w1t (s_5 : ((Int × Int) × (List Int) × (Option D))) : M Bool :=
 .ok (!(s_5.2.1).isEmpty)
def x_law_w1 (s_5 : ((Int × Int) × (List Int) × (Option D))) : M (Lp ((Int × Int) × (List Int) × (Option D)) Bool) :=
M.bind (M.nx (x_law_take (s_5.1) ((s_5.2.1).length : Int))) fun (r_6 : (Int × (Int × Int))) =>
M.bind (popAtL (s_5.2.1) (r_6.1)) fun (left_7 : (Int × (List Int))) =>
M.val (left_7.1) fun (many_8 : Int) =>
M.val ((((3 * many_8) + 1) / 2) - 3) fun (asks_9 : Int) =>
M.bind (rng1 2) fun (ks_10 : (List Int)) =>
M.orRet (forX (τ := (Lp ((Int × Int) × (List Int) × (Option D)) Bool)) (x_law_b1 many_8 asks_9) ks_10 (s_5.2.2)) fun (e_24 : (Option D)) =>
.ok (.nx (r_6.2, left_7.2, e_24))
def x_law (a_script : (List Int)) : M Bool :=
M.bind (cat a_script ([(10 ^ (18 : Int).toNat)] : (List Int))) fun (l_1 : (List Int)) =>
M.bind (idx l_1 0) fun (x_2 : Int) =>
M.bind (x_law_hand x_2) fun (r_3 : (Int × Int)) =>
M.val (2, 3, 4) fun (left_4 : (Int × Int × Int)) =>
M.orRet (whX (τ := Bool) x_law_w1t x_law_w1 fuelW (r_3, ([left_4.1, left_4.2.1, left_4.2.2] : (List Int)), none)) fun (e_25 : ((Int × Int) × (List Int) × (Option D))) =>
.ok true
theorem t_law (a_script : (List Int)) : SimF fn_law [.v false ((eL PySem.PyData.int) a_script)] (x_law a_script) (fun (r : Bool) => .fz true (PySem.PyData.bool r)) (fun _ => [none]) := by
  delta x_law fn_law d_law
  exact simF_def rfl (ws_seq (ws_set (we_callX (wa_cons (we_elM (fun v => .fz false (PySem.PyData.int v)) mono_idx (wa_cons (we_elM (fun (v : (List Int)) => .nw (false && true) (v.map PySem.PyData.int)) mono_add (wa_cons (we_var rfl (wa_cons (we_tkN mono_list (wa_cons (we_sc (wa_cons (we_c (wa_cons (we_c (wa_nil ⟨_, _, rfl, rfl, (wa_nil ⟨_, _, _, _, rfl, rfl, (wa_nil ⟨_, _, rfl, _, _, rfl, po_cat PySem.PyData.int a_script ([(10 ^ (18 : Int).toNat)] : (List Int)) _ _, fun l_1 => (wa_cons (we_c (wa_nil ⟨_, _, rfl, _, _, rfl, po_idx PySem.PyData.int l_1 0 _ _, fun x_2 => (wa_nil ⟨_, _, rfl, (fun _ => trivial), _, rfl, rfl, t_law_hand x_2, fun r_3 => ⟨_, unX_nw _, ⟨[.fro false ((eL PySem.PyData.int) a_script), .own false true [(PySem.PyData.int (r_3.1)), (PySem.PyData.int (r_3.2))], .un, .un, .un, .un, .un], rfl, (ws_seq (ws_setV (α := (Int × Int × Int)) (fun v => .nw true [(PySem.PyData.int (v.1)), (PySem.PyData.int (v.2.1)), (PySem.PyData.int (v.2.2))]) (we_tkN mono_list (wa_cons (we_c (wa_cons (we_c (wa_cons (we_c (wa_nil ⟨_, _, _, _, rfl, rfl, ⟨_, _, rfl, rfl, fun left_4 => ⟨[.fro false ((eL PySem.PyData.int) a_script), .own false true [(PySem.PyData.int (r_3.1)), (PySem.PyData.int (r_3.2))], .own false true [(PySem.PyData.int (left_4.1)), (PySem.PyData.int (left_4.2.1)), (PySem.PyData.int (left_4.2.2))], .un, .un, .un, .un], rfl, (ws_seq (ws_while (fun (s_5 : ((Int × Int) × (List Int) × (Option D))) => [.fro false ((eL PySem.PyData.int) a_script), .own false true [(PySem.PyData.int ((s_5.1).1)), (PySem.PyData.int ((s_5.1).2))], .own false true ((s_5.2.1).map PySem.PyData.int), .pl, .pl, .pl, sdU (s_5.2.2)]) rfl (le_cons leR (le_cons leR (le_cons leR (le_cons (leP rfl) (le_cons (leP rfl) (le_cons (leP rfl) (le_cons leR le_nil))))))) (fun s_5 => (wt_val (we_sc (wa_cons (we_var rfl (wa_cons (we_tkN mono_list (wa_nil ⟨_, _, _, _, rfl, rfl, (wa_nil ⟨_, _, rfl, (nenil_op enc_int (by decide) (s_5.2.1)), ⟨_, rfl, ⟨rfl, rfl⟩⟩⟩)⟩)))))))) (fun s_5 => (ws_seq (ws_setV (α := Int) (fun v => .fz true (PySem.PyData.int v)) (we_mut (fun v => (true, v.2.map PySem.PyData.int, true, PySem.PyData.int v.1)) mmono_popAt rfl (wa_cons (we_callM (wa_cons (we_var rfl (wa_cons (we_sc (wa_cons (we_var rfl (wa_nil ⟨_, _, rfl, len_op PySem.PyData.int (s_5.2.1), (wa_nil ⟨_, _, rfl, _, _, _, _, rfl, rfl, t_law_take (s_5.1) ((s_5.2.1).length : Int), fun r_6 => ⟨_, [.fro false ((eL PySem.PyData.int) a_script), .own false true [(PySem.PyData.int ((r_6.2).1)), (PySem.PyData.int ((r_6.2).2))], .own false true ((s_5.2.1).map PySem.PyData.int), .pl, .pl, .pl, sdU (s_5.2.2)], rfl, rfl, (wa_nil ⟨_, _, rfl, _, _, _, _, _, rfl, rfl, pm_popAt PySem.PyData.int (s_5.2.1) (r_6.1) _ _, fun left_7 => ⟨_, _, rfl, rfl, fun many_8 => ⟨[.fro false ((eL PySem.PyData.int) a_script), .own false true [(PySem.PyData.int ((r_6.2).1)), (PySem.PyData.int ((r_6.2).2))], .own false true ((left_7.2).map PySem.PyData.int), .fro true (PySem.PyData.int many_8), .pl, .pl, sdU (s_5.2.2)], rfl, (ws_seq (ws_setV (α := Int) (fun v => .fz true (PySem.PyData.int v)) (we_sc (wa_cons (we_sc (wa_cons (we_elF mono_add (wa_cons (we_elF mono_mul (wa_cons (we_c (wa_cons (we_var rfl (wa_nil ⟨_, _, _, _, rfl, mul_lit _ _ _ _ (small_l (by decide)), (wa_cons (we_c (wa_nil ⟨_, _, _, _, rfl, rfl, (wa_cons (we_c (wa_nil ⟨_, _, rfl, (div_lit _ _ (by decide)), (wa_cons (we_c (wa_nil ⟨_, _, rfl, rfl, ⟨_, _, rfl, rfl, fun asks_9 => ⟨[.fro false ((eL PySem.PyData.int) a_script), .own false true [(PySem.PyData.int ((r_6.2).1)), (PySem.PyData.int ((r_6.2).2))], .own false true ((left_7.2).map PySem.PyData.int), .fro true (PySem.PyData.int many_8), .fro true (PySem.PyData.int asks_9), .pl, sdU (s_5.2.2)], rfl, (ws_forX (enc := PySem.PyData.int) (wi_range1 (wa_cons (we_c (wa_nil ⟨_, _, rfl, rfl, fun ks_10 => ⟨(fun (s_12 : (Option D)) => [.fro false ((eL PySem.PyData.int) a_script), .own false true [(PySem.PyData.int ((r_6.2).1)), (PySem.PyData.int ((r_6.2).2))], .own false true ((left_7.2).map PySem.PyData.int), .fro true (PySem.PyData.int many_8), .fro true (PySem.PyData.int asks_9), .pl, sdU s_12]), _, _, _, _, rfl, rfl, (LeE.refl _), (fun x_11 s_12 => ⟨[.fro false ((eL PySem.PyData.int) a_script), .own false true [(PySem.PyData.int ((r_6.2).1)), (PySem.PyData.int ((r_6.2).2))], .own false true ((left_7.2).map PySem.PyData.int), .fro true (PySem.PyData.int many_8), .fro true (PySem.PyData.int asks_9), .fro true (PySem.PyData.int x_11), sdU s_12], rfl, (ws_seq (ws_hdS (wa_cons (we_var rfl (wa_nil ⟨_, _, _, rfl, rfl, t_holding_paper many_8, (.inr (.inl ⟨_, rfl⟩)), fun paper_13 => (ws_seq (ws_if (wt_orM (wt_not (wt_val (we_isi2D (we_varOb rfl ⟨_, _, rfl, rfl, fun b_14 => ⟨_, rfl, ⟨_, _, rfl, (wt_not (wt_val (we_callX (wa_cons (we_varOb rfl (wa_nil ⟨_, _, rfl, (fun _ => ⟨_, rfl, trivial⟩), _, rfl, rfl, t_law_truths fuel_law_truths paper_13, fun r_15 => ⟨_, rfl, ⟨_, rfl, ⟨rfl, rfl⟩⟩⟩⟩)))))), fun c_16 => ⟨_, _, rfl, (ws_ret (we_c ⟨_, _, rfl, rfl, ⟨_, _, rfl, rfl, ⟨false, _, _, rfl, rfl, ltR, rfl, loR⟩⟩⟩)), (ws_nop (ws_seq (ws_if (wt_not (wt_val (we_callX (wa_cons (we_var rfl (wa_cons (we_var rfl (wa_cons (we_varOb rfl (wa_cons (we_callX (wa_cons (we_var rfl (wa_cons (we_var rfl (wa_nil ⟨_, _, rfl, (fun _ => ⟨_, rfl, trivial⟩), _, rfl, rfl, t_law_sorts many_8 many_8, fun r_17 => ⟨_, rfl, (wa_nil ⟨_, _, rfl, (fun _ => ⟨_, rfl, trivial⟩), _, rfl, rfl, t_law_holds fuel_law_holds many_8 asks_9 paper_13 r_17, fun r_18 => ⟨_, rfl, ⟨_, rfl, ⟨_, _, rfl, (ws_ret (we_c ⟨_, _, rfl, rfl, ⟨_, _, rfl, rfl, ⟨false, _, _, rfl, rfl, ltR, rfl, loR⟩⟩⟩)), (ws_nop (ws_if (wt_orM (wt_not (wt_val (we_chg rfl rfl fun p_19 => ⟨_, rfl, ⟨_, _, rfl, (wt_not (wt_val (we_callX (wa_cons (we_varOb rfl (wa_cons (we_sc (wa_cons (we_elM (fun v => .fz true (PySem.PyData.int v)) mono_mul (wa_cons (we_var rfl (wa_cons (we_sc (wa_cons (we_var rfl (wa_cons (we_c (wa_nil ⟨_, _, rfl, rfl, (wa_nil ⟨_, _, rfl, _, _, rfl, po_mulI _ _ _ _, fun x_20 => (wa_cons (we_c (wa_nil ⟨_, _, rfl, (div_lit _ _ (by decide)), (wa_nil ⟨_, _, rfl, (fun _ => ⟨_, rfl, trivial⟩), _, rfl, rfl, t_law_apart fuel_law_apart p_19 (x_20 / 2), fun r_21 => ⟨_, rfl, ⟨_, rfl, ⟨rfl, rfl⟩⟩⟩⟩)⟩)))⟩)⟩)))))))))))))))))), fun c_22 => ⟨_, _, rfl, (ws_ret (we_c ⟨_, _, rfl, rfl, ⟨_, _, rfl, rfl, ⟨false, _, _, rfl, rfl, ltR, rfl, loR⟩⟩⟩)), (ws_nop ⟨_, rfl, (le_cons leR (le_cons leR (le_cons leR (le_cons leR (le_cons leR (le_cons (leP rfl) (le_cons leR le_nil)))))))⟩)⟩⟩⟩))))))⟩⟩⟩⟩)⟩⟩)))))))))))))))))))⟩⟩⟩⟩)))))))⟩)))))⟩), fun e_24 => ⟨[.fro false ((eL PySem.PyData.int) a_script), .own false true [(PySem.PyData.int ((r_6.2).1)), (PySem.PyData.int ((r_6.2).2))], .own false true ((left_7.2).map PySem.PyData.int), .fro true (PySem.PyData.int many_8), .fro true (PySem.PyData.int asks_9), .pl, sdU e_24], rfl, ⟨_, rfl, (le_cons leR (le_cons leR (le_cons leR (le_cons (leP rfl) (le_cons (leP rfl) (le_cons leR (le_cons leR le_nil)))))))⟩⟩⟩⟩)))))⟩⟩⟩)))⟩)))⟩)))⟩))))))))))))))⟩⟩⟩)⟩⟩)⟩))))))))))))) (fun e_25 => (ws_ret (we_c ⟨true, _, _, rfl, rfl, ltR, rfl, loR⟩)))))⟩⟩⟩))))))))))⟩⟩⟩)⟩)))⟩)⟩)⟩))))))))))))))))))

end
end Mk24
namespace LbB
open DL TS LbP
theorem b2i_small (b : Bool) : -(2 ^ 64) < b2i b ∧ b2i b < 2 ^ 64 := by cases b <;> decide
theorem hand_ok (c : Int) : ∃ p, x_law_hand c = .ok p := by
  unfold x_law_hand
  rw [mulI_r (b2i_small _).1 (b2i_small _).2]
  exact ⟨_, rfl⟩
theorem powM_ok {i j : Int} (h1 : 0 ≤ j) (h2 : j ≤ 1000) (h3 : -(2 ^ 60) < i) (h4 : i < 2 ^ 60) : powM i j = .ok (i ^ j.toNat) := by
  simp only [powM, decide_eq_true h1, decide_eq_true h2, decide_eq_true h3, decide_eq_true h4, Bool.and_self]
theorem take_ok (p : Int × Int) {m : Int} (h : 0 < m) (h2 : m < 2 ^ 128) : ∃ r p', x_law_take p m = .ok (r, p') ∧ 0 ≤ r ∧ r < m := by
  obtain ⟨a, b⟩ := p
  unfold x_law_take
  by_cases ha : 0 < a
  · refine ⟨a % m, (a / m, b), ?_, Int.emod_nonneg _ (by omega), Int.emod_lt_of_pos _ h⟩
    simp [ha, modM_ok h, divM_ok h h2]
  · have m1 : powM (b * 48271 % 2147483647 + 1) 7 = .ok ((b * 48271 % 2147483647 + 1) ^ (7 : Int).toNat) := powM_ok (by decide) (by decide) (by omega) (by omega)
    simp only [decide_eq_false ha, cond_false, val_eq, m1, bind_ok, modM_ok h]
    exact ⟨_, _, rfl, Int.emod_nonneg _ (by omega), Int.emod_lt_of_pos _ h⟩
theorem take_nat (p : Int × Int) {m : Nat} (h : 0 < m) (h2 : m ≤ 16777216) : ∃ r p', x_law_take p m = .ok (r, p') ∧ 0 ≤ r ∧ r < m := take_ok p (by omega) (by omega)
end LbB
namespace Mk24
open DL TS LbB LbP LbH LbT
def pap : M (Lp (Option D) (Lp ((Int × Int) × (List Int) × (Option D)) Bool)) → Option D
  | .ok (.nx (some d)) => some d
  | _ => none
theorem pap_eq {m : M (Lp (Option D) (Lp ((Int × Int) × (List Int) × (Option D)) Bool))} (h : (pap m).isSome = true) : ∃ d, m = .ok (.nx (some d)) := by
  unfold pap at h
  split at h
  · exact ⟨_, rfl⟩
  · cases h
theorem b2 : (pap (x_law_b1 2 0 0 none)).isSome = true := by kernel_rfl
theorem b3 : (pap (x_law_b1 3 2 0 none)).isSome = true := by kernel_rfl
theorem b4 : (pap (x_law_b1 4 3 0 none)).isSome = true := by kernel_rfl
theorem b_any {m a : Int} (h : (pap (x_law_b1 m a 0 none)).isSome = true) : ∃ d, ∀ x s, x_law_b1 m a x s = .ok (.nx (some d)) := by
  obtain ⟨d, e⟩ := pap_eq h
  exact ⟨d, fun x s => (show x_law_b1 m a x s = x_law_b1 m a 0 none from rfl).trans e⟩
theorem body_ok {m : Int} (h1 : 2 ≤ m) (h2 : m ≤ 4) : ∃ d, ∀ x s, x_law_b1 m ((3 * m + 1) / 2 - 3) x s = .ok (.nx (some d)) := by
  have hm : m = 2 ∨ m = 3 ∨ m = 4 := by omega
  rcases hm with rfl | rfl | rfl
  · exact b_any b2
  · exact b_any b3
  · exact b_any b4
theorem turn1 (p p' : Int × Int) (left l' : List Int) (r m : Int) (o : Option D) (e1 : x_law_take p (left.length : Int) = .ok (r, p')) (e2 : popAtL left r = .ok (m, l')) (h1 : 2 ≤ m) (h2 : m ≤ 4) : ∃ o', x_law_w1 (p, left, o) = .ok (.nx (p', l', o')) := by
  obtain ⟨d, hd⟩ := body_ok h1 h2
  refine ⟨some d, ?_⟩
  unfold x_law_w1
  simp only [e1, nx_ok, bind_ok, e2, val_eq]
  rw [show rng1 2 = .ok [0, 1] from rfl, bind_ok]
  simp only [forX, hd]
  rfl
theorem loop : ∀ (n k : Nat) (p : Int × Int) (left : List Int) (o : Option D), left.length = n → n < k → n ≤ 100 → (∀ x ∈ left, 2 ≤ x ∧ x ≤ 4) → ∃ p' o', whX x_law_w1t x_law_w1 k (p, left, o) = .ok (.inl (p', [], o'))
  | 0, k + 1, p, left, o, h, _, _, _ => by
    obtain rfl := List.eq_nil_of_length_eq_zero h
    exact ⟨p, o, by simp [whX, x_law_w1t]⟩
  | n + 1, k + 1, p, left, o, h, hk, hc, ha => by
    obtain ⟨r, p', e1, r0, r1⟩ := take_nat p (m := left.length) (by omega) (by omega)
    obtain ⟨m, e2, e3⟩ := popAt_ok (xs := left) r0 r1 (by omega)
    have hm := ha m (List.mem_of_getElem? e3)
    obtain ⟨o1, e5⟩ := turn1 p p' left _ r m o e1 e2 hm.1 hm.2
    obtain ⟨p2, o2, e4⟩ := loop n k p' (left.eraseIdx r.toNat) o1 (by rw [List.length_eraseIdx]; split <;> omega) (by omega) (by omega) fun x hx => ha x (List.mem_of_mem_eraseIdx hx)
    refine ⟨p2, o2, ?_⟩
    have ht : x_law_w1t (p, left, o) = .ok true := by
      unfold x_law_w1t
      cases left with
      | nil => cases h
      | cons _ _ => rfl
    simp only [whX, ht, e5, e4]
theorem law_true (ns : List Int) (hl : ns.length ≤ 63) : x_law ns = .ok true := by
  unfold x_law
  obtain ⟨c, e1, _⟩ := idx_ex (xs := ns ++ [(10 ^ (18 : Int).toNat : Int)]) (i := 0) (by decide) (by simp)
  obtain ⟨p, e2⟩ := hand_ok c
  obtain ⟨p', o', e3⟩ := loop 3 fuelW p [2, 3, 4] none rfl (by decide) (by decide) (by decide)
  rw [cat_ok (by simp; omega), bind_ok, e1, bind_ok, e2, bind_ok, val_eq]
  simp only [e3]
  kernel_rfl
theorem law_pure (ns : List Int) (hl : ns.length ≤ 63) : ∃ outs, fn_law [.v false (.list (ns.map PySem.PyData.int))] = .ok (.fz true (.bool true)) outs := simF_law (t_law ns) (law_true ns hl)
end Mk24
namespace Mk24
open PySem PySem.Spec PyProof.Rows L2 DL LbB LbH LbP LbT
def topS (i : Nat) : Stmt := PySem.Challenge.pw_morethanhalf_k24_holding_papers_told.main.body.getD i (.Pass ⟨0, 0, 0, 0⟩)
abbrev s_law_hand : Stmt := topS 25
theorem sc_law_hand : FnScope ["cell"] ["cell"] (defScope s_law_hand) := ⟨rfl, rfl, rfl, by decide +kernel, rfl, by decide +kernel, by decide +kernel⟩
abbrev s_law_take : Stmt := topS 26
theorem sc_law_take : FnScope ["hand", "many", "taken"] ["hand", "many"] (defScope s_law_take) := ⟨rfl, rfl, rfl, by decide +kernel, rfl, by decide +kernel, by decide +kernel⟩
abbrev s_need_held : Stmt := topS 18
theorem sc_need_held : FnScope ["many"] ["many"] (defScope s_need_held) := ⟨rfl, rfl, rfl, by decide +kernel, rfl, by decide +kernel, by decide +kernel⟩
abbrev s_fitting_to : Stmt := topS 21
theorem sc_fitting_to : FnScope ["fitting", "i", "j", "alike", "sorts"] ["fitting", "i", "j", "alike"] (defScope s_fitting_to) := ⟨rfl, rfl, rfl, by decide +kernel, rfl, by decide +kernel, by decide +kernel⟩
abbrev s_by_kind : Stmt := topS 6
theorem sc_by_kind : FnScope ["kinds", "found", "thing", "kind"] ["kinds"] (defScope s_by_kind) := ⟨rfl, rfl, rfl, by decide +kernel, rfl, by decide +kernel, by decide +kernel⟩
abbrev s_more_than_half : Stmt := topS 7
theorem sc_more_than_half : FnScope ["kinds", "things"] ["kinds"] (defScope s_more_than_half) := ⟨rfl, rfl, rfl, by decide +kernel, rfl, by decide +kernel, by decide +kernel⟩
abbrev s_is_open : Stmt := topS 19
theorem sc_is_open : FnScope ["fitting", "halves", "sorts", "things", "thing"] ["fitting"] (defScope s_is_open) := ⟨rfl, rfl, rfl, by decide +kernel, rfl, by decide +kernel, by decide +kernel⟩
abbrev s_held : Stmt := topS 22
theorem sc_held : FnScope ["pairs", "asks", "fitting", "found", "i", "j", "under", "alike", "left", "truth"] ["pairs", "asks", "fitting"] (defScope s_held) := ⟨rfl, rfl, rfl, by decide +kernel, rfl, by decide +kernel, by decide +kernel⟩
abbrev s_pairs_of : Stmt := topS 20
theorem sc_pairs_of : FnScope ["many", "found", "i", "j"] ["many"] (defScope s_pairs_of) := ⟨rfl, rfl, rfl, by decide +kernel, rfl, by decide +kernel, by decide +kernel⟩
abbrev s_all_sorts : Stmt := topS 8
theorem sc_all_sorts : FnScope ["many", "most", "found", "thing", "longer", "sorts", "beyond", "kind"] ["many", "most"] (defScope s_all_sorts) := ⟨rfl, rfl, rfl, by decide +kernel, rfl, by decide +kernel, by decide +kernel⟩
abbrev s_need_some : Stmt := topS 12
theorem sc_need_some : FnScope ["many", "most"] ["many", "most"] (defScope s_need_some) := ⟨rfl, rfl, rfl, by decide +kernel, rfl, by decide +kernel, by decide +kernel⟩
abbrev s_looking : Stmt := topS 13
theorem sc_looking : FnScope ["row", "heap", "taken", "alike", "unlike"] ["row", "heap", "taken"] (defScope s_looking) := ⟨rfl, rfl, rfl, by decide +kernel, rfl, by decide +kernel, by decide +kernel⟩
abbrev s_laying : Stmt := topS 14
theorem sc_laying : FnScope ["many", "thing", "row", "heap", "alike", "unlike"] ["many", "thing", "row", "heap"] (defScope s_laying) := ⟨rfl, rfl, rfl, by decide +kernel, rfl, by decide +kernel, by decide +kernel⟩
abbrev s_depth : Stmt := topS 11
theorem sc_depth : FnScope ["tree"] ["tree"] (defScope s_depth) := ⟨rfl, rfl, rfl, by decide +kernel, rfl, by decide +kernel, by decide +kernel⟩
abbrev s_fewest : Stmt := topS 15
theorem sc_fewest : FnScope ["many", "tree"] ["many"] (defScope s_fewest) := ⟨rfl, rfl, rfl, by decide +kernel, rfl, by decide +kernel, by decide +kernel⟩
abbrev s_holding_paper : Stmt := topS 23
theorem sc_holding_paper : FnScope ["many"] ["many"] (defScope s_holding_paper) := ⟨rfl, rfl, rfl, by decide +kernel, rfl, by decide +kernel, by decide +kernel⟩
abbrev s_law_all_pairs : Stmt := topS 30
theorem sc_law_all_pairs : FnScope ["many", "found", "i", "j"] ["many"] (defScope s_law_all_pairs) := ⟨rfl, rfl, rfl, by decide +kernel, rfl, by decide +kernel, by decide +kernel⟩
abbrev s_law_half : Stmt := topS 28
theorem sc_law_half : FnScope ["sorts", "kind", "thing"] ["sorts"] (defScope s_law_half) := ⟨rfl, rfl, rfl, by decide +kernel, rfl, by decide +kernel, by decide +kernel⟩
abbrev s_law_open : Stmt := topS 29
theorem sc_law_open : FnScope ["left", "halves", "sure", "sorts", "half", "thing"] ["left"] (defScope s_law_open) := ⟨rfl, rfl, rfl, by decide +kernel, rfl, by decide +kernel, by decide +kernel⟩
abbrev s_law_holds : Stmt := topS 31
theorem sc_law_holds : FnScope ["many", "asks", "paper", "left", "pairs", "k", "i", "j", "alike", "under", "rest", "sorts"] ["many", "asks", "paper", "left"] (defScope s_law_holds) := ⟨rfl, rfl, rfl, by decide +kernel, rfl, by decide +kernel, by decide +kernel⟩
abbrev s_law_truths : Stmt := topS 32
theorem sc_law_truths : FnScope ["paper", "one"] ["paper"] (defScope s_law_truths) := ⟨rfl, rfl, rfl, by decide +kernel, rfl, by decide +kernel, by decide +kernel⟩
abbrev s_law_sorts : Stmt := topS 27
theorem sc_law_sorts : FnScope ["many", "most", "found", "thing", "longer", "sorts", "kind"] ["many", "most"] (defScope s_law_sorts) := ⟨rfl, rfl, rfl, by decide +kernel, rfl, by decide +kernel, by decide +kernel⟩
abbrev s_law_changed : Stmt := topS 33
theorem sc_law_changed : FnScope ["paper", "many", "alike", "under"] ["paper"] (defScope s_law_changed) := ⟨rfl, rfl, rfl, by decide +kernel, rfl, by decide +kernel, by decide +kernel⟩
abbrev s_law_apart : Stmt := topS 34
theorem sc_law_apart : FnScope ["paper", "many", "alike", "under"] ["paper", "many"] (defScope s_law_apart) := ⟨rfl, rfl, rfl, by decide +kernel, rfl, by decide +kernel, by decide +kernel⟩
abbrev s_law : Stmt := topS 35
theorem sc_law : FnScope ["script", "hand", "left", "many", "asks", "again", "paper"] ["script"] (defScope s_law) := ⟨rfl, rfl, rfl, by decide +kernel, rfl, by decide +kernel, by decide +kernel⟩
structure Top (K : PySem.W.Frag) (mg : Str → Option Value) (cm : String → Addr) where
  a_law_hand : Addr
  fd_law_hand : FuncData
  F_law_hand : Fun K "_law_hand" "_law_hand" s_law_hand a_law_hand fd_law_hand
  g_law_hand : mg "_law_hand" = some (.ref a_law_hand)
  b_law_hand : Binds K fd_law_hand ["cell"] []
  a_law_take : Addr
  fd_law_take : FuncData
  F_law_take : Fun K "_law_take" "_law_take" s_law_take a_law_take fd_law_take
  g_law_take : mg "_law_take" = some (.ref a_law_take)
  b_law_take : Binds K fd_law_take ["hand", "many"] []
  a_need_held : Addr
  fd_need_held : FuncData
  F_need_held : Fun K "need_held" "need_held" s_need_held a_need_held fd_need_held
  g_need_held : mg "need_held" = some (.ref a_need_held)
  b_need_held : Binds K fd_need_held ["many"] []
  a_fitting_to : Addr
  fd_fitting_to : FuncData
  F_fitting_to : Fun K "fitting_to" "fitting_to" s_fitting_to a_fitting_to fd_fitting_to
  g_fitting_to : mg "fitting_to" = some (.ref a_fitting_to)
  b_fitting_to : Binds K fd_fitting_to ["fitting", "i", "j", "alike"] []
  a_by_kind : Addr
  fd_by_kind : FuncData
  F_by_kind : Fun K "by_kind" "by_kind" s_by_kind a_by_kind fd_by_kind
  g_by_kind : mg "by_kind" = some (.ref a_by_kind)
  b_by_kind : Binds K fd_by_kind ["kinds"] []
  a_more_than_half : Addr
  fd_more_than_half : FuncData
  F_more_than_half : Fun K "more_than_half" "more_than_half" s_more_than_half a_more_than_half fd_more_than_half
  g_more_than_half : mg "more_than_half" = some (.ref a_more_than_half)
  b_more_than_half : Binds K fd_more_than_half ["kinds"] []
  a_is_open : Addr
  fd_is_open : FuncData
  F_is_open : Fun K "is_open" "is_open" s_is_open a_is_open fd_is_open
  g_is_open : mg "is_open" = some (.ref a_is_open)
  b_is_open : Binds K fd_is_open ["fitting"] []
  a_held : Addr
  fd_held : FuncData
  F_held : Fun K "held" "held" s_held a_held fd_held
  g_held : mg "held" = some (.ref a_held)
  b_held : Binds K fd_held ["pairs", "asks", "fitting"] []
  a_pairs_of : Addr
  fd_pairs_of : FuncData
  F_pairs_of : Fun K "pairs_of" "pairs_of" s_pairs_of a_pairs_of fd_pairs_of
  g_pairs_of : mg "pairs_of" = some (.ref a_pairs_of)
  b_pairs_of : Binds K fd_pairs_of ["many"] []
  a_all_sorts : Addr
  fd_all_sorts : FuncData
  F_all_sorts : Fun K "all_sorts" "all_sorts" s_all_sorts a_all_sorts fd_all_sorts
  g_all_sorts : mg "all_sorts" = some (.ref a_all_sorts)
  b_all_sorts : Binds K fd_all_sorts ["many", "most"] []
  a_need_some : Addr
  fd_need_some : FuncData
  F_need_some : Fun K "need_some" "need_some" s_need_some a_need_some fd_need_some
  g_need_some : mg "need_some" = some (.ref a_need_some)
  b_need_some : Binds K fd_need_some ["many", "most"] []
  a_looking : Addr
  fd_looking : FuncData
  F_looking : Fun K "looking" "looking" s_looking a_looking fd_looking
  g_looking : mg "looking" = some (.ref a_looking)
  b_looking : Binds K fd_looking ["row", "heap", "taken"] []
  a_laying : Addr
  fd_laying : FuncData
  F_laying : Fun K "laying" "laying" s_laying a_laying fd_laying
  g_laying : mg "laying" = some (.ref a_laying)
  b_laying : Binds K fd_laying ["many", "thing", "row", "heap"] []
  a_depth : Addr
  fd_depth : FuncData
  F_depth : Fun K "depth" "depth" s_depth a_depth fd_depth
  g_depth : mg "depth" = some (.ref a_depth)
  b_depth : Binds K fd_depth ["tree"] []
  a_fewest : Addr
  fd_fewest : FuncData
  F_fewest : Fun K "fewest" "fewest" s_fewest a_fewest fd_fewest
  g_fewest : mg "fewest" = some (.ref a_fewest)
  b_fewest : Binds K fd_fewest ["many"] []
  a_holding_paper : Addr
  fd_holding_paper : FuncData
  F_holding_paper : Fun K "holding_paper" "holding_paper" s_holding_paper a_holding_paper fd_holding_paper
  g_holding_paper : mg "holding_paper" = some (.ref a_holding_paper)
  b_holding_paper : Binds K fd_holding_paper ["many"] []
  a_law_all_pairs : Addr
  fd_law_all_pairs : FuncData
  F_law_all_pairs : Fun K "_law_all_pairs" "_law_all_pairs" s_law_all_pairs a_law_all_pairs fd_law_all_pairs
  g_law_all_pairs : mg "_law_all_pairs" = some (.ref a_law_all_pairs)
  b_law_all_pairs : Binds K fd_law_all_pairs ["many"] []
  a_law_half : Addr
  fd_law_half : FuncData
  F_law_half : Fun K "_law_half" "_law_half" s_law_half a_law_half fd_law_half
  g_law_half : mg "_law_half" = some (.ref a_law_half)
  b_law_half : Binds K fd_law_half ["sorts"] []
  a_law_open : Addr
  fd_law_open : FuncData
  F_law_open : Fun K "_law_open" "_law_open" s_law_open a_law_open fd_law_open
  g_law_open : mg "_law_open" = some (.ref a_law_open)
  b_law_open : Binds K fd_law_open ["left"] []
  a_law_holds : Addr
  fd_law_holds : FuncData
  F_law_holds : Fun K "_law_holds" "_law_holds" s_law_holds a_law_holds fd_law_holds
  g_law_holds : mg "_law_holds" = some (.ref a_law_holds)
  b_law_holds : Binds K fd_law_holds ["many", "asks", "paper", "left"] []
  a_law_truths : Addr
  fd_law_truths : FuncData
  F_law_truths : Fun K "_law_truths" "_law_truths" s_law_truths a_law_truths fd_law_truths
  g_law_truths : mg "_law_truths" = some (.ref a_law_truths)
  b_law_truths : Binds K fd_law_truths ["paper"] []
  a_law_sorts : Addr
  fd_law_sorts : FuncData
  F_law_sorts : Fun K "_law_sorts" "_law_sorts" s_law_sorts a_law_sorts fd_law_sorts
  g_law_sorts : mg "_law_sorts" = some (.ref a_law_sorts)
  b_law_sorts : Binds K fd_law_sorts ["many", "most"] []
  a_law_changed : Addr
  fd_law_changed : FuncData
  F_law_changed : Fun K "_law_changed" "_law_changed" s_law_changed a_law_changed fd_law_changed
  g_law_changed : mg "_law_changed" = some (.ref a_law_changed)
  b_law_changed : Binds K fd_law_changed ["paper"] []
  a_law_apart : Addr
  fd_law_apart : FuncData
  F_law_apart : Fun K "_law_apart" "_law_apart" s_law_apart a_law_apart fd_law_apart
  g_law_apart : mg "_law_apart" = some (.ref a_law_apart)
  b_law_apart : Binds K fd_law_apart ["paper", "many"] []
  a_law : Addr
  fd_law : FuncData
  F_law : Fun K "law" "law" s_law a_law fd_law
  g_law : mg "law" = some (.ref a_law)
  b_law : Binds K fd_law ["script"] []
  z_bool : mg "bool" = none
  z_enumerate : mg "enumerate" = none
  z_int : mg "int" = none
  z_isinstance : mg "isinstance" = none
  z_len : mg "len" = none
  z_list : mg "list" = none
  z_max : mg "max" = none
  z_min : mg "min" = none
  z_range : mg "range" = none
  z_tuple : mg "tuple" = none
  tk_MOST_ANY : Nat
  c_MOST_ANY : mg "MOST_ANY" = some (.int (5) tk_MOST_ANY)
  tk_MOST_HELD : Nat
  c_MOST_HELD : mg "MOST_HELD" = some (.int (4) tk_MOST_HELD)
  tk_MOST_THINGS : Nat
  c_MOST_THINGS : mg "MOST_THINGS" = some (.int (7) tk_MOST_THINGS)
  m_NoThing : mg "NoThing" = some (.ref (cm "NoThing"))
  x_NoThing : PySem.W.excIn K (cm "NoThing") [.type "ValueError", .type "Exception", .type "BaseException", .type "object"] "ValueError.__new__" = true
  kp_NoThing : PySem.W.keepIn K (.ref (cm "NoThing")) = true
  bs_NoThing : PySem.W.subIn K (.ref (cm "NoThing")) (.type "BaseException") = some true
  ty_NoThing : PySem.W.typeIn K (.ref (cm "NoThing")) = some (.type "type")
  m_TooMany : mg "TooMany" = some (.ref (cm "TooMany"))
  x_TooMany : PySem.W.excIn K (cm "TooMany") [.type "ValueError", .type "Exception", .type "BaseException", .type "object"] "ValueError.__new__" = true
  kp_TooMany : PySem.W.keepIn K (.ref (cm "TooMany")) = true
  bs_TooMany : PySem.W.subIn K (.ref (cm "TooMany")) (.type "BaseException") = some true
  ty_TooMany : PySem.W.typeIn K (.ref (cm "TooMany")) = some (.type "type")
section
variable {P : Program} {w : World} {K : PySem.W.Frag} {mg : Str → Option Value} {base : Heap} {cm : String → Addr}
theorem ok_law_hand (T : Top K mg cm) : FnOk P w K mg base (L2.CX P w) 1 T.a_law_hand T.fd_law_hand ["cell"] (spD cm fn_law_hand) :=
  fn_ok T.F_law_hand sc_law_hand fun cdv A outer s0 H E hr =>
    g_one (gs_ret (ge_list (ga_cons (ge_cbS (call_max2 (by rfl)) sc_max2 (by rfl) T.z_max (by decide +kernel) (ga_cons (ge_int) (ga_cons (ge_sub (gv 0) (ge_pow (ge_int) (ge_int))) ga_nil))) (ga_cons (ge_mul (ge_add (ge_mod (gv 0) (ge_int)) (ge_int)) (ge_ctS call_int1 sc_int1 (by rfl) T.z_int (by decide +kernel) (ga_cons (ge_ne hr.units (gv 0) (ge_pow (ge_int) (ge_int))) ga_nil))) ga_nil))))
theorem ok_law_take (T : Top K mg cm) : FnOk P w K mg base (L2.CX P w) 1 T.a_law_take T.fd_law_take ["hand", "many"] (spD cm fn_law_take) :=
  fn_ok T.F_law_take sc_law_take fun cdv A outer s0 H E hr =>
    g_cons (gs_if (gt_gt (ge_idx (fun _ _ => rfl) (gv 0) (ge_int)) (ge_int)) (g_cons (gs_set (i := 2) sc_law_take.nd rfl (by first | exact Or.inl rfl | exact Or.inr rfl) (ge_mod (ge_idx (fun _ _ => rfl) (gv 0) (ge_int)) (gv 1))) (g_cons (gs_setIx 0 (ge_div (ge_idx (fun _ _ => rfl) (gv 0) (ge_int)) (gv 1)) (gv 0) (ge_int)) (g_one (gs_ret (gv 2))))) (g_nil)) (g_cons (gs_setIx 0 (ge_mod (ge_mul (ge_idx (fun _ _ => rfl) (gv 0) (ge_int)) (ge_int)) (ge_int)) (gv 0) (ge_int)) (g_one (gs_ret (ge_mod (ge_div (ge_pow (ge_add (ge_idx (fun _ _ => rfl) (gv 0) (ge_int)) (ge_int)) (ge_int)) (ge_int)) (gv 1)))))
theorem ok_need_held (T : Top K mg cm) : FnOk P w K mg base (L2.CX P w) 1 T.a_need_held T.fd_need_held ["many"] (spD cm fn_need_held) :=
  fn_ok T.F_need_held sc_need_held fun cdv A outer s0 H E hr =>
    g_cons (gs_if (gt_lt (gv 0) (ge_int)) (g_one (gs_raise (c := "NoThing") rfl (takes_of rfl rfl rfl rfl) (pmk_own PySem.F.excBase_ValueError T.x_NoThing T.m_NoThing T.kp_NoThing (raises_own T.bs_NoThing T.ty_NoThing) (by rfl)))) (g_nil)) (g_one (gs_if (gt_gt (gv 0) (ge_glob (v := .int (4)) (by rfl) T.c_MOST_HELD ⟨_, rfl⟩ (.int _))) (g_one (gs_raise (c := "TooMany") rfl (takes_of rfl rfl rfl rfl) (pmk_own PySem.F.excBase_ValueError T.x_TooMany T.m_TooMany T.kp_TooMany (raises_own T.bs_TooMany T.ty_TooMany) (by rfl)))) (g_nil)))
theorem ok_fitting_to (T : Top K mg cm) : FnOk P w K mg base (L2.CX P w) 1 T.a_fitting_to T.fd_fitting_to ["fitting", "i", "j", "alike"] (spD cm fn_fitting_to) :=
  fn_ok T.F_fitting_to sc_fitting_to fun cdv A outer s0 H E hr =>
    g_one (gs_ret (ge_comp (own := [("sorts", 4)]) (t := .nm 4) (by rfl) sc_fitting_to.nd (gi_seq (gv 0)) (blkOk_by (own := [("sorts", 4)]) (N := ["fitting", "i", "j", "alike", "sorts"]) (sc := defScope s_fitting_to) (by decide +kernel)) (fun _ _ _ _ _ => gg_name (i := 4) sc_fitting_to.nd rfl (by first | exact Or.inl rfl | exact Or.inr rfl)) (fun _ _ _ _ _ => gts_one (gt_eq hr.units (ge_eq hr.units (ge_idx (fun _ _ => rfl) (gv 4) (gv 1)) (ge_idx (fun _ _ => rfl) (gv 4) (gv 2))) (gv 3))) (fun _ _ _ _ _ => gv 4)))
theorem ok_by_kind (T : Top K mg cm) : FnOk P w K mg base (L2.CX P w) 1 T.a_by_kind T.fd_by_kind ["kinds"] (spD cm fn_by_kind) :=
  by_kind_ok T.F_by_kind sc_by_kind fun cdv A outer s0 H E hr =>
    pss_cons (ps_set (i := 1) sc_by_kind.nd rfl (by first | exact Or.inl rfl | exact Or.inr rfl) pe_dnewK)
    (pss_cons (ps_for (passes_of rfl) (by rfl) (pi_enum (by rfl) T.z_enumerate (pa_cons (pv 0) pa_nil)) (pg_tup (by rfl) (pgs_cons (pg_name (i := 2) sc_by_kind.nd rfl (by first | exact Or.inl rfl | exact Or.inr rfl)) (pgs_cons (pg_name (i := 3) sc_by_kind.nd rfl (by first | exact Or.inl rfl | exact Or.inr rfl)) pgs_nil)))
      (pss_cons (ps_if (pt_cmp (pc_dnotin (hu_of hr) (pv 3) (pv 1))) (pss_one (ps_dput (hu_of hr) (pv 1) (pv 3) (pe_lst pa_nil) (by rfl))) pss_nil)
      (pss_one (ps_expr (pe_bm PySem.F.plainAttrs_list PySem.F.slot_list_append PySem.F.type_list_append mt_append (pe_dget (hu_of hr) (pv 1) (pv 3) (fun _ _ => rfl)) (pa_cons (pv 2) pa_nil))))))
    (pss_one (ps_ret (pe_listVals (by rfl) (pv 1) (by rfl) T.z_list (by decide +kernel)))))
theorem ok_more_than_half (T : Top K mg cm) : FnOk P w K mg base (L2.CX P w) 2 T.a_more_than_half T.fd_more_than_half ["kinds"] (spD cm fn_more_than_half) :=
  fn_ok T.F_more_than_half sc_more_than_half fun cdv A outer s0 H E hr =>
    g_cons (gs_for (t := .nm 1) (passes_of rfl) (by rfl) (gi_seq (ge_callX (ok_by_kind T) (hr.mono (by decide)) (by rfl) T.g_by_kind T.F_by_kind.kp T.b_by_kind (takes_of rfl rfl rfl rfl) (ga_cons (gv 0) ga_nil))) (gg_name (i := 1) sc_more_than_half.nd rfl (by first | exact Or.inl rfl | exact Or.inr rfl)) (g_one (gs_if (gt_gt (ge_mul (ge_int) (ge_cbS call_len sc_len (by rfl) T.z_len PySem.boot_len (ga_cons (gv 1) ga_nil))) (ge_cbS call_len sc_len (by rfl) T.z_len PySem.boot_len (ga_cons (gv 0) ga_nil))) (g_one (gs_retF (gv 1))) (g_nil)))) (g_one (gs_retF (ge_list ga_nil)))
theorem ok_is_open (T : Top K mg cm) : FnOk P w K mg base (L2.CX P w) 3 T.a_is_open T.fd_is_open ["fitting"] (spD cm fn_is_open) :=
  fn_ok T.F_is_open sc_is_open fun cdv A outer s0 H E hr =>
    g_cons (gs_set (i := 1) sc_is_open.nd rfl (by first | exact Or.inl rfl | exact Or.inr rfl) (ge_comp (own := [("sorts", 2)]) (t := .nm 2) (by rfl) sc_is_open.nd (gi_seq (gv 0)) (blkOk_by (own := [("sorts", 2)]) (N := ["fitting", "halves", "sorts", "things", "thing"]) (sc := defScope s_is_open) (by decide +kernel)) (fun _ _ _ _ _ => gg_name (i := 2) sc_is_open.nd rfl (by first | exact Or.inl rfl | exact Or.inr rfl)) (fun _ _ _ _ _ => gts_nil) (fun _ _ _ _ _ => ge_callX (ok_more_than_half T) (hr.mono (by decide)) (by rfl) T.g_more_than_half T.F_more_than_half.kp T.b_more_than_half takes0 (ga_cons (gv 2) ga_nil)))) (g_cons (gs_if (gt_eq hr.units (ge_comp (own := [("things", 3)]) (t := .nm 3) (by rfl) sc_is_open.nd (gi_seq (gv 1)) (blkOk_by (own := [("things", 3)]) (N := ["fitting", "halves", "sorts", "things", "thing"]) (sc := defScope s_is_open) (by decide +kernel)) (fun _ _ _ _ _ => gg_name (i := 3) sc_is_open.nd rfl (by first | exact Or.inl rfl | exact Or.inr rfl)) (fun _ _ _ _ _ => gts_one (gt_ne hr.units (gv 3) (ge_list ga_nil))) (fun _ _ _ _ _ => gv 3)) (ge_list ga_nil)) (g_one (gs_ret (ge_bl))) (g_nil)) (g_one (gs_ret (ge_eq hr.units (ge_comp (own := [("thing", 4)]) (t := .nm 4) (by rfl) sc_is_open.nd (gi_seq (ge_idx (fun _ _ => rfl) (gv 1) (ge_int))) (blkOk_by (own := [("thing", 4)]) (N := ["fitting", "halves", "sorts", "things", "thing"]) (sc := defScope s_is_open) (by decide +kernel)) (fun _ _ _ _ _ => gg_name (i := 4) sc_is_open.nd rfl (by first | exact Or.inl rfl | exact Or.inr rfl)) (fun _ _ _ _ _ => gts_one (gt_eq hr.units (ge_comp (own := [("things", 3)]) (t := .nm 3) (by rfl) sc_is_open.nd (gi_seq (gv 1)) (blkOk_by (own := [("things", 3)]) (by first | decide +kernel | rfl)) (fun _ _ _ _ _ => gg_name (i := 3) sc_is_open.nd rfl (by first | exact Or.inl rfl | exact Or.inr rfl)) (fun _ _ _ _ _ => gts_one (gt_notIn (hu65 hr) (by rfl) (gv 4) (gv 3))) (fun _ _ _ _ _ => gv 3)) (ge_list ga_nil))) (fun _ _ _ _ _ => gv 4)) (ge_list ga_nil)))))
theorem ok_held (T : Top K mg cm) : ∀ k, FnOk P w K mg base (L2.CX P w) (3 + k + 1) T.a_held T.fd_held ["pairs", "asks", "fitting"] (spHd cm (fn_held k))
  | 0 => fn_noneHd
  | k + 1 => by
    have G : FnOk P w K mg base (L2.CX P w) (3 + k + 1) T.a_held T.fd_held ["pairs", "asks", "fitting"] (spHd cm (fn_held k)) := ok_held T k
    generalize hg : fn_held k = g at G
    show FnOk P w K mg base (L2.CX P w) (3 + k + 1 + 1) T.a_held T.fd_held ["pairs", "asks", "fitting"] (spHd cm (runHd 3 10 (d_held (fn_held k))))
    rw [hg]
    exact fn_okHd T.F_held sc_held fun cdv A outer s0 H E hr =>
      g_cons (gs_if (gt_eq hr.units (gv 1) (ge_int)) (g_one (gs_retF (ge_idx (fun _ _ => rfl) (ge_list (ga_cons (ge_non) (ga_cons (ge_tuple ga_nil) ga_nil))) (ge_ctS call_int1 sc_int1 (by rfl) T.z_int (by decide +kernel) (ga_cons (ge_callX (ok_is_open T) (hr.mono (Nat.le_trans (by decide : 3 ≤ 3) (Nat.le_trans (Nat.le_add_right _ _) (Nat.le_succ _)))) (by rfl) T.g_is_open T.F_is_open.kp T.b_is_open (takes_of rfl rfl rfl rfl) (ga_cons (gv 2) ga_nil)) ga_nil))))) (g_nil)) (g_cons (gs_ppNil (i := 3) sc_held.nd rfl (by first | exact Or.inl rfl | exact Or.inr rfl) (pe_lst pa_nil)) (g_cons (gs_for (t := .tp (.cons (.nm 4) (.cons (.nm 5) (.nil)))) (passes_of rfl) (by rfl) (gi_seq (gv 0)) (gg_tup (by rfl) (gg_cons (gg_name (i := 4) sc_held.nd rfl (by first | exact Or.inl rfl | exact Or.inr rfl)) (gg_cons (gg_name (i := 5) sc_held.nd rfl (by first | exact Or.inl rfl | exact Or.inr rfl)) (gg_nil)))) (g_cons (gs_set (i := 6) sc_held.nd rfl (by first | exact Or.inl rfl | exact Or.inr rfl) (ge_non)) (g_cons (gs_for (t := .nm 7) (passes_of rfl) (by rfl) (gi_seq (ge_list (ga_cons (ge_bl) (ga_cons (ge_bl) ga_nil)))) (gg_name (i := 7) sc_held.nd rfl (by first | exact Or.inl rfl | exact Or.inr rfl)) (g_cons (gs_set (i := 8) sc_held.nd rfl (by first | exact Or.inl rfl | exact Or.inr rfl) (ge_call (ok_fitting_to T) (hr.mono (Nat.le_trans (by decide : 1 ≤ 3) (Nat.le_trans (Nat.le_add_right _ _) (Nat.le_succ _)))) (by rfl) T.g_fitting_to T.F_fitting_to.kp T.b_fitting_to (takes_of rfl rfl rfl rfl) (ga_cons (gv 2) (ga_cons (gv 4) (ga_cons (gv 5) (ga_cons (gv 7) ga_nil)))))) (g_one (gs_if ((gw_and (gt_noOb (pt_cmp (pc_isN (gvr 6)))) (gw_and1 (gt_ne hr.units (gv 8) (ge_list ga_nil)))).pt) (g_cons (ge_hd (i := 6) sc_held.nd rfl (by first | exact Or.inl rfl | exact Or.inr rfl) G hr (by rfl) T.g_held T.F_held.kp T.b_held (takes_of rfl rfl rfl rfl) (ga_cons (gv 0) (ga_cons (ge_sub (gv 1) (ge_int)) (ga_cons (gv 8) ga_nil)))) (g_one (gs_set (i := 9) sc_held.nd rfl (by first | exact Or.inl rfl | exact Or.inr rfl) (gv 7)))) (g_nil))))) (g_cons (gs_if (gt_noOb (pt_cmp (pc_isN (gvr 6)))) (g_one (gs_retF (ge_non))) (g_nil)) (g_one (gs_ppApp (ps_expr (pe_bm PySem.F.plainAttrs_list PySem.F.slot_list_append PySem.F.type_list_append mt_append (gvr 3) (pa_cons (pe_tup (pa_cons (gvr 9) (pa_cons (gvr 6) pa_nil))) pa_nil))))))))) (g_one (gs_ret (gv 3)))))
theorem ok_pairs_of (T : Top K mg cm) : FnOk P w K mg base (L2.CX P w) 1 T.a_pairs_of T.fd_pairs_of ["many"] (spD cm fn_pairs_of) :=
  fn_ok T.F_pairs_of sc_pairs_of fun cdv A outer s0 H E hr =>
    g_cons (gs_set (i := 1) sc_pairs_of.nd rfl (by first | exact Or.inl rfl | exact Or.inr rfl) (ge_list ga_nil)) (g_cons (gs_for (t := .nm 2) (passes_of rfl) (by rfl) (gi_range1 (by rfl) T.z_range (ga_cons (gv 0) ga_nil)) (gg_name (i := 2) sc_pairs_of.nd rfl (by first | exact Or.inl rfl | exact Or.inr rfl)) (g_one (gs_expr (ge_extend 1 (gv 1) (ga_cons (ge_comp (own := [("j", 3)]) (t := .nm 3) (by rfl) sc_pairs_of.nd (gi_range2 (by rfl) T.z_range (ga_cons (ge_add (gv 2) (ge_int)) (ga_cons (gv 0) ga_nil))) (blkOk_by (own := [("j", 3)]) (N := ["many", "found", "i", "j"]) (sc := defScope s_pairs_of) (by decide +kernel)) (fun _ _ _ _ _ => gg_name (i := 3) sc_pairs_of.nd rfl (by first | exact Or.inl rfl | exact Or.inr rfl)) (fun _ _ _ _ _ => gts_nil) (fun _ _ _ _ _ => ge_tuple (ga_cons (gv 2) (ga_cons (gv 3) ga_nil)))) ga_nil))))) (g_one (gs_ret (gv 1))))
theorem ok_all_sorts (T : Top K mg cm) : FnOk P w K mg base (L2.CX P w) 1 T.a_all_sorts T.fd_all_sorts ["many", "most"] (spD cm fn_all_sorts) :=
  fn_ok T.F_all_sorts sc_all_sorts fun cdv A outer s0 H E hr =>
    g_cons (gs_if (gt_not (gt_chain op_le op_le (ge_int) (gv 0) (ge_glob (v := .int (7)) (by rfl) T.c_MOST_THINGS ⟨_, rfl⟩ (.int _)))) (g_one (gs_raise (c := "TooMany") rfl (takes_of rfl rfl rfl rfl) (pmk_own PySem.F.excBase_ValueError T.x_TooMany T.m_TooMany T.kp_TooMany (raises_own T.bs_TooMany T.ty_TooMany) (by rfl)))) (g_nil)) (g_cons (gs_set (i := 2) sc_all_sorts.nd rfl (by first | exact Or.inl rfl | exact Or.inr rfl) (ge_fz (ge_list (ga_cons (ge_list ga_nil) ga_nil)))) (g_cons (gs_for (t := .nm 3) (passes_of rfl) (by rfl) (gi_range1 (by rfl) T.z_range (ga_cons (gv 0) ga_nil)) (gg_name (i := 3) sc_all_sorts.nd rfl (by first | exact Or.inl rfl | exact Or.inr rfl)) (g_cons (gs_set (i := 4) sc_all_sorts.nd rfl (by first | exact Or.inl rfl | exact Or.inr rfl) (ge_list ga_nil)) (g_cons (gs_for (t := .nm 5) (passes_of rfl) (by rfl) (gi_seq (gv 2)) (gg_name (i := 5) sc_all_sorts.nd rfl (by first | exact Or.inl rfl | exact Or.inr rfl)) (g_cons (gs_set (i := 6) sc_all_sorts.nd rfl (by first | exact Or.inl rfl | exact Or.inr rfl) (ge_cbS (call_min2 (by rfl)) sc_min2 (by rfl) T.z_min (by decide +kernel) (ga_cons (ge_add (ge_maxDf (by rfl) (hu65 hr) (by rfl) T.z_max (gv 5) (ge_neg (ge_int))) (ge_int)) (ga_cons (gv 1) ga_nil)))) (g_one (gs_expr (ge_extend 4 (gv 4) (ga_cons (ge_comp (own := [("kind", 7)]) (t := .nm 7) (by rfl) sc_all_sorts.nd (gi_range1 (by rfl) T.z_range (ga_cons (gv 6) ga_nil)) (blkOk_by (own := [("kind", 7)]) (N := ["many", "most", "found", "thing", "longer", "sorts", "beyond", "kind"]) (sc := defScope s_all_sorts) (by decide +kernel)) (fun _ _ _ _ _ => gg_name (i := 7) sc_all_sorts.nd rfl (by first | exact Or.inl rfl | exact Or.inr rfl)) (fun _ _ _ _ _ => gts_nil) (fun _ _ _ _ _ => ge_add (gv 5) (ge_list (ga_cons (gv 7) ga_nil)))) ga_nil)))))) (g_one (gs_set (i := 2) sc_all_sorts.nd rfl (by first | exact Or.inl rfl | exact Or.inr rfl) (ge_fz (gv 4))))))) (g_one (gs_ret (gv 2)))))
theorem ok_need_some (T : Top K mg cm) : FnOk P w K mg base (L2.CX P w) 1 T.a_need_some T.fd_need_some ["many", "most"] (spD cm fn_need_some) :=
  fn_ok T.F_need_some sc_need_some fun cdv A outer s0 H E hr =>
    g_cons (gs_if (gt_lt (gv 0) (ge_int)) (g_one (gs_raise (c := "NoThing") rfl (takes_of rfl rfl rfl rfl) (pmk_own PySem.F.excBase_ValueError T.x_NoThing T.m_NoThing T.kp_NoThing (raises_own T.bs_NoThing T.ty_NoThing) (by rfl)))) (g_nil)) (g_one (gs_if (gt_gt (gv 0) (gv 1)) (g_one (gs_raise (c := "TooMany") rfl (takes_of rfl rfl rfl rfl) (pmk_own PySem.F.excBase_ValueError T.x_TooMany T.m_TooMany T.kp_TooMany (raises_own T.bs_TooMany T.ty_TooMany) (by rfl)))) (g_nil)))
theorem ok_looking (T : Top K mg cm) : ∀ k, FnOk P w K mg base (L2.CX P w) (0 + k + 1) T.a_looking T.fd_looking ["row", "heap", "taken"] (spD cm (fn_looking k))
  | 0 => fn_none T.F_looking sc_looking
  | k + 1 => by
    have G : FnOk P w K mg base (L2.CX P w) (0 + k + 1) T.a_looking T.fd_looking ["row", "heap", "taken"] (spD cm (fn_looking k)) := ok_looking T k
    generalize hg : fn_looking k = g at G
    show FnOk P w K mg base (L2.CX P w) (0 + k + 1 + 1) T.a_looking T.fd_looking ["row", "heap", "taken"] (spD cm (runFn 3 5 (d_looking (fn_looking k))))
    rw [hg]
    exact fn_ok T.F_looking sc_looking fun cdv A outer s0 H E hr =>
      g_cons (gs_if (gt_eq hr.units (gv 0) (ge_list ga_nil)) (g_one (gs_ret (ge_idx (fun _ _ => rfl) (ge_list (ga_cons (ge_tuple (ga_cons (ge_str) (ga_cons (gv 2) ga_nil))) (ga_cons (ge_tuple (ga_cons (ge_str) ga_nil)) ga_nil))) (ge_ctS call_int1 sc_int1 (by rfl) T.z_int (by decide +kernel) (ga_cons (ge_eq hr.units (gv 1) (ge_list ga_nil)) ga_nil))))) (g_nil)) (g_cons (gs_set (i := 3) sc_looking.nd rfl (by first | exact Or.inl rfl | exact Or.inr rfl) (ge_tuple (ga_cons (ge_str) (ga_cons (gv 2) ga_nil)))) (g_cons (gs_if (gt_gt (ge_cbS call_len sc_len (by rfl) T.z_len PySem.boot_len (ga_cons (gv 0) ga_nil)) (ge_int)) (g_one (gs_set (i := 3) sc_looking.nd rfl (by first | exact Or.inl rfl | exact Or.inr rfl) (ge_call G hr (by rfl) T.g_looking T.F_looking.kp T.b_looking (takes_of rfl rfl rfl rfl) (ga_cons (ge_cut01 (gv 0) (ge_neg (ge_int))) (ga_cons (gv 1) (ga_cons (gv 2) ga_nil)))))) (g_nil)) (g_cons (gs_if (gt_eq hr.units (ge_idx (fun _ _ => rfl) (gv 0) (ge_neg (ge_int))) (gv 2)) (g_one (gs_ret (gv 3))) (g_nil)) (g_cons (gs_set (i := 4) sc_looking.nd rfl (by first | exact Or.inl rfl | exact Or.inr rfl) (ge_tuple (ga_cons (ge_str) ga_nil))) (g_cons (gs_if (gt_ne hr.units (gv 1) (ge_list ga_nil)) (g_one (gs_set (i := 4) sc_looking.nd rfl (by first | exact Or.inl rfl | exact Or.inr rfl) (ge_call G hr (by rfl) T.g_looking T.F_looking.kp T.b_looking (takes_of rfl rfl rfl rfl) (ga_cons (ge_cut01 (gv 0) (ge_neg (ge_int))) (ga_cons (ge_cut01 (gv 1) (ge_neg (ge_int))) (ga_cons (gv 2) ga_nil)))))) (g_nil)) (g_one (gs_ret (ge_tuple (ga_cons (ge_str) (ga_cons (gv 2) (ga_cons (ge_idx (fun _ _ => rfl) (gv 0) (ge_neg (ge_int))) (ga_cons (gv 3) (ga_cons (gv 4) ga_nil)))))))))))))
theorem ok_laying (T : Top K mg cm) : ∀ k, FnOk P w K mg base (L2.CX P w) (11 + k + 1) T.a_laying T.fd_laying ["many", "thing", "row", "heap"] (spD cm (fn_laying k))
  | 0 => fn_none T.F_laying sc_laying
  | k + 1 => by
    have G : FnOk P w K mg base (L2.CX P w) (11 + k + 1) T.a_laying T.fd_laying ["many", "thing", "row", "heap"] (spD cm (fn_laying k)) := ok_laying T k
    generalize hg : fn_laying k = g at G
    show FnOk P w K mg base (L2.CX P w) (11 + k + 1 + 1) T.a_laying T.fd_laying ["many", "thing", "row", "heap"] (spD cm (runFn 4 6 (d_laying (fn_laying k))))
    rw [hg]
    exact fn_ok T.F_laying sc_laying fun cdv A outer s0 H E hr =>
      g_cons (gs_if (gt_eq hr.units (gv 1) (gv 0)) (g_one (gs_ret (ge_call (ok_looking T fuel_looking) (hr.mono (Nat.le_trans (by decide : 11 ≤ 11) (Nat.le_trans (Nat.le_add_right _ _) (Nat.le_succ _)))) (by rfl) T.g_looking T.F_looking.kp T.b_looking (takes_of rfl rfl rfl rfl) (ga_cons (gv 2) (ga_cons (gv 3) (ga_cons (ge_idx (fun _ _ => rfl) (gv 2) (ge_neg (ge_int))) ga_nil)))))) (g_nil)) (g_cons (gs_set (i := 4) sc_laying.nd rfl (by first | exact Or.inl rfl | exact Or.inr rfl) (ge_call G hr (by rfl) T.g_laying T.F_laying.kp T.b_laying (takes_of rfl rfl rfl rfl) (ga_cons (gv 0) (ga_cons (ge_add (gv 1) (ge_int)) (ga_cons (gv 2) (ga_cons (ge_add (gv 3) (ge_list (ga_cons (gv 1) ga_nil))) ga_nil)))))) (g_cons (gs_set (i := 5) sc_laying.nd rfl (by first | exact Or.inl rfl | exact Or.inr rfl) (ge_call G hr (by rfl) T.g_laying T.F_laying.kp T.b_laying (takes_of rfl rfl rfl rfl) (ga_cons (gv 0) (ga_cons (ge_add (gv 1) (ge_int)) (ga_cons (ge_add (ge_add (gv 2) (ge_list (ga_cons (gv 1) ga_nil))) (ge_cut10 (gv 3) (ge_neg (ge_int)))) (ga_cons (ge_cut01 (gv 3) (ge_neg (ge_int))) ga_nil)))))) (g_one (gs_ret (ge_tuple (ga_cons (ge_str) (ga_cons (ge_idx (fun _ _ => rfl) (gv 2) (ge_neg (ge_int))) (ga_cons (gv 1) (ga_cons (gv 4) (ga_cons (gv 5) ga_nil))))))))))
theorem ok_depth (T : Top K mg cm) : ∀ k, FnOk P w K mg base (L2.CX P w) (0 + k + 1) T.a_depth T.fd_depth ["tree"] (spD cm (fn_depth k))
  | 0 => fn_none T.F_depth sc_depth
  | k + 1 => by
    have G : FnOk P w K mg base (L2.CX P w) (0 + k + 1) T.a_depth T.fd_depth ["tree"] (spD cm (fn_depth k)) := ok_depth T k
    generalize hg : fn_depth k = g at G
    show FnOk P w K mg base (L2.CX P w) (0 + k + 1 + 1) T.a_depth T.fd_depth ["tree"] (spD cm (runFn 1 1 (d_depth (fn_depth k))))
    rw [hg]
    exact fn_ok T.F_depth sc_depth fun cdv A outer s0 H E hr =>
      g_cons (gs_if (gt_ne hr.units (ge_idx (fun _ _ => rfl) (gv 0) (ge_int)) (ge_str)) (g_one (gs_ret (ge_int))) (g_nil)) (g_one (gs_ret (ge_add (ge_int) (ge_cbS (call_max2 (by rfl)) sc_max2 (by rfl) T.z_max (by decide +kernel) (ga_cons (ge_callX G hr (by rfl) T.g_depth T.F_depth.kp T.b_depth (takes_of rfl rfl rfl rfl) (ga_cons (ge_idx (fun _ _ => rfl) (gv 0) (ge_int)) ga_nil)) (ga_cons (ge_callX G hr (by rfl) T.g_depth T.F_depth.kp T.b_depth (takes_of rfl rfl rfl rfl) (ga_cons (ge_idx (fun _ _ => rfl) (gv 0) (ge_int)) ga_nil)) ga_nil))))))
theorem ok_fewest (T : Top K mg cm) : FnOk P w K mg base (L2.CX P w) 132 T.a_fewest T.fd_fewest ["many"] (spD cm fn_fewest) :=
  fn_ok T.F_fewest sc_fewest fun cdv A outer s0 H E hr =>
    g_cons (gs_expr (ge_callX (ok_need_some T) (hr.mono (by decide)) (by rfl) T.g_need_some T.F_need_some.kp T.b_need_some (takes_of rfl rfl rfl rfl) (ga_cons (gv 0) (ga_cons (ge_glob (v := .int (5)) (by rfl) T.c_MOST_ANY ⟨_, rfl⟩ (.int _)) ga_nil)))) (g_cons (gs_set (i := 1) sc_fewest.nd rfl (by first | exact Or.inl rfl | exact Or.inr rfl) (ge_call (ok_laying T fuel_laying) (hr.mono (by decide)) (by rfl) T.g_laying T.F_laying.kp T.b_laying (takes_of rfl rfl rfl rfl) (ga_cons (gv 0) (ga_cons (ge_int) (ga_cons (ge_list (ga_cons (ge_int) ga_nil)) (ga_cons (ge_list ga_nil) ga_nil)))))) (g_one (gs_ret (ge_tuple (ga_cons (ge_callX (ok_depth T fuel_depth) (hr.mono (by decide)) (by rfl) T.g_depth T.F_depth.kp T.b_depth (takes_of rfl rfl rfl rfl) (ga_cons (gv 1) ga_nil)) (ga_cons (gv 1) ga_nil))))))
theorem ok_holding_paper (T : Top K mg cm) : FnOk P w K mg base (L2.CX P w) 133 T.a_holding_paper T.fd_holding_paper ["many"] (spHd cm fn_holding_paper) :=
  fn_okHc T.F_holding_paper sc_holding_paper fun cdv A outer s0 H E hr =>
    pss_cons (gs_expr (ge_callX (ok_need_held T) (hr.mono (by decide)) (by rfl) T.g_need_held T.F_need_held.kp T.b_need_held (takes_of rfl rfl rfl rfl) (ga_cons (gv 0) ga_nil))) (pss_one (ps_ret (pe_callS (ok_held T fuel_held) (hr.mono (by decide)) (by rfl) T.g_held T.F_held.kp T.b_held (fun σ => passAt (takes_of rfl rfl rfl rfl) σ) (ga_cons (ge_callX (ok_pairs_of T) (hr.mono (by decide)) (by rfl) T.g_pairs_of T.F_pairs_of.kp T.b_pairs_of (takes_of rfl rfl rfl rfl) (ga_cons (gv 0) ga_nil)) (ga_cons (ge_sub (ge_idx (fun _ _ => rfl) (ge_call (ok_fewest T) (hr.mono (by decide)) (by rfl) T.g_fewest T.F_fewest.kp T.b_fewest (takes_of rfl rfl rfl rfl) (ga_cons (gv 0) ga_nil)) (ge_int)) (ge_int)) (ga_cons (ge_callX (ok_all_sorts T) (hr.mono (by decide)) (by rfl) T.g_all_sorts T.F_all_sorts.kp T.b_all_sorts (takes_of rfl rfl rfl rfl) (ga_cons (gv 0) (ga_cons (gv 0) ga_nil))) ga_nil))))))
theorem ok_law_all_pairs (T : Top K mg cm) : FnOk P w K mg base (L2.CX P w) 1 T.a_law_all_pairs T.fd_law_all_pairs ["many"] (spD cm fn_law_all_pairs) :=
  fn_ok T.F_law_all_pairs sc_law_all_pairs fun cdv A outer s0 H E hr =>
    g_cons (gs_set (i := 1) sc_law_all_pairs.nd rfl (by first | exact Or.inl rfl | exact Or.inr rfl) (ge_list ga_nil)) (g_cons (gs_for (t := .nm 2) (passes_of rfl) (by rfl) (gi_range1 (by rfl) T.z_range (ga_cons (gv 0) ga_nil)) (gg_name (i := 2) sc_law_all_pairs.nd rfl (by first | exact Or.inl rfl | exact Or.inr rfl)) (g_one (gs_set (i := 1) sc_law_all_pairs.nd rfl (by first | exact Or.inl rfl | exact Or.inr rfl) (ge_add (gv 1) (ge_comp (own := [("j", 3)]) (t := .nm 3) (by rfl) sc_law_all_pairs.nd (gi_range2 (by rfl) T.z_range (ga_cons (ge_add (gv 2) (ge_int)) (ga_cons (gv 0) ga_nil))) (blkOk_by (own := [("j", 3)]) (N := ["many", "found", "i", "j"]) (sc := defScope s_law_all_pairs) (by decide +kernel)) (fun _ _ _ _ _ => gg_name (i := 3) sc_law_all_pairs.nd rfl (by first | exact Or.inl rfl | exact Or.inr rfl)) (fun _ _ _ _ _ => gts_nil) (fun _ _ _ _ _ => ge_tuple (ga_cons (gv 2) (ga_cons (gv 3) ga_nil)))))))) (g_one (gs_ret (gv 1))))
theorem ok_law_half (T : Top K mg cm) : FnOk P w K mg base (L2.CX P w) 1 T.a_law_half T.fd_law_half ["sorts"] (spD cm fn_law_half) :=
  fn_ok T.F_law_half sc_law_half fun cdv A outer s0 H E hr =>
    g_cons (gs_for (t := .nm 1) (passes_of rfl) (by rfl) (gi_seq (gv 0)) (gg_name (i := 1) sc_law_half.nd rfl (by first | exact Or.inl rfl | exact Or.inr rfl)) (g_one (gs_if (gt_gt (ge_mul (ge_int) (ge_count (hu65 hr) (gv 0) (ga_cons (gv 1) ga_nil))) (ge_cbS call_len sc_len (by rfl) T.z_len PySem.boot_len (ga_cons (gv 0) ga_nil))) (g_one (gs_ret (ge_comp (own := [("thing", 2)]) (t := .nm 2) (by rfl) sc_law_half.nd (gi_range1 (by rfl) T.z_range (ga_cons (ge_cbS call_len sc_len (by rfl) T.z_len PySem.boot_len (ga_cons (gv 0) ga_nil)) ga_nil)) (blkOk_by (own := [("thing", 2)]) (N := ["sorts", "kind", "thing"]) (sc := defScope s_law_half) (by decide +kernel)) (fun _ _ _ _ _ => gg_name (i := 2) sc_law_half.nd rfl (by first | exact Or.inl rfl | exact Or.inr rfl)) (fun _ _ _ _ _ => gts_one (gt_eq hr.units (ge_idx (fun _ _ => rfl) (gv 0) (gv 2)) (gv 1))) (fun _ _ _ _ _ => gv 2)))) (g_nil)))) (g_one (gs_ret (ge_list ga_nil)))
theorem ok_law_open (T : Top K mg cm) : FnOk P w K mg base (L2.CX P w) 2 T.a_law_open T.fd_law_open ["left"] (spD cm fn_law_open) :=
  fn_ok T.F_law_open sc_law_open fun cdv A outer s0 H E hr =>
    g_cons (gs_set (i := 1) sc_law_open.nd rfl (by first | exact Or.inl rfl | exact Or.inr rfl) (ge_comp (own := [("sorts", 3)]) (t := .nm 3) (by rfl) sc_law_open.nd (gi_seq (gv 0)) (blkOk_by (own := [("sorts", 3)]) (N := ["left", "halves", "sure", "sorts", "half", "thing"]) (sc := defScope s_law_open) (by decide +kernel)) (fun _ _ _ _ _ => gg_name (i := 3) sc_law_open.nd rfl (by first | exact Or.inl rfl | exact Or.inr rfl)) (fun _ _ _ _ _ => gts_nil) (fun _ _ _ _ _ => ge_callX (ok_law_half T) (hr.mono (by decide)) (by rfl) T.g_law_half T.F_law_half.kp T.b_law_half takes0 (ga_cons (gv 3) ga_nil)))) (g_cons (gs_if (gt_eq hr.units (ge_comp (own := [("half", 4)]) (t := .nm 4) (by rfl) sc_law_open.nd (gi_seq (gv 1)) (blkOk_by (own := [("half", 4)]) (N := ["left", "halves", "sure", "sorts", "half", "thing"]) (sc := defScope s_law_open) (by decide +kernel)) (fun _ _ _ _ _ => gg_name (i := 4) sc_law_open.nd rfl (by first | exact Or.inl rfl | exact Or.inr rfl)) (fun _ _ _ _ _ => gts_one (gt_ne hr.units (gv 4) (ge_list ga_nil))) (fun _ _ _ _ _ => gv 4)) (ge_list ga_nil)) (g_one (gs_ret (ge_bl))) (g_nil)) (g_cons (gs_setLc (i := 2) (own := [("thing", 5)]) (t := .nm 5) (by rfl) sc_law_open.nd rfl rfl (sw_true rfl rfl rfl (by decide +kernel)) (gi_seq (ge_idx (fun _ _ => rfl) (gv 1) (ge_int))) (blkOk_by (own := [("thing", 5)]) (N := ["left", "halves", "sure", "sorts", "half", "thing"]) (sc := defScope s_law_open) (by decide +kernel)) (fun _ _ _ _ _ => gg_name (i := 5) sc_law_open.nd rfl (by first | exact Or.inl rfl | exact Or.inr rfl)) (fun _ _ _ _ _ => gts_one (gt_eq hr.units (ge_comp (own := [("half", 4)]) (t := .nm 4) (by rfl) sc_law_open.nd (gi_seq (gv 1)) (blkOk_by (own := [("half", 4)]) (by first | decide +kernel | rfl)) (fun _ _ _ _ _ => gg_name (i := 4) sc_law_open.nd rfl (by first | exact Or.inl rfl | exact Or.inr rfl)) (fun _ _ _ _ _ => gts_one (gt_notIn (hu65 hr) (by rfl) (gv 5) (gv 4))) (fun _ _ _ _ _ => gv 4)) (ge_list ga_nil))) (fun _ _ _ _ _ => gv 5)) (g_one (gs_ret (ge_eq hr.units (gv 2) (ge_list ga_nil))))))
theorem ok_law_holds (T : Top K mg cm) : ∀ k, FnOk P w K mg base (L2.CX P w) (2 + k + 1) T.a_law_holds T.fd_law_holds ["many", "asks", "paper", "left"] (spD cm (fn_law_holds k))
  | 0 => fn_none T.F_law_holds sc_law_holds
  | k + 1 => by
    have G : FnOk P w K mg base (L2.CX P w) (2 + k + 1) T.a_law_holds T.fd_law_holds ["many", "asks", "paper", "left"] (spD cm (fn_law_holds k)) := ok_law_holds T k
    generalize hg : fn_law_holds k = g at G
    show FnOk P w K mg base (L2.CX P w) (2 + k + 1 + 1) T.a_law_holds T.fd_law_holds ["many", "asks", "paper", "left"] (spD cm (runFn 4 12 (d_law_holds (fn_law_holds k))))
    rw [hg]
    exact fn_ok T.F_law_holds sc_law_holds fun cdv A outer s0 H E hr =>
      g_cons (gs_if (gt_eq hr.units (gv 3) (ge_list ga_nil)) (g_one (gs_ret (ge_bl))) (g_nil)) (g_cons (gs_if (gt_eq hr.units (gv 1) (ge_int)) (g_one (gs_ret (ge_and (ge_isi (by decide) (by rfl) T.z_isinstance (by rfl) T.z_tuple (by decide +kernel) (gv 2)) (ge_and (ge_eq hr.units (gv 2) (ge_tuple ga_nil)) (ge_one (ge_callX (ok_law_open T) (hr.mono (Nat.le_trans (by decide : 2 ≤ 2) (Nat.le_trans (Nat.le_add_right _ _) (Nat.le_succ _)))) (by rfl) T.g_law_open T.F_law_open.kp T.b_law_open (takes_of rfl rfl rfl rfl) (ga_cons (gv 3) ga_nil))))))) (g_nil)) (g_cons (gs_set (i := 4) sc_law_holds.nd rfl (by first | exact Or.inl rfl | exact Or.inr rfl) (ge_callX (ok_law_all_pairs T) (hr.mono (Nat.le_trans (by decide : 1 ≤ 2) (Nat.le_trans (Nat.le_add_right _ _) (Nat.le_succ _)))) (by rfl) T.g_law_all_pairs T.F_law_all_pairs.kp T.b_law_all_pairs (takes_of rfl rfl rfl rfl) (ga_cons (gv 0) ga_nil))) (g_cons (gs_if ((gw_or (gt_not (gt_val (ge_isi (by decide) (by rfl) T.z_isinstance (by rfl) T.z_list (by decide +kernel) (gv 2)))) (gw_or1 (gt_ne hr.units (ge_cbS call_len sc_len (by rfl) T.z_len PySem.boot_len (ga_cons (gv 2) ga_nil)) (ge_cbS call_len sc_len (by rfl) T.z_len PySem.boot_len (ga_cons (gv 4) ga_nil))))).pt) (g_one (gs_ret (ge_bl))) (g_nil)) (g_cons (gs_for (t := .nm 5) (passes_of rfl) (by rfl) (gi_range1 (by rfl) T.z_range (ga_cons (ge_cbS call_len sc_len (by rfl) T.z_len PySem.boot_len (ga_cons (gv 4) ga_nil)) ga_nil)) (gg_name (i := 5) sc_law_holds.nd rfl (by first | exact Or.inl rfl | exact Or.inr rfl)) (g_cons (gs_unp (t := .tp (.cons (.nm 6) (.cons (.nm 7) (.nil)))) (ge_idx (fun _ _ => rfl) (gv 4) (gv 5)) (gg_tup (by rfl) (gg_cons (gg_name (i := 6) sc_law_holds.nd rfl (by first | exact Or.inl rfl | exact Or.inr rfl)) (gg_cons (gg_name (i := 7) sc_law_holds.nd rfl (by first | exact Or.inl rfl | exact Or.inr rfl)) (gg_nil))))) (g_cons (gs_unp (t := .tp (.cons (.nm 8) (.cons (.nm 9) (.nil)))) (ge_idx (fun _ _ => rfl) (gv 2) (gv 5)) (gg_tup (by rfl) (gg_cons (gg_name (i := 8) sc_law_holds.nd rfl (by first | exact Or.inl rfl | exact Or.inr rfl)) (gg_cons (gg_name (i := 9) sc_law_holds.nd rfl (by first | exact Or.inl rfl | exact Or.inr rfl)) (gg_nil))))) (g_cons (gs_setLc (i := 10) (own := [("sorts", 11)]) (t := .nm 11) (by rfl) sc_law_holds.nd rfl rfl (sw_true rfl rfl rfl (by decide +kernel)) (gi_seq (gv 3)) (blkOk_by (own := [("sorts", 11)]) (N := ["many", "asks", "paper", "left", "pairs", "k", "i", "j", "alike", "under", "rest", "sorts"]) (sc := defScope s_law_holds) (by decide +kernel)) (fun _ _ _ _ _ => gg_name (i := 11) sc_law_holds.nd rfl (by first | exact Or.inl rfl | exact Or.inr rfl)) (fun _ _ _ _ _ => gts_one (gt_eq hr.units (ge_eq hr.units (ge_idx (fun _ _ => rfl) (gv 11) (gv 6)) (ge_idx (fun _ _ => rfl) (gv 11) (gv 7))) (gv 8))) (fun _ _ _ _ _ => gv 11)) (g_one (gs_if (gt_not (gt_val (ge_callX G hr (by rfl) T.g_law_holds T.F_law_holds.kp T.b_law_holds (takes_of rfl rfl rfl rfl) (ga_cons (gv 0) (ga_cons (ge_sub (gv 1) (ge_int)) (ga_cons (gv 9) (ga_cons (gv 10) ga_nil))))))) (g_one (gs_ret (ge_bl))) (g_nil))))))) (g_one (gs_ret (ge_bl)))))))
theorem ok_law_truths (T : Top K mg cm) : ∀ k, FnOk P w K mg base (L2.CX P w) (0 + k + 1) T.a_law_truths T.fd_law_truths ["paper"] (spD cm (fn_law_truths k))
  | 0 => fn_none T.F_law_truths sc_law_truths
  | k + 1 => by
    have G : FnOk P w K mg base (L2.CX P w) (0 + k + 1) T.a_law_truths T.fd_law_truths ["paper"] (spD cm (fn_law_truths k)) := ok_law_truths T k
    generalize hg : fn_law_truths k = g at G
    show FnOk P w K mg base (L2.CX P w) (0 + k + 1 + 1) T.a_law_truths T.fd_law_truths ["paper"] (spD cm (runFn 1 2 (d_law_truths (fn_law_truths k))))
    rw [hg]
    exact fn_ok T.F_law_truths sc_law_truths fun cdv A outer s0 H E hr =>
      g_cons (gs_if (gt_val (ge_isi (by decide) (by rfl) T.z_isinstance (by rfl) T.z_tuple (by decide +kernel) (gv 0))) (g_one (gs_ret (ge_eq hr.units (gv 0) (ge_tuple ga_nil)))) (g_nil)) (g_cons (gs_for (t := .nm 1) (passes_of rfl) (by rfl) (gi_seq (gv 0)) (gg_name (i := 1) sc_law_truths.nd rfl (by first | exact Or.inl rfl | exact Or.inr rfl)) (g_cons (gs_if ((gw_or (gt_not (gt_val (ge_isi (by decide) (by rfl) T.z_isinstance (by rfl) T.z_tuple (by decide +kernel) (gv 1)))) (gw_or1 (gt_ne hr.units (ge_cbS call_len sc_len (by rfl) T.z_len PySem.boot_len (ga_cons (gv 1) ga_nil)) (ge_int)))).pt) (g_one (gs_ret (ge_bl))) (g_nil)) (g_one (gs_if ((gw_or (gt_not (gt_val (ge_isi (by decide) (by rfl) T.z_isinstance (by rfl) T.z_bool (by decide +kernel) (ge_idx (fun _ _ => rfl) (gv 1) (ge_int))))) (gw_or1 (gt_not (gt_val (ge_callX G hr (by rfl) T.g_law_truths T.F_law_truths.kp T.b_law_truths (takes_of rfl rfl rfl rfl) (ga_cons (ge_idx (fun _ _ => rfl) (gv 1) (ge_int)) ga_nil)))))).pt) (g_one (gs_ret (ge_bl))) (g_nil))))) (g_one (gs_ret (ge_bl))))
theorem ok_law_sorts (T : Top K mg cm) : FnOk P w K mg base (L2.CX P w) 1 T.a_law_sorts T.fd_law_sorts ["many", "most"] (spD cm fn_law_sorts) :=
  fn_ok T.F_law_sorts sc_law_sorts fun cdv A outer s0 H E hr =>
    g_cons (gs_set (i := 2) sc_law_sorts.nd rfl (by first | exact Or.inl rfl | exact Or.inr rfl) (ge_fz (ge_list (ga_cons (ge_list ga_nil) ga_nil)))) (g_cons (gs_for (t := .nm 3) (passes_of rfl) (by rfl) (gi_range1 (by rfl) T.z_range (ga_cons (gv 0) ga_nil)) (gg_name (i := 3) sc_law_sorts.nd rfl (by first | exact Or.inl rfl | exact Or.inr rfl)) (g_cons (gs_set (i := 4) sc_law_sorts.nd rfl (by first | exact Or.inl rfl | exact Or.inr rfl) (ge_list ga_nil)) (g_cons (gs_for (t := .nm 5) (passes_of rfl) (by rfl) (gi_seq (gv 2)) (gg_name (i := 5) sc_law_sorts.nd rfl (by first | exact Or.inl rfl | exact Or.inr rfl)) (g_one (gs_set (i := 4) sc_law_sorts.nd rfl (by first | exact Or.inl rfl | exact Or.inr rfl) (ge_add (gv 4) (ge_comp (own := [("kind", 6)]) (t := .nm 6) (by rfl) sc_law_sorts.nd (gi_range1 (by rfl) T.z_range (ga_cons (ge_cbS (call_min2 (by rfl)) sc_min2 (by rfl) T.z_min (by decide +kernel) (ga_cons (gv 1) (ga_cons (ge_add (ge_cbS (cr_max (by rfl)) sc_maxL (by rfl) T.z_max (by decide +kernel) (ga_cons (ge_add (ge_list (ga_cons (ge_neg (ge_int)) ga_nil)) (gv 5)) ga_nil)) (ge_int)) ga_nil))) ga_nil)) (blkOk_by (own := [("kind", 6)]) (N := ["many", "most", "found", "thing", "longer", "sorts", "kind"]) (sc := defScope s_law_sorts) (by decide +kernel)) (fun _ _ _ _ _ => gg_name (i := 6) sc_law_sorts.nd rfl (by first | exact Or.inl rfl | exact Or.inr rfl)) (fun _ _ _ _ _ => gts_nil) (fun _ _ _ _ _ => ge_add (gv 5) (ge_list (ga_cons (gv 6) ga_nil)))))))) (g_one (gs_set (i := 2) sc_law_sorts.nd rfl (by first | exact Or.inl rfl | exact Or.inr rfl) (ge_fz (gv 4))))))) (g_one (gs_ret (gv 2))))
theorem ok_law_changed (T : Top K mg cm) : ∀ k, FnOk P w K mg base (L2.CX P w) (0 + k + 1) T.a_law_changed T.fd_law_changed ["paper"] (spCh k)
  | 0 => fn_noneCh
  | k + 1 => by
    have G : FnOk P w K mg base (L2.CX P w) (0 + k + 1) T.a_law_changed T.fd_law_changed ["paper"] (spCh k) := ok_law_changed T k
    exact ok_changed T.F_law_changed sc_law_changed fun cdv A outer s0 H E hr =>
      (pss_cons (ps_if (pt_val (pe_callB call_isi (by rfl) T.z_isinstance (by decide +kernel) (pa_cons (pv 0) (pa_cons (pe_bltn (v := .ty "list") (by rfl) T.z_list (by decide +kernel) rfl (by decide) (by decide)) pa_nil)))) (pss_cons (ps_set (i := 1) sc_law_changed.nd rfl (by first | exact Or.inl rfl | exact Or.inr rfl) (pe_callB call_len (by rfl) T.z_len PySem.boot_len (pa_cons (pv 0) pa_nil))) (pss_cons (ps_for (passes_of rfl) (by rfl) (pi_list (pe_callTy call_list_of (by rfl) T.z_list (by decide +kernel) (pa_cons (pv 0) pa_nil))) (pg_tup (by rfl) (pgs_cons (pg_name (i := 2) sc_law_changed.nd rfl (by first | exact Or.inl rfl | exact Or.inr rfl)) (pgs_cons (pg_name (i := 3) sc_law_changed.nd rfl (by first | exact Or.inl rfl | exact Or.inr rfl)) pgs_nil))) (pss_one (ps_expr (pe_callS G hr (by rfl) T.g_law_changed T.F_law_changed.kp T.b_law_changed (fun σ => passAt (takes_of rfl rfl rfl rfl) σ) (pa_cons (pv 3) pa_nil))))) (pss_cons (ps_expr (pe_bm PySem.F.plainAttrs_list PySem.F.slot_list_append PySem.F.type_list_append mt_append (pv 0) (pa_cons (pe_tup (pa_cons pe_bl (pa_cons (pe_tup pa_nil) pa_nil))) pa_nil))) (pss_one (ps_ret (pe_cmpR op_eq (pe_callB call_len (by rfl) T.z_len PySem.boot_len (pa_cons (pv 0) pa_nil)) (pe_op op_add (pv 1) pe_int) (nomark _))))))) pss_nil) (pss_one (ps_ret pe_bl)))
theorem ok_law_apart (T : Top K mg cm) : ∀ k, FnOk P w K mg base (L2.CX P w) (0 + k + 1) T.a_law_apart T.fd_law_apart ["paper", "many"] (spD cm (fn_law_apart k))
  | 0 => fn_none T.F_law_apart sc_law_apart
  | k + 1 => by
    have G : FnOk P w K mg base (L2.CX P w) (0 + k + 1) T.a_law_apart T.fd_law_apart ["paper", "many"] (spD cm (fn_law_apart k)) := ok_law_apart T k
    generalize hg : fn_law_apart k = g at G
    show FnOk P w K mg base (L2.CX P w) (0 + k + 1 + 1) T.a_law_apart T.fd_law_apart ["paper", "many"] (spD cm (runFn 2 4 (d_law_apart (fn_law_apart k))))
    rw [hg]
    exact fn_ok T.F_law_apart sc_law_apart fun cdv A outer s0 H E hr =>
      g_cons (gs_if (gt_val (ge_isi (by decide) (by rfl) T.z_isinstance (by rfl) T.z_tuple (by decide +kernel) (gv 0))) (g_one (gs_ret (ge_bl))) (g_nil)) (g_cons (gs_if (gt_ne hr.units (ge_cbS call_len sc_len (by rfl) T.z_len PySem.boot_len (ga_cons (gv 0) ga_nil)) (ge_add (gv 1) (ge_int))) (g_one (gs_ret (ge_bl))) (g_nil)) (g_one (gs_ret (ge_eq hr.units (ge_comp (own := [("alike", 2), ("under", 3)]) (t := .tp (.cons (.nm 2) (.cons (.nm 3) (.nil)))) (by rfl) sc_law_apart.nd (gi_seq (ge_cut01 (gv 0) (ge_neg (ge_int)))) (blkOk_by (own := [("alike", 2), ("under", 3)]) (N := ["paper", "many", "alike", "under"]) (sc := defScope s_law_apart) (by decide +kernel)) (fun _ _ _ _ _ => gg_tup (by rfl) (gg_cons (gg_name (i := 2) sc_law_apart.nd rfl (by first | exact Or.inl rfl | exact Or.inr rfl)) (gg_cons (gg_name (i := 3) sc_law_apart.nd rfl (by first | exact Or.inl rfl | exact Or.inr rfl)) (gg_nil)))) (fun _ _ _ _ _ => gts_one (gt_not (gt_val (ge_callX G hr (by rfl) T.g_law_apart T.F_law_apart.kp T.b_law_apart takes0 (ga_cons (gv 3) (ga_cons (gv 1) ga_nil)))))) (fun _ _ _ _ _ => gv 3)) (ge_list ga_nil)))))
theorem ok_law (T : Top K mg cm) : FnOk P w K mg base (L2.CX P w) 134 T.a_law T.fd_law ["script"] (spD cm fn_law) :=
  fn_ok T.F_law sc_law fun cdv A outer s0 H E hr =>
    g_cons (gs_set (i := 1) sc_law.nd rfl (by first | exact Or.inl rfl | exact Or.inr rfl) (ge_callX (ok_law_hand T) (hr.mono (by decide)) (by rfl) T.g_law_hand T.F_law_hand.kp T.b_law_hand (takes_of rfl rfl rfl rfl) (ga_cons (ge_idx (fun _ _ => rfl) (ge_add (gv 0) (ge_list (ga_cons (ge_pow (ge_int) (ge_int)) ga_nil))) (ge_int)) ga_nil))) (g_cons (gs_set (i := 2) sc_law.nd rfl (by first | exact Or.inl rfl | exact Or.inr rfl) (ge_list (ga_cons (ge_int) (ga_cons (ge_int) (ga_cons (ge_int) ga_nil))))) (g_cons (gs_while (passes_of rfl) (gt_ne hr.units (gv 2) (ge_list ga_nil)) (g_cons (gs_set (i := 3) sc_law.nd rfl (by first | exact Or.inl rfl | exact Or.inr rfl) (ge_popAt 2 (gv 2) (ga_cons (ge_callX (ok_law_take T) (hr.mono (by decide)) (by rfl) T.g_law_take T.F_law_take.kp T.b_law_take (takes_of rfl rfl rfl rfl) (ga_cons (gv 1) (ga_cons (ge_cbS call_len sc_len (by rfl) T.z_len PySem.boot_len (ga_cons (gv 2) ga_nil)) ga_nil))) ga_nil))) (g_cons (gs_set (i := 4) sc_law.nd rfl (by first | exact Or.inl rfl | exact Or.inr rfl) (ge_sub (ge_div (ge_add (ge_mul (ge_int) (gv 3)) (ge_int)) (ge_int)) (ge_int))) (g_one (gs_for (t := .nm 5) (passes_of rfl) (by rfl) (gi_range1 (by rfl) T.z_range (ga_cons (ge_int) ga_nil)) (gg_name (i := 5) sc_law.nd rfl (by first | exact Or.inl rfl | exact Or.inr rfl)) (g_cons (ge_hd (i := 6) sc_law.nd rfl (by first | exact Or.inl rfl | exact Or.inr rfl) (ok_holding_paper T) (hr.mono (by decide)) (by rfl) T.g_holding_paper T.F_holding_paper.kp T.b_holding_paper (takes_of rfl rfl rfl rfl) (ga_cons (gv 3) ga_nil)) (g_cons (gs_if ((gw_or (gt_not (gt_val (ge_isi2 (by decide) (by decide) (by rfl) T.z_isinstance (by rfl) T.z_list (by decide +kernel) (by rfl) T.z_tuple (by decide +kernel) (gv 6)))) (gw_or1 (gt_not (gt_val (ge_callX (ok_law_truths T fuel_law_truths) (hr.mono (by decide)) (by rfl) T.g_law_truths T.F_law_truths.kp T.b_law_truths (takes_of rfl rfl rfl rfl) (ga_cons (gv 6) ga_nil)))))).pt) (g_one (gs_ret (ge_bl))) (g_nil)) (g_cons (gs_if (gt_not (gt_val (ge_callX (ok_law_holds T fuel_law_holds) (hr.mono (by decide)) (by rfl) T.g_law_holds T.F_law_holds.kp T.b_law_holds (takes_of rfl rfl rfl rfl) (ga_cons (gv 3) (ga_cons (gv 4) (ga_cons (gv 6) (ga_cons (ge_callX (ok_law_sorts T) (hr.mono (by decide)) (by rfl) T.g_law_sorts T.F_law_sorts.kp T.b_law_sorts (takes_of rfl rfl rfl rfl) (ga_cons (gv 3) (ga_cons (gv 3) ga_nil))) ga_nil))))))) (g_one (gs_ret (ge_bl))) (g_nil)) (g_one (gs_if ((gw_or (gt_not (gt_val (ge_chg (ok_law_changed T 5) (hr.mono (by decide)) (by rfl) T.g_law_changed T.F_law_changed.kp T.b_law_changed (takes_of rfl rfl rfl rfl) (gvr 6)))) (gw_or1 (gt_not (gt_val (ge_callX (ok_law_apart T fuel_law_apart) (hr.mono (by decide)) (by rfl) T.g_law_apart T.F_law_apart.kp T.b_law_apart (takes_of rfl rfl rfl rfl) (ga_cons (gv 6) (ga_cons (ge_div (ge_mul (gv 3) (ge_sub (gv 3) (ge_int))) (ge_int)) ga_nil))))))).pt) (g_one (gs_ret (ge_bl))) (g_nil))))))))))) (g_one (gs_ret (ge_bl)))))
end
theorem all_mk {l : PySem.W.OpenLaw} {w : World} {K : PySem.W.Frag} {h : Heap} {mg : Str → Option Value} {fa f0 f1 f2 f3 f4 f5 f6 f7 f8 f9 f10 f11 f12 f13 f14 f15 f16 f17 f18 f19 f20 f21 f22 f23 f24 : Addr} (X : K.In h) (G : h.Ns mainGlobals mg) (hfa : mg "law" = some (.ref fa))
    {tk_MOST_ANY : Nat}
    {tk_MOST_HELD : Nat}
    {tk_MOST_THINGS : Nat}
    {e_NoThing : Addr}
    {e_TooMany : Addr}
    {od0 an0 : Option Addr} {sl0 : Array (Option Value)} {oc0 kV0 dc0 pm0 cd0 ct0 : Value}
    {od1 an1 : Option Addr} {sl1 : Array (Option Value)} {oc1 kV1 dc1 pm1 cd1 ct1 : Value}
    {od2 an2 : Option Addr} {sl2 : Array (Option Value)} {oc2 kV2 dc2 pm2 cd2 ct2 : Value}
    {od3 an3 : Option Addr} {sl3 : Array (Option Value)} {oc3 kV3 dc3 pm3 cd3 ct3 : Value}
    {od4 an4 : Option Addr} {sl4 : Array (Option Value)} {oc4 kV4 dc4 pm4 cd4 ct4 : Value}
    {od5 an5 : Option Addr} {sl5 : Array (Option Value)} {oc5 kV5 dc5 pm5 cd5 ct5 : Value}
    {od6 an6 : Option Addr} {sl6 : Array (Option Value)} {oc6 kV6 dc6 pm6 cd6 ct6 : Value}
    {od7 an7 : Option Addr} {sl7 : Array (Option Value)} {oc7 kV7 dc7 pm7 cd7 ct7 : Value}
    {od8 an8 : Option Addr} {sl8 : Array (Option Value)} {oc8 kV8 dc8 pm8 cd8 ct8 : Value}
    {od9 an9 : Option Addr} {sl9 : Array (Option Value)} {oc9 kV9 dc9 pm9 cd9 ct9 : Value}
    {od10 an10 : Option Addr} {sl10 : Array (Option Value)} {oc10 kV10 dc10 pm10 cd10 ct10 : Value}
    {od11 an11 : Option Addr} {sl11 : Array (Option Value)} {oc11 kV11 dc11 pm11 cd11 ct11 : Value}
    {od12 an12 : Option Addr} {sl12 : Array (Option Value)} {oc12 kV12 dc12 pm12 cd12 ct12 : Value}
    {od13 an13 : Option Addr} {sl13 : Array (Option Value)} {oc13 kV13 dc13 pm13 cd13 ct13 : Value}
    {od14 an14 : Option Addr} {sl14 : Array (Option Value)} {oc14 kV14 dc14 pm14 cd14 ct14 : Value}
    {od15 an15 : Option Addr} {sl15 : Array (Option Value)} {oc15 kV15 dc15 pm15 cd15 ct15 : Value}
    {od16 an16 : Option Addr} {sl16 : Array (Option Value)} {oc16 kV16 dc16 pm16 cd16 ct16 : Value}
    {od17 an17 : Option Addr} {sl17 : Array (Option Value)} {oc17 kV17 dc17 pm17 cd17 ct17 : Value}
    {od18 an18 : Option Addr} {sl18 : Array (Option Value)} {oc18 kV18 dc18 pm18 cd18 ct18 : Value}
    {od19 an19 : Option Addr} {sl19 : Array (Option Value)} {oc19 kV19 dc19 pm19 cd19 ct19 : Value}
    {od20 an20 : Option Addr} {sl20 : Array (Option Value)} {oc20 kV20 dc20 pm20 cd20 ct20 : Value}
    {od21 an21 : Option Addr} {sl21 : Array (Option Value)} {oc21 kV21 dc21 pm21 cd21 ct21 : Value}
    {od22 an22 : Option Addr} {sl22 : Array (Option Value)} {oc22 kV22 dc22 pm22 cd22 ct22 : Value}
    {od23 an23 : Option Addr} {sl23 : Array (Option Value)} {oc23 kV23 dc23 pm23 cd23 ct23 : Value}
    {od24 an24 : Option Addr} {sl24 : Array (Option Value)} {oc24 kV24 dc24 pm24 cd24 ct24 : Value}
    (a0 : PySem.W.nsIn K mainGlobals "_law_hand" = some (some (.ref f0))) (l0 : K.lookup f0 = some ⟨oc0, od0, .func (PySem.W.fnOf "_law_hand" "_law_hand" (defArgs s_law_hand) (defBody s_law_hand) (defScope s_law_hand) .none kV0 dc0 pm0 an0 cd0 ct0), sl0⟩) (c0 : PySem.W.codeIn K cd0 "_law_hand" = true) (k0 : PySem.W.keepIn K (.ref f0) = true)
    (a1 : PySem.W.nsIn K mainGlobals "_law_take" = some (some (.ref f1))) (l1 : K.lookup f1 = some ⟨oc1, od1, .func (PySem.W.fnOf "_law_take" "_law_take" (defArgs s_law_take) (defBody s_law_take) (defScope s_law_take) .none kV1 dc1 pm1 an1 cd1 ct1), sl1⟩) (c1 : PySem.W.codeIn K cd1 "_law_take" = true) (k1 : PySem.W.keepIn K (.ref f1) = true)
    (a2 : PySem.W.nsIn K mainGlobals "need_held" = some (some (.ref f2))) (l2 : K.lookup f2 = some ⟨oc2, od2, .func (PySem.W.fnOf "need_held" "need_held" (defArgs s_need_held) (defBody s_need_held) (defScope s_need_held) .none kV2 dc2 pm2 an2 cd2 ct2), sl2⟩) (c2 : PySem.W.codeIn K cd2 "need_held" = true) (k2 : PySem.W.keepIn K (.ref f2) = true)
    (a3 : PySem.W.nsIn K mainGlobals "fitting_to" = some (some (.ref f3))) (l3 : K.lookup f3 = some ⟨oc3, od3, .func (PySem.W.fnOf "fitting_to" "fitting_to" (defArgs s_fitting_to) (defBody s_fitting_to) (defScope s_fitting_to) .none kV3 dc3 pm3 an3 cd3 ct3), sl3⟩) (c3 : PySem.W.codeIn K cd3 "fitting_to" = true) (k3 : PySem.W.keepIn K (.ref f3) = true)
    (a4 : PySem.W.nsIn K mainGlobals "by_kind" = some (some (.ref f4))) (l4 : K.lookup f4 = some ⟨oc4, od4, .func (PySem.W.fnOf "by_kind" "by_kind" (defArgs s_by_kind) (defBody s_by_kind) (defScope s_by_kind) .none kV4 dc4 pm4 an4 cd4 ct4), sl4⟩) (c4 : PySem.W.codeIn K cd4 "by_kind" = true) (k4 : PySem.W.keepIn K (.ref f4) = true)
    (a5 : PySem.W.nsIn K mainGlobals "more_than_half" = some (some (.ref f5))) (l5 : K.lookup f5 = some ⟨oc5, od5, .func (PySem.W.fnOf "more_than_half" "more_than_half" (defArgs s_more_than_half) (defBody s_more_than_half) (defScope s_more_than_half) .none kV5 dc5 pm5 an5 cd5 ct5), sl5⟩) (c5 : PySem.W.codeIn K cd5 "more_than_half" = true) (k5 : PySem.W.keepIn K (.ref f5) = true)
    (a6 : PySem.W.nsIn K mainGlobals "is_open" = some (some (.ref f6))) (l6 : K.lookup f6 = some ⟨oc6, od6, .func (PySem.W.fnOf "is_open" "is_open" (defArgs s_is_open) (defBody s_is_open) (defScope s_is_open) .none kV6 dc6 pm6 an6 cd6 ct6), sl6⟩) (c6 : PySem.W.codeIn K cd6 "is_open" = true) (k6 : PySem.W.keepIn K (.ref f6) = true)
    (a7 : PySem.W.nsIn K mainGlobals "held" = some (some (.ref f7))) (l7 : K.lookup f7 = some ⟨oc7, od7, .func (PySem.W.fnOf "held" "held" (defArgs s_held) (defBody s_held) (defScope s_held) .none kV7 dc7 pm7 an7 cd7 ct7), sl7⟩) (c7 : PySem.W.codeIn K cd7 "held" = true) (k7 : PySem.W.keepIn K (.ref f7) = true)
    (a8 : PySem.W.nsIn K mainGlobals "pairs_of" = some (some (.ref f8))) (l8 : K.lookup f8 = some ⟨oc8, od8, .func (PySem.W.fnOf "pairs_of" "pairs_of" (defArgs s_pairs_of) (defBody s_pairs_of) (defScope s_pairs_of) .none kV8 dc8 pm8 an8 cd8 ct8), sl8⟩) (c8 : PySem.W.codeIn K cd8 "pairs_of" = true) (k8 : PySem.W.keepIn K (.ref f8) = true)
    (a9 : PySem.W.nsIn K mainGlobals "all_sorts" = some (some (.ref f9))) (l9 : K.lookup f9 = some ⟨oc9, od9, .func (PySem.W.fnOf "all_sorts" "all_sorts" (defArgs s_all_sorts) (defBody s_all_sorts) (defScope s_all_sorts) .none kV9 dc9 pm9 an9 cd9 ct9), sl9⟩) (c9 : PySem.W.codeIn K cd9 "all_sorts" = true) (k9 : PySem.W.keepIn K (.ref f9) = true)
    (a10 : PySem.W.nsIn K mainGlobals "need_some" = some (some (.ref f10))) (l10 : K.lookup f10 = some ⟨oc10, od10, .func (PySem.W.fnOf "need_some" "need_some" (defArgs s_need_some) (defBody s_need_some) (defScope s_need_some) .none kV10 dc10 pm10 an10 cd10 ct10), sl10⟩) (c10 : PySem.W.codeIn K cd10 "need_some" = true) (k10 : PySem.W.keepIn K (.ref f10) = true)
    (a11 : PySem.W.nsIn K mainGlobals "looking" = some (some (.ref f11))) (l11 : K.lookup f11 = some ⟨oc11, od11, .func (PySem.W.fnOf "looking" "looking" (defArgs s_looking) (defBody s_looking) (defScope s_looking) .none kV11 dc11 pm11 an11 cd11 ct11), sl11⟩) (c11 : PySem.W.codeIn K cd11 "looking" = true) (k11 : PySem.W.keepIn K (.ref f11) = true)
    (a12 : PySem.W.nsIn K mainGlobals "laying" = some (some (.ref f12))) (l12 : K.lookup f12 = some ⟨oc12, od12, .func (PySem.W.fnOf "laying" "laying" (defArgs s_laying) (defBody s_laying) (defScope s_laying) .none kV12 dc12 pm12 an12 cd12 ct12), sl12⟩) (c12 : PySem.W.codeIn K cd12 "laying" = true) (k12 : PySem.W.keepIn K (.ref f12) = true)
    (a13 : PySem.W.nsIn K mainGlobals "depth" = some (some (.ref f13))) (l13 : K.lookup f13 = some ⟨oc13, od13, .func (PySem.W.fnOf "depth" "depth" (defArgs s_depth) (defBody s_depth) (defScope s_depth) .none kV13 dc13 pm13 an13 cd13 ct13), sl13⟩) (c13 : PySem.W.codeIn K cd13 "depth" = true) (k13 : PySem.W.keepIn K (.ref f13) = true)
    (a14 : PySem.W.nsIn K mainGlobals "fewest" = some (some (.ref f14))) (l14 : K.lookup f14 = some ⟨oc14, od14, .func (PySem.W.fnOf "fewest" "fewest" (defArgs s_fewest) (defBody s_fewest) (defScope s_fewest) .none kV14 dc14 pm14 an14 cd14 ct14), sl14⟩) (c14 : PySem.W.codeIn K cd14 "fewest" = true) (k14 : PySem.W.keepIn K (.ref f14) = true)
    (a15 : PySem.W.nsIn K mainGlobals "holding_paper" = some (some (.ref f15))) (l15 : K.lookup f15 = some ⟨oc15, od15, .func (PySem.W.fnOf "holding_paper" "holding_paper" (defArgs s_holding_paper) (defBody s_holding_paper) (defScope s_holding_paper) .none kV15 dc15 pm15 an15 cd15 ct15), sl15⟩) (c15 : PySem.W.codeIn K cd15 "holding_paper" = true) (k15 : PySem.W.keepIn K (.ref f15) = true)
    (a16 : PySem.W.nsIn K mainGlobals "_law_all_pairs" = some (some (.ref f16))) (l16 : K.lookup f16 = some ⟨oc16, od16, .func (PySem.W.fnOf "_law_all_pairs" "_law_all_pairs" (defArgs s_law_all_pairs) (defBody s_law_all_pairs) (defScope s_law_all_pairs) .none kV16 dc16 pm16 an16 cd16 ct16), sl16⟩) (c16 : PySem.W.codeIn K cd16 "_law_all_pairs" = true) (k16 : PySem.W.keepIn K (.ref f16) = true)
    (a17 : PySem.W.nsIn K mainGlobals "_law_half" = some (some (.ref f17))) (l17 : K.lookup f17 = some ⟨oc17, od17, .func (PySem.W.fnOf "_law_half" "_law_half" (defArgs s_law_half) (defBody s_law_half) (defScope s_law_half) .none kV17 dc17 pm17 an17 cd17 ct17), sl17⟩) (c17 : PySem.W.codeIn K cd17 "_law_half" = true) (k17 : PySem.W.keepIn K (.ref f17) = true)
    (a18 : PySem.W.nsIn K mainGlobals "_law_open" = some (some (.ref f18))) (l18 : K.lookup f18 = some ⟨oc18, od18, .func (PySem.W.fnOf "_law_open" "_law_open" (defArgs s_law_open) (defBody s_law_open) (defScope s_law_open) .none kV18 dc18 pm18 an18 cd18 ct18), sl18⟩) (c18 : PySem.W.codeIn K cd18 "_law_open" = true) (k18 : PySem.W.keepIn K (.ref f18) = true)
    (a19 : PySem.W.nsIn K mainGlobals "_law_holds" = some (some (.ref f19))) (l19 : K.lookup f19 = some ⟨oc19, od19, .func (PySem.W.fnOf "_law_holds" "_law_holds" (defArgs s_law_holds) (defBody s_law_holds) (defScope s_law_holds) .none kV19 dc19 pm19 an19 cd19 ct19), sl19⟩) (c19 : PySem.W.codeIn K cd19 "_law_holds" = true) (k19 : PySem.W.keepIn K (.ref f19) = true)
    (a20 : PySem.W.nsIn K mainGlobals "_law_truths" = some (some (.ref f20))) (l20 : K.lookup f20 = some ⟨oc20, od20, .func (PySem.W.fnOf "_law_truths" "_law_truths" (defArgs s_law_truths) (defBody s_law_truths) (defScope s_law_truths) .none kV20 dc20 pm20 an20 cd20 ct20), sl20⟩) (c20 : PySem.W.codeIn K cd20 "_law_truths" = true) (k20 : PySem.W.keepIn K (.ref f20) = true)
    (a21 : PySem.W.nsIn K mainGlobals "_law_sorts" = some (some (.ref f21))) (l21 : K.lookup f21 = some ⟨oc21, od21, .func (PySem.W.fnOf "_law_sorts" "_law_sorts" (defArgs s_law_sorts) (defBody s_law_sorts) (defScope s_law_sorts) .none kV21 dc21 pm21 an21 cd21 ct21), sl21⟩) (c21 : PySem.W.codeIn K cd21 "_law_sorts" = true) (k21 : PySem.W.keepIn K (.ref f21) = true)
    (a22 : PySem.W.nsIn K mainGlobals "_law_changed" = some (some (.ref f22))) (l22 : K.lookup f22 = some ⟨oc22, od22, .func (PySem.W.fnOf "_law_changed" "_law_changed" (defArgs s_law_changed) (defBody s_law_changed) (defScope s_law_changed) .none kV22 dc22 pm22 an22 cd22 ct22), sl22⟩) (c22 : PySem.W.codeIn K cd22 "_law_changed" = true) (k22 : PySem.W.keepIn K (.ref f22) = true)
    (a23 : PySem.W.nsIn K mainGlobals "_law_apart" = some (some (.ref f23))) (l23 : K.lookup f23 = some ⟨oc23, od23, .func (PySem.W.fnOf "_law_apart" "_law_apart" (defArgs s_law_apart) (defBody s_law_apart) (defScope s_law_apart) .none kV23 dc23 pm23 an23 cd23 ct23), sl23⟩) (c23 : PySem.W.codeIn K cd23 "_law_apart" = true) (k23 : PySem.W.keepIn K (.ref f23) = true)
    (a24 : PySem.W.nsIn K mainGlobals "law" = some (some (.ref f24))) (l24 : K.lookup f24 = some ⟨oc24, od24, .func (PySem.W.fnOf "law" "law" (defArgs s_law) (defBody s_law) (defScope s_law) .none kV24 dc24 pm24 an24 cd24 ct24), sl24⟩) (c24 : PySem.W.codeIn K cd24 "law" = true) (k24 : PySem.W.keepIn K (.ref f24) = true)
    (z_bool : PySem.W.nsIn K mainGlobals "bool" = some none)
    (z_enumerate : PySem.W.nsIn K mainGlobals "enumerate" = some none)
    (z_int : PySem.W.nsIn K mainGlobals "int" = some none)
    (z_isinstance : PySem.W.nsIn K mainGlobals "isinstance" = some none)
    (z_len : PySem.W.nsIn K mainGlobals "len" = some none)
    (z_list : PySem.W.nsIn K mainGlobals "list" = some none)
    (z_max : PySem.W.nsIn K mainGlobals "max" = some none)
    (z_min : PySem.W.nsIn K mainGlobals "min" = some none)
    (z_range : PySem.W.nsIn K mainGlobals "range" = some none)
    (z_tuple : PySem.W.nsIn K mainGlobals "tuple" = some none)
    (c_MOST_ANY : PySem.W.nsIn K mainGlobals "MOST_ANY" = some (some (.int (5) tk_MOST_ANY)))
    (c_MOST_HELD : PySem.W.nsIn K mainGlobals "MOST_HELD" = some (some (.int (4) tk_MOST_HELD)))
    (c_MOST_THINGS : PySem.W.nsIn K mainGlobals "MOST_THINGS" = some (some (.int (7) tk_MOST_THINGS)))
    (m_NoThing : PySem.W.nsIn K mainGlobals "NoThing" = some (some (.ref e_NoThing))) (x_NoThing : PySem.W.excIn K e_NoThing [.type "ValueError", .type "Exception", .type "BaseException", .type "object"] "ValueError.__new__" = true) (kp_NoThing : PySem.W.keepIn K (.ref e_NoThing) = true) (bs_NoThing : PySem.W.subIn K (.ref e_NoThing) (.type "BaseException") = some true) (ty_NoThing : PySem.W.typeIn K (.ref e_NoThing) = some (.type "type"))
    (m_TooMany : PySem.W.nsIn K mainGlobals "TooMany" = some (some (.ref e_TooMany))) (x_TooMany : PySem.W.excIn K e_TooMany [.type "ValueError", .type "Exception", .type "BaseException", .type "object"] "ValueError.__new__" = true) (kp_TooMany : PySem.W.keepIn K (.ref e_TooMany) = true) (bs_TooMany : PySem.W.subIn K (.ref e_TooMany) (.type "BaseException") = some true) (ty_TooMany : PySem.W.typeIn K (.ref e_TooMany) = some (.type "type"))
    : ∃ fd : FuncData, (∀ (s : Shared) (v : Value), BindsTo s fd ⟨[v], []⟩ [("script", v)]) ∧ ∀ base : Heap, K.In base → base.Ns mainGlobals mg → FnOk l.prog w K mg base (L2.CX l.prog w) 134 fa fd ["script"] (fun vs H Q E => ∀ cm, spD cm fn_law vs H Q E) := by
  obtain ⟨cm, hc_NoThing, hc_TooMany⟩ : ∃ cm : String → Addr, cm "NoThing" = e_NoThing ∧ cm "TooMany" = e_TooMany := ⟨fun c => if c = "NoThing" then e_NoThing else if c = "TooMany" then e_TooMany else 0, by simp, by simp⟩
  rw [← hc_NoThing] at m_NoThing x_NoThing kp_NoThing bs_NoThing ty_NoThing
  rw [← hc_TooMany] at m_TooMany x_TooMany kp_TooMany bs_TooMany ty_TooMany
  have e := hfa.symm.trans (PySem.W.mg_of X G a24)
  cases e
  have F0 := fun_mk (st := s_law_hand) l0 c0 k0
  have b0 := F0.binds (ps := ["cell"]) fun _ _ _ _ _ _ us hl => match us, hl with | [_], _ => rfl
  have F1 := fun_mk (st := s_law_take) l1 c1 k1
  have b1 := F1.binds (ps := ["hand", "many"]) fun _ _ _ _ _ _ us hl => match us, hl with | [_, _], _ => rfl
  have F2 := fun_mk (st := s_need_held) l2 c2 k2
  have b2 := F2.binds (ps := ["many"]) fun _ _ _ _ _ _ us hl => match us, hl with | [_], _ => rfl
  have F3 := fun_mk (st := s_fitting_to) l3 c3 k3
  have b3 := F3.binds (ps := ["fitting", "i", "j", "alike"]) fun _ _ _ _ _ _ us hl => match us, hl with | [_, _, _, _], _ => rfl
  have F4 := fun_mk (st := s_by_kind) l4 c4 k4
  have b4 := F4.binds (ps := ["kinds"]) fun _ _ _ _ _ _ us hl => match us, hl with | [_], _ => rfl
  have F5 := fun_mk (st := s_more_than_half) l5 c5 k5
  have b5 := F5.binds (ps := ["kinds"]) fun _ _ _ _ _ _ us hl => match us, hl with | [_], _ => rfl
  have F6 := fun_mk (st := s_is_open) l6 c6 k6
  have b6 := F6.binds (ps := ["fitting"]) fun _ _ _ _ _ _ us hl => match us, hl with | [_], _ => rfl
  have F7 := fun_mk (st := s_held) l7 c7 k7
  have b7 := F7.binds (ps := ["pairs", "asks", "fitting"]) fun _ _ _ _ _ _ us hl => match us, hl with | [_, _, _], _ => rfl
  have F8 := fun_mk (st := s_pairs_of) l8 c8 k8
  have b8 := F8.binds (ps := ["many"]) fun _ _ _ _ _ _ us hl => match us, hl with | [_], _ => rfl
  have F9 := fun_mk (st := s_all_sorts) l9 c9 k9
  have b9 := F9.binds (ps := ["many", "most"]) fun _ _ _ _ _ _ us hl => match us, hl with | [_, _], _ => rfl
  have F10 := fun_mk (st := s_need_some) l10 c10 k10
  have b10 := F10.binds (ps := ["many", "most"]) fun _ _ _ _ _ _ us hl => match us, hl with | [_, _], _ => rfl
  have F11 := fun_mk (st := s_looking) l11 c11 k11
  have b11 := F11.binds (ps := ["row", "heap", "taken"]) fun _ _ _ _ _ _ us hl => match us, hl with | [_, _, _], _ => rfl
  have F12 := fun_mk (st := s_laying) l12 c12 k12
  have b12 := F12.binds (ps := ["many", "thing", "row", "heap"]) fun _ _ _ _ _ _ us hl => match us, hl with | [_, _, _, _], _ => rfl
  have F13 := fun_mk (st := s_depth) l13 c13 k13
  have b13 := F13.binds (ps := ["tree"]) fun _ _ _ _ _ _ us hl => match us, hl with | [_], _ => rfl
  have F14 := fun_mk (st := s_fewest) l14 c14 k14
  have b14 := F14.binds (ps := ["many"]) fun _ _ _ _ _ _ us hl => match us, hl with | [_], _ => rfl
  have F15 := fun_mk (st := s_holding_paper) l15 c15 k15
  have b15 := F15.binds (ps := ["many"]) fun _ _ _ _ _ _ us hl => match us, hl with | [_], _ => rfl
  have F16 := fun_mk (st := s_law_all_pairs) l16 c16 k16
  have b16 := F16.binds (ps := ["many"]) fun _ _ _ _ _ _ us hl => match us, hl with | [_], _ => rfl
  have F17 := fun_mk (st := s_law_half) l17 c17 k17
  have b17 := F17.binds (ps := ["sorts"]) fun _ _ _ _ _ _ us hl => match us, hl with | [_], _ => rfl
  have F18 := fun_mk (st := s_law_open) l18 c18 k18
  have b18 := F18.binds (ps := ["left"]) fun _ _ _ _ _ _ us hl => match us, hl with | [_], _ => rfl
  have F19 := fun_mk (st := s_law_holds) l19 c19 k19
  have b19 := F19.binds (ps := ["many", "asks", "paper", "left"]) fun _ _ _ _ _ _ us hl => match us, hl with | [_, _, _, _], _ => rfl
  have F20 := fun_mk (st := s_law_truths) l20 c20 k20
  have b20 := F20.binds (ps := ["paper"]) fun _ _ _ _ _ _ us hl => match us, hl with | [_], _ => rfl
  have F21 := fun_mk (st := s_law_sorts) l21 c21 k21
  have b21 := F21.binds (ps := ["many", "most"]) fun _ _ _ _ _ _ us hl => match us, hl with | [_, _], _ => rfl
  have F22 := fun_mk (st := s_law_changed) l22 c22 k22
  have b22 := F22.binds (ps := ["paper"]) fun _ _ _ _ _ _ us hl => match us, hl with | [_], _ => rfl
  have F23 := fun_mk (st := s_law_apart) l23 c23 k23
  have b23 := F23.binds (ps := ["paper", "many"]) fun _ _ _ _ _ _ us hl => match us, hl with | [_, _], _ => rfl
  have F24 := fun_mk (st := s_law) l24 c24 k24
  have b24 := F24.binds (ps := ["script"]) fun _ _ _ _ _ _ us hl => match us, hl with | [_], _ => rfl
  exact ⟨_, fun s v => .of_eq rfl, fun base _ _ => (ok_law (T := ({a_law_hand := _, fd_law_hand := _, F_law_hand := F0, g_law_hand := PySem.W.mg_of X G a0, b_law_hand := b0, a_law_take := _, fd_law_take := _, F_law_take := F1, g_law_take := PySem.W.mg_of X G a1, b_law_take := b1, a_need_held := _, fd_need_held := _, F_need_held := F2, g_need_held := PySem.W.mg_of X G a2, b_need_held := b2, a_fitting_to := _, fd_fitting_to := _, F_fitting_to := F3, g_fitting_to := PySem.W.mg_of X G a3, b_fitting_to := b3, a_by_kind := _, fd_by_kind := _, F_by_kind := F4, g_by_kind := PySem.W.mg_of X G a4, b_by_kind := b4, a_more_than_half := _, fd_more_than_half := _, F_more_than_half := F5, g_more_than_half := PySem.W.mg_of X G a5, b_more_than_half := b5, a_is_open := _, fd_is_open := _, F_is_open := F6, g_is_open := PySem.W.mg_of X G a6, b_is_open := b6, a_held := _, fd_held := _, F_held := F7, g_held := PySem.W.mg_of X G a7, b_held := b7, a_pairs_of := _, fd_pairs_of := _, F_pairs_of := F8, g_pairs_of := PySem.W.mg_of X G a8, b_pairs_of := b8, a_all_sorts := _, fd_all_sorts := _, F_all_sorts := F9, g_all_sorts := PySem.W.mg_of X G a9, b_all_sorts := b9, a_need_some := _, fd_need_some := _, F_need_some := F10, g_need_some := PySem.W.mg_of X G a10, b_need_some := b10, a_looking := _, fd_looking := _, F_looking := F11, g_looking := PySem.W.mg_of X G a11, b_looking := b11, a_laying := _, fd_laying := _, F_laying := F12, g_laying := PySem.W.mg_of X G a12, b_laying := b12, a_depth := _, fd_depth := _, F_depth := F13, g_depth := PySem.W.mg_of X G a13, b_depth := b13, a_fewest := _, fd_fewest := _, F_fewest := F14, g_fewest := PySem.W.mg_of X G a14, b_fewest := b14, a_holding_paper := _, fd_holding_paper := _, F_holding_paper := F15, g_holding_paper := PySem.W.mg_of X G a15, b_holding_paper := b15, a_law_all_pairs := _, fd_law_all_pairs := _, F_law_all_pairs := F16, g_law_all_pairs := PySem.W.mg_of X G a16, b_law_all_pairs := b16, a_law_half := _, fd_law_half := _, F_law_half := F17, g_law_half := PySem.W.mg_of X G a17, b_law_half := b17, a_law_open := _, fd_law_open := _, F_law_open := F18, g_law_open := PySem.W.mg_of X G a18, b_law_open := b18, a_law_holds := _, fd_law_holds := _, F_law_holds := F19, g_law_holds := PySem.W.mg_of X G a19, b_law_holds := b19, a_law_truths := _, fd_law_truths := _, F_law_truths := F20, g_law_truths := PySem.W.mg_of X G a20, b_law_truths := b20, a_law_sorts := _, fd_law_sorts := _, F_law_sorts := F21, g_law_sorts := PySem.W.mg_of X G a21, b_law_sorts := b21, a_law_changed := _, fd_law_changed := _, F_law_changed := F22, g_law_changed := PySem.W.mg_of X G a22, b_law_changed := b22, a_law_apart := _, fd_law_apart := _, F_law_apart := F23, g_law_apart := PySem.W.mg_of X G a23, b_law_apart := b23, a_law := _, fd_law := _, F_law := F24, g_law := PySem.W.mg_of X G a24, b_law := b24, z_bool := PySem.W.mg_none_of X G z_bool, z_enumerate := PySem.W.mg_none_of X G z_enumerate, z_int := PySem.W.mg_none_of X G z_int, z_isinstance := PySem.W.mg_none_of X G z_isinstance, z_len := PySem.W.mg_none_of X G z_len, z_list := PySem.W.mg_none_of X G z_list, z_max := PySem.W.mg_none_of X G z_max, z_min := PySem.W.mg_none_of X G z_min, z_range := PySem.W.mg_none_of X G z_range, z_tuple := PySem.W.mg_none_of X G z_tuple, c_MOST_ANY := PySem.W.mg_of X G c_MOST_ANY, tk_MOST_ANY := _, c_MOST_HELD := PySem.W.mg_of X G c_MOST_HELD, tk_MOST_HELD := _, c_MOST_THINGS := PySem.W.mg_of X G c_MOST_THINGS, tk_MOST_THINGS := _, m_NoThing := PySem.W.mg_of X G m_NoThing, x_NoThing := x_NoThing, kp_NoThing := kp_NoThing, bs_NoThing := bs_NoThing, ty_NoThing := ty_NoThing, m_TooMany := PySem.W.mg_of X G m_TooMany, x_TooMany := x_TooMany, kp_TooMany := kp_TooMany, bs_TooMany := bs_TooMany, ty_TooMany := ty_TooMany} : Top K mg cm))).imp fun _ _ _ _ h => h cm⟩
end Mk24
open PySem PySem.W PyProof.Rows
set_option maxHeartbeats 0 in
theorem PySem.Challenge.cw_morethanhalf_k24_holding_papers_told_holds : PySem.Challenge.rw_morethanhalf_k24_holding_papers_told.Holds := by
  w_on; o_law; k_head; (case hw => w_witness2)
  k_fill
  refine L2.walk_of (l := PySem.Challenge.rw_morethanhalf_k24_holding_papers_told) (n := 63) (k := 134) (x := "script") (CX := fun w => L2.CX PySem.Challenge.rw_morethanhalf_k24_holding_papers_told.prog w) (sp := fun w vs H Q E => ∀ cm, DL.spD cm Mk24.fn_law vs H Q E) rfl (by decide) rfl ⟨rfl, by decide, by decide⟩ (fun w h Y => PySem.W.kIn_of Y) ?F (fun w H a ns hl hO hS => ?_) (fun w H s e s2 h => ?G)
  case G =>
    obtain ⟨_, _, _, _, _, _, _, _, _, _, _, _, h⟩ := h
    exact h
  case F =>
    intro w mg fa h KX G hmg
    refine' Mk24.all_mk KX G hmg ?a0 ?l0 ?c0 ?k0 ?a1 ?l1 ?c1 ?k1 ?a2 ?l2 ?c2 ?k2 ?a3 ?l3 ?c3 ?k3 ?a4 ?l4 ?c4 ?k4 ?a5 ?l5 ?c5 ?k5 ?a6 ?l6 ?c6 ?k6 ?a7 ?l7 ?c7 ?k7 ?a8 ?l8 ?c8 ?k8 ?a9 ?l9 ?c9 ?k9 ?a10 ?l10 ?c10 ?k10 ?a11 ?l11 ?c11 ?k11 ?a12 ?l12 ?c12 ?k12 ?a13 ?l13 ?c13 ?k13 ?a14 ?l14 ?c14 ?k14 ?a15 ?l15 ?c15 ?k15 ?a16 ?l16 ?c16 ?k16 ?a17 ?l17 ?c17 ?k17 ?a18 ?l18 ?c18 ?k18 ?a19 ?l19 ?c19 ?k19 ?a20 ?l20 ?c20 ?k20 ?a21 ?l21 ?c21 ?k21 ?a22 ?l22 ?c22 ?k22 ?a23 ?l23 ?c23 ?k23 ?a24 ?l24 ?c24 ?k24 ?z_bool ?z_enumerate ?z_int ?z_isinstance ?z_len ?z_list ?z_max ?z_min ?z_range ?z_tuple ?c_MOST_ANY ?c_MOST_HELD ?c_MOST_THINGS ?m_NoThing ?x_NoThing ?kp_NoThing ?bs_NoThing ?ty_NoThing ?m_TooMany ?x_TooMany ?kp_TooMany ?bs_TooMany ?ty_TooMany
    (case a0 => k_is); (case l0 => k_is); (case c0 => k_is); (case k0 => k_is); (case a1 => k_is); (case l1 => k_is); (case c1 => k_is); (case k1 => k_is); (case a2 => k_is); (case l2 => k_is); (case c2 => k_is); (case k2 => k_is); (case a3 => k_is); (case l3 => k_is); (case c3 => k_is); (case k3 => k_is); (case a4 => k_is); (case l4 => k_is); (case c4 => k_is); (case k4 => k_is); (case a5 => k_is); (case l5 => k_is); (case c5 => k_is); (case k5 => k_is); (case a6 => k_is); (case l6 => k_is); (case c6 => k_is); (case k6 => k_is); (case a7 => k_is); (case l7 => k_is); (case c7 => k_is); (case k7 => k_is); (case a8 => k_is); (case l8 => k_is); (case c8 => k_is); (case k8 => k_is); (case a9 => k_is); (case l9 => k_is); (case c9 => k_is); (case k9 => k_is); (case a10 => k_is); (case l10 => k_is); (case c10 => k_is); (case k10 => k_is); (case a11 => k_is); (case l11 => k_is); (case c11 => k_is); (case k11 => k_is); (case a12 => k_is); (case l12 => k_is); (case c12 => k_is); (case k12 => k_is); (case a13 => k_is); (case l13 => k_is); (case c13 => k_is); (case k13 => k_is); (case a14 => k_is); (case l14 => k_is); (case c14 => k_is); (case k14 => k_is); (case a15 => k_is); (case l15 => k_is); (case c15 => k_is); (case k15 => k_is); (case a16 => k_is); (case l16 => k_is); (case c16 => k_is); (case k16 => k_is); (case a17 => k_is); (case l17 => k_is); (case c17 => k_is); (case k17 => k_is); (case a18 => k_is); (case l18 => k_is); (case c18 => k_is); (case k18 => k_is); (case a19 => k_is); (case l19 => k_is); (case c19 => k_is); (case k19 => k_is); (case a20 => k_is); (case l20 => k_is); (case c20 => k_is); (case k20 => k_is); (case a21 => k_is); (case l21 => k_is); (case c21 => k_is); (case k21 => k_is); (case a22 => k_is); (case l22 => k_is); (case c22 => k_is); (case k22 => k_is); (case a23 => k_is); (case l23 => k_is); (case c23 => k_is); (case k23 => k_is); (case a24 => k_is); (case l24 => k_is); (case c24 => k_is); (case k24 => k_is); (case z_bool => k_is); (case z_enumerate => k_is); (case z_int => k_is); (case z_isinstance => k_is); (case z_len => k_is); (case z_list => k_is); (case z_max => k_is); (case z_min => k_is); (case z_range => k_is); (case z_tuple => k_is); (case c_MOST_ANY => k_is); (case c_MOST_HELD => k_is); (case c_MOST_THINGS => k_is); (case m_NoThing => k_is); (case x_NoThing => k_exc); (case kp_NoThing => k_is); (case bs_NoThing => k_is); (case ty_NoThing => k_is); (case m_TooMany => k_is); (case x_TooMany => k_exc); (case kp_TooMany => k_is); (case bs_TooMany => k_is); (case ty_TooMany => k_is)
  rcases hS with hS | ⟨o, its, n, hk, hc, _⟩
  · exact fun cm => DL.law_entry hO hS (Mk24.law_pure ns hl)
  · exact (DL.noList_ok (by rfl) (PySem.W.mem_of_lookupK hk) hc).elim

