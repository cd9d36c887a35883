import PyProof.Rows.All
import HandS.ForMost
import Wide.All
import OpenK.AllK
import Wide.FinOn
import HandS.Evl
import HandS.Zip
import HandS.TupMul
import HandS.TupAny
import HandS.Flow
import HandS.Style
import HandS.Conv
import HandS.IsInst
import HandS.More
import HandS.Lambda
import HandS.EndTab
import HandS.HeadWalk
import HandS.ExcInit
import HandS.WordsExc
import KE.KExcIs
import HandS.Wide
import HandS.NoneIn
import HandS.OwnEq
import HandS.ClsMeth
import KE.GoesEnum
import HandS.SortInts
import HandS.Set
import KE.KRevSl
import HandS.Iter
import HandS.SetFor
import HandS.Strs
import KE.KDictZip
import KE.KDictItemsList
import HandS.ListItems
import KE.KSuper
import HandS.Star
import PyProof.Conv_bool
import KE.KSuperObj
import HandS.CallLocal
import KE.SortData
import PySem.Challenge.RW_spanalike_k12_whole_what_is_left_out
set_option Elab.async false
set_option linter.all false
set_option maxRecDepth 100000
set_option maxHeartbeats 4000000
/-! The law's defs that make lambdas. -/
namespace Sm
open PySem
def lamFns : List Str := ["_law_refused_right"]
end Sm
/-! Values without a heap; what a state of slots stands for; readings by plain functions. -/
namespace Sm
open PySem L2 Evl

/-- limits, kept shut: nothing computes with them -/
theorem b64_ex : ∃ x : Int, x = 2 ^ 64 := ⟨_, rfl⟩
noncomputable def B64 : Int := Classical.choose b64_ex
theorem B64_eq : B64 = 2 ^ 64 := Classical.choose_spec b64_ex
theorem b62_ex : ∃ x : Int, x = 2 ^ 62 := ⟨_, rfl⟩
noncomputable def B62 : Int := Classical.choose b62_ex
theorem B62_eq : B62 = 2 ^ 62 := Classical.choose_spec b62_ex
theorem b30_ex : ∃ x : Int, x = 1073741824 := ⟨_, rfl⟩
noncomputable def B30 : Int := Classical.choose b30_ex
theorem B30_eq : B30 = 1073741824 := Classical.choose_spec b30_ex
theorem b20_ex : ∃ x : Int, x = 1000000 := ⟨_, rfl⟩
noncomputable def B20 : Int := Classical.choose b20_ex
theorem B20_eq : B20 = 1000000 := Classical.choose_spec b20_ex
/-- a value, all the way in -/
inductive D where
  | non | bl (b : Bool) | int (i : Int) | str (x : Str) | ty (n : String)
  | tup (xs : List D) | lst (xs : List D) | scr (ns : List Int) | cls (c : Str) | ins (c : Str) (ns : List Str) (xs : List D) | exc (c : Str) (ns : List Str) (xs : List D)
  | dK (ks : List Key) (xs : List D) | dT (ks : List (List Key)) (xs : List D)
/-- a value, or a list or an instance that one slot alone holds -/
inductive SV where
  | imm (d : D) | lst (ds : List D) | ins (c : Str) (ns : List Str) (ds : List D)
  | dK (ks : List Key) (ds : List D) | dT (ks : List (List Key)) (ds : List D)
def SV.frz : SV → D
  | .imm d => d
  | .lst ds => .lst ds
  | .ins c ns ds => .ins c ns ds
  | .dK ks ds => .dK ks ds
  | .dT ks ds => .dT ks ds
def SV.own : SV → Bool
  | .imm _ => false
  | _ => true
abbrev S := List (Option SV)

/-- a tuple of the written part -/
def KTup (K : PySem.W.Frag) (a : Addr) (xs : List V) : Prop :=
  ∃ (o : Obj) (its : Array Value) (n : Nat), K.lookup a = some o ∧ o.cls = .type "tuple" ∧ o.data = .seq its n ∧ its.size ≤ sizeLine ∧ Vals xs its.toList
/-- a caught exception at a: of the class at C, its dict at dd -/
def exk (a C dd : Addr) : HO := .ext fun h => ∃ oe vs, h.get? a = some oe ∧ oe.cls = .ref C ∧ oe.dict = some dd ∧ oe.data = .fields vs
mutual
inductive RD (K : PySem.W.Frag) (mg : Str → Option Value) (F : Hp) : D → V → Prop where
  | non : RD K mg F .non .non
  | bl (b : Bool) : RD K mg F (.bl b) (.bl b)
  | int (i : Int) : RD K mg F (.int i) (.int i)
  | str (x : Str) : RD K mg F (.str x) (.str x)
  | ty (n : String) : RD K mg F (.ty n) (.ty n)
  | tup {a : Addr} {vs : List V} {ds : List D} (h : F a = some (.tup vs)) (r : RDs K mg F ds vs) : RD K mg F (.tup ds) (.ref a)
  | ktup {a : Addr} {vs : List V} {ds : List D} (h : KTup K a vs) (r : RDs K mg F ds vs) : RD K mg F (.tup ds) (.ref a)
  | lst {a : Addr} {vs : List V} {ds : List D} (h : F a = some (.lst vs)) (r : RDs K mg F ds vs) : RD K mg F (.lst ds) (.ref a)
  | scr {a : Addr} {ns : List Int} (h : SqL K F a (ns.map V.int)) : RD K mg F (.scr ns) (.ref a)
  | cls {C : Addr} {c : Str} (hc : mg c = some (.ref C)) : RD K mg F (.cls c) (.ref C)
  | ins {a C dx : Addr} {c : Str} {fs : List (Str × V)} {ns : List Str} {ds : List D} (hc : mg c = some (.ref C)) (h : F a = some (.ins C dx fs)) (hn : fs.map (·.1) = ns) (r : RDs K mg F ds (fs.map (·.2))) : RD K mg F (.ins c ns ds) (.ref a)
  | exc {a C dd : Addr} {c : Str} {fs : List (Str × V)} {ns : List Str} {ds : List D} (hc : mg c = some (.ref C)) (h : F a = some (exk a C dd)) (h2 : F dd = some (.xd fs)) (hn : fs.map (·.1) = ns) (r : RDs K mg F ds (fs.map (·.2))) : RD K mg F (.exc c ns ds) (.ref a)
  | dK {a : Addr} {kvs : List (Key × V)} {ks : List Key} {ds : List D} (h : F a = some (.dK kvs)) (hn : kvs.map (·.1) = ks) (r : RDs K mg F ds (kvs.map (·.2))) : RD K mg F (.dK ks ds) (.ref a)
  | dT {a : Addr} {kvs : List (List Key × V)} {ks : List (List Key)} {ds : List D} (h : F a = some (.dT kvs)) (hn : kvs.map (·.1) = ks) (r : RDs K mg F ds (kvs.map (·.2))) : RD K mg F (.dT ks ds) (.ref a)
inductive RDs (K : PySem.W.Frag) (mg : Str → Option Value) (F : Hp) : List D → List V → Prop where
  | nil : RDs K mg F [] []
  | cons {d : D} {v : V} {ds : List D} {vs : List V} (h : RD K mg F d v) (r : RDs K mg F ds vs) : RDs K mg F (d :: ds) (v :: vs)
end

section
variable {K : PySem.W.Frag} {mg : Str → Option Value} {F F' : Hp}
mutual
theorem RD.mono {d : D} {v : V} (e : Ex F F') : RD K mg F d v → RD K mg F' d v
  | .non => .non
  | .bl b => .bl b
  | .int i => .int i
  | .str x => .str x
  | .ty n => .ty n
  | .tup h r => .tup (e _ _ h) (RDs.mono e r)
  | .ktup h r => .ktup h (RDs.mono e r)
  | .lst h r => .lst (e _ _ h) (RDs.mono e r)
  | .scr h => .scr (ex_l e h)
  | .cls h => .cls h
  | .ins hc h hn r => .ins hc (e _ _ h) hn (RDs.mono e r)
  | .exc hc h h2 hn r => .exc hc (e _ _ h) (e _ _ h2) hn (RDs.mono e r)
  | .dK h hn r => .dK (e _ _ h) hn (RDs.mono e r)
  | .dT h hn r => .dT (e _ _ h) hn (RDs.mono e r)
theorem RDs.mono {ds : List D} {vs : List V} (e : Ex F F') : RDs K mg F ds vs → RDs K mg F' ds vs
  | .nil => .nil
  | .cons h r => .cons (RD.mono e h) (RDs.mono e r)
end
theorem RDs.length : ∀ {ds : List D} {vs : List V}, RDs K mg F ds vs → ds.length = vs.length
  | _, _, .nil => rfl
  | _, _, .cons _ r => by rw [List.length_cons, List.length_cons, r.length]
theorem RDs.get : ∀ {ds : List D} {vs : List V} {i : Nat} {d : D}, RDs K mg F ds vs → ds[i]? = some d → ∃ v, vs[i]? = some v ∧ RD K mg F d v
  | _, _, _, _, .nil, h => by simp at h
  | _, _, 0, _, .cons h _, e => by simp at e; subst e; exact ⟨_, rfl, h⟩
  | _, _, i + 1, _, .cons _ r, e => by simpa using RDs.get (i := i) r (by simpa using e)
theorem RDs.get' : ∀ {ds : List D} {vs : List V} {i : Nat} {v : V}, RDs K mg F ds vs → vs[i]? = some v → ∃ d, ds[i]? = some d ∧ RD K mg F d v
  | _, _, _, _, .nil, h => by simp at h
  | _, _, 0, _, .cons h _, e => by simp at e; subst e; exact ⟨_, rfl, h⟩
  | _, _, i + 1, _, .cons _ r, e => by simpa using RDs.get' (i := i) r (by simpa using e)
theorem RDs.append : ∀ {ds es : List D} {vs ws : List V}, RDs K mg F ds vs → RDs K mg F es ws → RDs K mg F (ds ++ es) (vs ++ ws)
  | _, _, _, _, .nil, r => r
  | _, _, _, _, .cons h t, r => .cons h (t.append r)
theorem RDs.take : ∀ {ds : List D} {vs : List V} (n : Nat), RDs K mg F ds vs → RDs K mg F (ds.take n) (vs.take n)
  | _, _, 0, _ => by simpa using RDs.nil
  | _, _, n + 1, .nil => by simpa using RDs.nil
  | _, _, n + 1, .cons h t => by simpa using RDs.cons h (t.take n)
theorem RDs.drop : ∀ {ds : List D} {vs : List V} (n : Nat), RDs K mg F ds vs → RDs K mg F (ds.drop n) (vs.drop n)
  | _, _, 0, r => by simpa using r
  | _, _, n + 1, .nil => by simpa using RDs.nil
  | _, _, n + 1, .cons h t => by simpa using t.drop n
theorem RDs.set : ∀ {ds : List D} {vs : List V} {d : D} {v : V} (n : Nat), RDs K mg F ds vs → RD K mg F d v → RDs K mg F (ds.set n d) (vs.set n v)
  | _, _, _, _, _, .nil, _ => by simpa using RDs.nil
  | _, _, _, _, 0, .cons h t, r => by simpa using RDs.cons r t
  | _, _, _, _, n + 1, .cons h t, r => by simpa using RDs.cons h (t.set n r)
theorem RDs.rev : ∀ {ds : List D} {vs : List V}, RDs K mg F ds vs → RDs K mg F ds.reverse vs.reverse
  | _, _, .nil => by simpa using RDs.nil
  | _, _, .cons h t => by simpa using t.rev.append (.cons h .nil)
theorem RDs.rep {d : D} {v : V} (h : RD K mg F d v) : ∀ n : Nat, RDs K mg F (List.replicate n d) (List.replicate n v)
  | 0 => .nil
  | n + 1 => by simpa [List.replicate_succ] using RDs.cons h (RDs.rep h n)
theorem RDs.ints : ∀ {ns : List Int} {vs : List V}, RDs K mg F (ns.map D.int) vs → vs = ns.map V.int
  | [], _, .nil => rfl
  | _ :: _, _, .cons h t => by cases h; rw [t.ints]; rfl
theorem RDs.of_ints : ∀ (ns : List Int), RDs K mg F (ns.map D.int) (ns.map V.int)
  | [] => .nil
  | n :: ns => .cons (.int n) (RDs.of_ints ns)
theorem RD.int_inv {i : Int} {v : V} (h : RD K mg F (.int i) v) : v = .int i := by cases h; rfl
theorem RD.bl_inv {i : Bool} {v : V} (h : RD K mg F (.bl i) v) : v = .bl i := by cases h; rfl
theorem RD.str_inv {i : Str} {v : V} (h : RD K mg F (.str i) v) : v = .str i := by cases h; rfl
theorem RD.non_inv {v : V} (h : RD K mg F .non v) : v = .non := by cases h; rfl
theorem RD.cls_inv {c : Str} {v : V} (h : RD K mg F (.cls c) v) : ∃ C, v = .ref C ∧ mg c = some (.ref C) := by cases h with | cls h => exact ⟨_, rfl, h⟩
theorem RD.tup_inv {ds : List D} {v : V} (h : RD K mg F (.tup ds) v) : ∃ a vs, v = .ref a ∧ SqT K F a vs ∧ RDs K mg F ds vs := by
  cases h with
  | tup h r => exact ⟨_, _, rfl, .inl (.inl h), r⟩
  | ktup h r => exact ⟨_, _, rfl, .inr h, r⟩
theorem RD.lst_inv {ds : List D} {v : V} (h : RD K mg F (.lst ds) v) : ∃ a vs, v = .ref a ∧ F a = some (.lst vs) ∧ RDs K mg F ds vs := by cases h with | lst h r => exact ⟨_, _, rfl, h, r⟩
theorem RD.scr_inv {ns : List Int} {v : V} (h : RD K mg F (.scr ns) v) : ∃ a, v = .ref a ∧ SqL K F a (ns.map V.int) := by cases h with | scr h => exact ⟨_, rfl, h⟩
theorem RD.exc_inv {c : Str} {ns : List Str} {ds : List D} {v : V} (h : RD K mg F (.exc c ns ds) v) : ∃ a C dd fs, v = .ref a ∧ mg c = some (.ref C) ∧ F a = some (exk a C dd) ∧ F dd = some (.xd fs) ∧ fs.map (·.1) = ns ∧ RDs K mg F ds (fs.map (·.2)) := by
  cases h with | exc hc h h2 hn r => exact ⟨_, _, _, _, rfl, hc, h, h2, hn, r⟩
theorem RD.dK_inv {ks : List Key} {ds : List D} {v : V} (h : RD K mg F (.dK ks ds) v) : ∃ a kvs, v = .ref a ∧ F a = some (.dK kvs) ∧ kvs.map (·.1) = ks ∧ RDs K mg F ds (kvs.map (·.2)) := by cases h with | dK h hn r => exact ⟨_, _, rfl, h, hn, r⟩
theorem RD.dT_inv {ks : List (List Key)} {ds : List D} {v : V} (h : RD K mg F (.dT ks ds) v) : ∃ a kvs, v = .ref a ∧ F a = some (.dT kvs) ∧ kvs.map (·.1) = ks ∧ RDs K mg F ds (kvs.map (·.2)) := by cases h with | dT h hn r => exact ⟨_, _, rfl, h, hn, r⟩
theorem RD.ins_inv {c : Str} {ns : List Str} {ds : List D} {v : V} (h : RD K mg F (.ins c ns ds) v) : ∃ a C dx fs, v = .ref a ∧ mg c = some (.ref C) ∧ F a = some (.ins C dx fs) ∧ fs.map (·.1) = ns ∧ RDs K mg F ds (fs.map (·.2)) := by
  cases h with | ins hc h hn r => exact ⟨_, _, _, _, rfl, hc, h, hn, r⟩

/-! ### tables of code objects; what is kept -/
/-- P: the table of the code object of the module's def f -/
def lamP (K : PySem.W.Frag) (mg : Str → Option Value) (f : Str) (P : Addr) : Prop := ∃ fa oc od fd osl c, mg f = some (.ref fa) ∧ K.lookup fa = some ⟨oc, od, .func fd, osl⟩ ∧ fd.code = .ref c ∧ PySem.W.codeHdIn K c P = true
open Classical in
noncomputable def lamA (K : PySem.W.Frag) (mg : Str → Option Value) (f : Str) : Addr := if h : ∃ P, lamP K mg f P then choose h else 0
noncomputable def lamT (K : PySem.W.Frag) (mg : Str → Option Value) : List (Addr × Str) := lamFns.map fun f => (lamA K mg f, f ++ (".<locals>." : Str) ++ ("<lambda>" : Str))
theorem codeHd_inj {K : PySem.W.Frag} {c P P' : Addr} (h : PySem.W.codeHdIn K c P = true) (h' : PySem.W.codeHdIn K c P' = true) : P = P' := by
  unfold PySem.W.codeHdIn at h h'
  split at h
  · rename_i vs _ hk
    rw [hk] at h'
    simp only [Bool.and_eq_true] at h h'
    have a := h.1.1.1.1.1
    have b := h'.1.1.1.1.1
    split at a
    · rename_i Q hQ
      rw [hQ] at b
      exact (beq_iff_eq.mp a).symm.trans (beq_iff_eq.mp b)
    · cases a
  · cases h
theorem lamA_of {K : PySem.W.Frag} {mg : Str → Option Value} {f : Str} {P : Addr} (h : lamP K mg f P) : lamA K mg f = P := by
  have hex : ∃ P, lamP K mg f P := ⟨P, h⟩
  have e : lamA K mg f = Classical.choose hex := dif_pos hex
  rw [e]
  obtain ⟨fa, oc, od, fd, osl, c, h1, h2, h3, h4⟩ := Classical.choose_spec hex
  obtain ⟨fa', oc', od', fd', osl', c', g1, g2, g3, g4⟩ := h
  rw [h1] at g1; cases g1
  rw [h2] at g2; cases g2
  rw [h3] at g3; cases g3
  exact codeHd_inj h4 g4
/-- H without its tables -/
def noT (H : Hp) : Hp := fun a => match H a with
  | some (.tbl _) => none
  | o => o
theorem noT_some {H : Hp} {a : Addr} {o : HO} (h : H a = some o) (n : ∀ ps, o ≠ .tbl ps) : noT H a = some o := by
  unfold noT
  rw [h]
  cases o with
  | tbl ps => exact absurd rfl (n ps)
  | _ => rfl
theorem noT_inv {H : Hp} {a : Addr} {o : HO} (h : noT H a = some o) : H a = some o ∧ ∀ ps, o ≠ .tbl ps := by
  unfold noT at h
  split at h
  · cases h
  · rename_i hne
    exact ⟨h, fun ps z => hne ps (by rw [h, z])⟩
theorem noT_none {H : Hp} {a : Addr} (h : H a = none) : noT H a = none := by
  unfold noT
  rw [h]
/-- all of G is kept in H, no table is in G; H's tables are in order -/
def Kp (K : PySem.W.Frag) (mg : Str → Option Value) (G H : Hp) : Prop := (∀ a o, G a = some o → H a = some o ∧ ∀ ps, o ≠ .tbl ps) ∧ LamX.Tabs (lamT K mg) H
section
variable {K : PySem.W.Frag} {mg : Str → Option Value} {G H H' : Hp}
theorem Kp.self (k : Kp K mg G H) : Kp K mg (noT H) H := ⟨fun _ _ h => noT_inv h, k.2⟩
theorem Kp.at_ {a : Addr} {o : HO} (k : Kp K mg G H) (h : G a = some o) (n : ∀ ps, o ≠ .tbl ps) : H a = some o := (k.1 a o h).1
theorem Kp.back {a : Addr} (k : Kp K mg G H) (h : H a = none) : G a = none := by
  cases q : G a with
  | none => rfl
  | some o => rw [(k.1 a o q).1] at h; cases h
theorem Kp.backT {a : Addr} (k : Kp K mg G H) (h : noT H a = none) : G a = none := by
  cases q : G a with
  | none => rfl
  | some o => rw [noT_some (k.1 a o q).1 (k.1 a o q).2] at h; cases h
theorem Kp.trans (k : Kp K mg G H) (k' : Kp K mg (noT H) H') : Kp K mg G H' := ⟨fun a o h => k'.1 a o (noT_some (k.1 a o h).1 (k.1 a o h).2), k'.2⟩
theorem Kp.ext (e : LamX.ExtN H H') (t : LamX.Tabs (lamT K mg) H') : Kp K mg (noT H) H' := ⟨fun a o h => ⟨e a o (noT_inv h).1 (noT_inv h).2, (noT_inv h).2⟩, t⟩
theorem codeO_is {c : Addr} {q : Str} {H : Hp} {o : HO} (h : H c = some (LamX.CodeO c q)) (h2 : H c = some o) : ∃ φ, o = .ext φ := by
  rw [h] at h2
  cases h2
  exact ⟨_, rfl⟩
theorem tabs_upd {D : Addr} {o : HO} {T : List (Addr × Str)} (t : LamX.Tabs T H) (n : ∀ ps, H D ≠ some (.tbl ps)) (n2 : ∀ φ, H D ≠ some (.ext φ)) : LamX.Tabs T (upd H D o) := fun p hp => by
  obtain ⟨ps, h1, h2, h3⟩ := t p hp
  refine ⟨ps, by rw [upd_ne (fun z => n ps (by rw [← z]; exact h1))]; exact h1, h2, fun pos cv hc => ?_⟩
  obtain ⟨c, e1, e2⟩ := h3 pos cv hc
  exact ⟨c, e1, by rw [upd_ne (fun z => by rw [z] at e2; obtain ⟨φ, y⟩ := codeO_is e2 e2; rw [y] at e2; exact n2 φ e2)]; exact e2⟩
theorem Kp.put {D : Addr} {o : HO} (k : Kp K mg G H) (hg : G D = none) (n : ∀ ps, H D ≠ some (.tbl ps)) (n2 : ∀ φ, H D ≠ some (.ext φ)) : Kp K mg G (upd H D o) := ⟨fun a u h => by
  have ne : a ≠ D := fun z => by rw [z, hg] at h; cases h
  rw [upd_ne ne]
  exact k.1 a u h, tabs_upd k.2 n n2⟩
theorem Kp.new {p : Addr} {o : HO} (k : Kp K mg G H) (hp : H p = none) : Kp K mg G (upd H p o) := k.put (k.back hp) (fun _ z => by rw [hp] at z; cases z) (fun _ z => by rw [hp] at z; cases z)
theorem Kp.over {a : Addr} (k : Kp K mg G H) (ga : G a = none) (e : Kp K mg (fun b => if b = a then none else noT H b) H') : Kp K mg G H' := ⟨fun b o h => by
  have hb : b ≠ a := fun z => by rw [z, ga] at h; cases h
  refine e.1 b o ?_
  show (if b = a then none else noT H b) = some o
  rw [if_neg hb]
  exact noT_some (k.1 b o h).1 (k.1 b o h).2, e.2⟩
theorem Kp.less {a : Addr} (k : Kp K mg G H) : Kp K mg (fun b => if b = a then none else G b) H := ⟨fun b o h => by
  have h' : (if b = a then none else G b) = some o := h
  by_cases hb : b = a
  · rw [if_pos hb] at h'; cases h'
  · rw [if_neg hb] at h'; exact k.1 b o h', k.2⟩
end
/-- no table is in F -/
def NT (F : Hp) : Prop := ∀ a ps, F a ≠ some (.tbl ps)
theorem NT.put {F : Hp} (n : NT F) (a : Addr) {o : HO} (no : ∀ ps, o ≠ .tbl ps) : NT (upd F a o) := fun b ps h => by
  by_cases hb : b = a
  · subst hb; rw [upd_same] at h; exact no ps (Option.some.inj h)
  · rw [upd_ne hb] at h; exact n b ps h
abbrev Exf (F H : Hp) : Prop := Ex F H ∧ NT F
/-- G: what is kept through all of a run; F: what may be read and never changes -/
inductive RS (K : PySem.W.Frag) (mg : Str → Option Value) (G F H : Hp) : SV → V → Prop where
  | imm {d : D} {v : V} (r : RD K mg F d v) : RS K mg G F H (.imm d) v
  | lst {a : Addr} {vs : List V} {ds : List D} (g : G a = none) (f : F a = none) (h : H a = some (.lst vs)) (r : RDs K mg F ds vs) : RS K mg G F H (.lst ds) (.ref a)
  | ins {a C dx : Addr} {c : Str} {fs : List (Str × V)} {ns : List Str} {ds : List D} (g : G a = none) (f : F a = none) (hc : mg c = some (.ref C)) (h : H a = some (.ins C dx fs)) (hn : fs.map (·.1) = ns) (r : RDs K mg F ds (fs.map (·.2))) : RS K mg G F H (.ins c ns ds) (.ref a)
  | dK {a : Addr} {kvs : List (Key × V)} {ks : List Key} {ds : List D} (g : G a = none) (f : F a = none) (h : H a = some (.dK kvs)) (hn : kvs.map (·.1) = ks) (r : RDs K mg F ds (kvs.map (·.2))) : RS K mg G F H (.dK ks ds) (.ref a)
  | dT {a : Addr} {kvs : List (List Key × V)} {ks : List (List Key)} {ds : List D} (g : G a = none) (f : F a = none) (h : H a = some (.dT kvs)) (hn : kvs.map (·.1) = ks) (r : RDs K mg F ds (kvs.map (·.2))) : RS K mg G F H (.dT ks ds) (.ref a)

structure Rep (K : PySem.W.Frag) (mg : Str → Option Value) (G F : Hp) (st : S) (σ : L2.St) (H : Hp) : Prop where
  g : Kp K mg G H
  f : Ex F H
  nt : NT F
  len : st.length = σ.length
  at_ : ∀ (i : Nat) (sv : SV), st[i]? = some (some sv) → ∃ v, σ[i]? = some (some v) ∧ RS K mg G F H sv v
  one : ∀ (i j : Nat) (x y : SV) (v : V), st[i]? = some (some x) → st[j]? = some (some y) → x.own = true → y.own = true → σ[i]? = some (some v) → σ[j]? = some (some v) → i = j

def Gr (G F F' : Hp) : Prop := Ex F F' ∧ ∀ a o, F' a = some o → F a = some o ∨ G a = none
theorem Gr.refl {G : Hp} (F : Hp) : Gr G F F := ⟨Ex.refl F, fun _ _ h => .inl h⟩
theorem Gr.trans {G F1 F2 F3 : Hp} (a : Gr G F1 F2) (b : Gr G F2 F3) : Gr G F1 F3 := ⟨a.1.trans b.1, fun x o h => by
  rcases b.2 x o h with h | h
  · exact a.2 x o h
  · exact .inr h⟩
def Sep (st : S) (σ : L2.St) (sv : SV) (v : V) : Prop := sv.own = true → ∀ (j : Nat) (y : SV), st[j]? = some (some y) → y.own = true → σ[j]? ≠ some (some v)

abbrev DE := S → Option (SV × S)
/-- an expression's reading, by a plain function of the state -/
def tD (K : PySem.W.Frag) (mg : Str → Option Value) (d : DE) : TE := fun σ H Q => ∃ G F st sv st', Rep K mg G F st σ H ∧ d st = some (sv, st') ∧
  ∀ v F' H', Gr G F F' → Rep K mg G F' st' σ H' → RS K mg G F' H' sv v → Sep st' σ sv v → Q v H'
/-- .. its value frozen -/
def tF (K : PySem.W.Frag) (mg : Str → Option Value) (d : DE) : TE := fun σ H Q => ∃ G F st sv st', Rep K mg G F st σ H ∧ d st = some (sv, st') ∧
  ∀ v F' H', Gr G F F' → Rep K mg G F' st' σ H' → RD K mg F' sv.frz v → Q v H'
/-- a new object of ours at a is frozen -/
theorem RS.mono {G F F' H : Hp} {sv : SV} {v : V} (e : Ex F F') (h : RS K mg G F H sv v) (hn : sv.own = true → ∀ a, v = .ref a → F' a = none) : RS K mg G F' H sv v := by
  cases h with
  | imm r => exact .imm (r.mono e)
  | lst g f h r => exact .lst g (hn rfl _ rfl) h (r.mono e)
  | ins g f hc h hn' r => exact .ins g (hn rfl _ rfl) hc h hn' (r.mono e)
  | dK g f h hn' r => exact .dK g (hn rfl _ rfl) h hn' (r.mono e)
  | dT g f h hn' r => exact .dT g (hn rfl _ rfl) h hn' (r.mono e)
theorem freeze {G F H : Hp} {st : S} {σ : L2.St} {sv : SV} {v : V} (R : Rep K mg G F st σ H) (r : RS K mg G F H sv v) (s : Sep st σ sv v) :
    ∃ F', Gr G F F' ∧ Rep K mg G F' st σ H ∧ RD K mg F' sv.frz v := by
  have key : ∀ (a : Addr) (o : HO), v = .ref a → sv.own = true → G a = none → F a = none → H a = some o → (∀ ps, o ≠ .tbl ps) → Gr G F (upd F a o) ∧ Rep K mg G (upd F a o) st σ H := by
    intro a o hv ho hg hf hh no
    have e1 : Ex F (upd F a o) := Ex.new hf
    refine ⟨⟨e1, fun b u h => ?_⟩, ⟨R.g, fun b u h => ?_, R.nt.put a no, R.len, fun i x hi => ?_, R.one⟩⟩
    · by_cases hb : b = a
      · subst hb; exact .inr hg
      · rw [upd_ne hb] at h; exact .inl h
    · by_cases hb : b = a
      · subst hb; rw [upd_same] at h; cases h; exact hh
      · rw [upd_ne hb] at h; exact R.f b u h
    · obtain ⟨w, h1, h2⟩ := R.at_ i x hi
      refine ⟨w, h1, h2.mono e1 fun hx b hb => ?_⟩
      by_cases hba : b = a
      · subst hba
        exact absurd (by rw [h1, hb, hv]) (s ho i x hi hx)
      · rw [upd_ne hba]
        subst hb
        cases h2 with
        | imm _ => cases hx
        | lst _ f _ _ => exact f
        | ins _ f _ _ _ _ => exact f
        | dK _ f _ _ _ => exact f
        | dT _ f _ _ _ => exact f
  cases r with
  | imm r => exact ⟨F, Gr.refl F, R, r⟩
  | @lst a vs ds g f h r =>
    obtain ⟨k1, k2⟩ := key a _ rfl rfl g f h fun _ z => nomatch z
    exact ⟨_, k1, k2, .lst upd_same (r.mono k1.1)⟩
  | @ins a C dx c fs ns ds g f hc h hn r =>
    obtain ⟨k1, k2⟩ := key a _ rfl rfl g f h fun _ z => nomatch z
    exact ⟨_, k1, k2, .ins hc upd_same hn (r.mono k1.1)⟩
  | @dK a kvs ks ds g f h hn r =>
    obtain ⟨k1, k2⟩ := key a _ rfl rfl g f h fun _ z => nomatch z
    exact ⟨_, k1, k2, .dK upd_same hn (r.mono k1.1)⟩
  | @dT a kvs ks ds g f h hn r =>
    obtain ⟨k1, k2⟩ := key a _ rfl rfl g f h fun _ z => nomatch z
    exact ⟨_, k1, k2, .dT upd_same hn (r.mono k1.1)⟩
theorem tF_tD {d : DE} {σ : L2.St} {H : Hp} {Q : VK} (h : tF K mg d σ H Q) : tD K mg d σ H Q := by
  obtain ⟨G, F, st, sv, st', R, e, k⟩ := h
  refine ⟨G, F, st, sv, st', R, e, fun v F1 H1 g1 R1 r1 s1 => ?_⟩
  obtain ⟨F2, g2, R2, r2⟩ := freeze R1 r1 s1
  exact k v F2 H1 (g1.trans g2) R2 r2
end

/-! ### judgements -/
structure SE (X : Cx) (e : Expr) (d : DE) : Prop where
  pe : PE X e (tD X.K X.mg d)
theorem pe_imp {X : Cx} {e : Expr} {t t' : TE} (h : PE X e t) (hi : ∀ σ H Q, t' σ H Q → t σ H Q) : PE X e t' := ⟨fun pins s σ H Q I q => h.run pins s σ H Q I (hi σ H Q q)⟩
theorem pt_imp {X : Cx} {e : Expr} {t t' : TT} (h : PT X e t) (hi : ∀ σ H Q, t' σ H Q → t σ H Q) : PT X e t' := ⟨fun pins s σ H Q I q => h.run pins s σ H Q I (hi σ H Q q)⟩
theorem pa_imp {X : Cx} {e : List Expr} {t t' : TA} (h : PA X e t) (hi : ∀ σ H Q, t' σ H Q → t σ H Q) : PA X e t' := ⟨fun pos pins s σ H Q I q => h.run pos pins s σ H Q I (hi σ H Q q)⟩
theorem ps_imp {X : Cx} {e : Stmt} {t t' : TS} (h : PS X e t) (hi : ∀ D σ H, t' D σ H → t D σ H) : PS X e t' := ⟨fun pins s σ H D I q => h.run pins s σ H D I (hi D σ H q)⟩
theorem pss_imp {X : Cx} {e : List Stmt} {t t' : TS} (h : PSs X e t) (hi : ∀ D σ H, t' D σ H → t D σ H) : PSs X e t' := ⟨fun pins s σ H D I q => h.run pins s σ H D I (hi D σ H q)⟩
theorem SE.pf {X : Cx} {e : Expr} {d : DE} (h : SE X e d) : PE X e (tF X.K X.mg d) := pe_imp h.pe fun _ _ _ => tF_tD

section
variable {X : Cx}
/-! ### names, constants -/
def dVar (i : Nat) : DE := fun st => match st[i]? with
  | some (some (.imm d)) => some (.imm d, st)
  | some (some sv) => some (.imm sv.frz, st.set i (some (.imm sv.frz)))
  | _ => none
def dTake (i : Nat) : DE := fun st => match st[i]? with
  | some (some (.imm d)) => some (.imm d, st)
  | some (some sv) => some (sv, st.set i none)
  | _ => none
theorem Rep.forget {K : PySem.W.Frag} {mg : Str → Option Value} {G F H : Hp} {st : S} {σ : L2.St} (R : Rep K mg G F st σ H) (i : Nat) : Rep K mg G F (st.set i none) σ H := by
  have back : ∀ (j : Nat) (x : SV), (st.set i none)[j]? = some (some x) → j ≠ i ∧ st[j]? = some (some x) := fun j x h => by
    by_cases hj : i = j
    · subst hj
      by_cases hl : i < st.length
      · rw [List.getElem?_set_self hl] at h; cases h
      · rw [List.getElem?_eq_none (by simpa using hl)] at h; cases h
    · rw [List.getElem?_set_ne hj] at h; exact ⟨fun e => hj e.symm, h⟩
  exact ⟨R.g, R.f, R.nt, by rw [List.length_set]; exact R.len, fun j x h => R.at_ j x (back j x h).2, fun j k x y v h1 h2 => R.one j k x y v (back j x h1).2 (back k y h2).2⟩
theorem set_none_ne {st : S} {i j : Nat} {x : SV} (h : (st.set i none)[j]? = some (some x)) : j ≠ i ∧ st[j]? = some (some x) := by
  by_cases hj : i = j
  · subst hj
    by_cases hl : i < st.length
    · rw [List.getElem?_set_self hl] at h; cases h
    · rw [List.getElem?_eq_none (by simpa using hl)] at h; cases h
  · rw [List.getElem?_set_ne hj] at h; exact ⟨fun e => hj e.symm, h⟩
/-- slot i gets a value -/
theorem Rep.put {K : PySem.W.Frag} {mg : Str → Option Value} {G F H : Hp} {st : S} {σ : L2.St} {i : Nat} {sv : SV} {v : V} (R : Rep K mg G F st σ H) (r : RS K mg G F H sv v) (s : Sep (st.set i none) σ sv v) :
    Rep K mg G F (st.set i (some sv)) (σ.set i (some v)) H := by
  have back : ∀ (j : Nat) (x : SV), (st.set i (some sv))[j]? = some (some x) → (j = i ∧ x = sv ∧ i < st.length) ∨ (j ≠ i ∧ st[j]? = some (some x)) := fun j x h => by
    by_cases hj : i = j
    · subst hj
      by_cases hl : i < st.length
      · rw [List.getElem?_set_self hl] at h; cases h; exact .inl ⟨rfl, rfl, hl⟩
      · rw [List.getElem?_eq_none (by simpa using hl)] at h; cases h
    · rw [List.getElem?_set_ne hj] at h; exact .inr ⟨fun e => hj e.symm, h⟩
  have nn : ∀ j x, j ≠ i → st[j]? = some (some x) → (st.set i none)[j]? = some (some x) := fun j x hj h => by rw [List.getElem?_set_ne (fun e => hj e.symm)]; exact h
  refine ⟨R.g, R.f, R.nt, by rw [List.length_set, List.length_set]; exact R.len, fun j x h => ?_, fun j k x y w h1 h2 o1 o2 e1 e2 => ?_⟩
  · rcases back j x h with ⟨rfl, rfl, hl⟩ | ⟨hj, h⟩
    · exact ⟨v, List.getElem?_set_self (by rw [← R.len]; exact hl), r⟩
    · rw [List.getElem?_set_ne (fun e => hj e.symm)]; exact R.at_ j x h
  · rcases back j x h1 with ⟨ej, ex, hl⟩ | ⟨hj, h1'⟩
    · rcases back k y h2 with ⟨ek, ey, hl2⟩ | ⟨hk, h2'⟩
      · rw [ej, ek]
      · rw [ej, List.getElem?_set_self (by rw [← R.len]; exact hl)] at e1
        rw [List.getElem?_set_ne (fun e => hk e.symm)] at e2
        cases e1
        rw [ex] at o1
        exact absurd e2 (s o1 k y (nn k y hk h2') o2)
    · rw [List.getElem?_set_ne (fun e => hj e.symm)] at e1
      rcases back k y h2 with ⟨ek, ey, hl2⟩ | ⟨hk, h2'⟩
      · rw [ek, List.getElem?_set_self (by rw [← R.len]; exact hl2)] at e2
        cases e2
        rw [ey] at o2
        exact absurd e1 (s o2 j x (nn j x hj h1') o1)
      · rw [List.getElem?_set_ne (fun e => hk e.symm)] at e2
        exact R.one j k x y w h1' h2' o1 o2 e1 e2
theorem set_self {σ : L2.St} {i : Nat} {v : V} (h : σ[i]? = some (some v)) : σ.set i (some v) = σ := by
  apply List.ext_getElem?
  intro j
  by_cases hj : i = j
  · subst hj
    rw [List.getElem?_set_self (by have := List.getElem?_eq_some_iff.mp h; exact this.1), h]
  · rw [List.getElem?_set_ne hj]
/-- what slot i holds, taken out -/
theorem Rep.out {K : PySem.W.Frag} {mg : Str → Option Value} {G F H : Hp} {st : S} {σ : L2.St} {i : Nat} {sv : SV} (R : Rep K mg G F st σ H) (h : st[i]? = some (some sv)) :
    ∃ v, σ[i]? = some (some v) ∧ RS K mg G F H sv v ∧ Sep (st.set i none) σ sv v := by
  obtain ⟨v, h1, h2⟩ := R.at_ i sv h
  refine ⟨v, h1, h2, fun ho j y hj oy e => ?_⟩
  obtain ⟨hne, hj⟩ := set_none_ne hj
  exact hne (R.one j i y sv v hj h oy ho e h1)
theorem se_var {i : Nat} {x : Str} {pos : Pos} (hN : X.N[i]? = some x) (hv : Vis X.env.scope x) (hd : (x == ("__debug__" : Str)) = false := by decide) (hcd : (x == ("__classdict__" : Str)) = false := by decide) : SE X (.Name x pos) (dVar i) := by
  refine ⟨pe_imp (pe_var hN hv hd hcd) fun σ H Q h => ?_⟩
  obtain ⟨G, F, st, sv, st', R, e, k⟩ := h
  unfold dVar at e
  split at e
  · rename_i d hd
    cases e
    obtain ⟨v, h1, h2⟩ := R.at_ i _ hd
    exact ⟨v, h1, k v F H (Gr.refl F) R h2 fun z => by cases z⟩
  · rename_i sv2 _ hsv
    cases e
    obtain ⟨v, h1, h2, h3⟩ := R.out hsv
    obtain ⟨F', g, R', r'⟩ := freeze (R.forget i) h2 h3
    have R2 := R'.put (i := i) (.imm r') (fun z => by cases z)
    rw [set_self h1] at R2
    have e2 : (st.set i none).set i (some (SV.imm sv2.frz)) = st.set i (some (.imm sv2.frz)) := List.set_set ..
    rw [e2] at R2
    exact ⟨v, h1, k v F' H g R2 (.imm r') fun z => by cases z⟩
  · cases e
theorem se_take {i : Nat} {x : Str} {pos : Pos} (hN : X.N[i]? = some x) (hv : Vis X.env.scope x) (hd : (x == ("__debug__" : Str)) = false := by decide) (hcd : (x == ("__classdict__" : Str)) = false := by decide) : SE X (.Name x pos) (dTake i) := by
  refine ⟨pe_imp (pe_var hN hv hd hcd) fun σ H Q h => ?_⟩
  obtain ⟨G, F, st, sv, st', R, e, k⟩ := h
  unfold dTake at e
  split at e
  · rename_i d hd
    cases e
    obtain ⟨v, h1, h2⟩ := R.at_ i _ hd
    exact ⟨v, h1, k v F H (Gr.refl F) R h2 fun z => by cases z⟩
  · rename_i sv2 _ hsv
    cases e
    obtain ⟨v, h1, h2, h3⟩ := R.out hsv
    exact ⟨v, h1, k v F H (Gr.refl F) (R.forget i) h2 h3⟩
  · cases e
def dC (d : D) : DE := fun st => some (.imm d, st)
theorem se_c {e : Expr} {v : V} {d : D} (h : PE X e (tC v)) (r : ∀ F, RD X.K X.mg F d v) : SE X e (dC d) := by
  refine ⟨pe_imp h fun σ H Q h => ?_⟩
  obtain ⟨G, F, st, sv, st', R, e, k⟩ := h
  cases e
  exact k v F H (Gr.refl F) R (.imm (r F)) fun z => by cases z
theorem se_int {i : Int} {j pos} : SE X (.Constant (.int i) j pos) (dC (.int i)) := se_c pe_int fun _ => .int i
theorem se_bl {i : Bool} {j pos} : SE X (.Constant (.bool i) j pos) (dC (.bl i)) := se_c pe_bl fun _ => .bl i
theorem se_str {i : Str} {j pos} : SE X (.Constant (.str i) j pos) (dC (.str i)) := se_c pe_str fun _ => .str i
theorem se_non {j pos} : SE X (.Constant .none j pos) (dC .non) := se_c pe_non fun _ => .non
end
end Sm
/-! Operators. -/
namespace Sm
open PySem L2 Evl PyProof.Rows

/-! ### what an operator gives -/
def D.v : D → Option V
  | .non => some .non
  | .bl b => some (.bl b)
  | .int i => some (.int i)
  | .str x => some (.str x)
  | _ => none
mutual
def D.py : D → Option PyData
  | .non => some .none
  | .bl b => some (.bool b)
  | .int i => some (.int i)
  | .str x => some (.str x)
  | .tup xs => (D.pys xs).map .tuple
  | .lst xs => (D.pys xs).map .list
  | _ => none
def D.pys : List D → Option (List PyData)
  | [] => some []
  | x :: xs => match D.py x with
    | none => none
    | some p => (D.pys xs).map (p :: ·)
end
def oAdd : D → D → Option SV
  | .int i, .int j => some (.imm (.int (i + j)))
  | .lst xs, .lst ys => if xs.length + ys.length ≤ 100000 then some (.lst (xs ++ ys)) else none
  | .tup xs, .tup ys => if xs.length + ys.length ≤ 100000 then some (.imm (.tup (xs ++ ys))) else none
  | .str x, .str y => if x.length + y.length ≤ 100000 then some (.imm (.str (x ++ y))) else none
  | _, _ => none
def oSub : D → D → Option SV
  | .int i, .int j => some (.imm (.int (i - j)))
  | _, _ => none
noncomputable def oMul : D → D → Option SV
  | .int i, .int j => if (-B64 < i ∧ i < B64) ∨ (-B64 < j ∧ j < B64) then some (.imm (.int (i * j))) else none
  | .lst xs, .int k => if k ≤ 1000 ∧ 0 ≤ k ∧ xs.length ≤ 100 then some (.lst (List.replicate k.toNat xs).flatten) else none
  | .tup xs, .int k => if 2 ≤ k ∧ k ≤ 1000 ∧ xs.length ≤ 100 ∧ xs ≠ [] then some (.imm (.tup (List.replicate k.toNat xs).flatten)) else none
  | _, _ => none
noncomputable def oDiv : D → D → Option SV
  | .int i, .int j => if 0 < j ∧ j < B30 then some (.imm (.int (i / j))) else none
  | _, _ => none
def oMod : D → D → Option SV
  | .int i, .int j => if 0 < j then some (.imm (.int (i % j))) else none
  | _, _ => none
noncomputable def oPow : D → D → Option SV
  | .int i, .int j => if 0 ≤ j ∧ j ≤ B20 ∧ -B64 < i ∧ i < B64 then some (.imm (.int (i ^ j.toNat))) else none
  | _, _ => none
def oInt (p : Int → Int → Bool) : D → D → Option SV
  | .int i, .int j => some (.imm (.bl (p i j)))
  | _, _ => none
def oEq (neg : Bool) : D → D → Option SV := fun x y => match x.py, y.py with
  | some p, some q => if SeqAt.shaped p = true ∧ SeqAt.shaped q = true then some (.imm (.bl (if neg then !PyData.eqv p q else PyData.eqv p q))) else none
  | _, _ => none
def isNon : D → Bool
  | .non => true
  | _ => false
def oIs (neg : Bool) : D → D → Option SV := fun x y => match y with
  | .non => some (.imm (.bl (if neg then !isNon x else isNon x)))
  | _ => none
def oIn (neg : Bool) : D → D → Option SV := fun x y => match x.v, y with
  | some v, .lst xs => match xs.mapM D.v with
    | some vs => some (.imm (.bl (if neg then !inV v vs else inV v vs)))
    | none => none
  | some v, .tup xs => match xs.mapM D.v with
    | some vs => some (.imm (.bl (if neg then !inV v vs else inV v vs)))
    | none => none
  | _, _ => none

section
variable {K : PySem.W.Frag} {mg : Str → Option Value} {G F H : Hp} {st : S} {σ : L2.St}
theorem Rep.fresh {a : Addr} (R : Rep K mg G F st σ H) (h : H a = none) : G a = none ∧ F a = none := ⟨R.g.back h, fresh_back R.f h⟩
/-- a new object laid: nothing else changes -/
theorem RS.laid {F' : Hp} {sv : SV} {v : V} {p : Addr} {o : HO} (r : RS K mg G F H sv v) (hp : H p = none) (e : Ex F F') (hF : ∀ a, F' a ≠ none → a = p ∨ F a ≠ none) : RS K mg G F' (upd H p o) sv v := by
  have ne : ∀ a u, H a = some u → a ≠ p := fun a u h z => by rw [z, hp] at h; cases h
  have kf : ∀ a u, H a = some u → F a = none → F' a = none := fun a u h hf => by
    cases q : F' a with
    | none => rfl
    | some w =>
      rcases hF a (by rw [q]; exact fun z => by cases z) with z | z
      · exact absurd z (ne a u h)
      · exact absurd hf z
  cases r with
  | imm r => exact .imm (r.mono e)
  | lst g f h r => exact .lst g (kf _ _ h f) (by rw [upd_ne (ne _ _ h)]; exact h) (r.mono e)
  | ins g f hc h hn r => exact .ins g (kf _ _ h f) hc (by rw [upd_ne (ne _ _ h)]; exact h) hn (r.mono e)
  | dK g f h hn r => exact .dK g (kf _ _ h f) (by rw [upd_ne (ne _ _ h)]; exact h) hn (r.mono e)
  | dT g f h hn r => exact .dT g (kf _ _ h f) (by rw [upd_ne (ne _ _ h)]; exact h) hn (r.mono e)
theorem Rep.laid {p : Addr} {o : HO} (R : Rep K mg G F st σ H) (hp : H p = none) : Rep K mg G F st σ (upd H p o) :=
  ⟨R.g.new hp, R.f.trans (Ex.new hp), R.nt, R.len, fun i sv h => by
    obtain ⟨v, h1, h2⟩ := R.at_ i sv h
    exact ⟨v, h1, h2.laid hp (Ex.refl F) fun a h => .inr h⟩, R.one⟩
/-- a new object that is frozen at once -/
theorem Rep.laidF {p : Addr} {o : HO} (R : Rep K mg G F st σ H) (hp : H p = none) (no : ∀ ps, o ≠ .tbl ps) : Gr G F (upd F p o) ∧ Rep K mg G (upd F p o) st σ (upd H p o) := by
  have hf := (R.fresh hp).2
  refine ⟨⟨Ex.new hf, fun a u h => ?_⟩, ⟨R.g.new hp, fun a u h => ?_, R.nt.put p no, R.len, fun i sv h => ?_, R.one⟩⟩
  · by_cases ha : a = p
    · subst ha; exact .inr (R.fresh hp).1
    · rw [upd_ne ha] at h; exact .inl h
  · by_cases ha : a = p
    · subst ha; rw [upd_same] at h ⊢; exact h
    · rw [upd_ne ha] at h ⊢; exact R.f a u h
  · obtain ⟨v, h1, h2⟩ := R.at_ i sv h
    refine ⟨v, h1, h2.laid hp (Ex.new hf) fun a h => ?_⟩
    by_cases ha : a = p
    · exact .inl ha
    · rw [upd_ne ha] at h; exact .inr h
theorem Sep.fresh {p : Addr} {sv : SV} (R : Rep K mg G F st σ H) (hp : H p = none) : Sep st σ sv (.ref p) := fun _ j y hj oy e => by
  obtain ⟨v, h1, h2⟩ := R.at_ j y hj
  rw [h1] at e
  cases e
  cases h2 with
  | imm _ => cases oy
  | lst _ _ h _ => rw [hp] at h; cases h
  | ins _ _ _ h _ _ => rw [hp] at h; cases h
  | dK _ _ h _ _ => rw [hp] at h; cases h
  | dT _ _ h _ _ => rw [hp] at h; cases h
theorem Sep.imm {d : D} {v : V} : Sep st σ (.imm d) v := fun z => by cases z
/-- what is to be shown of a result -/
def Kn (K : PySem.W.Frag) (mg : Str → Option Value) (G F : Hp) (st : S) (σ : L2.St) (sv : SV) (Q : VK) : Prop :=
  ∀ v F' H', Gr G F F' → Rep K mg G F' st σ H' → RS K mg G F' H' sv v → Sep st σ sv v → Q v H'
theorem Kn.imm {d : D} {v : V} {Q : VK} (k : Kn K mg G F st σ (.imm d) Q) (R : Rep K mg G F st σ H) (r : RD K mg F d v) : Q v H := k v F H (Gr.refl F) R (.imm r) Sep.imm
theorem Kn.newL {ds : List D} {vs : List V} {p : Addr} {Q : VK} (k : Kn K mg G F st σ (.lst ds) Q) (R : Rep K mg G F st σ H) (hp : H p = none) (r : RDs K mg F ds vs) : Q (.ref p) (upd H p (.lst vs)) :=
  k _ F _ (Gr.refl F) (R.laid hp) (.lst (R.fresh hp).1 (R.fresh hp).2 upd_same r) (Sep.fresh R hp)
theorem Kn.newT {ds : List D} {vs : List V} {p : Addr} {Q : VK} (k : Kn K mg G F st σ (.imm (.tup ds)) Q) (R : Rep K mg G F st σ H) (hp : H p = none) (r : RDs K mg F ds vs) : Q (.ref p) (upd H p (.tup vs)) := by
  obtain ⟨g, R'⟩ := R.laidF (o := .tup vs) hp fun _ z => nomatch z
  exact k _ _ _ g R' (.imm (.tup upd_same (r.mono g.1))) Sep.imm
theorem D.v_rd {d : D} {w v : V} (h : d.v = some w) (r : RD K mg F d v) : v = w ∧ flatV w = true := by
  cases d <;> simp [D.v] at h <;> subst h <;> cases r <;> exact ⟨rfl, rfl⟩
theorem D.vs_rd : ∀ {ds : List D} {ws vs : List V}, ds.mapM D.v = some ws → RDs K mg F ds vs → vs = ws ∧ ws.all flatV = true
  | [], ws, _, h, .nil => by simp at h; subst h; exact ⟨rfl, rfl⟩
  | d :: ds, ws, _, h, .cons r t => by
    rw [List.mapM_cons] at h
    cases e1 : d.v with
    | none => rw [e1] at h; cases h
    | some w =>
      cases e2 : ds.mapM D.v with
      | none => rw [e1, e2] at h; cases h
      | some us =>
        rw [e1, e2] at h
        cases h
        obtain ⟨a, b⟩ := D.v_rd e1 r
        obtain ⟨c, d⟩ := D.vs_rd e2 t
        subst a c
        exact ⟨rfl, by rw [List.all_cons, b, d]; rfl⟩
mutual
theorem D.py_rd {H : Hp} (e : Ex F H) : ∀ {d : D} {v : V} {p : PyData}, RD K mg F d v → d.py = some p → Dp K H v p
  | _, _, _, .non, h => by cases h; exact .non
  | _, _, _, .bl b, h => by cases h; exact .bl b
  | _, _, _, .int b, h => by cases h; exact .int b
  | _, _, _, .str b, h => by cases h; exact .str b
  | _, _, _, .ty _, h => by cases h
  | _, _, _, .tup (ds := ds) s r, h => by
    unfold D.py at h
    cases q : D.pys ds with
    | none => rw [q] at h; cases h
    | some ps => rw [q] at h; cases h; exact .tup (.inl (.inl (e _ _ s))) (D.pys_rd e r q)
  | _, _, _, .ktup (ds := ds) s r, h => by
    unfold D.py at h
    cases q : D.pys ds with
    | none => rw [q] at h; cases h
    | some ps => rw [q] at h; cases h; exact .tup (.inr s) (D.pys_rd e r q)
  | _, _, _, .lst (ds := ds) s r, h => by
    unfold D.py at h
    cases q : D.pys ds with
    | none => rw [q] at h; cases h
    | some ps => rw [q] at h; cases h; exact .lst (.inl (.inl (e _ _ s))) (D.pys_rd e r q)
  | _, _, _, .scr _, h => by cases h
  | _, _, _, .cls _, h => by cases h
  | _, _, _, .ins _ _ _ _, h => by cases h
  | _, _, _, .exc _ _ _ _ _, h => by cases h
theorem D.pys_rd {H : Hp} (e : Ex F H) : ∀ {ds : List D} {vs : List V} {ps : List PyData}, RDs K mg F ds vs → D.pys ds = some ps → DpAll K H vs ps
  | _, _, _, .nil, h => by cases h; exact .nil
  | _, _, _, .cons (d := d) (ds := ds) r t, h => by
    unfold D.pys at h
    cases q : D.py d with
    | none => rw [q] at h; cases h
    | some p =>
      rw [q] at h
      cases q2 : D.pys ds with
      | none => rw [q2] at h; cases h
      | some ps => rw [q2] at h; cases h; exact .cons (D.py_rd e r q) (D.pys_rd e t q2)
end
end

def OpS (X : Cx) (f : Value → Value → Sem Value) (o : D → D → Option SV) : Prop := ∃ r : R2, OpR X f r ∧
  ∀ {G F H : Hp} {st : S} {σ : L2.St} {dx dy : D} {x y : V} {sv : SV} {Q : VK}, Rep X.K X.mg G F st σ H → RD X.K X.mg F dx x → RD X.K X.mg F dy y → o dx dy = some sv → Kn X.K X.mg G F st σ sv Q → r x y H Q
def dOp (o : D → D → Option SV) (f g : DE) : DE := fun st => match f st with
  | none => none
  | some (x, s1) => match g s1 with
    | none => none
    | some (y, s2) => match o x.frz y.frz with
      | none => none
      | some z => some (z, s2)
section
variable {X : Cx} {a b c : Expr} {f g h : DE} {o o' : D → D → Option SV} {pos : Pos}
theorem dOp_inv {st st' : S} {sv : SV} (e : dOp o f g st = some (sv, st')) : ∃ x s1 y, f st = some (x, s1) ∧ g s1 = some (y, st') ∧ o x.frz y.frz = some sv := by
  unfold dOp at e
  split at e
  · cases e
  · rename_i x s1 e1
    split at e
    · cases e
    · rename_i y s2 e2
      split at e
      · cases e
      · rename_i z e3
        cases e
        exact ⟨x, s1, y, e1, e2, e3⟩
theorem tOp_of {r : R2} (hr : ∀ {G F H : Hp} {st : S} {σ : L2.St} {dx dy : D} {x y : V} {sv : SV} {Q : VK}, Rep X.K X.mg G F st σ H → RD X.K X.mg F dx x → RD X.K X.mg F dy y → o dx dy = some sv → Kn X.K X.mg G F st σ sv Q → r x y H Q)
    {σ : L2.St} {H : Hp} {Q : VK} (h : tD X.K X.mg (dOp o f g) σ H Q) : tOp r (tF X.K X.mg f) (tF X.K X.mg g) σ H Q := by
  obtain ⟨G, F, st, sv, st', R, e, k⟩ := h
  obtain ⟨x, s1, y, e1, e2, e3⟩ := dOp_inv e
  refine ⟨G, F, st, x, s1, R, e1, fun v F1 H1 g1 R1 r1 => ⟨G, F1, s1, y, st', R1, e2, fun u F2 H2 g2 R2 r2 => ?_⟩⟩
  exact hr R2 (r1.mono g2.1) r2 e3 fun w F3 H3 g3 R3 r3 s3 => k w F3 H3 ((g1.trans g2).trans g3) R3 r3 s3
theorem se_op {op : Operator} (ho : OpS X (binaryOp op) o) (ha : SE X a f) (hb : SE X b g) : SE X (.BinOp a op b pos) (dOp o f g) := by
  obtain ⟨r, h1, h2⟩ := ho
  exact ⟨pe_imp (pe_op h1 ha.pf hb.pf) fun σ H Q q => tOp_of h2 q⟩
theorem se_cmp {op : CmpOp} (ho : OpS X (compareOp op) o) (ha : SE X a f) (hb : SE X b g) (hm : behindInMarks op b = false) : SE X (.Compare a [op] [b] pos) (dOp o f g) := by
  obtain ⟨r, h1, h2⟩ := ho
  exact ⟨pe_imp (pe_cmpR h1 ha.pf hb.pf hm) fun σ H Q q => tOp_of h2 q⟩
/-- a < b < c -/
def dChain (o o' : D → D → Option SV) (f g h : DE) : DE := fun st => match f st with
  | none => none
  | some (x, s1) => match g s1 with
    | none => none
    | some (y, s2) => match o x.frz y.frz with
      | some (.imm (.bl true)) => (match h s2 with
        | none => none
        | some (z, s3) => match o' y.frz z.frz with
          | none => none
          | some w => some (w, s3))
      | some (.imm (.bl false)) => some (.imm (.bl false), s2)
      | _ => none
theorem chain_of {r r' : R2} (h2 : ∀ {G F H : Hp} {st : S} {σ : L2.St} {dx dy : D} {x y : V} {sv : SV} {Q : VK}, Rep X.K X.mg G F st σ H → RD X.K X.mg F dx x → RD X.K X.mg F dy y → o dx dy = some sv → Kn X.K X.mg G F st σ sv Q → r x y H Q)
    (h2' : ∀ {G F H : Hp} {st : S} {σ : L2.St} {dx dy : D} {x y : V} {sv : SV} {Q : VK}, Rep X.K X.mg G F st σ H → RD X.K X.mg F dx x → RD X.K X.mg F dy y → o' dx dy = some sv → Kn X.K X.mg G F st σ sv Q → r' x y H Q)
    {σ : L2.St} {H : Hp} {Q : VK} (q : tD X.K X.mg (dChain o o' f g h) σ H Q) : tChain r r' (tF X.K X.mg f) (tF X.K X.mg g) (tF X.K X.mg h) σ H Q := by
  obtain ⟨G, F, st, sv, st', R, e, k⟩ := q
  unfold dChain at e
  split at e
  · cases e
  rename_i x s1 e1
  split at e
  · cases e
  rename_i y s2 e2
  split at e
  · rename_i e3
    split at e
    · cases e
    rename_i z s3 e4
    split at e
    · cases e
    rename_i w e5
    cases e
    refine ⟨G, F, st, x, s1, R, e1, fun v F1 H1 g1 R1 r1 => ⟨G, F1, s1, y, s2, R1, e2, fun u F2 H2 g2 R2 r2 => ?_⟩⟩
    refine h2 R2 (r1.mono g2.1) r2 e3 fun w' F3 H3 g3 R3 r3 _ => ?_
    cases r3 with | imm r3 => ?_
    refine ⟨true, r3.bl_inv, ?_⟩
    rw [if_pos rfl]
    refine ⟨G, F3, s2, z, _, R3, e4, fun v4 F4 H4 g4 R4 r4 => ?_⟩
    exact h2' R4 (r2.mono (g3.1.trans g4.1)) r4 e5 fun w F5 H5 g5 R5 r5 s5 => k w F5 H5 ((((g1.trans g2).trans g3).trans g4).trans g5) R5 r5 s5
  · rename_i e3
    cases e
    refine ⟨G, F, st, x, s1, R, e1, fun v F1 H1 g1 R1 r1 => ⟨G, F1, s1, y, _, R1, e2, fun u F2 H2 g2 R2 r2 => ?_⟩⟩
    refine h2 R2 (r1.mono g2.1) r2 e3 fun w' F3 H3 g3 R3 r3 _ => ?_
    cases r3 with | imm r3 => ?_
    refine ⟨false, r3.bl_inv, ?_⟩
    rw [if_neg Bool.false_ne_true]
    exact k _ F3 H3 ((g1.trans g2).trans g3) R3 (.imm (.bl false)) Sep.imm
  · cases e
theorem se_chain {op op' : CmpOp} (ho : OpS X (compareOp op) o) (ho' : OpS X (compareOp op') o') (ha : SE X a f) (hb : SE X b g) (hc : SE X c h) (hm : lastMarks [op, op'] [b, c] = false) : SE X (.Compare a [op, op'] [b, c] pos) (dChain o o' f g h) := by
  obtain ⟨r, h1, h2⟩ := ho
  obtain ⟨r', h1', h2'⟩ := ho'
  exact ⟨pe_imp (pe_chain h1 h1' ha.pf hb.pf hc.pf hm) fun σ H Q q => chain_of h2 h2' q⟩
end

section
variable {X : Cx}
theorem small_line {n : Nat} (h : n ≤ 100000) : n ≤ sizeLine := sz_of h
theorem flat_len {α : Type} (xs : List α) : ∀ n : Nat, (List.replicate n xs).flatten.length = n * xs.length
  | 0 => by simp
  | n + 1 => by rw [List.replicate_succ, List.flatten_cons, List.length_append, flat_len xs n, Nat.succ_mul, Nat.add_comm]
theorem RDs.flat {K : PySem.W.Frag} {mg : Str → Option Value} {F : Hp} {ds : List D} {vs : List V} (r : RDs K mg F ds vs) : ∀ n : Nat, RDs K mg F (List.replicate n ds).flatten (List.replicate n vs).flatten
  | 0 => by simpa using RDs.nil
  | n + 1 => by rw [List.replicate_succ, List.flatten_cons, List.replicate_succ, List.flatten_cons]; exact r.append (r.flat n)
theorem os_add : OpS X (binaryOp .Add) oAdd := by
  refine ⟨_, (op_add.or op_cat).or (op_catA.or op_add_str), ?_⟩
  intro G F H st σ dx dy x y sv Q R rx ry e k
  unfold oAdd at e
  split at e
  · cases e
    cases rx; cases ry
    exact .inl (.inl ⟨_, _, rfl, rfl, k.imm R (.int _)⟩)
  · rename_i xs ys
    split at e
    · rename_i hl
      cases e
      obtain ⟨a, vs, rfl, ha, ra⟩ := rx.lst_inv
      obtain ⟨b, ws, rfl, hb, rb⟩ := ry.lst_inv
      exact .inl (.inr ⟨a, b, vs, ws, rfl, rfl, R.f _ _ ha, R.f _ _ hb, small_line (by rw [← ra.length, ← rb.length]; exact hl), fun p hp => k.newL R hp (ra.append rb)⟩)
    · cases e
  · rename_i xs ys
    split at e
    · rename_i hl
      cases e
      obtain ⟨a, vs, rfl, ha, ra⟩ := rx.tup_inv
      obtain ⟨b, ws, rfl, hb, rb⟩ := ry.tup_inv
      refine .inr (.inl ⟨a, b, vs, ws, rfl, rfl, ex_t R.f ha, ex_t R.f hb, small_line (by rw [← ra.length, ← rb.length]; exact hl), fun e => ?_, fun e1 e => ?_, fun _ _ p hp => k.newT R hp (ra.append rb)⟩)
      · subst e
        cases ra
        exact k.imm R (by simpa using ry)
      · subst e
        cases rb
        exact k.imm R (by simpa using rx)
    · cases e
  · split at e
    · rename_i hl
      cases e
      cases rx; cases ry
      exact .inr (.inr ⟨_, _, rfl, rfl, small_line hl, k.imm R (.str _)⟩)
    · cases e
  · cases e
theorem os_sub : OpS X (binaryOp .Sub) oSub := by
  refine ⟨_, op_sub, ?_⟩
  intro G F H st σ dx dy x y sv Q R rx ry e k
  unfold oSub at e
  split at e
  · cases e
    cases rx; cases ry
    exact ⟨_, _, rfl, rfl, k.imm R (.int _)⟩
  · cases e
theorem os_mul : OpS X (binaryOp .Mult) oMul := by
  refine ⟨_, op_mul.or (op_rep.or op_repT), ?_⟩
  intro G F H st σ dx dy x y sv Q R rx ry e k
  unfold oMul at e
  split at e
  · split at e
    · rename_i hc
      cases e
      cases rx; cases ry
      exact .inl ⟨_, _, rfl, rfl, by rw [B64_eq] at hc; exact hc, k.imm R (.int _)⟩
    · cases e
  · split at e
    · rename_i xs kk hc
      cases e
      cases ry
      obtain ⟨a, vs, rfl, ha, ra⟩ := rx.lst_inv
      obtain ⟨h1, h0, h2⟩ := hc
      refine .inr (.inl ⟨a, _, vs, rfl, rfl, R.f _ _ ha, by omega, by omega, small_line ?_, fun p hp => k.newL R hp (ra.flat _)⟩)
      have h3 : kk.toNat ≤ 1000 := by omega
      have h4 : vs.length ≤ 100 := by rw [← ra.length]; exact h2
      exact Nat.le_trans (Nat.mul_le_mul h4 h3) (by decide)
    · cases e
  · split at e
    · rename_i xs kk hc
      cases e
      cases ry
      obtain ⟨a, vs, rfl, ha, ra⟩ := rx.tup_inv
      obtain ⟨h1, h0, h2, h3⟩ := hc
      refine .inr (.inr ⟨a, _, vs, rfl, rfl, ex_t R.f ha, fun z => h3 ?_, h1, h0, ?_, fun p hp => k.newT R hp (ra.flat _)⟩)
      · subst z
        cases ra
        rfl
      · rw [← ra.length]; omega
    · cases e
  · cases e
theorem os_div : OpS X (binaryOp .FloorDiv) oDiv := by
  refine ⟨_, op_fdiv, ?_⟩
  intro G F H st σ dx dy x y sv Q R rx ry e k
  unfold oDiv at e
  split at e
  · split at e
    · rename_i hc
      cases e
      cases rx; cases ry
      exact ⟨_, _, rfl, rfl, by rw [B30_eq] at hc; exact hc, k.imm R (.int _)⟩
    · cases e
  · cases e
theorem os_mod : OpS X (binaryOp .Mod) oMod := by
  refine ⟨_, op_mod, ?_⟩
  intro G F H st σ dx dy x y sv Q R rx ry e k
  unfold oMod at e
  split at e
  · split at e
    · rename_i hc
      cases e
      cases rx; cases ry
      exact ⟨_, _, rfl, rfl, hc, k.imm R (.int _)⟩
    · cases e
  · cases e
theorem os_pow : OpS X (binaryOp .Pow) oPow := by
  refine ⟨_, op_pow, ?_⟩
  intro G F H st σ dx dy x y sv Q R rx ry e k
  unfold oPow at e
  split at e
  · split at e
    · rename_i hc
      cases e
      cases rx; cases ry
      exact ⟨_, _, rfl, rfl, by rw [B64_eq, B20_eq] at hc; exact ⟨hc.1, hc.2.1, by omega⟩, k.imm R (.int _)⟩
    · cases e
  · cases e
theorem os_int {op : CmpOp} {p : Int → Int → Bool} (h : OpR X (compareOp op) (rI0 fun i j => .bl (p i j))) : OpS X (compareOp op) (oInt p) := by
  refine ⟨_, h, ?_⟩
  intro G F H st σ dx dy x y sv Q R rx ry e k
  unfold oInt at e
  split at e
  · cases e
    cases rx; cases ry
    exact ⟨_, _, rfl, rfl, k.imm R (.bl _)⟩
  · cases e
theorem os_lt : OpS X (compareOp .Lt) (oInt fun i j => decide (i < j)) := os_int op_lt
theorem os_le : OpS X (compareOp .LtE) (oInt fun i j => decide (i ≤ j)) := os_int op_le
theorem os_gt : OpS X (compareOp .Gt) (oInt fun i j => decide (j < i)) := os_int op_gt
theorem os_ge : OpS X (compareOp .GtE) (oInt fun i j => decide (j ≤ i)) := os_int op_ge
theorem os_eq (hu : X.A.units + 64 < cLine) : OpS X (compareOp .Eq) (oEq false) := by
  refine ⟨_, op_eqD hu, ?_⟩
  intro G F H st σ dx dy x y sv Q R rx ry e k
  unfold oEq at e
  split at e
  · rename_i p q e1 e2
    split at e
    · rename_i hs
      cases e
      exact ⟨p, q, D.py_rd R.f rx e1, D.py_rd R.f ry e2, hs.1, hs.2, k.imm R (.bl _)⟩
    · cases e
  · cases e
theorem os_ne (hu : X.A.units + 64 < cLine) : OpS X (compareOp .NotEq) (oEq true) := by
  refine ⟨_, op_neD hu, ?_⟩
  intro G F H st σ dx dy x y sv Q R rx ry e k
  unfold oEq at e
  split at e
  · rename_i p q e1 e2
    split at e
    · rename_i hs
      cases e
      exact ⟨p, q, D.py_rd R.f rx e1, D.py_rd R.f ry e2, hs.1, hs.2, k.imm R (.bl _)⟩
    · cases e
  · cases e
theorem isNon_rd {K : PySem.W.Frag} {mg : Str → Option Value} {F : Hp} {d : D} {v : V} (r : RD K mg F d v) : decide (v = .non) = isNon d := by
  cases r <;> rfl
theorem os_is : OpS X (compareOp .Is) (oIs false) := by
  refine ⟨_, op_isN, ?_⟩
  intro G F H st σ dx dy x y sv Q R rx ry e k
  unfold oIs at e
  split at e
  · cases e
    cases ry
    refine ⟨rfl, ?_⟩
    rw [isNon_rd rx]
    exact k.imm R (.bl _)
  · cases e
theorem os_isnot : OpS X (compareOp .IsNot) (oIs true) := by
  refine ⟨_, op_notN, ?_⟩
  intro G F H st σ dx dy x y sv Q R rx ry e k
  unfold oIs at e
  split at e
  · cases e
    cases ry
    refine ⟨rfl, ?_⟩
    rw [isNon_rd rx]
    exact k.imm R (.bl _)
  · cases e
theorem os_inG {op : CmpOp} {neg : Bool} (ho : OpR X (compareOp op) (rIn X.K neg)) : OpS X (compareOp op) (oIn neg) := by
  refine ⟨_, ho, ?_⟩
  intro G F H st σ dx dy x y sv Q R rx ry e k
  unfold oIn at e
  split at e
  · rename_i v xs ev
    split at e
    · rename_i vs ew
      cases e
      obtain ⟨h1, h2⟩ := D.v_rd ev rx
      obtain ⟨a, us, rfl, ha, ra⟩ := ry.lst_inv
      obtain ⟨h3, h4⟩ := D.vs_rd ew ra
      subst h1 h3
      exact ⟨a, us, rfl, .inl (.inl (.inl (R.f _ _ ha))), h2, h4, k.imm R (.bl _)⟩
    · cases e
  · rename_i v xs ev
    split at e
    · rename_i vs ew
      cases e
      obtain ⟨h1, h2⟩ := D.v_rd ev rx
      obtain ⟨a, us, rfl, ha, ra⟩ := ry.tup_inv
      obtain ⟨h3, h4⟩ := D.vs_rd ew ra
      subst h1 h3
      exact ⟨a, us, rfl, .inr (ex_t R.f ha), h2, h4, k.imm R (.bl _)⟩
    · cases e
  · cases e
theorem os_in : OpS X (compareOp .In) (oIn false) := os_inG op_in_seq
theorem os_notin : OpS X (compareOp .NotIn) (oIn true) := os_inG op_notIn_seq
end
end Sm
/-! Tests, arguments, displays, calls. -/
namespace Sm
open PySem L2 Evl PyProof.Rows

abbrev DT := S → Option (Bool × S)
abbrev DA := S → Option (List D × S)
def tTD (K : PySem.W.Frag) (mg : Str → Option Value) (d : DT) : TT := fun σ H Q => ∃ G F st b st', Rep K mg G F st σ H ∧ d st = some (b, st') ∧
  ∀ F' H', Gr G F F' → Rep K mg G F' st' σ H' → Q b H'
def tAD (K : PySem.W.Frag) (mg : Str → Option Value) (d : DA) : TA := fun σ H Q => ∃ G F st ds st', Rep K mg G F st σ H ∧ d st = some (ds, st') ∧
  ∀ vs F' H', Gr G F F' → Rep K mg G F' st' σ H' → RDs K mg F' ds vs → Q vs H'
structure ST (X : Cx) (e : Expr) (d : DT) : Prop where
  pt : PT X e (tTD X.K X.mg d)
structure SW (X : Cx) (e : Expr) (d : DT) : Prop where
  pw : PW X e (tTD X.K X.mg d)
structure SA (X : Cx) (es : List Expr) (d : DA) : Prop where
  pa : PA X es (tAD X.K X.mg d)

/-! ### tests -/
/-- a bool's truth -/
def dB (f : DE) : DT := fun st => match f st with
  | some (.imm (.bl b), s1) => some (b, s1)
  | _ => none
/-- the truth of a list, a tuple, an int, none, a bool -/
def truth : D → Option Bool
  | .bl b => some b
  | .non => some false
  | .int i => some (i != 0)
  | .lst xs => some (!xs.isEmpty)
  | .tup xs => some (!xs.isEmpty)
  | _ => none
def dTru (f : DE) : DT := fun st => match f st with
  | none => none
  | some (x, s1) => match truth x.frz with
    | none => none
    | some b => some (b, s1)
def dAnd (t u : DT) : DT := fun st => match t st with
  | some (true, s1) => u s1
  | some (false, s1) => some (false, s1)
  | none => none
def dOr (t u : DT) : DT := fun st => match t st with
  | some (true, s1) => some (true, s1)
  | some (false, s1) => u s1
  | none => none
def dNot (t : DT) : DT := fun st => match t st with
  | some (b, s1) => some (!b, s1)
  | none => none
section
variable {X : Cx} {a b c e : Expr} {f g h : DE} {t u : DT} {rest : List Expr} {pos : Pos}
theorem tB_of {σ : L2.St} {H : Hp} {Q : Bool → Hp → Prop} (h : tTD X.K X.mg (dB f) σ H Q) : tB (tD X.K X.mg f) σ H Q := by
  obtain ⟨G, F, st, b, st', R, e, k⟩ := h
  unfold dB at e
  split at e
  · rename_i e1
    cases e
    refine ⟨G, F, st, _, _, R, e1, fun v F1 H1 g1 R1 r1 _ => ?_⟩
    cases r1 with | imm r1 => exact ⟨_, r1.bl_inv, k F1 H1 g1 R1⟩
  · cases e
theorem st_val (h : SE X e f) (he : ∀ whole, isTrue e X.env whole = (do let v ← whole; standAt e.pos; holding [v] (truthy v)) := by intro _; rfl) : ST X e (dB f) :=
  ⟨pt_imp (pt_val h.pe he) fun _ _ _ q => tB_of q⟩
theorem truth_rd {K : PySem.W.Frag} {mg : Str → Option Value} {F H : Hp} {d : D} {v : V} {b : Bool} (r : RD K mg F d v) (e : Ex F H) (h : truth d = some b) : TruV K v H b := by
  cases r with
  | non => cases h; rfl
  | bl b => cases h; rfl
  | int i => cases h; rfl
  | ktup s r => cases h; exact .inr (.inl ⟨_, .inr s, by have := r.length; cases r <;> simp⟩)
  | tup s r => cases h; exact .inr (.inl ⟨_, .inl (.inl (e _ _ s)), by have := r.length; cases r <;> simp⟩)
  | lst s r => cases h; exact .inl ⟨_, .inl (.inl (e _ _ s)), by have := r.length; cases r <;> simp⟩
  | str x => cases h
  | ty n => cases h
  | scr s => cases h
  | cls s => cases h
  | ins _ _ _ _ => cases h
  | exc _ _ _ _ _ => cases h
  | dK _ _ _ => cases h
  | dT _ _ _ => cases h
theorem st_truth (h : SE X e f) (he : ∀ whole, isTrue e X.env whole = (do let v ← whole; standAt e.pos; holding [v] (truthy v)) := by intro _; rfl) : ST X e (dTru f) := by
  refine ⟨pt_imp (pt_truth h.pf he) fun σ H Q q => ?_⟩
  obtain ⟨G, F, st, b, st', R, e, k⟩ := q
  unfold dTru at e
  split at e
  · cases e
  rename_i x s1 e1
  split at e
  · cases e
  rename_i b e2
  cases e
  exact ⟨G, F, st, x, _, R, e1, fun v F1 H1 g1 R1 r1 => ⟨_, truth_rd r1 R1.f e2, k F1 H1 g1 R1⟩⟩
theorem st_cmp {op : CmpOp} {o : D → D → Option SV} (ho : OpS X (compareOp op) o) (ha : SE X a f) (hb : SE X b g) (hm : behindInMarks op b = false) : ST X (.Compare a [op] [b] pos) (dB (dOp o f g)) := by
  obtain ⟨r, h1, h2⟩ := ho
  refine ⟨pt_imp (pt_cmpR h1 ha.pf hb.pf hm) fun σ H Q q => ?_⟩
  obtain ⟨G, F, st, b, st', R, e, k⟩ := q
  unfold dB at e
  split at e
  · rename_i e1
    cases e
    refine tOp_of h2 ⟨G, F, st, _, _, R, e1, fun v F1 H1 g1 R1 r1 _ => ?_⟩
    cases r1 with | imm r1 => exact ⟨_, r1.bl_inv, k F1 H1 g1 R1⟩
  · cases e
theorem tAnd_of {σ : L2.St} {H : Hp} {Q : Bool → Hp → Prop} (h : tTD X.K X.mg (dAnd t u) σ H Q) : tAnd (tTD X.K X.mg t) (tTD X.K X.mg u) σ H Q := by
  obtain ⟨G, F, st, b, st', R, e, k⟩ := h
  unfold dAnd at e
  split at e
  · rename_i s1 e1
    refine ⟨G, F, st, true, s1, R, e1, fun F1 H1 g1 R1 => ?_⟩
    refine iteT ?_
    exact ⟨G, F1, s1, b, st', R1, e, fun F2 H2 g2 R2 => k F2 H2 (g1.trans g2) R2⟩
  · rename_i s1 e1
    cases e
    refine ⟨G, F, st, false, _, R, e1, fun F1 H1 g1 R1 => ?_⟩
    refine iteF ?_
    exact k F1 H1 g1 R1
  · cases e
theorem tOr_of {σ : L2.St} {H : Hp} {Q : Bool → Hp → Prop} (h : tTD X.K X.mg (dOr t u) σ H Q) : tOr (tTD X.K X.mg t) (tTD X.K X.mg u) σ H Q := by
  obtain ⟨G, F, st, b, st', R, e, k⟩ := h
  unfold dOr at e
  split at e
  · rename_i s1 e1
    cases e
    refine ⟨G, F, st, true, _, R, e1, fun F1 H1 g1 R1 => ?_⟩
    refine iteT ?_
    exact k F1 H1 g1 R1
  · rename_i s1 e1
    refine ⟨G, F, st, false, s1, R, e1, fun F1 H1 g1 R1 => ?_⟩
    refine iteF ?_
    exact ⟨G, F1, s1, b, st', R1, e, fun F2 H2 g2 R2 => k F2 H2 (g1.trans g2) R2⟩
  · cases e
theorem sw_and1 (h : ST X a t) : SW X (.BoolOp .And [a] pos) t := ⟨pw_and1 h.pt⟩
theorem sw_or1 (h : ST X a t) : SW X (.BoolOp .Or [a] pos) t := ⟨pw_or1 h.pt⟩
theorem pw_imp {X : Cx} {e : Expr} {t t' : TT} (h : PW X e t) (hi : ∀ σ H Q, t' σ H Q → t σ H Q) : PW X e t' := ⟨fun w pins s σ H Q I q => h.run w pins s σ H Q I (hi σ H Q q)⟩
theorem sw_and (ha : ST X a t) (hb : SW X (.BoolOp .And (b :: rest) pos) u) : SW X (.BoolOp .And (a :: b :: rest) pos) (dAnd t u) := ⟨pw_imp (pw_and ha.pt hb.pw) fun _ _ _ q => tAnd_of q⟩
theorem sw_or (ha : ST X a t) (hb : SW X (.BoolOp .Or (b :: rest) pos) u) : SW X (.BoolOp .Or (a :: b :: rest) pos) (dOr t u) := ⟨pw_imp (pw_or ha.pt hb.pw) fun _ _ _ q => tOr_of q⟩
theorem SW.st (h : SW X e t) : ST X e t := ⟨h.pw.pt⟩
theorem st_not (h : ST X a t) : ST X (.UnaryOp .Not a pos) (dNot t) := by
  refine ⟨pt_imp (pt_not h.pt) fun σ H Q q => ?_⟩
  obtain ⟨G, F, st, b, st', R, e, k⟩ := q
  unfold dNot at e
  split at e
  · rename_i b1 s1 e1
    cases e
    exact ⟨G, F, st, _, _, R, e1, fun F1 H1 g1 R1 => k F1 H1 g1 R1⟩
  · cases e
theorem st_chain {op op' : CmpOp} {o o' : D → D → Option SV} (ho : OpS X (compareOp op) o) (ho' : OpS X (compareOp op') o') (ha : SE X a f) (hb : SE X b g) (hc : SE X c h) (hm : lastMarks [op, op'] [b, c] = false) : ST X (.Compare a [op, op'] [b, c] pos) (dB (dChain o o' f g h)) := by
  obtain ⟨r, h1, h2⟩ := ho
  obtain ⟨r', h1', h2'⟩ := ho'
  refine ⟨pt_imp (pt_chain h1 h1' ha.pf hb.pf hc.pf hm) fun σ H Q q => ?_⟩
  obtain ⟨G, F, st, b, st', R, e, k⟩ := q
  unfold dB at e
  split at e
  · rename_i bb e1
    cases e
    refine chain_of h2 h2' ⟨G, F, st, _, _, R, e1, fun v F1 H1 g1 R1 r1 _ => ?_⟩
    cases r1 with | imm r1 => exact ⟨_, r1.bl_inv, k F1 H1 g1 R1⟩
  · cases e

/-! ### and, or, not, if as values -/
def dAndV (f g : DE) : DE := fun st => match f st with
  | some (.imm (.bl true), s1) => g s1
  | some (.imm (.bl false), s1) => some (.imm (.bl false), s1)
  | _ => none
def dOrV (f g : DE) : DE := fun st => match f st with
  | some (.imm (.bl true), s1) => some (.imm (.bl true), s1)
  | some (.imm (.bl false), s1) => g s1
  | _ => none
def dNotV (f : DE) : DE := fun st => match f st with
  | some (.imm (.bl b), s1) => some (.imm (.bl (!b)), s1)
  | _ => none
def dIf (t : DT) (f g : DE) : DE := fun st => match t st with
  | some (true, s1) => f s1
  | some (false, s1) => g s1
  | none => none
theorem se_one {op} (h : SE X a f) : SE X (.BoolOp op [a] pos) f := ⟨pe_one h.pe⟩
theorem se_and (ha : SE X a f) (hb : SE X (.BoolOp .And (b :: rest) pos) g) : SE X (.BoolOp .And (a :: b :: rest) pos) (dAndV f g) := by
  refine ⟨pe_imp (pe_and ha.pe hb.pe) fun σ H Q q => ?_⟩
  obtain ⟨G, F, st, sv, st', R, e, k⟩ := q
  unfold dAndV at e
  split at e
  · rename_i s1 e1
    refine ⟨G, F, st, _, s1, R, e1, fun v F1 H1 g1 R1 r1 _ => ?_⟩
    cases r1 with | imm r1 => ?_
    refine ⟨true, r1.bl_inv, ?_⟩
    refine iteT ?_
    exact ⟨G, F1, s1, sv, st', R1, e, fun v F2 H2 g2 => k v F2 H2 (g1.trans g2)⟩
  · rename_i s1 e1
    cases e
    refine ⟨G, F, st, _, _, R, e1, fun v F1 H1 g1 R1 r1 _ => ?_⟩
    cases r1 with | imm r1 => ?_
    refine ⟨false, r1.bl_inv, ?_⟩
    refine iteF ?_
    exact k _ F1 H1 g1 R1 (.imm (.bl false)) Sep.imm
  · cases e
theorem se_or (ha : SE X a f) (hb : SE X (.BoolOp .Or (b :: rest) pos) g) : SE X (.BoolOp .Or (a :: b :: rest) pos) (dOrV f g) := by
  refine ⟨pe_imp (pe_or ha.pe hb.pe) fun σ H Q q => ?_⟩
  obtain ⟨G, F, st, sv, st', R, e, k⟩ := q
  unfold dOrV at e
  split at e
  · rename_i s1 e1
    cases e
    refine ⟨G, F, st, _, _, R, e1, fun v F1 H1 g1 R1 r1 _ => ?_⟩
    cases r1 with | imm r1 => ?_
    refine ⟨true, r1.bl_inv, ?_⟩
    refine iteT ?_
    exact k _ F1 H1 g1 R1 (.imm (.bl true)) Sep.imm
  · rename_i s1 e1
    refine ⟨G, F, st, _, s1, R, e1, fun v F1 H1 g1 R1 r1 _ => ?_⟩
    cases r1 with | imm r1 => ?_
    refine ⟨false, r1.bl_inv, ?_⟩
    refine iteF ?_
    exact ⟨G, F1, s1, sv, st', R1, e, fun v F2 H2 g2 => k v F2 H2 (g1.trans g2)⟩
  · cases e
theorem se_not (ha : SE X a f) : SE X (.UnaryOp .Not a pos) (dNotV f) := by
  refine ⟨pe_imp (pe_not ha.pe) fun σ H Q q => ?_⟩
  obtain ⟨G, F, st, sv, st', R, e, k⟩ := q
  unfold dNotV at e
  split at e
  · rename_i b s1 e1
    cases e
    refine ⟨G, F, st, _, _, R, e1, fun v F1 H1 g1 R1 r1 _ => ?_⟩
    cases r1 with | imm r1 => exact ⟨b, r1.bl_inv, k _ F1 H1 g1 R1 (.imm (.bl _)) Sep.imm⟩
  · cases e
theorem se_if (hc : ST X c t) (ha : SE X a f) (hb : SE X b g) : SE X (.IfExp c a b pos) (dIf t f g) := by
  refine ⟨pe_imp (pe_ifExp hc.pt ha.pe hb.pe) fun σ H Q q => ?_⟩
  obtain ⟨G, F, st, sv, st', R, e, k⟩ := q
  unfold dIf at e
  split at e
  · rename_i s1 e1
    refine ⟨G, F, st, _, s1, R, e1, fun F1 H1 g1 R1 => ?_⟩
    refine iteT ?_
    exact ⟨G, F1, s1, sv, st', R1, e, fun v F2 H2 g2 => k v F2 H2 (g1.trans g2)⟩
  · rename_i s1 e1
    refine ⟨G, F, st, _, s1, R, e1, fun F1 H1 g1 R1 => ?_⟩
    refine iteF ?_
    exact ⟨G, F1, s1, sv, st', R1, e, fun v F2 H2 g2 => k v F2 H2 (g1.trans g2)⟩
  · cases e
/-- -x -/
def oNeg : D → Option SV
  | .int i => some (.imm (.int (-i)))
  | _ => none
def dUn (o : D → Option SV) (f : DE) : DE := fun st => match f st with
  | none => none
  | some (x, s1) => match o x.frz with
    | none => none
    | some z => some (z, s1)
theorem se_neg (ha : SE X a f) : SE X (.UnaryOp .USub a pos) (dUn oNeg f) := by
  refine ⟨pe_imp (pe_un un_neg ha.pf) fun σ H Q q => ?_⟩
  obtain ⟨G, F, st, sv, st', R, e, k⟩ := q
  unfold dUn at e
  split at e
  · cases e
  rename_i x s1 e1
  split at e
  · cases e
  rename_i z e2
  cases e
  refine ⟨G, F, st, x, _, R, e1, fun v F1 H1 g1 R1 r1 => ?_⟩
  cases hx : x.frz <;> rw [hx] at e2 <;> cases e2
  rw [hx] at r1
  exact ⟨_, r1.int_inv, k _ F1 H1 g1 R1 (.imm (.int _)) Sep.imm⟩
end

/-! ### argument lists, displays -/
def dNil : DA := fun st => some ([], st)
def dCons (f : DE) (r : DA) : DA := fun st => match f st with
  | none => none
  | some (x, s1) => match r s1 with
    | none => none
    | some (xs, s2) => some (x.frz :: xs, s2)
section
variable {X : Cx} {a b e : Expr} {es : List Expr} {f g : DE} {r : DA} {pos : Pos}
theorem sa_nil : SA X [] dNil := ⟨pa_imp pa_nil fun σ H Q q => by
  obtain ⟨G, F, st, ds, st', R, e, k⟩ := q
  cases e
  exact k [] F H (Gr.refl F) R .nil⟩
theorem sa_cons (ha : SE X a f) (hr : SA X es r) (hs : starEach (a :: es) X.env = (false, eval a X.env) :: starEach es X.env := by rfl) : SA X (a :: es) (dCons f r) := ⟨pa_imp (pa_cons ha.pf hr.pa hs) fun σ H Q q => by
  obtain ⟨G, F, st, ds, st', R, e, k⟩ := q
  unfold dCons at e
  split at e
  · cases e
  rename_i x s1 e1
  split at e
  · cases e
  rename_i xs s2 e2
  cases e
  exact ⟨G, F, st, x, s1, R, e1, fun v F1 H1 g1 R1 r1 => ⟨G, F1, s1, xs, _, R1, e2, fun vs F2 H2 g2 R2 r2 => k _ F2 H2 (g1.trans g2) R2 (.cons (r1.mono g2.1) r2)⟩⟩⟩
def dTup (r : DA) : DE := fun st => match r st with
  | none => none
  | some (xs, s1) => if xs.length ≤ 100000 then some (.imm (.tup xs), s1) else none
def dLst (r : DA) : DE := fun st => match r st with
  | none => none
  | some (xs, s1) => if xs.length ≤ 100000 then some (.lst xs, s1) else none
theorem se_tup {k} (h : SA X es r) : SE X (.Tuple es k pos) (dTup r) := by
  refine ⟨pe_imp (pe_tup h.pa) fun σ H Q q => ?_⟩
  obtain ⟨G, F, st, sv, st', R, e, k⟩ := q
  unfold dTup at e
  split at e
  · cases e
  rename_i xs s1 e1
  split at e
  · rename_i hl
    cases e
    refine ⟨G, F, st, xs, _, R, e1, fun vs F1 H1 g1 R1 r1 => ⟨small_line (by rw [← r1.length]; exact hl), fun p hp => ?_⟩⟩
    exact Kn.newT (fun v F2 H2 g2 => k v F2 H2 (g1.trans g2)) R1 hp r1
  · cases e
theorem se_lst (h : SA X es r) : SE X (.List es pos) (dLst r) := by
  refine ⟨pe_imp (pe_lst h.pa) fun σ H Q q => ?_⟩
  obtain ⟨G, F, st, sv, st', R, e, k⟩ := q
  unfold dLst at e
  split at e
  · cases e
  rename_i xs s1 e1
  split at e
  · rename_i hl
    cases e
    refine ⟨G, F, st, xs, _, R, e1, fun vs F1 H1 g1 R1 r1 => ⟨small_line (by rw [← r1.length]; exact hl), fun p hp => ?_⟩⟩
    exact Kn.newL (fun v F2 H2 g2 => k v F2 H2 (g1.trans g2)) R1 hp r1
  · cases e

/-! ### built-in calls -/
def CallS (X : Cx) (f : Value) (o : List D → Option SV) : Prop := ∃ r : List V → Hp → VK → Prop, CallR X f r ∧
  ∀ {G F H : Hp} {st : S} {σ : L2.St} {ds : List D} {vs : List V} {sv : SV} {Q : VK}, Rep X.K X.mg G F st σ H → RDs X.K X.mg F ds vs → o ds = some sv → Kn X.K X.mg G F st σ sv Q → r vs H Q
def dCB (o : List D → Option SV) (r : DA) : DE := fun st => match r st with
  | none => none
  | some (xs, s1) => match o xs with
    | none => none
    | some z => some (z, s1)
theorem tCB_of {o : List D → Option SV} {rr : List V → Hp → VK → Prop} (hr : ∀ {G F H : Hp} {st : S} {σ : L2.St} {ds : List D} {vs : List V} {sv : SV} {Q : VK}, Rep X.K X.mg G F st σ H → RDs X.K X.mg F ds vs → o ds = some sv → Kn X.K X.mg G F st σ sv Q → rr vs H Q)
    {σ : L2.St} {H : Hp} {Q : VK} (h : tD X.K X.mg (dCB o r) σ H Q) : tCB rr (tAD X.K X.mg r) σ H Q := by
  obtain ⟨G, F, st, sv, st', R, e, k⟩ := h
  unfold dCB at e
  split at e
  · cases e
  rename_i xs s1 e1
  split at e
  · cases e
  rename_i z e2
  cases e
  exact ⟨G, F, st, xs, _, R, e1, fun vs F1 H1 g1 R1 r1 => hr R1 r1 e2 fun v F2 H2 g2 => k v F2 H2 (g1.trans g2)⟩
theorem se_callB {id : String} {x : Str} {p : Pos} {o : List D → Option SV} (hc : CallS X (.builtin id) o) (hg : Gl X x) (hm : X.mg x = none) (hv : bootBuiltins x = some (.builtin id)) (ha : SA X (e :: es) r) (hn : x ≠ "__name__" := by decide) (hdb : (x == ("__debug__" : Str)) = false := by decide)
    (he : starEach (e :: es) X.env = (false, eval e X.env) :: starEach es X.env := by rfl) (hpl : (backTo pos (starEach es X.env)).any (·.1) = false := by rfl) : SE X (.Call (.Name x p) (e :: es) [] pos) (dCB o r) := by
  obtain ⟨rr, h1, h2⟩ := hc
  exact ⟨pe_imp (pe_callB h1 hg hm hv ha.pa hn hdb he hpl) fun _ _ _ q => tCB_of h2 q⟩
theorem se_callTy {T : String} {x : Str} {p : Pos} {o : List D → Option SV} (hc : CallS X (.type T) o) (hg : Gl X x) (hm : X.mg x = none) (hv : bootBuiltins x = some (.type T)) (ha : SA X (e :: es) r) (hn : x ≠ "__name__" := by decide) (hdb : (x == ("__debug__" : Str)) = false := by decide)
    (he : starEach (e :: es) X.env = (false, eval e X.env) :: starEach es X.env := by rfl) (hpl : (backTo pos (starEach es X.env)).any (·.1) = false := by rfl) : SE X (.Call (.Name x p) (e :: es) [] pos) (dCB o r) := by
  obtain ⟨rr, h1, h2⟩ := hc
  exact ⟨pe_imp (pe_callTy h1 hg hm hv ha.pa hn hdb he hpl) fun _ _ _ q => tCB_of h2 q⟩
end

/-! ### which built-in gives what -/
def cLen : List D → Option SV
  | [.lst xs] => some (.imm (.int xs.length))
  | [.tup xs] => some (.imm (.int xs.length))
  | [.scr xs] => some (.imm (.int xs.length))
  | [.str x] => if x.length ≤ 100000 then some (.imm (.int x.length)) else none
  | _ => none
def cInt : List D → Option SV
  | [.int i] => some (.imm (.int i))
  | [.bl b] => some (.imm (.int (if b then 1 else 0)))
  | _ => none
def cAbs : List D → Option SV
  | [.int i] => some (.imm (.int (if i < 0 then -i else i)))
  | _ => none
def D.ints : List D → Option (List Int)
  | [] => some []
  | .int i :: r => (D.ints r).map (i :: ·)
  | _ => none
def D.bls : List D → Option (List Bool)
  | [] => some []
  | .bl i :: r => (D.bls r).map (i :: ·)
  | _ => none
def cSum : List D → Option SV
  | [.lst xs] => (D.ints xs).map fun ns => .imm (.int ns.sum)
  | [.tup xs] => (D.ints xs).map fun ns => .imm (.int ns.sum)
  | _ => none
def cAll : List D → Option SV
  | [.lst xs] => (D.bls xs).map fun ns => .imm (.bl (ns.all id))
  | _ => none
def cTuple : List D → Option SV
  | [.lst xs] => some (.imm (.tup xs))
  | [.tup xs] => some (.imm (.tup xs))
  | _ => none
def cList : List D → Option SV
  | [.lst xs] => some (.lst xs)
  | [.tup xs] => some (.lst xs)
  | _ => none
section
variable {K : PySem.W.Frag} {mg : Str → Option Value} {G F H : Hp}
theorem D.ints_eq : ∀ {xs : List D} {ns : List Int}, D.ints xs = some ns → xs = ns.map D.int
  | [], _, h => by cases h; rfl
  | .int i :: r, ns, h => by
    unfold D.ints at h
    cases e : D.ints r with
    | none => rw [e] at h; cases h
    | some ms => rw [e] at h; cases h; rw [D.ints_eq e]; rfl
  | .non :: r, _, h => by cases h
  | .bl _ :: r, _, h => by cases h
  | .str _ :: r, _, h => by cases h
  | .ty _ :: r, _, h => by cases h
  | .tup _ :: r, _, h => by cases h
  | .lst _ :: r, _, h => by cases h
  | .scr _ :: r, _, h => by cases h
  | .cls _ :: r, _, h => by cases h
  | .ins _ _ _ :: r, _, h => by cases h
  | .exc _ _ _ :: r, _, h => by cases h
theorem D.bls_eq : ∀ {xs : List D} {ns : List Bool}, D.bls xs = some ns → xs = ns.map D.bl
  | [], _, h => by cases h; rfl
  | .bl i :: r, ns, h => by
    unfold D.bls at h
    cases e : D.bls r with
    | none => rw [e] at h; cases h
    | some ms => rw [e] at h; cases h; rw [D.bls_eq e]; rfl
  | .non :: r, _, h => by cases h
  | .int _ :: r, _, h => by cases h
  | .str _ :: r, _, h => by cases h
  | .ty _ :: r, _, h => by cases h
  | .tup _ :: r, _, h => by cases h
  | .lst _ :: r, _, h => by cases h
  | .scr _ :: r, _, h => by cases h
  | .cls _ :: r, _, h => by cases h
  | .ins _ _ _ :: r, _, h => by cases h
  | .exc _ _ _ :: r, _, h => by cases h
theorem RDs.bls : ∀ {ns : List Bool} {vs : List V}, RDs K mg F (ns.map D.bl) vs → vs = ns.map V.bl
  | [], _, .nil => rfl
  | _ :: _, _, .cons h t => by cases h; rw [t.bls]; rfl
theorem D.ints_map (ns : List Int) : D.ints (ns.map D.int) = some ns := by
  induction ns with
  | nil => rfl
  | cons n ns ih => show (D.ints (ns.map D.int)).map (n :: ·) = _; rw [ih]; rfl
theorem D.bls_map (ns : List Bool) : D.bls (ns.map D.bl) = some ns := by
  induction ns with
  | nil => rfl
  | cons n ns ih => show (D.bls (ns.map D.bl)).map (n :: ·) = _; rw [ih]; rfl
theorem RDs.one {d : D} {vs : List V} (h : RDs K mg F [d] vs) : ∃ v, vs = [v] ∧ RD K mg F d v := by
  cases h with | cons h r => cases r; exact ⟨_, rfl, h⟩
theorem RDs.two {d e : D} {vs : List V} (h : RDs K mg F [d, e] vs) : ∃ v w, vs = [v, w] ∧ RD K mg F d v ∧ RD K mg F e w := by
  cases h with | cons h r => obtain ⟨w, rfl, h2⟩ := r.one; exact ⟨_, w, rfl, h, h2⟩
end
section
variable {X : Cx}
theorem cs_len : CallS X (.builtin "len") cLen := by
  refine ⟨_, call_len_seq.or call_len_str, ?_⟩
  intro G F H st σ ds vs sv Q R r e k
  unfold cLen at e
  split at e
  · cases e
    obtain ⟨v, rfl, h⟩ := r.one
    obtain ⟨a, us, rfl, ha, ra⟩ := h.lst_inv
    exact .inl ⟨a, us, rfl, .inl (.inl (.inl (R.f _ _ ha))), by rw [← ra.length]; exact k.imm R (.int _)⟩
  · cases e
    obtain ⟨v, rfl, h⟩ := r.one
    obtain ⟨a, us, rfl, ha, ra⟩ := h.tup_inv
    exact .inl ⟨a, us, rfl, .inr (ex_t R.f ha), by rw [← ra.length]; exact k.imm R (.int _)⟩
  · cases e
    obtain ⟨v, rfl, h⟩ := r.one
    obtain ⟨a, rfl, ha⟩ := h.scr_inv
    exact .inl ⟨a, _, rfl, .inl (ex_l R.f ha), by rw [List.length_map]; exact k.imm R (.int _)⟩
  · split at e
    · rename_i hl
      cases e
      obtain ⟨v, rfl, h⟩ := r.one
      cases h
      exact .inr ⟨_, rfl, small_line hl, k.imm R (.int _)⟩
    · cases e
  · cases e
theorem cs_int : CallS X (.type "int") cInt := by
  refine ⟨_, call_int1, ?_⟩
  intro G F H st σ ds vs sv Q R r e k
  unfold cInt at e
  split at e
  · cases e
    obtain ⟨v, rfl, h⟩ := r.one
    cases h
    exact .inl ⟨_, rfl, k.imm R (.int _)⟩
  · cases e
    obtain ⟨v, rfl, h⟩ := r.one
    cases h
    exact .inr ⟨_, rfl, k.imm R (.int _)⟩
  · cases e
theorem cs_abs : CallS X (.builtin "abs") cAbs := by
  refine ⟨_, call_abs, ?_⟩
  intro G F H st σ ds vs sv Q R r e k
  unfold cAbs at e
  split at e
  · cases e
    obtain ⟨v, rfl, h⟩ := r.one
    cases h
    exact ⟨_, rfl, k.imm R (.int _)⟩
  · cases e
theorem sum_rawT {prog : Program} {w : World} {A : Around} {E : Value → Shared → Prop} {s : Shared} {l : Addr} {its : List Value} {ns : List Int} {Q : Value → Shared → Prop} (hh : A.handled = none) (hl : s.heap.IsTuple l its.toArray) (hi : IntsAre its ns)
    (h : ∀ h' tk t', (∀ b o, s.heap.get? b = some o → h'.get? b = some o) → Q (.int ns.sum t') { s with heap := h', toks := tk }) : wpAny (model prog w) A (call (.builtin "sum") [.ref l]) Q E s := by
  obtain ⟨xs, e⟩ := hi.allInts.items
  have hn : numsOf (intItems xs).toList = ns := by rw [← e]; exact hi.numsOf
  rw [nums_intItems] at hn
  rw [e] at hl
  have hlt : l < s.heap.objs.size := by obtain ⟨_, e, _⟩ := hl; exact Heap.lt_size e
  refine call_sum_walkG (wpAny_pyIter_tuple hl ?_)
  refine ⟨_, _, _, _, _, _, numAt xs, rfl, Walks.tuple (A := A.in1) hh _ l (Nat.ne_of_lt hlt) (intItems xs), ⟨⟨_, Heap.get?_push_size _ rfl, rfl, rfl⟩, hl.push _⟩, ?_, (fun _ _ => intItems_at), fun h' tk t' hk => ?_⟩
  · intro b hb
    show b < (s.heap.push _).objs.size
    rw [Heap.size_push]
    rcases List.mem_cons.mp hb with rfl | hb
    · exact Nat.lt_succ_self _
    · rw [List.mem_singleton.mp hb]
      exact Nat.lt_succ_of_lt hlt
  · have := h h' tk t' (fun b o e => hk b o (fun z => by
      rw [List.mem_singleton.mp z] at e
      exact absurd (Heap.lt_size e) (Nat.lt_irrefl _)) (Heap.get?_push_of_some _ e))
    have q : preSum (numAt xs) xs.size = ns.sum := by rw [preSum_eq, List.take_of_length_le (by simp), hn]
    rw [← q] at this
    simpa [intItems] using this
theorem cr_sumT (hc : X.calm = true) : CallR X (.builtin "sum") (fun vs H Q => ∃ (a : Addr) (ns : List Int), vs = [V.ref a] ∧ SqT X.K H a (ns.map V.int) ∧ Q (.int ns.sum) H) := by
  intro pins s σ H vs us Q I r h
  obtain ⟨a, ns, rfl, hs, q⟩ := h
  obtain ⟨its, rv, hl, _⟩ := I.tuple hs
  rw [Vals.ref1 r]
  exact sum_rawT (I.ok.hd hc) hl rv.ints fun h' tk t' hk => ⟨.int _, H, I.kept hk, ⟨_, rfl⟩, q⟩
theorem cs_sum (hc : X.calm = true) : CallS X (.builtin "sum") cSum := by
  refine ⟨_, (cr_sum hc).or (cr_sumT hc), ?_⟩
  intro G F H st σ ds vs sv Q R r e k
  unfold cSum at e
  split at e
  · rename_i xs
    cases q : D.ints xs with
    | none => rw [q] at e; cases e
    | some ns =>
      rw [q] at e
      cases e
      rw [D.ints_eq q] at r
      obtain ⟨v, rfl, h⟩ := r.one
      obtain ⟨a, us, rfl, ha, ra⟩ := h.lst_inv
      rw [ra.ints] at ha
      exact .inl ⟨a, ns, rfl, .inl (.inl (R.f _ _ ha)), k.imm R (.int _)⟩
  · rename_i xs
    cases q : D.ints xs with
    | none => rw [q] at e; cases e
    | some ns =>
      rw [q] at e
      cases e
      rw [D.ints_eq q] at r
      obtain ⟨v, rfl, h⟩ := r.one
      obtain ⟨a, us, rfl, ha, ra⟩ := h.tup_inv
      rw [ra.ints] at ha
      exact .inr ⟨a, ns, rfl, ex_t R.f ha, k.imm R (.int _)⟩
  · cases e
theorem cs_all (hc : X.calm = true) : CallS X (.builtin "all") cAll := by
  refine ⟨_, cr_all hc, ?_⟩
  intro G F H st σ ds vs sv Q R r e k
  unfold cAll at e
  split at e
  · rename_i xs
    cases q : D.bls xs with
    | none => rw [q] at e; cases e
    | some ns =>
      rw [q] at e
      cases e
      rw [D.bls_eq q] at r
      obtain ⟨v, rfl, h⟩ := r.one
      obtain ⟨a, us, rfl, ha, ra⟩ := h.lst_inv
      rw [ra.bls] at ha
      exact ⟨a, ns, rfl, .inl (.inl (R.f _ _ ha)), k.imm R (.bl _)⟩
  · cases e
theorem cs_tuple : CallS X (.type "tuple") cTuple := by
  refine ⟨_, call_tuple_of, ?_⟩
  intro G F H st σ ds vs sv Q R r e k
  unfold cTuple at e
  split at e
  · cases e
    obtain ⟨v, rfl, h⟩ := r.one
    obtain ⟨a, us, rfl, ha, ra⟩ := h.lst_inv
    exact ⟨a, us, rfl, .inl ⟨.inl (.inl (R.f _ _ ha)), fun p hp => k.newT R hp ra⟩⟩
  · cases e
    obtain ⟨v, rfl, h⟩ := r.one
    obtain ⟨a, us, rfl, ha, ra⟩ := h.tup_inv
    exact ⟨a, us, rfl, .inr ⟨ex_t R.f ha, k.imm R h⟩⟩
  · cases e
theorem cs_list : CallS X (.type "list") cList := by
  refine ⟨_, call_list_of, ?_⟩
  intro G F H st σ ds vs sv Q R r e k
  unfold cList at e
  split at e
  · cases e
    obtain ⟨v, rfl, h⟩ := r.one
    obtain ⟨a, us, rfl, ha, ra⟩ := h.lst_inv
    exact ⟨a, us, rfl, .inl (.inl (.inl (R.f _ _ ha))), fun p hp => k.newL R hp ra⟩
  · cases e
    obtain ⟨v, rfl, h⟩ := r.one
    obtain ⟨a, us, rfl, ha, ra⟩ := h.tup_inv
    exact ⟨a, us, rfl, .inr (ex_t R.f ha), fun p hp => k.newL R hp ra⟩
  · cases e
end
end Sm
/-! Subscripts, attributes, calls of the program's own defs. -/
namespace Sm
open PySem L2 Evl PyProof.Rows

/-! ### subscripts -/
def oIx : D → D → Option SV
  | .lst xs, .int i => (atI xs i).map .imm
  | .tup xs, .int i => (atI xs i).map .imm
  | .str z, .int i => if z.length ≤ 100000 then (atI z.cps.toList i).map fun c => .imm (.str ⟨#[c]⟩) else none
  | _, _ => none
theorem atI_inv {α : Type} {xs : List α} {i : Int} {v : α} (h : atI xs i = some v) : ∃ j, ixN xs.length i = some j ∧ xs[j]? = some v := by
  unfold atI at h
  cases q : ixN xs.length i with
  | none => rw [q] at h; cases h
  | some j => rw [q] at h; exact ⟨j, rfl, h⟩
theorem atI_rd {K : PySem.W.Frag} {mg : Str → Option Value} {F : Hp} {ds : List D} {vs : List V} {i : Int} {d : D} (r : RDs K mg F ds vs) (h : atI ds i = some d) : ∃ v, atI vs i = some v ∧ RD K mg F d v := by
  obtain ⟨j, h1, h2⟩ := atI_inv h
  obtain ⟨v, h3, h4⟩ := r.get h2
  refine ⟨v, ?_, h4⟩
  unfold atI
  rw [← r.length, h1]
  exact h3
section
variable {X : Cx} {a b e : Expr} {es : List Expr} {f g : DE} {r : DA} {pos : Pos}
theorem ix_of {G F H : Hp} {st : S} {σ : L2.St} {dx dy : D} {x y : V} {sv : SV} {Q : VK} (R : Rep X.K X.mg G F st σ H) (rx : RD X.K X.mg F dx x) (ry : RD X.K X.mg F dy y) (e : oIx dx dy = some sv) (k : Kn X.K X.mg G F st σ sv Q) : rIx X.K x y H Q := by
  unfold oIx at e
  split at e
  · rename_i xs i
    cases q : atI xs i with
    | none => rw [q] at e; cases e
    | some d =>
      rw [q] at e; cases e
      cases ry
      obtain ⟨p, vs, rfl, hp, rr⟩ := rx.lst_inv
      obtain ⟨v, h1, h2⟩ := atI_rd rr q
      exact .inl ⟨p, vs, i, v, rfl, rfl, .inl (.inl (R.f _ _ hp)), h1, k.imm R h2⟩
  · rename_i xs i
    cases q : atI xs i with
    | none => rw [q] at e; cases e
    | some d =>
      rw [q] at e; cases e
      cases ry
      obtain ⟨p, vs, rfl, hp, rr⟩ := rx.tup_inv
      obtain ⟨v, h1, h2⟩ := atI_rd rr q
      exact .inr (.inl ⟨p, vs, i, v, rfl, rfl, ex_t R.f hp, h1, k.imm R h2⟩)
  · rename_i z i
    split at e
    · rename_i hl
      cases q : atI z.cps.toList i with
      | none => rw [q] at e; cases e
      | some c =>
        rw [q] at e; cases e
        cases rx; cases ry
        exact .inr (.inr ⟨z, i, c, rfl, rfl, small_line hl, q, k.imm R (.str _)⟩)
    · cases e
  · cases e
theorem se_ix (ha : SE X a f) (hb : SE X b g) (hs : PlainIx b := by intro _ _; rfl) : SE X (.Subscript a b pos) (dOp oIx f g) :=
  ⟨pe_imp (pe_ix ix_seq ha.pf hb.pf hs) fun σ H Q q => tOp_of (r := rIx X.K) (fun R rx ry e k => ix_of R rx ry e k) q⟩
/-- name[..], the name's list read as it stands -/
def dIxV (i : Nat) (g : DE) : DE := fun st => match st[i]? with
  | some (some _) => (match g st with
    | none => none
    | some (y, s1) => match s1[i]? with
      | some (some x) => (match oIx x.frz y.frz with
        | none => none
        | some z => some (z, s1))
      | _ => none)
  | _ => none
theorem se_ixv {i : Nat} {x : Str} {p : Pos} (hN : X.N[i]? = some x) (hv : Vis X.env.scope x) (hb : SE X b g) (hs : PlainIx b := by intro _ _; rfl) (hd : (x == ("__debug__" : Str)) = false := by decide) (hcd : (x == ("__classdict__" : Str)) = false := by decide) :
    SE X (.Subscript (.Name x p) b pos) (dIxV i g) := by
  refine ⟨pe_imp (pe_ix ix_seq (pe_var hN hv hd hcd) hb.pf hs) fun σ H Q q => ?_⟩
  obtain ⟨G, F, st, sv, st', R, e, k⟩ := q
  unfold dIxV at e
  split at e
  · rename_i sv0 h0
    split at e
    · cases e
    rename_i y s1 e1
    split at e
    · rename_i x1 h1
      split at e
      · cases e
      rename_i z e2
      cases e
      obtain ⟨v, hv1, _⟩ := R.at_ i _ h0
      refine ⟨v, hv1, G, F, st, y, _, R, e1, fun u F1 H1 g1 R1 r1 => ?_⟩
      obtain ⟨v', hv2, rs⟩ := R1.at_ i _ h1
      rw [hv1] at hv2
      cases hv2
      have k1 : Kn X.K X.mg G F1 _ σ sv Q := fun v F2 H2 g2 => k v F2 H2 (g1.trans g2)
      cases rs with
      | imm rd => exact ix_of R1 rd r1 e2 k1
      | @lst p vs ds gg ff hh rr =>
        revert e2 r1
        generalize y.frz = dy
        intro r1 e2
        cases dy with
        | int j =>
          simp only [SV.frz, oIx] at e2
          cases q : atI ds j with
          | none => rw [q] at e2; cases e2
          | some d =>
            rw [q] at e2; cases e2
            cases r1
            obtain ⟨w, h3, h4⟩ := atI_rd rr q
            exact .inl ⟨_, _, j, w, rfl, rfl, .inl (.inl hh), h3, k1.imm R1 h4⟩
        | _ => cases e2
      | ins gg ff hc hh hn rr =>
        revert e2
        generalize y.frz = dy
        intro e2
        cases dy <;> cases e2
      | dK gg ff hh hn rr =>
        revert e2
        generalize y.frz = dy
        intro e2
        cases dy <;> cases e2
      | dT gg ff hh hn rr =>
        revert e2
        generalize y.frz = dy
        intro e2
        cases dy <;> cases e2
    · cases e
  · cases e
/-- len(name), the name's list read as it stands -/
def dLenV (i : Nat) : DE := fun st => match st[i]? with
  | some (some x) => (match cLen [x.frz] with
    | none => none
    | some z => some (z, st))
  | _ => none
theorem se_lenv {i : Nat} {x y : Str} {p p2 : Pos} (hg : Gl X y) (hm : X.mg y = none) (hbt : bootBuiltins y = some (.builtin "len")) (hN : X.N[i]? = some x) (hv : Vis X.env.scope x) (hn : y ≠ "__name__" := by decide) (hdb : (y == ("__debug__" : Str)) = false := by decide) (hd : (x == ("__debug__" : Str)) = false := by decide) (hcd : (x == ("__classdict__" : Str)) = false := by decide)
    (he : starEach [.Name x p2] X.env = (false, eval (.Name x p2) X.env) :: starEach [] X.env := by rfl) (hpl : (backTo pos (starEach [] X.env)).any (·.1) = false := by rfl) :
    SE X (.Call (.Name y p) [.Name x p2] [] pos) (dLenV i) := by
  refine ⟨pe_imp (pe_callB (call_len_seq.or call_len_str) hg hm hbt (pa_cons (pe_var hN hv hd hcd) pa_nil) hn hdb he hpl) fun σ H Q q => ?_⟩
  obtain ⟨G, F, st, sv, st', R, e, k⟩ := q
  unfold dLenV at e
  split at e
  · rename_i x1 h1
    split at e
    · cases e
    rename_i z e2
    cases e
    obtain ⟨v, hv1, rs⟩ := R.at_ i _ h1
    have k1 : Kn X.K X.mg G F _ σ sv Q := k
    refine ⟨v, hv1, ?_⟩
    cases rs with
    | imm rd =>
      generalize hd : SV.frz (.imm _) = dd at e2
      simp only [SV.frz] at hd
      subst hd
      unfold cLen at e2
      split at e2
      · rename_i xs e3
        cases e3; cases e2
        obtain ⟨a, us, rfl, ha, ra⟩ := rd.lst_inv
        exact .inl ⟨a, us, rfl, .inl (.inl (.inl (R.f _ _ ha))), by rw [← ra.length]; exact k1.imm R (.int _)⟩
      · rename_i xs e3
        cases e3; cases e2
        obtain ⟨a, us, rfl, ha, ra⟩ := rd.tup_inv
        exact .inl ⟨a, us, rfl, .inr (ex_t R.f ha), by rw [← ra.length]; exact k1.imm R (.int _)⟩
      · rename_i xs e3
        cases e3; cases e2
        obtain ⟨a, rfl, ha⟩ := rd.scr_inv
        exact .inl ⟨a, _, rfl, .inl (ex_l R.f ha), by rw [List.length_map]; exact k1.imm R (.int _)⟩
      · rename_i xs e3
        cases e3
        split at e2
        · rename_i hl
          cases e2
          cases rd
          exact .inr ⟨_, rfl, small_line hl, k1.imm R (.int _)⟩
        · cases e2
      · cases e2
    | lst gg ff hh rr =>
      simp only [SV.frz] at e2
      cases e2
      exact .inl ⟨_, _, rfl, .inl (.inl (.inl hh)), by rw [← rr.length]; exact k1.imm R (.int _)⟩
    | ins gg ff hc hh hn rr =>
      simp only [SV.frz] at e2
      cases e2
    | dK gg ff hh hn rr =>
      simp only [SV.frz] at e2
      cases e2
    | dT gg ff hh hn rr =>
      simp only [SV.frz] at e2
      cases e2
  · cases e

/-! ### slices -/
def cutD (xs : List D) (lo hi : Option Int) : List D := (xs.drop (HT.sIx xs.length 0 lo)).take (HT.sIx xs.length xs.length hi - HT.sIx xs.length 0 lo)
def oSl (lo hi : Option Int) : D → Option SV
  | .lst xs => some (.lst (cutD xs lo hi))
  | .tup xs => some (.imm (.tup (cutD xs lo hi)))
  | .scr ns => some (.lst (cutD (ns.map .int) lo hi))
  | _ => none
/-- a part of a slice -/
inductive DP where
  | no | at_ (f : DE)
def DP.run : DP → S → Option (Option Int × S)
  | .no, st => some (none, st)
  | .at_ f, st => match f st with
    | some (.imm (.int i), s1) => some (some i, s1)
    | _ => none
def tPD (K : PySem.W.Frag) (mg : Str → Option Value) (d : DP) : TO := fun σ H Q => ∃ G F st o st', Rep K mg G F st σ H ∧ d.run st = some (o, st') ∧ ∀ F' H', Gr G F F' → Rep K mg G F' st' σ H' → Q o H'
structure SP (X : Cx) (e : Option Expr) (d : DP) : Prop where
  po : PO X e (tPD X.K X.mg d)
theorem po_imp {X : Cx} {e : Option Expr} {t t' : TO} (h : PO X e t) (hi : ∀ σ H Q, t' σ H Q → t σ H Q) : PO X e t' := ⟨fun pins s σ H Q I q => h.run pins s σ H Q I (hi σ H Q q)⟩
theorem sp_no : SP X none .no := ⟨po_imp po_none fun σ H Q q => by
  obtain ⟨G, F, st, o, st', R, e, k⟩ := q
  cases e
  exact k F H (Gr.refl F) R⟩
theorem sp_at (h : SE X e f) : SP X (some e) (.at_ f) := ⟨po_imp (po_some h.pe) fun σ H Q q => by
  obtain ⟨G, F, st, o, st', R, e, k⟩ := q
  simp only [DP.run] at e
  split at e
  · rename_i i s1 e1
    cases e
    refine ⟨G, F, st, _, _, R, e1, fun v F1 H1 g1 R1 r1 _ => ?_⟩
    cases r1 with | imm r1 => exact ⟨i, r1.int_inv, k F1 H1 g1 R1⟩
  · cases e⟩
def dSl (f : DE) (lo hi : DP) : DE := fun st => match f st with
  | none => none
  | some (x, s1) => match lo.run s1 with
    | none => none
    | some (l, s2) => match hi.run s2 with
      | none => none
      | some (h, s3) => match oSl l h x.frz with
        | none => none
        | some z => some (z, s3)
theorem RDs.cut {K : PySem.W.Frag} {mg : Str → Option Value} {F : Hp} {ds : List D} {vs : List V} (r : RDs K mg F ds vs) (lo hi : Option Int) : RDs K mg F (cutD ds lo hi) (cutV vs lo hi) := by
  unfold cutD cutV
  rw [r.length]
  exact (r.drop _).take _
theorem se_sl {lo hi : Option Expr} {l h : DP} {p2 : Pos} (ha : SE X a f) (hl : SP X lo l) (hh : SP X hi h) : SE X (.Subscript a (.Slice lo hi none p2) pos) (dSl f l h) := by
  refine ⟨pe_imp (pe_slice (sl_list.or sl_tupA) ha.pf hl.po hh.po) fun σ H Q q => ?_⟩
  obtain ⟨G, F, st, sv, st', R, e, k⟩ := q
  unfold dSl at e
  split at e
  · cases e
  rename_i x s1 e1
  split at e
  · cases e
  rename_i l s2 e2
  split at e
  · cases e
  rename_i h s3 e3
  split at e
  · cases e
  rename_i z e4
  cases e
  refine ⟨G, F, st, x, s1, R, e1, fun v F1 H1 g1 R1 r1 => ⟨G, F1, s1, l, s2, R1, e2, fun F2 H2 g2 R2 => ⟨G, F2, s2, h, _, R2, e3, fun F3 H3 g3 R3 => ?_⟩⟩⟩
  have k1 : Kn X.K X.mg G F3 _ σ sv Q := fun v F4 H4 g4 => k v F4 H4 (((g1.trans g2).trans g3).trans g4)
  have r3 := r1.mono (g2.1.trans g3.1)
  unfold oSl at e4
  split at e4
  · rename_i xs hx
    cases e4
    rw [hx] at r3
    obtain ⟨p, vs, rfl, hp, rr⟩ := r3.lst_inv
    exact .inl ⟨p, vs, rfl, .inl (.inl (R3.f _ _ hp)), fun q hq => k1.newL R3 hq (rr.cut l h)⟩
  · rename_i xs hx
    cases e4
    rw [hx] at r3
    obtain ⟨p, vs, rfl, hp, rr⟩ := r3.tup_inv
    refine .inr ⟨p, vs, rfl, ex_t R3.f hp, fun hw => ?_, fun _ q hq => k1.newT R3 hq (rr.cut l h)⟩
    have hc : cutD xs l h = xs := by
      unfold cutD
      rw [rr.length, hw.1, hw.2, ← rr.length]
      simp
    rw [hc] at k1
    exact k1.imm R3 r3
  · rename_i ns hx
    cases e4
    rw [hx] at r3
    obtain ⟨p, rfl, hp⟩ := r3.scr_inv
    exact .inl ⟨p, _, rfl, ex_l R3.f hp, fun q hq => k1.newL R3 hq ((RDs.of_ints ns).cut l h)⟩
  · cases e4

/-! ### attributes -/
def getF (f : Str) : List Str → List D → Option D
  | n :: ns, d :: ds => if n = f then some d else getF f ns ds
  | _, _ => none
theorem getF_rd {K : PySem.W.Frag} {mg : Str → Option Value} {F : Hp} {f : Str} : ∀ {fs : List (Str × V)} {ds : List D} {d : D}, RDs K mg F ds (fs.map (·.2)) → getF f (fs.map (·.1)) ds = some d → ∃ v, fs.lookup f = some v ∧ RD K mg F d v
  | [], _, _, .nil, h => by cases h
  | (n, v) :: fs, _, d, .cons r t, h => by
    simp only [List.map_cons, getF] at h
    by_cases hn : n = f
    · rw [if_pos hn] at h
      cases h
      subst hn
      exact ⟨v, by simp [List.lookup], r⟩
    · rw [if_neg hn] at h
      obtain ⟨w, h1, h2⟩ := getF_rd t h
      refine ⟨w, ?_, h2⟩
      have hb : (f == n) = false := beq_eq_false_iff_ne.mpr fun e => hn e.symm
      simp only [List.lookup, hb]
      exact h1
/-- an attribute of an instance of class c -/
def oFld (c f : Str) : D → Option SV
  | .ins c' ns ds => if c' = c then (getF f ns ds).map .imm else none
  | _ => none
theorem se_fld {c f' : Str} {C : Addr} (hc : X.mg c = some (.ref C)) (cl : Cls X.K C) (na : NoAttr X.K C f') (ha : SE X a f) (hb : attributeBase a f' X.env (eval a X.env) = eval a X.env := by rfl) : SE X (.Attribute a f' pos) (dUn (oFld c f') f) := by
  refine ⟨pe_imp (pe_fld ha.pf hb) fun σ H Q q => ?_⟩
  obtain ⟨G, F, st, sv, st', R, e, k⟩ := q
  unfold dUn at e
  split at e
  · cases e
  rename_i x s1 e1
  split at e
  · cases e
  rename_i z e2
  cases e
  refine ⟨G, F, st, x, _, R, e1, fun v F1 H1 g1 R1 r1 => ?_⟩
  unfold oFld at e2
  split at e2
  · rename_i c' ns ds hx
    split at e2
    · rename_i hcc
      subst hcc
      cases q : getF f' ns ds with
      | none => rw [q] at e2; cases e2
      | some d =>
        rw [q] at e2; cases e2
        rw [hx] at r1
        obtain ⟨p, C', dx, fs, rfl, hC, hp, hn, rr⟩ := r1.ins_inv
        rw [hc] at hC
        cases hC
        subst hn
        obtain ⟨w, h1, h2⟩ := getF_rd rr q
        exact ⟨p, C, dx, fs, w, rfl, R1.f _ _ hp, cl, na, h1, k _ F1 H1 g1 R1 (.imm h2) Sep.imm⟩
    · cases e2
  · cases e2
/-- name.f, the name's instance read as it stands -/
def dFldV (c f : Str) (i : Nat) : DE := fun st => match st[i]? with
  | some (some x) => (match oFld c f x.frz with
    | none => none
    | some z => some (z, st))
  | _ => none
theorem se_fldv {c f' x : Str} {C : Addr} {i : Nat} {p : Pos} (hc : X.mg c = some (.ref C)) (cl : Cls X.K C) (na : NoAttr X.K C f') (hN : X.N[i]? = some x) (hv : Vis X.env.scope x) (hb : attributeBase (.Name x p) f' X.env (eval (.Name x p) X.env) = eval (.Name x p) X.env := by rfl)
    (hd : (x == ("__debug__" : Str)) = false := by decide) (hcd : (x == ("__classdict__" : Str)) = false := by decide) : SE X (.Attribute (.Name x p) f' pos) (dFldV c f' i) := by
  refine ⟨pe_imp (pe_fld (pe_var hN hv hd hcd) hb) fun σ H Q q => ?_⟩
  obtain ⟨G, F, st, sv, st', R, e, k⟩ := q
  unfold dFldV at e
  split at e
  · rename_i x1 h1
    split at e
    · cases e
    rename_i z e2
    cases e
    obtain ⟨v, hv1, rs⟩ := R.at_ i _ h1
    refine ⟨v, hv1, ?_⟩
    have key : ∀ {p : Addr} {C' dx : Addr} {fs : List (Str × V)} {ns : List Str} {ds : List D} {c' : Str}, x1.frz = .ins c' ns ds → v = .ref p → X.mg c' = some (.ref C') → H p = some (.ins C' dx fs) → fs.map (·.1) = ns → RDs X.K X.mg F ds (fs.map (·.2)) →
        ∃ a C dx fs v_1, v = V.ref a ∧ H a = some (HO.ins C dx fs) ∧ Cls X.K C ∧ NoAttr X.K C f' ∧ List.lookup f' fs = some v_1 ∧ Q v_1 H := by
      intro p C' dx fs ns ds c' hx hp hC hh hn rr
      rw [hx] at e2
      simp only [oFld] at e2
      split at e2
      · rename_i hcc
        subst hcc
        cases q : getF f' ns ds with
        | none => rw [q] at e2; cases e2
        | some d =>
          rw [q] at e2; cases e2
          rw [hc] at hC
          cases hC
          subst hn
          obtain ⟨w, h1, h2⟩ := getF_rd rr q
          exact ⟨p, C, dx, fs, w, hp, hh, cl, na, h1, k _ F H (Gr.refl F) R (.imm h2) Sep.imm⟩
      · cases e2
    cases rs with
    | imm rd =>
      simp only [SV.frz] at e2
      unfold oFld at e2
      split at e2
      · rename_i c' ns ds
        obtain ⟨p, C', dx, fs, rfl, hC, hp, hn, rr⟩ := rd.ins_inv
        exact key rfl rfl hC (R.f _ _ hp) hn rr
      · cases e2
    | lst gg ff hh rr => simp only [SV.frz] at e2; cases e2
    | dK gg ff hh _ rr => simp only [SV.frz] at e2; cases e2
    | dT gg ff hh _ rr => simp only [SV.frz] at e2; cases e2
    | ins gg ff hC hh hn rr => exact key rfl rfl hC hh hn rr
  · cases e
end

/-! ### a def's promise: of a function of values; of one whose first argument may change -/
def spP (K : PySem.W.Frag) (mg : Str → Option Value) (N : Nat) (fn : List D → Option SV) : Sp := fun vs H Q _ => ∃ G F ds sv, Kp K mg G H ∧ Exf F H ∧ ds.length = N ∧ RDs K mg F ds vs ∧ fn ds = some sv ∧
  ∀ v F' H', Gr G F F' → Kp K mg G H' → Exf F' H' → RS K mg G F' H' sv v → Q v H'
def spO (K : PySem.W.Frag) (mg : Str → Option Value) (N : Nat) (fn : SV → List D → Option (SV × SV)) : Sp := fun vs H Q _ => ∃ G F ds x a ws sv x', vs = .ref a :: ws ∧ Kp K mg G H ∧ Exf F H ∧ ds.length = N ∧ RDs K mg F ds ws ∧ x.own = true ∧ RS K mg G F H x (.ref a) ∧ fn x ds = some (sv, x') ∧
  ∀ v F' H', Gr G F F' → Kp K mg G H' → Exf F' H' → x'.own = true → RS K mg G F' H' x' (.ref a) → RS K mg G F' H' sv v → (sv.own = true → v ≠ .ref a) → Q v H'
theorem spP_len {K : PySem.W.Frag} {mg : Str → Option Value} {N : Nat} {fn : List D → Option SV} : ∀ vs H Q E, spP K mg N fn vs H Q E → vs.length = N := fun vs H Q E h => by
  obtain ⟨G, F, ds, sv, _, _, hl, r, _⟩ := h
  rw [← r.length]; exact hl
theorem spO_len {K : PySem.W.Frag} {mg : Str → Option Value} {N : Nat} {fn : SV → List D → Option (SV × SV)} : ∀ vs H Q E, spO K mg N fn vs H Q E → vs.length = N + 1 := fun vs H Q E h => by
  obtain ⟨G, F, ds, x, a, ws, sv, x', rfl, _, _, hl, r, _⟩ := h
  rw [List.length_cons, ← r.length, hl]

section
variable {K : PySem.W.Frag} {mg : Str → Option Value} {G F F' H H' : Hp} {st : S} {σ : L2.St}
/-- what stands in the slots behind a call that keeps all of H -/
theorem Rep.after (R : Rep K mg G F st σ H) (g : Gr (noT H) F F') (e : Kp K mg (noT H) H') (e2 : Exf F' H') : Rep K mg G F' st σ H' ∧ Gr G F F' := by
  refine ⟨⟨R.g.trans e, e2.1, e2.2, R.len, fun i sv h => ?_, R.one⟩, g.1, fun a o h => ?_⟩
  · obtain ⟨v, h1, h2⟩ := R.at_ i sv h
    refine ⟨v, h1, ?_⟩
    have nf : ∀ a u, noT H a = some u → F a = none → F' a = none := fun a u hh hf => by
      cases q : F' a with
      | none => rfl
      | some w =>
        rcases g.2 a w q with z | z
        · rw [hf] at z; cases z
        · rw [hh] at z; cases z
    clear h h1
    cases h2 with
    | imm r => exact .imm (r.mono g.1)
    | lst g1 f h3 r => exact .lst g1 (nf _ _ (noT_some h3 fun _ z => nomatch z) f) (e.at_ (noT_some h3 fun _ z => nomatch z) fun _ z => nomatch z) (r.mono g.1)
    | dK g1 f h3 hn r => exact .dK g1 (nf _ _ (noT_some h3 fun _ z => nomatch z) f) (e.at_ (noT_some h3 fun _ z => nomatch z) fun _ z => nomatch z) hn (r.mono g.1)
    | dT g1 f h3 hn r => exact .dT g1 (nf _ _ (noT_some h3 fun _ z => nomatch z) f) (e.at_ (noT_some h3 fun _ z => nomatch z) fun _ z => nomatch z) hn (r.mono g.1)
    | ins g1 f hc h3 hn r => exact .ins g1 (nf _ _ (noT_some h3 fun _ z => nomatch z) f) hc (e.at_ (noT_some h3 fun _ z => nomatch z) fun _ z => nomatch z) hn (r.mono g.1)
  · rcases g.2 a o h with z | z
    · exact .inl z
    · exact .inr (R.g.backT z)
theorem Sep.freshT {p : Addr} {sv : SV} (R : Rep K mg G F st σ H) (hp : noT H p = none) : Sep st σ sv (.ref p) := fun _ j y hj oy e => by
  obtain ⟨v, h1, h2⟩ := R.at_ j y hj
  rw [h1] at e
  cases e
  cases h2 with
  | imm _ => cases oy
  | lst _ _ h _ => rw [noT_some h fun _ z => nomatch z] at hp; cases hp
  | dK _ _ h _ _ => rw [noT_some h fun _ z => nomatch z] at hp; cases hp
  | dT _ _ h _ _ => rw [noT_some h fun _ z => nomatch z] at hp; cases hp
  | ins _ _ _ h _ _ => rw [noT_some h fun _ z => nomatch z] at hp; cases hp
theorem RS.back {sv : SV} {v : V} (R : Rep K mg G F st σ H) (r : RS K mg (noT H) F' H' sv v) : RS K mg G F' H' sv v ∧ Sep st σ sv v := by
  cases r with
  | imm r => exact ⟨.imm r, Sep.imm⟩
  | lst g f h r => exact ⟨.lst (R.g.backT g) f h r, Sep.freshT R g⟩
  | dK g f h hn r => exact ⟨.dK (R.g.backT g) f h hn r, Sep.freshT R g⟩
  | dT g f h hn r => exact ⟨.dT (R.g.backT g) f h hn r, Sep.freshT R g⟩
  | ins g f hc h hn r => exact ⟨.ins (R.g.backT g) f hc h hn r, Sep.freshT R g⟩
end
def dCall (fn : List D → Option SV) (r : DA) : DE := dCB fn r
section
variable {X : Cx} {CX : CXT} {k : Nat} {fa C : Addr} {fd : FuncData} {ps : List Str} {fn : List D → Option SV} {fo : SV → List D → Option (SV × SV)} {x m : Str} {p pos apos : Pos} {e o : Expr} {es : List Expr} {f : DE} {r : DA} {NN : Nat}
theorem spP_of {G F H : Hp} {st : S} {σ : L2.St} {ds : List D} {vs : List V} {sv : SV} {Q : VK} {E : XK} (R : Rep X.K X.mg G F st σ H) (hl : ds.length = NN) (rr : RDs X.K X.mg F ds vs) (e : fn ds = some sv) (k : Kn X.K X.mg G F st σ sv Q) : spP X.K X.mg NN fn vs H Q E := by
  refine ⟨noT H, F, ds, sv, R.g.self, ⟨R.f, R.nt⟩, hl, rr, e, fun v F' H' g e1 e2 rs => ?_⟩
  obtain ⟨R', g'⟩ := R.after g e1 e2
  obtain ⟨h1, h2⟩ := rs.back R
  exact k v F' H' g' R' h1 h2
/-- f(e, ..) -/
def dCallP (NN : Nat) (fn : List D → Option SV) (r : DA) : DE := fun st => match r st with
  | none => none
  | some (xs, s1) => if xs.length = NN then (match fn xs with
    | none => none
    | some z => some (z, s1)) else none
theorem se_call (F : FnOk X.prog X.w X.K X.mg X.base (L2.CX X.prog X.w) k fa fd ps (spP X.K X.mg NN fn)) (hr : Room k X.A) (hg : Gl X x) (hm : X.mg x = some (.ref fa)) (hk : PySem.W.keepIn X.K (.ref fa) = true) (hb : Binds X.K fd ps [])
    (ha : SA X (e :: es) r) (hdb : (x == ("__debug__" : Str)) = false := by decide) (he : starEach (e :: es) X.env = (false, eval e X.env) :: starEach es X.env := by rfl) (hpl : (backTo pos (starEach es X.env)).any (·.1) = false := by rfl) :
    SE X (.Call (.Name x p) (e :: es) [] pos) (dCallP NN fn r) := by
  refine ⟨pe_imp (pe_call F hr hg hm hk hb .nil passL ha.pa hdb he hpl) fun σ H Q q => ?_⟩
  obtain ⟨G, Fz, st, sv, st', R, e, k⟩ := q
  unfold dCallP at e
  split at e
  · cases e
  rename_i xs s1 e1
  split at e
  · rename_i hl
    split at e
    · cases e
    rename_i z e2
    cases e
    refine ⟨G, Fz, st, xs, _, R, e1, fun vs F1 H1 g1 R1 r1 => ?_⟩
    show spP X.K X.mg NN fn (vs ++ []) H1 Q _
    rw [List.append_nil]
    exact spP_of R1 hl r1 e2 fun v F2 H2 g2 => k v F2 H2 (g1.trans g2)
  · cases e
/-- f(name, e, ..), the name's list may change -/
def dCallO (NN i : Nat) (fo : SV → List D → Option (SV × SV)) (r : DA) : DE := fun st => match st[i]? with
  | some (some _) => (match r st with
    | none => none
    | some (xs, s1) => if xs.length = NN then (match s1[i]? with
      | some (some x) => if x.own = true then (match fo x xs with
        | none => none
        | some (z, x') => if x'.own = true then some (z, s1.set i (some x')) else none) else none
      | _ => none) else none)
  | _ => none
/-- an object of ours changed (x' in x's place), all else kept -/
theorem Rep.changed {K : PySem.W.Frag} {mg : Str → Option Value} {G F F' H H' : Hp} {st : S} {σ : L2.St} {i : Nat} {a : Addr} {x x' : SV} (R : Rep K mg G F st σ H) (hi : st[i]? = some (some x)) (ox : x.own = true) (hv : σ[i]? = some (some (.ref a)))
    (g : Gr (fun b => if b = a then none else noT H b) F F') (e : Kp K mg (fun b => if b = a then none else noT H b) H') (e2 : Exf F' H') (ox' : x'.own = true) (r' : RS K mg (fun b => if b = a then none else noT H b) F' H' x' (.ref a)) (ga : G a = none) (fa : F a = none) :
    Rep K mg G F' (st.set i (some x')) σ H' ∧ Gr G F F' := by
  have Gne : ∀ b, G b ≠ none → b ≠ a := fun b h z => h (by rw [z]; exact ga)
  have keep : ∀ b u, b ≠ a → H b = some u → (∀ ps, u ≠ .tbl ps) → H' b = some u := fun b u hb hh n => e.at_ (show (fun b => if b = a then none else noT H b) b = some u by show (if b = a then none else noT H b) = _; rw [if_neg hb]; exact noT_some hh n) n
  have nf : ∀ b u, b ≠ a → noT H b = some u → F b = none → F' b = none := fun b u hb hh hf => by
    cases q : F' b with
    | none => rfl
    | some w =>
      rcases g.2 b w q with z | z
      · rw [hf] at z; cases z
      · have z' : (if b = a then none else noT H b) = none := z
        rw [if_neg hb, hh] at z'; cases z'
  have ra : RS K mg G F' H' x' (.ref a) := by
    cases r' with
    | imm _ => cases ox'
    | lst g1 f h r => exact .lst ga f h r
    | dK g1 f h hn r => exact .dK ga f h hn r
    | dT g1 f h hn r => exact .dT ga f h hn r
    | ins g1 f hc h hn r => exact .ins ga f hc h hn r
  have g' : Gr G F F' := ⟨g.1, fun b o h => by
    rcases g.2 b o h with z | z
    · exact .inl z
    · have z' : (if b = a then none else noT H b) = none := z
      by_cases hb : b = a
      · rw [hb]; exact .inr ga
      · rw [if_neg hb] at z'; exact .inr (R.g.backT z')⟩
  have R0 : Rep K mg G F' (st.set i none) σ H' := by
    refine ⟨R.g.over ga e, e2.1, e2.2, by rw [List.length_set]; exact R.len, fun j y hj => ?_, fun j k y z w h1 h2 => R.one j k y z w (set_none_ne h1).2 (set_none_ne h2).2⟩
    obtain ⟨hne, hj⟩ := set_none_ne hj
    obtain ⟨v, h1, h2⟩ := R.at_ j y hj
    refine ⟨v, h1, ?_⟩
    have hva : y.own = true → v ≠ .ref a := fun oy z => hne (R.one j i y x v hj hi oy ox h1 (by rw [z]; exact hv))
    cases h2 with
    | imm r => exact .imm (r.mono g.1)
    | @lst b vs ds g1 f h r =>
      have hb : b ≠ a := fun z => hva rfl (by rw [z])
      exact .lst g1 (nf _ _ hb (noT_some h fun _ z => nomatch z) f) (keep _ _ hb h fun _ z => nomatch z) (r.mono g.1)
    | @ins b C dx c fs ns ds g1 f hc h hn r =>
      have hb : b ≠ a := fun z => hva rfl (by rw [z])
      exact .ins g1 (nf _ _ hb (noT_some h fun _ z => nomatch z) f) hc (keep _ _ hb h fun _ z => nomatch z) hn (r.mono g.1)
    | @dK b kvs ks ds g1 f h hn r =>
      have hb : b ≠ a := fun z => hva rfl (by rw [z])
      exact .dK g1 (nf _ _ hb (noT_some h fun _ z => nomatch z) f) (keep _ _ hb h fun _ z => nomatch z) hn (r.mono g.1)
    | @dT b kvs ks ds g1 f h hn r =>
      have hb : b ≠ a := fun z => hva rfl (by rw [z])
      exact .dT g1 (nf _ _ hb (noT_some h fun _ z => nomatch z) f) (keep _ _ hb h fun _ z => nomatch z) hn (r.mono g.1)
  have R1 := R0.put (i := i) (sv := x') ra (fun _ j y hj oy e => by
    obtain ⟨hne, hj⟩ := set_none_ne hj
    obtain ⟨hne2, hj⟩ := set_none_ne hj
    exact hne (R.one j i y x _ hj hi oy ox e hv))
  rw [set_self hv] at R1
  have e3 : (st.set i none).set i (some x') = st.set i (some x') := List.set_set ..
  rw [e3] at R1
  exact ⟨R1, g'⟩
theorem spO_of {G F H : Hp} {st : S} {σ : L2.St} {i : Nat} {ds : List D} {ws : List V} {v0 : V} {sv y y' : SV} {Q : VK} {E : XK} (R : Rep X.K X.mg G F st σ H) (hl : ds.length = NN) (rr : RDs X.K X.mg F ds ws) (hi : st[i]? = some (some y)) (oy : y.own = true) (hv : σ[i]? = some (some v0)) (e : fo y ds = some (sv, y'))
    (k : y'.own = true → Kn X.K X.mg G F (st.set i (some y')) σ sv Q) : spO X.K X.mg NN fo (v0 :: ws) H Q E := by
  obtain ⟨v1, hv1, rs⟩ := R.at_ i y hi
  rw [hv] at hv1
  cases hv1
  have hne0 : ∃ a, v0 = .ref a ∧ G a = none ∧ F a = none := by
    cases rs with
    | imm _ => cases oy
    | lst g f _ _ => exact ⟨_, rfl, g, f⟩
    | dK g f _ _ _ => exact ⟨_, rfl, g, f⟩
    | dT g f _ _ _ => exact ⟨_, rfl, g, f⟩
    | ins g f _ _ _ _ => exact ⟨_, rfl, g, f⟩
  obtain ⟨a, rfl, ga, fa⟩ := hne0
  refine ⟨fun b => if b = a then none else noT H b, F, ds, y, a, ws, sv, y', rfl, R.g.self.less, ⟨R.f, R.nt⟩, hl, rr, oy, ?_, e, fun v F' H' g e1 e2 oy' r1 r2 hne => ?_⟩
  · cases rs with
    | imm _ => cases oy
    | lst g f h r => exact .lst (if_pos rfl) f h r
    | dK g f h hn r => exact .dK (if_pos rfl) f h hn r
    | dT g f h hn r => exact .dT (if_pos rfl) f h hn r
    | ins g f hc h hn r => exact .ins (if_pos rfl) f hc h hn r
  · obtain ⟨R', g'⟩ := R.changed hi oy hv g e1 e2 oy' r1 ga fa
    have sp : ∀ b, v = .ref b → sv.own = true → (if b = a then none else noT H b) = none → noT H b = none ∨ b = a := fun b _ _ h => by
      by_cases hb : b = a
      · exact .inr hb
      · rw [if_neg hb] at h; exact .inl h
    have fin : RS X.K X.mg G F' H' sv v ∧ Sep (st.set i (some y')) σ sv v := by
      have sep : ∀ b, v = .ref b → sv.own = true → noT H b = none → Sep (st.set i (some y')) σ sv v := fun b hvb os hb => fun _ j z hj oz ez => by
        obtain ⟨w, h1, h2⟩ := R'.at_ j z hj
        have hst : st[j]? = some (some z) ∨ j = i := by
          by_cases hji : i = j
          · exact .inr hji.symm
          · rw [List.getElem?_set_ne hji] at hj; exact .inl hj
        rcases hst with hst | hst
        · obtain ⟨w', h1', h2'⟩ := R.at_ j z hst
          rw [h1'] at ez
          cases ez
          cases h2' with
          | imm _ => cases oz
          | lst _ _ h _ => cases hvb; rw [noT_some h fun _ z => nomatch z] at hb; cases hb
          | dK _ _ h _ _ => cases hvb; rw [noT_some h fun _ z => nomatch z] at hb; cases hb
          | dT _ _ h _ _ => cases hvb; rw [noT_some h fun _ z => nomatch z] at hb; cases hb
          | ins _ _ _ h _ _ => cases hvb; rw [noT_some h fun _ z => nomatch z] at hb; cases hb
        · subst hst
          rw [hv] at ez
          cases ez
          exact hne os rfl
      cases r2 with
      | imm r => exact ⟨.imm r, Sep.imm⟩
      | @lst b vs ds g1 f h r =>
        rcases sp b rfl rfl g1 with z | z
        · exact ⟨.lst (R.g.backT z) f h r, sep b rfl rfl z⟩
        · exact absurd (by rw [z]) (hne rfl)
      | @dK b kvs ks ds g1 f h hn r =>
        rcases sp b rfl rfl g1 with z | z
        · exact ⟨.dK (R.g.backT z) f h hn r, sep b rfl rfl z⟩
        · exact absurd (by rw [z]) (hne rfl)
      | @dT b kvs ks ds g1 f h hn r =>
        rcases sp b rfl rfl g1 with z | z
        · exact ⟨.dT (R.g.backT z) f h hn r, sep b rfl rfl z⟩
        · exact absurd (by rw [z]) (hne rfl)
      | @ins b C dx c fs ns ds g1 f hc h hn r =>
        rcases sp b rfl rfl g1 with z | z
        · exact ⟨.ins (R.g.backT z) f hc h hn r, sep b rfl rfl z⟩
        · exact absurd (by rw [z]) (hne rfl)
    exact k oy' v F' H' g' R' fin.1 fin.2
theorem callO_of {i : Nat} {σ : L2.St} {H : Hp} {Q : VK} {E : XK} (q : tD X.K X.mg (dCallO NN i fo r) σ H Q) : tCall (spO X.K X.mg NN fo) [] E (tCons (tVar i) (tAD X.K X.mg r)) σ H Q := by
  obtain ⟨G, Fz, st, sv, st', R, e, k⟩ := q
  unfold dCallO at e
  split at e
  · rename_i y0 h0
    split at e
    · cases e
    rename_i xs s1 e1
    split at e
    · rename_i hl
      split at e
      · rename_i y h1
        split at e
        · rename_i oy
          split at e
          · cases e
          rename_i z y' e2
          split at e
          · rename_i oy'
            cases e
            obtain ⟨v0, hv0, _⟩ := R.at_ i _ h0
            refine ⟨v0, hv0, G, Fz, st, xs, s1, R, e1, fun vs F1 H1 g1 R1 r1 => ?_⟩
            show spO X.K X.mg NN fo ((v0 :: vs) ++ []) H1 Q E
            rw [List.append_nil]
            exact spO_of R1 hl r1 h1 oy hv0 e2 fun _ v F2 H2 g2 => k v F2 H2 (g1.trans g2)
          · cases e
        · cases e
      · cases e
    · cases e
  · cases e
theorem se_callO {i : Nat} {y : Str} {p2 : Pos} (F : FnOk X.prog X.w X.K X.mg X.base (L2.CX X.prog X.w) k fa fd ps (spO X.K X.mg NN fo)) (hr : Room k X.A) (hg : Gl X x) (hm : X.mg x = some (.ref fa)) (hk : PySem.W.keepIn X.K (.ref fa) = true) (hb : Binds X.K fd ps [])
    (hN : X.N[i]? = some y) (hv : Vis X.env.scope y) (ha : SA X es r) (hdb : (x == ("__debug__" : Str)) = false := by decide) (hd : (y == ("__debug__" : Str)) = false := by decide) (hcd : (y == ("__classdict__" : Str)) = false := by decide)
    (he : starEach (.Name y p2 :: es) X.env = (false, eval (.Name y p2) X.env) :: starEach es X.env := by rfl) (hpl : (backTo pos (starEach es X.env)).any (·.1) = false := by rfl) :
    SE X (.Call (.Name x p) (.Name y p2 :: es) [] pos) (dCallO NN i fo r) :=
  ⟨pe_imp (pe_call F hr hg hm hk hb .nil passL (pa_cons (pe_var hN hv hd hcd) ha.pa he) hdb he hpl) fun σ H Q q => callO_of q⟩

/-! ### C(..) -/
def dMake (c : Str) (NN : Nat) (fo : SV → List D → Option (SV × SV)) (r : DA) : DE := fun st => match r st with
  | none => none
  | some (xs, s1) => if xs.length = NN then (match fo (.ins c [] []) xs with
    | some (.imm .non, x') => if x'.own = true then some (x', s1) else none
    | _ => none) else none
theorem se_make (M : Mk X.K C fa) (F : FnOk X.prog X.w X.K X.mg X.base (L2.CX X.prog X.w) k fa fd ps (spO X.K X.mg NN fo)) (hr : Room (k + 1) X.A) (hg : Gl X x) (hm : X.mg x = some (.ref C)) (hb : Binds X.K fd ps [])
    (ha : SA X (e :: es) r) (hdb : (x == ("__debug__" : Str)) = false := by decide) (he : starEach (e :: es) X.env = (false, eval e X.env) :: starEach es X.env := by rfl) (hpl : (backTo pos (starEach es X.env)).any (·.1) = false := by rfl) :
    SE X (.Call (.Name x p) (e :: es) [] pos) (dMake x NN fo r) := by
  refine ⟨pe_imp (pe_make M F hr hg hm hb .nil passL ha.pa hdb he hpl) fun σ H Q q => ?_⟩
  obtain ⟨G, Fz, st, sv, st', R, e, k⟩ := q
  unfold dMake at e
  split at e
  · cases e
  rename_i xs s1 e1
  split at e
  · rename_i hl
    split at e
    · rename_i x' e2
      split at e
      · rename_i ox
        cases e
        refine ⟨G, Fz, st, xs, _, R, e1, fun vs F1 H1 g1 R1 r1 => fun a dx ha hdx hne => ?_⟩
        show spO X.K X.mg NN fo (.ref a :: (vs ++ [])) _ _ _
        rw [List.append_nil]
        have eH : Ex H1 (upd (upd H1 dx (.own a)) a (.ins C dx [])) := (Ex.new hdx).trans (Ex.new (by rw [upd_ne (fun z => hne z.symm)]; exact ha))
        refine ⟨noT H1, F1, xs, .ins x [] [], a, vs, .imm .non, sv, rfl, (R1.g.self.new hdx).new (by rw [upd_ne (fun z => hne z.symm)]; exact ha), ⟨R1.f.trans eH, R1.nt⟩, hl, r1, rfl, .ins (noT_none ha) (R1.fresh ha).2 hm upd_same rfl .nil, e2, fun v F' H' g e3 e4 oy' r2 r3 hnn => ?_⟩
        cases r3 with | imm r3 => ?_
        refine ⟨r3.non_inv, ?_⟩
        obtain ⟨R', g'⟩ := R1.after g e3 e4
        obtain ⟨h1, h2⟩ := r2.back R1
        exact k _ F' H' (g1.trans g') R' h1 h2
      · cases e
    · cases e
  · cases e

end
end Sm
/-! Statements. -/
namespace Sm
open PySem L2 Evl PyProof.Rows

inductive Out where
  | nx | bk | ct | rt (sv : SV)
abbrev DS := S → Option (Out × S)
def Out.goes (K : PySem.W.Frag) (mg : Str → Option Value) (D : Ends) (G F : Hp) (st : S) (σ : L2.St) (H : Hp) : Out → Prop
  | .nx => D.nx σ H
  | .bk => D.bk σ H
  | .ct => D.ct σ H
  | .rt sv => ∀ v, RS K mg G F H sv v → Sep st σ sv v → D.rt v H
/-- the slots that a body does not store -/
def Keeps (P : List Nat) (σ σ' : L2.St) : Prop := ∀ i ∈ P, σ'[i]? = σ[i]?
theorem Keeps.refl {P : List Nat} {σ : L2.St} : Keeps P σ σ := fun _ _ => rfl
theorem Keeps.trans {P : List Nat} {σ σ1 σ2 : L2.St} (a : Keeps P σ σ1) (b : Keeps P σ1 σ2) : Keeps P σ σ2 := fun i h => (b i h).trans (a i h)
theorem Keeps.set {P : List Nat} {σ : L2.St} {i : Nat} {v : Option V} (h : i ∉ P) : Keeps P σ (σ.set i v) := fun j hj => by
  rw [List.getElem?_set_ne (fun e => h (by rw [e]; exact hj))]
def tS (K : PySem.W.Frag) (mg : Str → Option Value) (P : List Nat) (d : DS) : TS := fun D σ H => ∃ G F st o st', Rep K mg G F st σ H ∧ d st = some (o, st') ∧
  ∀ F' H' σ', Gr G F F' → Rep K mg G F' st' σ' H' → Keeps P σ σ' → o.goes K mg D G F' st' σ' H'
structure SS (X : Cx) (P : List Nat) (s : Stmt) (d : DS) : Prop where
  ps : PS X s (tS X.K X.mg P d)
structure SSs (X : Cx) (P : List Nat) (s : List Stmt) (d : DS) : Prop where
  pss : PSs X s (tS X.K X.mg P d)

def dNext : DS := fun st => some (.nx, st)
def dSeq (d r : DS) : DS := fun st => match d st with
  | some (.nx, s1) => r s1
  | x => x
section
variable {X : Cx} {P : List Nat} {e c : Expr} {s : Stmt} {ss ta tb : List Stmt} {f g : DE} {d d1 d2 r : DS} {t : DT} {pos : Pos}
theorem sss_nil : SSs X P [] dNext := ⟨pss_imp pss_nil fun D σ H q => by
  obtain ⟨G, F, st, o, st', R, e, k⟩ := q
  cases e
  exact k F H σ (Gr.refl F) R Keeps.refl⟩
theorem seq_of {D : Ends} {σ : L2.St} {H : Hp} (q : tS X.K X.mg P (dSeq d r) D σ H) : tSeq (tS X.K X.mg P d) (tS X.K X.mg P r) D σ H := by
  obtain ⟨G, F, st, o, st', R, e, k⟩ := q
  unfold dSeq at e
  split at e
  · rename_i s1 e1
    exact ⟨G, F, st, .nx, s1, R, e1, fun F1 H1 σ1 g1 R1 k1 => ⟨G, F1, s1, o, st', R1, e, fun F2 H2 σ2 g2 R2 k2 => k F2 H2 σ2 (g1.trans g2) R2 (k1.trans k2)⟩⟩
  · rename_i hne
    refine ⟨G, F, st, o, st', R, e, fun F1 H1 σ1 g1 R1 k1 => ?_⟩
    have := k F1 H1 σ1 g1 R1 k1
    cases o with
    | nx => exact absurd e (hne st')
    | bk => exact this
    | ct => exact this
    | rt sv => exact this
theorem sss_cons (h1 : SS X P s d) (h2 : SSs X P ss r) : SSs X P (s :: ss) (dSeq d r) := ⟨pss_imp (pss_cons h1.ps h2.pss) fun _ _ _ q => seq_of q⟩
theorem sss_one (h1 : SS X P s d) : SSs X P [s] d := ⟨pss_one h1.ps⟩
/-- a statement that is not come to -/
def dNo : DS := fun _ => none
theorem ss_no : SS X P s dNo := ⟨ps_imp ps_never fun D σ H q => by
  obtain ⟨G, F, st, o, st', R, e, k⟩ := q
  cases e⟩
theorem sss_no : SSs X P ss dNo := ⟨pss_imp pss_never fun D σ H q => by
  obtain ⟨G, F, st, o, st', R, e, k⟩ := q
  cases e⟩
theorem ss_pass : SS X P (.Pass pos) dNext := ⟨ps_imp ps_pass fun D σ H q => by
  obtain ⟨G, F, st, o, st', R, e, k⟩ := q
  cases e
  exact k F H σ (Gr.refl F) R Keeps.refl⟩
def dBrk : DS := fun st => some (.bk, st)
def dCont : DS := fun st => some (.ct, st)
theorem ss_break : SS X P (.Break pos) dBrk := ⟨ps_imp ps_break fun D σ H q => by
  obtain ⟨G, F, st, o, st', R, e, k⟩ := q
  cases e
  exact k F H σ (Gr.refl F) R Keeps.refl⟩
theorem ss_cont : SS X P (.Continue pos) dCont := ⟨ps_imp ps_continue fun D σ H q => by
  obtain ⟨G, F, st, o, st', R, e, k⟩ := q
  cases e
  exact k F H σ (Gr.refl F) R Keeps.refl⟩
def dDrop (f : DE) : DS := fun st => match f st with
  | none => none
  | some (_, s1) => some (.nx, s1)
theorem ss_expr (he : SE X e f) (hs : swapsWith e none pos.line X.env = pure false := by rfl) : SS X P (.Expr e pos) (dDrop f) := ⟨ps_imp (ps_expr he.pe hs) fun D σ H q => by
  obtain ⟨G, F, st, o, st', R, e, k⟩ := q
  unfold dDrop at e
  split at e
  · cases e
  · rename_i x s1 e1
    cases e
    exact ⟨G, F, st, x, _, R, e1, fun v F1 H1 g1 R1 _ _ => k F1 H1 σ g1 R1 Keeps.refl⟩⟩
def dRet (f : DE) : DS := fun st => match f st with
  | none => none
  | some (x, s1) => some (.rt x, s1)
theorem ss_ret (he : SE X e f) : SS X P (.Return (some e) pos) (dRet f) := ⟨ps_imp (ps_ret he.pe) fun D σ H q => by
  obtain ⟨G, F, st, o, st', R, e, k⟩ := q
  unfold dRet at e
  split at e
  · cases e
  · rename_i x s1 e1
    cases e
    exact ⟨G, F, st, x, _, R, e1, fun v F1 H1 g1 R1 r1 s1 => k F1 H1 σ g1 R1 Keeps.refl v r1 s1⟩⟩
def dRetN : DS := fun st => some (.rt (.imm .non), st)
theorem ss_retN : SS X P (.Return none pos) dRetN := ⟨ps_imp ps_retN fun D σ H q => by
  obtain ⟨G, F, st, o, st', R, e, k⟩ := q
  cases e
  exact k F H σ (Gr.refl F) R Keeps.refl .non (.imm .non) Sep.imm⟩
def dIfS (t : DT) (d1 d2 : DS) : DS := fun st => match t st with
  | some (true, s1) => d1 s1
  | some (false, s1) => d2 s1
  | none => none
theorem ss_if (hc : ST X c t) (ha : SSs X P ta d1) (hb : SSs X P tb d2) : SS X P (.If c ta tb pos) (dIfS t d1 d2) := ⟨ps_imp (ps_if hc.pt ha.pss hb.pss) fun D σ H q => by
  obtain ⟨G, F, st, o, st', R, e, k⟩ := q
  unfold dIfS at e
  split at e
  · rename_i s1 e1
    refine ⟨G, F, st, _, s1, R, e1, fun F1 H1 g1 R1 => ?_⟩
    refine iteT ?_
    exact ⟨G, F1, s1, o, st', R1, e, fun F2 H2 σ2 g2 => k F2 H2 σ2 (g1.trans g2)⟩
  · rename_i s1 e1
    refine ⟨G, F, st, _, s1, R, e1, fun F1 H1 g1 R1 => ?_⟩
    refine iteF ?_
    exact ⟨G, F1, s1, o, st', R1, e, fun F2 H2 σ2 g2 => k F2 H2 σ2 (g1.trans g2)⟩
  · cases e⟩
/-- name = e -/
def dSet (i : Nat) (f : DE) : DS := fun st => match f st with
  | none => none
  | some (x, s1) => some (.nx, s1.set i (some x))
theorem Sep.less {st : S} {σ : L2.St} {sv : SV} {v : V} (i : Nat) (s : Sep st σ sv v) : Sep (st.set i none) σ sv v := fun o j y hj oy e => s o j y (set_none_ne hj).2 oy e
theorem set_of {D : Ends} {σ : L2.St} {H : Hp} {i : Nat} (hP : i ∉ P) (q : tS X.K X.mg P (dSet i f) D σ H) : tAsg (tD X.K X.mg f) (gName i) D σ H := by
  obtain ⟨G, F, st, o, st', R, e, k⟩ := q
  unfold dSet at e
  split at e
  · cases e
  · rename_i x s1 e1
    cases e
    exact ⟨G, F, st, x, s1, R, e1, fun v F1 H1 g1 R1 r1 sp => k F1 H1 _ g1 (R1.put r1 (sp.less i)) (Keeps.set hP)⟩
theorem ss_set {i : Nat} {x : Str} {pos' : Pos} (hP : i ∉ P) (hN : X.N.Nodup) (hi : X.N[i]? = some x) (hx : Loc X.env.scope x) (he : SE X e f) (hs : swapsWith e (some (.Name x pos')) pos.line X.env = pure false := by rfl) (hf : X.fn x = true ∨ X.env.scope.names.lookup x = some .local := by first | exact .inl rfl | exact .inr rfl | assumption) :
    SS X P (.Assign [.Name x pos'] e pos) (dSet i f) := ⟨ps_imp (ps_set hN hi hx he.pe hs hf) fun _ _ _ q => set_of hP q⟩

/-! ### several values at once -/
/-- values apart from the slots' own ones and from each other -/
def RSL (K : PySem.W.Frag) (mg : Str → Option Value) (G F H : Hp) (st : S) (σ : L2.St) : List SV → List V → Prop
  | [], [] => True
  | sv :: svs, v :: vs => RS K mg G F H sv v ∧ Sep st σ sv v ∧ (∀ (j : Nat) (y : SV), svs[j]? = some y → sv.own = true → y.own = true → vs[j]? ≠ some v) ∧ RSL K mg G F H st σ svs vs
  | _, _ => False
abbrev DAS := S → Option (List SV × S)
def tAS (K : PySem.W.Frag) (mg : Str → Option Value) (d : DAS) : TA := fun σ H Q => ∃ G F st svs st', Rep K mg G F st σ H ∧ d st = some (svs, st') ∧
  ∀ vs F' H', Gr G F F' → Rep K mg G F' st' σ H' → RSL K mg G F' H' st' σ svs vs → Q vs H'
structure SAS (X : Cx) (es : List Expr) (d : DAS) : Prop where
  pa : PA X es (tAS X.K X.mg d)
/-- a value of ours is kept while others are reckoned -/
theorem pend {K : PySem.W.Frag} {mg : Str → Option Value} {G F H : Hp} {st : S} {σ : L2.St} {sv : SV} {v : V} (R : Rep K mg G F st σ H) (r : RS K mg G F H sv v) (s : Sep st σ sv v) :
    ∃ G', Rep K mg G' F st σ H ∧ (∀ p, G' p = none → G p = none) ∧ (sv.own = true → ∀ p, v = .ref p → G' p ≠ none) ∧ ∀ F' H' st', Gr G' F F' → Rep K mg G' F' st' σ H' → Gr G F F' ∧ Rep K mg G F' st' σ H' ∧ RS K mg G F' H' sv v ∧ Sep st' σ sv v := by
  have key : ∀ (a : Addr) (o : HO), v = .ref a → sv.own = true → G a = none → F a = none → H a = some o → (∀ ps, o ≠ .tbl ps) → (∀ F' H' : Hp, Ex F F' → F' a = none → H' a = some o → RS K mg G F' H' sv v) →
      ∃ G', Rep K mg G' F st σ H ∧ (∀ p, G' p = none → G p = none) ∧ (sv.own = true → ∀ p, v = .ref p → G' p ≠ none) ∧ ∀ F' H' st', Gr G' F F' → Rep K mg G' F' st' σ H' → Gr G F F' ∧ Rep K mg G F' st' σ H' ∧ RS K mg G F' H' sv v ∧ Sep st' σ sv v := by
    intro a o hv ho hg hf hh no mk
    have up : ∀ p, upd G a o p = none → p ≠ a ∧ G p = none := fun p h => by
      by_cases hp : p = a
      · subst hp; rw [upd_same] at h; cases h
      · rw [upd_ne hp] at h; exact ⟨hp, h⟩
    have down : ∀ p, p ≠ a → G p = none → upd G a o p = none := fun p hp h => by rw [upd_ne hp]; exact h
    refine ⟨upd G a o, ⟨⟨fun b u h => ?_, R.g.2⟩, R.f, R.nt, R.len, fun i x hi => ?_, R.one⟩, fun p h => (up p h).2, fun _ p hp z => ?_, fun F' H' st' g R' => ?_⟩
    · by_cases hb : b = a
      · subst hb; rw [upd_same] at h; cases h; exact ⟨hh, no⟩
      · rw [upd_ne hb] at h; exact R.g.1 b u h
    · obtain ⟨w, h1, h2⟩ := R.at_ i x hi
      refine ⟨w, h1, ?_⟩
      have ne : x.own = true → ∀ p, w = .ref p → p ≠ a := fun ox p hp z => s ho i x hi ox (by rw [h1, hp, z, hv])
      clear hi h1
      cases h2 with
      | imm r => exact .imm r
      | lst g1 f h r => exact .lst (down _ (ne rfl _ rfl) g1) f h r
      | dK g1 f h hn r => exact .dK (down _ (ne rfl _ rfl) g1) f h hn r
      | dT g1 f h hn r => exact .dT (down _ (ne rfl _ rfl) g1) f h hn r
      | ins g1 f hc h hn r => exact .ins (down _ (ne rfl _ rfl) g1) f hc h hn r
    · rw [hv] at hp
      cases hp
      exact (up _ z).1 rfl
    · have fa : F' a = none := by
        cases q : F' a with
        | none => rfl
        | some w =>
          rcases g.2 a w q with z | z
          · rw [hf] at z; cases z
          · exact absurd rfl (up a z).1
      have ha : H' a = some o := R'.g.at_ upd_same no
      refine ⟨⟨g.1, fun b u h => (g.2 b u h).imp id fun z => (up b z).2⟩, ⟨⟨fun b u h => R'.g.1 b u (by rw [upd_ne (fun z => by rw [z, hg] at h; cases h)]; exact h), R'.g.2⟩, R'.f, R'.nt, R'.len, fun i x hi => ?_, R'.one⟩, mk F' H' g.1 fa ha, fun _ j y hj oy e => ?_⟩
      · obtain ⟨w, h1, h2⟩ := R'.at_ i x hi
        refine ⟨w, h1, ?_⟩
        clear hi h1
        cases h2 with
        | imm r => exact .imm r
        | lst g1 f h r => exact .lst (up _ g1).2 f h r
        | dK g1 f h hn r => exact .dK (up _ g1).2 f h hn r
        | dT g1 f h hn r => exact .dT (up _ g1).2 f h hn r
        | ins g1 f hc h hn r => exact .ins (up _ g1).2 f hc h hn r
      · obtain ⟨w, h1, h2⟩ := R'.at_ j y hj
        rw [h1, hv] at e
        cases e
        cases h2 with
        | imm _ => cases oy
        | lst g1 _ _ _ => exact (up _ g1).1 rfl
        | dK g1 _ _ _ _ => exact (up _ g1).1 rfl
        | dT g1 _ _ _ _ => exact (up _ g1).1 rfl
        | ins g1 _ _ _ _ _ => exact (up _ g1).1 rfl
  cases r with
  | imm r => exact ⟨G, R, fun _ h => h, (fun z => by cases z), fun F' H' st' g R' => ⟨g, R', .imm (r.mono g.1), Sep.imm⟩⟩
  | lst g f h r => exact key _ _ rfl rfl g f h (fun _ z => nomatch z) fun F' H' e fa ha => .lst g fa ha (r.mono e)
  | dK g f h hn r => exact key _ _ rfl rfl g f h (fun _ z => nomatch z) fun F' H' e fa ha => .dK g fa ha hn (r.mono e)
  | dT g f h hn r => exact key _ _ rfl rfl g f h (fun _ z => nomatch z) fun F' H' e fa ha => .dT g fa ha hn (r.mono e)
  | ins g f hc h hn r => exact key _ _ rfl rfl g f h (fun _ z => nomatch z) fun F' H' e fa ha => .ins g fa hc ha hn (r.mono e)
theorem RSL.weak {K : PySem.W.Frag} {mg : Str → Option Value} {G G' F H : Hp} {st : S} {σ : L2.St} (h : ∀ p, G' p = none → G p = none) : ∀ {svs : List SV} {vs : List V}, RSL K mg G' F H st σ svs vs → RSL K mg G F H st σ svs vs
  | [], [], _ => trivial
  | [], _ :: _, q => q.elim
  | _ :: _, [], q => q.elim
  | sv :: svs, v :: vs, ⟨a, b, c, d⟩ => ⟨by
      cases a with
      | imm r => exact .imm r
      | lst g f h2 r => exact .lst (h _ g) f h2 r
      | dK g f h2 hn r => exact .dK (h _ g) f h2 hn r
      | dT g f h2 hn r => exact .dT (h _ g) f h2 hn r
      | ins g f hc h2 hn r => exact .ins (h _ g) f hc h2 hn r, b, c, RSL.weak h d⟩
theorem RSL.notin {K : PySem.W.Frag} {mg : Str → Option Value} {G F H : Hp} {st : S} {σ : L2.St} {p : Addr} (hp : G p ≠ none) : ∀ {svs : List SV} {vs : List V}, RSL K mg G F H st σ svs vs → ∀ (j : Nat) (y : SV), svs[j]? = some y → y.own = true → vs[j]? ≠ some (V.ref p)
  | [], [], _, j, y, h, _ => by simp at h
  | [], _ :: _, q, _, _, _, _ => q.elim
  | _ :: _, [], q, _, _, _, _ => q.elim
  | sv :: svs, v :: vs, ⟨a, b, c, d⟩, 0, y, h, oy => fun e => by
      simp at h e
      subst h e
      cases a with
      | imm r => cases oy
      | lst g f h2 r => exact hp g
      | dK g f h2 _ r => exact hp g
      | dT g f h2 _ r => exact hp g
      | ins g f hc h2 hn r => exact hp g
  | sv :: svs, v :: vs, ⟨a, b, c, d⟩, j + 1, y, h, oy => by
      simp only [List.getElem?_cons_succ] at h ⊢
      exact RSL.notin hp d j y h oy
def sNil : DAS := fun st => some ([], st)
def sCons (f : DE) (r : DAS) : DAS := fun st => match f st with
  | none => none
  | some (x, s1) => match r s1 with
    | none => none
    | some (xs, s2) => some (x :: xs, s2)
theorem sas_nil : SAS X [] sNil := ⟨pa_imp pa_nil fun σ H Q q => by
  obtain ⟨G, F, st, ds, st', R, e, k⟩ := q
  cases e
  exact k [] F H (Gr.refl F) R trivial⟩
theorem sas_cons {es : List Expr} {r : DAS} (ha : SE X e f) (hr : SAS X es r) (hs : starEach (e :: es) X.env = (false, eval e X.env) :: starEach es X.env := by rfl) : SAS X (e :: es) (sCons f r) := ⟨pa_imp (pa_cons ha.pe hr.pa hs) fun σ H Q q => by
  obtain ⟨G, F, st, svs, st', R, e, k⟩ := q
  unfold sCons at e
  split at e
  · cases e
  rename_i x s1 e1
  split at e
  · cases e
  rename_i xs s2 e2
  cases e
  refine ⟨G, F, st, x, s1, R, e1, fun v F1 H1 g1 R1 r1 sp => ?_⟩
  obtain ⟨G', R', hw, hn, back⟩ := pend R1 r1 sp
  refine ⟨G', F1, s1, xs, _, R', e2, fun vs F2 H2 g2 R2 r2 => ?_⟩
  obtain ⟨g3, R3, r3, s3⟩ := back F2 H2 _ g2 R2
  refine k _ F2 H2 (g1.trans g3) R3 ⟨r3, s3, fun j y hj ox oy => ?_, r2.weak hw⟩
  cases r3 with
  | imm _ => cases ox
  | lst _ _ _ _ => exact r2.notin (hn ox _ rfl) j y hj oy
  | dK _ _ _ _ _ => exact r2.notin (hn ox _ rfl) j y hj oy
  | dT _ _ _ _ _ => exact r2.notin (hn ox _ rfl) j y hj oy
  | ins _ _ _ _ _ _ => exact r2.notin (hn ox _ rfl) j y hj oy⟩
def setL (st : S) : List Nat → List SV → S
  | i :: is, x :: xs => setL (st.set i (some x)) is xs
  | _, _ => st
def setV (σ : L2.St) : List Nat → List V → L2.St
  | i :: is, v :: vs => setV (σ.set i (some v)) is vs
  | _, _ => σ
theorem RSL.length {K : PySem.W.Frag} {mg : Str → Option Value} {G F H : Hp} {st : S} {σ : L2.St} : ∀ {svs : List SV} {vs : List V}, RSL K mg G F H st σ svs vs → svs.length = vs.length
  | [], [], _ => rfl
  | [], _ :: _, q => q.elim
  | _ :: _, [], q => q.elim
  | _ :: _, _ :: _, ⟨_, _, _, d⟩ => by rw [List.length_cons, List.length_cons, d.length]
theorem RSL.put {K : PySem.W.Frag} {mg : Str → Option Value} {G F H : Hp} {i : Nat} {sv0 : SV} {v0 : V} : ∀ {svs : List SV} {vs : List V} {st : S} {σ : L2.St}, RSL K mg G F H st σ svs vs → (∀ (j : Nat) (y : SV), svs[j]? = some y → sv0.own = true → y.own = true → vs[j]? ≠ some v0) → RSL K mg G F H (st.set i (some sv0)) (σ.set i (some v0)) svs vs
  | [], [], _, _, _, _ => trivial
  | [], _ :: _, _, _, q, _ => q.elim
  | _ :: _, [], _, _, q, _ => q.elim
  | sv :: svs, v :: vs, st, σ, ⟨a, b, c, d⟩, h => by
    refine ⟨a, fun ov j y hj oy e => ?_, c, RSL.put d fun j y hj o1 o2 => by simpa using h (j + 1) y (by simpa using hj) o1 o2⟩
    by_cases hji : i = j
    · subst hji
      by_cases hl : i < σ.length
      · rw [List.getElem?_set_self hl] at e
        by_cases hl2 : i < st.length
        · rw [List.getElem?_set_self hl2] at hj
          cases hj; cases e
          exact h 0 sv (by simp) oy ov (by simp)
        · rw [List.getElem?_eq_none (by simpa using hl2)] at hj; cases hj
      · rw [List.getElem?_eq_none (by simpa using hl)] at e; cases e
    · rw [List.getElem?_set_ne hji] at hj e
      exact b ov j y hj oy e
theorem putL {K : PySem.W.Frag} {mg : Str → Option Value} {G F H : Hp} : ∀ {is : List Nat} {svs : List SV} {vs : List V} {st : S} {σ : L2.St}, Rep K mg G F st σ H → RSL K mg G F H st σ svs vs → is.length = svs.length → Rep K mg G F (setL st is svs) (setV σ is vs) H
  | [], [], [], _, _, R, _, _ => R
  | i :: is, sv :: svs, v :: vs, st, σ, R, ⟨a, b, c, d⟩, h => by
    show Rep K mg G F (setL (st.set i (some sv)) is svs) (setV (σ.set i (some v)) is vs) H
    exact putL (R.put a (b.less i)) (d.put c) (by simpa using h)
  | [], [], _ :: _, _, _, _, q, _ => q.elim
  | _ :: _, _ :: _, [], _, _, _, q, _ => q.elim
  | [], _ :: _, _, _, _, _, _, h => by simp at h
  | _ :: _, [], _, _, _, _, _, h => by simp at h
theorem Keeps.setV {P : List Nat} : ∀ {is : List Nat} {vs : List V} {σ : L2.St}, (∀ i ∈ is, i ∉ P) → Keeps P σ (Sm.setV σ is vs)
  | [], _, _, _ => Keeps.refl
  | _ :: _, [], _, _ => Keeps.refl
  | i :: is, v :: vs, σ, h => (Keeps.set (h i (by simp))).trans (Keeps.setV fun j hj => h j (by simp [hj]))
/-- a, b, .. = x, y, .. -/
def dPar (is : List Nat) (r : DAS) : DS := fun st => match r st with
  | none => none
  | some (xs, s1) => if is.length = xs.length then some (.nx, setL s1 is xs) else none
theorem dPar_inv {is : List Nat} {r : DAS} {st st' : S} {o : Out} (e : dPar is r st = some (o, st')) : ∃ xs s1, r st = some (xs, s1) ∧ is.length = xs.length ∧ o = .nx ∧ st' = setL s1 is xs := by
  unfold dPar at e
  split at e
  · cases e
  · rename_i xs s1 e1
    split at e
    · rename_i hl
      cases e
      exact ⟨xs, s1, e1, hl, rfl, rfl⟩
    · cases e
theorem ss_par2 {i j : Nat} {x y : Str} {a b : Expr} {r : DAS} {px py pt : Pos} {kt k2 pt2} (hP : ∀ l ∈ [i, j], l ∉ P) (hc : X.calm = true) (hN : X.N.Nodup) (hi : X.N[i]? = some x) (hj : X.N[j]? = some y) (hij : i ≠ j)
    (hx : X.env.scope.names.lookup x = some .local) (hy : X.env.scope.names.lookup y = some .local) (ha : SAS X [a, b] r)
    (hw : swappedStores [.Tuple [.Name x px, .Name y py] kt pt] (.Tuple [a, b] k2 pt2) X.env = pure (some [x, y]))
    (hs : swapsWithSole [.Tuple [.Name x px, .Name y py] kt pt] (.Tuple [a, b] k2 pt2) pos.line X.env = pure false := by rfl) :
    SS X P (.Assign [.Tuple [.Name x px, .Name y py] kt pt] (.Tuple [a, b] k2 pt2) pos) (dPar [i, j] r) := ⟨ps_imp (ps_par hc hN hi hj hij hx hy ha.pa hw hs) fun D σ H q => by
  obtain ⟨G, F, st, o, st', R, e, k⟩ := q
  obtain ⟨xs, s1, e1, hl, rfl, rfl⟩ := dPar_inv e
  refine ⟨G, F, st, xs, s1, R, e1, fun vs F1 H1 g1 R1 r1 => ?_⟩
  have hl2 := r1.length
  obtain ⟨v, w, rfl⟩ : ∃ v w, vs = [v, w] := by
    match vs, hl2.symm.trans hl.symm with
    | [v, w], _ => exact ⟨v, w, rfl⟩
  exact ⟨v, w, rfl, k F1 H1 _ g1 (putL R1 r1 hl) (Keeps.setV (is := [i, j]) (vs := [v, w]) hP)⟩⟩
theorem ss_par3 {i j l : Nat} {x y z : Str} {a b c : Expr} {r : DAS} {px py pz pt : Pos} {kt k2 pt2} (hP : ∀ m ∈ [i, j, l], m ∉ P) (hc : X.calm = true) (hN : X.N.Nodup) (hi : X.N[i]? = some x) (hj : X.N[j]? = some y) (hl : X.N[l]? = some z) (hij : i ≠ j) (hil : i ≠ l) (hjl : j ≠ l)
    (hx : X.env.scope.names.lookup x = some .local) (hy : X.env.scope.names.lookup y = some .local) (hz : X.env.scope.names.lookup z = some .local) (ha : SAS X [a, b, c] r)
    (hw : swappedStores [.Tuple [.Name x px, .Name y py, .Name z pz] kt pt] (.Tuple [a, b, c] k2 pt2) X.env = pure (some [x, y, z]))
    (hs : swapsWithSole [.Tuple [.Name x px, .Name y py, .Name z pz] kt pt] (.Tuple [a, b, c] k2 pt2) pos.line X.env = pure false := by rfl) :
    SS X P (.Assign [.Tuple [.Name x px, .Name y py, .Name z pz] kt pt] (.Tuple [a, b, c] k2 pt2) pos) (dPar [i, j, l] r) := ⟨ps_imp (ps_par3 hc hN hi hj hl hij hil hjl hx hy hz ha.pa hw hs) fun D σ H q => by
  obtain ⟨G, F, st, o, st', R, e, k⟩ := q
  obtain ⟨xs, s1, e1, hl, rfl, rfl⟩ := dPar_inv e
  refine ⟨G, F, st, xs, s1, R, e1, fun vs F1 H1 g1 R1 r1 => ?_⟩
  have hl2 := r1.length
  obtain ⟨u, v, w, rfl⟩ : ∃ u v w, vs = [u, v, w] := by
    match vs, hl2.symm.trans hl.symm with
    | [u, v, w], _ => exact ⟨u, v, w, rfl⟩
  exact ⟨u, v, w, rfl, k F1 H1 _ g1 (putL R1 r1 hl) (Keeps.setV (is := [i, j, l]) (vs := [u, v, w]) hP)⟩⟩
/-- plain names as targets, in order -/
inductive TNs (X : Cx) : List Expr → List Nat → TGs → Prop where
  | nil : TNs X [] [] gNil
  | cons {i : Nat} {x : Str} {p : Pos} {es : List Expr} {is : List Nat} {t : TGs} (hi : X.N[i]? = some x) (hx : Loc X.env.scope x) (hf : X.fn x = true ∨ X.env.scope.names.lookup x = some .local)
      (hs : (assignEach (.Name x p :: es) X.env).map (·.2) = assign (.Name x p) X.env :: (assignEach es X.env).map (·.2)) (r : TNs X es is t) : TNs X (.Name x p :: es) (i :: is) (gCons (gName i) t)
theorem tns_cons {i : Nat} {x : Str} {p : Pos} {es : List Expr} {is : List Nat} {t : TGs} (hi : X.N[i]? = some x) (hx : Loc X.env.scope x) (r : TNs X es is t) (hf : X.fn x = true ∨ X.env.scope.names.lookup x = some .local := by first | exact .inl rfl | exact .inr rfl | assumption)
    (hs : (assignEach (.Name x p :: es) X.env).map (·.2) = assign (.Name x p) X.env :: (assignEach es X.env).map (·.2) := by rfl) : TNs X (.Name x p :: es) (i :: is) (gCons (gName i) t) := .cons hi hx hf hs r
theorem TNs.pgs (hN : X.N.Nodup) : ∀ {es : List Expr} {is : List Nat} {t : TGs}, TNs X es is t → PGs X es t
  | _, _, _, .nil => pgs_nil
  | _, _, _, .cons hi hx hf hs r => pgs_cons (pg_name hN hi hx hf) (r.pgs hN) hs
theorem TNs.run {H : Hp} {Q : L2.St → Hp → Prop} : ∀ {es : List Expr} {is : List Nat} {t : TGs} {vs : List V} {σ : L2.St}, TNs X es is t → is.length = vs.length → Q (setV σ is vs) H → t vs σ H Q
  | _, _, _, [], _, .nil, _, q => ⟨rfl, q⟩
  | _, _, _, v :: vs, σ, .cons hi hx hf hs r, h, q => ⟨v, vs, rfl, r.run (σ := σ.set _ (some v)) (by simpa using h) q⟩
  | _, _, _, _ :: _, _, .nil, h, _ => by simp at h
  | _, _, _, [], _, .cons _ _ _ _ _, h, _ => by simp at h
/-- .. by a tuple that is made -/
theorem ss_parT {is : List Nat} {tgs es : List Expr} {r : DAS} {pt : Pos} {kt k2 pt2} {tt : TGs} {n : Nat} (hP : ∀ l ∈ is, l ∉ P) (hc : X.calm = true) (hN : X.N.Nodup) (hT : TNs X tgs is tt) (ha : SAS X es r)
    (hn : (assignEach tgs X.env).length = n := by rfl) (hst : (assignEach tgs X.env).findIdx? (·.1) = none := by rfl) (hlen : n = is.length := by rfl) (hsm : is.length ≤ 100 := by decide)
    (hs : swapsWithSole [.Tuple tgs kt pt] (.Tuple es k2 pt2) pos.line X.env = pure false := by rfl) (hw : swappedStores [.Tuple tgs kt pt] (.Tuple es k2 pt2) X.env = pure none := by rfl)
    (h1 : (assignEach [.Tuple tgs kt pt] X.env).map (·.2) = [assign (.Tuple tgs kt pt) X.env] := by rfl) :
    SS X P (.Assign [.Tuple tgs kt pt] (.Tuple es k2 pt2) pos) (dPar is r) := ⟨ps_imp (ps_asg (pe_tup ha.pa) (pg_tup (n := n) hc (hT.pgs hN) hn hst) hs hw h1) fun D σ H q => by
  obtain ⟨G, F, st, o, st', R, e, k⟩ := q
  obtain ⟨xs, s1, e1, hl, rfl, rfl⟩ := dPar_inv e
  refine ⟨G, F, st, xs, s1, R, e1, fun vs F1 H1 g1 R1 r1 => ⟨small_line (by rw [← r1.length, ← hl]; omega), fun p hp => ?_⟩⟩
  have hl2 := r1.length
  refine ⟨p, vs, rfl, .inl (.inl upd_same), by rw [← hl2, ← hl, hlen], hT.run (by rw [hl, hl2]) ?_⟩
  have R2 := putL R1 r1 hl
  exact k F1 _ _ g1 (R2.laid hp) (Keeps.setV hP)⟩
/-- a, b, .. = e, a tuple or a list of that length -/
def partsD : D → Option (List D)
  | .tup xs => some xs
  | .lst xs => some xs
  | _ => none
def dUnp (is : List Nat) (f : DE) : DS := fun st => match f st with
  | none => none
  | some (x, s1) => match x.frz with
    | .tup xs => if is.length = xs.length then some (.nx, setL s1 is (xs.map .imm)) else none
    | _ => none
theorem RSL.of {K : PySem.W.Frag} {mg : Str → Option Value} {G F H : Hp} {st : S} {σ : L2.St} : ∀ {ds : List D} {vs : List V}, RDs K mg F ds vs → RSL K mg G F H st σ (ds.map .imm) vs
  | _, _, .nil => trivial
  | _, _, .cons r t => ⟨.imm r, Sep.imm, (fun _ _ _ o => by cases o), RSL.of t⟩
theorem ss_unp {is : List Nat} {tgs : List Expr} {pt : Pos} {kt} {tt : TGs} {n : Nat} (hP : ∀ l ∈ is, l ∉ P) (hc : X.calm = true) (hN : X.N.Nodup) (hT : TNs X tgs is tt) (ha : SE X e f)
    (hn : (assignEach tgs X.env).length = n := by rfl) (hst : (assignEach tgs X.env).findIdx? (·.1) = none := by rfl) (hlen : n = is.length := by rfl)
    (hs : swapsWithSole [.Tuple tgs kt pt] e pos.line X.env = pure false := by rfl) (hw : swappedStores [.Tuple tgs kt pt] e X.env = pure none := by rfl)
    (h1 : (assignEach [.Tuple tgs kt pt] X.env).map (·.2) = [assign (.Tuple tgs kt pt) X.env] := by rfl) :
    SS X P (.Assign [.Tuple tgs kt pt] e pos) (dUnp is f) := ⟨ps_imp (ps_asg ha.pf (pg_tup (n := n) hc (hT.pgs hN) hn hst) hs hw h1) fun D σ H q => by
  obtain ⟨G, F, st, o, st', R, e, k⟩ := q
  unfold dUnp at e
  split at e
  · cases e
  rename_i x s1 e1
  split at e
  · rename_i xs hx
    split at e
    · rename_i hl
      cases e
      refine ⟨G, F, st, x, s1, R, e1, fun v F1 H1 g1 R1 r1 => ?_⟩
      rw [hx] at r1
      obtain ⟨p, vs, rfl, hp, rr⟩ := r1.tup_inv
      have hl2 := rr.length
      refine ⟨p, vs, rfl, ex_t R1.f hp, by rw [← hl2, ← hl, hlen], hT.run (by rw [hl, hl2]) ?_⟩
      exact k F1 H1 _ g1 (putL R1 (RSL.of rr) (by rw [List.length_map]; exact hl)) (Keeps.setV hP)
    · cases e
  · cases e⟩
end
end Sm
/-! Loops, comprehensions. -/
namespace Sm
open PySem L2 Evl PyProof.Rows

/-! ### what is walked -/
structure Walk (K : PySem.W.Frag) (mg : Str → Option Value) (J : It) (F : Hp) (ds : List D) : Prop where
  go : ∀ i H, Ex F H → i < ds.length → J.go i H
  stop : ∀ i H, Ex F H → ds.length ≤ i → J.stop i H
  yld : ∀ {i : Nat} {H : Hp} {x : V} {H' : Hp} {d : D} {G F' : Hp} {st : S} {σ : L2.St}, J.yld i H x H' → ds[i]? = some d → Rep K mg G F' st σ H → Ex F F' → ∃ F'', Gr G F' F'' ∧ Rep K mg G F'' st σ H' ∧ RD K mg F'' d x
theorem Walk.mono {K : PySem.W.Frag} {mg : Str → Option Value} {J : It} {F F' : Hp} {ds : List D} (w : Walk K mg J F ds) (e : Ex F F') : Walk K mg J F' ds :=
  ⟨fun i H h => w.go i H (e.trans h), fun i H h => w.stop i H (e.trans h), fun y hd R h => w.yld y hd R (e.trans h)⟩
abbrev DI := S → Option (List D × S)
def tID (K : PySem.W.Frag) (mg : Str → Option Value) (d : DI) : TI := fun σ H R => ∃ G F st ds st', Rep K mg G F st σ H ∧ d st = some (ds, st') ∧
  ∀ J F' H', Gr G F F' → Rep K mg G F' st' σ H' → Walk K mg J F' ds → R J H'
structure SI (X : Cx) (tg iter : Expr) (d : DI) : Prop where
  pi : PI X tg iter (tID X.K X.mg d)
theorem pi_imp {X : Cx} {tg e : Expr} {t t' : TI} (h : PI X tg e t) (hi : ∀ σ H Q, t' σ H Q → t σ H Q) : PI X tg e t' := ⟨fun pins s σ H R I q => h.run pins s σ H R I (hi σ H R q)⟩
theorem pi_or {X : Cx} {tg e : Expr} {t t' : TI} (h : PI X tg e t) (h' : PI X tg e t') : PI X tg e (fun σ H R => t σ H R ∨ t' σ H R) := ⟨fun pins s σ H R I q => q.elim (h.run pins s σ H R I) (h'.run pins s σ H R I)⟩
section
variable {K : PySem.W.Frag} {mg : Str → Option Value} {F : Hp}
theorem walk_list {a : Addr} {ds : List D} {vs : List V} (h : F a = some (.lst vs)) (r : RDs K mg F ds vs) : Walk K mg (Itl K a) F ds where
  go := fun i H e hi => by
    obtain ⟨v, hv, _⟩ := r.get (List.getElem?_eq_getElem hi)
    exact ⟨vs, v, .inl (.inl (e _ _ h)), hv⟩
  stop := fun i H e hi => ⟨vs, .inl (.inl (e _ _ h)), by rw [← r.length]; exact hi⟩
  yld := fun {i H x H' d G F' st σ} y hd R e => by
    obtain ⟨e1, y⟩ := y
    subst e1
    obtain ⟨v, hv, rv⟩ := r.get hd
    have := y vs (.inl (.inl (R.f _ _ (e _ _ h))))
    rw [hv] at this
    cases this
    exact ⟨F', Gr.refl F', R, rv.mono e⟩
theorem walk_tup {a : Addr} {ds : List D} {vs : List V} (h : SqT K F a vs) (r : RDs K mg F ds vs) : Walk K mg (Itt K a) F ds where
  go := fun i H e hi => by
    obtain ⟨v, hv, _⟩ := r.get (List.getElem?_eq_getElem hi)
    exact ⟨vs, v, ex_t e h, hv⟩
  stop := fun i H e hi => ⟨vs, ex_t e h, by rw [← r.length]; exact hi⟩
  yld := fun {i H x H' d G F' st σ} y hd R e => by
    obtain ⟨e1, y⟩ := y
    subst e1
    obtain ⟨v, hv, rv⟩ := r.get hd
    have := y vs (ex_t (e.trans R.f) h)
    rw [hv] at this
    cases this
    exact ⟨F', Gr.refl F', R, rv.mono e⟩
def rangeD (lo : Int) (n : Nat) : List D := (List.range n).map fun (i : Nat) => D.int (lo + (i : Int))
theorem walk_range (lo : Int) (n : Nat) : Walk K mg (Itr lo n) F (rangeD lo n) where
  go := fun i H e hi => by
    have hi : i < n := by simpa [rangeD] using hi
    exact hi
  stop := fun i H e hi => by
    have hi : n ≤ i := by simpa [rangeD] using hi
    exact hi
  yld := fun {i H x H' d G F' st σ} y hd R e => by
    obtain ⟨e1, y⟩ := y
    subst e1
    subst y
    simp only [rangeD, List.getElem?_map, Option.map_eq_some_iff] at hd
    obtain ⟨j, hj, hd⟩ := hd
    have hj2 : j = i := by
      have := List.getElem?_eq_some_iff.mp hj
      obtain ⟨h1, h2⟩ := this
      rw [List.getElem_range] at h2
      exact h2.symm
    subst hj2 hd
    exact ⟨F', Gr.refl F', R, .int _⟩
theorem pair_laid {G F' H : Hp} {st : S} {σ : L2.St} {T : Addr} {x y : V} {dx dy : D} (R : Rep K mg G F' st σ H) (nT : H T = none) (rx : RD K mg F' dx x) (ry : RD K mg F' dy y) :
    ∃ F'', Gr G F' F'' ∧ Rep K mg G F'' st σ (upd H T (.tup [x, y])) ∧ RD K mg F'' (.tup [dx, dy]) (.ref T) := by
  obtain ⟨g, R'⟩ := R.laidF (o := .tup [x, y]) nT fun _ z => nomatch z
  exact ⟨_, g, R', .tup upd_same (.cons (rx.mono g.1) (.cons (ry.mono g.1) .nil))⟩
def enumD (ds : List D) : List D := ds.mapIdx fun (i : Nat) (d : D) => D.tup [.int (i : Int), d]
theorem walk_enum {a : Addr} {ds : List D} {vs : List V} (h : F a = some (.lst vs)) (r : RDs K mg F ds vs) : Walk K mg (Ite K a) F (enumD ds) where
  go := fun i H e hi => by
    have hi : i < ds.length := by simpa [enumD] using hi
    obtain ⟨v, hv, _⟩ := r.get (List.getElem?_eq_getElem hi)
    exact ⟨vs, v, .inl (.inl (e _ _ h)), hv⟩
  stop := fun i H e hi => ⟨vs, .inl (.inl (e _ _ h)), by rw [← r.length]; simpa [enumD] using hi⟩
  yld := fun {i H x H' d G F' st σ} y hd R e => by
    obtain ⟨T, v, rfl, nT, rfl, y⟩ := y
    simp only [enumD, List.getElem?_mapIdx, Option.map_eq_some_iff] at hd
    obtain ⟨d0, hd, rfl⟩ := hd
    obtain ⟨w, hw, rw'⟩ := r.get hd
    have := y vs (.inl (.inl (R.f _ _ (e _ _ h))))
    rw [hw] at this
    cases this
    exact pair_laid R nT (.int _) (rw'.mono e)
def zipD (ds es : List D) : List D := List.zipWith (fun a b => D.tup [a, b]) ds es
theorem zipD_get {ds es : List D} {i : Nat} {d : D} (h : (zipD ds es)[i]? = some d) : ∃ a b, ds[i]? = some a ∧ es[i]? = some b ∧ d = .tup [a, b] := by
  simp only [zipD, List.getElem?_zipWith] at h
  cases h1 : ds[i]? with
  | none => rw [h1] at h; simp at h
  | some a =>
    cases h2 : es[i]? with
    | none => rw [h1, h2] at h; simp at h
    | some b => rw [h1, h2] at h; simp at h; exact ⟨a, b, rfl, rfl, h.symm⟩
theorem walk_zip {a b : Addr} {ds es : List D} {vs ws : List V} (h : F a = some (.lst vs)) (r : RDs K mg F ds vs) (h2 : F b = some (.lst ws)) (r2 : RDs K mg F es ws) : Walk K mg (Itz K a b) F (zipD ds es) where
  go := fun i H e hi => by
    have hi : i < ds.length ∧ i < es.length := by simp [zipD, List.length_zipWith] at hi; omega
    obtain ⟨v, hv, _⟩ := r.get (List.getElem?_eq_getElem hi.1)
    obtain ⟨w, hw, _⟩ := r2.get (List.getElem?_eq_getElem hi.2)
    exact ⟨vs, ws, v, w, .inl (.inl (e _ _ h)), .inl (.inl (e _ _ h2)), hv, hw⟩
  stop := fun i H e hi => ⟨vs, ws, .inl (.inl (e _ _ h)), .inl (.inl (e _ _ h2)), by rw [← r.length, ← r2.length]; simp [zipD, List.length_zipWith] at hi; omega⟩
  yld := fun {i H x H' d G F' st σ} y hd R e => by
    obtain ⟨T, v, w, rfl, nT, rfl, y1, y2⟩ := y
    obtain ⟨d1, d2, hd1, hd2, rfl⟩ := zipD_get hd
    obtain ⟨v', hv, rv⟩ := r.get hd1
    obtain ⟨w', hw, rw'⟩ := r2.get hd2
    have q1 := y1 vs (.inl (.inl (R.f _ _ (e _ _ h))))
    have q2 := y2 ws (.inl (.inl (R.f _ _ (e _ _ h2))))
    rw [hv] at q1
    rw [hw] at q2
    cases q1; cases q2
    exact pair_laid R nT (rv.mono e) (rw'.mono e)
theorem walk_zipT {a b : Addr} {ds es : List D} {vs ws : List V} (h : SqT K F a vs) (r : RDs K mg F ds vs) (h2 : SqT K F b ws) (r2 : RDs K mg F es ws) : Walk K mg (RZ.ItzT K a b) F (zipD ds es) where
  go := fun i H e hi => by
    have hi : i < ds.length ∧ i < es.length := by simp [zipD, List.length_zipWith] at hi; omega
    obtain ⟨v, hv, _⟩ := r.get (List.getElem?_eq_getElem hi.1)
    obtain ⟨w, hw, _⟩ := r2.get (List.getElem?_eq_getElem hi.2)
    exact ⟨vs, ws, v, w, ex_t e h, ex_t e h2, hv, hw⟩
  stop := fun i H e hi => ⟨vs, ws, ex_t e h, ex_t e h2, by rw [← r.length, ← r2.length]; simp [zipD, List.length_zipWith] at hi; omega⟩
  yld := fun {i H x H' d G F' st σ} y hd R e => by
    obtain ⟨T, v, w, rfl, nT, rfl, y1, y2⟩ := y
    obtain ⟨d1, d2, hd1, hd2, rfl⟩ := zipD_get hd
    obtain ⟨v', hv, rv⟩ := r.get hd1
    obtain ⟨w', hw, rw'⟩ := r2.get hd2
    have q1 := y1 vs (ex_t (e.trans R.f) h)
    have q2 := y2 ws (ex_t (e.trans R.f) h2)
    rw [hv] at q1
    rw [hw] at q2
    cases q1; cases q2
    exact pair_laid R nT (rv.mono e) (rw'.mono e)
end
section
variable {X : Cx} {tg e a b : Expr} {f : DE} {r : DA} {p pos tpos : Pos} {elts : List Expr} {kk : Nat}
/-- a list or a tuple, walked -/
def dSeqI (f : DE) : DI := fun st => match f st with
  | none => none
  | some (x, s1) => match x.frz with
    | .lst xs => some (xs, s1)
    | .tup xs => some (xs, s1)
    | _ => none
theorem si_seq (h : SE X e f) : SI X tg e (dSeqI f) := ⟨pi_imp (pi_or (pi_list h.pf) (pi_tup h.pf)) fun σ H R q => by
  obtain ⟨G, F, st, ds, st', Rp, e, k⟩ := q
  unfold dSeqI at e
  split at e
  · cases e
  rename_i x s1 e1
  split at e
  · rename_i xs hx
    cases e
    refine .inl ⟨G, F, st, x, _, Rp, e1, fun v F1 H1 g1 R1 r1 => ?_⟩
    rw [hx] at r1
    obtain ⟨p, vs, rfl, hp, rr⟩ := r1.lst_inv
    exact ⟨p, rfl, ⟨vs, .inl (.inl (R1.f _ _ hp))⟩, k _ F1 H1 g1 R1 (walk_list hp rr)⟩
  · rename_i xs hx
    cases e
    refine .inr ⟨G, F, st, x, _, Rp, e1, fun v F1 H1 g1 R1 r1 => ?_⟩
    rw [hx] at r1
    obtain ⟨p, vs, rfl, hp, rr⟩ := r1.tup_inv
    exact ⟨p, rfl, ⟨vs, ex_t R1.f hp⟩, k _ F1 H1 g1 R1 (walk_tup hp rr)⟩
  · cases e⟩
noncomputable def dRng1 (r : DA) : DI := fun st => match r st with
  | some ([.int j], s1) => if -B62 ≤ j ∧ j < B62 then some (rangeD 0 j.toNat, s1) else none
  | _ => none
noncomputable def dRng2 (r : DA) : DI := fun st => match r st with
  | some ([.int i, .int j], s1) => if -B62 ≤ i ∧ i < B62 ∧ -B62 ≤ j ∧ j < B62 then some (rangeD i (j - i).toNat, s1) else none
  | _ => none
theorem si_rng1 (hg : Gl X "range") (hm : X.mg "range" = none) (ha : SA X [a] r) (hs : starEach [a] X.env = [(false, eval a X.env)] := by rfl) : SI X tg (.Call (.Name "range" p) [a] [] pos) (dRng1 r) := ⟨pi_imp (pi_range1 hg hm ha.pa hs) fun σ H R q => by
  obtain ⟨G, F, st, ds, st', Rp, e, k⟩ := q
  unfold dRng1 at e
  split at e
  · rename_i j s1 e1
    split at e
    · rename_i hj
      rw [B62_eq] at hj
      cases e
      refine ⟨G, F, st, _, _, Rp, e1, fun vs F1 H1 g1 R1 r1 => ?_⟩
      obtain ⟨v, rfl, h⟩ := r1.one
      cases h
      exact ⟨j, rfl, hj.1, hj.2, k _ F1 H1 g1 R1 (walk_range 0 _)⟩
    · cases e
  · cases e⟩
theorem si_rng2 (hg : Gl X "range") (hm : X.mg "range" = none) (ha : SA X [a, b] r) (hs : starEach [a, b] X.env = [(false, eval a X.env), (false, eval b X.env)] := by rfl) (hs2 : starEach [b] X.env = [(false, eval b X.env)] := by rfl) : SI X tg (.Call (.Name "range" p) [a, b] [] pos) (dRng2 r) := ⟨pi_imp (pi_range2 hg hm ha.pa hs hs2) fun σ H R q => by
  obtain ⟨G, F, st, ds, st', Rp, e, k⟩ := q
  unfold dRng2 at e
  split at e
  · rename_i i j s1 e1
    split at e
    · rename_i hj
      rw [B62_eq] at hj
      cases e
      refine ⟨G, F, st, _, _, Rp, e1, fun vs F1 H1 g1 R1 r1 => ?_⟩
      obtain ⟨v, w, rfl, h, h2⟩ := r1.two
      cases h; cases h2
      exact ⟨i, j, rfl, hj, k _ F1 H1 g1 R1 (walk_range i _)⟩
    · cases e
  · cases e⟩
def dEnumL (r : DA) : DI := fun st => match r st with
  | some ([.lst xs], s1) => some (enumD xs, s1)
  | _ => none
theorem si_enumL (hg : Gl X "enumerate") (hm : X.mg "enumerate" = none) (ha : SA X [e] r) (hs : starEach [e] X.env = [(false, eval e X.env)] := by rfl) : SI X (.Tuple elts kk tpos) (.Call (.Name "enumerate" p) [e] [] pos) (dEnumL r) := ⟨pi_imp (pi_enum hg hm ha.pa hs) fun σ H R q => by
  obtain ⟨G, F, st, ds, st', Rp, e, k⟩ := q
  unfold dEnumL at e
  split at e
  · rename_i xs s1 e1
    cases e
    refine ⟨G, F, st, _, _, Rp, e1, fun vs F1 H1 g1 R1 r1 => ?_⟩
    obtain ⟨v, rfl, h⟩ := r1.one
    obtain ⟨p, us, rfl, hp, rr⟩ := h.lst_inv
    exact ⟨p, us, rfl, .inl (.inl (R1.f _ _ hp)), k _ F1 H1 g1 R1 (walk_enum hp rr)⟩
  · cases e⟩
def dZip (r : DA) : DI := fun st => match r st with
  | some ([.lst xs, .lst ys], s1) => some (zipD xs ys, s1)
  | some ([.tup xs, .tup ys], s1) => some (zipD xs ys, s1)
  | _ => none
theorem si_zip (hg : Gl X "zip") (hm : X.mg "zip" = none) (ha : SA X [a, b] r) (hs : starEach [a, b] X.env = (false, eval a X.env) :: starEach [b] X.env := by rfl) (hpl : (backTo pos (starEach [b] X.env)).any (·.1) = false := by rfl) : SI X (.Tuple elts kk tpos) (.Call (.Name "zip" p) [a, b] [] pos) (dZip r) := ⟨pi_imp (RZ.pi_zipA hg hm ha.pa hs hpl) fun σ H R q => by
  obtain ⟨G, F, st, ds, st', Rp, e, k⟩ := q
  unfold dZip at e
  split at e
  · rename_i xs ys s1 e1
    cases e
    refine ⟨G, F, st, _, _, Rp, e1, fun vs F1 H1 g1 R1 r1 => ?_⟩
    obtain ⟨v, w, rfl, h, h2⟩ := r1.two
    obtain ⟨p, us, rfl, hp, rr⟩ := h.lst_inv
    obtain ⟨p2, us2, rfl, hp2, rr2⟩ := h2.lst_inv
    exact ⟨p, p2, us, us2, rfl, .inl ⟨.inl (.inl (R1.f _ _ hp)), .inl (.inl (R1.f _ _ hp2)), k _ F1 H1 g1 R1 (walk_zip hp rr hp2 rr2)⟩⟩
  · rename_i xs ys s1 e1
    cases e
    refine ⟨G, F, st, _, _, Rp, e1, fun vs F1 H1 g1 R1 r1 => ?_⟩
    obtain ⟨v, w, rfl, h, h2⟩ := r1.two
    obtain ⟨p, us, rfl, hp, rr⟩ := h.tup_inv
    obtain ⟨p2, us2, rfl, hp2, rr2⟩ := h2.tup_inv
    exact ⟨p, p2, us, us2, rfl, .inr ⟨ex_t R1.f hp, ex_t R1.f hp2, k _ F1 H1 g1 R1 (walk_zipT hp rr hp2 rr2)⟩⟩
  · cases e⟩
end

/-! ### targets of loops -/
def tGD (K : PySem.W.Frag) (mg : Str → Option Value) (vs : List Nat) (g : D → S → Option S) : TG := fun v σ H Q => ∃ G F st d st', Rep K mg G F st σ H ∧ RD K mg F d v ∧ g d st = some st' ∧
  ∀ σ', Rep K mg G F st' σ' H → (∀ i, i ∉ vs → σ'[i]? = σ[i]?) → σ'.length = σ.length → Q σ' H
structure SG (X : Cx) (tg : Expr) (vs : List Nat) (g : D → S → Option S) : Prop where
  pg : PG X tg (tGD X.K X.mg vs g)
theorem pg_imp {X : Cx} {tg : Expr} {t t' : TG} (h : PG X tg t) (hi : ∀ v σ H Q, t' v σ H Q → t v σ H Q) : PG X tg t' := ⟨fun pins s σ H v u Q I r q => h.run pins s σ H v u Q I r (hi v σ H Q q)⟩
def gN (i : Nat) : D → S → Option S := fun d st => some (st.set i (some (.imm d)))
def gT (is : List Nat) : D → S → Option S := fun d st => match d with
  | .tup xs => if is.length = xs.length then some (setL st is (xs.map .imm)) else none
  | _ => none
theorem setV_length : ∀ {is : List Nat} {vs : List V} {σ : L2.St}, (setV σ is vs).length = σ.length
  | [], _, _ => rfl
  | _ :: _, [], _ => rfl
  | i :: is, v :: vs, σ => by
    show (setV (σ.set i (some v)) is vs).length = _
    rw [setV_length, List.length_set]
theorem setV_out {j : Nat} : ∀ {is : List Nat} {vs : List V} {σ : L2.St}, j ∉ is → (setV σ is vs)[j]? = σ[j]?
  | [], _, _, _ => rfl
  | _ :: _, [], _, _ => rfl
  | i :: is, v :: vs, σ, h => by
    show (setV (σ.set i (some v)) is vs)[j]? = _
    rw [setV_out (fun z => h (by simp [z])), List.getElem?_set_ne (fun z => h (by simp [z]))]
section
variable {X : Cx} {pos : Pos}
theorem sg_name {i : Nat} {x : Str} (hN : X.N.Nodup) (hi : X.N[i]? = some x) (hx : Loc X.env.scope x) (hf : X.fn x = true ∨ X.env.scope.names.lookup x = some .local := by first | exact .inl rfl | exact .inr rfl | assumption) : SG X (.Name x pos) [i] (gN i) :=
  ⟨pg_imp (pg_name hN hi hx hf) fun v σ H Q q => by
    obtain ⟨G, F, st, d, st', R, r, e, k⟩ := q
    cases e
    exact k _ (R.put (.imm r) Sep.imm) (fun j hj => by rw [List.getElem?_set_ne (fun z => hj (by simp [z]))]) (by rw [List.length_set])⟩
theorem sg_tup {is : List Nat} {tgs : List Expr} {kt} {tt : TGs} {n : Nat} (hc : X.calm = true) (hN : X.N.Nodup) (hT : TNs X tgs is tt) (hn : (assignEach tgs X.env).length = n := by rfl) (hst : (assignEach tgs X.env).findIdx? (·.1) = none := by rfl) (hlen : n = is.length := by rfl) :
    SG X (.Tuple tgs kt pos) is (gT is) :=
  ⟨pg_imp (pg_tup (n := n) hc (hT.pgs hN) hn hst) fun v σ H Q q => by
    obtain ⟨G, F, st, d, st', R, r, e, k⟩ := q
    unfold gT at e
    split at e
    · rename_i xs
      split at e
      · rename_i hl
        cases e
        obtain ⟨p, vs, rfl, hp, rr⟩ := r.tup_inv
        have hl2 := rr.length
        refine ⟨p, vs, rfl, ex_t R.f hp, by rw [← hl2, ← hl, hlen], hT.run (by rw [hl, hl2]) ?_⟩
        exact k _ (putL R (RSL.of rr) (by rw [List.length_map]; exact hl)) (fun j hj => setV_out hj) setV_length
      · cases e
    · cases e⟩
end

/-! ### for -/
def loopD (g : D → S → Option S) (b : DS) : List D → S → Option (Out × S)
  | [], st => some (.nx, st)
  | d :: ds, st => match g d st with
    | none => none
    | some s1 => match b s1 with
      | some (.nx, s2) => loopD g b ds s2
      | some (.ct, s2) => loopD g b ds s2
      | some (.bk, s2) => some (.nx, s2)
      | some (.rt sv, s2) => some (.rt sv, s2)
      | none => none
def dFor (it : DI) (g : D → S → Option S) (b : DS) : DS := fun st => match it st with
  | none => none
  | some (ds, s1) => loopD g b ds s1
section
variable {X : Cx} {P vs : List Nat} {tg iter : Expr} {body : List Stmt} {it : DI} {g : D → S → Option S} {b : DS} {pos : Pos}
theorem for_of {D : Ends} {σ : L2.St} {H : Hp} (hd : ∀ i ∈ P, i ∉ vs) (q : tS X.K X.mg P (dFor it g b) D σ H) : tFor (tID X.K X.mg it) (tGD X.K X.mg vs g) (tS X.K X.mg P b) D σ H := by
  obtain ⟨G, F, st, o, st', R, e, k⟩ := q
  unfold dFor at e
  split at e
  · cases e
  rename_i ds s1 e1
  refine ⟨G, F, st, ds, s1, R, e1, fun J F1 H1 g1 R1 w => ?_⟩
  refine ⟨fun i m σ' H' => m = ds.length - i ∧ i ≤ ds.length ∧ ∃ F'' st'', Gr G F1 F'' ∧ Rep X.K X.mg G F'' st'' σ' H' ∧ Keeps P σ σ' ∧ loopD g b (ds.drop i) st'' = some (o, st'), ⟨ds.length, by simp, Nat.zero_le _, F1, s1, Gr.refl F1, R1, Keeps.refl, by simpa using e⟩, ?_⟩
  rintro i m σ' H' ⟨rfl, hi, F2, st2, g2, R2, k2, l2⟩
  by_cases hlt : i < ds.length
  · rw [List.drop_eq_getElem_cons hlt] at l2
    unfold loopD at l2
    split at l2
    · cases l2
    rename_i s3 e3
    refine .inr ⟨w.go i H' (g2.1.trans R2.f) hlt, fun σ'' H'' => ∃ F'' st'', Gr G F1 F'' ∧ Rep X.K X.mg G F'' st'' σ'' H'' ∧ Keeps P σ σ'' ∧ loopD g b (ds.drop (i + 1)) st'' = some (o, st'), ?_, fun x H3 y => ?_⟩
    · rintro σ'' H'' ⟨F5, st5, h1, h2, h3, h4⟩
      exact ⟨ds.length - (i + 1), by omega, rfl, hlt, F5, st5, h1, h2, h3, h4⟩
    · obtain ⟨F3, g3, R3, r3⟩ := w.yld y (List.getElem?_eq_getElem hlt) R2 g2.1
      refine ⟨G, F3, st2, _, s3, R3, r3, e3, fun σ4 R4 h4 _ => ?_⟩
      have k4 : Keeps P σ σ4 := k2.trans fun j hj => h4 j (hd j hj)
      split at l2
      · rename_i s5 e5
        exact ⟨G, F3, s3, .nx, s5, R4, e5, fun F6 H6 σ6 g6 R6 k6 => ⟨F6, s5, (g2.trans g3).trans g6, R6, k4.trans k6, l2⟩⟩
      · rename_i s5 e5
        exact ⟨G, F3, s3, .ct, s5, R4, e5, fun F6 H6 σ6 g6 R6 k6 => ⟨F6, s5, (g2.trans g3).trans g6, R6, k4.trans k6, l2⟩⟩
      · rename_i s5 e5
        cases l2
        exact ⟨G, F3, s3, .bk, _, R4, e5, fun F6 H6 σ6 g6 R6 k6 => k F6 H6 σ6 (((g1.trans g2).trans g3).trans g6) R6 (k4.trans k6)⟩
      · rename_i sv s5 e5
        cases l2
        exact ⟨G, F3, s3, .rt sv, _, R4, e5, fun F6 H6 σ6 g6 R6 k6 => k F6 H6 σ6 (((g1.trans g2).trans g3).trans g6) R6 (k4.trans k6)⟩
      · cases l2
  · have e : i = ds.length := by omega
    subst e
    rw [List.drop_length] at l2
    cases l2
    exact .inl ⟨w.stop _ H' (g2.1.trans R2.f) (Nat.le_refl _), k F2 H' σ' (g1.trans g2) R2 k2⟩
theorem ss_for (hd : ∀ i ∈ P, i ∉ vs) (hp : PassesOwn (model X.prog X.w) X.A X.env X.xe) (hc : X.calm = true) (hi : SI X tg iter it) (hg : SG X tg vs g) (hb : SSs X P body b)
    (hs : ∀ x, foldedSetIterable iter X.env x = pure x := by intro _; rfl) : SS X P (.For tg iter body [] pos) (dFor it g b) :=
  ⟨ps_imp (ps_for hp hc hi.pi hg.pg hb.pss hs) fun _ _ _ q => for_of hd q⟩
end

/-! ### list comprehensions -/
def wipeS (st : S) : List Nat → S
  | [] => st
  | v :: vs => (wipeS st vs).set v none
def compD (g : D → S → Option S) (t : DT) (e : DE) (vs : List Nat) : List D → S → List D → Option (List D × S)
  | [], s, acc => some (acc, s)
  | d :: ds, s, acc => match g d s with
    | none => none
    | some s1 => match t s1 with
      | none => none
      | some (false, s2) => compD g t e vs ds (wipeS s2 vs) acc
      | some (true, s2) => match e s2 with
        | none => none
        | some (x, s3) => compD g t e vs ds (wipeS s3 vs) (acc ++ [x.frz])
def keepImm : Option (Option SV) → Option SV
  | some (some (.imm d)) => some (.imm d)
  | _ => none
def restore (s1 s2 : S) : List Nat → S
  | [] => s2
  | v :: vs => (restore s1 s2 vs).set v (keepImm s1[v]?)
def dLc (it : DI) (g : D → S → Option S) (t : DT) (e : DE) (vs : List Nat) : DE := fun st => match it st with
  | none => none
  | some (ds, s1) => if ds.length ≤ 50000 then (match compD g t e vs ds (wipeS s1 vs) [] with
    | none => none
    | some (acc, s2) => some (.lst acc, restore s1 s2 vs)) else none
theorem Rep.wipe1 {K : PySem.W.Frag} {mg : Str → Option Value} {G F H : Hp} {st : S} {σ : L2.St} (R : Rep K mg G F st σ H) (i : Nat) : Rep K mg G F (st.set i none) (σ.set i none) H := by
  refine ⟨R.g, R.f, R.nt, by rw [List.length_set, List.length_set]; exact R.len, fun j x h => ?_, fun j k x y v h1 h2 o1 o2 e1 e2 => ?_⟩
  · obtain ⟨hne, h⟩ := set_none_ne h
    rw [List.getElem?_set_ne (fun z => hne z.symm)]
    exact R.at_ j x h
  · obtain ⟨n1, h1⟩ := set_none_ne h1
    obtain ⟨n2, h2⟩ := set_none_ne h2
    rw [List.getElem?_set_ne (fun z => n1 z.symm)] at e1
    rw [List.getElem?_set_ne (fun z => n2 z.symm)] at e2
    exact R.one j k x y v h1 h2 o1 o2 e1 e2
theorem Rep.wipe {K : PySem.W.Frag} {mg : Str → Option Value} {G F H : Hp} {st : S} {σ : L2.St} (R : Rep K mg G F st σ H) : ∀ vs : List Nat, Rep K mg G F (wipeS st vs) (L2.wipe σ vs) H
  | [] => R
  | v :: vs => (R.wipe vs).wipe1 v
theorem Sep.wipe {sv : SV} {v : V} {st : S} {σ : L2.St} (s : Sep st σ sv v) : ∀ vs : List Nat, Sep (wipeS st vs) (L2.wipe σ vs) sv v
  | [] => s
  | w :: vs => fun o j y hj oy e => by
    have hj : ((wipeS st vs).set w none)[j]? = some (some y) := hj
    obtain ⟨hne, hj⟩ := set_none_ne hj
    have e : ((L2.wipe σ vs).set w none)[j]? = some (some v) := e
    rw [List.getElem?_set_ne (fun z => hne z.symm)] at e
    exact s.wipe vs o j y hj oy e
theorem wipe_in {σ : L2.St} {i : Nat} : ∀ {vs : List Nat}, i ∈ vs → (L2.wipe σ vs)[i]? = none ∨ (L2.wipe σ vs)[i]? = some none
  | v :: vs, h => by
    show ((L2.wipe σ vs).set v none)[i]? = none ∨ ((L2.wipe σ vs).set v none)[i]? = some none
    by_cases hv : v = i
    · subst hv
      by_cases hl : v < (L2.wipe σ vs).length
      · right; rw [List.getElem?_set_self hl]
      · left; rw [List.getElem?_eq_none (by simpa using hl)]
    · rw [List.getElem?_set_ne hv]
      rcases List.mem_cons.mp h with z | z
      · exact absurd z.symm hv
      · exact wipe_in z
theorem wipe_same {σ σ' : L2.St} {vs : List Nat} (h : ∀ i, i ∉ vs → σ'[i]? = (L2.wipe σ vs)[i]?) (hl : σ'.length = (L2.wipe σ vs).length) : L2.wipe σ' vs = L2.wipe σ vs := by
  apply List.ext_getElem?
  intro i
  by_cases hi : i ∈ vs
  · have hlen : (L2.wipe σ' vs).length = (L2.wipe σ vs).length := by rw [L2.wipe_length, hl]
    by_cases hb : i < (L2.wipe σ vs).length
    · have hb' : i < (L2.wipe σ' vs).length := by rw [hlen]; exact hb
      rcases wipe_in (σ := σ) hi with z | z
      · rw [List.getElem?_eq_getElem hb] at z; cases z
      · rcases wipe_in (σ := σ') hi with z' | z'
        · rw [List.getElem?_eq_getElem hb'] at z'; cases z'
        · rw [z, z']
    · rw [List.getElem?_eq_none (by omega), List.getElem?_eq_none (by omega)]
  · rw [L2.wipe_out hi, h i hi]
theorem wipe_wipe {σ : L2.St} {vs : List Nat} : L2.wipe (L2.wipe σ vs) vs = L2.wipe σ vs := wipe_same (fun _ _ => rfl) rfl
theorem restore_inv {s1 s2 : S} {i : Nat} {sv : SV} : ∀ {vs : List Nat}, (restore s1 s2 vs)[i]? = some (some sv) → (i ∈ vs ∧ s1[i]? = some (some sv) ∧ sv.own = false) ∨ (i ∉ vs ∧ s2[i]? = some (some sv))
  | [], h => .inr ⟨by simp, h⟩
  | v :: vs, h => by
    have h : ((restore s1 s2 vs).set v (keepImm s1[v]?))[i]? = some (some sv) := h
    by_cases hv : v = i
    · subst hv
      by_cases hl : v < (restore s1 s2 vs).length
      · rw [List.getElem?_set_self hl] at h
        have h : keepImm s1[v]? = some sv := Option.some.inj h
        unfold keepImm at h
        split at h
        · rename_i d hd
          cases h
          exact .inl ⟨by simp, hd, rfl⟩
        · cases h
      · rw [List.getElem?_eq_none (by simpa using hl)] at h; cases h
    · rw [List.getElem?_set_ne hv] at h
      rcases restore_inv h with ⟨a, b, c⟩ | ⟨a, b⟩
      · exact .inl ⟨by simp [a], b, c⟩
      · exact .inr ⟨by simp [a]; exact fun z => hv z.symm, b⟩
theorem restore_length {s1 s2 : S} : ∀ {vs : List Nat}, (restore s1 s2 vs).length = s2.length
  | [] => rfl
  | v :: vs => by
    show ((restore s1 s2 vs).set v _).length = _
    rw [List.length_set, restore_length]
/-- an object of ours that no slot holds is changed -/
theorem Rep.mutOut {K : PySem.W.Frag} {mg : Str → Option Value} {G F H : Hp} {st : S} {σ : L2.St} {D : Addr} {o : HO} {sv : SV} (R : Rep K mg G F st σ H) (hg : G D = none) (hf : F D = none) (hs : Sep st σ sv (.ref D)) (ho : sv.own = true) (n : ∀ ps, H D ≠ some (.tbl ps)) (n2 : ∀ φ, H D ≠ some (.ext φ)) : Rep K mg G F st σ (upd H D o) := by
  refine ⟨R.g.put hg n n2, R.f.mut hf, R.nt, R.len, fun i x hi => ?_, R.one⟩
  obtain ⟨w, h1, h2⟩ := R.at_ i x hi
  refine ⟨w, h1, ?_⟩
  have ne : x.own = true → ∀ p, w = .ref p → p ≠ D := fun ox p hp z => hs ho i x hi ox (by rw [h1, hp, z])
  clear hi h1
  cases h2 with
  | imm r => exact .imm r
  | lst g1 f h r => exact .lst g1 f (by rw [upd_ne (ne rfl _ rfl)]; exact h) r
  | dK g1 f h hn r => exact .dK g1 f (by rw [upd_ne (ne rfl _ rfl)]; exact h) hn r
  | dT g1 f h hn r => exact .dT g1 f (by rw [upd_ne (ne rfl _ rfl)]; exact h) hn r
  | ins g1 f hc h hn r => exact .ins g1 f hc (by rw [upd_ne (ne rfl _ rfl)]; exact h) hn r
section
variable {X : Cx} {vs : List Nat} {tg iter elt : Expr} {it : DI} {g : D → S → Option S} {t : DT} {e : DE} {pos : Pos}
theorem compD_len : ∀ {ds : List D} {s : S} {acc acc' : List D} {s' : S}, compD g t e vs ds s acc = some (acc', s') → acc'.length ≤ acc.length + ds.length
  | [], _, _, _, _, h => by cases h; simp
  | d :: ds, s, acc, acc', s', h => by
    unfold compD at h
    split at h
    · cases h
    split at h
    · cases h
    · have := compD_len h; simp; omega
    · split at h
      · cases h
      · have := compD_len h; simp at this ⊢; omega
theorem lc_of {σ : L2.St} {H : Hp} {Q : VK} (q : tD X.K X.mg (dLc it g t e vs) σ H Q) : tLc (tID X.K X.mg it) (tGD X.K X.mg vs g) (tTD X.K X.mg t) (tF X.K X.mg e) vs σ H Q := by
  obtain ⟨G, F, st, sv, st', R, e0, k⟩ := q
  unfold dLc at e0
  split at e0
  · cases e0
  rename_i ds s1 e1
  split at e0
  · rename_i hl
    split at e0
    · cases e0
    rename_i accF sF eF
    cases e0
    refine ⟨G, F, st, ds, s1, R, e1, fun J F1 H1 g1 R1 w D hD => ?_⟩
    refine ⟨fun i m H' => m = ds.length - i ∧ i ≤ ds.length ∧ ∃ F2 s accD, Gr G F1 F2 ∧ Rep X.K X.mg G F2 s (wipe σ vs) H' ∧ RS X.K X.mg G F2 H' (.lst accD) (.ref D) ∧ Sep s (wipe σ vs) (.lst accD) (.ref D) ∧ accD.length ≤ i ∧ compD g t e vs (ds.drop i) s accD = some (accF, sF), ⟨ds.length, by simp, Nat.zero_le _, F1, wipeS s1 vs, [], Gr.refl F1, (R1.laid hD).wipe vs, .lst (R1.fresh hD).1 (R1.fresh hD).2 upd_same .nil, (Sep.fresh R1 hD).wipe vs, Nat.le_refl _, by simpa using eF⟩, ?_⟩
    rintro i m H' ⟨rfl, hi, F2, s, accD, g2, R2, r2, sp2, hz, l2⟩
    by_cases hlt : i < ds.length
    · rw [List.drop_eq_getElem_cons hlt] at l2
      unfold compD at l2
      split at l2
      · cases l2
      rename_i s3 e3
      refine .inr ⟨w.go i H' (g2.1.trans R2.f) hlt, fun H'' => ∃ F3 s4 accD', Gr G F1 F3 ∧ Rep X.K X.mg G F3 s4 (wipe σ vs) H'' ∧ RS X.K X.mg G F3 H'' (.lst accD') (.ref D) ∧ Sep s4 (wipe σ vs) (.lst accD') (.ref D) ∧ accD'.length ≤ i + 1 ∧ compD g t e vs (ds.drop (i + 1)) s4 accD' = some (accF, sF), ?_, fun x H3 y => ?_⟩
      · rintro H'' ⟨F5, s5, acc5, h1, h2, h3, h4, h5, h6⟩
        exact ⟨ds.length - (i + 1), by omega, rfl, hlt, F5, s5, acc5, h1, h2, h3, h4, h5, h6⟩
      · obtain ⟨G', R2', hw, hn, back⟩ := pend R2 r2 sp2
        obtain ⟨F3, g3, R3, r3⟩ := w.yld y (List.getElem?_eq_getElem hlt) R2' g2.1
        refine ⟨G', F3, s, _, s3, R3, r3, e3, fun σ4 R4 h4 hl4 => ?_⟩
        have hws : wipe σ4 vs = wipe σ vs := wipe_same h4 hl4
        refine ⟨hws, ?_⟩
        -- from a state behind the turn
        have fin : ∀ F5 H5 s5, Gr G' F2 F5 → Rep X.K X.mg G' F5 s5 σ4 H5 → Gr G F2 F5 ∧ Rep X.K X.mg G F5 (wipeS s5 vs) (wipe σ vs) H5 ∧ RS X.K X.mg G F5 H5 (.lst accD) (.ref D) ∧ Sep (wipeS s5 vs) (wipe σ vs) (.lst accD) (.ref D) := by
          intro F5 H5 s5 g5 R5
          have R5w := R5.wipe vs
          rw [hws] at R5w
          obtain ⟨b1, b2, b3, b4⟩ := back F5 H5 _ g5 R5w
          exact ⟨b1, b2, b3, b4⟩
        split at l2
        · cases l2
        · rename_i s5 e5
          refine ⟨G', F3, s3, false, s5, R4, e5, fun F6 H6 g6 R6 => ?_⟩
          refine iteF ?_
          obtain ⟨b1, b2, b3, b4⟩ := fin F6 H6 s5 (g3.trans g6) R6
          exact ⟨F6, _, accD, g2.trans b1, b2, b3, b4, Nat.le_succ_of_le hz, l2⟩
        · rename_i s5 e5
          split at l2
          · cases l2
          rename_i x6 s6 e6
          refine ⟨G', F3, s3, true, s5, R4, e5, fun F6 H6 g6 R6 => ?_⟩
          refine iteT ?_
          refine ⟨G', F6, s5, x6, s6, R6, e6, fun v F7 H7 g7 R7 r7 => ?_⟩
          obtain ⟨b1, b2, b3, b4⟩ := fin F7 H7 s6 ((g3.trans g6).trans g7) R7
          cases b3 with
          | @lst _ accV _ bg bf bh br =>
            have hlen : accV.length < sizeLine := by
              have h1 := br.length
              exact sz_lt (by omega)
            refine ⟨accV, bh, hlen, F7, _, accD ++ [x6.frz], g2.trans b1, b2.mutOut bg bf b4 rfl (fun _ z => by rw [bh] at z; cases z) (fun _ z => by rw [bh] at z; cases z), .lst bg bf upd_same (br.append (.cons r7 .nil)), fun _ => b4 rfl, by rw [List.length_append]; simpa using hz, l2⟩
    · have e : i = ds.length := by omega
      subst e
      rw [List.drop_length] at l2
      cases l2
      refine .inl ⟨w.stop _ H' (g2.1.trans R2.f) (Nat.le_refl _), k _ F2 H' (g1.trans g2) ?_ r2 fun _ j y hj oy ej => ?_⟩
      · refine ⟨R2.g, R2.f, R2.nt, ?_, fun i x hx => ?_, fun i j x y v hx hy ox oy ei ej => ?_⟩
        · rw [restore_length, R2.len, L2.wipe_length]
        · rcases restore_inv hx with ⟨hm, h1, h2⟩ | ⟨hm, h1⟩
          · obtain ⟨v, hv, rv⟩ := R1.at_ i x h1
            refine ⟨v, hv, ?_⟩
            cases rv with
            | imm r => exact .imm (r.mono g2.1)
            | lst _ _ _ _ => cases h2
            | dK _ _ _ _ _ => cases h2
            | dT _ _ _ _ _ => cases h2
            | ins _ _ _ _ _ _ => cases h2
          · obtain ⟨v, hv, rv⟩ := R2.at_ i x h1
            rw [L2.wipe_out hm] at hv
            exact ⟨v, hv, rv⟩
        · rcases restore_inv hx with ⟨hm, h1, h2⟩ | ⟨hm, h1⟩
          · rw [h2] at ox; cases ox
          · rcases restore_inv hy with ⟨hm', h1', h2'⟩ | ⟨hm', h1'⟩
            · rw [h2'] at oy; cases oy
            · exact R2.one i j x y v h1 h1' ox oy (by rw [L2.wipe_out hm]; exact ei) (by rw [L2.wipe_out hm']; exact ej)
      · rcases restore_inv hj with ⟨hm, h1, h2⟩ | ⟨hm, h1⟩
        · rw [h2] at oy; cases oy
        · exact sp2 rfl j y h1 oy (by rw [L2.wipe_out hm]; exact ej)
  · cases e0
end
end Sm
/-! == and != by an own __eq__. -/
namespace Sm
open PySem L2 Evl PyProof.Rows

section
variable {prog : Program} {w : World} {A : Around} {E : Value → Shared → Prop} {s : Shared} {K : PySem.W.Frag} {x C f : Addr} {ox : Obj} {od : Option Obj} {b : Value}
theorem ne_entry {Q : Fin → Shared → Prop} (hu : A.units < cLine) (X : K.In s.heap) (I : PySem.W.InstAt s.heap x ox C od) (hs : PySem.W.findIn K (.ref C) "__eq__" = some (some (.ref f))) (hf : PySem.W.isFn K (.ref f) = true)
    (h : wpAny (model prog w) A (call (.ref f) [.ref x, b]) (fun v s' => ∃ r, v = .bool r ∧ Q (.done (.ret (.bool (!r)))) s') E s) : wpAny (model prog w) A (Builtin.«object.__ne__» ⟨[.ref x, b], []⟩) Q E s := by
  unfold Builtin.«object.__ne__»
  have one : wpAny (model prog w) A (callSpecialIfBound? (.ref x) "__eq__" [b]) (fun r s' => ∃ k, r = some (.bool k) ∧ Q (.done (.ret (.bool (!k)))) s') E s :=
    PySem.W.ifBound_K X I hs hf (wpAny_mono h (fun v s' hv => by obtain ⟨k, rfl, q⟩ := hv; exact ⟨k, rfl, q⟩) fun _ _ e => e)
  repeat (first | with_reducible refine wpAny_cRoomFor hu ?_ | with_reducible refine wpAny_bind (m := callSpecialIfBound? _ _ _) (wpAny_mono one (fun r s' z => ?_) fun _ _ e => e) | wp_step)
  obtain ⟨k, rfl, q⟩ := z
  repeat (first | with_reducible refine wpAny_truthy_bool ?_ | wp_step)
  exact q
theorem ifBound_B {M : Model} {name : Str} {id : String} {args : List Value} {Q : Option Value → Shared → Prop} (X : K.In s.heap) (I : PySem.W.InstAt s.heap x ox C od) (hs : PySem.W.findIn K (.ref C) "__ne__" = some (some (.builtin "object.__ne__")))
    (h : wpAny M A (call (.builtin "object.__ne__") (.ref x :: args)) (fun v => Q (some v)) E s) : wpAny M A (callSpecialIfBound? (.ref x) "__ne__" args) Q E s := by
  simp only [callSpecialIfBound?, bindSpecialIfBound?]
  refine wpAny_holding (wpAny_bind (wpAny_bind (wpAny_bind (I.type.here ((PySem.W.looks_findIn X hs).here ?_)))))
  refine wpAny_bind (wpAny_askSetting (wpAny_ite ?_))
  have fin : wpAny M A (call (.builtin "object.__ne__") ([.ref x] ++ args) >>= fun v => pure (some v)) Q E s := wpAny_bind (wpAny_mono h (fun v s' h' => wpAny_pure h') fun _ _ h' => h')
  split
  · exact wpAny_bind (wpAny_of_eq (F.cmp_object.ne.bind _) (wpAny_pure (by exact fin)))
  · exact wpAny_tryCatch (wpAny_bind (wpAny_of_eq (F.cmp_object.ne.bind _) (wpAny_pure (by exact fin))))
theorem ne_own {tb : Value} {Q : Value → Shared → Prop} {h₀ : Heap} {L : Addr} {m : Str → Option Value} (hu : A.units + 1 < cLine) (Fh : Fr h₀ L s.heap m) (X₀ : K.In h₀) (I : PySem.W.InstAt s.heap x ox C od) (hb : PySem.W.Looks (model prog w) s.heap (typeOf b) tb) (hn : PySem.W.notFirst K C tb = true)
    (hm : PySem.W.mroIn K C (.type "object") = some true) (hne : PySem.W.findIn K (.ref C) "__ne__" = some (some (.builtin "object.__ne__")))
    (hs : PySem.W.findIn K (.ref C) "__eq__" = some (some (.ref f))) (hf : PySem.W.isFn K (.ref f) = true)
    (h : wpAny (model prog w) A.in1 (call (.ref f) [.ref x, b]) (fun v s' => ∃ r, v = .bool r ∧ Q (.bool (!r)) s') E s) : wpAny (model prog w) A (richCompare .NotEq (.ref x) b) Q E s := by
  have X := X₀.keeps Fh.keep
  have hu0 : A.units < cLine := by omega
  have hu1 : A.in1.units < cLine := hu
  have callNe : wpAny (model prog w) A (call (.builtin "object.__ne__") [.ref x, b]) (fun v s' => ∃ r, v = .bool r ∧ Q (.bool r) s') E s := by
    refine wpAny_call (codeAny_call_builtin F.cmp_object.ne.plain F.cmpEntry_ne (PySem.W.check_slot F.cmpKind_ne F.cmpSplit_ne (I.type.andThen (PySem.W.looks_mroIn X hm)) (F.cmpArgs_ne _ _) (ne_entry hu1 X I hs hf ?_)))
    refine wpAny_mono h (fun v s' hv => ?_) fun _ _ e => e
    obtain ⟨r, rfl, q⟩ := hv
    exact ⟨r, rfl, _, rfl, q⟩
  have one : wpAny (model prog w) A (tryCompare (.ref x) (cmpInfo .NotEq).2.1 b) (fun r s' => ∃ v, r = some v ∧ Q v s') E s := by
    unfold tryCompare
    refine wpAny_bind (ifBound_B (name := "__ne__") (id := "object.__ne__") X I hne (wpAny_mono callNe (fun v s' hv => ?_) fun _ _ e => e))
    obtain ⟨r, rfl, q⟩ := hv
    exact wpAny_pure ⟨_, rfl, q⟩
  unfold richCompare
  simp only [oneThing_ref]
  refine wpAny_holding (wpAny_bind (wpAny_cRoomFor hu0 ?_))
  refine wpAny_bind (I.type.here (wpAny_bind (hb.here ?_)))
  split
  · rename_i q
    have e : PySem.W.subIn K tb (.ref C) = some false := by
      rcases Bool.or_eq_true_iff.mp hn with e | e
      · rw [beq_iff_eq.mp e] at q; simp at q
      · exact beq_iff_eq.mp e
    refine wpAny_bind ((PySem.W.looks_subIn X e).here ?_)
    simp only [Bool.false_eq_true, if_false]
    refine wpAny_bind (wpAny_mono one (fun r s' z => ?_) fun _ _ e => e)
    obtain ⟨v, rfl, hq⟩ := z
    exact wpAny_pure hq
  · refine wpAny_bind (wpAny_pure ?_)
    simp only [Bool.false_eq_true, if_false]
    refine wpAny_bind (wpAny_mono one (fun r s' z => ?_) fun _ _ e => e)
    obtain ⟨v, rfl, hq⟩ := z
    exact wpAny_pure hq
end

/-- instances of class c compared by their own == -/
def oOwn (neg : Bool) (c : Str) (feq : List D → Option SV) : D → D → Option SV
  | .ins c1 n1 d1, .ins c2 n2 d2 => if c1 = c ∧ c2 = c then (match feq [.ins c1 n1 d1, .ins c2 n2 d2] with
    | some (.imm (.bl b)) => some (.imm (.bl (if neg then !b else b)))
    | _ => none) else none
  | _, _ => none
section
variable {X : Cx} {k : Nat} {C fa : Addr} {c : Str} {fd : FuncData} {ps : List Str} {feq : List D → Option SV}
theorem run_own {A : Around} {neg : Bool} {pins : List (Addr × Obj)} {σ : L2.St} {H : Hp} {s : Shared} {a b : Addr} {Q : VK} (F : FnOk X.prog X.w X.K X.mg X.base (L2.CX X.prog X.w) k fa fd ps (spP X.K X.mg 2 feq)) (hb : Binds X.K fd ps []) (hr : Room k A) (hfr : A.frames = X.A.frames) (I : Inv X pins σ H s)
    (h : spP X.K X.mg 2 feq [.ref a, .ref b] H (fun v H' => ∃ r, v = .bl r ∧ Q (.bl (if neg then !r else r)) H') E0) :
    wpAny (model X.prog X.w) A (call (.ref fa) [.ref a, .ref b]) (fun v s' => ∃ r, v = .bool r ∧ EP X pins σ Q (.bool (if neg then !r else r)) s') X.xe s := by
  have e0 : Env0 X.prog X.w X.K X.mg X.base A X.stack s H := by
    have e := I.env0
    exact ⟨by rw [hfr]; exact e.frames, e.mod, e.bs, e.bsz, e.funs, e.frf, e.hok, e.bare⟩
  have hl := F.len _ _ _ _ h
  have r2 : Vals [V.ref a, V.ref b] [Value.ref a, Value.ref b] := .cons rfl (.cons rfl .nil)
  refine wpAny_call (codeAny_mono (F.run A X.stack s H ⟨[.ref a, .ref b], []⟩ [.ref a, .ref b] [.ref a, .ref b] _ E0 hr e0 (by
    have := hb s [.ref a, .ref b] I.kIn (by simpa using hl)
    simpa using this) r2 h) fun r s' hq => ?_)
  cases r with
  | error e => exact passL _ _ _ _ _ _ I hq
  | ok fl =>
    cases fl with
    | ret w =>
      obtain ⟨z, H', I', rz, r, ez, q⟩ := I.after hq
      subst ez
      cases rz
      exact ⟨r, rfl, .bl (if neg then !r else r), H', I', rfl, q⟩
    | next => exact False.elim hq
    | brk => exact False.elim hq
    | cont => exact False.elim hq
def rOwn (K : PySem.W.Frag) (mg : Str → Option Value) (C : Addr) (feq : List D → Option SV) (neg : Bool) : R2 := fun x y H Q => ∃ a b dx dy fs gs, x = .ref a ∧ y = .ref b ∧ H a = some (.ins C dx fs) ∧ H b = some (.ins C dy gs) ∧
  spP K mg 2 feq [.ref a, .ref b] H (fun v H' => ∃ r, v = .bl r ∧ Q (.bl (if neg then !r else r)) H') E0
theorem op_eqOwn (F : FnOk X.prog X.w X.K X.mg X.base (L2.CX X.prog X.w) k fa fd ps (spP X.K X.mg 2 feq)) (hb : Binds X.K fd ps []) (hr : Room k X.A) (hs : PySem.W.findIn X.K (.ref C) "__eq__" = some (some (.ref fa))) (hf : PySem.W.isFn X.K (.ref fa) = true) : OpR X (compareOp .Eq) (rOwn X.K X.mg C feq false) := by
  intro pins s σ H x y v u Q I rx ry hq
  obtain ⟨a, b, dx, dy, fs, gs, rfl, rfl, ha, hb', q⟩ := hq
  cases rx
  cases ry
  obtain ⟨mA, J, _⟩ := ins_get I.hok ha
  obtain ⟨mB, J', _⟩ := ins_get I.hok hb'
  obtain ⟨od, J, _⟩ := J.look
  obtain ⟨od', J', _⟩ := J'.look
  obtain ⟨m, hF⟩ := I.fr
  show wpAny (model X.prog X.w) X.A (richCompare .Eq (.ref a) (.ref b)) (EP X pins σ Q) X.xe s
  refine PySem.W.cmp_K (op := .Eq) (tb := .ref C) hr.units0 hF I.ok.mod.kin J J'.type (by simp [PySem.W.notFirst]) hs hf ?_
  refine wpAny_mono (run_own (neg := false) F hb hr rfl I q) (fun v s' hv => ?_) fun _ _ e => e
  obtain ⟨r, rfl, q⟩ := hv
  exact q
theorem op_neOwn (F : FnOk X.prog X.w X.K X.mg X.base (L2.CX X.prog X.w) k fa fd ps (spP X.K X.mg 2 feq)) (hb : Binds X.K fd ps []) (hr : Room (k + 1) X.A) (hm : PySem.W.mroIn X.K C (.type "object") = some true) (hne : PySem.W.findIn X.K (.ref C) "__ne__" = some (some (.builtin "object.__ne__")))
    (hs : PySem.W.findIn X.K (.ref C) "__eq__" = some (some (.ref fa))) (hf : PySem.W.isFn X.K (.ref fa) = true) : OpR X (compareOp .NotEq) (rOwn X.K X.mg C feq true) := by
  intro pins s σ H x y v u Q I rx ry hq
  obtain ⟨a, b, dx, dy, fs, gs, rfl, rfl, ha, hb', q⟩ := hq
  cases rx
  cases ry
  obtain ⟨mA, J, _⟩ := ins_get I.hok ha
  obtain ⟨mB, J', _⟩ := ins_get I.hok hb'
  obtain ⟨od, J, _⟩ := J.look
  obtain ⟨od', J', _⟩ := J'.look
  obtain ⟨m, hF⟩ := I.fr
  show wpAny (model X.prog X.w) X.A (richCompare .NotEq (.ref a) (.ref b)) (EP X pins σ Q) X.xe s
  refine ne_own (tb := .ref C) (by have := hr.un; omega) hF I.ok.mod.kin J J'.type (by simp [PySem.W.notFirst]) hm hne hs hf ?_
  exact run_own (neg := true) F hb hr.in1 rfl I q
theorem own_of {neg : Bool} (hc : X.mg c = some (.ref C)) {G F H : Hp} {st : S} {σ : L2.St} {dx dy : D} {x y : V} {sv : SV} {Q : VK} (R : Rep X.K X.mg G F st σ H) (rx : RD X.K X.mg F dx x) (ry : RD X.K X.mg F dy y) (e : oOwn neg c feq dx dy = some sv) (k : Kn X.K X.mg G F st σ sv Q) : rOwn X.K X.mg C feq neg x y H Q := by
  unfold oOwn at e
  split at e
  · rename_i c1 n1 d1 c2 n2 d2
    split at e
    · rename_i hcc
      obtain ⟨h1, h2⟩ := hcc
      subst h1 h2
      split at e
      · rename_i b e1
        cases e
        obtain ⟨a, Ca, dx, fs, rfl, hCa, ha, hna, ra⟩ := id rx.ins_inv
        obtain ⟨a', Cb, dy, gs, rfl, hCb, hb, hnb, rb⟩ := id ry.ins_inv
        rw [hc] at hCa hCb
        cases hCa; cases hCb
        refine ⟨a, a', dx, dy, fs, gs, rfl, rfl, R.f _ _ ha, R.f _ _ hb, spP_of R rfl (.cons rx (.cons ry .nil)) e1 fun v F' H' g R' r s => ?_⟩
        cases r with | imm r => exact ⟨b, r.bl_inv, k _ F' H' g R' (.imm (.bl _)) Sep.imm⟩
      · cases e
    · cases e
  · cases e
/-- data, or instances of class c -/
def oEqO (neg : Bool) (c : Str) (feq : List D → Option SV) : D → D → Option SV := fun x y => match oEq neg x y with
  | some z => some z
  | none => oOwn neg c feq x y
theorem os_eqO (hu : X.A.units + 64 < cLine) (hc : X.mg c = some (.ref C)) (F : FnOk X.prog X.w X.K X.mg X.base (L2.CX X.prog X.w) k fa fd ps (spP X.K X.mg 2 feq)) (hb : Binds X.K fd ps []) (hr : Room k X.A) (hs : PySem.W.findIn X.K (.ref C) "__eq__" = some (some (.ref fa))) (hf : PySem.W.isFn X.K (.ref fa) = true) :
    OpS X (compareOp .Eq) (oEqO false c feq) := by
  obtain ⟨r, h1, h2⟩ := os_eq hu
  refine ⟨_, h1.or (op_eqOwn F hb hr hs hf), ?_⟩
  intro G F H st σ dx dy x y sv Q R rx ry e k
  unfold oEqO at e
  split at e
  · rename_i z e1
    cases e
    exact .inl (h2 R rx ry e1 k)
  · exact .inr (own_of hc R rx ry e k)
theorem os_neO (hu : X.A.units + 64 < cLine) (hc : X.mg c = some (.ref C)) (F : FnOk X.prog X.w X.K X.mg X.base (L2.CX X.prog X.w) k fa fd ps (spP X.K X.mg 2 feq)) (hb : Binds X.K fd ps []) (hr : Room (k + 1) X.A) (hm : PySem.W.mroIn X.K C (.type "object") = some true) (hne : PySem.W.findIn X.K (.ref C) "__ne__" = some (some (.builtin "object.__ne__")))
    (hs : PySem.W.findIn X.K (.ref C) "__eq__" = some (some (.ref fa))) (hf : PySem.W.isFn X.K (.ref fa) = true) :
    OpS X (compareOp .NotEq) (oEqO true c feq) := by
  obtain ⟨r, h1, h2⟩ := os_ne hu
  refine ⟨_, h1.or (op_neOwn F hb hr hm hne hs hf), ?_⟩
  intro G F H st σ dx dy x y sv Q R rx ry e k
  unfold oEqO at e
  split at e
  · rename_i z e1
    cases e
    exact .inl (h2 R rx ry e1 k)
  · exact .inr (own_of hc R rx ry e k)
end
end Sm
/-! Comprehensions as expressions, lists and instances changed, defs, methods. -/
namespace Sm
open PySem L2 Evl PyProof.Rows

section
variable {X : Cx} {P : List Nat} {e : Expr} {es : List Expr} {f g : DE} {r : DA} {pos : Pos}
/-! ### comprehensions -/
structure STs (X : Cx) (es : List Expr) (d : DT) : Prop where
  pts : PTs X es (tTD X.K X.mg d)
def dYes : DT := fun st => some (true, st)
theorem sts_nil : STs X [] dYes := ⟨⟨fun pins s σ H Q I q => by
  obtain ⟨G, F, st, b, st', R, e, k⟩ := q
  cases e
  exact pts_nil.run pins s σ H Q I (k F H (Gr.refl F) R)⟩⟩
theorem sts_one {t : DT} (h : ST X e t) : STs X [e] t := ⟨pts_one h.pt⟩
theorem se_lc {elt tg iter : Expr} {ifs : List Expr} {scope : Scope} {own : List (Str × Nat)} {it : DI} {gg : D → S → Option S} {t : DT} {d : DE} (hc : X.calm = true) (hN : X.N.Nodup) (hi : SI X tg iter it) (ok : BlkOk X.N X.env.scope scope own)
    (hg : ∀ (s : Shared) (H : Hp) (C : Addr) (cl : List (Str × Addr)) (fp : List Addr), SG (X.blk s H scope (compEnvC scope cl C X.env) fp) tg (own.map (·.2)) gg) (ht : ∀ (s : Shared) (H : Hp) (C : Addr) (cl : List (Str × Addr)) (fp : List Addr), STs (X.blk s H scope (compEnvC scope cl C X.env) fp) ifs t)
    (he : ∀ (s : Shared) (H : Hp) (C : Addr) (cl : List (Str × Addr)) (fp : List Addr), SE (X.blk s H scope (compEnvC scope cl C X.env) fp) elt d) (hs : ∀ x, foldedSetIterable iter X.env x = pure x := by intro _; rfl) :
    SE X (.ListComp elt [⟨tg, iter, ifs, 0⟩] scope pos) (dLc it gg t d (own.map (·.2))) :=
  ⟨pe_imp (pe_lc hc hN hi.pi ok (fun s H C cl fp => (hg s H C cl fp).pg) (fun s H C cl fp => (ht s H C cl fp).pts) (fun s H C cl fp => (he s H C cl fp).pf) hs) fun _ _ _ q => lc_of q⟩
theorem asg_imp {d : DE} {t : TE} {i : Nat} (hP : i ∉ P) (h : ∀ σ H Q, tD X.K X.mg d σ H Q → t σ H Q) {D : Ends} {σ : L2.St} {H : Hp} (q : tS X.K X.mg P (dSet i d) D σ H) : tAsg t (gName i) D σ H := h _ _ _ (set_of hP q)
theorem ss_setLc {i : Nat} {y : Str} {py : Pos} {elt tg iter : Expr} {ifs : List Expr} {scope : Scope} {own : List (Str × Nat)} {spos : Pos} {it : DI} {gg : D → S → Option S} {t : DT} {d : DE} (hP : i ∉ P) (hc : X.calm = true) (hN : X.N.Nodup) (hy : X.N[i]? = some y) (hyl : X.env.scope.names.lookup y = some .local)
    (hsw : swapsWith (.ListComp elt [⟨tg, iter, ifs, 0⟩] scope pos) (some (.Name y py)) spos.line X.env = pure true) (hi : SI X tg iter it) (ok : BlkOk X.N X.env.scope scope own)
    (hg : ∀ (s : Shared) (H : Hp) (C : Addr) (cl : List (Str × Addr)) (fp : List Addr), SG (X.blk s H scope (compEnvC scope cl C X.env) fp) tg (own.map (·.2)) gg) (ht : ∀ (s : Shared) (H : Hp) (C : Addr) (cl : List (Str × Addr)) (fp : List Addr), STs (X.blk s H scope (compEnvC scope cl C X.env) fp) ifs t)
    (he : ∀ (s : Shared) (H : Hp) (C : Addr) (cl : List (Str × Addr)) (fp : List Addr), SE (X.blk s H scope (compEnvC scope cl C X.env) fp) elt d) (hs : ∀ x, foldedSetIterable iter X.env x = pure x := by intro _; rfl) :
    SS X P (.Assign [.Name y py] (.ListComp elt [⟨tg, iter, ifs, 0⟩] scope pos) spos) (dSet i (dLc it gg t d (own.map (·.2)))) :=
  ⟨ps_imp (ps_setLc hc hN hy hyl hsw hi.pi ok (fun s H C cl fp => (hg s H C cl fp).pg) (fun s H C cl fp => (ht s H C cl fp).pts) (fun s H C cl fp => (he s H C cl fp).pf) hs) fun _ _ _ q => asg_imp hP (fun _ _ _ q => lc_of q) q⟩

/-! ### a list of ours changed -/
/-- the object in slot i is changed -/
theorem Rep.write {K : PySem.W.Frag} {mg : Str → Option Value} {G F H : Hp} {st : S} {σ : L2.St} {i : Nat} {x x' : SV} {a : Addr} {o : HO} (R : Rep K mg G F st σ H) (hi : st[i]? = some (some x)) (ox : x.own = true) (hv : σ[i]? = some (some (.ref a))) (ga : G a = none) (fa : F a = none)
    (r' : RS K mg G F (upd H a o) x' (.ref a)) : Rep K mg G F (st.set i (some x')) σ (upd H a o) := by
  obtain ⟨v, h1, rs, s⟩ := R.out hi
  rw [hv] at h1
  cases h1
  have nn : (∀ ps, H a ≠ some (.tbl ps)) ∧ ∀ φ, H a ≠ some (.ext φ) := by
    cases rs with
    | imm _ => cases ox
    | lst _ _ h _ => exact ⟨fun _ z => (by rw [h] at z; cases z), fun _ z => (by rw [h] at z; cases z)⟩
    | dK _ _ h _ _ => exact ⟨fun _ z => (by rw [h] at z; cases z), fun _ z => (by rw [h] at z; cases z)⟩
    | dT _ _ h _ _ => exact ⟨fun _ z => (by rw [h] at z; cases z), fun _ z => (by rw [h] at z; cases z)⟩
    | ins _ _ _ h _ _ => exact ⟨fun _ z => (by rw [h] at z; cases z), fun _ z => (by rw [h] at z; cases z)⟩
  have R0 := (R.forget i).mutOut (o := o) ga fa s ox nn.1 nn.2
  have R1 := R0.put (i := i) r' (fun _ j y hj oy e => by
    obtain ⟨hne, hj⟩ := set_none_ne hj
    obtain ⟨hne2, hj⟩ := set_none_ne hj
    exact hne (R.one j i y x _ hj hi oy ox e hv))
  rw [set_self hv] at R1
  have e3 : (st.set i none).set i (some x') = st.set i (some x') := List.set_set ..
  rw [e3] at R1
  exact R1
/-- name[g] = f -/
def dSetIx (i : Nat) (f g : DE) : DS := fun st => match st[i]? with
  | some (some _) => (match f st with
    | none => none
    | some (x, s1) => match g s1 with
      | some (.imm (.int k), s2) => (match s2[i]? with
        | some (some (.lst ds)) => (match ixN ds.length k with
          | some j => some (.nx, s2.set i (some (.lst (ds.set j x.frz))))
          | none => none)
        | _ => none)
      | _ => none)
  | _ => none
theorem ss_setix {i : Nat} {x : Str} {b : Expr} {p p2 : Pos} (hN : X.N[i]? = some x) (hv : Vis X.env.scope x) (he : SE X e f) (hb : SE X b g) (hd : (x == ("__debug__" : Str)) = false := by decide) (hcd : (x == ("__classdict__" : Str)) = false := by decide)
    (ha : ∀ v, assign (.Subscript (.Name x p) b p2) X.env v = (do
      let ov ← holding [v] (eval (.Name x p) X.env)
      let iv ← holding [v, ov] (eval b X.env)
      standAt p2
      holding [v, ov, iv] (setItem ov iv v)
      release [v, ov, iv] []) := by intro _; rfl)
    (hs : swapsWithSole [.Subscript (.Name x p) b p2] e pos.line X.env = pure false := by rfl) (hw : swappedStores [.Subscript (.Name x p) b p2] e X.env = pure none := by rfl)
    (h1 : (assignEach [.Subscript (.Name x p) b p2] X.env).map (·.2) = [assign (.Subscript (.Name x p) b p2) X.env] := by rfl) :
    SS X P (.Assign [.Subscript (.Name x p) b p2] e pos) (dSetIx i f g) := ⟨ps_imp (ps_asg he.pf (pg_sub (pe_var hN hv hd hcd) hb.pe set_list ha) hs hw h1) fun D σ H q => by
  obtain ⟨G, F, st, o, st', R, e, k⟩ := q
  unfold dSetIx at e
  split at e
  · rename_i y0 h0
    split at e
    · cases e
    rename_i x1 s1 e1
    split at e
    · rename_i kk s2 e2
      split at e
      · rename_i ds h2
        split at e
        · rename_i j e3
          cases e
          obtain ⟨v0, hv0, _⟩ := R.at_ i _ h0
          refine ⟨G, F, st, x1, s1, R, e1, fun v F1 H1 g1 R1 r1 => ⟨v0, hv0, G, F1, s1, _, s2, R1, e2, fun u F2 H2 g2 R2 r2 _ => ?_⟩⟩
          obtain ⟨v0', hv0', rs⟩ := R2.at_ i _ h2
          rw [hv0] at hv0'
          cases hv0'
          cases r2 with | imm r2 => ?_
          cases rs with
          | @lst a vs _ ga fa ha ra =>
            refine ⟨a, vs, kk, j, rfl, r2.int_inv, ha, by rw [← ra.length]; exact e3, ?_⟩
            exact k F2 _ σ (g1.trans g2) (R2.write h2 rfl hv0 ga fa (.lst ga fa upd_same (ra.set j (r1.mono g2.1)))) Keeps.refl
        · cases e
      · cases e
    · cases e
  · cases e⟩
/-- name.append(f), as a value -/
def dApp (i : Nat) (f : DE) : DE := fun st => match st[i]? with
  | some (some (.lst _)) => (match f st with
    | none => none
    | some (x, s1) => match s1[i]? with
      | some (some (.lst ds)) => if ds.length < 100000 then some (.imm .non, s1.set i (some (.lst (ds ++ [x.frz])))) else none
      | _ => none)
  | _ => none
theorem MtM.mtr {id : String} {rr : V → List V → Hp → VK → Prop} (h : MtM X id rr) : MtR X id rr := h
theorem se_app {i : Nat} {x : Str} {p apos cpos : Pos} (hN : X.N[i]? = some x) (hv : Vis X.env.scope x) (he : SE X e f) (hd : (x == ("__debug__" : Str)) = false := by decide) (hcd : (x == ("__classdict__" : Str)) = false := by decide)
    (hbase : attributeBase (.Name x p) "append" X.env (eval (.Name x p) X.env) = eval (.Name x p) X.env := by rfl)
    (hfew : ((backTo cpos (starEach [e] X.env)).all (fun x => !x.1) && (backToKw cpos (keywordEach [] X.env)).all (fun x => x.1.isSome)
      && decide ([e].length + ([] : List Keyword).length + (if ([] : List Keyword).isEmpty then 0 else 1) < 30)) = true := by rfl)
    (hline : (apos.endLine == cpos.line) = true := by rfl) (hs : starEach [e] X.env = (false, eval e X.env) :: starEach [] X.env := by rfl) (hplain : (backTo cpos (starEach [] X.env)).any (·.1) = false := by rfl) :
    SE X (.Call (.Attribute (.Name x p) "append" apos) [e] [] cpos) (dApp i f) := ⟨pe_imp (pe_bm PySem.F.plainAttrs_list PySem.F.slot_list_append PySem.F.type_list_append mt_append (pe_var hN hv hd hcd) (pa_cons he.pf pa_nil hs) hbase hfew hline hs hplain) fun σ H Q q => by
  obtain ⟨G, F, st, sv, st', R, e, k⟩ := q
  unfold dApp at e
  split at e
  · rename_i ds0 h0
    split at e
    · cases e
    rename_i x1 s1 e1
    split at e
    · rename_i ds h1
      split at e
      · rename_i hl
        cases e
        obtain ⟨v0, hv0, rs0⟩ := R.at_ i _ h0
        refine ⟨v0, hv0, ?_, G, F, st, x1, s1, R, e1, fun v F1 H1 g1 R1 r1 => ?_⟩
        · cases rs0 with
          | lst g f h r => exact .inl ⟨rfl, _, .inl (.inl h)⟩
        · obtain ⟨v0', hv0', rs⟩ := R1.at_ i _ h1
          rw [hv0] at hv0'
          cases hv0'
          cases rs with
          | @lst a vs _ ga fa ha ra =>
            refine ⟨a, vs, v, rfl, rfl, ha, sz_lt (by rw [← ra.length]; exact hl), ?_⟩
            exact k _ F1 _ g1 (R1.write h1 rfl hv0 ga fa (.lst ga fa upd_same (ra.append (.cons r1 .nil)))) (.imm .non) Sep.imm
      · cases e
    · cases e
  · cases e⟩

/-! ### an instance of ours gets an attribute -/
def putD (f : Str) (y : D) : List Str → List D → List Str × List D
  | n :: ns, d :: ds => if n = f then (n :: ns, y :: ds) else ((n :: (putD f y ns ds).1), (d :: (putD f y ns ds).2))
  | _, _ => ([f], [y])
theorem putD_rd {K : PySem.W.Frag} {mg : Str → Option Value} {F : Hp} {f : Str} {y : D} {v : V} (r : RD K mg F y v) : ∀ {fs : List (Str × V)} {ds : List D}, RDs K mg F ds (fs.map (·.2)) → (putF f v fs).map (·.1) = (putD f y (fs.map (·.1)) ds).1 ∧ RDs K mg F (putD f y (fs.map (·.1)) ds).2 ((putF f v fs).map (·.2))
  | [], _, .nil => ⟨rfl, .cons r .nil⟩
  | (n, w) :: fs, _, .cons h t => by
    obtain ⟨i1, i2⟩ := putD_rd r t
    show (if n = f then (n, v) :: fs else (n, w) :: putF f v fs).map (·.1) = (if n = f then _ else _ : List Str × List D).1 ∧ RDs K mg F (if n = f then _ else _ : List Str × List D).2 ((if n = f then (n, v) :: fs else (n, w) :: putF f v fs).map (·.2))
    by_cases hn : n = f
    · rw [if_pos hn, if_pos hn]
      exact ⟨rfl, .cons r t⟩
    · rw [if_neg hn, if_neg hn]
      exact ⟨by rw [List.map_cons, i1], .cons h i2⟩
/-- name.f = g, the name's instance of class c -/
def dSetF (c : Str) (i : Nat) (ff : Str) (g : DE) : DS := fun st => match g st with
  | none => none
  | some (y, s1) => match s1[i]? with
    | some (some (.ins c' ns ds)) => if c' = c ∧ ds.length < 100 then some (.nx, s1.set i (some (.ins c' (putD ff y.frz ns ds).1 (putD ff y.frz ns ds).2))) else none
    | _ => none
theorem ss_fld {c ff x : Str} {C : Addr} {i : Nat} {p pos' : Pos} (hc : X.mg c = some (.ref C)) (cl : Cls X.K C) (na : NoAttr X.K C ff) (hN : X.N[i]? = some x) (hv : Vis X.env.scope x) (he : SE X e g) (hs : swapsWith e (some (.Attribute (.Name x p) ff pos')) pos.line X.env = pure false := by rfl)
    (hd : (x == ("__debug__" : Str)) = false := by decide) (hcd : (x == ("__classdict__" : Str)) = false := by decide) : SS X P (.Assign [.Attribute (.Name x p) ff pos'] e pos) (dSetF c i ff g) := ⟨ps_imp (ps_fld (pe_var hN hv hd hcd) he.pf hs) fun D σ H q => by
  obtain ⟨G, F, st, o, st', R, e, k⟩ := q
  unfold dSetF at e
  split at e
  · cases e
  rename_i y s1 e1
  split at e
  · rename_i c' ns ds h1
    split at e
    · rename_i hcc
      obtain ⟨rfl, hl⟩ := hcc
      cases e
      refine ⟨G, F, st, y, s1, R, e1, fun v F1 H1 g1 R1 r1 => ?_⟩
      obtain ⟨v0, hv0, rs⟩ := R1.at_ i _ h1
      refine ⟨v0, hv0, ?_⟩
      cases rs with
      | @ins a C' dx _ fs _ _ ga fa hc' ha hn ra =>
        rw [hc] at hc'
        cases hc'
        subst hn
        obtain ⟨q1, q2⟩ := putD_rd (f := ff) r1 ra
        have hlf : fs.length < 1000 := by
          have := ra.length
          rw [List.length_map] at this
          omega
        exact ⟨a, C, dx, fs, rfl, ha, cl, na, hlf, k F1 _ σ g1 (R1.write h1 rfl hv0 ga fa (.ins ga fa hc upd_same q1 q2)) Keeps.refl⟩
    · cases e
  · cases e⟩
end

/-! ### a def of the text -/
def runP (n : Nat) (b : DS) (ds : List D) : Option SV := match b ((ds.map fun d => some (.imm d)) ++ List.replicate (n - ds.length) none) with
  | some (.nx, _) => some (.imm .non)
  | some (.rt sv, _) => some sv
  | _ => none
def runO (n : Nat) (b : DS) (x : SV) (ds : List D) : Option (SV × SV) := match b (some x :: ((ds.map fun d => some (.imm d)) ++ List.replicate (n - (ds.length + 1)) none)) with
  | some (o, st') => (match st'[0]? with
    | some (some x') => if x'.own = true then (match o with
      | .nx => some (.imm .non, x')
      | .rt sv => some (sv, x')
      | _ => none) else none
    | _ => none)
  | none => none
theorem rep_start {K : PySem.W.Frag} {mg : Str → Option Value} {G F H : Hp} {N : List Str} (eg : Kp K mg G H) (ef : Exf F H) : ∀ {ds : List D} {vs : List V}, RDs K mg F ds vs → ds.length ≤ N.length → Rep K mg G F ((ds.map fun d => some (SV.imm d)) ++ List.replicate (N.length - ds.length) none) (L2.start N vs) H := fun {ds vs} r hl => by
  have hlen := r.length
  have key : ∀ (i : Nat) (sv : SV), ((ds.map fun d => some (SV.imm d)) ++ List.replicate (N.length - ds.length) none)[i]? = some (some sv) → ∃ d, ds[i]? = some d ∧ sv = .imm d := fun i sv h => by
    by_cases hi : i < ds.length
    · rw [List.getElem?_append_left (by simpa using hi), List.getElem?_map, List.getElem?_eq_getElem hi] at h
      cases h
      exact ⟨_, List.getElem?_eq_getElem hi, rfl⟩
    · rw [List.getElem?_append_right (by simpa using hi), List.getElem?_replicate] at h
      split at h <;> cases h
  refine ⟨eg, ef.1, ef.2, ?_, fun i sv h => ?_, fun i j x y v h1 h2 ox => ?_⟩
  · unfold L2.start
    simp only [List.length_append, List.length_map, List.length_replicate]
    omega
  · obtain ⟨d, hd, rfl⟩ := key i sv h
    obtain ⟨v, hv, rv⟩ := r.get hd
    refine ⟨v, ?_, .imm rv⟩
    unfold L2.start
    have hi : i < vs.length := (List.getElem?_eq_some_iff.mp hv).1
    rw [List.getElem?_append_left (by simpa using hi), List.getElem?_map, hv]
    rfl
  · obtain ⟨d, _, rfl⟩ := key i x h1
    cases ox
theorem rep_startO {K : PySem.W.Frag} {mg : Str → Option Value} {G Fz H : Hp} {N : List Str} {y : SV} {a : Addr} {ds : List D} {ws : List V} (eg : Kp K mg G H) (ef : Exf Fz H) (r : RDs K mg Fz ds ws) (ry : RS K mg G Fz H y (.ref a)) (hN : 0 < N.length) (hpl : ds.length + 1 ≤ N.length) :
    Rep K mg G Fz (some y :: ((ds.map fun d => some (.imm d)) ++ List.replicate (N.length - (ds.length + 1)) none)) (L2.start N (.ref a :: ws)) H := by
  have hlen := r.length
  -- the entry
  obtain ⟨n, hn⟩ : ∃ n, N.length = n + 1 := ⟨N.length - 1, by omega⟩
  have hst : L2.start N (.ref a :: ws) = some (.ref a) :: (ws.map some ++ List.replicate (N.length - (ws.length + 1)) none) := rfl
  have key : ∀ (i : Nat) (sv : SV), ((ds.map fun d => some (SV.imm d)) ++ List.replicate (N.length - (ds.length + 1)) none)[i]? = some (some sv) → ∃ d, ds[i]? = some d ∧ sv = .imm d := fun i sv h => by
    by_cases hi : i < ds.length
    · rw [List.getElem?_append_left (by simpa using hi), List.getElem?_map, List.getElem?_eq_getElem hi] at h
      cases h
      exact ⟨_, List.getElem?_eq_getElem hi, rfl⟩
    · rw [List.getElem?_append_right (by simpa using hi), List.getElem?_replicate] at h
      split at h <;> cases h
  rw [hst]
  refine ⟨eg, ef.1, ef.2, ?_, fun i sv h => ?_, fun i j x y' v h1 h2 ox oy' e1 e2 => ?_⟩
  · simp only [List.length_cons, List.length_append, List.length_map, List.length_replicate]
    rw [hlen]
  · cases i with
    | zero =>
      cases h
      exact ⟨.ref a, rfl, ry⟩
    | succ i =>
      obtain ⟨d, hd, rfl⟩ := key i sv h
      obtain ⟨v, hv, rv⟩ := r.get hd
      refine ⟨v, ?_, .imm rv⟩
      have hi : i < ws.length := (List.getElem?_eq_some_iff.mp hv).1
      show (ws.map some ++ _)[i]? = _
      rw [List.getElem?_append_left (by simpa using hi), List.getElem?_map, hv]
      rfl
  · cases i with
    | zero =>
      cases j with
      | zero => rfl
      | succ j => obtain ⟨d, _, rfl⟩ := key j y' h2; cases oy'
    | succ i => obtain ⟨d, _, rfl⟩ := key i x h1; cases ox
section
variable {P : Program} {w : World} {K : PySem.W.Frag} {mg : Str → Option Value} {base : Heap}
theorem fn_p {x qual : Str} {st : Stmt} {f : Addr} {fd : FuncData} {N ps : List Str} {k : Nat} {b : DS} (F : Fun K x qual st f fd) (S : FnScope N ps (defScope st))
    (hb : ∀ (cdv : Value) (A : Around) (outer : List Env) (s : Shared) (H : Hp) (E : XK), Room k (A.deeper (envOfC qual (defScope st) s.heap.objs.size f cdv)) → SSs (cxOf (L2.CX P w) P w K mg base N qual (defScope st) f cdv A outer s H E).nox [] (defBody st) b) :
    FnOk P w K mg base (L2.CX P w) (k + 1) f fd ps (spP K mg ps.length (runP N.length b)) := by
  have hpl : ps.length ≤ N.length := by have := congrArg List.length S.pre; rw [List.length_take] at this; omega
  refine F.okX S (fun vs H Q E h => spP_len vs H Q E h) (fun cdv A outer s H vs Q E hr h => ⟨_, (hb cdv A outer s H E hr).pss.nox, ?_⟩)
  obtain ⟨G, Fz, ds, sv, eg, ef, hl, r, e, q⟩ := h
  unfold runP at e
  have R := rep_start (N := N) eg ef r (by rw [hl]; exact hpl)
  split at e
  · rename_i st1 e1
    cases e
    exact ⟨G, Fz, _, _, _, R, e1, fun F' H' σ' g R' _ => q .non F' H' g R'.g ⟨R'.f, R'.nt⟩ (.imm .non)⟩
  · rename_i sv1 st1 e1
    cases e
    exact ⟨G, Fz, _, _, _, R, e1, fun F' H' σ' g R' _ v rv _ => q v F' H' g R'.g ⟨R'.f, R'.nt⟩ rv⟩
  · cases e
theorem goO {N ps : List Str} {p0 : Str} {b : DS} {vs : List V} {H : Hp} {Q : VK} {E : XK} (hpl : (p0 :: ps).length ≤ N.length) (h : spO K mg ps.length (runO N.length b) vs H Q E) : tS K mg [0] b { nx := fun _ H' => Q .non H', rt := Q } (L2.start N vs) H := by
  obtain ⟨G, Fz, ds, y, a, ws, sv, y', rfl, eg, ef, hl, r, oy, ry, e, q⟩ := h
  have hlen := r.length
  unfold runO at e
  have R := rep_startO (N := N) eg ef r ry (by simp at hpl; omega) (by simp at hpl; omega)
  have a0 : (L2.start N (.ref a :: ws))[0]? = some (some (V.ref a)) := rfl
  split at e
  · rename_i o st1 e1
    split at e
    · rename_i x' hx'
      have fin : ∀ F' H' σ', Gr G Fz F' → Rep K mg G F' st1 σ' H' → Keeps [0] (L2.start N (.ref a :: ws)) σ' → RS K mg G F' H' x' (.ref a) ∧ σ'[0]? = some (some (V.ref a)) := fun F' H' σ' g R' kp => by
        have h0 := kp 0 (by simp)
        rw [a0] at h0
        obtain ⟨v, hv, rv⟩ := R'.at_ 0 _ hx'
        rw [h0] at hv
        cases hv
        exact ⟨rv, h0⟩
      split at e
      · rename_i ho
        split at e
        · cases e
          refine ⟨G, Fz, _, _, _, R, e1, fun F' H' σ' g R' kp => ?_⟩
          exact q .non F' H' g R'.g ⟨R'.f, R'.nt⟩ ho (fin F' H' σ' g R' kp).1 (.imm .non) (fun z => nomatch z)
        · cases e
          refine ⟨G, Fz, _, _, _, R, e1, fun F' H' σ' g R' kp => ?_⟩
          intro v rv sp
          refine q v F' H' g R'.g ⟨R'.f, R'.nt⟩ ho (fin F' H' σ' g R' kp).1 rv fun os z => ?_
          exact sp os 0 _ hx' ho (by rw [(fin F' H' σ' g R' kp).2, z])
        · cases e
      · cases e
    · cases e
  · cases e
theorem fn_o {x qual : Str} {st : Stmt} {f : Addr} {fd : FuncData} {N ps : List Str} {p0 : Str} {k : Nat} {b : DS} (F : Fun K x qual st f fd) (S : FnScope N (p0 :: ps) (defScope st))
    (hb : ∀ (cdv : Value) (A : Around) (outer : List Env) (s : Shared) (H : Hp) (E : XK), Room k (A.deeper (envOfC qual (defScope st) s.heap.objs.size f cdv)) → SSs (cxOf (L2.CX P w) P w K mg base N qual (defScope st) f cdv A outer s H E).nox [0] (defBody st) b) :
    FnOk P w K mg base (L2.CX P w) (k + 1) f fd (p0 :: ps) (spO K mg ps.length (runO N.length b)) := by
  have hpl : (p0 :: ps).length ≤ N.length := by have := congrArg List.length S.pre; rw [List.length_take] at this; omega
  exact F.okX S (fun vs H Q E h => spO_len vs H Q E h) (fun cdv A outer s H vs Q E hr h => ⟨_, (hb cdv A outer s H E hr).pss.nox, goO (p0 := p0) hpl h⟩)
end
end Sm
/-! Methods, keywords, static methods, isinstance, while. -/
namespace Sm
open PySem L2 Evl PyProof.Rows

/-! ### methods of instances that never change -/
def hasN (m : Str) : List Str → Bool
  | [] => false
  | n :: ns => decide (n = m) || hasN m ns
theorem hasN_lookup {m : Str} : ∀ {fs : List (Str × V)}, hasN m (fs.map (·.1)) = false → fs.lookup m = none
  | [], _ => rfl
  | (n, v) :: fs, h => by
    simp only [List.map_cons, hasN, Bool.or_eq_false_iff, decide_eq_false_iff_not] at h
    have hb : (m == n) = false := beq_eq_false_iff_ne.mpr fun e => h.1 e.symm
    simp only [List.lookup, hb]
    exact hasN_lookup h.2
def dMeth (c m : Str) (NN : Nat) (fn : List D → Option SV) (f : DE) (r : DA) : DE := fun st => match f st with
  | none => none
  | some (x, s1) => match x.frz with
    | .ins c' ns ds => if c' = c ∧ hasN m ns = false then (match r s1 with
      | none => none
      | some (xs, s2) => if xs.length + 1 = NN then (match fn (.ins c' ns ds :: xs) with
        | none => none
        | some z => some (z, s2)) else none) else none
    | _ => none
section
variable {X : Cx} {k : Nat} {fa C : Addr} {fd : FuncData} {ps : List Str} {fn : List D → Option SV} {fo : SV → List D → Option (SV × SV)} {c m x : Str} {p pos apos : Pos} {e o : Expr} {es : List Expr} {kws : List Keyword} {f : DE} {r r2 : DA} {NN : Nat}
theorem meth_of {σ : L2.St} {H : Hp} {Q : VK} {E : XK} (hc : X.mg c = some (.ref C)) (q : tD X.K X.mg (dMeth c m NN fn f r) σ H Q) : tMeth C m (spP X.K X.mg NN fn) [] E (tF X.K X.mg f) (tAD X.K X.mg r) σ H Q := by
  obtain ⟨G, F, st, sv, st', R, e, k⟩ := q
  unfold dMeth at e
  split at e
  · cases e
  rename_i x s1 e1
  split at e
  · rename_i c' ns ds hx
    split at e
    · rename_i hcc
      obtain ⟨rfl, hm⟩ := hcc
      split at e
      · cases e
      rename_i xs s2 e2
      split at e
      · rename_i hl
        split at e
        · cases e
        rename_i z e3
        cases e
        refine ⟨G, F, st, x, s1, R, e1, fun v F1 H1 g1 R1 r1 => ?_⟩
        rw [hx] at r1
        obtain ⟨a, C', dx, fs, rfl, hC, ha, hn, rr⟩ := id r1.ins_inv
        rw [hc] at hC
        cases hC
        refine ⟨a, dx, fs, rfl, R1.f _ _ ha, hasN_lookup (by rw [hn]; exact hm), G, F1, s1, xs, _, R1, e2, fun vs F2 H2 g2 R2 r2 => ?_⟩
        show spP X.K X.mg NN fn (.ref a :: (vs ++ [])) H2 Q E
        rw [List.append_nil]
        exact spP_of R2 (by rw [List.length_cons]; exact hl) (.cons (r1.mono g2.1) r2) e3 fun v F3 H3 g3 => k v F3 H3 ((g1.trans g2).trans g3)
      · cases e
    · cases e
  · cases e
theorem se_meth {pl : Sem Bool} (hc : X.mg c = some (.ref C)) (cl : Cls X.K C) (hm : Meth X.K C m fa) (F : FnOk X.prog X.w X.K X.mg X.base (L2.CX X.prog X.w) k fa fd ps (spP X.K X.mg NN fn)) (hr : Room k X.A) (hb : Binds X.K fd ps []) (ho : SE X o f) (ha : SA X (e :: es) r)
    (hst : starEach (e :: es) X.env = (false, eval e X.env) :: starEach es X.env := by rfl) (hpl : (backTo pos (starEach es X.env)).any (·.1) = false := by rfl)
    (ht : eval (.Call (.Attribute o m apos) (e :: es) [] pos) X.env = (do
      let ov ← eval o X.env
      standAt apos.atName
      let (f, first) ← holding [ov] (getMethod ov m pl)
      callWith pos f first (backTo pos (starEach (e :: es) X.env)) (backToKw pos (keywordEach [] X.env))) := by rfl) :
    SE X (.Call (.Attribute o m apos) (e :: es) [] pos) (dMeth c m NN fn f r) :=
  ⟨pe_imp (pe_meth ho.pf cl hm F hr hb .nil passL ha.pa hst hpl ht) fun σ H Q q => meth_of hc q⟩
theorem se_meth0 {pl : Sem Bool} (hc : X.mg c = some (.ref C)) (cl : Cls X.K C) (hm : Meth X.K C m fa) (F : FnOk X.prog X.w X.K X.mg X.base (L2.CX X.prog X.w) k fa fd ps (spP X.K X.mg NN fn)) (hr : Room k X.A) (hb : Binds X.K fd ps []) (ho : SE X o f)
    (ht : eval (.Call (.Attribute o m apos) [] [] pos) X.env = (do
      let ov ← eval o X.env
      standAt apos.atName
      let (f, first) ← holding [ov] (getMethod ov m pl)
      callWith pos f first (backTo pos (starEach [] X.env)) (backToKw pos (keywordEach [] X.env))) := by rfl) :
    SE X (.Call (.Attribute o m apos) [] [] pos) (dMeth c m NN fn f dNil) :=
  ⟨pe_imp (pe_meth0 ho.pf cl hm F hr hb .nil passL ht) fun σ H Q q => by
    have q := meth_of (E := E0) hc q
    obtain ⟨G, Fz, st, sv, st', R, e, k⟩ := q
    refine ⟨G, Fz, st, sv, st', R, e, fun v F' H' g R' r' => ?_⟩
    obtain ⟨a, dx, fs, ea, h1, h2, h3⟩ := k v F' H' g R' r'
    refine ⟨a, dx, fs, ea, h1, h2, ?_⟩
    obtain ⟨G1, F1, s1, ds1, s2, R1, e1, k1⟩ := h3
    cases e1
    exact k1 [] F1 H' (Gr.refl F1) R1 .nil⟩

/-! ### keywords -/
def pick {α : Type} (d : α) (perm : List Nat) (xs : List α) : List α := perm.map fun i => xs.getD i d
theorem getD_rd {K : PySem.W.Frag} {mg : Str → Option Value} {F : Hp} : ∀ {ds : List D} {vs : List V} (i : Nat), RDs K mg F ds vs → RD K mg F (ds.getD i .non) (vs.getD i .non)
  | _, _, _, .nil => by simpa using RD.non
  | _, _, 0, .cons h _ => by simpa using h
  | _, _, i + 1, .cons _ t => by simpa using getD_rd i t
theorem pick_rd {K : PySem.W.Frag} {mg : Str → Option Value} {F : Hp} {ds : List D} {vs : List V} (r : RDs K mg F ds vs) : ∀ perm : List Nat, RDs K mg F (pick .non perm ds) (pick .non perm vs)
  | [] => .nil
  | i :: is => .cons (getD_rd i r) (pick_rd r is)
theorem getD_vals : ∀ {vs : List V} {us : List Value} (i : Nat), Vals vs us → RelV (vs.getD i .non) (us.getD i .none)
  | _, _, _, .nil => rfl
  | _, _, 0, .cons h _ => by simpa using h
  | _, _, i + 1, .cons _ t => by simpa using getD_vals i t
theorem pick_vals {vs : List V} {us : List Value} (r : Vals vs us) : ∀ perm : List Nat, Vals (pick .non perm vs) (pick .none perm us)
  | [] => .nil
  | i :: is => .cons (getD_vals i r) (pick_vals r is)
/-- how n positional values and the keywords ks bind -/
def KB (K : PySem.W.Frag) (fd : FuncData) (ps ks : List Str) (n : Nat) (perm : List Nat) : Prop :=
  ∀ (s : Shared) (us ws : List Value), K.In s.heap → us.length = n → ws.length = ks.length → BindsTo s fd ⟨us, ks.zip ws⟩ (ps.zip (pick .none perm (us ++ ws)))
theorem run_kw {pins : List (Addr × Obj)} {σ : L2.St} {H : Hp} {s : Shared} {Q : VK} {us ws : List Value} {vs zs : List V} {ks : List Str} {n : Nat} {perm : List Nat} {sp : Sp} {E : XK} (hx : Passes (L2.CX X.prog X.w) X E) (F : FnOk X.prog X.w X.K X.mg X.base (L2.CX X.prog X.w) k fa fd ps sp) (hr : Room k X.A) (hb : KB X.K fd ps ks n perm) (hn : vs.length = n) (hk : zs.length = ks.length)
    (I : Inv X pins σ H s) (rv : Vals vs us) (rz : Vals zs ws) (h : sp (pick .non perm (vs ++ zs)) H Q E) : wpAny (model X.prog X.w) X.A (call (.ref fa) us (ks.zip ws)) (EP X pins σ Q) X.xe s := by
  refine wpAny_call (codeAny_mono (F.run X.A X.stack s H ⟨us, ks.zip ws⟩ (pick .none perm (us ++ ws)) (pick .non perm (vs ++ zs)) Q E hr I.env0 (hb s us ws I.kIn (by rw [← rv.length]; exact hn) (by rw [← rz.length]; exact hk)) (pick_vals (rv.append rz) perm) h) fun r s' hq => ?_)
  cases r with
  | error e => exact hx _ _ _ _ _ _ I hq
  | ok fl =>
    cases fl with
    | ret u => exact I.after hq
    | next => exact False.elim hq
    | brk => exact False.elim hq
    | cont => exact False.elim hq
structure SK (X : Cx) (kws : List Keyword) (d : DA) : Prop where
  pk : PK X kws (tAD X.K X.mg d)
theorem pk_imp {kws : List Keyword} {t t' : TA} (h : PK X kws t) (hi : ∀ σ H Q, t' σ H Q → t σ H Q) : PK X kws t' := ⟨fun pos pins s σ H Q I q => h.run pos pins s σ H Q I (hi σ H Q q)⟩
theorem sk_nil : SK X [] dNil := ⟨pk_imp pk_nil fun σ H Q q => by
  obtain ⟨G, F, st, ds, st', R, e, k⟩ := q
  cases e
  exact k [] F H (Gr.refl F) R .nil⟩
theorem sk_cons {nm : Option Str} {kpos : Pos} (ha : SE X e f) (hr : SK X kws r) : SK X (⟨nm, e, kpos⟩ :: kws) (dCons f r) := ⟨pk_imp (pk_cons ha.pf hr.pk) fun σ H Q q => by
  obtain ⟨G, F, st, ds, st', R, e, k⟩ := q
  unfold dCons at e
  split at e
  · cases e
  rename_i x s1 e1
  split at e
  · cases e
  rename_i xs s2 e2
  cases e
  exact ⟨G, F, st, x, s1, R, e1, fun v F1 H1 g1 R1 r1 => ⟨G, F1, s1, xs, _, R1, e2, fun vs F2 H2 g2 R2 r2 => k _ F2 H2 (g1.trans g2) R2 (.cons (r1.mono g2.1) r2)⟩⟩⟩
/-- f(.., k = v, ..) -/
def dCallK (n nk : Nat) (perm : List Nat) (NN : Nat) (fn : List D → Option SV) (r r2 : DA) : DE := fun st => match r st with
  | none => none
  | some (xs, s1) => match r2 s1 with
    | none => none
    | some (ys, s2) => if xs.length = n ∧ ys.length = nk ∧ perm.length = NN then (match fn (pick .non perm (xs ++ ys)) with
      | none => none
      | some z => some (z, s2)) else none
theorem dCallK_inv {n nk : Nat} {perm : List Nat} {st st' : S} {sv : SV} (e : dCallK n nk perm NN fn r r2 st = some (sv, st')) : ∃ xs s1 ys, r st = some (xs, s1) ∧ r2 s1 = some (ys, st') ∧ xs.length = n ∧ ys.length = nk ∧ perm.length = NN ∧ fn (pick .non perm (xs ++ ys)) = some sv := by
  unfold dCallK at e
  split at e
  · cases e
  rename_i xs s1 e1
  split at e
  · cases e
  rename_i ys s2 e2
  split at e
  · rename_i hl
    split at e
    · cases e
    rename_i z e3
    cases e
    exact ⟨xs, s1, ys, e1, e2, hl.1, hl.2.1, hl.2.2, e3⟩
  · cases e
theorem se_callK {ks : List Str} {n nk : Nat} {perm : List Nat} (F : FnOk X.prog X.w X.K X.mg X.base (L2.CX X.prog X.w) k fa fd ps (spP X.K X.mg NN fn)) (hr : Room k X.A) (hg : Gl X x) (hm : X.mg x = some (.ref fa)) (hk : PySem.W.keepIn X.K (.ref fa) = true) (hb : KB X.K fd ps ks n perm)
    (ha : SA X (e :: es) r) (hkw : SK X kws r2) (hnk : ks.length = nk := by rfl) (hall : (backToKw pos (keywordEach kws X.env)).all (·.1.isSome) = true := by rfl) (hks : (backToKw pos (keywordEach kws X.env)).filterMap (·.1) = ks := by rfl)
    (hdb : (x == ("__debug__" : Str)) = false := by decide) (he : starEach (e :: es) X.env = (false, eval e X.env) :: starEach es X.env := by rfl)
    (hpl : ((backTo pos (starEach (e :: es) X.env)).any (·.1) || (backToKw pos (keywordEach kws X.env)).any (·.1.isNone)) = false := by rfl) :
    SE X (.Call (.Name x p) (e :: es) kws pos) (dCallK n nk perm NN fn r r2) := by
  subst hnk
  refine ⟨⟨fun pins s σ H Q I h => ?_⟩⟩
  obtain ⟨G, Fz, st, sv, st', R, e, kk⟩ := h
  obtain ⟨xs, s1, ys, e1, e2, hl1, hl2, hl3, e3⟩ := dCallK_inv e
  refine wpAny_Call_Name_kw (ld_glob I hg hm ?_ hdb)
  refine PySem.W.callWith_KW (h₀ := X.base) I.ok.mod.kin hk hall (thn (ha.pa.run pos pins s σ H (fun vs H1 => ∃ F1, Gr G Fz F1 ∧ Rep X.K X.mg G F1 s1 σ H1 ∧ RDs X.K X.mg F1 xs vs) I ⟨G, Fz, st, xs, s1, R, e1, fun vs F1 H1 g1 R1 r1 => ⟨F1, g1, R1, r1⟩⟩) fun us t1 ⟨vs, H1, I1, rv, F1, g1, R1, r1⟩ => ?_) hpl he
  refine thn (hkw.pk.run pos pins t1 σ H1 (fun zs H2 => ∃ F2, Gr G F1 F2 ∧ Rep X.K X.mg G F2 st' σ H2 ∧ RDs X.K X.mg F2 ys zs) I1 ⟨G, F1, s1, ys, st', R1, e2, fun zs F2 H2 g2 R2 r2 => ⟨F2, g2, R2, r2⟩⟩) fun ws t2 ⟨zs, H2, I2, rz, F2, g2, R2, r2⟩ => ⟨I2.kIn, ?_⟩
  rw [hks]
  refine run_kw (E := E0) passL F hr hb (by rw [← r1.length]; exact hl1) (by rw [← r2.length]; exact hl2) I2 rv rz ?_
  exact spP_of R2 (by unfold pick; rw [List.length_map]; exact hl3) (pick_rd ((r1.mono g2.1).append r2) perm) e3 fun v F3 H3 g3 => kk v F3 H3 ((g1.trans g2).trans g3)
theorem se_callK0 {ks : List Str} {nk : Nat} {perm : List Nat} (F : FnOk X.prog X.w X.K X.mg X.base (L2.CX X.prog X.w) k fa fd ps (spP X.K X.mg NN fn)) (hr : Room k X.A) (hg : Gl X x) (hm : X.mg x = some (.ref fa)) (hk : PySem.W.keepIn X.K (.ref fa) = true) (hb : KB X.K fd ps ks 0 perm)
    (hkw : SK X kws r2) (hnk : ks.length = nk := by rfl) (hall : (backToKw pos (keywordEach kws X.env)).all (·.1.isSome) = true := by rfl) (hks : (backToKw pos (keywordEach kws X.env)).filterMap (·.1) = ks := by rfl)
    (hdb : (x == ("__debug__" : Str)) = false := by decide)
    (hpl : ((backTo pos (starEach [] X.env)).any (·.1) || (backToKw pos (keywordEach kws X.env)).any (·.1.isNone)) = false := by rfl) :
    SE X (.Call (.Name x p) [] kws pos) (dCallK 0 nk perm NN fn dNil r2) := by
  subst hnk
  refine ⟨⟨fun pins s σ H Q I h => ?_⟩⟩
  obtain ⟨G, Fz, st, sv, st', R, e, kk⟩ := h
  obtain ⟨xs, s1, ys, e1, e2, hl1, hl2, hl3, e3⟩ := dCallK_inv e
  cases e1
  refine wpAny_Call_Name_kw (ld_glob I hg hm ?_ hdb)
  refine PySem.W.callWith_KW0 (h₀ := X.base) I.ok.mod.kin hk hall ?_ hpl
  refine thn (hkw.pk.run pos pins s σ H (fun zs H2 => ∃ F2, Gr G Fz F2 ∧ Rep X.K X.mg G F2 st' σ H2 ∧ RDs X.K X.mg F2 ys zs) I ⟨G, Fz, _, ys, st', R, e2, fun zs F2 H2 g2 R2 r2 => ⟨F2, g2, R2, r2⟩⟩) fun ws t2 ⟨zs, H2, I2, rz, F2, g2, R2, r2⟩ => ⟨I2.kIn, ?_⟩
  rw [hks]
  refine run_kw (us := []) (vs := []) (E := E0) passL F hr hb rfl (by rw [← r2.length]; exact hl2) I2 .nil rz ?_
  exact spP_of R2 (by unfold pick; rw [List.length_map]; exact hl3) (pick_rd (RDs.append .nil r2) perm) e3 fun v F3 H3 g3 => kk v F3 H3 (g2.trans g3)
/-- o.m(k = v, ..) -/
def dMethK (c m : Str) (nk : Nat) (perm : List Nat) (NN : Nat) (fn : List D → Option SV) (f : DE) (r2 : DA) : DE := fun st => match f st with
  | none => none
  | some (x, s1) => match x.frz with
    | .ins c' ns ds => if c' = c ∧ hasN m ns = false then (match r2 s1 with
      | none => none
      | some (ys, s2) => if ys.length = nk ∧ perm.length = NN then (match fn (pick .non perm (.ins c' ns ds :: ys)) with
        | none => none
        | some z => some (z, s2)) else none) else none
    | _ => none
theorem se_methK {pl : Sem Bool} {ks : List Str} {nk : Nat} {perm : List Nat} (hc : X.mg c = some (.ref C)) (cl : Cls X.K C) (hm : Meth X.K C m fa) (F : FnOk X.prog X.w X.K X.mg X.base (L2.CX X.prog X.w) k fa fd ps (spP X.K X.mg NN fn)) (hr : Room k X.A) (hb : KB X.K fd ps ks 1 perm) (ho : SE X o f) (hkw : SK X kws r2) (hnk : ks.length = nk := by rfl)
    (hall : (backToKw pos (keywordEach kws X.env)).all (·.1.isSome) = true := by rfl) (hks : (backToKw pos (keywordEach kws X.env)).filterMap (·.1) = ks := by rfl)
    (hpl : ((backTo pos (starEach [] X.env)).any (·.1) || (backToKw pos (keywordEach kws X.env)).any (·.1.isNone)) = false := by rfl)
    (ht : eval (.Call (.Attribute o m apos) [] kws pos) X.env = (do
      let ov ← eval o X.env
      standAt apos.atName
      let (f, first) ← holding [ov] (getMethod ov m pl)
      callWith pos f first (backTo pos (starEach [] X.env)) (backToKw pos (keywordEach kws X.env))) := by rfl) :
    SE X (.Call (.Attribute o m apos) [] kws pos) (dMethK c m nk perm NN fn f r2) := by
  subst hnk
  refine ⟨⟨fun pins s σ H Q I h => ?_⟩⟩
  obtain ⟨G, Fz, st, sv, st', R, e, kk⟩ := h
  unfold dMethK at e
  split at e
  · cases e
  rename_i y s1 e1
  split at e
  · rename_i c' ns ds hx
    split at e
    · rename_i hcc
      obtain ⟨rfl, hmn⟩ := hcc
      split at e
      · cases e
      rename_i ys s2 e2
      split at e
      · rename_i hl
        split at e
        · cases e
        rename_i z e3
        cases e
        refine PySem.W.methodCall_KW (pl := pl) (thn (ho.pf.run pins s σ H (fun v H1 => ∃ F1, Gr G Fz F1 ∧ Rep X.K X.mg G F1 s1 σ H1 ∧ RD X.K X.mg F1 y.frz v) I ⟨G, Fz, st, y, s1, R, e1, fun v F1 H1 g1 R1 r1 => ⟨F1, g1, R1, r1⟩⟩) fun u t1 ⟨v, H1, I1, rv, F1, g1, R1, r1⟩ => ?_) ht
        rw [hx] at r1
        obtain ⟨a, C', dx, fs, rfl, hC, ha, hn, rr⟩ := id r1.ins_inv
        rw [hc] at hC
        cases hC
        obtain rfl : u = Value.ref a := rv
        refine getmeth_ok I1 (R1.f _ _ ha) cl hm (hasN_lookup (by rw [hn]; exact hmn)) ?_
        refine PySem.W.callWith_KW0 (first := [.ref a]) (h₀ := X.base) I.ok.mod.kin hm.kp hall ?_ hpl
        refine thn (hkw.pk.run pos pins t1 σ H1 (fun zs H2 => ∃ F2, Gr G F1 F2 ∧ Rep X.K X.mg G F2 st' σ H2 ∧ RDs X.K X.mg F2 ys zs) I1 ⟨G, F1, s1, ys, _, R1, e2, fun zs F2 H2 g2 R2 r2 => ⟨F2, g2, R2, r2⟩⟩) fun ws t2 ⟨zs, H2, I2, rz, F2, g2, R2, r2⟩ => ⟨I2.kIn, ?_⟩
        rw [hks]
        refine run_kw (us := [.ref a]) (vs := [.ref a]) (E := E0) passL F hr hb rfl (by rw [← r2.length]; exact hl.1) I2 (.cons rfl .nil) rz ?_
        exact spP_of R2 (by unfold pick; rw [List.length_map]; exact hl.2) (pick_rd (RDs.append (.cons (r1.mono g2.1) .nil) r2) perm) e3 fun v F3 H3 g3 => kk v F3 H3 ((g1.trans g2).trans g3)
      · cases e
    · cases e
  · cases e

/-! ### static methods: C.m(..) -/
structure Stat (K : PySem.W.Frag) (C : Addr) (m : Str) (f : Addr) : Prop where
  rd : ∃ mc p rest, PySem.W.readsIn K C mc = true ∧ PySem.W.findCls K (.ref C) mc m = some (.get (.builtin "staticmethod.__get__") (.ref p) .none (.ref C)) ∧ PySem.W.recIn K p "staticmethod" = some (.ref f :: rest)
  ga : PySem.W.specialIn K (.ref C) "__getattribute__" = some (some (.builtin "type.__getattribute__"))
  kp : PySem.W.keepIn K (.ref f) = true
theorem se_stat {pl : Sem Bool} {pc : Pos} (hgc : Gl X c) (hc : X.mg c = some (.ref C)) (S : Stat X.K C m fa) (F : FnOk X.prog X.w X.K X.mg X.base (L2.CX X.prog X.w) k fa fd ps (spP X.K X.mg NN fn)) (hr : Room k X.A) (hb : Binds X.K fd ps []) (ha : SA X (e :: es) r)
    (hdb : (c == ("__debug__" : Str)) = false := by decide)
    (hst : starEach (e :: es) X.env = (false, eval e X.env) :: starEach es X.env := by rfl) (hpl : (backTo pos (starEach es X.env)).any (·.1) = false := by rfl)
    (ht : eval (.Call (.Attribute (.Name c pc) m apos) (e :: es) [] pos) X.env = (do
      let ov ← eval (.Name c pc) X.env
      standAt apos.atName
      let (f, first) ← holding [ov] (getMethod ov m pl)
      callWith pos f first (backTo pos (starEach (e :: es) X.env)) (backToKw pos (keywordEach [] X.env))) := by rfl) :
    SE X (.Call (.Attribute (.Name c pc) m apos) (e :: es) [] pos) (dCallP NN fn r) := by
  refine ⟨⟨fun pins s σ H Q I h => ?_⟩⟩
  obtain ⟨G, Fz, st, sv, st', R, e, kk⟩ := h
  unfold dCallP at e
  split at e
  · cases e
  rename_i xs s1 e1
  split at e
  · rename_i hl
    split at e
    · cases e
    rename_i z e2
    cases e
    refine PySem.W.methodCall_KW (pl := pl) (ld_glob I hgc hc ?_ hdb) ht
    obtain ⟨mc, p, rest, h1, h2, h3⟩ := S.rd
    refine PySem.W.method_cls I.kIn S.ga (PySem.W.cls_bind I.kIn h1 h2 (wpAny_call (PySem.W.sm_get (s := { s with toks := s.toks + 1 }) I.kIn h3 (PySem.W.handed_on rfl ?_))))
    refine PySem.W.callWith_K (first := []) (h₀ := X.base) I.ok.mod.kin S.kp (thn (ha.pa.run pos pins { s with toks := s.toks + 1 } σ H (fun vs H1 => ∃ F1, Gr G Fz F1 ∧ Rep X.K X.mg G F1 st' σ H1 ∧ RDs X.K X.mg F1 xs vs) (I.tok _) ⟨G, Fz, st, xs, _, R, e1, fun vs F1 H1 g1 R1 r1 => ⟨F1, g1, R1, r1⟩⟩) fun us t1 ⟨vs, H1, I1, rv, F1, g1, R1, r1⟩ => ⟨I1.kIn, ?_⟩) hst hpl
    refine run_fn (E := E0) F hr hb .nil passL I1 rv ?_
    rw [List.append_nil]
    exact spP_of R1 hl r1 e2 fun v F2 H2 g2 => kk v F2 H2 (g1.trans g2)
  · cases e
end
end Sm
/-! enumerate of a tuple. -/
namespace PySem
open Sem (wp)
open AutoSeq1 (wpAny_loadPart')
set_option maxHeartbeats 1000000 in
theorem sm_enumerate_newB {v : Value} {o : Obj} {H : Heap → Prop} (B : Begins v o H) :
    Meets (Builtin.«enumerate.__new__» ⟨[.type "enumerate", v], []⟩) (fun _ R s => H s.heap ∧
      R (.ok (.ret (.ref (s.heap.push o).objs.size))) { s with heap := (s.heap.push o).push { cls := .type "enumerate", data := .fields #[.none, .bool false, .ref s.heap.objs.size, rawInt 0, .none, .none] } }) :=
  .of_wp fun prog w A R s h => by
    obtain ⟨hp, g, d, tk, os⟩ := s; obtain ⟨h1, h⟩ := h
    have hsub := sub_enumerate
    have q1 : ∀ {A' : Around} {E : Value → Shared → Prop} {Q : Value → Shared → Prop}, Q (.ref hp.objs.size) ⟨hp.push o, g, d, tk, os⟩ → wpAny (model prog w) A' (pyIter v) Q E ⟨hp, g, d, tk, os⟩ :=
      fun q => B.iter prog w _ _ ⟨hp, g, d, tk, os⟩ _ h1 q
    wp_walk using q1
    refine wpAny_stack_any fun st => wpAny_pure ?_
    split
    · rename_i c _ _ _ _ _
      cases (c == Value.type "enumerate")
      · wp_walk using q1
        exact ⟨_, rfl, h⟩
      · wp_walk using q1
        exact ⟨_, rfl, h⟩
    · wp_walk using q1
      exact ⟨_, rfl, h⟩
section
variable {prog : Program} {w : World} {A : Around} {E : Value → Shared → Prop} {s : Shared}
theorem sm_call_enumerate {v : Value} {o : Obj} {H : Heap → Prop} {Q : Value → Shared → Prop} (B : Begins v o H) (h1 : H s.heap)
    (h : ∀ h', IsEnum h' (s.heap.objs.size + 1) s.heap.objs.size 0 .none → h'.get? s.heap.objs.size = some o → h'.objs.size = s.heap.objs.size + 2 →
      (∀ b o, s.heap.get? b = some o → h'.get? b = some o) → Q (.ref (s.heap.objs.size + 1)) { s with heap := h' }) :
    wpAny (model prog w) A (call (.type "enumerate") [v]) Q E s := by
  refine callType_new F.called_enumerate (by decide) (F.typeCall_enumerate_1 _) (F.newCall_enumerate_1 _) (fun obj => F.args_object_init_2 obj _) F.entry_enumerate_new
    (sm_enumerate_newB B) ⟨h1, ?_⟩
  have hz : (s.heap.push o).objs.size = s.heap.objs.size + 1 := Heap.size_push ..
  show _ ∧ _
  rw [hz]
  have he : IsEnum ((s.heap.push o).push { cls := .type "enumerate", data := .fields #[.none, .bool false, .ref s.heap.objs.size, rawInt 0, .none, .none] }) (s.heap.objs.size + 1) s.heap.objs.size 0 .none := by
    have := Heap.get?_push_size (s.heap.push o) (o := { cls := .type "enumerate", data := .fields #[.none, .bool false, .ref s.heap.objs.size, rawInt 0, .none, .none] }) rfl
    rw [hz] at this; exact this
  exact ⟨⟨_, he, rfl⟩, h _ he (Heap.get?_push_of_some _ (Heap.get?_push_size _ B.free)) (by rw [Heap.size_push, hz]) fun b o x => Heap.get?_push_of_some _ (Heap.get?_push_of_some _ x)⟩
end
end PySem
namespace Sm
open PySem L2 Evl PyProof.Rows
/-- the tuple at a, each item in a new pair -/
def ItE (K : PySem.W.Frag) (a : Addr) : It :=
  ⟨fun i H => ∃ (xs : List V) (x : V), SqT K H a xs ∧ xs[i]? = some x, fun i H v H' => ∃ T x, v = .ref T ∧ H T = none ∧ H' = upd H T (.tup [.int (i : Nat), x]) ∧ ∀ xs, SqT K H a xs → xs[i]? = some x, fun i H => ∃ xs : List V, SqT K H a xs ∧ xs.length ≤ i⟩
theorem tup_inj {X : Cx} {pins : List (Addr × Obj)} {σ : L2.St} {H : Hp} {s : Shared} {a : Addr} {xs ys : List V} (I : Inv X pins σ H s) (h : SqT X.K H a xs) (h2 : SqT X.K H a ys) : xs = ys := by
  obtain ⟨its, rv, ⟨o, ho, _, n, hd⟩, _⟩ := I.tuple h
  obtain ⟨its2, rv2, ⟨o2, ho2, _, n2, hd2⟩, _⟩ := I.tuple h2
  rw [ho] at ho2; cases ho2
  rw [hd] at hd2
  injection hd2 with d1 _
  have : its = its2 := by simpa using congrArg Array.toList d1
  subst this
  exact rv.inj rv2
theorem sm_enum_endT {prog : Program} {w : World} {A : Around} {E : Value → Shared → Prop} {s : Shared} {e it l : Addr} {i : Nat} {items : Array Value} {old : Value} {Q : Option Value → Shared → Prop} (hh : A.handled = none)
    (he : IsEnum s.heap e it i old) (hit : s.heap.IsTupleIter it l i) (hl : s.heap.IsTuple l items) (hx : items[i]? = none)
    (hQ : ∀ h', Heap.ExtBut it s.heap h' → Q none { s with heap := h' }) : wpAny (model prog w) A (pyNext (.ref e)) Q E s := by
  have hT : s.TypeIs (.ref e) "enumerate" := ⟨_, he, rfl⟩
  unfold pyNext
  refine wpAny_bind (wpAny_attempt (wpAny_callSpecial?_slot (name := Str.ofString "__next__") hT PySem.F.slot_enumerate_next
    (wpAny_call_entry PySem.F.slot_enumerate_next hT PySem.F.entry_enumerate_next ?_ (PySem.F.args_enumerate_next_1 _))))
  show wpAny _ _ (field (.ref e) 2 >>= _) _ _ _
  refine wpAny_bind (wpAny_field he rfl (x := .ref it) rfl ?_)
  refine wpAny_bind (wpAny_nextOf_tuple_end hh hit hl hx fun h' x he' hx' => ?_)
  obtain ⟨o, ho, hc⟩ := hx'
  refine wpAny_bind (wpAny_isInstance (T := "StopIteration") (b := true) ⟨o, ho, hc⟩ isSubtype_stop ?_)
  exact wpAny_pure (hQ _ he')
theorem turn_enumT {P : Program} {w : World} {K : PySem.W.Frag} {elts : List Expr} {kk : Nat} {tpos : Pos} (a e it : Addr) :
    Turn P w K (.Tuple elts kk tpos) (ItE K a) [e, it] e (fun i h => (∃ old, IsEnum h e it ((i : Nat) : Int) old) ∧ h.IsTupleIter it a i ∧ e ≠ it ∧ a ≠ it ∧ a ≠ e) where
  mem := by simp
  obj := fun i h st b hb => by
    obtain ⟨⟨old, he⟩, ⟨o, ho, hc, hd⟩, _⟩ := st
    have e' : b = e ∨ b = it := by simpa using hb
    rcases e' with z | z
    · rw [z]; exact ⟨_, he, fun v q => nomatch q⟩
    · rw [z]; exact ⟨o, ho, fun v q => by rw [hd] at q; cases q⟩
  keep := fun i h h' st k => let ⟨⟨old, he⟩, hi, hne⟩ := st; ⟨⟨old, k e (by simp) _ he⟩, hi.at fun o q => k it (by simp) o q, hne⟩
  item := by
    intro X hP hw hK hc i pins s σ H E I hf st hg
    subst hP hw hK
    obtain ⟨⟨old, he⟩, hit, hne, hai, hae⟩ := st
    obtain ⟨xs, x, hq, hx⟩ := hg
    obtain ⟨its, rv, p, hz⟩ := I.tuple hq
    obtain ⟨u, hu, ru⟩ := rv.get hx
    have hel : e < s.heap.objs.size := Heap.lt_size he
    have hil : it < s.heap.objs.size := by obtain ⟨_, q, _⟩ := hit; exact Heap.lt_size q
    have hsz0 : i < its.toArray.size := by
      have := (List.getElem?_eq_some_iff.mp hu).1
      simpa using this
    have pT : s.heap.IsTuple a its.toArray := p
    refine wpAny_pyNext_enum_itemC (Draws.tuple (A := X.A.in1) (I.ok.hd hc) it a hai its.toArray) he ⟨hit, pT⟩ hsz0 hne (by simp [hne]; exact fun z => hae z.symm) fun x0 h' tk hP ho hst' hT hsz hk => ?_
    have hx0 : x0 = u := by
      have : its.toArray[i]? = some u := by simpa using hu
      rw [this] at hP
      cases hP
      rfl
    subst hx0
    refine ⟨_, rfl, wpAny_letOwnedTupleGo_enum (s := { s with heap := h', toks := tk + 1 }) ho fun h'' he' sb => ?_⟩
    have hT2 : h''.get? s.heap.objs.size = some { cls := .type "tuple", data := .seq #[.int i tk, x0] } := (sb.2 _ (Nat.ne_of_gt hel)).trans hT
    have new : ObjOk X.prog X.w (upd H s.heap.objs.size (.tup [.int (i : Nat), x])) h'' s.heap.objs.size (.tup [.int (i : Nat), x]) :=
      ⟨by show 2 ≤ sizeLine; decide, [.int i tk, x0], .cons ⟨_, rfl⟩ (.cons ru .nil), ⟨_, hT2, rfl, _, rfl⟩⟩
    have I1 : Inv X pins σ (upd H s.heap.objs.size (.tup [.int (i : Nat), x])) { s with heap := h'', toks := tk + 1 } :=
      I.turnedNew (ch := [e, it]) (fun b ob hb q => (sb.2 b (fun z => hb (by simp [z]))).trans (hk b ob (fun z => hb (by simp [z])) (fun z => hb (by simp [z])) q)) hf (Nat.le_refl _) new
    refine ⟨.ref s.heap.objs.size, _, I1, rfl, ⟨_, x, rfl, I.hok.fresh (Nat.le_refl _), rfl, fun ys hy => by rw [tup_inj I hy hq]; exact hx⟩, ⟨⟨x0, ?_⟩, hst'.1.at fun o q => (sb.2 it (Ne.symm hne)).trans q, hne, hai, hae⟩, fun b hb => ?_⟩
    · have e1 : ((i + 1 : Nat) : Int) = (i : Int) + 1 := by omega
      rw [e1]; exact he'
    · have hb' : b < s.heap.objs.size := by
        have e' : b = e ∨ b = it := by simpa using hb
        rcases e' with z | z
        · rw [z]; exact hel
        · rw [z]; exact hil
      rw [upd_ne (Nat.ne_of_lt hb')]
      exact (hf b hb).1
  done := by
    intro X hP hw hK hc i pins s σ H E I hf st hg
    subst hP hw hK
    obtain ⟨⟨old, he⟩, hit, hne, hai, hae⟩ := st
    obtain ⟨xs, hq, hx⟩ := hg
    obtain ⟨its, rv, p, hz⟩ := I.tuple hq
    obtain ⟨f0, f1, f2, f3, f4, f5⟩ := hf it (by simp)
    have hl := rv.length
    exact sm_enum_endT (I.ok.hd hc) he hit p (by simp; omega) fun h' eb => ⟨rfl, I.turned (t' := s.toks) (fun b o hb q => eb b o hb q) f0 f1 f3 f4 f5⟩
  self := fun A i s Q E st h => let ⟨⟨_, he⟩, _⟩ := st; wpAny_pyIter_enum he h
def iEnT (K : PySem.W.Frag) (ta : TA) : TI := fun σ H R => ta σ H fun vs H1 => ∃ a xs, vs = [.ref a] ∧ SqT K H1 a xs ∧ R (ItE K a) H1
theorem pi_enumT {X : Cx} {e : Expr} {ta : TA} {p pos tpos : Pos} {elts : List Expr} {kk : Nat} (hg : Gl X "enumerate") (hm : X.mg "enumerate" = none) (ha : PA X [e] ta) (hs : starEach [e] X.env = [(false, eval e X.env)] := by rfl) :
    PI X (.Tuple elts kk tpos) (.Call (.Name "enumerate" p) [e] [] pos) (iEnT X.K ta) := by
  refine ⟨fun pins s σ H R I h => ?_⟩
  refine Call_ (ld_blt I hg hm boot_enumerate (PyProof.Rows.callWith_type1 (thn (ha.run pos pins s σ H _ I h) fun us s1 ⟨vs, H1, I1, r1, q1⟩ => ?_) hs rfl))
  obtain ⟨a, xs, ex, hq, q⟩ := q1
  subst ex
  cases r1 with
  | cons r rr =>
    cases rr
    cases r
    obtain ⟨its, rv, p', hz⟩ := I1.tuple hq
    have pT : s1.heap.IsTuple a its.toArray := p'
    have ha : a < s1.heap.objs.size := by obtain ⟨_, e, _⟩ := pT; exact Heap.lt_size e
    refine sm_call_enumerate (begins_tuple a its.toArray) pT fun h' he hit hsz hk => wpAny_pyIter_enum he ?_
    have I2 : Inv X pins σ H1 { s1 with heap := h' } := I1.kept (t' := s1.toks) hk
    refine ⟨s1.heap.objs.size + 1, [s1.heap.objs.size + 1, s1.heap.objs.size], _, _, H1, rfl, I2, turn_enumT a (s1.heap.objs.size + 1) s1.heap.objs.size, ⟨⟨.none, he⟩, ⟨_, hit, rfl, rfl⟩, Nat.succ_ne_self _, Nat.ne_of_lt ha, Nat.ne_of_lt (Nat.lt_succ_of_lt ha)⟩, fun b hb => ?_, q⟩
    have e' : b = s1.heap.objs.size + 1 ∨ b = s1.heap.objs.size := by simpa using hb
    have hle : s1.heap.objs.size ≤ b := by
      rcases e' with z | z
      · rw [z]; exact Nat.le_add_right _ _
      · rw [z]; exact Nat.le_refl _
    exact I1.fpOk hle (I1.hok.fresh hle)
theorem walk_enumT {K : PySem.W.Frag} {mg : Str → Option Value} {F : Hp} {a : Addr} {ds : List D} {vs : List V} (h : SqT K F a vs) (r : RDs K mg F ds vs) : Walk K mg (ItE K a) F (enumD ds) where
  go := fun i H e hi => by
    have hi : i < ds.length := by simpa [enumD] using hi
    obtain ⟨v, hv, _⟩ := r.get (List.getElem?_eq_getElem hi)
    exact ⟨vs, v, ex_t e h, hv⟩
  stop := fun i H e hi => ⟨vs, ex_t e h, by rw [← r.length]; simpa [enumD] using hi⟩
  yld := fun {i H x H' d G F' st σ} y hd R e => by
    obtain ⟨T, v, rfl, nT, rfl, y⟩ := y
    simp only [enumD, List.getElem?_mapIdx, Option.map_eq_some_iff] at hd
    obtain ⟨d0, hd, rfl⟩ := hd
    obtain ⟨w, hw, rw'⟩ := r.get hd
    have := y vs (ex_t (e.trans R.f) h)
    rw [hw] at this
    cases this
    exact pair_laid R nT (.int _) (rw'.mono e)
section
variable {X : Cx} {P : List Nat} {tg e c : Expr} {f : DE} {r : DA} {p pos tpos : Pos} {elts : List Expr} {kk : Nat}
/-- enumerate(e), e a list or a tuple -/
def dEnum (r : DA) : DI := fun st => match r st with
  | some ([.lst xs], s1) => some (enumD xs, s1)
  | some ([.tup xs], s1) => some (enumD xs, s1)
  | _ => none
theorem si_enum (hg : Gl X "enumerate") (hm : X.mg "enumerate" = none) (ha : SA X [e] r) (hs : starEach [e] X.env = [(false, eval e X.env)] := by rfl) : SI X (.Tuple elts kk tpos) (.Call (.Name "enumerate" p) [e] [] pos) (dEnum r) := ⟨pi_imp (pi_or (pi_enum hg hm ha.pa hs) (pi_enumT hg hm ha.pa hs)) fun σ H R q => by
  obtain ⟨G, F, st, ds, st', Rp, e, k⟩ := q
  unfold dEnum at e
  split at e
  · rename_i xs s1 e1
    cases e
    refine .inl ⟨G, F, st, _, _, Rp, e1, fun vs F1 H1 g1 R1 r1 => ?_⟩
    obtain ⟨v, rfl, h⟩ := r1.one
    obtain ⟨p, us, rfl, hp, rr⟩ := h.lst_inv
    exact ⟨p, us, rfl, .inl (.inl (R1.f _ _ hp)), k _ F1 H1 g1 R1 (walk_enum hp rr)⟩
  · rename_i xs s1 e1
    cases e
    refine .inr ⟨G, F, st, _, _, Rp, e1, fun vs F1 H1 g1 R1 r1 => ?_⟩
    obtain ⟨v, rfl, h⟩ := r1.one
    obtain ⟨p, us, rfl, hp, rr⟩ := h.tup_inv
    exact ⟨p, us, rfl, ex_t R1.f hp, k _ F1 H1 g1 R1 (walk_enumT hp rr)⟩
  · cases e⟩

/-! ### isinstance -/
def tyN : D → Option String
  | .non => some "NoneType"
  | .bl _ => some "bool"
  | .int _ => some "int"
  | .str _ => some "str"
  | .tup _ => some "tuple"
  | .lst _ => some "list"
  | .scr _ => some "list"
  | .dK _ _ => some "dict"
  | .dT _ _ => some "dict"
  | _ => none
theorem tyx {K : PySem.W.Frag} {mg : Str → Option Value} {F H : Hp} {d : D} {v : V} {n : String} (r : RD K mg F d v) (e : Ex F H) (h : tyN d = some n) : TyX K H v (.type n) := by
  cases r with
  | non => cases h; exact .base .non
  | bl b => cases h; exact .base (.bl b)
  | int i => cases h; exact .base (.int i)
  | str x => cases h; exact .base (.str x)
  | ty n => cases h
  | cls _ => cases h
  | ins _ _ _ _ => cases h
  | exc _ _ _ _ _ => cases h
  | dK s _ _ => cases h; exact .base (.dK (e _ _ s))
  | dT s _ _ => cases h; exact .base (.dT (e _ _ s))
  | tup s r => cases h; exact .base (.tup (e _ _ s))
  | ktup s r =>
    cases h
    obtain ⟨o, its, n, h1, h2, _⟩ := s
    exact .kTuple h1 h2
  | lst s r => cases h; exact .base (.lst (e _ _ s))
  | scr s =>
    cases h
    rcases s with s | ⟨o, its, n, h1, h2, _⟩
    · rcases s with s | ⟨o, s⟩
      · exact .base (.lst (e _ _ s))
      · exact .base (.frz (e _ _ s))
    · exact .kList h1 h2
/-- the names of built-in types -/
def tyNames : List D → Option (List String)
  | [] => some []
  | .ty n :: r => (tyNames r).map (n :: ·)
  | _ => none
def kitAnyB (a : String) : List String → Option Bool
  | [] => some false
  | b :: bs => match kitB a b with
    | some true => some true
    | some false => kitAnyB a bs
    | none => none
theorem kitAnyB_K {K : PySem.W.Frag} {a : String} : ∀ {bs : List String} {r : Bool}, kitAnyB a bs = some r → PySem.W.kitAny K (.type a) (bs.map Value.type) = some r
  | [], r, h => by cases h; rfl
  | b :: bs, r, h => by
    unfold kitAnyB at h
    split at h
    · rename_i e; cases h; exact kitAny_cons (kit_ty e) (fun z => by cases z) fun _ => rfl
    · rename_i e; exact kitAny_cons (kit_ty e) (fun _ => kitAnyB_K h) fun z => by cases z
    · cases h
def cIsi (c : Str) : List D → Option SV
  | [x, .ty b] => match tyN x with
    | some a => (kitB a b).map fun r => .imm (.bl r)
    | none => none
  | [x, .tup ts] => match tyN x, tyNames ts with
    | some a, some bs => (kitAnyB a bs).map fun r => .imm (.bl r)
    | _, _ => none
  | [.ins c1 _ _, .cls c2] => if c1 = c ∧ c2 = c then some (.imm (.bl true)) else none
  | _ => none
theorem tyNames_rd {K : PySem.W.Frag} {mg : Str → Option Value} {F : Hp} : ∀ {ts : List D} {bs : List String} {vs : List V}, tyNames ts = some bs → RDs K mg F ts vs → Paired ClsV vs (bs.map Value.type)
  | [], _, _, h, .nil => by cases h; exact .nil
  | .ty n :: r, bs, _, h, .cons q t => by
    unfold tyNames at h
    cases e : tyNames r with
    | none => rw [e] at h; cases h
    | some cs => rw [e] at h; cases h; cases q; exact .cons (.ty n) (tyNames_rd e t)
  | .non :: r, _, _, h, _ => by cases h
  | .bl _ :: r, _, _, h, _ => by cases h
  | .int _ :: r, _, _, h, _ => by cases h
  | .str _ :: r, _, _, h, _ => by cases h
  | .tup _ :: r, _, _, h, _ => by cases h
  | .lst _ :: r, _, _, h, _ => by cases h
  | .scr _ :: r, _, _, h, _ => by cases h
  | .cls _ :: r, _, _, h, _ => by cases h
  | .ins _ _ _ :: r, _, _, h, _ => by cases h
  | .exc _ _ _ :: r, _, _, h, _ => by cases h
/-- the class facts isinstance asks of instances -/
structure ClsI (K : PySem.W.Frag) (C : Addr) : Prop where
  cl : Cls K C
  ha : PySem.W.findIn K (.ref C) "__class__" = some (some (.builtin "object.__class__"))
  hn : PySem.W.specialIn K (.builtin "object.__class__") "__get__" = some (some (.builtin "getset_descriptor.__get__"))
  tk : PySem.W.takesIn K (.builtin "object.__class__") = some true
  hm : PySem.W.mroIn K C (.type "object") = some true
theorem cs_isi {c : Str} {C : Addr} (hc : X.mg c = some (.ref C)) (I : ClsI X.K C) (kk : PySem.W.kitOne X.K (.ref C) (.ref C) = some true) : CallS X (.builtin "isinstance") (cIsi c) := by
  refine ⟨_, call_isi.or (call_isiT.or call_isiK), ?_⟩
  intro G F H st σ ds vs sv Q R r e k
  unfold cIsi at e
  split at e
  · rename_i x b
    split at e
    · rename_i a ea
      cases q : kitB a b with
      | none => rw [q] at e; cases e
      | some b' =>
        rw [q] at e; cases e
        obtain ⟨v, w, rfl, h1, h2⟩ := r.two
        cases h2
        exact .inl ⟨v, _, _, _, b', rfl, .ty b, tyx h1 R.f ea, kit_ty q, k.imm R (.bl _)⟩
    · cases e
  · rename_i x ts
    split at e
    · rename_i a bs ea eb
      cases q : kitAnyB a bs with
      | none => rw [q] at e; cases e
      | some b' =>
        rw [q] at e; cases e
        obtain ⟨v, w, rfl, h1, h2⟩ := r.two
        cases h2 with
        | @tup p us _ hp rr => exact .inr (.inl ⟨v, p, us, _, _, b', rfl, R.f _ _ hp, tyNames_rd eb rr, tyx h1 R.f ea, kitAnyB_K q, k.imm R (.bl _)⟩)
        | @ktup p us _ hp rr =>
          obtain ⟨o, its, n, g1, g2, g3, g4, g5⟩ := hp
          have e5 := ClsV.all (tyNames_rd eb rr) g5
          obtain ⟨oc, od, dt, sl⟩ := o
          simp only at g2 g3
          subst g2 g3
          refine .inr (.inr ⟨v, p, od, _, n, sl, _, b', rfl, ?_, tyx h1 R.f ea, kitAnyB_K q, k.imm R (.bl _)⟩)
          rw [g1, ← e5]
    · cases e
  · rename_i c1 ns ds c2
    split at e
    · rename_i hcc
      obtain ⟨h1, h2⟩ := hcc
      subst h1 h2
      cases e
      obtain ⟨v, w, rfl, h1, h2⟩ := r.two
      obtain ⟨a, C', dx, fs, rfl, hC, ha, hn, rr⟩ := id h1.ins_inv
      obtain ⟨C2, rfl, hC2⟩ := h2.cls_inv
      rw [hc] at hC hC2
      cases hC; cases hC2
      exact .inl ⟨_, _, _, _, true, rfl, .own C, .base (.ins (R.f _ _ ha) I.cl I.ha I.hn I.tk I.hm), kk, k.imm R (.bl true)⟩
    · cases e
  · cases e
end
end Sm
/-! Short words for what the printer prints; while; reversed lists; unpacked lists. -/
namespace Sm
open PySem L2 Evl PyProof.Rows
section
variable {X : Cx} {P : List Nat} {e c : Expr} {f : DE} {pos : Pos} {x : Str}
theorem v_ (i : Nat) (hN : X.N[i]? = some x := by rfl) (hv : Vis X.env.scope x := by first | exact Or.inl rfl | exact Or.inr (Or.inl rfl) | exact Or.inr (Or.inr rfl)) (hd : (x == ("__debug__" : Str)) = false := by decide) (hcd : (x == ("__classdict__" : Str)) = false := by decide) : SE X (.Name x pos) (dVar i) := se_var hN hv hd hcd
theorem tk_ (i : Nat) (hN : X.N[i]? = some x := by rfl) (hv : Vis X.env.scope x := by first | exact Or.inl rfl | exact Or.inr (Or.inl rfl) | exact Or.inr (Or.inr rfl)) (hd : (x == ("__debug__" : Str)) = false := by decide) (hcd : (x == ("__classdict__" : Str)) = false := by decide) : SE X (.Name x pos) (dTake i) := se_take hN hv hd hcd
theorem se_cls {C : Addr} (hg : Gl X x) (hm : X.mg x = some (.ref C)) (hd : (x == ("__debug__" : Str)) = false := by decide) : SE X (.Name x pos) (dC (.cls x)) := se_c (pe_glob (v := .ref C) hg hm rfl hd) fun _ => .cls hm
theorem se_ty {n : String} (hg : Gl X x) (hm : X.mg x = none) (hv : bootBuiltins x = some (.type n)) (hn : x ≠ "__name__" := by decide) (hd : (x == ("__debug__" : Str)) = false := by decide) : SE X (.Name x pos) (dC (.ty n)) := se_c (pe_bltn (v := .ty n) hg hm hv rfl hn hd) fun _ => .ty n
theorem se_gi {i : Int} {t : Tok} (hg : Gl X x) (hm : X.mg x = some (.int i t)) (hd : (x == ("__debug__" : Str)) = false := by decide) : SE X (.Name x pos) (dC (.int i)) := se_c (pe_glob (v := .int i) hg hm ⟨_, rfl⟩ hd) fun _ => .int i
theorem se_gs {i : Str} {t : Tok} (hg : Gl X x) (hm : X.mg x = some (.str i t)) (hd : (x == ("__debug__" : Str)) = false := by decide) : SE X (.Name x pos) (dC (.str i)) := se_c (pe_glob (v := .str i) hg hm ⟨_, rfl⟩ hd) fun _ => .str i
/-- xs[::-1] -/
def oRev : D → Option SV
  | .lst xs => some (.lst xs.reverse)
  | .scr ns => some (.lst (ns.map D.int).reverse)
  | _ => none
theorem se_rev {k : Nat} {p1 p2 p3 : Pos} (h : SE X e f) : SE X (.Subscript e (.Slice none none (some (.UnaryOp .USub (.Constant (.int 1) k p1) p2)) p3) pos) (dUn oRev f) := by
  refine ⟨pe_imp (pe_revL h.pf) fun σ H Q q => ?_⟩
  obtain ⟨G, F, st, sv, st', R, e, k⟩ := q
  unfold dUn at e
  split at e
  · cases e
  rename_i x s1 e1
  split at e
  · cases e
  rename_i z e2
  cases e
  refine ⟨G, F, st, x, _, R, e1, fun v F1 H1 g1 R1 r1 => ?_⟩
  have k1 : Kn X.K X.mg G F1 _ σ sv Q := fun v F2 H2 g2 => k v F2 H2 (g1.trans g2)
  unfold oRev at e2
  split at e2
  · rename_i xs hx
    cases e2
    rw [hx] at r1
    obtain ⟨p, vs, rfl, hp, rr⟩ := r1.lst_inv
    exact ⟨p, vs, rfl, .inl (.inl (R1.f _ _ hp)), fun q hq => k1.newL R1 hq rr.rev⟩
  · rename_i ns hx
    cases e2
    rw [hx] at r1
    obtain ⟨p, rfl, hp⟩ := r1.scr_inv
    exact ⟨p, _, rfl, ex_l R1.f hp, fun q hq => k1.newL R1 hq (RDs.of_ints ns).rev⟩
  · cases e2
/-- a, b, .. = e, a list of that length -/
def dUnl (is : List Nat) (f : DE) : DS := fun st => match f st with
  | none => none
  | some (x, s1) => match x.frz with
    | .lst xs => if is.length = xs.length then some (.nx, setL s1 is (xs.map .imm)) else none
    | _ => none
theorem ss_unl {is : List Nat} {tgs : List Expr} {pt : Pos} {kt} {tt : TGs} {n : Nat} (hP : ∀ l ∈ is, l ∉ P) (hc : X.calm = true) (hN : X.N.Nodup) (hT : TNs X tgs is tt) (ha : SE X e f)
    (hn : (assignEach tgs X.env).length = n := by rfl) (hst : (assignEach tgs X.env).findIdx? (·.1) = none := by rfl) (hlen : n = is.length := by rfl)
    (hs : swapsWithSole [.Tuple tgs kt pt] e pos.line X.env = pure false := by rfl) (hw : swappedStores [.Tuple tgs kt pt] e X.env = pure none := by rfl)
    (h1 : (assignEach [.Tuple tgs kt pt] X.env).map (·.2) = [assign (.Tuple tgs kt pt) X.env] := by rfl) :
    SS X P (.Assign [.Tuple tgs kt pt] e pos) (dUnl is f) := ⟨ps_imp (ps_asg ha.pf (pg_unl (n := n) hc (hT.pgs hN) hn hst) hs hw h1) fun D σ H q => by
  obtain ⟨G, F, st, o, st', R, e, k⟩ := q
  unfold dUnl at e
  split at e
  · cases e
  rename_i x s1 e1
  split at e
  · rename_i xs hx
    split at e
    · rename_i hl
      cases e
      refine ⟨G, F, st, x, s1, R, e1, fun v F1 H1 g1 R1 r1 => ?_⟩
      rw [hx] at r1
      obtain ⟨p, vs, rfl, hp, rr⟩ := r1.lst_inv
      have hl2 := rr.length
      refine ⟨p, vs, rfl, .inl (.inl (R1.f _ _ hp)), by rw [← hl2, ← hl, hlen], hT.run (by rw [hl, hl2]) ?_⟩
      exact k F1 H1 _ g1 (putL R1 (RSL.of rr) (by rw [List.length_map]; exact hl)) (Keeps.setV hP)
    · cases e
  · cases e⟩
/-! ### while -/
def whileD (t : DT) (b : DS) : Nat → S → Option (Out × S)
  | 0, _ => none
  | n + 1, st => match t st with
    | none => none
    | some (false, s1) => some (.nx, s1)
    | some (true, s1) => match b s1 with
      | some (.nx, s2) => whileD t b n s2
      | some (.ct, s2) => whileD t b n s2
      | some (.bk, s2) => some (.nx, s2)
      | some (.rt sv, s2) => some (.rt sv, s2)
      | none => none
theorem whileD_mono {t : DT} {b : DS} {r : Out × S} : ∀ {n m : Nat} {st : S}, n ≤ m → whileD t b n st = some r → whileD t b m st = some r
  | 0, _, _, _, h => by cases h
  | n + 1, 0, _, hl, _ => by omega
  | n + 1, m + 1, st, hl, h => by
    unfold whileD at h ⊢
    cases h1 : t st with
    | none => rw [h1] at h; cases h
    | some p =>
      obtain ⟨k, s1⟩ := p
      rw [h1] at h
      cases k with
      | false => exact h
      | true =>
        cases h2 : b s1 with
        | none => simp only [h2] at h; cases h
        | some q =>
          obtain ⟨o, s2⟩ := q
          simp only [h2] at h ⊢
          cases o with
          | nx => exact whileD_mono (by omega) h
          | ct => exact whileD_mono (by omega) h
          | bk => exact h
          | rt sv => exact h
def dWhile (n : Nat) (t : DT) (b : DS) : DS := whileD t b n
theorem ss_while {n : Nat} {t : DT} {b : DS} {body : List Stmt} (hp : PassesOwn (model X.prog X.w) X.A X.env X.xe) (hc : ST X c t) (hb : SSs X P body b) : SS X P (.While c body [] pos) (dWhile n t b) := ⟨ps_imp (ps_while hp hc.pt hb.pss) fun D σ H q => by
  obtain ⟨G, F, st, o, st', R, e, k⟩ := q
  refine ⟨fun m σ' H' => ∃ F1 st1, Gr G F F1 ∧ Rep X.K X.mg G F1 st1 σ' H' ∧ Keeps P σ σ' ∧ whileD t b m st1 = some (o, st'), ⟨n, F, st, Gr.refl F, R, Keeps.refl, e⟩, ?_⟩
  rintro m σ' H' ⟨F1, st1, g1, R1, k1, e1⟩
  cases m with
  | zero => cases e1
  | succ m =>
    unfold whileD at e1
    split at e1
    · cases e1
    · rename_i s2 e2
      cases e1
      refine ⟨G, F1, st1, false, _, R1, e2, fun F3 H3 g3 R3 => ?_⟩
      exact k F3 H3 σ' (g1.trans g3) R3 k1
    · rename_i s2 e2
      refine ⟨G, F1, st1, true, s2, R1, e2, fun F3 H3 g3 R3 => ?_⟩
      refine ⟨fun σ4 H4 => ∃ F5 st5, Gr G F F5 ∧ Rep X.K X.mg G F5 st5 σ4 H4 ∧ Keeps P σ σ4 ∧ whileD t b m st5 = some (o, st'), fun σ4 H4 h4 => ⟨m, Nat.lt_succ_self m, h4⟩, ?_⟩
      split at e1
      · rename_i s5 e5
        exact ⟨G, F3, s2, .nx, s5, R3, e5, fun F6 H6 σ6 g6 R6 k6 => ⟨F6, s5, (g1.trans g3).trans g6, R6, k1.trans k6, e1⟩⟩
      · rename_i s5 e5
        exact ⟨G, F3, s2, .ct, s5, R3, e5, fun F6 H6 σ6 g6 R6 k6 => ⟨F6, s5, (g1.trans g3).trans g6, R6, k1.trans k6, e1⟩⟩
      · rename_i s5 e5
        cases e1
        exact ⟨G, F3, s2, .bk, _, R3, e5, fun F6 H6 σ6 g6 R6 k6 => k F6 H6 σ6 ((g1.trans g3).trans g6) R6 (k1.trans k6)⟩
      · rename_i sv s5 e5
        cases e1
        exact ⟨G, F3, s2, .rt sv, _, R3, e5, fun F6 H6 σ6 g6 R6 k6 => k F6 H6 σ6 ((g1.trans g3).trans g6) R6 (k1.trans k6)⟩
      · cases e1⟩
end
/-! ### what the boot has -/
theorem bt_len : bootBuiltins "len" = some (.builtin "len") := by decide +kernel
theorem bt_abs : bootBuiltins "abs" = some (.builtin "abs") := by decide +kernel
theorem bt_sum : bootBuiltins "sum" = some (.builtin "sum") := by decide +kernel
theorem bt_all : bootBuiltins "all" = some (.builtin "all") := by decide +kernel
theorem bt_isinstance : bootBuiltins "isinstance" = some (.builtin "isinstance") := by decide +kernel
theorem bt_int : bootBuiltins "int" = some (.type "int") := by decide +kernel
theorem bt_bool : bootBuiltins "bool" = some (.type "bool") := by decide +kernel
theorem bt_str : bootBuiltins "str" = some (.type "str") := by decide +kernel
theorem bt_list : bootBuiltins "list" = some (.type "list") := by decide +kernel
theorem bt_tuple : bootBuiltins "tuple" = some (.type "tuple") := by decide +kernel
theorem bt_max : bootBuiltins "max" = some (.builtin "max") := by decide +kernel
theorem bt_min : bootBuiltins "min" = some (.builtin "min") := by decide +kernel
/-- the class facts of one class of the program -/
structure CT (K : PySem.W.Frag) (mg : Str → Option Value) (c : Str) (C : Addr) : Prop where
  hc : mg c = some (.ref C)
  ci : ClsI K C
  mks : PySem.W.makesIn K C = true
  kp : PySem.W.keepIn K (.ref C) = true
  kk : PySem.W.kitOne K (.ref C) (.ref C) = some true
  ne : PySem.W.findIn K (.ref C) "__ne__" = some (some (.builtin "object.__ne__"))
end Sm
/-! Plain evaluation: the readings applied to a state. -/
namespace Sm
open PySem L2 Evl PyProof.Rows
section
variable (st : S)
def varS (i : Nat) : SV → S
  | .imm _ => st
  | sv => st.set i (some (.imm sv.frz))
@[simp ↓] theorem ap_Var (i : Nat) : dVar i st = match st[i]? with
  | some (some x) => some (.imm x.frz, varS st i x)
  | _ => none := by
  unfold dVar
  cases st[i]? with
  | none => rfl
  | some o => cases o with
    | none => rfl
    | some x => cases x <;> rfl
@[simp] theorem varS_imm (i : Nat) (d : D) : varS st i (.imm d) = st := (rfl)
@[simp] theorem varS_lst (i : Nat) (d : List D) : varS st i (.lst d) = st.set i (some (.imm (.lst d))) := (rfl)
@[simp] theorem varS_ins (i : Nat) (c : Str) (ns : List Str) (d : List D) : varS st i (.ins c ns d) = st.set i (some (.imm (.ins c ns d))) := (rfl)
@[simp ↓] theorem ap_Take (i : Nat) : dTake i st = match st[i]? with
  | some (some (.imm d)) => some (.imm d, st)
  | some (some sv) => some (sv, st.set i none)
  | _ => none := (rfl)
@[simp ↓] theorem ap_C (d : D) : dC d st = some (.imm d, st) := (rfl)
@[simp ↓] theorem ap_B (f : DE) : dB f st = match f st with
  | some (.imm (.bl b), s1) => some (b, s1)
  | _ => none := (rfl)
@[simp ↓] theorem ap_And (t u : DT) : dAnd t u st = match t st with
  | some (true, s1) => u s1
  | some (false, s1) => some (false, s1)
  | none => none := (rfl)
@[simp ↓] theorem ap_Or (t u : DT) : dOr t u st = match t st with
  | some (true, s1) => some (true, s1)
  | some (false, s1) => u s1
  | none => none := (rfl)
@[simp ↓] theorem ap_Not (t : DT) : dNot t st = match t st with
  | some (b, s1) => some (!b, s1)
  | none => none := (rfl)
@[simp ↓] theorem ap_AndV (f g : DE) : dAndV f g st = match f st with
  | some (.imm (.bl true), s1) => g s1
  | some (.imm (.bl false), s1) => some (.imm (.bl false), s1)
  | _ => none := (rfl)
@[simp ↓] theorem ap_OrV (f g : DE) : dOrV f g st = match f st with
  | some (.imm (.bl true), s1) => some (.imm (.bl true), s1)
  | some (.imm (.bl false), s1) => g s1
  | _ => none := (rfl)
@[simp ↓] theorem ap_NotV (f : DE) : dNotV f st = match f st with
  | some (.imm (.bl b), s1) => some (.imm (.bl (!b)), s1)
  | _ => none := (rfl)
@[simp ↓] theorem ap_If (t : DT) (f g : DE) : dIf t f g st = match t st with
  | some (true, s1) => f s1
  | some (false, s1) => g s1
  | none => none := (rfl)
@[simp ↓] theorem ap_Un (o : D → Option SV) (f : DE) : dUn o f st = match f st with
  | none => none
  | some (x, s1) => match o x.frz with
    | none => none
    | some z => some (z, s1) := (rfl)
@[simp ↓] theorem ap_Nil : dNil st = some ([], st) := (rfl)
@[simp ↓] theorem ap_Cons (f : DE) (r : DA) : dCons f r st = match f st with
  | none => none
  | some (x, s1) => match r s1 with
    | none => none
    | some (xs, s2) => some (x.frz :: xs, s2) := (rfl)
@[simp ↓] theorem ap_Tup (r : DA) : dTup r st = match r st with
  | none => none
  | some (xs, s1) => if xs.length ≤ 100000 then some (.imm (.tup xs), s1) else none := (rfl)
@[simp ↓] theorem ap_Lst (r : DA) : dLst r st = match r st with
  | none => none
  | some (xs, s1) => if xs.length ≤ 100000 then some (.lst xs, s1) else none := (rfl)
@[simp ↓] theorem ap_CB (o : List D → Option SV) (r : DA) : dCB o r st = match r st with
  | none => none
  | some (xs, s1) => match o xs with
    | none => none
    | some z => some (z, s1) := (rfl)
@[simp ↓] theorem ap_IxV (i : Nat) (g : DE) : dIxV i g st = match st[i]? with
  | some (some _) => (match g st with
    | none => none
    | some (y, s1) => match s1[i]? with
      | some (some x) => (match oIx x.frz y.frz with
        | none => none
        | some z => some (z, s1))
      | _ => none)
  | _ => none := (rfl)
@[simp ↓] theorem ap_LenV (i : Nat) : dLenV i st = match st[i]? with
  | some (some x) => (match cLen [x.frz] with
    | none => none
    | some z => some (z, st))
  | _ => none := (rfl)
@[simp ↓] theorem ap_no : DP.run .no st = some (none, st) := (rfl)
@[simp ↓] theorem ap_at (f : DE) : DP.run (.at_ f) st = match f st with
    | some (.imm (.int i), s1) => some (some i, s1)
    | _ => none := (rfl)
@[simp ↓] theorem ap_Sl (f : DE) (lo hi : DP) : dSl f lo hi st = match f st with
  | none => none
  | some (x, s1) => match lo.run s1 with
    | none => none
    | some (l, s2) => match hi.run s2 with
      | none => none
      | some (h, s3) => match oSl l h x.frz with
        | none => none
        | some z => some (z, s3) := (rfl)
@[simp ↓] theorem ap_FldV (c f : Str) (i : Nat) : dFldV c f i st = match st[i]? with
  | some (some x) => (match oFld c f x.frz with
    | none => none
    | some z => some (z, st))
  | _ => none := (rfl)
@[simp ↓] theorem ap_CallP (NN : Nat) (fn : List D → Option SV) (r : DA) : dCallP NN fn r st = match r st with
  | none => none
  | some (xs, s1) => if xs.length = NN then (match fn xs with
    | none => none
    | some z => some (z, s1)) else none := (rfl)
@[simp ↓] theorem ap_CallO (NN i : Nat) (fo : SV → List D → Option (SV × SV)) (r : DA) : dCallO NN i fo r st = match st[i]? with
  | some (some _) => (match r st with
    | none => none
    | some (xs, s1) => if xs.length = NN then (match s1[i]? with
      | some (some x) => if x.own = true then (match fo x xs with
        | none => none
        | some (z, x') => if x'.own = true then some (z, s1.set i (some x')) else none) else none
      | _ => none) else none)
  | _ => none := (rfl)
@[simp ↓] theorem ap_Make (c : Str) (NN : Nat) (fo : SV → List D → Option (SV × SV)) (r : DA) : dMake c NN fo r st = match r st with
  | none => none
  | some (xs, s1) => if xs.length = NN then (match fo (.ins c [] []) xs with
    | some (.imm .non, x') => if x'.own = true then some (x', s1) else none
    | _ => none) else none := (rfl)
@[simp ↓] theorem ap_Next : dNext st = some (.nx, st) := (rfl)
@[simp ↓] theorem ap_Seq (d r : DS) : dSeq d r st = match d st with
  | some (.nx, s1) => r s1
  | x => x := (rfl)
@[simp ↓] theorem ap_No : dNo st = none := (rfl)
@[simp ↓] theorem ap_Drop (f : DE) : dDrop f st = match f st with
  | none => none
  | some (_, s1) => some (.nx, s1) := (rfl)
@[simp ↓] theorem ap_Ret (f : DE) : dRet f st = match f st with
  | none => none
  | some (x, s1) => some (.rt x, s1) := (rfl)
@[simp ↓] theorem ap_RetN : dRetN st = some (.rt (.imm .non), st) := (rfl)
@[simp ↓] theorem ap_IfS (t : DT) (d1 d2 : DS) : dIfS t d1 d2 st = match t st with
  | some (true, s1) => d1 s1
  | some (false, s1) => d2 s1
  | none => none := (rfl)
@[simp ↓] theorem ap_Set (i : Nat) (f : DE) : dSet i f st = match f st with
  | none => none
  | some (x, s1) => some (.nx, s1.set i (some x)) := (rfl)
@[simp ↓] theorem ap_sNil : sNil st = some ([], st) := (rfl)
@[simp ↓] theorem ap_sCons (f : DE) (r : DAS) : sCons f r st = match f st with
  | none => none
  | some (x, s1) => match r s1 with
    | none => none
    | some (xs, s2) => some (x :: xs, s2) := (rfl)
@[simp ↓] theorem ap_Par (is : List Nat) (r : DAS) : dPar is r st = match r st with
  | none => none
  | some (xs, s1) => if is.length = xs.length then some (.nx, setL s1 is xs) else none := (rfl)
@[simp ↓] theorem ap_Unp (is : List Nat) (f : DE) : dUnp is f st = match f st with
  | none => none
  | some (x, s1) => match x.frz with
    | .tup xs => if is.length = xs.length then some (.nx, setL s1 is (xs.map .imm)) else none
    | _ => none := (rfl)
@[simp ↓] theorem ap_Unl (is : List Nat) (f : DE) : dUnl is f st = match f st with
  | none => none
  | some (x, s1) => match x.frz with
    | .lst xs => if is.length = xs.length then some (.nx, setL s1 is (xs.map .imm)) else none
    | _ => none := (rfl)
@[simp ↓] theorem ap_SeqI (f : DE) : dSeqI f st = match f st with
  | none => none
  | some (x, s1) => match x.frz with
    | .lst xs => some (xs, s1)
    | .tup xs => some (xs, s1)
    | _ => none := (rfl)
noncomputable def rng1 (j : Int) (s1 : S) : Option (List D × S) := if -B62 ≤ j ∧ j < B62 then some (rangeD 0 j.toNat, s1) else none
@[simp ↓] theorem ap_Rng1 (r : DA) : dRng1 r st = match r st with
  | some ([.int j], s1) => rng1 j s1
  | _ => none := by
  rfl
noncomputable def rng2 (i j : Int) (s1 : S) : Option (List D × S) := if -B62 ≤ i ∧ i < B62 ∧ -B62 ≤ j ∧ j < B62 then some (rangeD i (j - i).toNat, s1) else none
@[simp ↓] theorem ap_Rng2 (r : DA) : dRng2 r st = match r st with
  | some ([.int i, .int j], s1) => rng2 i j s1
  | _ => none := by
  rfl
@[simp ↓] theorem ap_Zip (r : DA) : dZip r st = match r st with
  | some ([.lst xs, .lst ys], s1) => some (zipD xs ys, s1)
  | some ([.tup xs, .tup ys], s1) => some (zipD xs ys, s1)
  | _ => none := (rfl)
@[simp ↓] theorem ap_Enum (r : DA) : dEnum r st = match r st with
  | some ([.lst xs], s1) => some (enumD xs, s1)
  | some ([.tup xs], s1) => some (enumD xs, s1)
  | _ => none := (rfl)
@[simp ↓] theorem ap_gN (i : Nat) (d : D) : gN i d st = some (st.set i (some (.imm d))) := (rfl)
@[simp ↓] theorem ap_gT (is : List Nat) (xs : List D) : gT is (.tup xs) st = if is.length = xs.length then some (setL st is (xs.map .imm)) else none := (rfl)
@[simp ↓] theorem ap_For (it : DI) (g : D → S → Option S) (b : DS) : dFor it g b st = match it st with
  | none => none
  | some (ds, s1) => loopD g b ds s1 := (rfl)
@[simp ↓] theorem ap_Lc (it : DI) (g : D → S → Option S) (t : DT) (e : DE) (vs : List Nat) : dLc it g t e vs st = match it st with
  | none => none
  | some (ds, s1) => if ds.length ≤ 50000 then (match compD g t e vs ds (wipeS s1 vs) [] with
    | none => none
    | some (acc, s2) => some (.lst acc, restore s1 s2 vs)) else none := (rfl)
@[simp ↓] theorem ap_Yes : dYes st = some (true, st) := (rfl)
@[simp ↓] theorem ap_SetIx (i : Nat) (f g : DE) : dSetIx i f g st = match st[i]? with
  | some (some _) => (match f st with
    | none => none
    | some (x, s1) => match g s1 with
      | some (.imm (.int k), s2) => (match s2[i]? with
        | some (some (.lst ds)) => (match ixN ds.length k with
          | some j => some (.nx, s2.set i (some (.lst (ds.set j x.frz))))
          | none => none)
        | _ => none)
      | _ => none)
  | _ => none := (rfl)
@[simp ↓] theorem ap_SetF (c : Str) (i : Nat) (ff : Str) (g : DE) : dSetF c i ff g st = match g st with
  | none => none
  | some (y, s1) => match s1[i]? with
    | some (some (.ins c' ns ds)) => if c' = c ∧ ds.length < 100 then some (.nx, s1.set i (some (.ins c' (putD ff y.frz ns ds).1 (putD ff y.frz ns ds).2))) else none
    | _ => none := (rfl)
def methD (c m : Str) (NN : Nat) (fn : List D → Option SV) (r : DA) (s1 : S) : D → Option (SV × S)
  | .ins c' ns ds => if c' = c ∧ hasN m ns = false then (match r s1 with
      | none => none
      | some (xs, s2) => if xs.length + 1 = NN then (match fn (.ins c' ns ds :: xs) with
        | none => none
        | some z => some (z, s2)) else none) else none
  | _ => none
@[simp ↓] theorem ap_Meth (c m : Str) (NN : Nat) (fn : List D → Option SV) (f : DE) (r : DA) : dMeth c m NN fn f r st = match f st with
  | none => none
  | some (x, s1) => methD c m NN fn r s1 x.frz := by
  unfold dMeth
  cases f st with
  | none => rfl
  | some z =>
    obtain ⟨x, s1⟩ := z
    simp only
    cases x.frz <;> rfl
theorem meth_ins (c m : Str) (NN : Nat) (fn : List D → Option SV) (r : DA) (s1 : S) (ns : List Str) (ds : List D) (h : hasN m ns = false) : methD c m NN fn r s1 (.ins c ns ds) = match r s1 with
      | none => none
      | some (xs, s2) => if xs.length + 1 = NN then (match fn (.ins c ns ds :: xs) with
        | none => none
        | some z => some (z, s2)) else none := if_pos ⟨rfl, h⟩
def methKD (c m : Str) (nk : Nat) (perm : List Nat) (NN : Nat) (fn : List D → Option SV) (r2 : DA) (s1 : S) : D → Option (SV × S)
  | .ins c' ns ds => if c' = c ∧ hasN m ns = false then (match r2 s1 with
      | none => none
      | some (ys, s2) => if ys.length = nk ∧ perm.length = NN then (match fn (pick .non perm (.ins c' ns ds :: ys)) with
        | none => none
        | some z => some (z, s2)) else none) else none
  | _ => none
@[simp ↓] theorem ap_MethK (c m : Str) (nk : Nat) (perm : List Nat) (NN : Nat) (fn : List D → Option SV) (f : DE) (r2 : DA) : dMethK c m nk perm NN fn f r2 st = match f st with
  | none => none
  | some (x, s1) => methKD c m nk perm NN fn r2 s1 x.frz := by
  unfold dMethK
  cases f st with
  | none => rfl
  | some z =>
    obtain ⟨x, s1⟩ := z
    simp only
    cases x.frz <;> rfl
theorem methK_ins (c m : Str) (nk : Nat) (perm : List Nat) (NN : Nat) (fn : List D → Option SV) (r2 : DA) (s1 : S) (ns : List Str) (ds : List D) (h : hasN m ns = false) : methKD c m nk perm NN fn r2 s1 (.ins c ns ds) = match r2 s1 with
      | none => none
      | some (ys, s2) => if ys.length = nk ∧ perm.length = NN then (match fn (pick .non perm (.ins c ns ds :: ys)) with
        | none => none
        | some z => some (z, s2)) else none := if_pos ⟨rfl, h⟩
end
@[simp ↓] theorem ap_runP (n : Nat) (b : DS) (ds : List D) : runP n b ds = match b ((ds.map fun d => some (.imm d)) ++ List.replicate (n - ds.length) none) with
  | some (.nx, _) => some (.imm .non)
  | some (.rt sv, _) => some sv
  | _ => none := (rfl)
@[simp ↓] theorem ap_runO (n : Nat) (b : DS) (x : SV) (ds : List D) : runO n b x ds = match b (some x :: ((ds.map fun d => some (.imm d)) ++ List.replicate (n - (ds.length + 1)) none)) with
  | some (o, st') => (match st'[0]? with
    | some (some x') => if x'.own = true then (match o with
      | .nx => some (.imm .non, x')
      | .rt sv => some (sv, x')
      | _ => none) else none
    | _ => none)
  | none => none := (rfl)
@[simp ↓] theorem ap_Op (o : D → D → Option SV) (f g : DE) (st : S) : dOp o f g st = match f st with
  | none => none
  | some (x, s1) => match g s1 with
    | none => none
    | some (y, s2) => match o x.frz y.frz with
      | none => none
      | some z => some (z, s2) := (rfl)
@[simp ↓] theorem ap_Chain (o o' : D → D → Option SV) (f g h : DE) (st : S) : dChain o o' f g h st = match f st with
  | none => none
  | some (x, s1) => match g s1 with
    | none => none
    | some (y, s2) => match o x.frz y.frz with
      | some (.imm (.bl true)) => (match h s2 with
        | none => none
        | some (z, s3) => match o' y.frz z.frz with
          | none => none
          | some w => some (w, s3))
      | some (.imm (.bl false)) => some (.imm (.bl false), s2)
      | _ => none := (rfl)
@[simp] theorem frz_imm (d : D) : (SV.imm d).frz = d := (rfl)
@[simp] theorem frz_lst (d : List D) : (SV.lst d).frz = .lst d := (rfl)
@[simp] theorem own_imm (d : D) : (SV.imm d).own = false := (rfl)
@[simp] theorem own_lst (d : List D) : (SV.lst d).own = true := (rfl)
@[simp] theorem own_ins (c : Str) (ns : List Str) (d : List D) : (SV.ins c ns d).own = true := (rfl)
/-! operators at what they take -/
@[simp] theorem add_i (i j : Int) : oAdd (.int i) (.int j) = some (.imm (.int (i + j))) := (rfl)
@[simp] theorem sub_i (i j : Int) : oSub (.int i) (.int j) = some (.imm (.int (i - j))) := (rfl)
def Sml (i : Int) : Prop := -B64 < i ∧ i < B64
theorem sml {i : Int} (h : -(2 ^ 64) < i ∧ i < 2 ^ 64) : Sml i := by unfold Sml; rw [B64_eq]; exact h
theorem mul_i1 {i : Int} (h : Sml i) (j : Int) : oMul (.int i) (.int j) = some (.imm (.int (i * j))) := if_pos (.inl h)
theorem mul_i2 {j : Int} (h : Sml j) (i : Int) : oMul (.int i) (.int j) = some (.imm (.int (i * j))) := if_pos (.inr h)
@[simp] theorem mul_l (xs : List D) (k : Int) : oMul (.lst xs) (.int k) = if k ≤ 1000 ∧ 0 ≤ k ∧ xs.length ≤ 100 then some (.lst (List.replicate k.toNat xs).flatten) else none := (rfl)
@[simp] theorem mul_t (xs : List D) (k : Int) : oMul (.tup xs) (.int k) = if 2 ≤ k ∧ k ≤ 1000 ∧ xs.length ≤ 100 ∧ xs ≠ [] then some (.imm (.tup (List.replicate k.toNat xs).flatten)) else none := (rfl)
@[simp] theorem add_l (xs ys : List D) : oAdd (.lst xs) (.lst ys) = if xs.length + ys.length ≤ 100000 then some (.lst (xs ++ ys)) else none := (rfl)
theorem div_i (i j : Int) (h : 0 < j ∧ j < 1073741824) : oDiv (.int i) (.int j) = some (.imm (.int (i / j))) := if_pos (by rw [B30_eq]; exact h)
@[simp] theorem mod_i (i j : Int) : oMod (.int i) (.int j) = if 0 < j then some (.imm (.int (i % j))) else none := (rfl)
theorem pow_i {i : Int} (hi : Sml i) (j : Int) (h : 0 ≤ j ∧ j ≤ 1000000) : oPow (.int i) (.int j) = some (.imm (.int (i ^ j.toNat))) := if_pos (by rw [B20_eq]; exact ⟨h.1, h.2, hi⟩)
@[simp] theorem cmp_i (p : Int → Int → Bool) (i j : Int) : oInt p (.int i) (.int j) = some (.imm (.bl (p i j))) := (rfl)
@[simp] theorem neg_i (i : Int) : oNeg (.int i) = some (.imm (.int (-i))) := (rfl)
@[simp] theorem is_non (b : Bool) (x : D) : oIs b x .non = some (.imm (.bl (if b then !isNon x else isNon x))) := (rfl)
@[simp] theorem len_l (xs : List D) : cLen [.lst xs] = some (.imm (.int xs.length)) := (rfl)
@[simp] theorem len_t (xs : List D) : cLen [.tup xs] = some (.imm (.int xs.length)) := (rfl)
@[simp] theorem len_s (xs : List Int) : cLen [.scr xs] = some (.imm (.int xs.length)) := (rfl)
@[simp] theorem int_i (i : Int) : cInt [.int i] = some (.imm (.int i)) := (rfl)
@[simp] theorem int_b (b : Bool) : cInt [.bl b] = some (.imm (.int (if b then 1 else 0))) := (rfl)
@[simp] theorem abs_i (i : Int) : cAbs [.int i] = some (.imm (.int (if i < 0 then -i else i))) := (rfl)
@[simp] theorem tup_l (xs : List D) : cTuple [.lst xs] = some (.imm (.tup xs)) := (rfl)
@[simp] theorem tup_t (xs : List D) : cTuple [.tup xs] = some (.imm (.tup xs)) := (rfl)
theorem ix_l (xs : List D) (i : Int) : oIx (.lst xs) (.int i) = (atI xs i).map .imm := rfl
theorem ix_t (xs : List D) (i : Int) : oIx (.tup xs) (.int i) = (atI xs i).map .imm := rfl
@[simp] theorem sl_l (lo hi : Option Int) (ns : List D) : oSl lo hi (.lst ns) = some (.lst (cutD ns lo hi)) := (rfl)
@[simp] theorem setL_nil (st : S) : setL st [] [] = st := (rfl)
@[simp] theorem setL_cons (st : S) (i : Nat) (is : List Nat) (x : SV) (xs : List SV) : setL st (i :: is) (x :: xs) = setL (st.set i (some x)) is xs := (rfl)
@[simp] theorem wipe_nil (st : S) : wipeS st [] = st := (rfl)
@[simp] theorem wipe_cons (st : S) (v : Nat) (vs : List Nat) : wipeS st (v :: vs) = (wipeS st vs).set v none := (rfl)
@[simp] theorem rest_nil (s1 s2 : S) : restore s1 s2 [] = s2 := (rfl)
@[simp] theorem rest_cons (s1 s2 : S) (v : Nat) (vs : List Nat) : restore s1 s2 (v :: vs) = (restore s1 s2 vs).set v (keepImm s1[v]?) := (rfl)
@[simp] theorem keep_n : keepImm (some none) = none := (rfl)
@[simp] theorem keep_i (d : D) : keepImm (some (some (.imm d))) = some (.imm d) := (rfl)
/-! lists of ints -/
def il (ns : List Int) : List D := ns.map D.int
@[simp] theorem il_len (ns : List Int) : (il ns).length = ns.length := List.length_map _
theorem il_mem {ns : List Int} {d : D} (h : d ∈ il ns) : ∃ i, i ∈ ns ∧ d = .int i := by
  obtain ⟨i, hi, e⟩ := List.mem_map.mp h
  exact ⟨i, hi, e.symm⟩
theorem il_get (ns : List Int) (i : Nat) : (il ns)[i]? = (ns[i]?).map D.int := List.getElem?_map ..
theorem il_set (ns : List Int) (i : Nat) (x : Int) : (il ns).set i (.int x) = il (ns.set i x) := (List.map_set ..).symm
theorem il_app (ns ms : List Int) : il ns ++ il ms = il (ns ++ ms) := (List.map_append ..).symm
theorem il_c (n : Int) (ms : List Int) : D.int n :: il ms = il (n :: ms) := rfl
theorem il_n : ([] : List D) = il [] := rfl
@[simp] theorem il_repl (k : Nat) (c : Int) : List.replicate k (D.int c) = il (List.replicate k c) := List.map_replicate.symm
theorem il_rep (k : Nat) (c : Int) : (List.replicate k [D.int c]).flatten = il (List.replicate k c) := by
  induction k with
  | zero => rfl
  | succ k ih => rw [List.replicate_succ, List.flatten_cons, ih]; rfl
theorem ints_il : ∀ ns : List Int, D.ints (il ns) = some ns
  | [] => rfl
  | n :: ns => by have := ints_il ns; simp only [il, List.map_cons, D.ints] at *; rw [this]; rfl
theorem bls_il : ∀ ns : List Bool, D.bls (ns.map D.bl) = some ns
  | [] => rfl
  | n :: ns => by simp [D.bls, bls_il ns]
@[simp] theorem sum_l (ns : List Int) : cSum [.lst (il ns)] = some (.imm (.int ns.sum)) := by simp [cSum, ints_il]
@[simp] theorem sum_t (ns : List Int) : cSum [.tup (il ns)] = some (.imm (.int ns.sum)) := by simp [cSum, ints_il]
@[simp] theorem all_l (ns : List Bool) : cAll [.lst (ns.map D.bl)] = some (.imm (.bl (ns.all id))) := by simp [cAll, bls_il]
theorem pys_il : ∀ ns : List Int, D.pys (il ns) = some (ns.map PyData.int)
  | [] => by simp [D.pys, il]
  | n :: ns => by have := pys_il ns; simp only [il, List.map_cons, D.pys, D.py] at *; rw [this]; rfl
theorem lay_il : ∀ ns : List Int, PyData.canLayAll0 (ns.map PyData.int) = true
  | [] => rfl
  | _ :: r => by simp [PyData.canLayAll0, PyData.canLay0, lay_il r]
theorem dep_il : ∀ ns : List Int, PyData.depthAll (ns.map PyData.int) = 0
  | [] => rfl
  | _ :: r => by simp [PyData.depthAll, PyData.depth, dep_il r]
theorem eqv_il : ∀ ns ms : List Int, PyData.eqvAll (ns.map PyData.int) (ms.map PyData.int) = decide (ns = ms)
  | [], [] => by simp [PyData.eqvAll]
  | [], _ :: _ => by simp [PyData.eqvAll]
  | _ :: _, [] => by simp [PyData.eqvAll]
  | a :: r, b :: t => by
    simp only [List.map_cons, PyData.eqvAll, PyData.eqv, eqv_il r t]
    by_cases h : a = b <;> by_cases h' : r = t <;> simp [h, h']
@[simp] theorem eq_tt (neg : Bool) (ns ms : List Int) : oEq neg (.tup (il ns)) (.tup (il ms)) = some (.imm (.bl (if neg then !decide (ns = ms) else decide (ns = ms)))) := by
  simp [oEq, D.py, pys_il, SeqAt.shaped, PyData.canLay0, PyData.depth, lay_il, dep_il, PyData.eqv, eqv_il]
@[simp] theorem eq_ll (neg : Bool) (ns ms : List Int) : oEq neg (.lst (il ns)) (.lst (il ms)) = some (.imm (.bl (if neg then !decide (ns = ms) else decide (ns = ms)))) := by
  simp [oEq, D.py, pys_il, SeqAt.shaped, PyData.canLay0, PyData.depth, lay_il, dep_il, PyData.eqv, eqv_il]
@[simp] theorem eq_ii (neg : Bool) (i j : Int) : oEq neg (.int i) (.int j) = some (.imm (.bl (if neg then !decide (i = j) else decide (i = j)))) := by
  cases neg <;> simp [oEq, D.py, SeqAt.shaped, PyData.canLay0, PyData.depth, PyData.eqv, BEq.beq]
@[simp] theorem eq_t2 (neg : Bool) (a b c d : List Int) : oEq neg (.tup [.tup (il a), .tup (il b)]) (.tup [.tup (il c), .tup (il d)]) = some (.imm (.bl (if neg then !decide (a = c ∧ b = d) else decide (a = c ∧ b = d)))) := by
  simp [oEq, D.py, D.pys, pys_il, SeqAt.shaped, PyData.canLay0, PyData.canLayAll0, PyData.depth, PyData.depthAll, lay_il, dep_il, PyData.eqv, PyData.eqvAll, eqv_il]
@[simp] theorem sl_s (lo hi : Option Int) (ns : List Int) : oSl lo hi (.scr ns) = some (.lst (cutD (il ns) lo hi)) := (rfl)
/-- an index that is in range -/
theorem ix_at {xs : List D} {i : Int} {d : D} (h0 : 0 ≤ i) (h : xs[i.toNat]? = some d) : (atI xs i).map SV.imm = some (.imm d) := by
  have h1 : i.toNat < xs.length := (List.getElem?_eq_some_iff.mp h).1
  unfold atI ixN
  rw [if_pos h0, if_pos (by omega)]
  simp [h]
@[simp] theorem isNon_n : Sm.isNon .non = true := (rfl)
@[simp] theorem isNon_i (i : Int) : Sm.isNon (.int i) = false := (rfl)
theorem fld_ins (c f : Str) (ns : List Str) (ds : List D) : oFld c f (.ins c ns ds) = (getF f ns ds).map .imm := if_pos rfl
theorem isi_ins (c : Str) (ns : List Str) (ds : List D) : cIsi c [.ins c ns ds, .cls c] = some (.imm (.bl true)) := if_pos ⟨rfl, rfl⟩
theorem own_eq {neg : Bool} {c : Str} {feq : List D → Option SV} {ns ms : List Str} {ds es : List D} {b : Bool} (h : feq [.ins c ns ds, .ins c ms es] = some (.imm (.bl b))) :
    oEqO neg c feq (.ins c ns ds) (.ins c ms es) = some (.imm (.bl (if neg then !b else b))) := by
  have e : oEq neg (.ins c ns ds) (.ins c ms es) = none := by simp [oEq, D.py]
  unfold oEqO
  rw [e]
  show (if c = c ∧ c = c then _ else _) = _
  rw [if_pos ⟨rfl, rfl⟩, h]
def gt (xs : List Int) (i : Int) : Int := xs.getD i.toNat 0
theorem il_at (xs : List Int) (i : Int) (h0 : 0 ≤ i) (h1 : i < xs.length) : (il xs)[i.toNat]? = some (.int (xs.getD i.toNat 0)) := by
  rw [il_get, List.getD_eq_getElem?_getD, List.getElem?_eq_getElem (by omega)]; rfl
theorem ixt (xs : List Int) (i : Int) (h0 : 0 ≤ i) (h1 : i < xs.length) : oIx (.tup (il xs)) (.int i) = some (.imm (.int (gt xs i))) := ix_at h0 (il_at xs i h0 h1)
theorem ixl (xs : List Int) (i : Int) (h0 : 0 ≤ i) (h1 : i < xs.length) : oIx (.lst (il xs)) (.int i) = some (.imm (.int (gt xs i))) := ix_at h0 (il_at xs i h0 h1)
theorem ixN_ok (n : Nat) (k : Int) (h0 : 0 ≤ k) (h1 : k < n) : ixN n k = some k.toNat := by
  unfold ixN; rw [if_pos h0, if_pos h1]
/-! comprehensions -/
theorem comp_pure {g : D → S → Option S} {t : DT} {e : DE} {vs : List Nat} {s : S} (p : D → Bool) (f : D → D) : ∀ (ds : List D) (acc : List D),
    (∀ d ∈ ds, ∃ s1 s2, g d s = some s1 ∧ t s1 = some (p d, s2) ∧ (p d = false → wipeS s2 vs = s) ∧ (p d = true → ∃ x s3, e s2 = some (x, s3) ∧ x.frz = f d ∧ wipeS s3 vs = s)) →
    compD g t e vs ds s acc = some (acc ++ (ds.filter p).map f, s)
  | [], acc, _ => by simp [compD]
  | d :: ds, acc, h => by
    obtain ⟨s1, s2, h1, h2, h3, h4⟩ := h d (List.mem_cons_self ..)
    have ih := fun acc => comp_pure p f ds acc fun d hd => h d (List.mem_cons_of_mem _ hd)
    cases hp : p d with
    | false =>
      simp only [compD, h1, h2, hp, h3 hp, ih]
      simp [List.filter_cons, hp]
    | true =>
      obtain ⟨x, s3, h5, h6, h7⟩ := h4 hp
      simp only [compD, h1, h2, hp, h5, h6, h7, ih]
      simp [List.filter_cons, hp]
theorem comp_map {g : D → S → Option S} {e : DE} {vs : List Nat} {s : S} (f : D → D) (ds : List D)
    (h : ∀ d ∈ ds, ∃ s1 x s3, g d s = some s1 ∧ e s1 = some (x, s3) ∧ x.frz = f d ∧ wipeS s3 vs = s) :
    compD g dYes e vs ds s [] = some (ds.map f, s) := by
  have z := comp_pure (t := dYes) (vs := vs) (s := s) (g := g) (e := e) (fun _ => true) f ds [] fun d hd => by
    obtain ⟨s1, x, s3, a, b, c, k⟩ := h d hd
    exact ⟨s1, s1, a, rfl, fun e => (by cases e), fun _ => ⟨x, s3, b, c, k⟩⟩
  rw [z, List.filter_eq_self.mpr fun _ _ => rfl]
  rfl
theorem comp_gN {e : DE} {v : Nat} {s : S} {ns : List Int} (f : Int → D) (hs : s[v]? = some none)
    (he : ∀ i ∈ ns, e (s.set v (some (.imm (.int i)))) = some (.imm (f i), s.set v (some (.imm (.int i))))) :
    compD (gN v) dYes e [v] (il ns) s [] = some (ns.map f, s) := by
  have back : ∀ i : Int, (s.set v (some (.imm (.int i)))).set v none = s := fun i => by
    rw [List.set_set]
    apply List.ext_getElem?
    intro j
    by_cases hj : v = j
    · subst hj
      rw [hs, List.getElem?_set_self (List.getElem?_eq_some_iff.mp hs).1]
    · rw [List.getElem?_set_ne hj]
  have z := comp_map (g := gN v) (e := e) (vs := [v]) (s := s) (fun d => match d with | .int i => f i | d => d) (il ns) fun d hd => by
    obtain ⟨i, hi, rfl⟩ := il_mem hd
    exact ⟨_, _, _, rfl, he i hi, rfl, back i⟩
  rw [z, il, List.map_map]
  rfl
theorem comp_gI {e : DE} {v : Nat} {s : S} {ns : List Int} (f : Int → Int) (hs : s[v]? = some none)
    (he : ∀ i ∈ ns, e (s.set v (some (.imm (.int i)))) = some (.imm (.int (f i)), s.set v (some (.imm (.int i))))) :
    compD (gN v) dYes e [v] (il ns) s [] = some (il (ns.map f), s) := by
  rw [comp_gN (fun i => .int (f i)) hs he, il, List.map_map]
  rfl
/-- .. over a state that moves: what each gives is an int of a kind -/
theorem comp_draw {g : D → S → Option S} {e : DE} {vs : List Nat} (I : Nat → S → Prop) (P : Int → Prop) (c : Nat)
    (he : ∀ k s d, I (k + c) s → ∃ s1 r s2, g d s = some s1 ∧ e s1 = some (.imm (.int r), s2) ∧ P r ∧ I k (wipeS s2 vs)) :
    ∀ (ds : List D) (k : Nat) (s : S) (acc : List D), I (k + c * ds.length) s → ∃ (rs : List Int) (s' : S), compD g dYes e vs ds s acc = some (acc ++ il rs, s') ∧ rs.length = ds.length ∧ (∀ r ∈ rs, P r) ∧ I k s'
  | [], k, s, acc, h => ⟨[], s, by simp [compD, il], rfl, by simp, by simpa using h⟩
  | d :: ds, k, s, acc, h => by
    obtain ⟨s1, r, s2, h1, h2, h3, h4⟩ := he (k + c * ds.length) s d (by rw [show k + c * ds.length + c = k + c * (d :: ds).length by simp [Nat.mul_add, Nat.add_assoc]]; exact h)
    obtain ⟨rs, s', a1, a2, a3, a4⟩ := comp_draw I P c he ds k _ (acc ++ [.int r]) h4
    refine ⟨r :: rs, s', ?_, by simp [a2], ?_, a4⟩
    · simp only [compD, h1, h2, dYes, frz_imm, a1]
      simp [il]
    · intro x hx
      rcases List.mem_cons.mp hx with h | h
      · exact h ▸ h3
      · exact a3 x h
end Sm
/-! Rows that go round: plain sums. -/
namespace Sm
def sm (f : Int → Int) : Nat → Int
  | 0 => 0
  | n + 1 => sm f n + f (n : Int)
theorem sm_congr {f g : Int → Int} : ∀ {n : Nat}, (∀ i : Nat, i < n → f i = g i) → sm f n = sm g n
  | 0, _ => rfl
  | n + 1, h => by rw [sm, sm, sm_congr fun i hi => h i (by omega), h n (by omega)]
theorem sm_add (f g : Int → Int) : ∀ n : Nat, sm (fun i => f i + g i) n = sm f n + sm g n
  | 0 => rfl
  | n + 1 => by rw [sm, sm, sm, sm_add f g n]; omega
theorem sm_mul (c : Int) (f : Int → Int) : ∀ n : Nat, sm (fun i => c * f i) n = c * sm f n
  | 0 => by simp [sm]
  | n + 1 => by rw [sm, sm, sm_mul c f n, Int.mul_add]
theorem sm_mul' (c : Int) (f : Int → Int) (n : Nat) : sm (fun i => f i * c) n = sm f n * c := by
  rw [Int.mul_comm, ← sm_mul]; exact sm_congr fun i _ => Int.mul_comm _ _
theorem sm_zero : ∀ n : Nat, sm (fun _ => 0) n = 0
  | 0 => rfl
  | n + 1 => by rw [sm, sm_zero n]; rfl
theorem sm_const (c : Int) : ∀ n : Nat, sm (fun _ => c) n = n * c
  | 0 => by simp [sm]
  | n + 1 => by rw [sm, sm_const c n]; push_cast; grind
theorem sm_swap (f : Int → Int → Int) (m : Nat) : ∀ n : Nat, sm (fun i => sm (fun j => f i j) m) n = sm (fun j => sm (fun i => f i j) n) m
  | 0 => by simp only [sm]; exact (sm_zero m).symm
  | n + 1 => by
    simp only [sm]
    rw [sm_swap f m n, sm_add]
theorem sm_one (f : Int → Int) (k : Nat) : ∀ n : Nat, k < n → sm (fun i => if i = (k : Int) then f i else 0) n = f k
  | 0, h => by omega
  | n + 1, h => by
    rw [sm]
    by_cases hk : k = n
    · subst hk
      rw [sm_congr (g := fun _ => 0) fun i hi => if_neg (by omega), sm_zero]; simp
    · rw [sm_one f k n (by omega), if_neg (by omega)]; simp
theorem sm_first (f : Int → Int) : ∀ n : Nat, sm f (n + 1) = f 0 + sm (fun i => f (i + 1)) n
  | 0 => by simp [sm]
  | n + 1 => by rw [sm, sm_first f n, sm]; push_cast; omega
theorem sm_rev (f : Int → Int) : ∀ n : Nat, sm (fun i => f ((n : Int) - 1 - i)) n = sm f n
  | 0 => rfl
  | n + 1 => by
    rw [sm_first]
    have := sm_rev f n
    rw [sm]
    rw [← this, show ((n + 1 : Nat) : Int) - 1 - 0 = n by omega, Int.add_comm]
    congr 1
    exact sm_congr fun i _ => congrArg f (by omega)
def Per (n : Nat) (f : Int → Int) : Prop := ∀ i : Int, f (i + n) = f i
section
variable {n : Nat} {f g h : Int → Int}
theorem sm_step (p : Per n f) (c : Int) : sm (fun i => f (i + (c + 1))) n = sm (fun i => f (i + c)) n := by
  have a := sm_first (fun i => f (i + c)) n
  rw [sm] at a
  have b : f ((n : Int) + c) = f (0 + c) := by rw [show (n : Int) + c = (0 + c) + n by omega]; exact p _
  have e : sm (fun i => f (i + (c + 1))) n = sm (fun i => f (i + 1 + c)) n := sm_congr fun i _ => congrArg f (by omega)
  rw [e]
  omega
theorem sm_shift (p : Per n f) (c : Int) : sm (fun i => f (i + c)) n = sm f n := by
  have h0 : sm (fun i => f (i + 0)) n = sm f n := sm_congr fun i _ => congrArg f (by omega)
  have up : ∀ k : Nat, sm (fun i => f (i + (k : Int))) n = sm f n := by
    intro k
    induction k with
    | zero => exact h0
    | succ k ih => rw [← ih, ← sm_step p k]; exact sm_congr fun i _ => congrArg f (by omega)
  have dn : ∀ k : Nat, sm (fun i => f (i + -(k : Int))) n = sm f n := by
    intro k
    induction k with
    | zero => exact h0
    | succ k ih => rw [← ih, show -(k : Int) = -((k + 1 : Nat) : Int) + 1 by omega, sm_step p]
  rcases Int.le_total 0 c with hc | hc
  · have := up c.toNat; rwa [Int.toNat_of_nonneg hc] at this
  · have := dn (-c).toNat; rwa [Int.toNat_of_nonneg (by omega), Int.neg_neg] at this
theorem Per.neg (p : Per n f) (k : Int) : Per n fun i => f (k - i) := fun i => by
  show f (k - (i + n)) = f (k - i)
  have := p (k - (i + n)); rw [← this]; exact congrArg f (by omega)
theorem sm_refl (p : Per n f) (k : Int) : sm (fun i => f (k - i)) n = sm f n := by
  rw [← sm_rev f n, ← sm_shift (p.neg k) (k - (n : Int) + 1)]
  exact sm_congr fun i _ => congrArg f (by omega)
/-- the round product -/
def cv (n : Nat) (f g : Int → Int) (k : Int) : Int := sm (fun i => f i * g (k - i)) n
theorem Per.cv (p : Per n g) : Per n (cv n f g) := fun k => sm_congr fun i _ => by
  rw [show k + (n : Int) - i = k - i + n by omega, p]
theorem Per.mul (p : Per n f) (q : Per n g) : Per n fun i => f i * g i := fun i => by simp only [p i, q i]
theorem cv_comm (p : Per n f) (q : Per n g) (k : Int) : cv n f g k = cv n g f k := by
  have e := sm_refl (f := fun i => f i * g (k - i)) (Per.mul p (q.neg k)) k
  rw [cv, ← e]
  exact sm_congr fun i _ => by
    rw [show k - (k - (i : Int)) = i by omega, Int.mul_comm]
theorem cv_assoc (p : Per n f) (q : Per n g) (r : Per n h) (k : Int) : cv n (cv n f g) h k = cv n f (cv n g h) k := by
  have e1 : cv n (cv n f g) h k = sm (fun i => sm (fun j => f j * (g (i - j) * h (k - i))) n) n := sm_congr fun i _ => by
    rw [cv, ← sm_mul']; exact sm_congr fun j _ => Int.mul_assoc ..
  rw [e1, sm_swap]
  exact sm_congr fun j _ => by
    rw [sm_mul, cv]
    congr 1
    have e2 := sm_shift (f := fun i => g (i - j) * h (k - i)) (fun i => by
      simp only
      rw [show i + (n : Int) - j = i - j + n by omega, q, show k - i = k - (i + n) + n by omega, r]) j
    rw [← e2]
    exact sm_congr fun i _ => by
      rw [show (i : Int) + j - j = i by omega, show k - ((i : Int) + j) = k - j - i by omega]
theorem cv_add (k : Int) : cv n f (fun i => g i + h i) k = cv n f g k + cv n f h k := by
  rw [cv, cv, cv, ← sm_add]; exact sm_congr fun i _ => Int.mul_add ..
theorem cv_mulL (c : Int) (k : Int) : cv n (fun i => c * f i) g k = c * cv n f g k := by
  rw [cv, cv, ← sm_mul]; exact sm_congr fun i _ => Int.mul_assoc ..
theorem cv_const (c : Int) (k : Int) : cv n f (fun _ => c) k = sm f n * c := by rw [cv, sm_mul']
theorem sm_cv (q : Per n g) : sm (cv n f g) n = sm f n * sm g n := by
  have e : sm (cv n f g) n = sm (fun i => sm (fun k => f i * g (k - i)) n) n := sm_swap _ _ _
  rw [e, ← sm_mul']
  exact sm_congr fun i _ => by
    rw [sm_mul, ← sm_shift q (-(i : Int))]; congr 1
/-- one mark -/
def dlt (n : Nat) (i : Int) : Int := if i % (n : Int) = 0 then 1 else 0
theorem dlt_per : Per n (dlt n) := fun i => by unfold dlt; rw [Int.add_emod_right]
theorem cv_dlt (p : Per n f) (hn : 0 < n) (b k : Int) : cv n f (fun i => dlt n (i - b)) k = f (k - b) := by
  have q : Per n fun i => dlt n (i - b) := fun i => by
    simp only
    rw [show i + (n : Int) - b = i - b + n by omega]; exact dlt_per _
  rw [cv_comm p q, cv]
  have e := sm_shift (f := fun i => dlt n (i - b) * f (k - i)) (Per.mul q (p.neg k)) b
  rw [← e]
  have e2 : sm (fun i => dlt n (i + b - b) * f (k - (i + b))) n = sm (fun i => if i = ((0 : Nat) : Int) then f (k - b) else 0) n := sm_congr fun i hi => by
    rw [show (i : Int) + b - b = i by omega]
    unfold dlt
    rw [Int.emod_eq_of_lt (by omega) (by omega)]
    by_cases h : (i : Int) = 0
    · rw [if_pos h, if_pos (by simpa using h), h, Int.one_mul]; congr 1; omega
    · rw [if_neg h, if_neg (by simpa using h), Int.zero_mul]
  rw [e2, sm_one (fun _ => f (k - b)) 0 n hn]
end
/-! ### lists of what goes round -/
def tab (n : Nat) (f : Int → Int) : List Int := (List.range n).map fun (k : Nat) => f (k : Int)
def fnL (xs : List Int) (i : Int) : Int := xs.getD (i % (xs.length : Int)).toNat 0
theorem tab_len (n : Nat) (f : Int → Int) : (tab n f).length = n := by simp [tab]
theorem tab_get {n : Nat} {f : Int → Int} {i : Nat} (h : i < n) : (tab n f)[i]? = some (f i) := by simp [tab, h]
theorem tab_congr {n : Nat} {f g : Int → Int} (h : ∀ i : Nat, i < n → f i = g i) : tab n f = tab n g :=
  List.map_congr_left fun i hi => h i (List.mem_range.mp hi)
theorem fnL_per (xs : List Int) : Per xs.length (fnL xs) := fun i => by unfold fnL; rw [Int.add_emod_right]
theorem tab_fnL (xs : List Int) : tab xs.length (fnL xs) = xs := by
  apply List.ext_getElem?
  intro i
  by_cases h : i < xs.length
  · rw [tab_get h]; unfold fnL
    rw [Int.emod_eq_of_lt (by omega) (by omega), Int.toNat_natCast, List.getD_eq_getElem?_getD, List.getElem?_eq_getElem h]; rfl
  · rw [List.getElem?_eq_none (by rw [tab_len]; omega), List.getElem?_eq_none (by omega)]
theorem tab_map (n : Nat) (f : Int → Int) (g : Int → Int) : (tab n f).map g = tab n fun i => g (f i) := by simp [tab, Function.comp_def]
theorem tab_zip (n : Nat) (f g : Int → Int) (h : Int → Int → Int) : List.zipWith h (tab n f) (tab n g) = tab n fun i => h (f i) (g i) := by
  simp [tab, List.zipWith_map]
theorem tab_rep (n : Nat) (c : Int) : List.replicate n c = tab n fun _ => c := by simp [tab, List.map_const']
theorem sum_tab (f : Int → Int) : ∀ n : Nat, (tab n f).sum = sm f n
  | 0 => rfl
  | n + 1 => by
    have := sum_tab f n
    unfold tab at this ⊢
    rw [List.range_succ, List.map_append, List.sum_append, this]; simp [sm]
theorem tab_one {n : Nat} (hn : 0 < n) : 1 :: List.replicate (n - 1) 0 = tab n (dlt n) := by
  apply List.ext_getElem?
  intro i
  by_cases h : i < n
  · rw [tab_get h]
    unfold dlt
    rw [Int.emod_eq_of_lt (by omega) (by omega)]
    cases i with
    | zero => rfl
    | succ i => rw [List.getElem?_cons_succ, List.getElem?_replicate, if_pos (by omega), if_neg (by omega)]
  · rw [List.getElem?_eq_none (by simp; omega), List.getElem?_eq_none (by rw [tab_len]; omega)]
theorem per_mod {n : Nat} {f : Int → Int} (p : Per n f) (hn : 0 < n) (i : Int) : f (i % n) = f i := by
  have up : ∀ (k : Nat) (j : Int), f (j + n * k) = f j := by
    intro k
    induction k with
    | zero => intro j; simp
    | succ k ih => intro j; rw [show j + (n : Int) * ((k + 1 : Nat) : Int) = (j + n * k) + n by push_cast; grind, p, ih]
  have e := Int.emod_add_mul_ediv i n
  rcases Int.le_total 0 (i / n) with h | h
  · have := up (i / n).toNat (i % n)
    rw [Int.toNat_of_nonneg h, e] at this
    exact this.symm
  · have := up (-(i / n)).toNat i
    rw [Int.toNat_of_nonneg (by omega)] at this
    rw [← this]; congr 1; grind
theorem fnL_tab {n : Nat} {f : Int → Int} (p : Per n f) (hn : 0 < n) : fnL (tab n f) = f := funext fun i => by
  unfold fnL
  have h0 := Int.emod_nonneg i (b := (n : Int)) (by omega)
  have h1 := Int.emod_lt_of_pos i (b := (n : Int)) (by omega)
  rw [tab_len, List.getD_eq_getElem?_getD, tab_get (by omega), Option.getD_some, Int.toNat_of_nonneg h0, per_mod p hn]
/-- an entry, by an index already taken round -/
theorem tab_at {n : Nat} {f : Int → Int} (p : Per n f) (hn : 0 < n) (i : Int) : (tab n f)[(i % (n : Int)).toNat]? = some (f i) := by
  have h0 := Int.emod_nonneg i (b := (n : Int)) (by omega)
  have h1 := Int.emod_lt_of_pos i (b := (n : Int)) (by omega)
  rw [tab_get (by omega), Int.toNat_of_nonneg h0, per_mod p hn]
/-! ### adding at an index, many times -/
theorem bump_il (f : List Int) (k v : Int) : (il f).set k.toNat (.int (gt f k + v)) = il (f.set k.toNat (f.getD k.toNat 0 + v)) := il_set ..
def bump (f : List Int) (k : Nat) (v : Int) : List Int := f.set k (f.getD k 0 + v)
theorem bump_len (f : List Int) (k : Nat) (v : Int) : (bump f k v).length = f.length := by simp [bump]
theorem bump_get (f : List Int) (k : Nat) (v : Int) (i : Nat) (hi : i < f.length) : (bump f k v).getD i 0 = f.getD i 0 + if k = i then v else 0 := by
  unfold bump
  by_cases h : k = i
  · subst h; simp [hi]
  · simp [h, List.getElem?_set_ne h]
def bumps (n : Nat) (a : Int) (c : Int → Int) : List Int → List Int → List Int
  | f, [] => f
  | f, j :: js => bumps n a c (bump f ((a + j) % (n : Int)).toNat (c j)) js
theorem bumps_len (n : Nat) (a : Int) (c : Int → Int) : ∀ (js f : List Int), (bumps n a c f js).length = f.length
  | [], f => rfl
  | j :: js, f => by rw [bumps, bumps_len n a c js, bump_len]
theorem bumps_get (n : Nat) (a : Int) (c : Int → Int) (i : Nat) : ∀ (js f : List Int), i < f.length → (bumps n a c f js).getD i 0 = f.getD i 0 + (js.map fun j => if ((a + j) % (n : Int)).toNat = i then c j else 0).sum
  | [], f, h => by simp [bumps]
  | j :: js, f, h => by rw [bumps, bumps_get n a c i js _ (by rw [bump_len]; exact h), bump_get _ _ _ _ h, List.map_cons, List.sum_cons]; omega
def bumpss (n : Nat) (c : Int → Int → Int) (js : List Int) : List Int → List Int → List Int
  | f, [] => f
  | f, i :: is => bumpss n c js (bumps n i (c i) f js) is
theorem bumpss_len (n : Nat) (c : Int → Int → Int) (js : List Int) : ∀ (is f : List Int), (bumpss n c js f is).length = f.length
  | [], f => rfl
  | i :: is, f => by rw [bumpss, bumpss_len n c js is, bumps_len]
theorem bumpss_get (n : Nat) (c : Int → Int → Int) (js : List Int) (k : Nat) : ∀ (is f : List Int), k < f.length →
    (bumpss n c js f is).getD k 0 = f.getD k 0 + (is.map fun i => (js.map fun j => if ((i + j) % (n : Int)).toNat = k then c i j else 0).sum).sum
  | [], f, h => by simp [bumpss]
  | i :: is, f, h => by rw [bumpss, bumpss_get n c js k is _ (by rw [bumps_len]; exact h), bumps_get _ _ _ _ _ _ h, List.map_cons, List.sum_cons]; omega
/-- where a row is not nought -/
def marks : Int → List Int → List Int
  | _, [] => []
  | k, x :: xs => if x = 0 then marks (k + 1) xs else k :: marks (k + 1) xs
theorem marks_tab (n : Nat) (f : Int → Int) : marks 0 (tab n f) = ((List.range n).filter fun (i : Nat) => f (i : Int) ≠ 0).map fun (i : Nat) => (i : Int) := by
  have key : ∀ (m k : Nat), marks k ((List.range' k m).map fun (i : Nat) => f (i : Int)) = ((List.range' k m).filter fun (i : Nat) => f (i : Int) ≠ 0).map fun (i : Nat) => (i : Int) := by
    intro m
    induction m with
    | zero => intro k; rfl
    | succ m ih =>
      intro k
      rw [List.range'_succ, List.map_cons, marks, List.filter_cons]
      have := ih (k + 1)
      by_cases h : f (k : Int) = 0
      · rw [if_pos h, if_neg (by simpa using h)]; simpa using this
      · rw [if_neg h, if_pos (by simpa using h), List.map_cons]; simpa using this
  have := key n 0
  rw [← List.range_eq_range'] at this
  exact this
theorem marks_sum (n : Nat) (f g : Int → Int) (h : ∀ i : Nat, i < n → f i = 0 → g i = 0) : ((marks 0 (tab n f)).map g).sum = sm g n := by
  rw [marks_tab]
  induction n with
  | zero => rfl
  | succ n ih =>
    rw [List.range_succ, List.filter_append, List.map_append, List.map_append, List.sum_append, ih fun i hi => h i (by omega), sm]
    congr 1
    by_cases h0 : f (n : Int) = 0
    · simp [h0, h n (by omega) h0]
    · simp [h0]
theorem marks_in (n : Nat) (f : Int → Int) {i : Int} (h : i ∈ marks 0 (tab n f)) : 0 ≤ i ∧ i < n := by
  rw [marks_tab] at h
  obtain ⟨j, hj, rfl⟩ := List.mem_map.mp h
  have := List.mem_range.mp (List.mem_filter.mp hj).1
  omega
theorem tab_sum (n : Nat) (g : Int → Int) : ((tab n fun i => i).map g).sum = sm g n := by rw [tab_map, sum_tab]
/-- the terms that meet at k -/
theorem meet {n : Nat} (hn : 0 < n) (f g : Int → Int) (q : Per n g) (k : Nat) (hk : k < n) :
    sm (fun i => sm (fun j => if ((i + j) % (n : Int)).toNat = k then f i * g j else 0) n) n = cv n f g k := sm_congr fun i hi => by
  have h0 := Int.emod_nonneg ((k : Int) - i) (b := (n : Int)) (by omega)
  have h1 := Int.emod_lt_of_pos ((k : Int) - i) (b := (n : Int)) (by omega)
  have e : sm (fun j => if (((i : Int) + j) % (n : Int)).toNat = k then f i * g j else 0) n = sm (fun j => if j = ((((k : Int) - i) % (n : Int)).toNat : Int) then f i * g j else 0) n := sm_congr fun j hj => by
    have a0 := Int.emod_nonneg ((i : Int) + j) (b := (n : Int)) (by omega)
    have e1 : (((i : Int) + j) % (n : Int)).toNat = k ↔ (j : Int) = ((((k : Int) - i) % (n : Int)).toNat : Int) := by
      rw [Int.toNat_of_nonneg h0]
      constructor
      · intro z
        have z' : ((i : Int) + j) % (n : Int) = k := by omega
        rw [← z', Int.emod_sub_emod, show (i : Int) + j - i = j by omega, Int.emod_eq_of_lt (by omega) (by omega)]
      · intro z
        rw [z, Int.add_emod_emod, show (i : Int) + (k - i) = k by omega, Int.emod_eq_of_lt (by omega) (by omega), Int.toNat_natCast]
    by_cases z : (((i : Int) + j) % (n : Int)).toNat = k
    · rw [if_pos z, if_pos (e1.mp z)]
    · rw [if_neg z, if_neg fun y => z (e1.mpr y)]
  rw [e, sm_one (fun j => f i * g j) _ n (by omega), Int.toNat_of_nonneg h0, per_mod q hn]
theorem list_of {n : Nat} {xs : List Int} {f : Int → Int} (hl : xs.length = n) (h : ∀ i : Nat, i < n → xs.getD i 0 = f i) : xs = tab n f := by
  apply List.ext_getElem?
  intro i
  by_cases hi : i < n
  · rw [tab_get hi, ← h i hi, List.getD_eq_getElem?_getD, List.getElem?_eq_getElem (by omega)]; rfl
  · rw [List.getElem?_eq_none (by omega), List.getElem?_eq_none (by rw [tab_len]; omega)]
theorem prod_marks {n : Nat} (hn : 0 < n) (f g : Int → Int) (q : Per n g) (f' g' : Int → Int) (hf : ∀ i : Int, 0 ≤ i → i < n → f' i = f i) (hg : ∀ i : Int, 0 ≤ i → i < n → g' i = g i) :
    bumpss n (fun i j => f' i * g' j) (marks 0 (tab n g)) (List.replicate n 0) (marks 0 (tab n f)) = tab n (cv n f g) := by
  refine list_of (by rw [bumpss_len]; simp) fun k hk => ?_
  rw [bumpss_get _ _ _ _ _ _ (by simpa using hk), show (List.replicate n (0 : Int)).getD k 0 = 0 by simp [hk], Int.zero_add, ← meet hn f g q k hk]
  rw [marks_sum n f]
  · refine sm_congr fun i hi => ?_
    rw [marks_sum n g]
    · refine sm_congr fun j hj => ?_
      rw [hf i (by omega) (by omega), hg j (by omega) (by omega)]
    · intro j hj z; rw [hg j (by omega) (by omega), z, Int.mul_zero]; exact ite_self _
  · intro i hi z
    have key : ∀ l : List Int, (l.map fun _ => (0 : Int)).sum = 0 := fun l => by
      induction l with
      | nil => rfl
      | cons a l ih => rw [List.map_cons, List.sum_cons, ih]; rfl
    rw [hf i (by omega) (by omega), z]
    simp only [Int.zero_mul, ite_self]
    exact key _
theorem prod_all {n : Nat} (hn : 0 < n) (f g : Int → Int) (q : Per n g) (f' g' : Int → Int) (hf : ∀ i : Int, 0 ≤ i → i < n → f' i = f i) (hg : ∀ i : Int, 0 ≤ i → i < n → g' i = g i) :
    bumpss n (fun i j => f' i * g' j) (tab n fun i => i) (List.replicate n 0) (tab n fun i => i) = tab n (cv n f g) := by
  refine list_of (by rw [bumpss_len]; simp) fun k hk => ?_
  rw [bumpss_get _ _ _ _ _ _ (by simpa using hk), show (List.replicate n (0 : Int)).getD k 0 = 0 by simp [hk], Int.zero_add, ← meet hn f g q k hk]
  rw [tab_sum]
  refine sm_congr fun i hi => ?_
  rw [tab_sum]
  refine sm_congr fun j hj => ?_
  rw [hf i (by omega) (by omega), hg j (by omega) (by omega)]
theorem loop_nil (g : D → S → Option S) (b : DS) (st : S) : loopD g b (il []) st = some (.nx, st) := rfl
theorem loop_il (g : D → S → Option S) (b : DS) (i : Int) (is : List Int) (st : S) : loopD g b (il (i :: is)) st = match g (.int i) st with
    | none => none
    | some s1 => match b s1 with
      | some (.nx, s2) => loopD g b (il is) s2
      | some (.ct, s2) => loopD g b (il is) s2
      | some (.bk, s2) => some (.nx, s2)
      | some (.rt sv, s2) => some (.rt sv, s2)
      | none => none := rfl
theorem range_il (n : Nat) : rangeD 0 n = il (tab n fun i => i) := by
  unfold rangeD il tab
  rw [List.map_map]
  exact List.map_congr_left fun i _ => by simp
theorem rng1_nat (n : Nat) (s : S) (h : n ≤ 1000000) : rng1 (n : Int) s = some (il (tab n fun i => i), s) := by
  rw [rng1, if_pos (by rw [B62_eq]; exact ⟨by omega, by omega⟩), Int.toNat_natCast, range_il]
theorem tab_getD {n : Nat} {f : Int → Int} (i : Int) (h0 : 0 ≤ i) (h1 : i < n) : gt (tab n f) i = f i := by
  rw [gt, List.getD_eq_getElem?_getD, tab_get (by omega), Option.getD_some, Int.toNat_of_nonneg h0]
theorem tab_mem {n : Nat} {f : Int → Int} {i : Int} (h : i ∈ tab n f) : ∃ k : Nat, k < n ∧ i = f k := by
  obtain ⟨k, hk, e⟩ := List.mem_map.mp h
  exact ⟨k, List.mem_range.mp hk, e.symm⟩
end Sm
/-! More builtins: max, min, sorted of whole numbers. -/
namespace Sm
noncomputable section
open PySem L2 Evl PyProof.Rows
/-! ### greatest, least, in order -/
def topI (n : Int) (ns : List Int) : Int := ns.foldl (fun a b => if b > a then b else a) n
def botI (n : Int) (ns : List Int) : Int := ns.foldl (fun a b => if b < a then b else a) n
theorem topI_ge : ∀ (ns : List Int) (n : Int), n ≤ topI n ns ∧ (∀ y ∈ ns, y ≤ topI n ns) ∧ (topI n ns = n ∨ topI n ns ∈ ns)
  | [], n => ⟨Int.le_refl _, by simp, .inl rfl⟩
  | b :: ns, n => by
    have e : topI n (b :: ns) = topI (if b > n then b else n) ns := rfl
    obtain ⟨h1, h2, h3⟩ := topI_ge ns (if b > n then b else n)
    rw [e]
    by_cases hb : b > n
    · rw [if_pos hb] at *
      refine ⟨by omega, fun y hy => ?_, ?_⟩
      · rcases List.mem_cons.mp hy with rfl | h
        · exact h1
        · exact h2 y h
      · rcases h3 with h | h
        · exact .inr (List.mem_cons.mpr (.inl h))
        · exact .inr (List.mem_cons_of_mem _ h)
    · rw [if_neg hb] at *
      refine ⟨h1, fun y hy => ?_, ?_⟩
      · rcases List.mem_cons.mp hy with rfl | h
        · omega
        · exact h2 y h
      · rcases h3 with h | h
        · exact .inl h
        · exact .inr (List.mem_cons_of_mem _ h)
theorem botI_le : ∀ (ns : List Int) (n : Int), botI n ns ≤ n ∧ (∀ y ∈ ns, botI n ns ≤ y) ∧ (botI n ns = n ∨ botI n ns ∈ ns)
  | [], n => ⟨Int.le_refl _, by simp, .inl rfl⟩
  | b :: ns, n => by
    have e : botI n (b :: ns) = botI (if b < n then b else n) ns := rfl
    obtain ⟨h1, h2, h3⟩ := botI_le ns (if b < n then b else n)
    rw [e]
    by_cases hb : b < n
    · rw [if_pos hb] at *
      refine ⟨by omega, fun y hy => ?_, ?_⟩
      · rcases List.mem_cons.mp hy with rfl | h
        · exact h1
        · exact h2 y h
      · rcases h3 with h | h
        · exact .inr (List.mem_cons.mpr (.inl h))
        · exact .inr (List.mem_cons_of_mem _ h)
    · rw [if_neg hb] at *
      refine ⟨h1, fun y hy => ?_, ?_⟩
      · rcases List.mem_cons.mp hy with rfl | h
        · omega
        · exact h2 y h
      · rcases h3 with h | h
        · exact .inl h
        · exact .inr (List.mem_cons_of_mem _ h)
theorem topI_uniq {n : Int} {ns : List Int} {m : Int} (h1 : m ∈ n :: ns) (h2 : ∀ y ∈ n :: ns, y ≤ m) : m = topI n ns := by
  obtain ⟨a, b, c⟩ := topI_ge ns n
  refine Int.le_antisymm ?_ ?_
  · rcases List.mem_cons.mp h1 with rfl | h
    · exact a
    · exact b m h
  · rcases c with c | c
    · rw [c]; exact h2 n (List.mem_cons_self ..)
    · exact h2 _ (List.mem_cons_of_mem _ c)
theorem botI_uniq {n : Int} {ns : List Int} {m : Int} (h1 : m ∈ n :: ns) (h2 : ∀ y ∈ n :: ns, m ≤ y) : m = botI n ns := by
  obtain ⟨a, b, c⟩ := botI_le ns n
  refine Int.le_antisymm ?_ ?_
  · rcases c with c | c
    · rw [c]; exact h2 n (List.mem_cons_self ..)
    · exact h2 _ (List.mem_cons_of_mem _ c)
  · rcases List.mem_cons.mp h1 with rfl | h
    · exact a
    · exact b m h
def sortI (ns : List Int) : List Int := ns.mergeSort (fun a b => decide (a ≤ b))
theorem sortI_perm (ns : List Int) : (sortI ns).Perm ns := List.mergeSort_perm ..
theorem sortI_sorted (ns : List Int) : (sortI ns).Pairwise (· ≤ ·) := by
  have := List.pairwise_mergeSort (le := fun a b : Int => decide (a ≤ b)) (fun a b c h1 h2 => by simp at *; omega) (fun a b => by simp; omega) ns
  exact this.imp fun h => by simpa using h
theorem sortI_uniq {ns ms : List Int} (h1 : ms.Perm ns) (h2 : ms.Pairwise (· ≤ ·)) : ms = sortI ns :=
  List.Perm.eq_of_pairwise (le := (· ≤ ·)) (fun a b _ _ => Int.le_antisymm) h2 (sortI_sorted ns) (h1.trans (sortI_perm ns).symm)
section
variable {X : Cx}
def cMax : List D → Option SV
  | [.lst xs] => match D.ints xs with
    | some (n :: ns) => some (.imm (.int (topI n ns)))
    | _ => none
  | [.int i, .int j] => some (.imm (.int (if j > i then j else i)))
  | _ => none
def cMin : List D → Option SV
  | [.lst xs] => match D.ints xs with
    | some (n :: ns) => some (.imm (.int (botI n ns)))
    | _ => none
  | [.int i, .int j] => some (.imm (.int (if j < i then j else i)))
  | _ => none
def cSorted : List D → Option SV
  | [.lst xs] => (D.ints xs).map fun ns => .lst (il (sortI ns))
  | _ => none
theorem cs_max (hc : X.calm = true) : CallS X (.builtin "max") cMax := by
  refine ⟨_, (cr_max hc).or (call_max2 hc), ?_⟩
  intro G F H st σ ds vs sv Q R r e k
  unfold cMax at e
  split at e
  · rename_i xs
    split at e
    · rename_i n ns q
      cases e
      rw [D.ints_eq q] at r
      obtain ⟨v, rfl, h⟩ := r.one
      obtain ⟨a, us, rfl, ha, ra⟩ := h.lst_inv
      rw [ra.ints] at ha
      exact .inl ⟨a, n :: ns, rfl, .inl (.inl (R.f _ _ ha)), by simp, fun m h1 h2 => by rw [topI_uniq h1 h2]; exact k.imm R (.int _)⟩
    · cases e
  · cases e
    obtain ⟨v, w, rfl, h1, h2⟩ := r.two
    cases h1; cases h2
    exact .inr ⟨_, _, rfl, k.imm R (.int _)⟩
  · cases e
theorem cs_min (hc : X.calm = true) : CallS X (.builtin "min") cMin := by
  refine ⟨_, (cr_min hc).or (call_min2 hc), ?_⟩
  intro G F H st σ ds vs sv Q R r e k
  unfold cMin at e
  split at e
  · rename_i xs
    split at e
    · rename_i n ns q
      cases e
      rw [D.ints_eq q] at r
      obtain ⟨v, rfl, h⟩ := r.one
      obtain ⟨a, us, rfl, ha, ra⟩ := h.lst_inv
      rw [ra.ints] at ha
      exact .inl ⟨a, n :: ns, rfl, .inl (.inl (R.f _ _ ha)), by simp, fun m h1 h2 => by rw [botI_uniq h1 h2]; exact k.imm R (.int _)⟩
    · cases e
  · cases e
    obtain ⟨v, w, rfl, h1, h2⟩ := r.two
    cases h1; cases h2
    exact .inr ⟨_, _, rfl, k.imm R (.int _)⟩
  · cases e
theorem rds_ints {K : PySem.W.Frag} {mg : Str → Option Value} {F : Hp} : ∀ ns : List Int, RDs K mg F (il ns) (ns.map V.int)
  | [] => .nil
  | n :: ns => .cons (.int n) (rds_ints ns)
theorem cs_sorted : CallS X (.builtin "sorted") cSorted := by
  refine ⟨_, cr_sortedI, ?_⟩
  intro G F H st σ ds vs sv Q R r e k
  unfold cSorted at e
  split at e
  · rename_i xs
    cases q : D.ints xs with
    | none => rw [q] at e; cases e
    | some ns =>
      rw [q] at e
      cases e
      rw [D.ints_eq q] at r
      obtain ⟨v, rfl, h⟩ := r.one
      obtain ⟨a, us, rfl, ha, ra⟩ := h.lst_inv
      rw [ra.ints] at ha
      exact ⟨a, ns, rfl, .inl (.inl (R.f _ _ ha)), fun ns' p h1 h2 hp => by rw [sortI_uniq h1 h2]; exact k.newL R hp (rds_ints _)⟩
  · cases e
theorem bt_sorted : bootBuiltins "sorted" = some (.builtin "sorted") := by decide +kernel
end
end
end Sm
/-! Rows that go round: mirrored, spans, stretched. -/
namespace Sm
noncomputable section
def ng (f : Int → Int) : Int → Int := fun i => f (-i)
section
variable {n : Nat} {f g h : Int → Int}
theorem Per.ng (p : Per n f) : Per n (ng f) := fun i => by
  show f (-(i + n)) = f (-i)
  have := p (-(i + n))
  rw [← this]; congr 1; omega
theorem ng_ng (f : Int → Int) : Sm.ng (Sm.ng f) = f := funext fun i => by show f (- -i) = f i; rw [Int.neg_neg]
theorem sm_ng (p : Per n f) : sm (Sm.ng f) n = sm f n := by
  rw [← sm_refl p 0]
  exact sm_congr fun i _ => by show f (-i) = f (0 - i); congr 1; omega
theorem cvC (p : Per n f) (q : Per n g) : cv n f g = cv n g f := funext fun k => cv_comm p q k
theorem cvA (p : Per n f) (q : Per n g) (r : Per n h) : cv n (cv n f g) h = cv n f (cv n g h) := funext fun k => cv_assoc p q r k
theorem ng_cv (p : Per n f) (q : Per n g) : Sm.ng (cv n f g) = cv n (Sm.ng f) (Sm.ng g) := funext fun k => by
  show sm (fun i => f i * g (-k - i)) n = sm (fun i => f (-i) * g (-(k - i))) n
  have e := sm_refl (f := fun i => f i * g (-k - i)) (Per.mul p (q.neg (-k))) 0
  rw [← e]
  exact sm_congr fun i _ => by
    show f (0 - i) * g (-k - (0 - i)) = _
    rw [show (0 : Int) - i = -i by omega, show -k - -(i : Int) = -(k - i) by omega]
/-- spans: a row against itself, moved -/
def cr (n : Nat) (f g : Int → Int) : Int → Int := cv n (Sm.ng f) g
theorem cr_eq (p : Per n f) (q : Per n g) (k : Int) : cr n f g k = sm (fun i => f i * g (i + k)) n := by
  show sm (fun i => f (-i) * g (k - i)) n = _
  have P : Per n fun i => f i * g (i + k) := fun i => by
    show f (i + n) * g (i + n + k) = f i * g (i + k)
    rw [p, show i + (n : Int) + k = i + k + n by omega, q]
  rw [← sm_refl P 0]
  exact sm_congr fun i _ => by
    show _ = f (0 - i) * g (0 - i + k)
    rw [show (0 : Int) - i = -i by omega, show k - (i : Int) = -i + k by omega]
theorem Per.cr (q : Per n g) : Per n (cr n f g) := Per.cv q
theorem cr_turn (p : Per n f) (k : Int) : cr n (fun i => f (i - k)) (fun i => f (i - k)) = cr n f f := funext fun j => by
  have p' : Per n fun i => f (i - k) := fun i => by
    show f (i + n - k) = f (i - k)
    rw [show i + (n : Int) - k = i - k + n by omega, p]
  rw [cr_eq p' p', cr_eq p p]
  have P : Per n fun i => f i * f (i + j) := fun i => by
    show f (i + n) * f (i + n + j) = f i * f (i + j)
    rw [p, show i + (n : Int) + j = i + j + n by omega, p]
  rw [← sm_shift P (-k)]
  exact sm_congr fun i _ => by
    show f (i - k) * f (i + j - k) = f (i + -k) * f (i + -k + j)
    rw [show (i : Int) + -k = i - k by omega, show (i : Int) - k + j = i + j - k by omega]
theorem cr_ng (p : Per n f) : cr n (Sm.ng f) (Sm.ng f) = cr n f f := by
  unfold cr
  rw [ng_ng, cvC p p.ng]
theorem ng_cr (p : Per n f) : Sm.ng (cr n f f) = cr n f f := by
  unfold cr
  rw [ng_cv p.ng p, ng_ng, cvC p p.ng]
theorem cr_back (p : Per n f) (k : Int) : cr n f f ((n : Int) - k) = cr n f f k := by
  have h : cr n f f ((n : Int) - k) = cr n f f (-k) := by rw [← (Per.cr p : Per n (cr n f f)) (-k)]; congr 1; omega
  rw [h]
  exact congrFun (ng_cr p) k
theorem cr_mul (p : Per n f) (c : Int) (k : Int) : cr n (fun i => c * f i) (fun i => c * f i) k = c * c * cr n f f k := by
  have p' : Per n fun i => c * f i := fun i => by show c * f (i + n) = _; rw [p]
  rw [cr_eq p' p', cr_eq p p, ← sm_mul]
  exact sm_congr fun i _ => by show c * f i * (c * f (i + k)) = c * c * (f i * f (i + k)); grind
theorem sm_cr (p : Per n f) : sm (cr n f f) n = sm f n * sm f n := by
  unfold cr
  rw [sm_cv p, sm_ng p]
theorem cr_zero (p : Per n f) : cr n f f 0 = sm (fun i => f i * f i) n := by
  rw [cr_eq p p]
  exact sm_congr fun i _ => by rw [Int.add_zero]
theorem cr_out (p : Per n f) (k : Int) : cr n (fun i => 1 - f i) (fun i => 1 - f i) k = cr n f f k + n - 2 * sm f n := by
  have p' : Per n fun i => 1 - f i := fun i => by show 1 - f (i + n) = _; rw [p]
  rw [cr_eq p' p', cr_eq p p]
  have e : sm (fun i => (1 - f i) * (1 - f (i + k))) n = sm (fun i => (f i * f (i + k) + 1) + (-1 * f i + -1 * f (i + k))) n := sm_congr fun i _ => by grind
  rw [e, sm_add, sm_add, sm_add, sm_mul, sm_mul, sm_const, sm_shift p k]
  omega
theorem cr_prod (p : Per n f) (q : Per n g) : cr n (cv n f g) (cv n f g) = cv n (cr n f f) (cr n g g) := by
  unfold cr
  rw [ng_cv p q, cvA p.ng q.ng (Per.cv q), ← cvA q.ng p q, cvC q.ng p, cvA p q.ng q, ← cvA p.ng p (Per.cv q)]
theorem ng_dlt : Sm.ng (dlt n) = dlt n := funext fun i => by
  show (if (-i) % (n : Int) = 0 then (1 : Int) else 0) = if i % (n : Int) = 0 then 1 else 0
  by_cases h : i % (n : Int) = 0
  · rw [if_pos h, if_pos (Int.emod_eq_zero_of_dvd ((Int.dvd_neg).mpr (Int.dvd_of_emod_eq_zero h)))]
  · rw [if_neg h, if_neg fun z => h (Int.emod_eq_zero_of_dvd ((Int.dvd_neg).mp (Int.dvd_of_emod_eq_zero z)))]
theorem cr_dlt (hn : 0 < n) : cr n (dlt n) (dlt n) = dlt n := funext fun k => by
  unfold cr
  rw [ng_dlt]
  have := cv_dlt (dlt_per (n := n)) hn 0 k
  rw [Int.sub_zero] at this
  rw [← this]
  congr 1
  funext j
  rw [Int.sub_zero]
/-! ### stretched: b has an inverse v -/
def Inv (n : Nat) (b v : Int) : Prop := ∃ c : Int, b * v = 1 + n * c
theorem per_mul (p : Per n f) (i c : Int) : f (i + n * c) = f i := by
  have up : ∀ (k : Nat) (j : Int), f (j + n * k) = f j := by
    intro k
    induction k with
    | zero => intro j; simp
    | succ k ih => intro j; rw [show j + (n : Int) * ((k + 1 : Nat) : Int) = (j + n * k) + n by push_cast; grind, p, ih]
  rcases Int.le_total 0 c with h | h
  · have := up c.toNat i
    rwa [Int.toNat_of_nonneg h] at this
  · have := up (-c).toNat (i + n * c)
    rw [Int.toNat_of_nonneg (by omega)] at this
    rw [← this]; congr 1; grind
theorem mod_inv {b v : Int} (hn : 0 < n) (hv : Sm.Inv n b v) (i j : Int) (hi : 0 ≤ i ∧ i < n) (hj : 0 ≤ j ∧ j < n) : (b * i) % (n : Int) = j ↔ i = (v * j) % (n : Int) := by
  obtain ⟨c, hc⟩ := hv
  constructor
  · intro e
    rw [← e, Int.mul_emod v, Int.emod_emod, ← Int.mul_emod, show v * (b * i) = i + n * (c * i) by grind, Int.add_mul_emod_self_left, Int.emod_eq_of_lt hi.1 hi.2]
  · intro e
    rw [e, Int.mul_emod b, Int.emod_emod, ← Int.mul_emod, show b * (v * j) = j + n * (c * j) by grind, Int.add_mul_emod_self_left, Int.emod_eq_of_lt hj.1 hj.2]
theorem sm_str {b v : Int} (hn : 0 < n) (hv : Sm.Inv n b v) (p : Per n f) : sm (fun i => f (b * i)) n = sm f n := by
  have e1 : sm (fun i => f (b * i)) n = sm (fun i => sm (fun j => if (b * i) % (n : Int) = j then f j else 0) n) n := sm_congr fun i hi => by
    have h0 := Int.emod_nonneg (b * i) (b := (n : Int)) (by omega)
    have h1 := Int.emod_lt_of_pos (b * i) (b := (n : Int)) (by omega)
    have z := sm_one f ((b * i) % (n : Int)).toNat n (by omega)
    rw [Int.toNat_of_nonneg h0, per_mod p hn] at z
    rw [← z]
    exact sm_congr fun j _ => by
      by_cases q : (j : Int) = (b * i) % (n : Int)
      · rw [if_pos q, if_pos q.symm]
      · rw [if_neg q, if_neg fun y => q y.symm]
  rw [e1, sm_swap]
  refine sm_congr fun j hj => ?_
  have h0 := Int.emod_nonneg (v * j) (b := (n : Int)) (by omega)
  have h1 := Int.emod_lt_of_pos (v * j) (b := (n : Int)) (by omega)
  have z := sm_one (fun _ => f j) ((v * j) % (n : Int)).toNat n (by omega)
  rw [Int.toNat_of_nonneg h0] at z
  refine Eq.trans (sm_congr fun i hi => ?_) z
  · have m := mod_inv hn hv i j (by omega) (by omega)
    by_cases q : (i : Int) = (v * j) % (n : Int)
    · rw [if_pos q, if_pos (m.mpr q)]
    · rw [if_neg q, if_neg fun y => q (m.mp y)]
def fStr (v : Int) (f : Int → Int) : Int → Int := fun i => f (v * i)
theorem Per.fStr (p : Per n f) (v : Int) : Per n (fStr v f) := fun i => by
  show f (v * (i + n)) = f (v * i)
  rw [show v * (i + (n : Int)) = v * i + n * v by grind, per_mul p]
theorem fStr_back {b v : Int} (hv : Sm.Inv n b v) (p : Per n f) (i : Int) : fStr v f (b * i) = f i := by
  obtain ⟨c, hc⟩ := hv
  show f (v * (b * i)) = f i
  rw [show v * (b * i) = i + n * (c * i) by grind, per_mul p]
theorem cr_str {b v : Int} (hn : 0 < n) (hv : Sm.Inv n b v) (p : Per n f) (k : Int) : cr n (fStr v f) (fStr v f) (b * k) = cr n f f k := by
  have q := Per.fStr p v
  rw [cr_eq q q, cr_eq p p]
  have P : Per n fun i => fStr v f i * fStr v f (i + b * k) := fun i => by
    show fStr v f (i + n) * fStr v f (i + n + b * k) = fStr v f i * fStr v f (i + b * k)
    rw [q, show i + (n : Int) + b * k = i + b * k + n by omega, q]
  rw [← sm_str hn hv P]
  exact sm_congr fun i _ => by
    show fStr v f (b * i) * fStr v f (b * i + b * k) = f i * f (i + k)
    rw [fStr_back hv p, ← Int.mul_add, fStr_back hv p]
end
/-! ### putting numbers at what is stretched -/
def puts (n : Nat) (b : Int) (c : Int → Int) : List Int → List Int → List Int
  | fd, [] => fd
  | fd, i :: is => puts n b c (fd.set ((b * i) % (n : Int)).toNat (c i)) is
theorem puts_len (n : Nat) (b : Int) (c : Int → Int) : ∀ (is fd : List Int), (puts n b c fd is).length = fd.length
  | [], fd => rfl
  | i :: is, fd => by rw [puts, puts_len n b c is, List.length_set]
theorem puts_get {n : Nat} {b v : Int} (hn : 0 < n) (hv : Sm.Inv n b v) (c : Int → Int) (k : Nat) (hk : k < n) : ∀ (is fd : List Int), fd.length = n → (∀ i ∈ is, 0 ≤ i ∧ i < (n : Int)) →
    (puts n b c fd is).getD k 0 = if (v * k) % (n : Int) ∈ is then c ((v * k) % (n : Int)) else fd.getD k 0
  | [], fd, _, _ => by simp [puts]
  | i :: is, fd, hl, hi => by
    have hi0 := hi i (List.mem_cons_self ..)
    have h0 := Int.emod_nonneg (b * i) (b := (n : Int)) (by omega)
    have h1 := Int.emod_lt_of_pos (b * i) (b := (n : Int)) (by omega)
    rw [puts, puts_get hn hv c k hk is _ (by rw [List.length_set]; exact hl) fun j hj => hi j (List.mem_cons_of_mem _ hj)]
    have m := mod_inv hn hv i k hi0 (by omega)
    by_cases hm : (v * k) % (n : Int) ∈ is
    · rw [if_pos hm, if_pos (List.mem_cons_of_mem _ hm)]
    · rw [if_neg hm]
      by_cases q : i = (v * k) % (n : Int)
      · have e := m.mpr q
        rw [if_pos (q ▸ List.mem_cons_self ..), ← q, List.getD_eq_getElem?_getD, show ((b * i) % (n : Int)).toNat = k by omega, List.getElem?_set_self (by omega)]
        rfl
      · have e : ((b * i) % (n : Int)).toNat ≠ k := fun z => q (m.mp (by omega))
        rw [if_neg fun z => (List.mem_cons.mp z).elim (fun y => q y.symm) hm, List.getD_eq_getElem?_getD, List.getElem?_set_ne e, ← List.getD_eq_getElem?_getD]
theorem puts_all {n : Nat} {b v : Int} (hn : 0 < n) (hv : Sm.Inv n b v) (f : Int → Int) (p : Per n f) (fd : List Int) (hl : fd.length = n) :
    puts n b f fd (tab n fun i => i) = tab n (fStr v f) := by
  refine list_of (by rw [puts_len]; exact hl) fun k hk => ?_
  have h0 := Int.emod_nonneg (v * k) (b := (n : Int)) (by omega)
  have h1 := Int.emod_lt_of_pos (v * k) (b := (n : Int)) (by omega)
  rw [puts_get hn hv f k hk _ _ hl fun i hi => by
    obtain ⟨j, hj, rfl⟩ := tab_mem hi
    omega]
  rw [if_pos, per_mod p hn]
  · rfl
  · exact List.mem_map.mpr ⟨((v * k) % (n : Int)).toNat, List.mem_range.mpr (by omega), Int.toNat_of_nonneg h0⟩
/-- an enumeration of a round row -/
theorem enum_tab (n : Nat) (f : Int → Int) : enumD (il (tab n f)) = (tab n fun i => i).map fun i => D.tup [.int i, .int (f i)] := by
  unfold enumD il
  apply List.ext_getElem?
  intro i
  by_cases h : i < n
  · simp [tab, h]
  · rw [List.getElem?_eq_none (by simp [tab_len]; omega), List.getElem?_eq_none (by simp [tab_len]; omega)]
theorem tab_rev (n : Nat) (f : Int → Int) (p : Per n f) : (tab n f).reverse = tab n fun i => Sm.ng f (i - -1) := by
  apply List.ext_getElem?
  intro i
  by_cases h : i < n
  · rw [tab_get h, List.getElem?_reverse (by rw [tab_len]; exact h), tab_len, tab_get (by omega)]
    show some (f _) = some (f _)
    have := p (-((i : Int) - -1))
    rw [← this]
    congr 2
    omega
  · rw [List.getElem?_eq_none (by rw [List.length_reverse, tab_len]; omega), List.getElem?_eq_none (by rw [tab_len]; omega)]
/-! ### ranges from one; calls by keyword; what is not there -/
/-- 1 .. b - 1 -/
def rg1 (b : Nat) : List Int := (List.range' 1 (b - 1)).map fun (k : Nat) => (k : Int)
theorem rg1_mem {b : Nat} {i : Int} (h : i ∈ rg1 b) : 1 ≤ i ∧ i < b := by
  obtain ⟨k, hk, rfl⟩ := List.mem_map.mp h
  have := List.mem_range'_1.mp hk
  omega
theorem rg1_len (b : Nat) : (rg1 b).length = b - 1 := by simp [rg1]
theorem rng2_one (b : Nat) (s : S) (h : b ≤ 1000000) : rng2 1 (b : Int) s = some (il (rg1 b), s) := by
  rw [rng2, if_pos (by rw [B62_eq]; omega)]
  unfold rangeD il rg1
  rw [List.map_map, show ((b : Int) - 1).toNat = b - 1 by omega, List.range'_eq_map_range, List.map_map]
  congr 2
theorem rng2_one' (b : Nat) (s : S) (h : b + 1 ≤ 1000000) : rng2 1 ((b : Int) + 1) s = some (il (rg1 (b + 1)), s) := by
  rw [← rng2_one (b + 1) s h]
  rfl
@[simp ↓] theorem ap_CallK (n nk : Nat) (perm : List Nat) (NN : Nat) (fn : List D → Option SV) (r r2 : DA) (st : S) : dCallK n nk perm NN fn r r2 st = match r st with
  | none => none
  | some (xs, s1) => match r2 s1 with
    | none => none
    | some (ys, s2) => if xs.length = n ∧ ys.length = nk ∧ perm.length = NN then (match fn (pick .non perm (xs ++ ys)) with
      | none => none
      | some z => some (z, s2)) else none := (rfl)
@[simp] theorem pick0 (a : D) : pick .non [0] [a] = [a] := (rfl)
/-- a comprehension whose test is never true -/
theorem comp_none {t : DT} {e : DE} {v : Nat} {s : S} {ns : List Int} (hs : s[v]? = some none)
    (he : ∀ i ∈ ns, t (s.set v (some (.imm (.int i)))) = some (false, s.set v (some (.imm (.int i))))) :
    compD (gN v) t e [v] (il ns) s [] = some ([], s) := by
  have back : ∀ i : Int, (s.set v (some (.imm (.int i)))).set v none = s := fun i => by
    rw [List.set_set]
    apply List.ext_getElem?
    intro j
    by_cases hj : v = j
    · subst hj
      rw [hs, List.getElem?_set_self (List.getElem?_eq_some_iff.mp hs).1]
    · rw [List.getElem?_set_ne hj]
  have z := comp_pure (g := gN v) (t := t) (e := e) (vs := [v]) (s := s) (fun _ => false) id (il ns) [] fun d hd => by
    obtain ⟨i, hi, rfl⟩ := il_mem hd
    exact ⟨_, _, rfl, he i hi, fun _ => back i, fun h => by cases h⟩
  rw [z, List.filter_eq_nil_iff.mpr (by simp)]
  rfl
/-- a comprehension that keeps some -/
theorem comp_keep {t : DT} {v : Nat} {s : S} {ns : List Int} (p : Int → Bool) (hs : s[v]? = some none)
    (he : ∀ i ∈ ns, t (s.set v (some (.imm (.int i)))) = some (p i, s.set v (some (.imm (.int i))))) :
    compD (gN v) t (dVar v) [v] (il ns) s [] = some (il (ns.filter p), s) := by
  have hv : v < s.length := (List.getElem?_eq_some_iff.mp hs).1
  have back : ∀ i : Int, (s.set v (some (.imm (.int i)))).set v none = s := fun i => by
    rw [List.set_set]
    apply List.ext_getElem?
    intro j
    by_cases hj : v = j
    · subst hj
      rw [hs, List.getElem?_set_self hv]
    · rw [List.getElem?_set_ne hj]
  have z := comp_pure (g := gN v) (t := t) (e := dVar v) (vs := [v]) (s := s) (fun d => match d with | .int i => p i | _ => false) id (il ns) [] fun d hd => by
    obtain ⟨i, hi, rfl⟩ := il_mem hd
    refine ⟨_, _, rfl, he i hi, fun _ => back i, fun _ => ⟨.imm (.int i), s.set v (some (.imm (.int i))), ?_, rfl, back i⟩⟩
    rw [ap_Var, List.getElem?_set_self hv]
    rfl
  rw [z, List.map_id, il, il, List.nil_append, List.filter_map]
  rfl
theorem max_l (x : Int) (xs : List Int) : cMax [.lst (il (x :: xs))] = some (.imm (.int (topI x xs))) := by
  show (match D.ints (il (x :: xs)) with | some (n :: ns) => some (SV.imm (.int (topI n ns))) | _ => none) = _
  rw [ints_il]
@[simp] theorem eq_nn : oEq true (.lst []) (.lst []) = some (.imm (.bl false)) := (eq_ll true [] []).trans (by simp)
@[simp] theorem rev_l (xs : List Int) : oRev (.lst (il xs)) = some (.lst (il xs.reverse)) := by
  show some (SV.lst (il xs).reverse) = _
  rw [il, il, List.map_reverse]
/-! ### how great -/
theorem abs_mul {a b : Int} {M N : Nat} (ha : a.natAbs ≤ M) (hb : b.natAbs ≤ N) : (a * b).natAbs ≤ M * N := by
  rw [Int.natAbs_mul]; exact Nat.mul_le_mul ha hb
theorem sm_abs {f : Int → Int} {K : Nat} (h : ∀ i, (f i).natAbs ≤ K) : ∀ n : Nat, (sm f n).natAbs ≤ n * K
  | 0 => by simp [sm]
  | n + 1 => by
    have a := sm_abs h n
    have b := h n
    rw [sm, Nat.succ_mul]
    omega
theorem cv_abs {f g : Int → Int} {M N : Nat} (hf : ∀ i, (f i).natAbs ≤ M) (hg : ∀ i, (g i).natAbs ≤ N) (n : Nat) (k : Int) : (cv n f g k).natAbs ≤ n * (M * N) :=
  sm_abs (fun i => abs_mul (hf i) (hg (k - i))) n
end
end Sm
/-! How many different numbers: len(set(xs)). -/
namespace Sm
noncomputable section
open PySem L2 Evl PyProof.Rows
def dist (ns : List Int) : List Int := firstMet (fun i => ns.getD i 0) ns.length
section
variable {X : Cx}
def rSetI : List V → Hp → VK → Prop := fun vs H Q => ∃ (a : Addr) (ns : List Int), vs = [V.ref a] ∧ H a = some (.lst (ns.map V.int)) ∧ ns.length ≤ 1000 ∧
  ∀ p, H p = none → Q (.ref p) (upd H p (.set (fun k => (dist ns).any (· == k)) (dist ns).length))
theorem cr_setI (hc : X.calm = true) : CallR X (.type "set") rSetI := by
  intro pins s σ H xs us Q I r h
  obtain ⟨a, ns, rfl, hs, hb, q⟩ := h
  obtain ⟨its, rv, hl, _⟩ := I.list (.inl (.inl hs))
  rw [Vals.ref1 r]
  have hi := rv.ints
  have hlen : its.length = ns.length := by have := rv.length; rw [List.length_map] at this; exact this.symm
  refine call_set_list (I.ok.hd hc) hl.isList hi (by rw [List.size_toArray, hlen]; unfold scanBound; omega) fun h' tk S k => ?_
  rw [show its.toArray.size = ns.length by rw [List.size_toArray, hlen]] at S
  exact ⟨.ref _, upd H s.heap.objs.size (.set (fun k => (dist ns).any (· == k)) (dist ns).length), I.laid (t' := tk) (fun b u e => k b u (Heap.lt_size e) e) (Nat.le_refl _) S, rfl, q _ (I.hok.fresh (Nat.le_refl _))⟩
def rLenSet : List V → Hp → VK → Prop := fun vs H Q => ∃ (a : Addr) (S : Int → Bool) (n : Nat), vs = [V.ref a] ∧ H a = some (.set S n) ∧ Q (.int n) H
theorem cr_lenSet : CallR X (.builtin "len") rLenSet := by
  intro pins s σ H xs us Q I r h
  obtain ⟨a, S, n, rfl, ha, q⟩ := h
  rw [Vals.ref1 r]
  obtain ⟨o, es, ep, t, ho, hx, hd, _, _, hb, hf, hn⟩ : s.heap.SetOf (intKind X.prog X.w) a S n := I.hok a _ ha
  have h63 : (es.size : Int) < 2 ^ 63 := by unfold scanBound at hb; omega
  refine call_len_set ho hx hd hf h63 ⟨.int n, H, I.tok _, ⟨_, by rw [hn]⟩, q⟩
def dLenSet (f : DE) : DE := fun st => match f st with
  | none => none
  | some (x, s1) => match x.frz with
    | .lst xs => match D.ints xs with
      | none => none
      | some ns => if ns.length ≤ 1000 then some (.imm (.int (dist ns).length), s1) else none
    | _ => none
theorem se_lenset {e : Expr} {f : DE} {p p2 pos pos2 : Pos} (hc : X.calm = true) (hg : Gl X "len") (hm : X.mg "len" = none) (hg2 : Gl X "set") (hm2 : X.mg "set" = none) (he : SE X e f) (hs : starEach [e] X.env = (false, eval e X.env) :: starEach [] X.env := by rfl) :
    SE X (.Call (.Name "len" p) [.Call (.Name "set" p2) [e] [] pos2] [] pos) (dLenSet f) := by
  have h1 : PE X (.Call (.Name "set" p2) [e] [] pos2) (tCB rSetI (tCons (tF X.K X.mg f) tNil)) := pe_callTy (cr_setI hc) hg2 hm2 (by decide +kernel) (pa_cons he.pf pa_nil hs) (by decide) (by decide) hs
  have h2 : PE X (.Call (.Name "len" p) [.Call (.Name "set" p2) [e] [] pos2] [] pos) (tCB rLenSet (tCons (tCB rSetI (tCons (tF X.K X.mg f) tNil)) tNil)) := pe_callB cr_lenSet hg hm (by decide +kernel) (pa_cons h1 pa_nil)
  refine ⟨pe_imp h2 fun σ H Q q => ?_⟩
  obtain ⟨G, F, st, sv, st', R, e1, k⟩ := q
  unfold dLenSet at e1
  split at e1
  · cases e1
  rename_i x s1 ef
  split at e1
  · rename_i xs hx
    split at e1
    · cases e1
    rename_i ns en
    split at e1
    · rename_i hl
      cases e1
      refine ⟨G, F, st, x, _, R, ef, fun v F1 H1 g1 R1 r1 => ?_⟩
      rw [hx, D.ints_eq en] at r1
      obtain ⟨a, us, rfl, ha, ra⟩ := r1.lst_inv
      rw [ra.ints] at ha
      refine ⟨a, ns, rfl, R1.f _ _ ha, hl, fun p hp => ?_⟩
      exact ⟨p, _, _, rfl, upd_same, k _ F1 _ g1 (R1.laid hp) (.imm (.int _)) Sep.imm⟩
    · cases e1
  · cases e1
end
/-! the plain side -/
@[simp ↓] theorem ap_LenSet (f : DE) (st : S) : dLenSet f st = match f st with
  | none => none
  | some (x, s1) => match x.frz with
    | .lst xs => match D.ints xs with
      | none => none
      | some ns => if ns.length ≤ 1000 then some (.imm (.int (dist ns).length), s1) else none
    | _ => none := (rfl)
theorem bt_set : bootBuiltins "set" = some (.type "set") := by decide +kernel
/-! ### xs[:0:-1] -/
theorem tr_range (m : Nat) : sliceRange ((m : Int) + 1 - 1) 0 (-1) = (List.range m).reverse.map (· + 1) := by
  rw [← PySem.W.krv_range, List.map_map]
  unfold sliceRange
  have h1 : ¬ ((-1 : Int) > 0) := by decide
  by_cases h : (m : Int) + 1 - 1 > 0
  · have e : ((m : Int) + 1 - 1 - 0 - -1 - 1) / (- -1) = (m : Int) := by
      rw [show (- -1 : Int) = 1 by decide, Int.ediv_one]
      omega
    simp only [h1, if_false, h, if_true, e, Int.toNat_natCast]
    apply List.map_congr_left
    intro k hk
    have := List.mem_range.mp hk
    simp only [Function.comp_apply]
    omega
  · have e : m = 0 := by omega
    subst e
    simp
theorem tr_pick (its : List Value) : slicePick its.toArray none (some 0) (some (-1)) = (its.drop 1).reverse.toArray := by
  cases its with
  | nil => rfl
  | cons x t =>
    unfold slicePick
    have hb : sliceBounds none (some 0) (some (-1)) (x :: t).toArray.size = ((t.length : Int) + 1 - 1, 0, -1) := by
      unfold sliceBounds
      simp
      omega
    rw [hb]
    show ((sliceRange ((t.length : Int) + 1 - 1) 0 (-1)).filterMap ((x :: t).toArray[·]?)).toArray = _
    rw [tr_range, List.filterMap_map, List.filterMap_reverse]
    have e : ((fun i => (x :: t).toArray[i]?) ∘ fun i => i + 1) = fun (i : Nat) => t.toArray[i]? := by
      funext i
      simp
    rw [e]
    have := PySem.W.krv_all t.toArray
    simp only [List.size_toArray] at this
    rw [this]
    rfl
section
variable {X : Cx}
def tTailRev (K : PySem.W.Frag) (te : TE) : TE := fun σ H Q => te σ H fun x H1 => ∃ a xs, x = .ref a ∧ SqL K H1 a xs ∧ ∀ p, H1 p = none → Q (.ref p) (upd H1 p (.lst (xs.drop 1).reverse))
theorem pe_tailRev {e : Expr} {te : TE} {k k0 : Nat} {p0 p1 p2 p3 pos : Pos} (he : PE X e te) : PE X (.Subscript e (.Slice none (some (.Constant (.int 0) k0 p0)) (some (.UnaryOp .USub (.Constant (.int 1) k p1) p2)) p3) pos) (tTailRev X.K te) := by
  refine ⟨fun pins s σ H Q I h => ?_⟩
  refine Subscript_ (thn (he.run pins s σ H _ I h) fun v s1 ⟨x, H1, I1, r1, q1⟩ => ?_)
  obtain ⟨a, xs, ex, hx, q⟩ := q1
  subst ex
  cases r1
  have hst : PO X (some (.UnaryOp .USub (.Constant (.int 1) k p1) p2)) (tPart (tUn (rU fun i => .int (-i)) (tC (.int 1)))) := po_some (pe_un un_neg pe_int)
  have hup : PO X (some (.Constant (.int 0) k0 p0)) (tPart (tC (.int 0))) := po_some pe_int
  refine wpAny_Slice (thn (po_none.run pins s1 σ H1 (fun o H2 => o = none ∧ H2 = H1) I1 ⟨rfl, rfl⟩) fun vl s2 ⟨l, H2, I2, pl, el, e2⟩ => ?_)
  subst el e2
  refine thn (hup.run pins s2 σ H2 (fun o H3 => o = some 0 ∧ H3 = H2) I2 ⟨0, rfl, rfl, rfl⟩) fun vu s3 ⟨u, H3, I3, pu, eu, e3⟩ => ?_
  subst eu e3
  refine thn (hst.run pins s3 σ H3 (fun o H4 => o = some (-1) ∧ H4 = H3) I3 ⟨1, rfl, -1, rfl, rfl, rfl⟩) fun vs s4 ⟨o, H4, I4, ps, eo, e4⟩ => ?_
  subst eo e4
  have I5 : L2.Inv X pins σ H4 { s4 with heap := s4.heap.push { cls := .type "slice", data := .fields #[vl, vu, vs] } } := I4.kept (t' := s4.toks) fun b ob q => Heap.get?_push_of_some _ q
  obtain ⟨its, r, ht, hz⟩ := I5.list hx
  have hlen := r.length
  show wpAny (model X.prog X.w) X.A (subscriptTail e (.Slice none (some (.Constant (.int 0) k0 p0)) (some (.UnaryOp .USub (.Constant (.int 1) k p1) p2)) p3) (.ref a) (.ref s4.heap.objs.size)) (EP X pins σ Q) X.xe { s4 with heap := s4.heap.push { cls := .type "slice", data := .fields #[vl, vu, vs] } }
  refine tail_any (ops := [.ref a, .ref s4.heap.objs.size]) ht.isList.typeIs (PySem.slot_list_getitem.lookup) ?_ (by with_unfolding_all rfl)
  refine wpAny_getItem_list_slice ht.isList (Heap.IsSliceOf.new _ vl vu vs) pl pu ps (by decide) ?_ (by rw [List.size_toArray]; omega)
  rw [tr_pick]
  have rd : Vals (xs.drop 1) (its.drop 1) := by
    cases r with
    | nil => exact .nil
    | cons a b => exact b
  refine ⟨.ref _, _, I5.laid (t' := s4.toks) (o := .lst (xs.drop 1).reverse) (fun b ob q => Heap.get?_push_of_some _ q) (Nat.le_refl _) ?_, rfl, q _ (I5.hok.fresh (Nat.le_refl _))⟩
  exact ⟨by rw [List.length_reverse, List.length_drop]; omega, _, 0, rd.reverse, Heap.get?_push_size _ rfl⟩
def oTailRev : D → Option SV
  | .lst xs => some (.lst (xs.drop 1).reverse)
  | _ => none
theorem se_tailRev {e : Expr} {f : DE} {k k0 : Nat} {p0 p1 p2 p3 pos : Pos} (h : SE X e f) : SE X (.Subscript e (.Slice none (some (.Constant (.int 0) k0 p0)) (some (.UnaryOp .USub (.Constant (.int 1) k p1) p2)) p3) pos) (dUn oTailRev f) := by
  refine ⟨pe_imp (pe_tailRev h.pf) fun σ H Q q => ?_⟩
  obtain ⟨G, F, st, sv, st', R, e, k⟩ := q
  unfold dUn at e
  split at e
  · cases e
  rename_i x s1 e1
  split at e
  · cases e
  rename_i z e2
  cases e
  refine ⟨G, F, st, x, _, R, e1, fun v F1 H1 g1 R1 r1 => ?_⟩
  have k1 : Kn X.K X.mg G F1 _ σ sv Q := fun v F2 H2 g2 => k v F2 H2 (g1.trans g2)
  unfold oTailRev at e2
  split at e2
  · rename_i xs hx
    cases e2
    rw [hx] at r1
    obtain ⟨p, vs, rfl, hp, rr⟩ := r1.lst_inv
    have rr1 : RDs X.K X.mg F1 (xs.drop 1) (vs.drop 1) := by
      cases rr with
      | nil => exact .nil
      | cons a b => exact b
    exact ⟨p, vs, rfl, .inl (.inl (R1.f _ _ hp)), fun q hq => k1.newL R1 hq rr1.rev⟩
  · cases e2
end
end
end Sm
/-! range of three. -/
namespace Sm
noncomputable section
open PySem L2 Evl PyProof.Rows
def rangeC (lo c : Int) (n : Nat) : List D := (List.range n).map fun (i : Nat) => D.int (lo + (i : Int) * c)
theorem walk_rangeC {K : PySem.W.Frag} {mg : Str → Option Value} {F : Hp} (lo c : Int) (n : Nat) : Walk K mg (Itc lo c n) F (rangeC lo c n) where
  go := fun i H e hi => by
    have hi : i < n := by simpa [rangeC] using hi
    exact hi
  stop := fun i H e hi => by
    have hi : n ≤ i := by simpa [rangeC] using hi
    exact hi
  yld := fun {i H x H' d G F' st σ} y hd R e => by
    obtain ⟨e1, y⟩ := y
    subst e1
    subst y
    simp only [rangeC, List.getElem?_map, Option.map_eq_some_iff] at hd
    obtain ⟨j, hj, hd⟩ := hd
    have hj2 : j = i := by
      have := List.getElem?_eq_some_iff.mp hj
      obtain ⟨h1, h2⟩ := this
      rw [List.getElem_range] at h2
      exact h2.symm
    subst hj2 hd
    exact ⟨F', Gr.refl F', R, .int _⟩
def rng3 (i j c : Int) (s1 : S) : Option (List D × S) :=
  if c ≠ 0 ∧ -B30 < c ∧ c < B30 ∧ Builtin.Range.small i j c = true ∧ 0 ≤ Builtin.Range.rangeSize i j c then some (rangeC i c (Builtin.Range.rangeSize i j c).toNat, s1) else none
def dRng3 (r : DA) : DI := fun st => match r st with
  | some ([.int i, .int j, .int c], s1) => rng3 i j c s1
  | _ => none
section
variable {X : Cx} {tg a b c : Expr} {r : DA} {p pos : Pos}
theorem si_rng3 (hg : Gl X "range") (hm : X.mg "range" = none) (ha : SA X [a, b, c] r) (hs : starEach [a, b, c] X.env = (false, eval a X.env) :: starEach [b, c] X.env := by rfl) (hpl : (backTo pos (starEach [b, c] X.env)).any (·.1) = false := by rfl) :
    SI X tg (.Call (.Name "range" p) [a, b, c] [] pos) (dRng3 r) := ⟨pi_imp (pi_range3 hg hm ha.pa hs hpl) fun σ H R q => by
  obtain ⟨G, F, st, ds, st', Rp, e, k⟩ := q
  unfold dRng3 at e
  split at e
  · rename_i i j c s1 e1
    unfold rng3 at e
    split at e
    · rename_i hj
      rw [B30_eq] at hj
      cases e
      refine ⟨G, F, st, _, _, Rp, e1, fun vs F1 H1 g1 R1 r1 => ?_⟩
      cases r1 with
      | cons h1 r2 =>
        cases r2 with
        | cons h2 r3 =>
          cases r3 with
          | cons h3 r4 =>
            cases r4
            cases h1; cases h2; cases h3
            exact ⟨i, j, c, _, rfl, ⟨hj.1, by omega, hj.2.2.2.1, (Int.toNat_of_nonneg hj.2.2.2.2).symm⟩, k _ F1 H1 g1 R1 (walk_rangeC i c _)⟩
    · cases e
  · cases e⟩
end
@[simp ↓] theorem ap_Rng3 (r : DA) (st : S) : dRng3 r st = match r st with
  | some ([.int i, .int j, .int c], s1) => rng3 i j c s1
  | _ => none := (rfl)
end
end Sm
/-! Pairs of marks: how often each distance comes. -/
namespace Sm
open PySem L2 Evl PyProof.Rows
/-! ### sums over pairs of a list -/
def pairs (F : Int → Int → Int) : List Int → Int
  | [] => 0
  | x :: xs => (xs.map (F x)).sum + pairs F xs
theorem sum_map_add {α : Type} (F G : α → Int) : ∀ xs : List α, (xs.map fun a => F a + G a).sum = (xs.map F).sum + (xs.map G).sum
  | [] => rfl
  | x :: xs => by simp only [List.map_cons, List.sum_cons, sum_map_add F G xs]; omega
theorem sum_map_mul {α : Type} (c : Int) (F : α → Int) : ∀ xs : List α, (xs.map fun a => c * F a).sum = c * (xs.map F).sum
  | [] => by simp
  | x :: xs => by simp only [List.map_cons, List.sum_cons, sum_map_mul c F xs, Int.mul_add]
theorem sum_map_congr {α : Type} {F G : α → Int} {xs : List α} (h : ∀ a ∈ xs, F a = G a) : (xs.map F).sum = (xs.map G).sum := by rw [List.map_congr_left h]
theorem sum_map_zero {α : Type} {F : α → Int} : ∀ {xs : List α}, (∀ a ∈ xs, F a = 0) → (xs.map F).sum = 0
  | [], _ => rfl
  | x :: xs, h => by rw [List.map_cons, List.sum_cons, h x (List.mem_cons_self ..), sum_map_zero fun a ha => h a (List.mem_cons_of_mem _ ha)]; rfl
theorem sum_swap {α β : Type} (F : α → β → Int) (ys : List β) : ∀ xs : List α, (xs.map fun a => (ys.map fun b => F a b).sum).sum = (ys.map fun b => (xs.map fun a => F a b).sum).sum
  | [] => by simp [sum_map_zero]
  | x :: xs => by
    simp only [List.map_cons, List.sum_cons]
    rw [sum_swap F ys xs, sum_map_add]
theorem pairs_add (F G : Int → Int → Int) : ∀ ms : List Int, pairs (fun a b => F a b + G a b) ms = pairs F ms + pairs G ms
  | [] => rfl
  | x :: xs => by simp only [pairs, pairs_add F G xs, sum_map_add]; omega
theorem pairs_mul (c : Int) (F : Int → Int → Int) : ∀ ms : List Int, pairs (fun a b => c * F a b) ms = c * pairs F ms
  | [] => by simp [pairs]
  | x :: xs => by simp only [pairs, pairs_mul c F xs, sum_map_mul, Int.mul_add]
theorem all_pairs (F : Int → Int → Int) : ∀ ms : List Int, (ms.map fun a => (ms.map fun b => F a b).sum).sum = pairs (fun a b => F a b + F b a) ms + (ms.map fun a => F a a).sum
  | [] => rfl
  | x :: xs => by
    have ih := all_pairs F xs
    simp only [List.map_cons, List.sum_cons, pairs]
    rw [sum_map_add (fun a => F a x) (fun a => (xs.map fun b => F a b).sum), ih, sum_map_add]
    have e1 : (xs.map fun b => F x b).sum = (xs.map (F x)).sum := rfl
    omega
theorem pairs_congr {F G : Int → Int → Int} : ∀ {ms : List Int}, ms.Pairwise (· < ·) → (∀ a b, a ∈ ms → b ∈ ms → a < b → F a b = G a b) → pairs F ms = pairs G ms
  | [], _, _ => rfl
  | x :: xs, hp, h => by
    rw [List.pairwise_cons] at hp
    rw [pairs, pairs, pairs_congr hp.2 fun a b ha hb => h a b (List.mem_cons_of_mem _ ha) (List.mem_cons_of_mem _ hb)]
    congr 1
    exact sum_map_congr fun b hb => h x b (List.mem_cons_self ..) (List.mem_cons_of_mem _ hb) (hp.1 b hb)
theorem sum_ones {α : Type} : ∀ xs : List α, (xs.map fun _ => (1 : Int)).sum = xs.length
  | [] => rfl
  | x :: xs => by rw [List.map_cons, List.sum_cons, sum_ones xs, List.length_cons]; omega
theorem pairs_one : ∀ ms : List Int, 2 * pairs (fun _ _ => 1) ms = (ms.length : Int) * ((ms.length : Int) - 1)
  | [] => rfl
  | x :: xs => by
    have ih := pairs_one xs
    simp only [pairs, List.length_cons, Int.mul_add, ih, sum_ones]
    push_cast
    rw [show ((xs.length : Int) + 1) * ((xs.length : Int) + 1 - 1) = (xs.length : Int) * ((xs.length : Int) - 1) + 2 * xs.length by
      rw [show (xs.length : Int) + 1 - 1 = xs.length by omega, Int.mul_sub, Int.add_mul]; omega]
    omega
theorem pairs_sum {α : Type} (F : α → Int → Int → Int) (ks : List α) : ∀ ms : List Int, (ks.map fun k => pairs (F k) ms).sum = pairs (fun a b => (ks.map fun k => F k a b).sum) ms
  | [] => by simp [pairs, sum_map_zero]
  | x :: xs => by
    simp only [pairs]
    rw [sum_map_add, pairs_sum F ks xs, sum_swap (fun k b => F k x b)]
/-! ### distances of a lot -/
section
variable {n : Nat} {f g : Int → Int}
def far (n : Nat) (a b : Int) : Int := if (a - b) % (n : Int) < (b - a) % (n : Int) then (a - b) % (n : Int) else (b - a) % (n : Int)
theorem mod_pair {a b : Int} (ha : 0 ≤ a ∧ a < n) (hb : 0 ≤ b ∧ b < n) (h : a < b) : (b - a) % (n : Int) = b - a ∧ (a - b) % (n : Int) = n - (b - a) := by
  constructor
  · exact Int.emod_eq_of_lt (by omega) (by omega)
  · rw [show a - b = ((n : Int) - (b - a)) + (n : Int) * (-1) by omega, Int.add_mul_emod_self_left]
    exact Int.emod_eq_of_lt (by omega) (by omega)
theorem far_in {a b : Int} (ha : 0 ≤ a ∧ a < n) (hb : 0 ≤ b ∧ b < n) (h : a < b) : 1 ≤ far n a b ∧ far n a b ≤ ((n / 2 : Nat) : Int) := by
  obtain ⟨e1, e2⟩ := mod_pair ha hb h
  unfold far
  rw [e1, e2]
  split <;> omega
def BitF (f : Int → Int) : Prop := ∀ i : Int, f i = 0 ∨ f i = 1
theorem bit_marks (hb : BitF f) {i : Int} (h : i ∈ marks 0 (tab n f)) : f i = 1 := by
  rw [marks_tab] at h
  obtain ⟨j, hj, rfl⟩ := List.mem_map.mp h
  have := (List.mem_filter.mp hj).2
  rcases hb (j : Int) with q | q
  · simp [q] at this
  · exact q
theorem marks_sorted' (n : Nat) (f : Int → Int) : (marks 0 (tab n f)).Pairwise (· < ·) := by
  rw [marks_tab, List.pairwise_map]
  exact (List.Pairwise.filter _ List.pairwise_lt_range).imp fun h => by omega
theorem cr_pairs (hn : 0 < n) (p : Per n f) (hb : BitF f) (k : Int) (h0 : 0 ≤ k) (h1 : k < n) :
    cr n f f k = ((marks 0 (tab n f)).map fun a => ((marks 0 (tab n f)).map fun b => if (b - a) % (n : Int) = k then (1 : Int) else 0).sum).sum := by
  rw [cr_eq p p, ← marks_sum n f (fun i => f i * f (i + k)) fun i _ e => by rw [e, Int.zero_mul]]
  refine sum_map_congr fun a ha => ?_
  have a1 := marks_in n f ha
  rw [bit_marks hb ha, Int.one_mul, ← per_mod p hn (a + k)]
  have g0 := Int.emod_nonneg (a + k) (b := (n : Int)) (by omega)
  have g1 := Int.emod_lt_of_pos (a + k) (b := (n : Int)) (by omega)
  have e := sm_one f ((a + k) % (n : Int)).toNat n (by omega)
  rw [Int.toNat_of_nonneg g0] at e
  rw [← e, ← marks_sum n f (fun i => if i = (a + k) % (n : Int) then f i else 0) fun i _ e => by rw [e]; split <;> rfl]
  refine sum_map_congr fun b hb' => ?_
  have b1 := marks_in n f hb'
  rw [bit_marks hb hb']
  have key : (b = (a + k) % (n : Int)) ↔ ((b - a) % (n : Int) = k) := by
    constructor
    · intro h
      rw [h, Int.emod_sub_emod, show a + k - a = k by omega]
      exact Int.emod_eq_of_lt h0 h1
    · intro h
      rw [← h, Int.add_emod_emod, show a + (b - a) = b by omega]
      exact (Int.emod_eq_of_lt b1.1 b1.2).symm
  by_cases q : b = (a + k) % (n : Int)
  · rw [if_pos q, if_pos (key.mp q)]
  · rw [if_neg q, if_neg fun z => q (key.mpr z)]
/-- how often the distance k comes -/
def cnt (n : Nat) (f : Int → Int) (k : Int) : Int := if 2 * k = n then cr n f f k / 2 else cr n f f k
theorem cr_two (hn : 0 < n) (p : Per n f) (hb : BitF f) (k : Int) (h0 : 1 ≤ k) (h1 : 2 * k ≤ n) :
    cr n f f k = (if 2 * k = n then 2 else 1) * pairs (fun a b => if far n a b = k then 1 else 0) (marks 0 (tab n f)) := by
  rw [cr_pairs hn p hb k (by omega) (by omega), all_pairs, sum_map_zero (F := fun a => if (a - a) % (n : Int) = k then (1 : Int) else 0) fun a _ => by rw [Int.sub_self, Int.zero_emod, if_neg (by omega)], Int.add_zero, ← pairs_mul]
  refine pairs_congr (marks_sorted' n f) fun a b ha hb h => ?_
  obtain ⟨e1, e2⟩ := mod_pair (marks_in n f ha) (marks_in n f hb) h
  have q1 := marks_in n f ha
  have q2 := marks_in n f hb
  unfold far
  rw [e1, e2]
  by_cases c1 : 2 * k = (n : Int)
  · rw [if_pos c1]
    by_cases c2 : b - a = k
    · rw [if_pos c2, if_pos (by omega), if_pos (by split <;> omega)]; rfl
    · rw [if_neg c2, if_neg (by omega), if_neg (by split <;> omega)]; rfl
  · rw [if_neg c1]
    by_cases c2 : b - a = k
    · rw [if_pos c2, if_neg (by omega), if_pos (by split <;> omega)]; rfl
    · by_cases c3 : (n : Int) - (b - a) = k
      · rw [if_neg c2, if_pos c3, if_pos (by split <;> omega)]; rfl
      · rw [if_neg c2, if_neg c3, if_neg (by split <;> omega)]; rfl
theorem cnt_pairs (hn : 0 < n) (p : Per n f) (hb : BitF f) (k : Int) (h0 : 1 ≤ k) (h1 : 2 * k ≤ n) :
    cnt n f k = pairs (fun a b => if far n a b = k then 1 else 0) (marks 0 (tab n f)) := by
  have e := cr_two hn p hb k h0 h1
  unfold cnt
  by_cases c : 2 * k = (n : Int)
  · rw [if_pos c] at e ⊢
    omega
  · rw [if_neg c] at e ⊢
    omega
theorem cr_cnt (hn : 0 < n) (p : Per n f) (hb : BitF f) (k : Int) (h0 : 1 ≤ k) (h1 : 2 * k ≤ n) : cr n f f k = if 2 * k = n then 2 * cnt n f k else cnt n f k := by
  rw [cnt_pairs hn p hb k h0 h1, cr_two hn p hb k h0 h1]
  by_cases c : 2 * k = (n : Int)
  · rw [if_pos c, if_pos c]
  · rw [if_neg c, if_neg c]; omega
/-- all distances' counts -/
def cntL (n : Nat) (f : Int → Int) : List Int := (rg1 (n / 2 + 1)).map (cnt n f)
theorem cntL_len (n : Nat) (f : Int → Int) : (cntL n f).length = n / 2 := by unfold cntL; rw [List.length_map, rg1_len]; omega
theorem cntL_congr (h : cr n f f = cr n g g) : cntL n f = cntL n g := by unfold cntL cnt; rw [h]
theorem rg1_succ (b : Nat) (h : 1 ≤ b) : rg1 (b + 1) = rg1 b ++ [(b : Int)] := by
  unfold rg1
  rw [show b + 1 - 1 = (b - 1) + 1 by omega, List.range'_1_concat, List.map_append]
  simp
  omega
theorem rg1_one (c : Int) : ∀ b : Nat, 1 ≤ c → c < b → ((rg1 b).map fun k => if c = k then (1 : Int) else 0).sum = 1
  | 0, h0, h1 => by omega
  | b + 1, h0, h1 => by
    rw [rg1_succ b (by omega), List.map_append, List.sum_append]
    by_cases q : c = (b : Int)
    · have z : ((rg1 b).map fun k => if c = k then (1 : Int) else 0).sum = 0 := sum_map_zero fun k hk => by
        have := rg1_mem hk
        rw [if_neg (by omega)]
      rw [z]; simp [q]
    · rw [rg1_one c b h0 (by omega)]; simp [q]
theorem cntL_sum (hn : 0 < n) (p : Per n f) (hb : BitF f) : 2 * (cntL n f).sum = ((marks 0 (tab n f)).length : Int) * (((marks 0 (tab n f)).length : Int) - 1) := by
  rw [← pairs_one]
  congr 1
  unfold cntL
  rw [sum_map_congr (G := fun k => pairs (fun a b => if far n a b = k then 1 else 0) (marks 0 (tab n f))) fun k hk => by
    have := rg1_mem hk
    exact cnt_pairs hn p hb k (by omega) (by omega), pairs_sum]
  refine pairs_congr (marks_sorted' n f) fun a b ha hb h => ?_
  have := far_in (marks_in n f ha) (marks_in n f hb) h
  exact rg1_one _ _ this.1 (by omega)
theorem cntL_get (i : Nat) (h : i < n / 2) : (cntL n f)[i]? = some (cnt n f (i + 1)) := by
  unfold cntL rg1
  rw [List.map_map, List.getElem?_map, List.getElem?_range' (by omega)]
  simp
  congr 1
  omega
end
/-! ### lists with their places -/
def enF : Int → List Int → List D
  | _, [] => []
  | k, x :: xs => .tup [.int k, .int x] :: enF (k + 1) xs
theorem enum_enF (xs : List Int) : enumD (il xs) = enF 0 xs := by
  have key : ∀ (xs : List Int) (k : Nat), ((il xs).mapIdx fun (i : Nat) (d : D) => D.tup [.int ((i + k : Nat) : Int), d]) = enF (k : Int) xs := by
    intro xs
    induction xs with
    | nil => intro k; rfl
    | cons x xs ih =>
      intro k
      have := ih (k + 1)
      rw [show il (x :: xs) = D.int x :: il xs from rfl, List.mapIdx_cons, enF]
      rw [show (fun (i : Nat) (d : D) => D.tup [.int ((i + 1 + k : Nat) : Int), d]) = fun (i : Nat) (d : D) => D.tup [.int ((i + (k + 1) : Nat) : Int), d] by funext i d; rw [show i + 1 + k = i + (k + 1) by omega], this]
      simp
  have := key xs 0
  simpa [enumD] using this
/-! ### counting pairs by a loop -/
section
variable {n : Nat} {f g : Int → Int}
def cI (n : Nat) (a : Int) : List Int → List Int → List Int
  | fd, [] => fd
  | fd, o :: os => cI n a (bump fd (far n a o - 1).toNat 1) os
theorem cI_len (n : Nat) (a : Int) : ∀ os fd : List Int, (cI n a fd os).length = fd.length
  | [], _ => rfl
  | o :: os, fd => by rw [cI, cI_len n a os, bump_len]
theorem cI_get (n : Nat) (a : Int) (j : Nat) : ∀ os fd : List Int, j < fd.length → (cI n a fd os).getD j 0 = fd.getD j 0 + (os.map fun o => if (far n a o - 1).toNat = j then (1 : Int) else 0).sum
  | [], fd, h => by simp [cI]
  | o :: os, fd, h => by rw [cI, cI_get n a j os _ (by rw [bump_len]; exact h), bump_get _ _ _ _ h, List.map_cons, List.sum_cons]; omega
def cO (n : Nat) : List Int → List Int → List Int
  | fd, [] => fd
  | fd, x :: xs => cO n (cI n x fd xs) xs
theorem cO_len (n : Nat) : ∀ xs fd : List Int, (cO n fd xs).length = fd.length
  | [], _ => rfl
  | x :: xs, fd => by rw [cO, cO_len n xs, cI_len]
theorem cO_get (n : Nat) (j : Nat) : ∀ xs fd : List Int, j < fd.length → (cO n fd xs).getD j 0 = fd.getD j 0 + pairs (fun a b => if (far n a b - 1).toNat = j then 1 else 0) xs
  | [], fd, h => by simp [cO, pairs]
  | x :: xs, fd, h => by rw [cO, cO_get n j xs _ (by rw [cI_len]; exact h), cI_get _ _ _ _ _ h, pairs]; omega
theorem cntL_tab (n : Nat) (f : Int → Int) : cntL n f = tab (n / 2) fun i => cnt n f (i + 1) := by
  apply List.ext_getElem?
  intro i
  by_cases h : i < n / 2
  · rw [cntL_get i h, tab_get h]
  · rw [List.getElem?_eq_none (by rw [cntL_len]; omega), List.getElem?_eq_none (by rw [tab_len]; omega)]
theorem cO_cnt (hn : 0 < n) (p : Per n f) (hb : BitF f) : cO n (List.replicate (n / 2) 0) (marks 0 (tab n f)) = cntL n f := by
  rw [cntL_tab]
  refine list_of (by rw [cO_len]; simp) fun i hi => ?_
  rw [cO_get n i _ _ (by simpa using hi), cnt_pairs hn p hb (i + 1) (by omega) (by omega)]
  have z : (List.replicate (n / 2) (0 : Int)).getD i 0 = 0 := by simp [hi]
  rw [z, Int.zero_add]
  refine pairs_congr (marks_sorted' n f) fun a b ha hb h => ?_
  have := far_in (marks_in n f ha) (marks_in n f hb) h
  by_cases c : far n a b = (i : Int) + 1
  · rw [if_pos c, if_pos (by omega)]
  · rw [if_neg c, if_neg (by omega)]
def ones (n : Nat) (f : Int → Int) : List Int := (tab n fun i => i).filter fun i => decide (f i = 1)
theorem ones_marks (h : BitF f) : ones n f = marks 0 (tab n f) := by
  rw [marks_tab, ones, show (tab n fun i => i) = (List.range n).map fun (k : Nat) => (k : Int) from rfl, List.filter_map]
  congr 1
  refine List.filter_congr fun i _ => ?_
  simp only [Function.comp]
  by_cases z : f i = 0
  · simp [z]
  · rcases h i with q | q
    · exact absurd q z
    · simp [q]
end
/-- a comprehension that keeps some, and says a number of each -/
theorem comp_km {t : DT} {e : DE} {v : Nat} {s : S} {ns : List Int} (p : Int → Bool) (F : Int → Int) (hs : s[v]? = some none)
    (ht : ∀ i ∈ ns, t (s.set v (some (.imm (.int i)))) = some (p i, s.set v (some (.imm (.int i)))))
    (he : ∀ i ∈ ns, p i = true → e (s.set v (some (.imm (.int i)))) = some (.imm (.int (F i)), s.set v (some (.imm (.int i))))) :
    compD (gN v) t e [v] (il ns) s [] = some (il ((ns.filter p).map F), s) := by
  have hv : v < s.length := (List.getElem?_eq_some_iff.mp hs).1
  have back : ∀ i : Int, (s.set v (some (.imm (.int i)))).set v none = s := fun i => by
    rw [List.set_set]
    apply List.ext_getElem?
    intro j
    by_cases hj : v = j
    · subst hj
      rw [hs, List.getElem?_set_self hv]
    · rw [List.getElem?_set_ne hj]
  have z := comp_pure (g := gN v) (t := t) (e := e) (vs := [v]) (s := s) (fun d => match d with | .int i => p i | _ => false) (fun d => match d with | .int i => .int (F i) | d => d) (il ns) [] fun d hd => by
    obtain ⟨i, hi, rfl⟩ := il_mem hd
    exact ⟨_, _, rfl, ht i hi, fun _ => back i, fun h => ⟨.imm (.int (F i)), s.set v (some (.imm (.int i))), he i hi h, rfl, back i⟩⟩
  rw [z, il, il, List.nil_append, List.filter_map, List.map_map, List.map_map]
  rfl
theorem min_ii (i j : Int) : cMin [.int i, .int j] = some (.imm (.int (if j < i then j else i))) := rfl
@[simp] theorem list_t (xs : List D) : cList [.tup xs] = some (.lst xs) := (rfl)
@[simp] theorem list_l (xs : List D) : cList [.lst xs] = some (.lst xs) := (rfl)
end Sm
/-! Defs that raise: what flies, what expressions and statements let out. -/
namespace Sm
open PySem L2 Evl PyProof.Rows

/-- what flies: an exception of an own class, its fields -/
def RX (K : PySem.W.Frag) (mg : Str → Option Value) (F : Hp) (x : D) (cls : Value) (d : Option Addr) : Prop :=
  ∃ c ns ds C dd fs, x = .exc c ns ds ∧ cls = .ref C ∧ mg c = some (.ref C) ∧ d = some dd ∧ F dd = some (.xd fs) ∧ fs.map (·.1) = ns ∧ RDs K mg F ds (fs.map (·.2))
abbrev DX := S → Option D
/-- what is to be shown of what flies -/
def KnX (K : PySem.W.Frag) (mg : Str → Option Value) (G F : Hp) (x : D) (E : XK) : Prop := ∀ cls d F' H', Gr G F F' → Kp K mg G H' → Exf F' H' → RX K mg F' x cls d → E cls d H'
def tR (K : PySem.W.Frag) (mg : Str → Option Value) (E : XK) (r : DX) : L2.St → Hp → Prop := fun σ H => ∃ G F st x, Rep K mg G F st σ H ∧ r st = some x ∧ KnX K mg G F x E
abbrev TkX (X : Cx) (E : XK) : Prop := Takes X (fun cls d _ H => E cls d H)
structure RE (X : Cx) (E : XK) (e : Expr) (r : DX) : Prop where
  pe : PE X e (fun σ H _ => tR X.K X.mg E r σ H)
structure RT (X : Cx) (E : XK) (e : Expr) (r : DX) : Prop where
  pt : PT X e (fun σ H _ => tR X.K X.mg E r σ H)
structure RA (X : Cx) (E : XK) (es : List Expr) (r : DX) : Prop where
  pa : PA X es (fun σ H _ => tR X.K X.mg E r σ H)
structure RK (X : Cx) (E : XK) (ks : List Keyword) (r : DX) : Prop where
  pk : PK X ks (fun σ H _ => tR X.K X.mg E r σ H)
structure RI (X : Cx) (E : XK) (tg iter : Expr) (r : DX) : Prop where
  pi : PI X tg iter (fun σ H _ => tR X.K X.mg E r σ H)
structure RS1 (X : Cx) (E : XK) (s : Stmt) (r : DX) : Prop where
  ps : PS X s (fun _ σ H => tR X.K X.mg E r σ H)
structure RSs (X : Cx) (E : XK) (ss : List Stmt) (r : DX) : Prop where
  pss : PSs X ss (fun _ σ H => tR X.K X.mg E r σ H)
def xNo : DX := fun _ => none
theorem tR_no {K : PySem.W.Frag} {mg : Str → Option Value} {E : XK} {σ : L2.St} {H : Hp} (h : tR K mg E xNo σ H) : False := by
  obtain ⟨G, F, st, x, R, e, k⟩ := h
  cases e
/-- first one, then the other behind the one's value -/
def xThen (f : DE) (r1 r2 : DX) : DX := fun st => match r1 st with
  | some x => some x
  | none => match f st with
    | some (_, s1) => r2 s1
    | none => none
def xThenA (f : DA) (r1 r2 : DX) : DX := fun st => match r1 st with
  | some x => some x
  | none => match f st with
    | some (_, s1) => r2 s1
    | none => none
theorem or_pe {X : Cx} {e : Expr} {t u : TE} (h : PE X e t) (h' : PE X e u) : PE X e (fun σ H Q => t σ H Q ∨ u σ H Q) := ⟨fun pins s σ H Q I q => q.elim (h.run pins s σ H Q I) (h'.run pins s σ H Q I)⟩
theorem or_pa {X : Cx} {e : List Expr} {t u : TA} (h : PA X e t) (h' : PA X e u) : PA X e (fun σ H Q => t σ H Q ∨ u σ H Q) := ⟨fun pos pins s σ H Q I q => q.elim (h.run pos pins s σ H Q I) (h'.run pos pins s σ H Q I)⟩
theorem or_pt {X : Cx} {e : Expr} {t u : TT} (h : PT X e t) (h' : PT X e u) : PT X e (fun σ H Q => t σ H Q ∨ u σ H Q) := ⟨fun pins s σ H Q I q => q.elim (h.run pins s σ H Q I) (h'.run pins s σ H Q I)⟩
theorem or_pk {X : Cx} {e : List Keyword} {t u : TA} (h : PK X e t) (h' : PK X e u) : PK X e (fun σ H Q => t σ H Q ∨ u σ H Q) := ⟨fun pos pins s σ H Q I q => q.elim (h.run pos pins s σ H Q I) (h'.run pos pins s σ H Q I)⟩
theorem or_ps {X : Cx} {e : Stmt} {t u : TS} (h : PS X e t) (h' : PS X e u) : PS X e (fun D σ H => t D σ H ∨ u D σ H) := ⟨fun pins s σ H D I q => q.elim (h.run pins s σ H D I) (h'.run pins s σ H D I)⟩
theorem or_pss {X : Cx} {e : List Stmt} {t u : TS} (h : PSs X e t) (h' : PSs X e u) : PSs X e (fun D σ H => t D σ H ∨ u D σ H) := ⟨fun pins s σ H D I q => q.elim (h.run pins s σ H D I) (h'.run pins s σ H D I)⟩
theorem KnX.gr {K : PySem.W.Frag} {mg : Str → Option Value} {G F F1 : Hp} {x : D} {E : XK} (k : KnX K mg G F x E) (g : Gr G F F1) : KnX K mg G F1 x E := fun cls d F' H' g' => k cls d F' H' (g.trans g')
/-- a value first, then what flies -/
theorem then_of {K : PySem.W.Frag} {mg : Str → Option Value} {E : XK} {f : DE} {r1 r2 : DX} {σ : L2.St} {H : Hp} {Q : VK} (h : tR K mg E (xThen f r1 r2) σ H) (hQ : ∀ v H1, tR K mg E r2 σ H1 → Q v H1) : tR K mg E r1 σ H ∨ tF K mg f σ H Q := by
  obtain ⟨G, F, st, x, R, e, k⟩ := h
  unfold xThen at e
  split at e
  · rename_i y e1
    cases e
    exact .inl ⟨G, F, st, _, R, e1, k⟩
  · split at e
    · rename_i sv s1 e1
      exact .inr ⟨G, F, st, sv, s1, R, e1, fun v F1 H1 g1 R1 _ => hQ v H1 ⟨G, F1, s1, x, R1, e, k.gr g1⟩⟩
    · cases e
theorem thenA_of {K : PySem.W.Frag} {mg : Str → Option Value} {E : XK} {f : DA} {r1 r2 : DX} {σ : L2.St} {H : Hp} {Q : List V → Hp → Prop} (h : tR K mg E (xThenA f r1 r2) σ H) (hQ : ∀ v H1, tR K mg E r2 σ H1 → Q v H1) : tR K mg E r1 σ H ∨ tAD K mg f σ H Q := by
  obtain ⟨G, F, st, x, R, e, k⟩ := h
  unfold xThenA at e
  split at e
  · rename_i y e1
    cases e
    exact .inl ⟨G, F, st, _, R, e1, k⟩
  · split at e
    · rename_i sv s1 e1
      exact .inr ⟨G, F, st, sv, s1, R, e1, fun v F1 H1 g1 R1 _ => hQ v H1 ⟨G, F1, s1, x, R1, e, k.gr g1⟩⟩
    · cases e
section
variable {X : Cx} {E : XK} {a b c e : Expr} {es : List Expr} {f g : DE} {r ra rb : DX} {t : DT} {ar : DA} {pos : Pos}
theorem re_no (h : SE X e f) : RE X E e xNo := ⟨pe_imp h.pe fun _ _ _ q => (tR_no q).elim⟩
theorem ra_no (h : SA X es ar) : RA X E es xNo := ⟨pa_imp h.pa fun _ _ _ q => (tR_no q).elim⟩
theorem rt_no (h : ST X e t) : RT X E e xNo := ⟨pt_imp h.pt fun _ _ _ q => (tR_no q).elim⟩
theorem ra_cons (ha : SE X a f) (xa : RE X E a ra) (xr : RA X E es rb) (hs : starEach (a :: es) X.env = (false, eval a X.env) :: starEach es X.env := by rfl) : RA X E (a :: es) (xThen f ra rb) :=
  ⟨pa_imp (pa_cons (or_pe xa.pe ha.pf) xr.pa hs) fun _ _ _ q => then_of q fun _ _ z => z⟩
theorem re_bin {op : Operator} {o : D → D → Option SV} (ho : OpS X (binaryOp op) o) (ha : SE X a f) (xa : RE X E a ra) (xb : RE X E b rb) : RE X E (.BinOp a op b pos) (xThen f ra rb) := by
  obtain ⟨r, h1, _⟩ := ho
  exact ⟨pe_imp (pe_op h1 (or_pe xa.pe ha.pf) xb.pe) fun _ _ _ q => then_of q fun _ _ z => z⟩
theorem re_cmp {op : CmpOp} {o : D → D → Option SV} (ho : OpS X (compareOp op) o) (ha : SE X a f) (xa : RE X E a ra) (xb : RE X E b rb) (hm : behindInMarks op b = false) : RE X E (.Compare a [op] [b] pos) (xThen f ra rb) := by
  obtain ⟨r, h1, _⟩ := ho
  exact ⟨pe_imp (pe_cmpR h1 (or_pe xa.pe ha.pf) xb.pe hm) fun _ _ _ q => then_of q fun _ _ z => z⟩
theorem rt_cmp {op : CmpOp} {o : D → D → Option SV} (ho : OpS X (compareOp op) o) (ha : SE X a f) (xa : RE X E a ra) (xb : RE X E b rb) (hm : behindInMarks op b = false) : RT X E (.Compare a [op] [b] pos) (xThen f ra rb) := by
  obtain ⟨r, h1, _⟩ := ho
  exact ⟨pt_imp (pt_cmpR h1 (or_pe xa.pe ha.pf) xb.pe hm) fun _ _ _ q => then_of q fun _ _ z => z⟩
theorem re_tup {k} (x : RA X E es r) : RE X E (.Tuple es k pos) r := ⟨pe_imp (pe_tup x.pa) fun _ _ _ q => q⟩
theorem re_lst (x : RA X E es r) : RE X E (.List es pos) r := ⟨pe_imp (pe_lst x.pa) fun _ _ _ q => q⟩
theorem re_neg (x : RE X E a r) : RE X E (.UnaryOp .USub a pos) r := ⟨pe_imp (pe_un un_neg x.pe) fun _ _ _ q => q⟩
theorem re_ix (ha : SE X a f) (xa : RE X E a ra) (xb : RE X E b rb) (hs : PlainIx b := by intro _ _; rfl) : RE X E (.Subscript a b pos) (xThen f ra rb) :=
  ⟨pe_imp (pe_ix ix_seq (or_pe xa.pe ha.pf) xb.pe hs) fun _ _ _ q => then_of q fun _ _ z => z⟩
theorem re_fld {m : Str} (x : RE X E a r) (hb : attributeBase a m X.env (eval a X.env) = eval a X.env := by rfl) : RE X E (.Attribute a m pos) r := ⟨pe_imp (pe_fld x.pe hb) fun _ _ _ q => q⟩
theorem re_notE (x : RE X E a r) : RE X E (.UnaryOp .Not a pos) r := ⟨pe_imp (pe_not x.pe) fun _ _ _ q => q⟩
theorem rt_val (x : RE X E e r) (he : ∀ whole, isTrue e X.env whole = (do let v ← whole; standAt e.pos; holding [v] (truthy v)) := by intro _; rfl) : RT X E e r := ⟨pt_imp (pt_val x.pe he) fun _ _ _ q => q⟩
theorem rt_not (x : RT X E a r) : RT X E (.UnaryOp .Not a pos) r := ⟨pt_imp (pt_not x.pt) fun _ _ _ q => q⟩
/-- a if c else b -/
def xIf (t : DT) (rt r1 r2 : DX) : DX := fun st => match rt st with
  | some x => some x
  | none => match t st with
    | some (true, s1) => r1 s1
    | some (false, s1) => r2 s1
    | none => none
theorem if_of {K : PySem.W.Frag} {mg : Str → Option Value} {rt r1 r2 : DX} {σ : L2.St} {H : Hp} {Q : Bool → Hp → Prop} (h : tR K mg E (xIf t rt r1 r2) σ H) (hT : ∀ H1, tR K mg E r1 σ H1 → Q true H1) (hF : ∀ H1, tR K mg E r2 σ H1 → Q false H1) : tR K mg E rt σ H ∨ tTD K mg t σ H Q := by
  obtain ⟨G, F, st, x, R, e, k⟩ := h
  unfold xIf at e
  split at e
  · rename_i y e1
    cases e
    exact .inl ⟨G, F, st, _, R, e1, k⟩
  · split at e
    · rename_i s1 e1
      exact .inr ⟨G, F, st, true, s1, R, e1, fun F1 H1 g1 R1 => hT H1 ⟨G, F1, s1, x, R1, e, k.gr g1⟩⟩
    · rename_i s1 e1
      exact .inr ⟨G, F, st, false, s1, R, e1, fun F1 H1 g1 R1 => hF H1 ⟨G, F1, s1, x, R1, e, k.gr g1⟩⟩
    · cases e
theorem re_if {rt : DX} (hc : ST X c t) (xc : RT X E c rt) (xa : RE X E a ra) (xb : RE X E b rb) : RE X E (.IfExp c a b pos) (xIf t rt ra rb) :=
  ⟨pe_imp (pe_ifExp (or_pt xc.pt hc.pt) xa.pe xb.pe) fun _ _ _ q => if_of q (fun _ z => iteT z) fun _ z => iteF z⟩
/-! ### statements -/
variable {s : Stmt} {ss ta tb : List Stmt} {d : DS} {P : List Nat}
theorem rs_no (h : SS X P s d) : RS1 X E s xNo := ⟨ps_imp h.ps fun _ _ _ q => (tR_no q).elim⟩
theorem rss_no (h : SSs X P ss d) : RSs X E ss xNo := ⟨pss_imp h.pss fun _ _ _ q => (tR_no q).elim⟩
theorem rss_nil : RSs X E [] xNo := ⟨pss_imp pss_nil fun _ _ _ q => (tR_no q).elim⟩
theorem rs_expr (x : RE X E e r) (hs : swapsWith e none pos.line X.env = pure false := by rfl) : RS1 X E (.Expr e pos) r := ⟨ps_imp (ps_expr x.pe hs) fun _ _ _ q => q⟩
theorem rs_ret (x : RE X E e r) : RS1 X E (.Return (some e) pos) r := ⟨ps_imp (ps_ret x.pe) fun _ _ _ q => q⟩
theorem rs_set {i : Nat} {y : Str} {pos' : Pos} (hN : X.N.Nodup) (hi : X.N[i]? = some y) (hx : Loc X.env.scope y) (x : RE X E e r) (hs : swapsWith e (some (.Name y pos')) pos.line X.env = pure false := by rfl) (hf : X.fn y = true ∨ X.env.scope.names.lookup y = some .local := by first | exact .inl rfl | exact .inr rfl | assumption) :
    RS1 X E (.Assign [.Name y pos'] e pos) r := ⟨ps_imp (ps_set hN hi hx x.pe hs hf) fun _ _ _ q => q⟩
theorem rs_if {rt : DX} (hc : ST X c t) (xc : RT X E c rt) (xa : RSs X E ta ra) (xb : RSs X E tb rb) : RS1 X E (.If c ta tb pos) (xIf t rt ra rb) :=
  ⟨ps_imp (ps_if (or_pt xc.pt hc.pt) xa.pss xb.pss) fun _ _ _ q => if_of q (fun _ z => iteT z) fun _ z => iteF z⟩
def xSeq (d : DS) (r1 r2 : DX) : DX := fun st => match r1 st with
  | some x => some x
  | none => match d st with
    | some (.nx, s1) => r2 s1
    | _ => none
theorem rss_cons (h : SS X P s d) (x1 : RS1 X E s ra) (x2 : RSs X E ss rb) : RSs X E (s :: ss) (xSeq d ra rb) :=
  ⟨pss_imp (pss_cons (or_ps x1.ps h.ps) x2.pss) fun D σ H q => by
    obtain ⟨G, F, st, x, R, e, k⟩ := q
    unfold xSeq at e
    split at e
    · rename_i y e1
      cases e
      exact .inl ⟨G, F, st, _, R, e1, k⟩
    · split at e
      · rename_i s1 e1
        exact .inr ⟨G, F, st, .nx, s1, R, e1, fun F1 H1 σ1 g1 R1 _ => ⟨G, F1, s1, x, R1, e, k.gr g1⟩⟩
      · cases e⟩
theorem rss_one (x : RS1 X E s r) : RSs X E [s] r := ⟨pss_imp (pss_one x.ps) fun _ _ _ q => q⟩
theorem RS1.of_nox (x : RSs X.nox E ss r) : RSs X E ss r := ⟨x.pss.nox⟩
/-! ### loops -/
def xLoop (g : D → S → Option S) (b : DS) (rb : DX) : List D → DX
  | [], _ => none
  | d :: ds, st => match g d st with
    | none => none
    | some s1 => match rb s1 with
      | some x => some x
      | none => match b s1 with
        | some (.nx, s2) => xLoop g b rb ds s2
        | some (.ct, s2) => xLoop g b rb ds s2
        | _ => none
def xFor (it : DI) (ri : DX) (g : D → S → Option S) (b : DS) (rb : DX) : DX := fun st => match ri st with
  | some x => some x
  | none => match it st with
    | none => none
    | some (ds, s1) => xLoop g b rb ds s1
variable {vs : List Nat} {tg iter : Expr} {body : List Stmt} {it : DI} {gg : D → S → Option S} {bb : DS}
theorem or_pi {tg e : Expr} {t u : TI} (h : PI X tg e t) (h' : PI X tg e u) : PI X tg e (fun σ H R => t σ H R ∨ u σ H R) := pi_or h h'
theorem rs_for {ri : DX} (hp : PassesOwn (model X.prog X.w) X.A X.env X.xe) (hc : X.calm = true) (hi : SI X tg iter it) (xi : RI X E tg iter ri) (hg : SG X tg vs gg) (hb : SSs X P body bb) (xb : RSs X E body rb)
    (hs : ∀ x, foldedSetIterable iter X.env x = pure x := by intro _; rfl) : RS1 X E (.For tg iter body [] pos) (xFor it ri gg bb rb) :=
  ⟨ps_imp (ps_for hp hc (or_pi xi.pi hi.pi) hg.pg (or_pss xb.pss hb.pss) hs) fun D σ H q => by
    obtain ⟨G, F, st, x, R, e, k⟩ := q
    unfold xFor at e
    split at e
    · rename_i y e1
      cases e
      exact .inl ⟨G, F, st, _, R, e1, k⟩
    split at e
    · cases e
    rename_i ds s1 e1
    refine .inr ⟨G, F, st, ds, s1, R, e1, fun J F1 H1 g1 R1 w => ?_⟩
    refine ⟨fun i m σ' H' => m = ds.length - i ∧ i ≤ ds.length ∧ ∃ F'' st'', Gr G F1 F'' ∧ Rep X.K X.mg G F'' st'' σ' H' ∧ xLoop gg bb rb (ds.drop i) st'' = some x, ⟨ds.length, by simp, Nat.zero_le _, F1, s1, Gr.refl F1, R1, by simpa using e⟩, ?_⟩
    rintro i m σ' H' ⟨rfl, hi, F2, st2, g2, R2, l2⟩
    by_cases hlt : i < ds.length
    · rw [List.drop_eq_getElem_cons hlt] at l2
      unfold xLoop at l2
      split at l2
      · cases l2
      rename_i s3 e3
      refine .inr ⟨w.go i H' (g2.1.trans R2.f) hlt, fun σ'' H'' => ∃ F'' st'', Gr G F1 F'' ∧ Rep X.K X.mg G F'' st'' σ'' H'' ∧ xLoop gg bb rb (ds.drop (i + 1)) st'' = some x, ?_, fun x H3 y => ?_⟩
      · rintro σ'' H'' ⟨F5, st5, h1, h2, h4⟩
        exact ⟨ds.length - (i + 1), by omega, rfl, hlt, F5, st5, h1, h2, h4⟩
      · obtain ⟨F3, g3, R3, r3⟩ := w.yld y (List.getElem?_eq_getElem hlt) R2 g2.1
        refine ⟨G, F3, st2, _, s3, R3, r3, e3, fun σ4 R4 h4 _ => ?_⟩
        split at l2
        · rename_i z e5
          cases l2
          exact .inl ⟨G, F3, s3, _, R4, e5, k.gr ((g1.trans g2).trans g3)⟩
        · split at l2
          · rename_i s5 e5
            exact .inr ⟨G, F3, s3, .nx, s5, R4, e5, fun F6 H6 σ6 g6 R6 k6 => ⟨F6, s5, (g2.trans g3).trans g6, R6, l2⟩⟩
          · rename_i s5 e5
            exact .inr ⟨G, F3, s3, .ct, s5, R4, e5, fun F6 H6 σ6 g6 R6 k6 => ⟨F6, s5, (g2.trans g3).trans g6, R6, l2⟩⟩
          · cases l2
    · have ee : i = ds.length := by omega
      subst ee
      rw [List.drop_length] at l2
      cases l2⟩
theorem ri_no (h : SI X tg iter it) : RI X E tg iter xNo := ⟨pi_imp h.pi fun _ _ _ q => (tR_no q).elim⟩
theorem ri_seq (x : RE X E iter r) : RI X E tg iter r := ⟨pi_imp (pi_list x.pe) fun _ _ _ q => q⟩
theorem ri_enum {elts : List Expr} {kk : Nat} {tpos p : Pos} (hg : Gl X "enumerate") (hm : X.mg "enumerate" = none) (x : RA X E [e] r) (hs : starEach [e] X.env = [(false, eval e X.env)] := by rfl) : RI X E (.Tuple elts kk tpos) (.Call (.Name "enumerate" p) [e] [] pos) r :=
  ⟨pi_imp (pi_enum hg hm x.pa hs) fun _ _ _ q => q⟩
theorem re_lc {elt : Expr} {ifs : List Expr} {scope : Scope} {own : List (Str × Nat)} {de : DE} (hc : X.calm = true) (hN : X.N.Nodup) (xi : RI X E tg iter r) (ok : BlkOk X.N X.env.scope scope own)
    (hg : ∀ (s : Shared) (H : Hp) (C : Addr) (cl : List (Str × Addr)) (fp : List Addr), SG (X.blk s H scope (compEnvC scope cl C X.env) fp) tg (own.map (·.2)) gg) (ht : ∀ (s : Shared) (H : Hp) (C : Addr) (cl : List (Str × Addr)) (fp : List Addr), STs (X.blk s H scope (compEnvC scope cl C X.env) fp) ifs t)
    (he : ∀ (s : Shared) (H : Hp) (C : Addr) (cl : List (Str × Addr)) (fp : List Addr), SE (X.blk s H scope (compEnvC scope cl C X.env) fp) elt de) (hs : ∀ x, foldedSetIterable iter X.env x = pure x := by intro _; rfl) :
    RE X E (.ListComp elt [⟨tg, iter, ifs, 0⟩] scope pos) r :=
  ⟨pe_imp (pe_lc (te := tF X.K X.mg de) (tt := tTD X.K X.mg t) (g := tGD X.K X.mg (own.map (·.2)) gg) hc hN xi.pi ok (fun s H C cl fp => (hg s H C cl fp).pg) (fun s H C cl fp => (ht s H C cl fp).pts) (fun s H C cl fp => (he s H C cl fp).pf) hs) fun _ _ _ q => q⟩
end

/-! ### a def's promise: a value, or what flies -/
def spX (K : PySem.W.Frag) (mg : Str → Option Value) (N : Nat) (fn : List D → Option SV) (rn : List D → Option D) : Sp := fun vs H Q E => spP K mg N fn vs H Q E ∨
  ∃ G F ds x, Kp K mg G H ∧ Exf F H ∧ ds.length = N ∧ RDs K mg F ds vs ∧ rn ds = some x ∧ KnX K mg G F x E
def spOX (K : PySem.W.Frag) (mg : Str → Option Value) (N : Nat) (fo : SV → List D → Option (SV × SV)) (ro : SV → List D → Option D) : Sp := fun vs H Q E => spO K mg N fo vs H Q E ∨
  ∃ G F ds y a ws x, vs = .ref a :: ws ∧ Kp K mg G H ∧ Exf F H ∧ ds.length = N ∧ RDs K mg F ds ws ∧ y.own = true ∧ RS K mg G F H y (.ref a) ∧ ro y ds = some x ∧ KnX K mg G F x E
theorem spX_len {K : PySem.W.Frag} {mg : Str → Option Value} {N : Nat} {fn : List D → Option SV} {rn : List D → Option D} : ∀ vs H Q E, spX K mg N fn rn vs H Q E → vs.length = N := fun vs H Q E h => by
  rcases h with h | ⟨G, F, ds, x, _, _, hl, r, _⟩
  · exact spP_len vs H Q E h
  · rw [← r.length]; exact hl
theorem spOX_len {K : PySem.W.Frag} {mg : Str → Option Value} {N : Nat} {fo : SV → List D → Option (SV × SV)} {ro : SV → List D → Option D} : ∀ vs H Q E, spOX K mg N fo ro vs H Q E → vs.length = N + 1 := fun vs H Q E h => by
  rcases h with h | ⟨G, F, ds, y, a, ws, x, rfl, _, _, hl, r, _⟩
  · exact spO_len vs H Q E h
  · rw [List.length_cons, ← r.length, hl]
section
variable {X : Cx} {E : XK} {k : Nat} {fa C : Addr} {fd : FuncData} {ps : List Str} {fn : List D → Option SV} {rn : List D → Option D} {fo : SV → List D → Option (SV × SV)} {ro : SV → List D → Option D} {x m c : Str} {p pos apos : Pos} {e o : Expr} {es : List Expr} {kws : List Keyword} {f : DE} {r r2 : DA} {ra rb : DX} {NN : Nat}
theorem FnOk.val {P : Program} {w : World} {K : PySem.W.Frag} {mg : Str → Option Value} {base : Heap} {CX : CXT} (F : FnOk P w K mg base CX k fa fd ps (spX K mg NN fn rn)) : FnOk P w K mg base CX k fa fd ps (spP K mg NN fn) := F.imp fun _ _ _ _ h => .inl h
theorem FnOk.valO {P : Program} {w : World} {K : PySem.W.Frag} {mg : Str → Option Value} {base : Heap} {CX : CXT} (F : FnOk P w K mg base CX k fa fd ps (spOX K mg NN fo ro)) : FnOk P w K mg base CX k fa fd ps (spO K mg NN fo) := F.imp fun _ _ _ _ h => .inl h
theorem spX_of {K : PySem.W.Frag} {mg : Str → Option Value} {G F H : Hp} {st : S} {σ : L2.St} {ds : List D} {vs : List V} {y : D} {Q : VK} (R : Rep K mg G F st σ H) (hl : ds.length = NN) (rr : RDs K mg F ds vs) (e : rn ds = some y) (k : KnX K mg G F y E) : spX K mg NN fn rn vs H Q E :=
  .inr ⟨noT H, F, ds, y, R.g.self, ⟨R.f, R.nt⟩, hl, rr, e, fun cls d F' H' g e1 e2 rx => by
    obtain ⟨R', g'⟩ := R.after g e1 e2
    exact k cls d F' H' g' (R.g.trans e1) e2 rx⟩
/-- f(e, ..): an argument flies, or the call -/
def xCall (NN : Nat) (rn : List D → Option D) (r : DA) (ra : DX) : DX := fun st => match ra st with
  | some x => some x
  | none => match r st with
    | some (xs, _) => if xs.length = NN then rn xs else none
    | none => none
theorem re_call (F : FnOk X.prog X.w X.K X.mg X.base (L2.CX X.prog X.w) k fa fd ps (spX X.K X.mg NN fn rn)) (tk : TkX X E) (hr : Room k X.A) (hg : Gl X x) (hm : X.mg x = some (.ref fa)) (hk : PySem.W.keepIn X.K (.ref fa) = true) (hb : Binds X.K fd ps [])
    (ha : SA X (e :: es) r) (xa : RA X E (e :: es) ra) (hdb : (x == ("__debug__" : Str)) = false := by decide) (he : starEach (e :: es) X.env = (false, eval e X.env) :: starEach es X.env := by rfl) (hpl : (backTo pos (starEach es X.env)).any (·.1) = false := by rfl) :
    RE X E (.Call (.Name x p) (e :: es) [] pos) (xCall NN rn r ra) :=
  ⟨pe_imp (pe_call F hr hg hm hk hb .nil (passes_call tk fun _ _ _ _ h => h) (or_pa xa.pa ha.pa) hdb he hpl) fun σ H Q q => by
    obtain ⟨G, Fz, st, y, R, e, k⟩ := q
    unfold xCall at e
    split at e
    · rename_i z e1
      cases e
      exact .inl ⟨G, Fz, st, _, R, e1, k⟩
    · split at e
      · rename_i xs s1 e1
        split at e
        · rename_i hl
          refine .inr ⟨G, Fz, st, xs, s1, R, e1, fun vs F1 H1 g1 R1 r1 => ?_⟩
          show spX X.K X.mg NN fn rn (vs ++ []) H1 Q E
          rw [List.append_nil]
          exact spX_of R1 hl r1 e (k.gr g1)
        · cases e
      · cases e⟩
/-- f(e, ..) where only an argument flies -/
theorem re_callA {sp : Sp} (F : FnOk X.prog X.w X.K X.mg X.base (L2.CX X.prog X.w) k fa fd ps sp) (hr : Room k X.A) (hg : Gl X x) (hm : X.mg x = some (.ref fa)) (hk : PySem.W.keepIn X.K (.ref fa) = true) (hb : Binds X.K fd ps [])
    (xa : RA X E (e :: es) ra) (hdb : (x == ("__debug__" : Str)) = false := by decide) (he : starEach (e :: es) X.env = (false, eval e X.env) :: starEach es X.env := by rfl) (hpl : (backTo pos (starEach es X.env)).any (·.1) = false := by rfl) :
    RE X E (.Call (.Name x p) (e :: es) [] pos) ra := ⟨pe_imp (pe_call F hr hg hm hk hb .nil passL xa.pa hdb he hpl) fun σ H Q q => q⟩
theorem re_callB {id : String} {q : Str} {p : Pos} {oo : List D → Option SV} (hc : CallS X (.builtin id) oo) (hg : Gl X q) (hm : X.mg q = none) (hv : bootBuiltins q = some (.builtin id)) (xa : RA X E (e :: es) ra) (hn : q ≠ "__name__" := by decide) (hdb : (q == ("__debug__" : Str)) = false := by decide)
    (he : starEach (e :: es) X.env = (false, eval e X.env) :: starEach es X.env := by rfl) (hpl : (backTo pos (starEach es X.env)).any (·.1) = false := by rfl) : RE X E (.Call (.Name q p) (e :: es) [] pos) ra := by
  obtain ⟨rr, h1, _⟩ := hc
  exact ⟨pe_imp (pe_callB h1 hg hm hv xa.pa hn hdb he hpl) fun _ _ _ q => q⟩
theorem re_callTy {T : String} {q : Str} {p : Pos} {oo : List D → Option SV} (hc : CallS X (.type T) oo) (hg : Gl X q) (hm : X.mg q = none) (hv : bootBuiltins q = some (.type T)) (xa : RA X E (e :: es) ra) (hn : q ≠ "__name__" := by decide) (hdb : (q == ("__debug__" : Str)) = false := by decide)
    (he : starEach (e :: es) X.env = (false, eval e X.env) :: starEach es X.env := by rfl) (hpl : (backTo pos (starEach es X.env)).any (·.1) = false := by rfl) : RE X E (.Call (.Name q p) (e :: es) [] pos) ra := by
  obtain ⟨rr, h1, _⟩ := hc
  exact ⟨pe_imp (pe_callTy h1 hg hm hv xa.pa hn hdb he hpl) fun _ _ _ q => q⟩
/-- o.m(e, ..): the receiver flies, an argument, or the call -/
def xMeth (c m : Str) (NN : Nat) (rn : List D → Option D) (f : DE) (rf : DX) (r : DA) (ra : DX) : DX := fun st => match rf st with
  | some x => some x
  | none => match f st with
    | none => none
    | some (x, s1) => match x.frz with
      | .ins c' ns ds => if c' = c ∧ hasN m ns = false then (match ra s1 with
        | some y => some y
        | none => match r s1 with
          | none => none
          | some (xs, _) => if xs.length + 1 = NN then rn (.ins c' ns ds :: xs) else none) else none
      | _ => none
theorem methX_of {σ : L2.St} {H : Hp} {Q : VK} (hc : X.mg c = some (.ref C)) (q : tR X.K X.mg E (xMeth c m NN rn f rb r ra) σ H) : tMeth C m (spX X.K X.mg NN fn rn) [] E (fun σ H Q => tR X.K X.mg E rb σ H ∨ tF X.K X.mg f σ H Q) (fun σ H Q => tR X.K X.mg E ra σ H ∨ tAD X.K X.mg r σ H Q) σ H Q := by
  obtain ⟨G, F, st, y, R, e, k⟩ := q
  unfold xMeth at e
  split at e
  · rename_i z e1
    cases e
    exact .inl ⟨G, F, st, _, R, e1, k⟩
  split at e
  · cases e
  rename_i x s1 e1
  split at e
  · rename_i c' ns ds hx
    split at e
    · rename_i hcc
      obtain ⟨rfl, hm⟩ := hcc
      refine .inr ⟨G, F, st, x, s1, R, e1, fun v F1 H1 g1 R1 r1 => ?_⟩
      rw [hx] at r1
      obtain ⟨a, C', dx, fs, rfl, hC, ha, hn, rr⟩ := id r1.ins_inv
      rw [hc] at hC
      cases hC
      refine ⟨a, dx, fs, rfl, R1.f _ _ ha, hasN_lookup (by rw [hn]; exact hm), ?_⟩
      split at e
      · rename_i z e2
        cases e
        exact .inl ⟨G, F1, s1, _, R1, e2, k.gr g1⟩
      · split at e
        · cases e
        rename_i xs s2 e2
        split at e
        · rename_i hl
          refine .inr ⟨G, F1, s1, xs, _, R1, e2, fun vs F2 H2 g2 R2 r2 => ?_⟩
          show spX X.K X.mg NN fn rn (.ref a :: (vs ++ [])) H2 Q E
          rw [List.append_nil]
          exact spX_of R2 (by rw [List.length_cons]; exact hl) (.cons (r1.mono g2.1) r2) e (k.gr (g1.trans g2))
        · cases e
    · cases e
  · cases e
theorem re_meth {pl : Sem Bool} (hc : X.mg c = some (.ref C)) (cl : Cls X.K C) (hm : Meth X.K C m fa) (F : FnOk X.prog X.w X.K X.mg X.base (L2.CX X.prog X.w) k fa fd ps (spX X.K X.mg NN fn rn)) (tk : TkX X E) (hr : Room k X.A) (hb : Binds X.K fd ps []) (ho : SE X o f) (xo : RE X E o rb) (ha : SA X (e :: es) r) (xa : RA X E (e :: es) ra)
    (hst : starEach (e :: es) X.env = (false, eval e X.env) :: starEach es X.env := by rfl) (hpl : (backTo pos (starEach es X.env)).any (·.1) = false := by rfl)
    (ht : eval (.Call (.Attribute o m apos) (e :: es) [] pos) X.env = (do
      let ov ← eval o X.env
      standAt apos.atName
      let (f, first) ← holding [ov] (getMethod ov m pl)
      callWith pos f first (backTo pos (starEach (e :: es) X.env)) (backToKw pos (keywordEach [] X.env))) := by rfl) :
    RE X E (.Call (.Attribute o m apos) (e :: es) [] pos) (xMeth c m NN rn f rb r ra) :=
  ⟨pe_imp (pe_meth (or_pe xo.pe ho.pf) cl hm F hr hb .nil (passes_call tk fun _ _ _ _ h => h) (or_pa xa.pa ha.pa) hst hpl ht) fun σ H Q q => methX_of hc q⟩
theorem re_meth0 {pl : Sem Bool} (hc : X.mg c = some (.ref C)) (cl : Cls X.K C) (hm : Meth X.K C m fa) (F : FnOk X.prog X.w X.K X.mg X.base (L2.CX X.prog X.w) k fa fd ps (spX X.K X.mg NN fn rn)) (tk : TkX X E) (hr : Room k X.A) (hb : Binds X.K fd ps []) (ho : SE X o f) (xo : RE X E o rb)
    (ht : eval (.Call (.Attribute o m apos) [] [] pos) X.env = (do
      let ov ← eval o X.env
      standAt apos.atName
      let (f, first) ← holding [ov] (getMethod ov m pl)
      callWith pos f first (backTo pos (starEach [] X.env)) (backToKw pos (keywordEach [] X.env))) := by rfl) :
    RE X E (.Call (.Attribute o m apos) [] [] pos) (xMeth c m NN rn f rb dNil xNo) :=
  ⟨pe_imp (pe_meth0 (or_pe xo.pe ho.pf) cl hm F hr hb .nil (passes_call tk fun _ _ _ _ h => h) ht) fun σ H Q q => by
    have q := methX_of (fn := fn) (Q := Q) hc q
    rcases q with q | ⟨G, Fz, st, sv, st', R, e, kk⟩
    · exact .inl q
    · refine .inr ⟨G, Fz, st, sv, st', R, e, fun v F' H' g R' r' => ?_⟩
      obtain ⟨a, dx, fs, ea, h1, h2, h3⟩ := kk v F' H' g R' r'
      refine ⟨a, dx, fs, ea, h1, h2, ?_⟩
      rcases h3 with h3 | h3
      · exact (tR_no h3).elim
      · obtain ⟨G1, F1, s1, ds1, s2, R1, e1, k1⟩ := h3
        cases e1
        exact k1 [] F1 H' (Gr.refl F1) R1 .nil⟩
/-- C(e, ..): an argument flies, or __init__ -/
def xMake (c : Str) (NN : Nat) (ro : SV → List D → Option D) (r : DA) (ra : DX) : DX := fun st => match ra st with
  | some x => some x
  | none => match r st with
    | some (xs, _) => if xs.length = NN then ro (.ins c [] []) xs else none
    | none => none
theorem re_make (M : Mk X.K C fa) (F : FnOk X.prog X.w X.K X.mg X.base (L2.CX X.prog X.w) k fa fd ps (spOX X.K X.mg NN fo ro)) (tk : TkX X E) (hr : Room (k + 1) X.A) (hg : Gl X x) (hm : X.mg x = some (.ref C)) (hb : Binds X.K fd ps [])
    (ha : SA X (e :: es) r) (xa : RA X E (e :: es) ra) (hdb : (x == ("__debug__" : Str)) = false := by decide) (he : starEach (e :: es) X.env = (false, eval e X.env) :: starEach es X.env := by rfl) (hpl : (backTo pos (starEach es X.env)).any (·.1) = false := by rfl) :
    RE X E (.Call (.Name x p) (e :: es) [] pos) (xMake x NN ro r ra) :=
  ⟨pe_imp (pe_make M F hr hg hm hb .nil (passes_call tk fun _ _ _ _ h => h) (or_pa xa.pa ha.pa) hdb he hpl) fun σ H Q q => by
    obtain ⟨G, Fz, st, y, R, e, k⟩ := q
    unfold xMake at e
    split at e
    · rename_i z e1
      cases e
      exact .inl ⟨G, Fz, st, _, R, e1, k⟩
    · split at e
      · rename_i xs s1 e1
        split at e
        · rename_i hl
          refine .inr ⟨G, Fz, st, xs, s1, R, e1, fun vs F1 H1 g1 R1 r1 => fun a dx ha hdx hne => ?_⟩
          show spOX X.K X.mg NN fo ro (.ref a :: (vs ++ [])) _ _ _
          rw [List.append_nil]
          have hda : upd H1 dx (.own a) a = none := by rw [upd_ne (fun z => hne z.symm)]; exact ha
          have eH : Ex H1 (upd (upd H1 dx (.own a)) a (.ins C dx [])) := (Ex.new hdx).trans (Ex.new hda)
          refine .inr ⟨noT H1, F1, xs, .ins x [] [], a, vs, y, rfl, (R1.g.self.new hdx).new hda, ⟨R1.f.trans eH, R1.nt⟩, hl, r1, rfl, .ins (noT_none ha) (R1.fresh ha).2 hm upd_same rfl .nil, e, fun cls d F' H' g e3 e4 rx => ?_⟩
          obtain ⟨R', g'⟩ := R1.after g e3 e4
          exact k cls d F' H' (g1.trans g') (R1.g.trans e3) e4 rx
        · cases e
      · cases e⟩
end

/-! ### a def of the text that may raise -/
def runX (n : Nat) (r : DX) (ds : List D) : Option D := r ((ds.map fun d => some (.imm d)) ++ List.replicate (n - ds.length) none)
def runOX (n : Nat) (r : DX) (y : SV) (ds : List D) : Option D := r (some y :: ((ds.map fun d => some (.imm d)) ++ List.replicate (n - (ds.length + 1)) none))
section
variable {P : Program} {w : World} {K : PySem.W.Frag} {mg : Str → Option Value} {base : Heap}
theorem fn_px {x qual : Str} {st : Stmt} {f : Addr} {fd : FuncData} {N ps : List Str} {k : Nat} {b : DS} {r : DX} (F : Fun K x qual st f fd) (S : FnScope N ps (defScope st))
    (hb : ∀ (cdv : Value) (A : Around) (outer : List Env) (s : Shared) (H : Hp) (E : XK), Room k (A.deeper (envOfC qual (defScope st) s.heap.objs.size f cdv)) → SSs (cxOf (L2.CX P w) P w K mg base N qual (defScope st) f cdv A outer s H E).nox [] (defBody st) b)
    (hx : ∀ (cdv : Value) (A : Around) (outer : List Env) (s : Shared) (H : Hp) (E : XK), Room k (A.deeper (envOfC qual (defScope st) s.heap.objs.size f cdv)) → TkX (cxOf (L2.CX P w) P w K mg base N qual (defScope st) f cdv A outer s H E) E → PassesOwn (model P w) (cxOf (L2.CX P w) P w K mg base N qual (defScope st) f cdv A outer s H E).A (cxOf (L2.CX P w) P w K mg base N qual (defScope st) f cdv A outer s H E).env (cxOf (L2.CX P w) P w K mg base N qual (defScope st) f cdv A outer s H E).xe → RSs (cxOf (L2.CX P w) P w K mg base N qual (defScope st) f cdv A outer s H E) E (defBody st) r) :
    FnOk P w K mg base (L2.CX P w) (k + 1) f fd ps (spX K mg ps.length (runP N.length b) (runX N.length r)) := by
  have hpl : ps.length ≤ N.length := by have := congrArg List.length S.pre; rw [List.length_take] at this; omega
  refine F.okX S (fun vs H Q E h => spX_len vs H Q E h) (fun cdv A outer s H vs Q E hr h => ⟨_, or_pss (hb cdv A outer s H E hr).pss.nox (hx cdv A outer s H E hr (takes_of rfl rfl rfl rfl) (passes_of rfl)).pss, ?_⟩)
  rcases h with ⟨G, Fz, ds, sv, eg, ef, hl, r, e, q⟩ | ⟨G, Fz, ds, x, eg, ef, hl, r, e, q⟩
  · left
    unfold runP at e
    have R := rep_start (N := N) eg ef r (by rw [hl]; exact hpl)
    split at e
    · rename_i st1 e1
      cases e
      exact ⟨G, Fz, _, _, _, R, e1, fun F' H' σ' g R' _ => q .non F' H' g R'.g ⟨R'.f, R'.nt⟩ (.imm .non)⟩
    · rename_i sv1 st1 e1
      cases e
      exact ⟨G, Fz, _, _, _, R, e1, fun F' H' σ' g R' _ v rv _ => q v F' H' g R'.g ⟨R'.f, R'.nt⟩ rv⟩
    · cases e
  · right
    exact ⟨G, Fz, _, x, rep_start (N := N) eg ef r (by rw [hl]; exact hpl), e, q⟩
end
end Sm
/-! Own exceptions: made, raised, asked. -/
namespace Sm
open PySem L2 Evl PyProof.Rows

section
variable {P : Program} {w : World} {K : PySem.W.Frag} {mg : Str → Option Value} {base : Heap}
theorem fn_ox {x qual : Str} {st : Stmt} {f : Addr} {fd : FuncData} {N ps : List Str} {p0 : Str} {k : Nat} {b : DS} {r : DX} (F : Fun K x qual st f fd) (S : FnScope N (p0 :: ps) (defScope st))
    (hb : ∀ (cdv : Value) (A : Around) (outer : List Env) (s : Shared) (H : Hp) (E : XK), Room k (A.deeper (envOfC qual (defScope st) s.heap.objs.size f cdv)) → SSs (cxOf (L2.CX P w) P w K mg base N qual (defScope st) f cdv A outer s H E).nox [0] (defBody st) b)
    (hx : ∀ (cdv : Value) (A : Around) (outer : List Env) (s : Shared) (H : Hp) (E : XK), Room k (A.deeper (envOfC qual (defScope st) s.heap.objs.size f cdv)) → TkX (cxOf (L2.CX P w) P w K mg base N qual (defScope st) f cdv A outer s H E) E → PassesOwn (model P w) (cxOf (L2.CX P w) P w K mg base N qual (defScope st) f cdv A outer s H E).A (cxOf (L2.CX P w) P w K mg base N qual (defScope st) f cdv A outer s H E).env (cxOf (L2.CX P w) P w K mg base N qual (defScope st) f cdv A outer s H E).xe → RSs (cxOf (L2.CX P w) P w K mg base N qual (defScope st) f cdv A outer s H E) E (defBody st) r) :
    FnOk P w K mg base (L2.CX P w) (k + 1) f fd (p0 :: ps) (spOX K mg ps.length (runO N.length b) (runOX N.length r)) := by
  have hpl : (p0 :: ps).length ≤ N.length := by have := congrArg List.length S.pre; rw [List.length_take] at this; omega
  refine F.okX S (fun vs H Q E h => spOX_len vs H Q E h) (fun cdv A outer s H vs Q E hr h => ⟨_, or_pss (hb cdv A outer s H E hr).pss.nox (hx cdv A outer s H E hr (takes_of rfl rfl rfl rfl) (passes_of rfl)).pss, ?_⟩)
  rcases h with h | ⟨G, Fz, ds, y, a, ws, x, rfl, eg, ef, hl, r, oy, ry, e, q⟩
  · exact .inl (goO (p0 := p0) hpl h)
  · exact .inr ⟨G, Fz, _, x, rep_startO (N := N) eg ef r ry (by simp at hpl; omega) (by simp at hpl; omega), e, q⟩
end

/-! ### __init__ of an exception: one field, two fields -/
def spI1 (K : PySem.W.Frag) (f : Str) : Sp := fun vs H Q _ => ∃ (a C : Addr) (u : V), vs = [.ref a, u] ∧ OexC K C ∧ PySem.W.findIn K (.ref C) f = some none ∧ H a = some (exo a C none) ∧
  ∀ dx, H dx = none → dx ≠ a → Q .non (upd (upd H dx (exd dx [(f, u)])) a (exo a C (some dx)))
def spI2 (K : PySem.W.Frag) (f g : Str) : Sp := fun vs H Q _ => ∃ (a C : Addr) (u v : V), vs = [.ref a, u, v] ∧ OexC K C ∧ PySem.W.findIn K (.ref C) f = some none ∧ PySem.W.findIn K (.ref C) g = some none ∧ H a = some (exo a C none) ∧
  ∀ dx, H dx = none → dx ≠ a → Q .non (upd (upd (upd H dx (exd dx [(f, u)])) a (exo a C (some dx))) dx (exd dx [(g, v), (f, u)]))
section
variable {P : Program} {w : World} {K : PySem.W.Frag} {mg : Str → Option Value} {base : Heap}
theorem fn_i1 {x qual : Str} {st : Stmt} {fa : Addr} {fd : FuncData} {n0 n1 f : Str} {p1 p2 p3 pos : Pos} (F : Fun K x qual st fa fd) (S : FnScope [n0, n1] [n0, n1] (defScope st)) (hb : defBody st = [.Assign [.Attribute (.Name n0 p1) f p2] (.Name n1 p3) pos])
    (v0 : Vis (defScope st) n0) (v1 : Vis (defScope st) n1) (d0 : (n0 == ("__debug__" : Str)) = false) (d1 : (n1 == ("__debug__" : Str)) = false) (c0 : (n0 == ("__classdict__" : Str)) = false) (c1 : (n1 == ("__classdict__" : Str)) = false)
    (hs : ∀ (env : Env), env.scope = defScope st → swapsWith (.Name n1 p3) (some (.Attribute (.Name n0 p1) f p2)) pos.line env = pure false) :
    FnOk P w K mg base (L2.CX P w) 1 fa fd [n0, n1] (spI1 K f) := by
  refine F.okX S (fun vs H Q E h => by obtain ⟨a, C, u, rfl, _⟩ := h; rfl) (fun cdv A outer s H vs Q E hr h => ?_)
  rw [hb]
  refine ⟨_, pss_one (ps_ost (pe_var (i := 0) rfl v0 d0 c0) (pe_var (i := 1) rfl v1 d1 c1) (hs _ rfl)), ?_⟩
  obtain ⟨a, C, u, rfl, T, hno, ha, q⟩ := h
  exact ⟨u, rfl, .ref a, rfl, a, C, rfl, T, hno, .inl ⟨ha, fun dx n ne => q dx n ne⟩⟩
theorem fn_i2 {x qual : Str} {st : Stmt} {fa : Addr} {fd : FuncData} {n0 n1 n2 f g : Str} {p1 p2 p3 pos q1 q2 q3 qos : Pos} (F : Fun K x qual st fa fd) (S : FnScope [n0, n1, n2] [n0, n1, n2] (defScope st)) (hb : defBody st = [.Assign [.Attribute (.Name n0 p1) f p2] (.Name n1 p3) pos, .Assign [.Attribute (.Name n0 q1) g q2] (.Name n2 q3) qos])
    (v0 : Vis (defScope st) n0) (v1 : Vis (defScope st) n1) (v2 : Vis (defScope st) n2) (d0 : (n0 == ("__debug__" : Str)) = false) (d1 : (n1 == ("__debug__" : Str)) = false) (d2 : (n2 == ("__debug__" : Str)) = false) (c0 : (n0 == ("__classdict__" : Str)) = false) (c1 : (n1 == ("__classdict__" : Str)) = false) (c2 : (n2 == ("__classdict__" : Str)) = false)
    (hs : ∀ (env : Env), env.scope = defScope st → swapsWith (.Name n1 p3) (some (.Attribute (.Name n0 p1) f p2)) pos.line env = pure false) (hs' : ∀ (env : Env), env.scope = defScope st → swapsWith (.Name n2 q3) (some (.Attribute (.Name n0 q1) g q2)) qos.line env = pure false) :
    FnOk P w K mg base (L2.CX P w) 1 fa fd [n0, n1, n2] (spI2 K f g) := by
  refine F.okX S (fun vs H Q E h => by obtain ⟨a, C, u, v, rfl, _⟩ := h; rfl) (fun cdv A outer s H vs Q E hr h => ?_)
  rw [hb]
  refine ⟨_, pss_cons (ps_ost (pe_var (i := 0) rfl v0 d0 c0) (pe_var (i := 1) rfl v1 d1 c1) (hs _ rfl)) (pss_one (ps_ost (pe_var (i := 0) rfl v0 d0 c0) (pe_var (i := 2) rfl v2 d2 c2) (hs' _ rfl))), ?_⟩
  obtain ⟨a, C, u, v, rfl, T, hno, hno2, ha, q⟩ := h
  refine ⟨u, rfl, .ref a, rfl, a, C, rfl, T, hno, .inl ⟨ha, fun dx n ne => ?_⟩⟩
  refine ⟨v, rfl, .ref a, rfl, a, C, rfl, T, hno2, .inr ⟨dx, [(f, u)], upd_same, ?_, by simp, q dx n ne⟩⟩
  rw [upd_ne ne, upd_same]
end
/-! ### raise C(..) -/
/-- the exception C(xs), its fields in the order in which they stand -/
def xRaise (c : Str) (fs : List Str) (r : DA) : DX := fun st => match r st with
  | some (xs, _) => if xs.length = fs.length then some (.exc c fs.reverse xs.reverse) else none
  | none => none
section
variable {X : Cx} {E : XK} {k : Nat} {fI C : Addr} {fd : FuncData} {ps : List Str} {f g x : Str} {p pos pos' : Pos} {e : Expr} {es : List Expr} {r : DA}
theorem raised {G F H1 : Hp} {K : PySem.W.Frag} {mg : Str → Option Value} {st : S} {σ : L2.St} {d a C : Addr} {c : Str} {fs : List (Str × V)} {ns : List Str} {ds : List D} (R1 : Rep K mg G F st σ H1) (hm : mg c = some (.ref C)) (nd : H1 d = none) (hn : fs.map (·.1) = ns) (rr : RDs K mg F ds (fs.map (·.2))) (k : KnX K mg G F (.exc c ns ds) E) :
    E (.ref C) (some d) (upd H1 d (.xd fs)) := by
  obtain ⟨g2, R2⟩ := R1.laidF (o := .xd fs) nd fun _ z => nomatch z
  exact k _ _ _ _ g2 R2.g ⟨R2.f, R2.nt⟩ ⟨c, ns, ds, C, d, fs, rfl, rfl, hm, rfl, upd_same, hn, rr.mono g2.1⟩
theorem rs_raise1 (T : OexC X.K C) (hno : PySem.W.findIn X.K (.ref C) f = some none) (iC : PySem.W.findIn X.K (.ref C) "__init__" = some (some (.ref fI))) (tI : PySem.W.typeIn X.K (.ref fI) = some (.type "function")) (F1 : FnOk X.prog X.w X.K X.mg X.base (L2.CX X.prog X.w) k fI fd ps (spI1 X.K f)) (tk : TkX X E) (hc : X.calm = true) (hr : Room (k + 1) X.A) (hb : Binds X.K fd ps []) (hg : Gl X x) (hm : X.mg x = some (.ref C))
    (ha : SA X (e :: es) r) (hdb : (x == ("__debug__" : Str)) = false := by decide) (he : starEach (e :: es) X.env = (false, eval e X.env) :: starEach es X.env := by rfl) (hpl : (backTo pos (starEach es X.env)).any (·.1) = false := by rfl) :
    RS1 X E (.Raise (some (.Call (.Name x p) (e :: es) [] pos)) none pos') (xRaise x [f] r) :=
  ⟨ps_imp (ps_raise hc tk (pmk_oex T iC tI F1 hr hb .nil passL hg hm ha.pa hdb he hpl)) fun _ σ H q => by
    obtain ⟨G, F, st, y, R, e, k⟩ := q
    unfold xRaise at e
    split at e
    · rename_i xs s1 e1
      split at e
      · rename_i hl
        cases e
        obtain ⟨d0, rfl⟩ : ∃ d0, xs = [d0] := by
          match xs, hl with
          | [d0], _ => exact ⟨d0, rfl⟩
        refine ⟨G, F, st, _, s1, R, e1, fun vs F1 H1 g1 R1 r1 => ⟨by rw [← r1.length]; simp, fun a na => ?_⟩⟩
        obtain ⟨u, rfl, ru⟩ := r1.one
        refine ⟨a, C, u, rfl, T, hno, upd_same, fun dx nx ne => ?_⟩
        have nx1 : H1 dx = none := by rw [upd_ne ne] at nx; exact nx
        refine ⟨rfl, dx, [(f, u)], upd_same, by rw [upd_ne ne, upd_same], nx1, ?_⟩
        have eH : upd (del (upd (upd (upd H1 a (exo a C none)) dx (exd dx [(f, u)])) a (exo a C (some dx))) a) dx (.xd [(f, u)]) = upd H1 dx (.xd [(f, u)]) := by
          funext b
          by_cases hbd : b = dx
          · subst hbd; rw [upd_same, upd_same]
          · rw [upd_ne hbd, upd_ne hbd]
            by_cases hba : b = a
            · subst hba; rw [del_same, na]
            · rw [del_ne hba, upd_ne hba, upd_ne hbd, upd_ne hba]
        rw [eH]
        exact raised (a := a) R1 hm nx1 rfl (.cons ru .nil) (k.gr g1)
      · cases e
    · cases e⟩
theorem rs_raise2 (T : OexC X.K C) (hno : PySem.W.findIn X.K (.ref C) f = some none) (hno2 : PySem.W.findIn X.K (.ref C) g = some none) (iC : PySem.W.findIn X.K (.ref C) "__init__" = some (some (.ref fI))) (tI : PySem.W.typeIn X.K (.ref fI) = some (.type "function")) (F1 : FnOk X.prog X.w X.K X.mg X.base (L2.CX X.prog X.w) k fI fd ps (spI2 X.K f g)) (tk : TkX X E) (hc : X.calm = true) (hr : Room (k + 1) X.A) (hb : Binds X.K fd ps []) (hg : Gl X x) (hm : X.mg x = some (.ref C))
    (ha : SA X (e :: es) r) (hdb : (x == ("__debug__" : Str)) = false := by decide) (he : starEach (e :: es) X.env = (false, eval e X.env) :: starEach es X.env := by rfl) (hpl : (backTo pos (starEach es X.env)).any (·.1) = false := by rfl) :
    RS1 X E (.Raise (some (.Call (.Name x p) (e :: es) [] pos)) none pos') (xRaise x [f, g] r) :=
  ⟨ps_imp (ps_raise hc tk (pmk_oex T iC tI F1 hr hb .nil passL hg hm ha.pa hdb he hpl)) fun _ σ H q => by
    obtain ⟨G, F, st, y, R, e, k⟩ := q
    unfold xRaise at e
    split at e
    · rename_i xs s1 e1
      split at e
      · rename_i hl
        cases e
        obtain ⟨d0, d1, rfl⟩ : ∃ d0 d1, xs = [d0, d1] := by
          match xs, hl with
          | [d0, d1], _ => exact ⟨d0, d1, rfl⟩
        refine ⟨G, F, st, _, s1, R, e1, fun vs F1 H1 g1 R1 r1 => ⟨by rw [← r1.length]; simp, fun a na => ?_⟩⟩
        obtain ⟨u, v, rfl, ru, rv⟩ := r1.two
        refine ⟨a, C, u, v, rfl, T, hno, hno2, upd_same, fun dx nx ne => ?_⟩
        have nx1 : H1 dx = none := by rw [upd_ne ne] at nx; exact nx
        refine ⟨rfl, dx, [(g, v), (f, u)], by rw [upd_ne (fun z => ne z.symm), upd_same], upd_same, nx1, ?_⟩
        have eH : upd (del (upd (upd (upd (upd H1 a (exo a C none)) dx (exd dx [(f, u)])) a (exo a C (some dx))) dx (exd dx [(g, v), (f, u)])) a) dx (.xd [(g, v), (f, u)]) = upd H1 dx (.xd [(g, v), (f, u)]) := by
          funext b
          by_cases hbd : b = dx
          · subst hbd; rw [upd_same, upd_same]
          · rw [upd_ne hbd, upd_ne hbd]
            by_cases hba : b = a
            · subst hba; rw [del_same, na]
            · rw [del_ne hba, upd_ne hbd, upd_ne hba, upd_ne hbd, upd_ne hba]
        rw [eH]
        exact raised (a := a) R1 hm nx1 rfl (.cons rv (.cons ru .nil)) (k.gr g1)
      · cases e
    · cases e⟩
end

/-! ### what a caught exception holds -/
/-- what an own exception class says of itself -/
structure ExK (K : PySem.W.Frag) (C : Addr) : Prop where
  ga : PySem.W.findIn K (.ref C) "__getattribute__" = some (some (.builtin "BaseException.__getattribute__"))
  gg : PySem.W.findIn K (.ref C) "__getattr__" = some none
  sub : PySem.W.subIn K (.ref C) (.type "BaseException") = some true
  hd : PySem.W.hasDictIn K C = true
  cls : PySem.W.findIn K (.ref C) "__class__" = some (some (.builtin "object.__class__"))
  spe : PySem.W.specialIn K (.builtin "object.__class__") "__get__" = some (some (.builtin "getset_descriptor.__get__"))
  tak : PySem.W.takesIn K (.builtin "object.__class__") = some true
  mro : PySem.W.mroIn K C (.type "object") = some true
theorem exk_inst {X : Cx} {pins : List (Addr × Obj)} {σ : L2.St} {H : Hp} {s : Shared} {a C dd : Addr} {fs : List (Str × V)} (I : L2.Inv X pins σ H s) (ha : H a = some (exk a C dd)) (hd : H dd = some (.xd fs)) :
    ∃ (oe : Obj) (mA : Str → Option Value) (od : Obj), PySem.W.InstAt s.heap a oe C (some od) ∧ (∀ f, RelO (fs.lookup f) (mA f)) ∧ ∀ name, PySem.W.lookIn name od = some (mA name) := by
  obtain ⟨⟨oe, vs, e1, e2, e3, e4⟩, _, _⟩ := (show ObjOk X.prog X.w H s.heap a (.ext fun h => ∃ oe vs, h.get? a = some oe ∧ oe.cls = .ref C ∧ oe.dict = some dd ∧ oe.data = .fields vs) from I.hok a _ ha)
  obtain ⟨mA, hns, hr⟩ := (show ObjOk X.prog X.w H s.heap dd (.xd fs) from I.hok dd _ hd)
  obtain ⟨od, ho, hl⟩ := lookIn_ns hns
  exact ⟨oe, mA, od, ⟨e1, e2, by unfold PySem.W.notCls; rw [e4] <;> rfl, by rw [e3]; exact ho⟩, hr, hl⟩
def oXf (cs : List Str) (f : Str) : D → Option SV
  | .exc c ns ds => if c ∈ cs then (getF f ns ds).map .imm else none
  | _ => none
def XfOk (K : PySem.W.Frag) (mg : Str → Option Value) (cs : List Str) (f : Str) : Prop := ∀ c ∈ cs, ∃ C, mg c = some (.ref C) ∧ ExK K C ∧ PySem.W.findIn K (.ref C) f = some none
section
variable {X : Cx} {e : Expr} {f : DE} {m : Str} {pos : Pos} {cs : List Str}
def tXk (K : PySem.W.Frag) (m : Str) (te : TE) : TE := fun σ H Q => te σ H fun x H1 => ∃ a C dd fs v, x = .ref a ∧ H1 a = some (exk a C dd) ∧ H1 dd = some (.xd fs) ∧ ExK K C ∧ PySem.W.findIn K (.ref C) m = some none ∧ fs.lookup m = some v ∧ Q v H1
theorem pe_xk {te : TE} (hb : attributeBase e m X.env (eval e X.env) = eval e X.env) (he : PE X e te) : PE X (.Attribute e m pos) (tXk X.K m te) := by
  refine ⟨fun pins s σ H Q I0 h => attr_of hb (thn (he.run pins s σ H _ I0 h) fun u s1 hh => ?_)⟩
  obtain ⟨x, H1, I1, rx, a, C, dd, fs, v, rfl, hk, hx, T, hno, hl, q⟩ := hh
  cases (show u = Value.ref a from rx)
  obtain ⟨oe, mA, od, J, hr, ho⟩ := exk_inst I1 hk hx
  obtain ⟨z, hz, rz⟩ := RelO.some_of (v := v) (o := mA m) (by rw [← hl]; exact hr m)
  refine HandSPX.exc_get I1.kIn J T.ga T.gg T.sub (PySem.W.findObj_own T.hd hno rfl (by rw [ho, hz])) (handed_of rz) ?_
  exact ⟨v, H1, I1.tok _, rz, q⟩
theorem se_xf (ok : XfOk X.K X.mg cs m) (ha : SE X e f) (hb : attributeBase e m X.env (eval e X.env) = eval e X.env := by rfl) : SE X (.Attribute e m pos) (dUn (oXf cs m) f) := by
  refine ⟨pe_imp (pe_xk hb ha.pf) fun σ H Q q => ?_⟩
  obtain ⟨G, F, st, sv, st', R, e, k⟩ := q
  unfold dUn at e
  split at e
  · cases e
  rename_i x s1 e1
  split at e
  · cases e
  rename_i z e2
  cases e
  refine ⟨G, F, st, x, _, R, e1, fun v F1 H1 g1 R1 r1 => ?_⟩
  unfold oXf at e2
  split at e2
  · rename_i c ns ds hx
    split at e2
    · rename_i hc
      cases q : getF m ns ds with
      | none => rw [q] at e2; cases e2
      | some d =>
        rw [q] at e2; cases e2
        rw [hx] at r1
        obtain ⟨a, C, dd, fs, rfl, hC, hk, hf, hn, rr⟩ := r1.exc_inv
        obtain ⟨C', hC', T, hno⟩ := ok c hc
        rw [hC] at hC'
        cases hC'
        subst hn
        obtain ⟨w, h1, h2⟩ := getF_rd rr q
        exact ⟨a, C, dd, fs, w, rfl, R1.f _ _ hk, R1.f _ _ hf, T, hno, h1, k _ F1 H1 g1 R1 (.imm h2) Sep.imm⟩
    · cases e2
  · cases e2
end

/-! ### isinstance -/
abbrev Kd := Sum String Str
/-- what is known of classes: own ones, own exceptions, who is whose -/
structure IsP where
  cs : List Str
  xs : List Str
  L : List (Kd × Kd × Bool)
def kdOf (p : IsP) : D → Option Kd
  | .ins c _ _ => if c ∈ p.cs then some (.inr c) else none
  | .exc c _ _ => if c ∈ p.xs then some (.inr c) else none
  | d => (tyN d).map .inl
def clsOf : D → Option Kd
  | .ty n => some (.inl n)
  | .cls c => some (.inr c)
  | _ => none
def clsAll : List D → Option (List Kd)
  | [] => some []
  | d :: ds => match clsOf d with
    | none => none
    | some k => (clsAll ds).map (k :: ·)
def relOf (p : IsP) : Kd → Kd → Option Bool
  | .inl a, .inl b => kitB a b
  | a, b => (p.L.find? fun t => decide (t.1 = a) && decide (t.2.1 = b)).map (·.2.2)
def relAny (p : IsP) (a : Kd) : List Kd → Option Bool
  | [] => some false
  | b :: bs => match relOf p a b with
    | some true => some true
    | some false => relAny p a bs
    | none => none
def cIsa (p : IsP) : List D → Option SV
  | [x, .tup ts] => match kdOf p x, clsAll ts with
    | some a, some bs => (relAny p a bs).map fun r => .imm (.bl r)
    | _, _ => none
  | [x, c] => match kdOf p x, clsOf c with
    | some a, some b => (relOf p a b).map fun r => .imm (.bl r)
    | _, _ => none
  | _ => none
def kdV (mg : Str → Option Value) : Kd → Option Value
  | .inl n => some (.type n)
  | .inr c => mg c
structure IsOk (K : PySem.W.Frag) (mg : Str → Option Value) (p : IsP) : Prop where
  cs : ∀ c ∈ p.cs, ∃ C, mg c = some (.ref C) ∧ ClsI K C
  xs : ∀ c ∈ p.xs, ∃ C, mg c = some (.ref C) ∧ ExK K C
  L : ∀ t ∈ p.L, ∃ ta tb, kdV mg t.1 = some ta ∧ kdV mg t.2.1 = some tb ∧ PySem.W.kitOne K ta tb = some t.2.2
theorem kitOne_own {K : PySem.W.Frag} {t : Value} {C : Addr} {b : Bool} (hd : PySem.W.hasDictIn K C = true) (ht : PySem.W.typeIn K (.ref C) = some (.type "type")) (hs : PySem.W.subIn K t (.ref C) = some b) (hne : (t == .ref C) = true → b = true) : PySem.W.kitOne K t (.ref C) = some b := by
  show (if (t == .ref C) = true then some true else PySem.W.kitCls K t (.ref C)) = some b
  by_cases h : (t == .ref C) = true
  · rw [if_pos h, hne h]
  · rw [if_neg h]
    obtain ⟨cd, hc, _⟩ := PySem.W.any_some hd
    show (if ((PySem.W.clsIn K C).isSome && PySem.W.typeIn K (.ref C) == some (.type "type")) = true then PySem.W.subIn K t (.ref C) else none) = some b
    rw [if_pos (by rw [hc, ht]; rfl)]
    exact hs
section
variable {X : Cx} {p : IsP}
theorem kd_val {K : PySem.W.Frag} {mg : Str → Option Value} (ok : IsOk K mg p) {a b : Kd} {r : Bool} (h : relOf p a b = some r) : ∃ ta tb, kdV mg a = some ta ∧ kdV mg b = some tb ∧ PySem.W.kitOne K ta tb = some r := by
  have look : ∀ {a b : Kd}, (p.L.find? fun t => decide (t.1 = a) && decide (t.2.1 = b)).map (·.2.2) = some r → ∃ ta tb, kdV mg a = some ta ∧ kdV mg b = some tb ∧ PySem.W.kitOne K ta tb = some r := fun {a b} h => by
    obtain ⟨t, h1, h2⟩ := Option.map_eq_some_iff.mp h
    have hm := List.mem_of_find?_eq_some h1
    have hp := List.find?_some h1
    simp only [Bool.and_eq_true, decide_eq_true_eq] at hp
    obtain ⟨ta, tb, q1, q2, q3⟩ := ok.L t hm
    rw [hp.1] at q1
    rw [hp.2] at q2
    rw [h2] at q3
    exact ⟨ta, tb, q1, q2, q3⟩
  cases a with
  | inl x =>
    cases b with
    | inl y => exact ⟨_, _, rfl, rfl, kit_ty h⟩
    | inr y => exact look h
  | inr x =>
    cases b with
    | inl y => exact look h
    | inr y => exact look h
theorem kdV_fn {mg : Str → Option Value} {a : Kd} {u v : Value} (h : kdV mg a = some u) (h' : kdV mg a = some v) : u = v := by rw [h] at h'; exact Option.some.inj h'
theorem any_val {K : PySem.W.Frag} {mg : Str → Option Value} (ok : IsOk K mg p) {a : Kd} {ta : Value} (ha : kdV mg a = some ta) : ∀ {bs : List Kd} {r : Bool} {us : List Value}, relAny p a bs = some r → Paired (fun b u => kdV mg b = some u) bs us → PySem.W.kitAny K ta us = some r
  | [], r, _, h, .nil => by cases h; rfl
  | b :: bs, r, _, h, .cons (b := u) hu t => by
    unfold relAny at h
    split at h
    · rename_i e
      cases h
      obtain ⟨ta', tb, q1, q2, q3⟩ := kd_val ok e
      rw [kdV_fn ha q1, kdV_fn hu q2]
      exact kitAny_cons q3 (fun z => by cases z) fun _ => rfl
    · rename_i e
      obtain ⟨ta', tb, q1, q2, q3⟩ := kd_val ok e
      have hb := any_val ok ha h t
      rw [kdV_fn hu q2]
      rw [kdV_fn ha q1] at hb ⊢
      exact kitAny_cons q3 (fun _ => hb) fun z => by cases z
    · cases h
theorem cls_rd {K : PySem.W.Frag} {mg : Str → Option Value} {F : Hp} {d : D} {v : V} {b : Kd} (r : RD K mg F d v) (h : clsOf d = some b) : ∃ u, kdV mg b = some u ∧ ClsV v u := by
  cases r with
  | ty n => cases h; exact ⟨_, rfl, .ty n⟩
  | cls hc => cases h; exact ⟨_, hc, .own _⟩
  | _ => cases h
theorem clsAll_rd {K : PySem.W.Frag} {mg : Str → Option Value} {F : Hp} : ∀ {ds : List D} {vs : List V} {bs : List Kd}, RDs K mg F ds vs → clsAll ds = some bs → ∃ us, Paired ClsV vs us ∧ Paired (fun b u => kdV mg b = some u) bs us
  | [], _, _, .nil, h => by cases h; exact ⟨[], .nil, .nil⟩
  | d :: ds, _, bs, .cons r t, h => by
    unfold clsAll at h
    split at h
    · cases h
    · rename_i k hk
      obtain ⟨ks, h1, h2⟩ := Option.map_eq_some_iff.mp h
      subst h2
      obtain ⟨u, q1, q2⟩ := cls_rd r hk
      obtain ⟨us, q3, q4⟩ := clsAll_rd t h1
      exact ⟨u :: us, .cons q2 q3, .cons q1 q4⟩
/-- isinstance of a caught exception -/
def rIsX (K : PySem.W.Frag) : List V → Hp → VK → Prop := fun xs H Q => ∃ (a C dd : Addr) (fs : List (Str × V)) (c : V) (u : Value) (b : Bool), xs = [.ref a, c] ∧ H a = some (exk a C dd) ∧ H dd = some (.xd fs) ∧ ExK K C ∧ ClsV c u ∧ PySem.W.kitOne K (.ref C) u = some b ∧ Q (.bl b) H
def rIsXT (K : PySem.W.Frag) : List V → Hp → VK → Prop := fun xs H Q => ∃ (a C dd tp : Addr) (fs : List (Str × V)) (cs : List V) (us : List Value) (b : Bool), xs = [.ref a, .ref tp] ∧ H a = some (exk a C dd) ∧ H dd = some (.xd fs) ∧ ExK K C ∧ H tp = some (.tup cs) ∧ Paired ClsV cs us ∧ PySem.W.kitAny K (.ref C) us = some b ∧ Q (.bl b) H
def rIsXK (K : PySem.W.Frag) : List V → Hp → VK → Prop := fun xs H Q => ∃ (a C dd tp : Addr) (fs : List (Str × V)) (od : Option Addr) (us : List Value) (n : Nat) (sl : Array (Option Value)) (b : Bool), xs = [.ref a, .ref tp] ∧ H a = some (exk a C dd) ∧ H dd = some (.xd fs) ∧ ExK K C ∧ K.lookup tp = some ⟨.type "tuple", od, .seq us.toArray n, sl⟩ ∧ PySem.W.kitAny K (.ref C) us = some b ∧ Q (.bl b) H
theorem ex_kit {K : PySem.W.Frag} {C a : Addr} {oe : Obj} {od : Option Obj} (T : ExK K C) : PySem.W.KitX K (.ref a) (.ref C) (fun h => PySem.W.InstAt h a oe C od) := by
  obtain ⟨cd, hc, _⟩ := PySem.W.any_some T.hd
  exact PySem.W.kitx_exc (by rw [hc]; rfl) T.ga T.gg T.sub T.cls T.spe T.tak T.mro
theorem call_isX : CallR X (.builtin "isinstance") (rIsX X.K) := by
  intro pins s σ H xs us Q I r h
  obtain ⟨a, C, dd, fs, c, u, b, rfl, ha, hd, T, hc, hk, q⟩ := h
  obtain ⟨u1, u2, rfl, r1, r2⟩ := vals2 r
  cases (show u1 = Value.ref a from r1)
  cases hc.eq r2
  obtain ⟨oe, mA, od, J, _, _⟩ := exk_inst I ha hd
  exact PySem.W.kia_one (ex_kit T) I.kIn J hk (fun z => nomatch z) fun t' => ⟨.bl b, H, I.tok t', rfl, q⟩
theorem call_isXT : CallR X (.builtin "isinstance") (rIsXT X.K) := by
  intro pins s σ H xs us Q I r h
  obtain ⟨a, C, dd, tp, fs, cs, ws, b, rfl, ha, hd, T, ht, hp, hk, q⟩ := h
  obtain ⟨u1, u2, rfl, r1, r2⟩ := vals2 r
  cases (show u1 = Value.ref a from r1)
  cases (show u2 = Value.ref tp from r2)
  obtain ⟨oe, mA, od, J, _, _⟩ := exk_inst I ha hd
  obtain ⟨_, its, rv, ob, g1, g2, n, g3⟩ := (show ObjOk X.prog X.w H s.heap tp (.tup cs) from I.hok tp _ ht)
  cases ClsV.all hp rv
  obtain ⟨oc, odd, dt, sl⟩ := ob
  cases g2
  cases g3
  exact PySem.W.kia_tup (ex_kit T) I.kIn J g1 hk (fun z => nomatch z) fun t' => ⟨.bl b, H, I.tok t', rfl, q⟩
theorem call_isXK : CallR X (.builtin "isinstance") (rIsXK X.K) := by
  intro pins s σ H xs us Q I r h
  obtain ⟨a, C, dd, tp, fs, od, ws, n, sl, b, rfl, ha, hd, T, ht, hk, q⟩ := h
  obtain ⟨u1, u2, rfl, r1, r2⟩ := vals2 r
  cases (show u1 = Value.ref a from r1)
  cases (show u2 = Value.ref tp from r2)
  obtain ⟨oe, mA, od, J, _, _⟩ := exk_inst I ha hd
  exact PySem.W.kia_tup (ex_kit T) I.kIn J (I.kIn _ _ ht) hk (fun z => nomatch z) fun t' => ⟨.bl b, H, I.tok t', rfl, q⟩
theorem cs_isa (ok : IsOk X.K X.mg p) : CallS X (.builtin "isinstance") (cIsa p) := by
  refine ⟨_, (call_isi.or (call_isiT.or call_isiK)).or (call_isX.or (call_isXT.or call_isXK)), ?_⟩
  intro G F H st σ ds vs sv Q R r e k
  -- what the value is
  have kd : ∀ {d : D} {v : V} {a : Kd}, RD X.K X.mg F d v → kdOf p d = some a → (∃ t, kdV X.mg a = some t ∧ TyX X.K H v t) ∨ (∃ y C dd fs, v = .ref y ∧ kdV X.mg a = some (.ref C) ∧ H y = some (exk y C dd) ∧ H dd = some (.xd fs) ∧ ExK X.K C) := by
    intro d v a rd h
    have byT : ∀ {n : String}, tyN d = some n → kdV X.mg (.inl n) = some (.type n) ∧ TyX X.K H v (.type n) := fun h => ⟨rfl, tyx rd R.f h⟩
    cases d with
    | ins c ns xs =>
      have h' : (if c ∈ p.cs then some (Sum.inr c) else none) = some a := h
      split at h'
      · rename_i hc
        cases h'
        obtain ⟨y, C, dx, fs, rfl, hC, hy, hn, rr⟩ := rd.ins_inv
        obtain ⟨C', hC', I⟩ := ok.cs c hc
        rw [hC] at hC'
        cases hC'
        exact .inl ⟨_, hC, .base (.ins (R.f _ _ hy) I.cl I.ha I.hn I.tk I.hm)⟩
      · cases h'
    | exc c ns xs =>
      have h' : (if c ∈ p.xs then some (Sum.inr c) else none) = some a := h
      split at h'
      · rename_i hc
        cases h'
        obtain ⟨y, C, dd, fs, rfl, hC, hy, hd, hn, rr⟩ := rd.exc_inv
        obtain ⟨C', hC', T⟩ := ok.xs c hc
        rw [hC] at hC'
        cases hC'
        exact .inr ⟨y, C, dd, fs, rfl, hC, R.f _ _ hy, R.f _ _ hd, T⟩
      · cases h'
    | non => cases h; exact .inl ⟨_, byT rfl⟩
    | bl b => cases h; exact .inl ⟨_, byT rfl⟩
    | int i => cases h; exact .inl ⟨_, byT rfl⟩
    | str y => cases h; exact .inl ⟨_, byT rfl⟩
    | tup y => cases h; exact .inl ⟨_, byT rfl⟩
    | lst y => cases h; exact .inl ⟨_, byT rfl⟩
    | scr y => cases h; exact .inl ⟨_, byT rfl⟩
    | dK y z => cases h; exact .inl ⟨_, byT rfl⟩
    | dT y z => cases h; exact .inl ⟨_, byT rfl⟩
    | ty y => cases h
    | cls y => cases h
  unfold cIsa at e
  split at e
  · rename_i x ts
    split at e
    · rename_i a bs ea eb
      cases q : relAny p a bs with
      | none => rw [q] at e; cases e
      | some b' =>
        rw [q] at e; cases e
        obtain ⟨v, w, rfl, h1, h2⟩ := r.two
        rcases kd h1 ea with ⟨t, q1, ty⟩ | ⟨y, C, dd, fs, rfl, q1, hy, hd, T⟩
        · cases h2 with
          | @tup tp us _ hp rr =>
            obtain ⟨ws, z1, z2⟩ := clsAll_rd rr eb
            exact .inl (.inr (.inl ⟨v, tp, us, _, _, b', rfl, R.f _ _ hp, z1, ty, any_val ok q1 q z2, k.imm R (.bl _)⟩))
          | @ktup tp us _ hp rr =>
            obtain ⟨o, its, n, g1, g2, g3, g4, g5⟩ := hp
            obtain ⟨ws, z1, z2⟩ := clsAll_rd rr eb
            cases ClsV.all z1 g5
            obtain ⟨oc, od, dt, sl⟩ := o
            simp only at g2 g3
            subst g2 g3
            refine .inl (.inr (.inr ⟨v, tp, od, its.toList, n, sl, _, b', rfl, ?_, ty, any_val ok q1 q z2, k.imm R (.bl _)⟩))
            rw [g1]
        · cases h2 with
          | @tup tp us _ hp rr =>
            obtain ⟨ws, z1, z2⟩ := clsAll_rd rr eb
            exact .inr (.inr (.inl ⟨y, C, dd, tp, fs, us, ws, b', rfl, hy, hd, T, R.f _ _ hp, z1, any_val ok q1 q z2, k.imm R (.bl _)⟩))
          | @ktup tp us _ hp rr =>
            obtain ⟨o, its, n, g1, g2, g3, g4, g5⟩ := hp
            obtain ⟨ws, z1, z2⟩ := clsAll_rd rr eb
            cases ClsV.all z1 g5
            obtain ⟨oc, od, dt, sl⟩ := o
            simp only at g2 g3
            subst g2 g3
            refine .inr (.inr (.inr ⟨y, C, dd, tp, fs, od, its.toList, n, sl, b', rfl, hy, hd, T, ?_, any_val ok q1 q z2, k.imm R (.bl _)⟩))
            rw [g1]
    · cases e
  · rename_i x c
    split at e
    · rename_i a b ea eb
      cases q : relOf p a b with
      | none => rw [q] at e; cases e
      | some b' =>
        rw [q] at e; cases e
        obtain ⟨v, w, rfl, h1, h2⟩ := r.two
        obtain ⟨u, q2, hv⟩ := cls_rd h2 eb
        obtain ⟨ta, tb, q3, q4, q5⟩ := kd_val ok q
        cases kdV_fn q2 q4
        rcases kd h1 ea with ⟨t, q1, ty⟩ | ⟨y, C, dd, fs, rfl, q1, hy, hd, T⟩
        · cases kdV_fn q1 q3
          exact .inl (.inl ⟨v, w, _, _, b', rfl, hv, ty, q5, k.imm R (.bl _)⟩)
        · cases kdV_fn q1 q3
          exact .inr (.inl ⟨y, C, dd, fs, w, _, b', rfl, hy, hd, T, hv, q5, k.imm R (.bl _)⟩)
    · cases e
  · cases e
end
end Sm
/-! try: .. except C as n: .., the exception kept behind the suite; a lambda handed to a def that tries it. -/
namespace Sm
open PySem L2 Evl PyProof.Rows

section
variable {X : Cx} {pins : List (Addr × Obj)} {σ : L2.St} {H : Hp} {s : Shared} {a C dd : Addr} {oe : Obj}
/-- a record that stands in the heap, not there at the def's entry, is told from now on -/
theorem track (I : L2.Inv X pins σ H s) (ha : s.heap.get? a = some oe) (hc : oe.cls = .ref C) (hd : oe.dict = some dd) (hv : ∃ vs, oe.data = .fields vs) (na : H a = none) (n0 : X.s_0.heap.get? a = none) (nL : a ≠ X.env.locals) (np : ∀ p ∈ X.pn ++ pins, p.1 ≠ a) : L2.Inv X pins σ (upd H a (exk a C dd)) s := by
  obtain ⟨vs, hv⟩ := hv
  have other : ∀ {b : Addr} {o : HO}, H b = some o → b ≠ a := fun {b o} h z => by rw [z, na] at h; cases h
  have up : ∀ {b : Addr} {o : HO}, H b = some o → upd H a (exk a C dd) b = some o := fun h => by rw [upd_ne (other h)]; exact h
  have nc : ∀ x c, X.env.cells.lookup x = some c → c ≠ a := fun x c h z => by
    obtain ⟨v, o, ho, hd⟩ := I.cell x c h
    rw [z, ha] at ho
    cases ho
    rw [hv] at hd
    cases hd
  refine ⟨I.ok, I.os, I.bare, ⟨I.base.keep, I.base.slot, fun b o h1 h2 h3 => ?_, I.base.there, fun b xs h => up (I.base.tups b xs h), fun b o u h => up (I.base.frzs b o u h), fun b ps h => ?_⟩, I.loc, I.cell, by rw [upd_ne nL.symm]; exact I.free, fun x c h => by rw [upd_ne (nc x c h)]; exact I.freeC x c h, fun p hp => ?_, fun b o h => ?_, I.len⟩
  · rw [upd_ne (fun z => by rw [z, n0] at h1; cases h1)]
    exact I.base.free b o h1 h2 h3
  · obtain ⟨more, q⟩ := I.base.tbls b ps h
    exact ⟨more, up q⟩
  · obtain ⟨q1, q2, q3⟩ := I.pin p hp
    exact ⟨q1, by rw [upd_ne (np p hp)]; exact q2, q3⟩
  · by_cases hb : b = a
    · subst hb
      rw [upd_same] at h
      cases h
      exact ⟨⟨oe, vs, ha, hc, hd, hv⟩, ⟨oe, ha⟩, fun h1 h2 ⟨o, ws, q1, q2, q3, q4⟩ st => ⟨o, ws, st _ q1, q2, q3, q4⟩⟩
    · rw [upd_ne hb] at h
      exact (I.hok b o h).stay (fun _ _ _ q => q) (fun c q => up q) fun c xs q => up q
end
/-- what the clause wishes: behind the suite the exception is told -/
def wAsK (K : PySem.W.Frag) (c : Value) (i : Nat) (ts : Addr → Value → Option Addr → TS) (nx : L2.St → Hp → Prop) : WX := fun cls d σ H =>
  ∃ C dd, cls = .ref C ∧ d = some dd ∧ PySem.W.exmOne K cls c = some true ∧ ∀ a, H a = none → ts a cls d { nx := fun σ' H' => H' a = none → nx (σ'.set i none) (upd H' a (exk a C dd)), rt := fun _ _ => False, bk := fun _ _ => False, ct := fun _ _ => False } (σ.set i (some (.ref a))) H
section
variable {X : Cx} {x n : Str} {c : Value} {i : Nat} {body suite : List Stmt} {b0 : Stmt} {np pos pos' : Pos} {tb : WX → TS} {ts : Addr → Value → Option Addr → TS}
theorem ps_try_k (hs : X.stack = X.env :: X.outer) (hf : X.env.frame = some X.env.locals) (hex : X.ex = []) (hN : X.N.Nodup) (hi : X.N[i]? = some n) (hl : X.env.kindOf n = some .local) (hc : Names X x c)
    (hb : ∀ (W : WX) (pn : List (Addr × Obj)) (xe : Value → Shared → Prop), Takes (X.tr pn xe) W → PSs (X.tr pn xe) body (tb W))
    (hsu : ∀ (a : Addr) (oe : Obj) (cls : Value) (d : Option Addr) (pn : List (Addr × Obj)), PSs (X.suite a ((a, oe) :: pn)) (b0 :: suite) (ts a cls d)) :
    PS X (.Try body [.ExceptHandler (some (.Name x np)) (some n) (b0 :: suite) pos'] [] [] pos) (fun D σ H => tb (wAsK X.K c i ts D.nx) D σ H) := by
  refine ⟨fun pins s0 σ0 H0 D I0 h0 => ?_⟩
  have okX := I0.ok
  have frames : X.A.frames = some (X.env :: X.outer) := by rw [okX.frames, hs]
  -- what a handler does
  let hds : List ExceptHandler := [.ExceptHandler (some (.Name x np)) (some n) (b0 :: suite) pos']
  let air : Value → Shared → Prop := fun e s1 => wpAny (model X.prog X.w) X.A (noteFrame e X.env) (fun _ s2 => wpAny (model X.prog X.w) X.A (setFlight e none) (fun _ s3 => wpAny (model X.prog X.w) X.A (handleBy e X.env hds) (L2.SP X pins D) X.xe s3) X.xe s2) X.xe s1
  have tk : Takes (X.tr (X.pn ++ pins) air) (wAsK X.K c i ts D.nx) := by
    rintro _ s1 ⟨a, B, sG, pins1, σ1, H1, cls, d, rfl, J0, ground, ups, sky, na, os1, ag, C, dd, rfl, rfl, hx, wish⟩
    have JG : L2.Inv X pins σ1 H1 sG := J0.ofTry okX
    have skyX : Sky B (X.env :: X.outer) a (Zc (.ref C) (some dd)) X.env.locals s1.heap := by rw [← hs]; exact sky
    show wpAny (model X.prog X.w) X.A (noteFrame (.ref a) X.env) _ _ _
    refine Sky.land Zc.steady frames hf skyX fun g1 fl1 up1 => ?_
    have K1 : L2.Inv X pins σ1 H1 { s1 with heap := g1 } := JG.landed ground fl1.1 (ups.trans up1) os1 ag
    obtain ⟨ob1, vs1, at1, z1, dt1⟩ := fl1.there
    have away : a ∉ frs (X.env :: X.outer) := fun hm => by
      obtain ⟨_, o', at', nf⟩ := fl1.2.2.1.mem hm
      rw [at1] at at'; cases at'
      exact nf _ dt1
    have aL : a ≠ X.env.locals := fun z => away (List.mem_filterMap.mpr ⟨X.env, List.mem_cons_self, by rw [hf, z]⟩)
    have aF : a ∉ X.fs := fun hm => by
      obtain ⟨en, hen, q⟩ := List.mem_filterMap.mp hm
      exact away (List.mem_filterMap.mpr ⟨en, List.mem_cons_of_mem _ hen, q⟩)
    -- it was not there before
    have aG : sG.heap.get? a = none := by
      cases q : sG.heap.get? a with
      | none => rfl
      | some o =>
        have z := ground a o q (by rw [hs]; exact away)
        rw [fl1.2.1] at z; cases z
    have a0 : X.s_0.heap.get? a = none := by
      cases q : X.s_0.heap.get? a with
      | none => rfl
      | some o =>
        obtain ⟨o', e'⟩ := JG.base.there a o q (by rw [hex]; simp)
        rw [aG] at e'; cases e'
    have aP : ∀ p ∈ X.pn ++ pins, p.1 ≠ a := fun p hp z => by
      have := (JG.pin p hp).1
      rw [z, aG] at this; cases this
    have S1 := K1.suite at1 dt1 na aL aF
    refine wpAny_handleBy_cons (codeAny_handlers_test ?_) (by intro q; cases q)
    have isT : PySem.W.Looks (model X.prog X.w) g1 (typeOf (.ref a)) (.ref C) := fun A Q E s k q => wpAny_typeOf_ref (k _ _ at1) (by rw [z1.1]; exact q)
    have yes := PySem.W.exm_one (M := model X.prog X.w) (K1.kIn) isT hx
    have named : ∀ {Q : Value → Shared → Prop} {E : Value → Shared → Prop}, Q c { s1 with heap := g1 } → wpAny (model X.prog X.w) (X.A.mark (some (.ref a))) (eval (.Name x np) X.env) Q E { s1 with heap := g1 } := fun {Q E} q => by
      obtain ⟨gl, dbg, hm | ⟨hm, hv, hnn⟩⟩ := hc
      · exact ld_glob (X := X.suite a ((a, ob1) :: (X.pn ++ pins))) S1 gl hm q dbg
      · exact ld_blt (X := X.suite a ((a, ob1) :: (X.pn ++ pins))) S1 gl hm hv q hnn dbg
    refine named (yes.here (codeAny_handlers_suite_as (HandSPX.lands_againZ fl1 fun g2 fl2 up2 => ?_)))
    have K2 : L2.Inv X pins σ1 H1 { s1 with heap := g2 } := JG.landed ground fl2.1 ((ups.trans up1).trans up2) os1 ag
    obtain ⟨ob2, vs2, at2, z2, dt2⟩ := fl2.there
    have S2 := K2.suite at2 dt2 na aL aF
    refine store_ok (X := X.suite a ((a, ob2) :: (X.pn ++ pins))) (v := .ref a) S2 hN hi (.inl hl) rfl (fun s3 S3 => ?_) (.inr hl)
    refine wpAny_mono ((hsu a ob2 (.ref C) (some dd) (X.pn ++ pins)).run [] s3 _ H1 _ S3 (wish a na)) (fun fl s4 hq => ?_) (fun _ _ z => False.elim z)
    cases fl with
    | next =>
      obtain ⟨σ4, H4, S4, q4⟩ := hq
      obtain ⟨at4, n4, _⟩ := S4.pin (a, ob2) (List.mem_append_left _ List.mem_cons_self)
      have J4 := track (S4.unsuite okX) at4 z2.1 z2.2 ⟨_, dt2⟩ n4 a0 aL aP
      exact gone_ok J4 hN hi hl fun s5 J5 => ⟨_, _, J5, q4 n4⟩
    | brk =>
      obtain ⟨_, _, _, q⟩ := hq
      exact q.elim
    | cont =>
      obtain ⟨_, _, _, q⟩ := hq
      exact q.elim
    | ret u =>
      obtain ⟨_, _, _, _, _, q⟩ := hq
      exact q.elim
  refine wpAny_Try_except (wpAny_mono ((hb _ _ air tk).run [] s0 σ0 H0 D (I0.toTry _) h0) (fun fl s1 hq => ?_) fun e s1 he => he)
  cases fl with
  | next =>
    obtain ⟨σ1, H1, J1, q⟩ := hq
    exact wpAny_execs_nil ⟨σ1, H1, J1.ofTry okX, q⟩
  | brk =>
    obtain ⟨σ1, H1, J1, q⟩ := hq
    exact ⟨σ1, H1, J1.ofTry okX, q⟩
  | cont =>
    obtain ⟨σ1, H1, J1, q⟩ := hq
    exact ⟨σ1, H1, J1.ofTry okX, q⟩
  | ret u =>
    obtain ⟨v, σ1, H1, J1, r, q⟩ := hq
    exact ⟨v, σ1, H1, J1.ofTry okX, r, q⟩
end
end Sm
/-! h(lambda: e), h a def that tries what it gets. -/
namespace Sm
open PySem L2 Evl PyProof.Rows LamX

/-! ### slots frozen, slots hidden -/
def frz1 (st : S) (i : Nat) : S := match st[i]? with
  | some (some (.imm _)) => st
  | some (some sv) => st.set i (some (.imm sv.frz))
  | _ => st
def frzL (st : S) : List Nat → S
  | [] => st
  | i :: is => frzL (frz1 st i) is
def blind1 : Option SV → Option SV
  | some (.imm d) => some (.imm d)
  | _ => none
def blind (st : S) : S := st.map blind1
section
variable {K : PySem.W.Frag} {mg : Str → Option Value} {G F H : Hp} {st : S} {σ : L2.St}
theorem Rep.frz1 (R : Rep K mg G F st σ H) (i : Nat) : ∃ F', Gr G F F' ∧ Rep K mg G F' (Sm.frz1 st i) σ H := by
  unfold Sm.frz1
  split
  · exact ⟨F, Gr.refl F, R⟩
  · rename_i sv _ h
    obtain ⟨v, h1, h2, h3⟩ := R.out h
    obtain ⟨F', g, R', r'⟩ := freeze (R.forget i) h2 h3
    have R2 := R'.put (i := i) (.imm r') (fun z => by cases z)
    rw [set_self h1] at R2
    have e2 : (st.set i none).set i (some (SV.imm sv.frz)) = st.set i (some (.imm sv.frz)) := List.set_set ..
    rw [e2] at R2
    exact ⟨F', g, R2⟩
  · exact ⟨F, Gr.refl F, R⟩
theorem Rep.frzL : ∀ (is : List Nat) {F : Hp} {st : S}, Rep K mg G F st σ H → ∃ F', Gr G F F' ∧ Rep K mg G F' (Sm.frzL st is) σ H
  | [], F, st, R => ⟨F, Gr.refl F, R⟩
  | i :: is, F, st, R => by
    obtain ⟨F1, g1, R1⟩ := R.frz1 i
    obtain ⟨F2, g2, R2⟩ := Rep.frzL is R1
    exact ⟨F2, g1.trans g2, R2⟩
theorem Rep.blind (R : Rep K mg G F st σ H) : Rep K mg (noT H) F (Sm.blind st) σ H := by
  have inv : ∀ (i : Nat) (x : SV), (Sm.blind st)[i]? = some (some x) → ∃ d, x = .imm d ∧ st[i]? = some (some (.imm d)) := fun i x h => by
    unfold Sm.blind at h
    rw [List.getElem?_map] at h
    cases q : st[i]? with
    | none => rw [q] at h; cases h
    | some o =>
      rw [q] at h
      cases o with
      | none => cases h
      | some y =>
        cases y with
        | imm d => cases h; exact ⟨d, rfl, rfl⟩
        | lst _ => cases h
        | ins _ _ _ => cases h
        | dK _ _ => cases h
        | dT _ _ => cases h
  refine ⟨R.g.self, R.f, R.nt, by unfold Sm.blind; rw [List.length_map]; exact R.len, fun i x h => ?_, fun i j x y v h1 h2 ox => ?_⟩
  · obtain ⟨d, rfl, h'⟩ := inv i x h
    obtain ⟨v, h1, h2⟩ := R.at_ i _ h'
    cases h2 with | imm r => exact ⟨v, h1, .imm r⟩
  · obtain ⟨d, rfl, _⟩ := inv i x h1
    cases ox
end

/-! ### the def that tries: what it makes of what it heard -/
def capD : Option D → D
  | none => .non
  | some x => x
def slotH (n jc : Nat) (o : Option D) : S := (List.replicate n none).set jc (some (.imm (capD o)))
def outH : Option (Out × S) → Option SV
  | some (.nx, _) => some (.imm .non)
  | some (.rt sv, _) => some sv
  | _ => none
/-- n slots, jc that of what was caught; cs: the classes that may be caught -/
def kH (cs : List Str) (n jc : Nat) (d : DS) : Option D → Option SV
  | none => outH (d (slotH n jc none))
  | some (.exc c ns ds) => if c ∈ cs then outH (d (slotH n jc (some (.exc c ns ds)))) else none
  | _ => none
/-- from here on the helper's answer is sv -/
def Fin1 (K : PySem.W.Frag) (mg : Str → Option Value) (G F : Hp) (sv : SV) (Q : VK) : Prop := ∀ v F' H', Gr G F F' → Kp K mg G H' → Exf F' H' → RS K mg G F' H' sv v → Q v H'
def VNk (K : PySem.W.Frag) (mg : Str → Option Value) (h : Option D → Option SV) (Q : VK) (H : Hp) : Prop := ∃ G F sv, Kp K mg G H ∧ Exf F H ∧ h none = some sv ∧ Fin1 K mg G F sv Q
def EXk (K : PySem.W.Frag) (mg : Str → Option Value) (h : Option D → Option SV) (Q : VK) : XK := fun cls d H => ∃ G F x sv, Kp K mg G H ∧ Exf F H ∧ RX K mg F x cls d ∧ h (some x) = some sv ∧ Fin1 K mg G F sv Q
def TTk (K : PySem.W.Frag) (mg : Str → Option Value) (h : Option D → Option SV) : (XK → Hp → VK → Prop) → Hp → VK → Prop := fun tl H Q => ∃ (E' : XK) (Q' : VK), tl E' H Q' ∧ (∀ v H', Q' v H' → VNk K mg h Q H') ∧ ∀ cls d H', E' cls d H' → EXk K mg h Q cls d H'
theorem pe_mono {X : Cx} {e : Expr} {t : TE} (h : PE X e t) : PE X e (fun σ H Q => ∃ Q' : VK, t σ H Q' ∧ ∀ v H', Q' v H' → Q v H') := ⟨fun pins s σ H Q I q => by
  obtain ⟨Q', q1, q2⟩ := q
  exact wpAny_mono (h.run pins s σ H Q' I q1) (fun u s' ⟨v, H', I', r, z⟩ => ⟨v, H', I', r, q2 v H' z⟩) fun _ _ z => z⟩
theorem takes_len {X : Cx} {W : WX} (t : Takes X W) : Takes X (fun cls d σ H => σ.length = X.N.length → W cls d σ H) := fun u s' ⟨a, B, sI, pins, σ, H, cls, d, e, I, nb, up, sky, na, os, ag, w⟩ =>
  t u s' ⟨a, B, sI, pins, σ, H, cls, d, e, I, nb, up, sky, na, os, ag, w I.len⟩
abbrev hCx (X : Cx) (Ng : List Str) (x : Str) (sg : Scope) (g : Addr) (cdg : Value) (s : Shared) (H : Hp) : Cx := (cxOf C8.CX0 X.prog X.w X.K X.mg X.base Ng x sg g cdg X.A X.stack s H C8.E0).nox
section
variable {X : Cx} {Ng cs : List Str} {x a cn en xc q : Str} {sg : Scope} {g CB : Addr} {cdg : Value} {jc je : Nat} {j : Nat} {p1 p2 p3 p4 p5 p6 p7 p8 p9 p10 p11 p12 : Pos} {rest : List Stmt} {d : DS}
theorem rep_slot {K : PySem.W.Frag} {mg : Str → Option Value} {G F H : Hp} {n : Nat} {o : Option D} {σ : L2.St} {v : V} (kg : Kp K mg G H) (kf : Exf F H) (hl : σ.length = n) (hv : σ[jc]? = some (some v)) (r : RD K mg F (capD o) v) : Rep K mg G F (slotH n jc o) σ H := by
  have inv : ∀ (i : Nat) (y : SV), (slotH n jc o)[i]? = some (some y) → i = jc ∧ y = .imm (capD o) := fun i y h => by
    unfold slotH at h
    by_cases hi : jc = i
    · subst hi
      by_cases hlt : jc < (List.replicate n (none : Option SV)).length
      · rw [List.getElem?_set_self hlt] at h
        cases h
        exact ⟨rfl, rfl⟩
      · rw [List.getElem?_eq_none (by simpa using hlt)] at h
        cases h
    · rw [List.getElem?_set_ne hi, List.getElem?_replicate] at h
      split at h <;> cases h
  refine ⟨kg, kf.1, kf.2, by unfold slotH; simp [hl], fun i y h => ?_, fun i k y z w h1 h2 oy => ?_⟩
  · obtain ⟨rfl, rfl⟩ := inv i y h
    exact ⟨v, hv, .imm r⟩
  · obtain ⟨_, rfl⟩ := inv i y h1
    cases oy
theorem rest_of {Z : Cx} {o : Option D} {sv : SV} {G F H : Hp} {n : Nat} {σ : L2.St} {Q : VK} (R : Rep Z.K Z.mg G F (slotH n jc o) σ H) (e : outH (d (slotH n jc o)) = some sv) (k : Fin1 Z.K Z.mg G F sv Q) : tS Z.K Z.mg [] d { nx := fun _ H' => Q .non H', rt := Q } σ H := by
  unfold outH at e
  split at e
  · rename_i st1 e1
    cases e
    exact ⟨G, F, _, _, _, R, e1, fun F' H' σ' g R' _ => k .non F' H' g R'.g ⟨R'.f, R'.nt⟩ (.imm .non)⟩
  · rename_i sv1 st1 e1
    cases e
    exact ⟨G, F, _, _, _, R, e1, fun F' H' σ' g R' _ v rv _ => k v F' H' g R'.g ⟨R'.f, R'.nt⟩ rv⟩
  · cases e
theorem gives_k (hN : Ng.Nodup) (hjc : Ng[jc]? = some cn) (hje : Ng[je]? = some en) (h1 : jc ≠ 0) (h2 : je ≠ 0) (h3 : jc ≠ je) (lcn : sg.names.lookup cn = some .local) (len_ : sg.names.lookup en = some .local) (lxc : sg.names.lookup xc = some .globalImplicit) (hxc : X.mg xc = some (.ref CB)) (dxc : (xc == ("__debug__" : Str)) = false) (den : (en == ("__debug__" : Str)) = false) (cen : (en == ("__classdict__" : Str)) = false)
    (h0 : ∀ f : Addr, (L2.start Ng [V.ref f])[0]? = some (some (V.ref f))) (hlen : ∀ f : Addr, (L2.start Ng [V.ref f]).length = Ng.length)
    (ok : ∀ c ∈ cs, ∃ C, X.mg c = some (.ref C) ∧ PySem.W.exmOne X.K (.ref C) (.ref CB) = some true)
    (hs1 : ∀ env : Env, env.scope = sg → swapsWith (.Constant .none j p2) (some (.Name cn p1)) p3.line env = pure false) (hs2 : ∀ env : Env, env.scope = sg → swapsWith (.Call (.Name a p4) [] [] p5) none p6.line env = pure false) (hs3 : ∀ env : Env, env.scope = sg → swapsWith (.Name en p9) (some (.Name cn p8)) p10.line env = pure false)
    (hd : ∀ (s : Shared) (H : Hp), SSs (hCx X Ng x sg g cdg s H) [] rest d) :
    GivesTo X Ng x sg g cdg (.Assign [.Name cn p1] (.Constant .none j p2) p3 :: .Try [.Expr (.Call (.Name a p4) [] [] p5) p6] [.ExceptHandler (some (.Name xc p7)) (some en) [.Assign [.Name cn p8] (.Name en p9) p10] p11] [] [] p12 :: rest) a q (TTk X.K X.mg (kH cs Ng.length jc d)) := by
  intro f c' s H Q tl act hc h
  obtain ⟨E', Q', q1, q2, q3⟩ := h
  let Z := hCx X Ng x sg g cdg s H
  have glx : Gl Z xc := lxc
  have hjl : jc < Ng.length := (List.getElem?_eq_some_iff.mp hjc).1
  have hjel : je < Ng.length := (List.getElem?_eq_some_iff.mp hje).1
  -- the body
  have body := pss_cons (X := Z) (ps_set (pos := p3) (pos' := p1) (i := jc) hN hjc (.inl lcn) (pe_non (j := j) (pos := p2)) (hs1 _ rfl) (.inr lcn))
    (pss_cons (ps_try_k (X := Z) (x := xc) (n := en) (c := .ref CB) (i := je) (np := p7) (pos := p12) (pos' := p11) (body := [.Expr (.Call (.Name a p4) [] [] p5) p6]) (b0 := .Assign [.Name cn p8] (.Name en p9) p10) (suite := [])
      (tb := fun W D σ H => (∀ v H', Q' v H' → D.nx σ H') ∧ (∀ cls d σ' H', E' cls d H' → σ'.length = Ng.length → W cls d σ' H') ∧ σ[0]? = some (some (.ref f)) ∧ H c' = some (CodeO c' q) ∧ tl E' H Q')
      (ts := fun a cls d D σ H => ∃ v, σ[je]? = some (some v) ∧ D.nx (σ.set jc (some v)) H)
      rfl rfl rfl hN hje len_ ⟨glx, dxc, .inl hxc⟩ (fun W pn xe tk => ⟨fun pins s' σ H' D I h' => by
        obtain ⟨w1, w2, w3, w4, w5⟩ := h'
        have hp := act (fun cls d σ H => E' cls d H ∧ (σ.length = Ng.length → W cls d σ H)) pn xe E' p4 p5 ((takes_len tk).imp fun cls d σ H z => z.2) fun cls d σ' H' z => ⟨z, w2 cls d σ' H' z⟩
        have hq := pss_one (ps_expr (pos := p6) (pe_mono hp) (hs2 _ rfl))
        exact hq.run pins s' σ H' D I ⟨Q', ⟨w3, w4, w5⟩, w1⟩⟩)
      (fun a oe cls d pn => pss_imp (pss_one (ps_set (pos := p10) (pos' := p8) (i := jc) hN hjc (.inl lcn) (pe_var (i := je) hje (.inl len_) den cen) (hs3 _ rfl) (.inr lcn))) fun D σ H z => z))
      (hd s H).pss)
  refine ⟨_, body, ?_⟩
  -- its reading
  have s0 : ((L2.start Ng [V.ref f]).set jc (some V.non))[0]? = some (some (V.ref f)) := by rw [List.getElem?_set_ne h1]; exact h0 f
  refine ⟨fun v H' z => ?_, fun cls d0 σ' H' z hl => ?_, s0, hc, q1⟩
  · obtain ⟨G, F, sv, kg, kf, e, k⟩ := q2 v H' z
    exact rest_of (Z := Z) (o := none) (rep_slot (K := X.K) (mg := X.mg) (o := none) kg kf (by rw [List.length_set]; exact hlen f) (List.getElem?_set_self (by rw [hlen f]; exact hjl)) .non) e k
  · obtain ⟨G, F, y, sv, kg, kf, ⟨c, ns, ds, C, dd, fs, rfl, rfl, hC, rfl, hfd, hn, rr⟩, e, k⟩ := q3 cls d0 H' z
    have e' : (if c ∈ cs then outH (d (slotH Ng.length jc (some (.exc c ns ds)))) else none) = some sv := e
    split at e'
    · rename_i hcs
      obtain ⟨C', hC', hx⟩ := ok c hcs
      rw [hC] at hC'
      cases hC'
      refine ⟨C, dd, rfl, rfl, hx, fun b nb => ⟨.ref b, List.getElem?_set_self (by rw [hl]; exact hjel), fun nb' => ?_⟩⟩
      have gb := kg.back nb
      have fb : F b = none := fresh_back kf.1 nb
      have Fe : Ex F (upd F b (exk b C dd)) := Ex.new fb
      have ne : dd ≠ b := fun z => by rw [z, fb] at hfd; cases hfd
      have g1 : Gr G F (upd F b (exk b C dd)) := ⟨Fe, fun u o ho => by
        by_cases hu : u = b
        · subst hu; exact .inr gb
        · rw [upd_ne hu] at ho; exact .inl ho⟩
      have kf1 : Exf (upd F b (exk b C dd)) (upd H' b (exk b C dd)) := ⟨fun u o ho => by
        by_cases hu : u = b
        · subst hu; rw [upd_same] at ho ⊢; exact ho
        · rw [upd_ne hu] at ho ⊢; exact kf.1 u o ho, kf.2.put b fun _ z => nomatch (show HO.ext _ = HO.tbl _ from z)⟩
      have rx : RD X.K X.mg (upd F b (exk b C dd)) (.exc c ns ds) (.ref b) := .exc hC upd_same (by rw [upd_ne ne]; exact hfd) hn (rr.mono Fe)
      have hv : (((σ'.set je (some (V.ref b))).set jc (some (V.ref b))).set je none)[jc]? = some (some (V.ref b)) := by
        rw [List.getElem?_set_ne (fun z => h3 z.symm), List.getElem?_set_self (by rw [List.length_set, hl]; exact hjl)]
      exact rest_of (Z := Z) (o := some (.exc c ns ds)) (rep_slot (K := X.K) (mg := X.mg) (o := some (.exc c ns ds)) (kg.new nb) kf1 (by rw [List.length_set, List.length_set, List.length_set]; exact hl) hv rx) e' fun v F' H'' g2 => k v F' H'' (g1.trans g2)
    · cases e'
end

/-! ### h(lambda: e) -/
/-- is: the slots that e reads; b, r: e's value, what e lets out -/
def dLam (h : Option D → Option SV) (is : List Nat) (b : DE) (r : DX) : DE := fun st => match r (blind (frzL st is)) with
  | some x => (match h (some x) with
    | some sv => some (sv, frzL st is)
    | none => none)
  | none => match b (blind (frzL st is)) with
    | some _ => (match h none with
      | some sv => some (sv, frzL st is)
      | none => none)
    | none => none
section
variable {X : Cx}
theorem se_lam {hf : Option D → Option SV} {is : List Nat} {b : DE} {r : DX} {x a : Str} {g c P : Addr} {k : Nat} {pg : Arguments} {bg : List Stmt} {sg : Scope} {dV kV doc pm cdv ct oc : Value} {an od : Option Addr} {osl : Array (Option Value)} {Ng : List Str}
    {params : Arguments} {body : Expr} {scope : Scope} {p lpos pos : Pos} (hg : Gl X x) (hm : X.mg x = some (.ref g)) (hk : PySem.W.keepIn X.K (.ref g) = true)
    (lk : X.K.lookup g = some ⟨oc, od, .func (PySem.W.fnOf x x pg bg sg dV kV doc pm an cdv ct), osl⟩) (hcg : PySem.W.codeIn X.K cdv x = true) (hb : L2.Binds X.K (PySem.W.fnOf x x pg bg sg dV kV doc pm an cdv ct) [a] []) (Sg : FnScope Ng [a] sg) (hNg : Ng[0]? = some a) (hva : Vis sg a)
    (hG : GivesTo X Ng x sg g cdv bg a (X.env.qual ++ "<lambda>") (TTk X.K X.mg hf))
    (TB : TabB X.base X.mg c P) (hcode : X.env.code = .ref c) (hmT : (P, X.env.qual ++ "<lambda>") ∈ lamT X.K X.mg) (hu : ∀ p ∈ lamT X.K X.mg, p.1 = P → p.2 = X.env.qual ++ "<lambda>") (hr : Room (k + 2) X.A) (L : LamS X.env.scope scope) (hdef : defaultsOf params X.env = ([], []))
    (hbind : ∀ (q : Str) (cl : List (Str × Addr)) (pm cv ctv : Value), bindArgs (PySem.W.kla_fn "<lambda>" q params body scope cl pm cv ctv) ⟨[], []⟩ = pure [])
    (hv : ∀ (A : Around) (outer : List Env) (s : Shared) (H : Hp) (E : XK) (f c' : Addr), Room k (A.deeper (lamEnv X scope s.heap.objs.size f c')) → SE (lamCx X A outer s H E scope f c') body b)
    (hx : ∀ (A : Around) (outer : List Env) (s : Shared) (H : Hp) (E : XK) (f c' : Addr), Room k (A.deeper (lamEnv X scope s.heap.objs.size f c')) → TkX (lamCx X A outer s H E scope f c') E → RE (lamCx X A outer s H E scope f c') E body r)
    (hdb : (x == ("__debug__" : Str)) = false := by decide) (hd : (a == ("__debug__" : Str)) = false := by decide) (hcd : (a == ("__classdict__" : Str)) = false := by decide) :
    SE X (.Call (.Name x p) [.Lambda params body scope lpos] [] pos) (dLam hf is b r) := by
  refine ⟨pe_imp (pe_lamcall (T := lamT X.K X.mg) (TT := TTk X.K X.mg hf) (t := fun E σ H Q => tR X.K X.mg E r σ H ∨ tD X.K X.mg b σ H Q) hg hm hk lk hcg hb Sg hNg hva hG TB hcode hmT hu hr L hdef hbind
    (fun A outer s H E f c' hr' => or_pe (hx A outer s H E f c' hr' (takes_of rfl rfl rfl rfl)).pe (hv A outer s H E f c' hr').pe) hdb hd hcd) fun σ H Q q => ?_⟩
  obtain ⟨G, F, st, sv, st', R, e, kk⟩ := q
  refine ⟨R.g.2, fun H1 eN T1 => ?_⟩
  obtain ⟨F1, g1, R1⟩ := R.frzL is
  have k1 : Kp X.K X.mg (noT H) H1 := Kp.ext eN T1
  -- what is frozen is no table
  have f1 : Exf F1 H1 := ⟨fun u o ho => eN u o (R1.f u o ho) fun ps z => R1.nt u ps (by rw [ho, z]), R1.nt⟩
  obtain ⟨R2, g2⟩ := R1.after (Gr.refl F1) k1 f1
  have R3 := R2.blind
  -- behind the call all of H1 is kept
  have fin : ∀ {sv' : SV}, sv' = sv → st' = frzL st is → Fin1 X.K X.mg (noT H1) F1 sv' Q := fun {sv'} e1 e2 v F' H' g3 k3 f3 rs => by
    subst e1 e2
    obtain ⟨R4, g4⟩ := R2.after g3 k3 f3
    obtain ⟨z1, z2⟩ := rs.back R2
    exact kk v F' H' (g1.trans g4) R4 z1 z2
  unfold dLam at e
  split at e
  · rename_i y e1
    split at e
    · rename_i sv1 e2
      cases e
      refine ⟨EXk X.K X.mg hf Q, fun _ _ => False, .inl ⟨noT H1, F1, _, y, R3, e1, fun cls d F' H' g3 k3 f3 rx => ⟨noT H1, F', y, sv, k3, f3, rx, e2, fun v F'' H'' g4 => fin rfl rfl v F'' H'' (g3.trans g4)⟩⟩, fun v H' z => z.elim, fun _ _ _ z => z⟩
    · cases e
  · split at e
    · rename_i y e1
      split at e
      · rename_i sv1 e2
        cases e
        obtain ⟨y1, y2⟩ := y
        refine ⟨fun _ _ _ => False, fun _ H' => VNk X.K X.mg hf Q H', .inr ⟨noT H1, F1, _, y1, y2, R3, e1, fun v F' H' g3 R4 _ _ => ⟨noT H1, F', sv, R4.g, ⟨R4.f, R4.nt⟩, e2, fun v F'' H'' g4 => fin rfl rfl v F'' H'' (g3.trans g4)⟩⟩, fun _ _ z => z, fun _ _ _ z => z.elim⟩
      · cases e
    · cases e
end
end Sm
/-! What is never reached; more of what flies; defs that make lambdas. -/
namespace Sm
open PySem L2 Evl PyProof.Rows

/-- no reading -/
def dNoE : DE := fun _ => none
def dNoT : DT := fun _ => none
section
variable {X : Cx} {E : XK} {a b c e o : Expr} {es : List Expr} {kws : List Keyword} {f g : DE} {r r2 : DA} {ra rb : DX} {t u : DT} {pos : Pos}
theorem se_noE : SE X e dNoE := ⟨⟨fun pins s σ H Q I q => by
  obtain ⟨G, F, st, sv, st', R, e, k⟩ := q
  cases e⟩⟩
theorem st_noE : ST X e dNoT := ⟨⟨fun pins s σ H Q I q => by
  obtain ⟨G, F, st, sv, st', R, e, k⟩ := q
  cases e⟩⟩
theorem re_noE : RE X E e xNo := ⟨⟨fun pins s σ H Q I q => (tR_no q).elim⟩⟩
theorem rt_noE : RT X E e xNo := ⟨⟨fun pins s σ H Q I q => (tR_no q).elim⟩⟩
theorem rs_noE {s : Stmt} : RS1 X E s xNo := ⟨⟨fun pins s σ H Q I q => (tR_no q).elim⟩⟩
theorem rss_noE {ss : List Stmt} : RSs X E ss xNo := ⟨⟨fun pins s σ H Q I q => (tR_no q).elim⟩⟩
theorem ra_noE : RA X E es xNo := ⟨⟨fun pos pins s σ H Q I q => (tR_no q).elim⟩⟩
/-! ### tests of two -/
structure RW1 (X : Cx) (E : XK) (e : Expr) (r : DX) : Prop where
  pw : PW X e (fun σ H _ => tR X.K X.mg E r σ H)
theorem RW1.rt (h : RW1 X E e ra) : RT X E e ra := ⟨h.pw.pt⟩
theorem rw_and1 (h : RT X E a ra) : RW1 X E (.BoolOp .And [a] pos) ra := ⟨pw_and1 h.pt⟩
theorem rw_or1 (h : RT X E a ra) : RW1 X E (.BoolOp .Or [a] pos) ra := ⟨pw_or1 h.pt⟩
theorem rw_and {rest : List Expr} (ha : ST X a t) (xa : RT X E a ra) (xb : RW1 X E (.BoolOp .And (b :: rest) pos) rb) : RW1 X E (.BoolOp .And (a :: b :: rest) pos) (xIf t ra rb xNo) :=
  ⟨pw_imp (pw_and (or_pt xa.pt ha.pt) xb.pw) fun _ _ _ q => if_of q (fun _ z => (if_pos rfl).mpr z) fun _ z => (tR_no z).elim⟩
theorem rw_or {rest : List Expr} (ha : ST X a t) (xa : RT X E a ra) (xb : RW1 X E (.BoolOp .Or (b :: rest) pos) rb) : RW1 X E (.BoolOp .Or (a :: b :: rest) pos) (xIf t ra xNo rb) :=
  ⟨pw_imp (pw_or (or_pt xa.pt ha.pt) xb.pw) fun _ _ _ q => if_of q (fun _ z => (tR_no z).elim) fun _ z => (if_neg (by decide)).mpr z⟩
/-! ### calls by name -/
variable {k : Nat} {fa C : Addr} {fd : FuncData} {ps : List Str} {fn : List D → Option SV} {rn : List D → Option D} {x m cn : Str} {p apos : Pos} {NN : Nat}
def xCallK (n nk : Nat) (perm : List Nat) (NN : Nat) (rn : List D → Option D) (r r2 : DA) : DX := fun st => match r st with
  | none => none
  | some (xs, s1) => match r2 s1 with
    | none => none
    | some (ys, _) => if xs.length = n ∧ ys.length = nk ∧ perm.length = NN then rn (pick .non perm (xs ++ ys)) else none
theorem xCallK_inv {n nk : Nat} {perm : List Nat} {st : S} {y : D} (e : xCallK n nk perm NN rn r r2 st = some y) : ∃ xs s1 ys s2, r st = some (xs, s1) ∧ r2 s1 = some (ys, s2) ∧ xs.length = n ∧ ys.length = nk ∧ perm.length = NN ∧ rn (pick .non perm (xs ++ ys)) = some y := by
  unfold xCallK at e
  split at e
  · cases e
  rename_i xs s1 e1
  split at e
  · cases e
  rename_i ys s2 e2
  split at e
  · rename_i hl
    exact ⟨xs, s1, ys, s2, e1, e2, hl.1, hl.2.1, hl.2.2, e⟩
  · cases e
theorem re_callK {ks : List Str} {n nk : Nat} {perm : List Nat} (F : FnOk X.prog X.w X.K X.mg X.base (L2.CX X.prog X.w) k fa fd ps (spX X.K X.mg NN fn rn)) (tk : TkX X E) (hr : Room k X.A) (hg : Gl X x) (hm : X.mg x = some (.ref fa)) (hk : PySem.W.keepIn X.K (.ref fa) = true) (hb : KB X.K fd ps ks n perm)
    (ha : SA X (e :: es) r) (hkw : SK X kws r2) (hnk : ks.length = nk := by rfl) (hall : (backToKw pos (keywordEach kws X.env)).all (·.1.isSome) = true := by rfl) (hks : (backToKw pos (keywordEach kws X.env)).filterMap (·.1) = ks := by rfl)
    (hdb : (x == ("__debug__" : Str)) = false := by decide) (he : starEach (e :: es) X.env = (false, eval e X.env) :: starEach es X.env := by rfl)
    (hpl : ((backTo pos (starEach (e :: es) X.env)).any (·.1) || (backToKw pos (keywordEach kws X.env)).any (·.1.isNone)) = false := by rfl) :
    RE X E (.Call (.Name x p) (e :: es) kws pos) (xCallK n nk perm NN rn r r2) := by
  subst hnk
  refine ⟨⟨fun pins s σ H Q I h => ?_⟩⟩
  obtain ⟨G, Fz, st, y, R, e, kk⟩ := h
  obtain ⟨xs, s1, ys, st', e1, e2, hl1, hl2, hl3, e3⟩ := xCallK_inv e
  refine wpAny_Call_Name_kw (ld_glob I hg hm ?_ hdb)
  refine PySem.W.callWith_KW (h₀ := X.base) I.ok.mod.kin hk hall (thn (ha.pa.run pos pins s σ H (fun vs H1 => ∃ F1, Gr G Fz F1 ∧ Rep X.K X.mg G F1 s1 σ H1 ∧ RDs X.K X.mg F1 xs vs) I ⟨G, Fz, st, xs, s1, R, e1, fun vs F1 H1 g1 R1 r1 => ⟨F1, g1, R1, r1⟩⟩) fun us t1 ⟨vs, H1, I1, rv, F1, g1, R1, r1⟩ => ?_) hpl he
  refine thn (hkw.pk.run pos pins t1 σ H1 (fun zs H2 => ∃ F2, Gr G F1 F2 ∧ Rep X.K X.mg G F2 st' σ H2 ∧ RDs X.K X.mg F2 ys zs) I1 ⟨G, F1, s1, ys, st', R1, e2, fun zs F2 H2 g2 R2 r2 => ⟨F2, g2, R2, r2⟩⟩) fun ws t2 ⟨zs, H2, I2, rz, F2, g2, R2, r2⟩ => ⟨I2.kIn, ?_⟩
  rw [hks]
  refine run_kw (E := E) (passes_call tk fun _ _ _ _ h => h) F hr hb (by rw [← r1.length]; exact hl1) (by rw [← r2.length]; exact hl2) I2 rv rz ?_
  exact spX_of R2 (by unfold pick; rw [List.length_map]; exact hl3) (pick_rd ((r1.mono g2.1).append r2) perm) e3 (kk.gr (g1.trans g2))
theorem re_callK0 {ks : List Str} {nk : Nat} {perm : List Nat} (F : FnOk X.prog X.w X.K X.mg X.base (L2.CX X.prog X.w) k fa fd ps (spX X.K X.mg NN fn rn)) (tk : TkX X E) (hr : Room k X.A) (hg : Gl X x) (hm : X.mg x = some (.ref fa)) (hk : PySem.W.keepIn X.K (.ref fa) = true) (hb : KB X.K fd ps ks 0 perm)
    (hkw : SK X kws r2) (hnk : ks.length = nk := by rfl) (hall : (backToKw pos (keywordEach kws X.env)).all (·.1.isSome) = true := by rfl) (hks : (backToKw pos (keywordEach kws X.env)).filterMap (·.1) = ks := by rfl)
    (hdb : (x == ("__debug__" : Str)) = false := by decide)
    (hpl : ((backTo pos (starEach [] X.env)).any (·.1) || (backToKw pos (keywordEach kws X.env)).any (·.1.isNone)) = false := by rfl) :
    RE X E (.Call (.Name x p) [] kws pos) (xCallK 0 nk perm NN rn dNil r2) := by
  subst hnk
  refine ⟨⟨fun pins s σ H Q I h => ?_⟩⟩
  obtain ⟨G, Fz, st, y, R, e, kk⟩ := h
  obtain ⟨xs, s1, ys, st', e1, e2, hl1, hl2, hl3, e3⟩ := xCallK_inv e
  cases e1
  refine wpAny_Call_Name_kw (ld_glob I hg hm ?_ hdb)
  refine PySem.W.callWith_KW0 (h₀ := X.base) I.ok.mod.kin hk hall ?_ hpl
  refine thn (hkw.pk.run pos pins s σ H (fun zs H2 => ∃ F2, Gr G Fz F2 ∧ Rep X.K X.mg G F2 st' σ H2 ∧ RDs X.K X.mg F2 ys zs) I ⟨G, Fz, _, ys, st', R, e2, fun zs F2 H2 g2 R2 r2 => ⟨F2, g2, R2, r2⟩⟩) fun ws t2 ⟨zs, H2, I2, rz, F2, g2, R2, r2⟩ => ⟨I2.kIn, ?_⟩
  rw [hks]
  refine run_kw (us := []) (vs := []) (E := E) (passes_call tk fun _ _ _ _ h => h) F hr hb rfl (by rw [← r2.length]; exact hl2) I2 .nil rz ?_
  exact spX_of R2 (by unfold pick; rw [List.length_map]; exact hl3) (pick_rd (RDs.append .nil r2) perm) e3 (kk.gr g2)
theorem re_stat {pl : Sem Bool} {pc : Pos} (hgc : Gl X cn) (hc : X.mg cn = some (.ref C)) (S : Stat X.K C m fa) (F : FnOk X.prog X.w X.K X.mg X.base (L2.CX X.prog X.w) k fa fd ps (spX X.K X.mg NN fn rn)) (tk : TkX X E) (hr : Room k X.A) (hb : Binds X.K fd ps []) (ha : SA X (e :: es) r) (xa : RA X E (e :: es) ra)
    (hdb : (cn == ("__debug__" : Str)) = false := by decide)
    (hst : starEach (e :: es) X.env = (false, eval e X.env) :: starEach es X.env := by rfl) (hpl : (backTo pos (starEach es X.env)).any (·.1) = false := by rfl)
    (ht : eval (.Call (.Attribute (.Name cn pc) m apos) (e :: es) [] pos) X.env = (do
      let ov ← eval (.Name cn pc) X.env
      standAt apos.atName
      let (f, first) ← holding [ov] (getMethod ov m pl)
      callWith pos f first (backTo pos (starEach (e :: es) X.env)) (backToKw pos (keywordEach [] X.env))) := by rfl) :
    RE X E (.Call (.Attribute (.Name cn pc) m apos) (e :: es) [] pos) (xCall NN rn r ra) := by
  refine ⟨⟨fun pins s σ H Q I h => ?_⟩⟩
  obtain ⟨G, Fz, st, y, R, e, kk⟩ := h
  refine PySem.W.methodCall_KW (pl := pl) (ld_glob I hgc hc ?_ hdb) ht
  obtain ⟨mc, p, rest, h1, h2, h3⟩ := S.rd
  refine PySem.W.method_cls I.kIn S.ga (PySem.W.cls_bind I.kIn h1 h2 (wpAny_call (PySem.W.sm_get (s := { s with toks := s.toks + 1 }) I.kIn h3 (PySem.W.handed_on rfl ?_))))
  unfold xCall at e
  split at e
  · rename_i z e1
    cases e
    exact PySem.W.callWith_K (first := []) (h₀ := X.base) I.ok.mod.kin S.kp (thn (xa.pa.run pos pins { s with toks := s.toks + 1 } σ H (fun _ _ => False) (I.tok _) ⟨G, Fz, st, _, R, e1, kk⟩) fun us t1 ⟨vs, H1, I1, rv, q⟩ => q.elim) hst hpl
  · split at e
    · rename_i xs s1 e1
      split at e
      · rename_i hl
        refine PySem.W.callWith_K (first := []) (h₀ := X.base) I.ok.mod.kin S.kp (thn (ha.pa.run pos pins { s with toks := s.toks + 1 } σ H (fun vs H1 => ∃ F1, Gr G Fz F1 ∧ Rep X.K X.mg G F1 s1 σ H1 ∧ RDs X.K X.mg F1 xs vs) (I.tok _) ⟨G, Fz, st, xs, _, R, e1, fun vs F1 H1 g1 R1 r1 => ⟨F1, g1, R1, r1⟩⟩) fun us t1 ⟨vs, H1, I1, rv, F1, g1, R1, r1⟩ => ⟨I1.kIn, ?_⟩) hst hpl
        refine run_fn (E := E) F hr hb .nil (passes_call tk fun _ _ _ _ h => h) I1 rv ?_
        rw [List.append_nil]
        exact spX_of R1 hl r1 e (kk.gr g1)
      · cases e
    · cases e
end
/-! ### a def that makes lambdas: its code object, the table of it -/
structure FunL (K : PySem.W.Frag) (x qual : Str) (st : Stmt) (f : Addr) (fd : FuncData) (c : Addr) : Prop where
  ex : ∃ (oc : Value) (od : Option Addr) (kV doc pm : Value) (an : Option Addr) (ct : Value) (osl : Array (Option Value)),
    fd = PySem.W.fnOf x qual (defArgs st) (defBody st) (defScope st) .none kV doc pm an (.ref c) ct ∧ K.lookup f = some ⟨oc, od, .func fd, osl⟩ ∧ PySem.W.codeIn K (.ref c) qual = true
section
variable {P : Program} {w : World} {K : PySem.W.Frag} {mg : Str → Option Value} {base : Heap}
theorem fn_pL {x qual : Str} {st : Stmt} {f cc : Addr} {fd : FuncData} {N ps : List Str} {k : Nat} {b : DS} (F : FunL K x qual st f fd cc) (S : FnScope N ps (defScope st))
    (hb : ∀ (A : Around) (outer : List Env) (s : Shared) (H : Hp) (E : XK), Room k (A.deeper (envOfC qual (defScope st) s.heap.objs.size f (.ref cc))) → SSs (cxOf (L2.CX P w) P w K mg base N qual (defScope st) f (.ref cc) A outer s H E).nox [] (defBody st) b) :
    FnOk P w K mg base (L2.CX P w) (k + 1) f fd ps (spP K mg ps.length (runP N.length b)) := by
  have hpl : ps.length ≤ N.length := by have := congrArg List.length S.pre; rw [List.length_take] at this; omega
  obtain ⟨oc, od, kV, doc, pm, an, ct, osl, rfl, lk, hcd⟩ := F.ex
  refine fn_of lk hcd S (fun vs H Q E h => spP_len vs H Q E h) fun A outer s H vs Q E hr h => ⟨_, (hb A outer s H E hr).pss.nox, ?_⟩
  obtain ⟨G, Fz, ds, sv, eg, ef, hl, r, e, q⟩ := h
  unfold runP at e
  have R := rep_start (N := N) eg ef r (by rw [hl]; exact hpl)
  split at e
  · rename_i st1 e1
    cases e
    exact ⟨G, Fz, _, _, _, R, e1, fun F' H' σ' g R' _ => q .non F' H' g R'.g ⟨R'.f, R'.nt⟩ (.imm .non)⟩
  · rename_i sv1 st1 e1
    cases e
    exact ⟨G, Fz, _, _, _, R, e1, fun F' H' σ' g R' _ v rv _ => q v F' H' g R'.g ⟨R'.f, R'.nt⟩ rv⟩
  · cases e
theorem fn_oL {x qual : Str} {st : Stmt} {f cc : Addr} {fd : FuncData} {N ps : List Str} {p0 : Str} {k : Nat} {b : DS} (F : FunL K x qual st f fd cc) (S : FnScope N (p0 :: ps) (defScope st))
    (hb : ∀ (A : Around) (outer : List Env) (s : Shared) (H : Hp) (E : XK), Room k (A.deeper (envOfC qual (defScope st) s.heap.objs.size f (.ref cc))) → SSs (cxOf (L2.CX P w) P w K mg base N qual (defScope st) f (.ref cc) A outer s H E).nox [0] (defBody st) b) :
    FnOk P w K mg base (L2.CX P w) (k + 1) f fd (p0 :: ps) (spO K mg ps.length (runO N.length b)) := by
  have hpl : (p0 :: ps).length ≤ N.length := by have := congrArg List.length S.pre; rw [List.length_take] at this; omega
  obtain ⟨oc, od, kV, doc, pm, an, ct, osl, rfl, lk, hcd⟩ := F.ex
  exact fn_of lk hcd S (fun vs H Q E h => spO_len vs H Q E h) fun A outer s H vs Q E hr h => ⟨_, (hb A outer s H E hr).pss.nox, goO (p0 := p0) hpl h⟩
theorem funL_mk {x qual : Str} {st : Stmt} {f c : Addr} {oc : Value} {od an : Option Addr} {osl : Array (Option Value)} {kV doc pm ct : Value} (l : K.lookup f = some ⟨oc, od, .func (PySem.W.fnOf x qual (defArgs st) (defBody st) (defScope st) .none kV doc pm an (.ref c) ct), osl⟩)
    (h : PySem.W.codeIn K (.ref c) qual = true) : FunL K x qual st f (PySem.W.fnOf x qual (defArgs st) (defBody st) (defScope st) .none kV doc pm an (.ref c) ct) c := ⟨⟨oc, od, kV, doc, pm, an, ct, osl, rfl, l, h⟩⟩
/-- the table of f's code object is told -/
theorem lam_mem {fs : List Str} {f : Str} {fa c P : Addr} {oc : Value} {od : Option Addr} {fd : FuncData} {osl : Array (Option Value)} (hl : lamFns = fs) (hf : f ∈ fs) (hm : mg f = some (.ref fa)) (lk : K.lookup fa = some ⟨oc, od, .func fd, osl⟩) (hc : fd.code = .ref c) (hh : PySem.W.codeHdIn K c P = true) :
    (P, f ++ (".<locals>." : Str) ++ ("<lambda>" : Str)) ∈ lamT K mg := by
  unfold lamT
  rw [hl]
  refine List.mem_map.mpr ⟨f, hf, ?_⟩
  rw [lamA_of ⟨fa, oc, od, fd, osl, c, hm, lk, hc, hh⟩]
end
end Sm
/-! Methods of built-in kinds: index, extend, pop. -/
namespace Sm
open PySem L2 Evl PyProof.Rows
section
variable {X : Cx} {o e : Expr} {es : List Expr} {f : DE} {r : DA} {name : Str} {apos cpos : Pos} {T id : String}
/-- a method that reads -/
def MethS (X : Cx) (T id : String) (oo : D → List D → Option SV) : Prop := ∃ rr : V → List V → Hp → VK → Prop, MtR X id rr ∧
  ∀ {G F H : Hp} {st : S} {σ : L2.St} {x : D} {v : V} {ds : List D} {vs : List V} {sv : SV} {Q : VK}, Rep X.K X.mg G F st σ H → RD X.K X.mg F x v → RDs X.K X.mg F ds vs → oo x ds = some sv → Kn X.K X.mg G F st σ sv Q → rr v vs H Q
def TyS (T : String) : D → Bool
  | .lst _ => T == "list"
  | .tup _ => T == "tuple"
  | .str _ => T == "str"
  | _ => false
def dBM (T : String) (oo : D → List D → Option SV) (f : DE) (r : DA) : DE := fun st => match f st with
  | none => none
  | some (x, s1) => if TyS T x.frz = true then (match r s1 with
    | none => none
    | some (xs, s2) => match oo x.frz xs with
      | none => none
      | some z => some (z, s2)) else none
theorem tyS_rd {K : PySem.W.Frag} {mg : Str → Option Value} {F H : Hp} {x : D} {v : V} (h : TyS "list" x = true) (e : Ex F H) (r : RD K mg F x v) : tyV K "list" v H := by
  cases x with
  | lst xs =>
    obtain ⟨a, vs, rfl, ha, _⟩ := r.lst_inv
    exact .inl ⟨rfl, _, .inl (.inl (e _ _ ha))⟩
  | tup xs => simp [TyS] at h
  | str xs => simp [TyS] at h
  | _ => cases h
theorem se_bmL {oo : D → List D → Option SV} (pa : PlainAttrs "list") (slot : Slot "list" name id) (hty : typeOf (.builtin id) = pure (.type "method_descriptor")) (hm : MethS X "list" id oo) (ho : SE X o f) (ha : SA X (e :: es) r)
    (hbase : attributeBase o name X.env (eval o X.env) = eval o X.env := by rfl)
    (hfew : ((backTo cpos (starEach (e :: es) X.env)).all (fun x => !x.1) && (backToKw cpos (keywordEach [] X.env)).all (fun x => x.1.isSome)
      && decide ((e :: es).length + ([] : List Keyword).length + (if ([] : List Keyword).isEmpty then 0 else 1) < 30)) = true := by rfl)
    (hline : (apos.endLine == cpos.line) = true := by rfl) (hs : starEach (e :: es) X.env = (false, eval e X.env) :: starEach es X.env := by rfl) (hplain : (backTo cpos (starEach es X.env)).any (·.1) = false := by rfl) :
    SE X (.Call (.Attribute o name apos) (e :: es) [] cpos) (dBM "list" oo f r) := by
  obtain ⟨rr, h1, h2⟩ := hm
  refine ⟨pe_imp (pe_bm pa slot hty h1 ho.pf ha.pa hbase hfew hline hs hplain) fun σ H Q q => ?_⟩
  obtain ⟨G, F, st, sv, st', R, e, k⟩ := q
  unfold dBM at e
  split at e
  · cases e
  rename_i x s1 e1
  split at e
  · rename_i ht
    split at e
    · cases e
    rename_i xs s2 e2
    split at e
    · cases e
    rename_i z e3
    cases e
    exact ⟨G, F, st, x, s1, R, e1, fun v F1 H1 g1 R1 r1 => ⟨tyS_rd ht R1.f r1, G, F1, s1, xs, _, R1, e2, fun vs F2 H2 g2 R2 r2 => h2 R2 (r1.mono g2.1) r2 e3 fun v F' H' g3 => k v F' H' ((g1.trans g2).trans g3)⟩⟩
  · cases e
def idxV (u : V) : List V → Option Nat
  | [] => none
  | v :: vs => if eqV v u = true then some 0 else (idxV u vs).map (· + 1)
theorem idxV_some {u : V} : ∀ {vs : List V} {j : Nat}, idxV u vs = some j → ∃ z, vs[j]? = some z ∧ eqV z u = true ∧ ∀ (m : Nat) (z' : V), m < j → vs[m]? = some z' → eqV z' u = false
  | [], j, h => by cases h
  | v :: vs, j, h => by
    unfold idxV at h
    by_cases q : eqV v u = true
    · rw [if_pos q] at h; cases h
      exact ⟨v, rfl, q, fun m z' hm => absurd hm (by omega)⟩
    · rw [if_neg q] at h
      obtain ⟨i, h1, h2⟩ := Option.map_eq_some_iff.mp h
      subst h2
      obtain ⟨z, a, b, c⟩ := idxV_some h1
      refine ⟨z, a, b, fun m z' hm hz => ?_⟩
      cases m with
      | zero => simp at hz; subst hz; simpa using q
      | succ m => exact c m z' (by omega) (by simpa using hz)
def oIndex : D → List D → Option SV
  | .lst ds, [y] => match ds.mapM D.v, y.v with
    | some vs, some u => (idxV u vs).map fun j => .imm (.int (j : Nat))
    | _, _ => none
  | _, _ => none
theorem ms_index : MethS X "list" "list.index" oIndex := by
  refine ⟨_, mt_index, ?_⟩
  intro G F H st σ x v ds vs sv Q R rx rd e k
  unfold oIndex at e
  split at e
  · rename_i xs y
    split at e
    · rename_i ws u ew eu
      obtain ⟨j, h1, h2⟩ := Option.map_eq_some_iff.mp e
      subst h2
      obtain ⟨z, a, b, c⟩ := idxV_some h1
      obtain ⟨p, us, rfl, hp, ru⟩ := rx.lst_inv
      obtain ⟨q1, q2⟩ := D.vs_rd ew ru
      subst q1
      obtain ⟨w, rfl, rw_⟩ := rd.one
      obtain ⟨q3, q4⟩ := D.v_rd eu rw_
      subst q3
      exact ⟨p, us, w, j, z, rfl, rfl, .inl (.inl (R.f _ _ hp)), q4, q2, a, b, c, k.imm R (.int _)⟩
    · cases e
  · cases e
/-! ### a list of ours grows by another, or loses one -/
def itemsD : D → Option (List D)
  | .lst ds => some ds
  | _ => none
def dExt (i : Nat) (f : DE) : DE := fun st => match st[i]? with
  | some (some (.lst _)) => (match f st with
    | none => none
    | some (x, s1) => match s1[i]?, itemsD x.frz with
      | some (some (.lst ds)), some xs => if ds.length + xs.length ≤ 100000 then some (.imm .non, s1.set i (some (.lst (ds ++ xs)))) else none
      | _, _ => none)
  | _ => none
theorem se_ext {i : Nat} {x : Str} {p apos cpos : Pos} (hN : X.N[i]? = some x) (hv : Vis X.env.scope x) (he : SE X e f) (hd : (x == ("__debug__" : Str)) = false := by decide) (hcd : (x == ("__classdict__" : Str)) = false := by decide)
    (hbase : attributeBase (.Name x p) "extend" X.env (eval (.Name x p) X.env) = eval (.Name x p) X.env := by rfl)
    (hfew : ((backTo cpos (starEach [e] X.env)).all (fun x => !x.1) && (backToKw cpos (keywordEach [] X.env)).all (fun x => x.1.isSome)
      && decide ([e].length + ([] : List Keyword).length + (if ([] : List Keyword).isEmpty then 0 else 1) < 30)) = true := by rfl)
    (hline : (apos.endLine == cpos.line) = true := by rfl) (hs : starEach [e] X.env = (false, eval e X.env) :: starEach [] X.env := by rfl) (hplain : (backTo cpos (starEach [] X.env)).any (·.1) = false := by rfl) :
    SE X (.Call (.Attribute (.Name x p) "extend" apos) [e] [] cpos) (dExt i f) := ⟨pe_imp (pe_bm PySem.F.plainAttrs_list PySem.F.slot_list_extend PySem.F.type_list_extend mt_extend (pe_var hN hv hd hcd) (pa_cons he.pf pa_nil hs) hbase hfew hline hs hplain) fun σ H Q q => by
  obtain ⟨G, F, st, sv, st', R, e, k⟩ := q
  unfold dExt at e
  split at e
  · rename_i ds0 h0
    split at e
    · cases e
    rename_i x1 s1 e1
    split at e
    · rename_i ds xs h1 hx
      split at e
      · rename_i hl
        cases e
        obtain ⟨v0, hv0, rs0⟩ := R.at_ i _ h0
        refine ⟨v0, hv0, ?_, G, F, st, x1, s1, R, e1, fun v F1 H1 g1 R1 r1 => ?_⟩
        · cases rs0 with
          | lst g f h r => exact .inl ⟨rfl, _, .inl (.inl h)⟩
        · obtain ⟨v0', hv0', rs⟩ := R1.at_ i _ h1
          rw [hv0] at hv0'
          cases hv0'
          have hx' : x1.frz = .lst xs := by
            unfold itemsD at hx
            split at hx
            · rename_i q; cases hx; exact q
            · cases hx
          rw [hx'] at r1
          obtain ⟨b, zs, rfl, hb, rz⟩ := r1.lst_inv
          cases rs with
          | @lst a vs _ ga fa ha ra =>
            refine ⟨a, b, vs, zs, rfl, rfl, ha, R1.f _ _ hb, ?_, ?_⟩
            · have h3 := ra.length; have h4 := rz.length
              show vs.length + zs.length ≤ sizeLine
              have : (100000 : Nat) ≤ sizeLine := by decide
              omega
            · exact k _ F1 _ g1 (R1.write h1 rfl hv0 ga fa (.lst ga fa upd_same (ra.append rz))) (.imm .non) Sep.imm
      · cases e
    · cases e
  · cases e⟩
/-- name.pop(f) -/
def dPopAt (i : Nat) (f : DE) : DE := fun st => match st[i]? with
  | some (some (.lst _)) => (match f st with
    | some (.imm (.int k), s1) => (match s1[i]? with
      | some (some (.lst ds)) => (match ixN ds.length k with
        | some j => (match ds[j]? with
          | some d => if -(2 ^ 62) ≤ k ∧ k < 2 ^ 62 then some (.imm d, s1.set i (some (.lst (ds.eraseIdx j)))) else none
          | none => none)
        | none => none)
      | _ => none)
    | _ => none)
  | _ => none
theorem ixN_seq {n : Nat} {k : Int} {j : Nat} (h : ixN n k = some j) : seqIndex? k n = some j := by
  unfold ixN at h
  unfold seqIndex?
  by_cases h0 : 0 ≤ k
  · rw [if_pos h0] at h
    split at h
    · cases h
      have q : ¬ k < 0 := by omega
      simp [q, h0]
      omega
    · cases h
  · rw [if_neg h0] at h
    split at h
    · cases h
      have q : k < 0 := by omega
      simp only [q, if_true]
      rw [if_pos (by simp; omega)]
    · cases h
theorem RDs.erase {K : PySem.W.Frag} {mg : Str → Option Value} {F : Hp} : ∀ {ds : List D} {vs : List V}, RDs K mg F ds vs → ∀ j : Nat, RDs K mg F (ds.eraseIdx j) (vs.eraseIdx j)
  | _, _, .nil, j => by simp; exact .nil
  | _, _, .cons h t, 0 => by simpa using t
  | _, _, .cons h t, j + 1 => by simpa using RDs.cons h (RDs.erase t j)
theorem se_popAt {i : Nat} {x : Str} {p apos cpos : Pos} (hN : X.N[i]? = some x) (hv : Vis X.env.scope x) (he : SE X e f) (hd : (x == ("__debug__" : Str)) = false := by decide) (hcd : (x == ("__classdict__" : Str)) = false := by decide)
    (hbase : attributeBase (.Name x p) "pop" X.env (eval (.Name x p) X.env) = eval (.Name x p) X.env := by rfl)
    (hfew : ((backTo cpos (starEach [e] X.env)).all (fun x => !x.1) && (backToKw cpos (keywordEach [] X.env)).all (fun x => x.1.isSome)
      && decide ([e].length + ([] : List Keyword).length + (if ([] : List Keyword).isEmpty then 0 else 1) < 30)) = true := by rfl)
    (hline : (apos.endLine == cpos.line) = true := by rfl) (hs : starEach [e] X.env = (false, eval e X.env) :: starEach [] X.env := by rfl) (hplain : (backTo cpos (starEach [] X.env)).any (·.1) = false := by rfl) :
    SE X (.Call (.Attribute (.Name x p) "pop" apos) [e] [] cpos) (dPopAt i f) := ⟨pe_imp (pe_bm PySem.F.plainAttrs_list PySem.F.slot_list_pop PySem.F.type_list_pop mt_popAt (pe_var hN hv hd hcd) (pa_cons he.pf pa_nil hs) hbase hfew hline hs hplain) fun σ H Q q => by
  obtain ⟨G, F, st, sv, st', R, e, k⟩ := q
  unfold dPopAt at e
  split at e
  · rename_i ds0 h0
    split at e
    · rename_i kk s1 e1
      split at e
      · rename_i ds h1
        split at e
        · rename_i j ej
          split at e
          · rename_i d hdj
            split at e
            · rename_i hb
              cases e
              obtain ⟨v0, hv0, rs0⟩ := R.at_ i _ h0
              refine ⟨v0, hv0, ?_, G, F, st, _, s1, R, e1, fun v F1 H1 g1 R1 r1 => ?_⟩
              · cases rs0 with
                | lst g f h r => exact .inl ⟨rfl, _, .inl (.inl h)⟩
              · obtain ⟨v0', hv0', rs⟩ := R1.at_ i _ h1
                rw [hv0] at hv0'
                cases hv0'
                cases (show v = V.int kk from RD.int_inv r1)
                cases rs with
                | @lst a vs _ ga fa ha ra =>
                  obtain ⟨y, hy, ry⟩ := ra.get hdj
                  refine ⟨a, vs, kk, j, y, rfl, rfl, ha, by omega, by omega, by rw [← ra.length]; exact ixN_seq ej, hy, ?_⟩
                  exact k _ F1 _ g1 (R1.write h1 rfl hv0 ga fa (.lst ga fa upd_same (ra.erase j))) (.imm ry) Sep.imm
            · cases e
          · cases e
        · cases e
      · cases e
    · cases e
  · cases e⟩
end
/-! ### plain evaluation -/
section
variable (st : S)
@[simp ↓] theorem ap_BM (T : String) (oo : D → List D → Option SV) (f : DE) (r : DA) : dBM T oo f r st = match f st with
  | none => none
  | some (x, s1) => if TyS T x.frz = true then (match r s1 with
    | none => none
    | some (xs, s2) => match oo x.frz xs with
      | none => none
      | some z => some (z, s2)) else none := (rfl)
@[simp] theorem tyS_l (xs : List D) : TyS "list" (.lst xs) = true := (rfl)
@[simp ↓] theorem ap_Ext (i : Nat) (f : DE) : dExt i f st = match st[i]? with
  | some (some (.lst _)) => (match f st with
    | none => none
    | some (x, s1) => match s1[i]?, itemsD x.frz with
      | some (some (.lst ds)), some xs => if ds.length + xs.length ≤ 100000 then some (.imm .non, s1.set i (some (.lst (ds ++ xs)))) else none
      | _, _ => none)
  | _ => none := (rfl)
@[simp] theorem items_l (xs : List D) : itemsD (.lst xs) = some xs := (rfl)
@[simp ↓] theorem ap_xThen (f : DE) (r1 r2 : DX) : xThen f r1 r2 st = match r1 st with
  | some x => some x
  | none => match f st with
    | some (_, s1) => r2 s1
    | none => none := (rfl)
@[simp ↓] theorem ap_xNo : xNo st = none := (rfl)
@[simp ↓] theorem ap_xIf (t : DT) (rt r1 r2 : DX) : xIf t rt r1 r2 st = match rt st with
  | some x => some x
  | none => match t st with
    | some (true, s1) => r1 s1
    | some (false, s1) => r2 s1
    | none => none := (rfl)
@[simp ↓] theorem ap_xSeq (d : DS) (r1 r2 : DX) : xSeq d r1 r2 st = match r1 st with
  | some x => some x
  | none => match d st with
    | some (.nx, s1) => r2 s1
    | _ => none := (rfl)
@[simp ↓] theorem ap_xCall (NN : Nat) (rn : List D → Option D) (r : DA) (ra : DX) : xCall NN rn r ra st = match ra st with
  | some x => some x
  | none => match r st with
    | some (xs, _) => if xs.length = NN then rn xs else none
    | none => none := (rfl)
@[simp ↓] theorem ap_xCallK (n nk : Nat) (perm : List Nat) (NN : Nat) (rn : List D → Option D) (r r2 : DA) : xCallK n nk perm NN rn r r2 st = match r st with
  | none => none
  | some (xs, s1) => match r2 s1 with
    | none => none
    | some (ys, _) => if xs.length = n ∧ ys.length = nk ∧ perm.length = NN then rn (pick .non perm (xs ++ ys)) else none := (rfl)
@[simp ↓] theorem ap_xRaise (c : Str) (fs : List Str) (r : DA) : xRaise c fs r st = match r st with
  | some (xs, _) => if xs.length = fs.length then some (.exc c fs.reverse xs.reverse) else none
  | none => none := (rfl)
@[simp ↓] theorem ap_xMake (c : Str) (NN : Nat) (ro : SV → List D → Option D) (r : DA) (ra : DX) : xMake c NN ro r ra st = match ra st with
  | some x => some x
  | none => match r st with
    | some (xs, _) => if xs.length = NN then ro (.ins c [] []) xs else none
    | none => none := (rfl)
def xMethD (c m : Str) (NN : Nat) (rn : List D → Option D) (r : DA) (ra : DX) (s1 : S) : D → Option D
  | .ins c' ns ds => if c' = c ∧ hasN m ns = false then (match ra s1 with
        | some y => some y
        | none => match r s1 with
          | none => none
          | some (xs, _) => if xs.length + 1 = NN then rn (.ins c' ns ds :: xs) else none) else none
  | _ => none
@[simp ↓] theorem ap_xMeth (c m : Str) (NN : Nat) (rn : List D → Option D) (f : DE) (rf : DX) (r : DA) (ra : DX) : xMeth c m NN rn f rf r ra st = match rf st with
  | some x => some x
  | none => match f st with
    | none => none
    | some (x, s1) => xMethD c m NN rn r ra s1 x.frz := (rfl)
@[simp ↓] theorem ap_Lam (h : Option D → Option SV) (is : List Nat) (b : DE) (r : DX) : dLam h is b r st = match r (blind (frzL st is)) with
  | some x => (match h (some x) with
    | some sv => some (sv, frzL st is)
    | none => none)
  | none => match b (blind (frzL st is)) with
    | some _ => (match h none with
      | some sv => some (sv, frzL st is)
      | none => none)
    | none => none := (rfl)
@[simp ↓] theorem ap_NoE : dNoE st = none := (rfl)
@[simp ↓] theorem ap_NoT : dNoT st = none := (rfl)
end
end Sm
/-! Dicts of ints and texts. -/
namespace Sm
open PySem L2 Evl PyProof.Rows
/-! ### values of keys -/
def keyD : D → Option Key
  | .int i => some (.inl i)
  | .str x => some (.inr x)
  | _ => none
theorem keyD_rd {K : PySem.W.Frag} {mg : Str → Option Value} {F : Hp} {d : D} {v : V} {k : Key} (h : keyD d = some k) (r : RD K mg F d v) : v = kV k := by
  cases r <;> first | (cases h; rfl) | cases h
def valD : List Key → List D → Key → Option D
  | k :: ks, d :: ds, j => if k = j then some d else valD ks ds j
  | _, _, _ => none
def hasK (ks : List Key) (j : Key) : Bool := ks.any fun k => decide (k = j)
def putKs (ks : List Key) (j : Key) : List Key := if hasK ks j = true then ks else ks ++ [j]
def putDs (ks : List Key) (ds : List D) (j : Key) (x : D) : List D := if hasK ks j = true then List.zipWith (fun k d => if k = j then x else d) ks ds else ds ++ [x]
theorem valD_rd {K : PySem.W.Frag} {mg : Str → Option Value} {F : Hp} : ∀ {kvs : List (Key × V)} {ds : List D} {j : Key} (o : Option D), RDs K mg F ds (kvs.map (·.2)) → valD (kvs.map (·.1)) ds j = o → match o with
    | some d => ∃ v, valV kvs j = some v ∧ RD K mg F d v
    | none => valV kvs j = none
  | [], _, j, o, .nil, h => by subst h; exact valV_nil
  | (k, v) :: kvs, _, j, o, .cons (d := d) (ds := ds) r t, h => by
    rw [List.map_cons, valD] at h
    by_cases c : k = j
    · rw [if_pos c] at h
      subst h
      exact ⟨v, valV_pos c, r⟩
    · rw [if_neg c] at h
      have ih := valD_rd o t h
      rw [valV_neg (p := (k, v)) c]
      exact ih
theorem any_mem (j : Key) (kvs : List (Key × V)) : ((kvs.any fun kv => decide (kv.1 = j)) = true) ↔ hasK (kvs.map (·.1)) j = true := by
  unfold hasK
  rw [List.any_map]
  exact Iff.rfl
theorem putK_ks (v : V) (j : Key) (kvs : List (Key × V)) : (putK kvs j v).map (·.1) = putKs (kvs.map (·.1)) j := by
  unfold putK putKs
  by_cases q : (kvs.any fun kv => decide (kv.1 = j)) = true
  · rw [if_pos q, if_pos ((any_mem j kvs).mp q), List.map_map]
    refine List.map_congr_left fun p hp => ?_
    simp only [Function.comp]
    split <;> rfl
  · rw [if_neg q, if_neg fun z => q ((any_mem j kvs).mpr z), List.map_append]
    rfl
theorem rep_ds {K : PySem.W.Frag} {mg : Str → Option Value} {F : Hp} {d : D} {v : V} (j : Key) (r : RD K mg F d v) : ∀ {kvs : List (Key × V)} {ds : List D}, RDs K mg F ds (kvs.map (·.2)) → RDs K mg F (List.zipWith (fun k d' => if k = j then d else d') (kvs.map (·.1)) ds) ((kvs.map fun kv => if kv.1 = j then (kv.1, v) else kv).map (·.2))
  | [], _, .nil => .nil
  | (k, w) :: kvs, _, .cons (d := d0) (ds := ds) r0 t => by
    have ih := rep_ds j r t
    simp only [List.map_cons, List.zipWith_cons_cons]
    refine .cons ?_ ih
    by_cases c : k = j
    · simp only [if_pos c]; exact r
    · simp only [if_neg c]; exact r0
theorem putK_ds {K : PySem.W.Frag} {mg : Str → Option Value} {F : Hp} {d : D} {v : V} (j : Key) (r : RD K mg F d v) {kvs : List (Key × V)} {ds : List D} (t : RDs K mg F ds (kvs.map (·.2))) : RDs K mg F (putDs (kvs.map (·.1)) ds j d) ((putK kvs j v).map (·.2)) := by
  unfold putK putDs
  by_cases q : (kvs.any fun kv => decide (kv.1 = j)) = true
  · rw [if_pos q, if_pos ((any_mem j kvs).mp q)]
    exact rep_ds j r t
  · rw [if_neg q, if_neg fun z => q ((any_mem j kvs).mpr z), List.map_append]
    exact t.append (.cons r .nil)
/-! ### a new one -/
def dNewK : DE := fun st => some (.dK [] [], st)
section
variable {X : Cx} {P : List Nat} {e : Expr} {f g : DE} {pos : Pos}
theorem se_dnewK : SE X (.Dict [] [] pos) dNewK := ⟨pe_imp pe_dnewK fun σ H Q q => by
  obtain ⟨G, F, st, sv, st', R, e, k⟩ := q
  cases e
  exact fun p hp => k _ F _ (Gr.refl F) (R.laid hp) (.dK (R.fresh hp).1 (R.fresh hp).2 upd_same rfl .nil) (Sep.fresh R hp)⟩
/-- the dict in slot i, as it stands -/
def dictAt (st : S) (i : Nat) : Option (List Key × List D) := match st[i]? with
  | some (some (.dK ks ds)) => some (ks, ds)
  | some (some (.imm (.dK ks ds))) => some (ks, ds)
  | _ => none
theorem dictAt_of {K : PySem.W.Frag} {mg : Str → Option Value} {G F H : Hp} {st : S} {σ : L2.St} {i : Nat} {ks : List Key} {ds : List D} (R : Rep K mg G F st σ H) (h : dictAt st i = some (ks, ds)) : ∃ (a : Addr) (kvs : List (Key × V)), σ[i]? = some (some (.ref a)) ∧ H a = some (.dK kvs) ∧ kvs.map (·.1) = ks ∧ RDs K mg F ds (kvs.map (·.2)) := by
  unfold dictAt at h
  split at h
  · rename_i h1
    cases h
    obtain ⟨v, hv, rs⟩ := R.at_ i _ h1
    cases rs with
    | dK g f hh hn r => exact ⟨_, _, hv, hh, hn, r⟩
  · rename_i h1
    cases h
    obtain ⟨v, hv, rs⟩ := R.at_ i _ h1
    cases rs with
    | imm r =>
      obtain ⟨a, kvs, rfl, ha, hn, rr⟩ := r.dK_inv
      exact ⟨a, kvs, hv, R.f _ _ ha, hn, rr⟩
  · cases h
/-- f in name -/
def dDIn (neg : Bool) (i : Nat) (f : DE) : DE := fun st => match f st with
  | some (.imm d, s1) => (match keyD d, dictAt s1 i with
    | some k, some (ks, ds) => some (.imm (.bl (if neg then !(valD ks ds k).isSome else (valD ks ds k).isSome)), s1)
    | _, _ => none)
  | _ => none
theorem din_of {i : Nat} {neg : Bool} {σ : L2.St} {H : Hp} {Q : VK} (q : tD X.K X.mg (dDIn neg i f) σ H Q) : tD X.K X.mg f σ H fun y H1 => ∃ v0, σ[i]? = some (some v0) ∧ ∃ a o, v0 = .ref a ∧ DGet H1 a y o ∧ Q (.bl (if neg then !o.isSome else o.isSome)) H1 := by
  obtain ⟨G, F, st, sv, st', R, e, k⟩ := q
  unfold dDIn at e
  split at e
  · rename_i d s1 e1
    split at e
    · rename_i kk ks ds hk hd
      cases e
      refine ⟨G, F, st, _, _, R, e1, fun y F1 H1 g1 R1 r1 _ => ?_⟩
      cases r1 with | imm r1 => ?_
      obtain ⟨a, kvs, hv, ha, hn, rr⟩ := dictAt_of R1 hd
      have hy := keyD_rd hk r1
      subst hy hn
      refine ⟨_, hv, a, valV kvs kk, rfl, DGet.k ha, ?_⟩
      have h := valD_rd (j := kk) _ rr rfl
      have hs : (valV kvs kk).isSome = (valD (kvs.map (·.1)) ds kk).isSome := by
        split at h
        · rename_i d' q
          obtain ⟨v, hv, _⟩ := h
          rw [hv, q]; rfl
        · rename_i q
          rw [h, q]; rfl
      rw [hs]
      exact k _ F1 H1 g1 R1 (.imm (.bl _)) Sep.imm
    · cases e
  · cases e
theorem se_din {i : Nat} {x : Str} {p : Pos} (hu : X.A.units + 1 < cLine) (he : SE X e f) (hN : X.N[i]? = some x) (hv : Vis X.env.scope x) (hd : (x == ("__debug__" : Str)) = false := by decide) (hcd : (x == ("__classdict__" : Str)) = false := by decide) (h1 : behindInMarks .In (.Name x p) = false := by first | exact nobehind _ (by decide) (by decide) | rfl) :
    SE X (.Compare e [.In] [.Name x p] pos) (dDIn false i f) := ⟨pe_imp (pe_cmp (pc_din hu he.pe (pe_var hN hv hd hcd)) h1) fun _ _ _ q => din_of q⟩
theorem se_dnotin {i : Nat} {x : Str} {p : Pos} (hu : X.A.units + 1 < cLine) (he : SE X e f) (hN : X.N[i]? = some x) (hv : Vis X.env.scope x) (hd : (x == ("__debug__" : Str)) = false := by decide) (hcd : (x == ("__classdict__" : Str)) = false := by decide) (h1 : behindInMarks .NotIn (.Name x p) = false := by first | exact nobehind _ (by decide) (by decide) | rfl) :
    SE X (.Compare e [.NotIn] [.Name x p] pos) (dDIn true i f) := ⟨pe_imp (pe_cmp (pc_dnotin hu he.pe (pe_var hN hv hd hcd)) h1) fun _ _ _ q => din_of q⟩
/-- name[f] -/
def dDGet (i : Nat) (f : DE) : DE := fun st => match st[i]? with
  | some (some _) => (match f st with
    | some (.imm d, s1) => (match keyD d, dictAt s1 i with
      | some k, some (ks, ds) => (match valD ks ds k with
        | some x => some (.imm x, s1)
        | none => none)
      | _, _ => none)
    | _ => none)
  | _ => none
theorem se_dget {i : Nat} {x : Str} {p : Pos} (hu : X.A.units + 1 < cLine) (hN : X.N[i]? = some x) (hv : Vis X.env.scope x) (he : SE X e f) (hs : NoSl e := by intro _ _; rfl) (hd : (x == ("__debug__" : Str)) = false := by decide) (hcd : (x == ("__classdict__" : Str)) = false := by decide) :
    SE X (.Subscript (.Name x p) e pos) (dDGet i f) := ⟨pe_imp (pe_dget hu (pe_var hN hv hd hcd) he.pe hs) fun σ H Q q => by
  obtain ⟨G, F, st, sv, st', R, e, k⟩ := q
  unfold dDGet at e
  split at e
  · rename_i sv0 h0
    split at e
    · rename_i d s1 e1
      split at e
      · rename_i kk ks ds hk hd'
        split at e
        · rename_i y hy
          cases e
          obtain ⟨v0, hv0, _⟩ := R.at_ i _ h0
          refine ⟨v0, hv0, G, F, st, _, _, R, e1, fun z F1 H1 g1 R1 r1 _ => ?_⟩
          cases r1 with | imm r1 => ?_
          obtain ⟨a, kvs, hv, ha, hn, rr⟩ := dictAt_of R1 hd'
          rw [hv0] at hv
          cases hv
          have hz := keyD_rd hk r1
          subst hz hn
          obtain ⟨v, h1, h2⟩ := valD_rd (j := kk) (some y) rr hy
          exact ⟨a, v, rfl, by rw [← h1]; exact DGet.k ha, k _ F1 H1 g1 R1 (.imm h2) Sep.imm⟩
        · cases e
      · cases e
    · cases e
  · cases e⟩
/-- name.get(f, g) -/
def dDGet2 (i : Nat) (f g : DE) : DE := fun st => match dictAt st i with
  | some _ => (match f st with
    | some (.imm d, s1) => (match g s1 with
      | some (.imm dd, s2) => (match keyD d, dictAt s2 i with
        | some k, some (ks, ds) => (match valD ks ds k with
          | some x => some (.imm x, s2)
          | none => some (.imm dd, s2))
        | _, _ => none)
      | _ => none)
    | _ => none)
  | _ => none
theorem se_dget2 {i : Nat} {x : Str} {p apos cpos : Pos} {e2 : Expr} (hu : X.A.units + 1 < cLine) (hN : X.N[i]? = some x) (hv : Vis X.env.scope x) (he : SE X e f) (hg : SE X e2 g) (m : M2 X (.Name x p) "get" apos e e2 cpos := by exact ⟨rfl, rfl, rfl, rfl⟩) (hd : (x == ("__debug__" : Str)) = false := by decide) (hcd : (x == ("__classdict__" : Str)) = false := by decide) :
    SE X (.Call (.Attribute (.Name x p) "get" apos) [e, e2] [] cpos) (dDGet2 i f g) := ⟨pe_imp (pe_dget2 hu (pe_var hN hv hd hcd) he.pe hg.pe m) fun σ H Q q => by
  obtain ⟨G, F, st, sv, st', R, e, k⟩ := q
  unfold dDGet2 at e
  split at e
  · rename_i p0 h0
    obtain ⟨ks0, ds0⟩ := p0
    obtain ⟨a0, kvs0, hv0, ha0, _, _⟩ := dictAt_of R h0
    split at e
    · rename_i d s1 e1
      split at e
      · rename_i dd s2 e2
        split at e
        · rename_i kk ks ds hk hd'
          refine ⟨_, hv0, a0, rfl, .inl ⟨kvs0, .inl ha0⟩, G, F, st, _, _, R, e1, fun z F1 H1 g1 R1 r1 _ => ⟨G, F1, s1, _, s2, R1, e2, fun z2 F2 H2 g2 R2 r2 _ => ?_⟩⟩
          cases r1 with | imm r1 => ?_
          cases r2 with | imm r2 => ?_
          obtain ⟨a, kvs, hv, ha, hn, rr⟩ := dictAt_of R2 hd'
          rw [hv0] at hv
          cases hv
          have hz := keyD_rd hk r1
          subst hz hn
          have h := valD_rd (j := kk) _ rr rfl
          refine ⟨valV kvs kk, DGet.k ha, ?_⟩
          split at e
          · rename_i y hy
            cases e
            rw [hy] at h
            obtain ⟨v, h1, h2⟩ := h
            rw [h1]
            exact k _ F2 H2 (g1.trans g2) R2 (.imm h2) Sep.imm
          · rename_i hy
            cases e
            rw [hy] at h
            rw [h]
            exact k _ F2 H2 (g1.trans g2) R2 (.imm r2) Sep.imm
        · cases e
      · cases e
    · cases e
  · cases e⟩
/-- name[g] = f -/
def dDPut (i : Nat) (f g : DE) : DS := fun st => match st[i]? with
  | some (some _) => (match f st with
    | none => none
    | some (x, s1) => match g s1 with
      | some (.imm d, s2) => (match keyD d, s2[i]? with
        | some k, some (some (.dK ks ds)) => if ks.length < 100000 then some (.nx, s2.set i (some (.dK (putKs ks k) (putDs ks ds k x.frz)))) else none
        | _, _ => none)
      | _ => none)
  | _ => none
theorem ss_dput {i : Nat} {x : Str} {b : Expr} {p p2 : Pos} (hu : X.A.units + 1 < cLine) (hN : X.N[i]? = some x) (hv : Vis X.env.scope x) (he : SE X e f) (hb : SE X b g) (hd : (x == ("__debug__" : Str)) = false := by decide) (hcd : (x == ("__classdict__" : Str)) = false := by decide)
    (hs : swapsWith e (some (.Subscript (.Name x p) b p2)) pos.line X.env = pure false := by rfl) :
    SS X P (.Assign [.Subscript (.Name x p) b p2] e pos) (dDPut i f g) := ⟨ps_imp (ps_dput hu (pe_var hN hv hd hcd) hb.pe he.pf hs) fun D σ H q => by
  obtain ⟨G, F, st, o, st', R, e, k⟩ := q
  unfold dDPut at e
  split at e
  · rename_i y0 h0
    split at e
    · cases e
    rename_i x1 s1 e1
    split at e
    · rename_i d s2 e2
      split at e
      · rename_i kk ks ds hk h2
        split at e
        · rename_i hl
          cases e
          obtain ⟨v0, hv0, _⟩ := R.at_ i _ h0
          refine ⟨G, F, st, x1, s1, R, e1, fun v F1 H1 g1 R1 r1 => ⟨v0, hv0, G, F1, s1, _, s2, R1, e2, fun u F2 H2 g2 R2 r2 _ => ?_⟩⟩
          obtain ⟨v0', hv0', rs⟩ := R2.at_ i _ h2
          rw [hv0] at hv0'
          cases hv0'
          cases r2 with | imm r2 => ?_
          cases rs with
          | @dK a kvs _ _ ga fa ha hn ra =>
            have hz := keyD_rd hk r2
            subst hz hn
            refine ⟨a, _, rfl, DPut.k ha ?_, k F2 _ σ (g1.trans g2) (R2.write h2 rfl hv0 ga fa (.dK ga fa upd_same (putK_ks v kk kvs) (putK_ds kk (r1.mono g2.1) ra))) Keeps.refl⟩
            rw [List.length_map] at hl
            have : (100000 : Nat) ≤ sizeLine := by decide
            omega
        · cases e
      · cases e
    · cases e
  · cases e⟩
end
end Sm
/-! h(lambda: e) by the facts of h; which class catches. -/
namespace Sm
open PySem L2 Evl PyProof.Rows LamX
theorem ri_noE {X : Cx} {E : XK} {tg iter : Expr} : RI X E tg iter xNo := ⟨⟨fun pins s σ H Q I q => (tR_no q).elim⟩⟩
theorem exm_own {K : PySem.W.Frag} {C CB : Addr} (hB : PySem.W.subIn K (.ref CB) (.type "BaseException") = some true) (hd : PySem.W.hasDictIn K CB = true) (ht : PySem.W.typeIn K (.ref CB) = some (.type "type")) (hs : PySem.W.subIn K (.ref C) (.ref CB) = some true) : PySem.W.exmOne K (.ref C) (.ref CB) = some true := by
  unfold PySem.W.exmOne
  rw [if_pos (by rw [hB]; rfl)]
  obtain ⟨cd, hc, _⟩ := PySem.W.any_some hd
  show (if ((PySem.W.clsIn K CB).isSome && PySem.W.typeIn K (.ref CB) == some (.type "type")) = true then PySem.W.subIn K (.ref C) (.ref CB) else none) = some true
  rw [if_pos (by rw [hc, ht]; rfl)]
  exact hs
section
variable {X : Cx}
theorem se_lamF {hf : Option D → Option SV} {is : List Nat} {b : DE} {r : DX} {x a : Str} {g c P : Addr} {fd : FuncData} {st : Stmt} {k : Nat} {Ng : List Str}
    {params : Arguments} {body : Expr} {scope : Scope} {p lpos pos : Pos} (hg : Gl X x) (hm : X.mg x = some (.ref g)) (hk : PySem.W.keepIn X.K (.ref g) = true)
    (F : Fun X.K x x st g fd) (hb : L2.Binds X.K fd [a] []) (Sg : FnScope Ng [a] (defScope st)) (hNg : Ng[0]? = some a) (hva : Vis (defScope st) a)
    (hG : ∀ cdv : Value, GivesTo X Ng x (defScope st) g cdv (defBody st) a (X.env.qual ++ "<lambda>") (TTk X.K X.mg hf))
    (TB : TabB X.base X.mg c P) (hcode : X.env.code = .ref c) (hmT : (P, X.env.qual ++ "<lambda>") ∈ lamT X.K X.mg) (hu : ∀ p ∈ lamT X.K X.mg, p.1 = P → p.2 = X.env.qual ++ "<lambda>") (hr : Room (k + 2) X.A) (L : LamS X.env.scope scope) (hdef : defaultsOf params X.env = ([], []))
    (hbind : ∀ (q : Str) (cl : List (Str × Addr)) (pm cv ctv : Value), bindArgs (PySem.W.kla_fn "<lambda>" q params body scope cl pm cv ctv) ⟨[], []⟩ = pure [])
    (hv : ∀ (A : Around) (outer : List Env) (s : Shared) (H : Hp) (E : XK) (f c' : Addr), Room k (A.deeper (lamEnv X scope s.heap.objs.size f c')) → SE (lamCx X A outer s H E scope f c') body b)
    (hx : ∀ (A : Around) (outer : List Env) (s : Shared) (H : Hp) (E : XK) (f c' : Addr), Room k (A.deeper (lamEnv X scope s.heap.objs.size f c')) → TkX (lamCx X A outer s H E scope f c') E → RE (lamCx X A outer s H E scope f c') E body r)
    (hdb : (x == ("__debug__" : Str)) = false := by decide) (hd : (a == ("__debug__" : Str)) = false := by decide) (hcd : (a == ("__classdict__" : Str)) = false := by decide) :
    SE X (.Call (.Name x p) [.Lambda params body scope lpos] [] pos) (dLam hf is b r) := by
  obtain ⟨oc, od, kV, doc, pm, an, cdv, ct, osl, hfd, lk, hcd'⟩ := F.ex
  subst hfd
  exact se_lam hg hm hk lk hcd' hb Sg hNg hva (hG cdv) TB hcode hmT hu hr L hdef hbind hv hx hdb hd hcd
end
/-! ### plain evaluation -/
section
variable (st : S)
@[simp ↓] theorem ap_NewK : dNewK st = some (.dK [] [], st) := (rfl)
@[simp ↓] theorem ap_DIn (neg : Bool) (i : Nat) (f : DE) : dDIn neg i f st = match f st with
  | some (.imm d, s1) => (match keyD d, dictAt s1 i with
    | some k, some (ks, ds) => some (.imm (.bl (if neg then !(valD ks ds k).isSome else (valD ks ds k).isSome)), s1)
    | _, _ => none)
  | _ => none := (rfl)
@[simp ↓] theorem ap_DGet (i : Nat) (f : DE) : dDGet i f st = match st[i]? with
  | some (some _) => (match f st with
    | some (.imm d, s1) => (match keyD d, dictAt s1 i with
      | some k, some (ks, ds) => (match valD ks ds k with
        | some x => some (.imm x, s1)
        | none => none)
      | _, _ => none)
    | _ => none)
  | _ => none := (rfl)
@[simp ↓] theorem ap_DPut (i : Nat) (f g : DE) : dDPut i f g st = match st[i]? with
  | some (some _) => (match f st with
    | none => none
    | some (x, s1) => match g s1 with
      | some (.imm d, s2) => (match keyD d, s2[i]? with
        | some k, some (some (.dK ks ds)) => if ks.length < 100000 then some (.nx, s2.set i (some (.dK (putKs ks k) (putDs ks ds k x.frz)))) else none
        | _, _ => none)
      | _ => none)
  | _ => none := (rfl)
end
@[simp] theorem keyD_i (i : Int) : keyD (.int i) = some (.inl i) := (rfl)
end Sm
/-! Numbers on a line, laid round a ring. -/
namespace Sm
open PySem L2 Evl PyProof.Rows
theorem sm_split (f : Int → Int) (p : Nat) : ∀ L : Nat, sm f (p + L) = sm f p + sm (fun i => f (p + i)) L
  | 0 => by simp [sm]
  | L + 1 => by
    rw [← Nat.add_assoc]
    show sm f (p + L) + f ((p + L : Nat) : Int) = _
    rw [sm_split f p L]
    show _ = sm f p + (sm (fun i => f (p + i)) L + f (p + L))
    push_cast
    omega
theorem sm_sub (f : Int → Int) (n : Nat) : sm (fun i => -1 * f i) n = -1 * sm f n := sm_mul (-1) f n
theorem mod_iff (n i j k : Int) : (j - i) % n = k % n ↔ j % n = (i + k) % n := by
  rw [Int.emod_eq_emod_iff_emod_sub_eq_zero, Int.emod_eq_emod_iff_emod_sub_eq_zero, Int.sub_sub]
theorem mod_neg (n a b c : Int) : (c - a) % n = (c - b) % n ↔ a % n = b % n := by
  rw [Int.emod_eq_emod_iff_emod_sub_eq_zero, Int.emod_eq_emod_iff_emod_sub_eq_zero, show c - a - (c - b) = -(a - b) by omega]
  constructor
  · intro h
    have := Int.dvd_of_emod_eq_zero h
    exact Int.emod_eq_zero_of_dvd (Int.dvd_neg.mp this)
  · intro h
    have := Int.dvd_of_emod_eq_zero h
    exact Int.emod_eq_zero_of_dvd (Int.dvd_neg.mpr this)
theorem sm_nil {f : Int → Int} {n : Nat} (h : ∀ i : Nat, i < n → f i = 0) : sm f n = 0 := (sm_congr (g := fun _ => 0) h).trans (sm_zero n)
section
variable {n : Nat} {f g : Int → Int}
/-- what is laid at beat k -/
def foldF (n L : Nat) (g : Int → Int) (k : Int) : Int := sm (fun i => if i % (n : Int) = k % (n : Int) then g i else 0) L
theorem Per.foldF (n L : Nat) (g : Int → Int) : Per n (foldF n L g) := fun k => by
  unfold Sm.foldF
  rw [Int.add_emod_right]
theorem sm_at (hn : 0 < n) (i : Int) (h : Int → Int) (p : Per n h) : sm (fun b => if i % (n : Int) = b % (n : Int) then h b else 0) n = h i := by
  have h0 := Int.emod_nonneg i (b := (n : Int)) (by omega)
  have h1 := Int.emod_lt_of_pos i (b := (n : Int)) (by omega)
  have e := sm_one h (i % (n : Int)).toNat n (by omega)
  rw [Int.toNat_of_nonneg h0, per_mod p hn] at e
  rw [← e]
  exact sm_congr fun b hb => by
    rw [Int.emod_eq_of_lt (a := (b : Int)) (by omega) (by omega)]
    by_cases c : i % (n : Int) = b
    · rw [if_pos c, if_pos c.symm]
    · rw [if_neg c, if_neg fun z => c z.symm]
theorem sm_foldF (hn : 0 < n) (L : Nat) : sm (foldF n L g) n = sm g L := by
  unfold foldF
  rw [sm_swap (fun b i => if i % (n : Int) = b % (n : Int) then g i else 0)]
  exact sm_congr fun i _ => sm_at hn i (fun _ => g i) fun _ => rfl
theorem cr_foldF (hn : 0 < n) (L : Nat) (k : Int) : cr n (foldF n L g) (foldF n L g) k = sm (fun i => sm (fun j => if (j - i) % (n : Int) = k % (n : Int) then g i * g j else 0) L) L := by
  rw [cr_eq (Per.foldF n L g) (Per.foldF n L g)]
  have e1 : sm (fun b => foldF n L g b * foldF n L g (b + k)) n = sm (fun b => sm (fun i => if i % (n : Int) = b % (n : Int) then g i * foldF n L g (b + k) else 0) L) n := sm_congr fun b _ => by
    show sm _ L * _ = _
    rw [← sm_mul']
    exact sm_congr fun i _ => by
      show (if _ then _ else _) * _ = _
      split
      · rfl
      · exact Int.zero_mul _
  rw [e1, sm_swap (fun b i => if i % (n : Int) = b % (n : Int) then g i * foldF n L g (b + k) else 0)]
  refine sm_congr fun i _ => ?_
  rw [sm_at hn i (fun b => g i * foldF n L g (b + k)) fun b => by show _ * foldF n L g (b + n + k) = _; rw [show b + (n : Int) + k = b + k + n by omega, Per.foldF]]
  show g i * sm _ L = _
  rw [← sm_mul]
  exact sm_congr fun j _ => by
    by_cases c : ((j : Int) - i) % (n : Int) = k % (n : Int)
    · rw [if_pos c, if_pos ((mod_iff _ _ _ _).mp c)]
    · rw [if_neg c, if_neg fun z => c ((mod_iff _ _ _ _).mpr z), Int.mul_zero]
/-- a square's sum, by its slants -/
theorem slants (H : Int → Int → Int) : ∀ L : Nat, sm (fun a => sm (fun b => H a b) L) L = sm (fun d => sm (fun i => H i (i + d)) (L - d.toNat)) L + sm (fun d => if 0 < d then sm (fun i => H (i + d) i) (L - d.toNat) else 0) L
  | 0 => rfl
  | L + 1 => by
    have ih := slants H L
    have l1 : sm (fun a => sm (fun b => H a b) (L + 1)) (L + 1) = sm (fun a => sm (fun b => H a b) L) L + sm (fun a => H a L) L + (sm (fun b => H L b) L + H L L) := by
      show sm (fun a => sm (fun b => H a b) L + H a L) L + _ = _
      rw [sm_add (fun a => sm (fun b => H a b) L) (fun a => H a L)]
      rfl
    have sl : ∀ F : Int → Int → Int, ∀ d : Nat, d < L → sm (F d) (L + 1 - (d : Int).toNat) = sm (F d) (L - (d : Int).toNat) + F d ((L : Int) - d) := fun F d hd => by
      rw [Int.toNat_natCast, show L + 1 - d = (L - d) + 1 by omega]
      show sm (F d) (L - d) + F d ((L - d : Nat) : Int) = _
      congr 2
      omega
    have t1 : sm (fun d => sm (fun i => H i (i + d)) (L + 1 - d.toNat)) (L + 1) = sm (fun d => sm (fun i => H i (i + d)) (L - d.toNat)) L + sm (fun a => H a L) (L + 1) := by
      show sm (fun d => sm (fun i => H i (i + d)) (L + 1 - d.toNat)) L + sm (fun i => H i (i + L)) (L + 1 - ((L : Nat) : Int).toNat) = _
      rw [sm_congr (g := fun d => sm (fun i => H i (i + d)) (L - d.toNat) + H (L - d) L) fun d hd => by
        rw [sl (fun d i => H i (i + d)) d hd, show (L : Int) - d + d = L by omega], sm_add, Int.toNat_natCast, show L + 1 - L = 1 by omega, ← sm_rev (fun a => H a L) (L + 1)]
      show _ + _ + (0 + H 0 (0 + L)) = _ + (sm (fun i => H (((L + 1 : Nat) : Int) - 1 - i) L) L + H (((L + 1 : Nat) : Int) - 1 - L) L)
      rw [sm_congr (f := fun i => H (((L + 1 : Nat) : Int) - 1 - i) L) (g := fun d => H (L - d) L) fun i _ => by congr 1; push_cast; omega]
      rw [show ((L + 1 : Nat) : Int) - 1 - L = 0 by push_cast; omega, show (0 : Int) + L = L by omega]
      omega
    have t2 : sm (fun d => if 0 < d then sm (fun i => H (i + d) i) (L + 1 - d.toNat) else 0) (L + 1) = sm (fun d => if 0 < d then sm (fun i => H (i + d) i) (L - d.toNat) else 0) L + sm (fun b => H L b) L := by
      have e0 : sm (fun d => if 0 < d then sm (fun i => H (i + d) i) (L + 1 - d.toNat) else 0) (L + 1) = sm (fun d => if 0 < d then sm (fun i => H (i + d) i) (L - d.toNat) else 0) L + sm (fun d => if 0 < d then H L (L - d) else 0) (L + 1) := by
        show sm (fun d => if 0 < d then sm (fun i => H (i + d) i) (L + 1 - d.toNat) else 0) L + (if 0 < ((L : Nat) : Int) then sm (fun i => H (i + L) i) (L + 1 - ((L : Nat) : Int).toNat) else 0) = _ + (sm (fun d => if 0 < d then H L (L - d) else 0) L + (if 0 < ((L : Nat) : Int) then H L (L - ((L : Nat) : Int)) else 0))
        rw [sm_congr (g := fun d => (if 0 < d then sm (fun i => H (i + d) i) (L - d.toNat) else 0) + if 0 < d then H L (L - d) else 0) fun d hd => by
          by_cases c : 0 < (d : Int)
          · rw [if_pos c, if_pos c, if_pos c, sl (fun d i => H (i + d) i) d hd, show (L : Int) - d + d = L by omega]
          · rw [if_neg c, if_neg c, if_neg c]; rfl, sm_add]
        by_cases c : 0 < ((L : Nat) : Int)
        · rw [if_pos c, if_pos c, Int.toNat_natCast, show L + 1 - L = 1 by omega, Int.sub_self]
          show _ + _ + (0 + H (0 + L) 0) = _
          rw [Int.zero_add, Int.zero_add]
          omega
        · rw [if_neg c, if_neg c]; omega
      rw [e0, sm_first, if_neg (by omega), Int.zero_add, ← sm_rev (fun b => H L b) L]
      congr 1
      exact sm_congr fun i hi => by rw [if_pos (by omega)]; congr 1; omega
    rw [l1, t1, t2, ih]
    show _ = _ + (sm (fun a => H a L) L + H L L) + _
    omega
/-- spans on the line; told spans laid round a ring -/
def lspF (L : Nat) (g : Int → Int) (d : Int) : Int := sm (fun i => g i * g (i + d)) (L - d.toNat)
def rdF (n L : Nat) (t : Int → Int) (k : Int) : Int := sm (fun d => if d % (n : Int) = k % (n : Int) then t d else 0) L + sm (fun d => if 0 < d ∧ -d % (n : Int) = k % (n : Int) then t d else 0) L
theorem cr_line (hn : 0 < n) (L : Nat) (k : Int) : cr n (foldF n L g) (foldF n L g) k = rdF n L (lspF L g) k := by
  rw [cr_foldF hn, slants (fun i j => if (j - i) % (n : Int) = k % (n : Int) then g i * g j else 0)]
  unfold rdF
  congr 1
  · refine sm_congr fun d _ => ?_
    by_cases c : (d : Int) % (n : Int) = k % (n : Int)
    · rw [if_pos c]
      exact sm_congr fun i _ => by rw [show (i : Int) + d - i = d by omega, if_pos c]
    · rw [if_neg c]
      exact sm_nil fun i _ => by rw [show (i : Int) + d - i = d by omega, if_neg c]
  · refine sm_congr fun d _ => ?_
    by_cases c0 : 0 < (d : Int)
    · rw [if_pos c0]
      by_cases c : -(d : Int) % (n : Int) = k % (n : Int)
      · rw [if_pos ⟨c0, c⟩]
        exact sm_congr fun i _ => by rw [show (i : Int) - (i + d) = -d by omega, if_pos c, Int.mul_comm]
      · rw [if_neg fun z => c z.2]
        exact sm_nil fun i _ => by rw [show (i : Int) - (i + d) = -d by omega, if_neg c]
    · rw [if_neg c0, if_neg fun z => c0 z.1]
/-! ### the line turned about, taken times -1, begun later -/
theorem foldF_rev (L : Nat) (k : Int) : foldF n L (fun i => g ((L : Int) - 1 - i)) k = foldF n L g ((L : Int) - 1 - k) := by
  unfold foldF
  rw [← sm_rev (fun i => if i % (n : Int) = ((L : Int) - 1 - k) % (n : Int) then g i else 0) L]
  exact sm_congr fun i _ => by
    by_cases c : (i : Int) % (n : Int) = k % (n : Int)
    · rw [if_pos c, if_pos ((mod_neg _ _ _ _).mpr c)]
    · rw [if_neg c, if_neg fun z => c ((mod_neg _ _ _ _).mp z)]
theorem cr_rev (L : Nat) : cr n (foldF n L fun i => g ((L : Int) - 1 - i)) (foldF n L fun i => g ((L : Int) - 1 - i)) = cr n (foldF n L g) (foldF n L g) := by
  have e : (foldF n L fun i => g ((L : Int) - 1 - i)) = fun k => ng (foldF n L g) (k - ((L : Int) - 1)) := funext fun k => by
    rw [foldF_rev]
    show _ = foldF n L g (-(k - ((L : Int) - 1)))
    congr 1
    omega
  rw [e, cr_turn (Per.foldF n L g).ng, cr_ng (Per.foldF n L g)]
theorem foldF_mul (c : Int) (L : Nat) : (foldF n L fun i => c * g i) = fun k => c * foldF n L g k := funext fun k => by
  unfold foldF
  rw [← sm_mul]
  exact sm_congr fun i _ => by split <;> simp
theorem cr_negF (L : Nat) : cr n (foldF n L fun i => -g i) (foldF n L fun i => -g i) = cr n (foldF n L g) (foldF n L g) := by
  have e : (fun i => -g i) = fun i => -1 * g i := funext fun i => by omega
  rw [e, foldF_mul]
  exact funext fun k => by rw [cr_mul (Per.foldF n L g)]; omega
theorem foldF_later (p L : Nat) (k : Int) : foldF n (p + L) (fun i => if i < p then 0 else g (i - p)) k = foldF n L g (k - p) := by
  unfold foldF
  rw [sm_split, show sm (fun i => if i % (n : Int) = k % (n : Int) then if i < (p : Int) then 0 else g (i - p) else 0) p = 0 by
    exact sm_nil fun i hi => by rw [if_pos (by omega : (i : Int) < p)]; split <;> rfl, Int.zero_add]
  exact sm_congr fun i _ => by
    show (if _ then (if (p : Int) + i < p then 0 else g ((p : Int) + i - p)) else 0) = _
    rw [if_neg (by omega : ¬ ((p : Int) + i < p)), show (p : Int) + i - p = i by omega]
    by_cases c : (i : Int) % (n : Int) = (k - p) % (n : Int)
    · rw [if_pos c, if_pos ((mod_iff (n : Int) p k i).mp c.symm).symm]
    · rw [if_neg c, if_neg fun z => c ((mod_iff (n : Int) p k i).mpr z.symm).symm]
theorem cr_later (p L : Nat) : cr n (foldF n (p + L) fun i => if i < p then 0 else g (i - p)) (foldF n (p + L) fun i => if i < p then 0 else g (i - p)) = cr n (foldF n L g) (foldF n L g) := by
  have e : (foldF n (p + L) fun i => if i < p then 0 else g (i - p)) = fun k => foldF n L g (k - p) := funext fun k => foldF_later p L k
  rw [e, cr_turn (Per.foldF n L g)]
/-- on a long ring nothing meets -/
theorem rdF_long {L : Nat} {t : Int → Int} (h : 2 * L < n) (k : Nat) (hk : k < L) : rdF n L t k = t k := by
  unfold rdF
  have e1 : sm (fun d => if d % (n : Int) = (k : Int) % (n : Int) then t d else 0) L = t k := by
    rw [← sm_one t k L hk]
    exact sm_congr fun d hd => by
      rw [Int.emod_eq_of_lt (a := (d : Int)) (by omega) (by omega), Int.emod_eq_of_lt (a := (k : Int)) (by omega) (by omega)]
  have e2 : sm (fun d => if 0 < d ∧ -d % (n : Int) = (k : Int) % (n : Int) then t d else 0) L = 0 := by
    exact sm_nil fun d hd => by
      rw [if_neg]
      rintro ⟨h0, h1⟩
      rw [Int.emod_eq_of_lt (a := (k : Int)) (by omega) (by omega), show -(d : Int) = ((n : Int) - d) + (n : Int) * (-1) by omega, Int.add_mul_emod_self_left, Int.emod_eq_of_lt (by omega) (by omega)] at h1
      omega
  rw [e1, e2, Int.add_zero]
/-! ### a list as a line -/
def lnF (xs : List Int) (i : Int) : Int := if i < 0 then 0 else xs.getD i.toNat 0
theorem tab_lnF (xs : List Int) : tab xs.length (lnF xs) = xs := by
  apply List.ext_getElem?
  intro i
  by_cases h : i < xs.length
  · rw [tab_get h, List.getElem?_eq_getElem h]
    unfold lnF
    rw [if_neg (by omega), Int.toNat_natCast, List.getD_eq_getElem?_getD, List.getElem?_eq_getElem h]
    rfl
  · rw [List.getElem?_eq_none (by rw [tab_len]; omega), List.getElem?_eq_none (by omega)]
theorem tab_rev' (L : Nat) (g : Int → Int) : (tab L g).reverse = tab L fun i => g ((L : Int) - 1 - i) := by
  apply List.ext_getElem?
  intro i
  by_cases h : i < L
  · rw [List.getElem?_reverse (by rw [tab_len]; exact h), tab_len, tab_get h, tab_get (by omega)]
    congr 2
    omega
  · rw [List.getElem?_eq_none (by rw [List.length_reverse, tab_len]; omega), List.getElem?_eq_none (by rw [tab_len]; omega)]
theorem tab_later (p L : Nat) (g : Int → Int) : List.replicate p 0 ++ tab L g = tab (p + L) fun i => if i < p then 0 else g (i - p) := by
  apply List.ext_getElem?
  intro i
  rw [List.getElem?_append, List.length_replicate]
  by_cases h : i < p
  · rw [if_pos h, tab_get (by omega), if_pos (by omega), List.getElem?_replicate, if_pos h]
  · rw [if_neg h]
    by_cases h2 : i < p + L
    · rw [tab_get h2, tab_get (by omega), if_neg (by omega)]
      congr 2
      omega
    · rw [List.getElem?_eq_none (by rw [tab_len]; omega), List.getElem?_eq_none (by rw [tab_len]; omega)]
end
end Sm
/-! list(range(..)), any(xs), sorted(set(xs)) of whole numbers. -/
namespace Sm
noncomputable section
open PySem PySem.Spec L2 Evl PyProof.Rows
/-! ### the members of a list, ascending, each once -/
def uniqI : List Int → List Int
  | [] => []
  | x :: xs => x :: (uniqI xs).filter (fun y => decide (y ≠ x))
theorem mem_uniqI {k : Int} : ∀ {xs : List Int}, k ∈ uniqI xs ↔ k ∈ xs
  | [] => Iff.rfl
  | x :: xs => by
    simp only [uniqI, List.mem_cons, List.mem_filter, mem_uniqI (xs := xs), decide_eq_true_eq]
    constructor
    · rintro (h | h)
      · exact .inl h
      · exact .inr h.1
    · rintro (h | h)
      · exact .inl h
      · by_cases e : k = x
        · exact .inl e
        · exact .inr ⟨h, e⟩
theorem nodup_uniqI : ∀ xs : List Int, (uniqI xs).Nodup
  | [] => List.nodup_nil
  | x :: xs => by
    refine List.nodup_cons.mpr ⟨fun h => ?_, (nodup_uniqI xs).filter _⟩
    simpa using (List.mem_filter.mp h).2
def sset (xs : List Int) : List Int := sortI (uniqI xs)
theorem mem_sset {k : Int} {xs : List Int} : k ∈ sset xs ↔ k ∈ xs := by rw [sset, (sortI_perm _).mem_iff, mem_uniqI]
theorem nodup_sset (xs : List Int) : (sset xs).Nodup := (sortI_perm _).nodup_iff.mpr (nodup_uniqI xs)
theorem lt_of_le_nd : ∀ l : List Int, l.Pairwise (· ≤ ·) → l.Nodup → l.Pairwise (· < ·)
  | [], _, _ => List.Pairwise.nil
  | x :: l, h, d => by
    obtain ⟨h1, h2⟩ := List.pairwise_cons.mp h
    obtain ⟨d1, d2⟩ := List.nodup_cons.mp d
    refine List.pairwise_cons.mpr ⟨fun y hy => ?_, lt_of_le_nd l h2 d2⟩
    have a := h1 y hy
    have b : x ≠ y := fun z => d1 (z ▸ hy)
    omega
theorem sset_lt (xs : List Int) : (sset xs).Pairwise (· < ·) := lt_of_le_nd _ (sortI_sorted _) (nodup_sset xs)
theorem asc_uniq : ∀ {l m : List Int}, l.Pairwise (· < ·) → m.Pairwise (· < ·) → (∀ k, k ∈ l ↔ k ∈ m) → l = m
  | [], [], _, _, _ => rfl
  | [], y :: m, _, _, h => absurd ((h y).mpr List.mem_cons_self) List.not_mem_nil
  | x :: l, [], _, _, h => absurd ((h x).mp List.mem_cons_self) List.not_mem_nil
  | x :: l, y :: m, hl, hm, h => by
    obtain ⟨l1, l2⟩ := List.pairwise_cons.mp hl
    obtain ⟨m1, m2⟩ := List.pairwise_cons.mp hm
    have e : x = y := by
      rcases List.mem_cons.mp ((h x).mp List.mem_cons_self) with e | hx
      · exact e
      · rcases List.mem_cons.mp ((h y).mpr List.mem_cons_self) with e | hy
        · exact e.symm
        · have := l1 y hy; have := m1 x hx; omega
    subst e
    rw [asc_uniq l2 m2 fun k => ?_]
    constructor
    · intro hk
      rcases List.mem_cons.mp ((h k).mp (List.mem_cons_of_mem _ hk)) with e | hk'
      · exact absurd (l1 k hk) (by omega)
      · exact hk'
    · intro hk
      rcases List.mem_cons.mp ((h k).mpr (List.mem_cons_of_mem _ hk)) with e | hk'
      · exact absurd (m1 k hk) (by omega)
      · exact hk'
theorem nd_len : ∀ {l m : List Int}, l.Nodup → (∀ k ∈ l, k ∈ m) → l.length ≤ m.length := by
  intro l m h1 h2
  induction l generalizing m with
  | nil => exact Nat.zero_le _
  | cons x l ih =>
    obtain ⟨d1, d2⟩ := List.nodup_cons.mp h1
    have hx := h2 x List.mem_cons_self
    have h3 : ∀ k ∈ l, k ∈ m.erase x := fun k hk => (List.mem_erase_of_ne (fun e : k = x => d1 (by rw [← e]; exact hk))).mpr (h2 k (List.mem_cons_of_mem _ hk))
    have := ih d2 h3
    rw [List.length_erase_of_mem hx] at this
    have := List.length_pos_of_mem hx
    simp only [List.length_cons]; omega
/-! ### the heap: set(xs) of a list of ints -/
section
variable {P : Program} {w : World} {A : Around} {E : Value → Shared → Prop} {s : Shared}
/-- an empty set, as it is laid -/
abbrev set0 (w : World) : Obj := { cls := .type "set", dict := none, data := .set #[] 0 (.fresh 0 0 (!w.params.followText "set-order")) }
theorem init_list {l : Addr} {items : Array Value} (ns : List Int) {R : Result → Shared → Prop} (hh : A.handled = none) (hl : s.heap.IsList l items) (hit : IntsAre items.toList ns) (hb : ns.length + 1 < scanBound)
    (h : ∀ (h' : Heap) (tk c : Nat), SetR w h' s.heap.objs.size (fun j => decide (j ∈ ns)) c → (∀ b o, s.heap.get? b = some o → h'.get? b = some o) → R (.ok (.ret .none)) { s with heap := h', toks := tk }) :
    wpAny (model P w) A.in1 (Builtin.«set.__init__» ⟨[.ref s.heap.objs.size, .ref l], []⟩)
      (fun fin s' => match fin with | .done f => R (.ok f) s' | .again c' => c'.quiet = true ∧ codeAny (model P w) A c' R s') (fun e s' => R (.error e) s') { s with heap := s.heap.push (set0 w) } := by
  have hisz : items.size = ns.length := by
    have q := IntsAre.length hit
    rw [Array.length_toList] at q
    exact q
  have hS : (s.heap.push (set0 w)).get? s.heap.objs.size = some (set0 w) := Heap.get?_push_size _ rfl
  have hT : Shared.TypeIs { s with heap := s.heap.push (set0 w) } (.ref s.heap.objs.size) "set" := ⟨_, hS, rfl⟩
  obtain ⟨ol, hol, hcl, nl, hdl⟩ := id hl
  have hlS : l < s.heap.objs.size := Heap.lt_size hol
  obtain ⟨ocls, odict, odata, oslots⟩ := ol
  simp only at hcl hdl
  subst hcl; subst hdl
  have hol' : (s.heap.push (set0 w)).get? l = some { cls := .type "list", dict := odict, data := .seq items nl, slots := oslots } := Heap.get?_push_of_some _ hol
  have hl1 : (s.heap.push (set0 w)).IsList l items := ⟨_, hol', rfl, nl, rfl⟩
  have hsls := PySem.F.sub_list_set
  have hslf := PySem.F.sub_list_frozenset
  have hne : (Value.type "list" == Value.type "dict") = false := by decide
  unfold Builtin.«set.__init__» noKeywords Builtin.Frozenset.updateFrom
  generalize hPI : pyIter = PI
  wp_walk
  subst hPI

  refine wpAny_pyIter_list hl1 ?_
  refine wpAny_bind (wpAny_runValue ?_)
  have hh3 : A.in1.in1.handled = none := by simp [hh]
  have hneI : l ≠ (s.heap.push (set0 w)).objs.size := by
    rw [Heap.size_push]; exact Nat.ne_of_lt (Nat.lt_succ_of_lt hlS)
  have hSf : s.heap.objs.size ∉ [(s.heap.push (set0 w)).objs.size, l] := by
    rw [Heap.size_push]; simp only [List.mem_cons, List.mem_singleton, List.not_mem_nil, or_false, not_or]
    exact ⟨Nat.ne_of_lt (Nat.lt_succ_self _), Nat.ne_of_gt hlS⟩
  have hval : ∀ (i : Nat) (v : Value), items[i]? = some v → ∃ k t, ns[i]? = some k ∧ v = .int k t := fun i v hv => by
    have hi : i < ns.length := by rw [← hisz]; exact (Array.getElem?_eq_some_iff.mp hv).1
    obtain ⟨t, e⟩ := PyProof.Rows.IntsAre.int_at hit i v (by rw [Array.getElem?_toList]; exact hv)
    refine ⟨ns[i], t, List.getElem?_eq_getElem hi, ?_⟩
    rw [e, List.getD_eq_getElem?_getD, List.getElem?_eq_getElem hi] <;> rfl
  refine set_update_ints ((Walks.list hh3 _ l hneI items).toS) s.heap.objs.size
    hSf ns hisz hb hval (items.size - 0) 0 { s with heap := (s.heap.push (set0 w)).push { cls := .type "list_iterator", data := .fields #[.ref l, .int 0 0] } } (by omega) (Nat.zero_le _)
    ⟨⟨_, Heap.get?_push_size _ rfl, rfl, rfl⟩, (hl1.push _)⟩ ?hS0 ?hR
  case hS0 =>
    have hget : ((s.heap.push (set0 w)).push { cls := .type "list_iterator", data := .fields #[.ref l, .int 0 0] }).get? s.heap.objs.size = some (set0 w) := Heap.get?_push_of_some _ hS
    exact ⟨0, Nat.le_refl 0, setR_new_at hget⟩
  intro s' c' hm hc' hS'
  obtain ⟨h', g2, d', tk', os'⟩ := s'
  have eg : g2 = s.gens := hm.gens
  have ed : d' = s.drawn := hm.drawn
  have eo : os' = s.os := hm.os
  subst eg; subst ed; subst eo
  show wpAny _ _ _ _ _ _
  refine wpAny_pure ?_
  show wpAny _ _ (ret Value.none) _ _ _
  refine wpAny_pure (h h' tk' c' hS' fun b o e => ?_)
  have hb0 : b < s.heap.objs.size := Heap.lt_size e
  have hb1 : b ≠ s.heap.objs.size := Nat.ne_of_lt hb0
  have hb2 : b ≠ (s.heap.push (set0 w)).objs.size := by
    rw [Heap.size_push]; exact Nat.ne_of_lt (Nat.lt_succ_of_lt hb0)
  exact hm.heap b o (by simp only [List.mem_cons, List.mem_singleton, List.not_mem_nil, or_false, not_or]; exact ⟨hb1, hb2⟩) (Heap.get?_push_of_some _ (Heap.get?_push_of_some _ e))
theorem call_setI {l : Addr} {items : Array Value} (ns : List Int) {Q : Value → Shared → Prop} (hh : A.handled = none) (hl : s.heap.IsList l items) (hit : IntsAre items.toList ns) (hb : ns.length + 1 < scanBound)
    (h : ∀ (h' : Heap) (tk c : Nat), SetR w h' s.heap.objs.size (fun j => decide (j ∈ ns)) c → (∀ b o, s.heap.get? b = some o → h'.get? b = some o) → Q (.ref s.heap.objs.size) { s with heap := h', toks := tk }) :
    wpAny (model P w) A (call (.type "set") [.ref l]) Q E s := by
  obtain ⟨c, tl, hmro⟩ := F.called_set.mro
  have hmade := F.called_set.made
  have hsub := F.called_set.sub
  refine wpAny_call (codeAny_of_tree ?_)
  show wpAny _ _ (callAny (.type "set") _) _ _ _
  refine wpAny_pure ⟨Code.quiet_builtin _ (by decide +kernel), codeAny_builtin F.entry_type_call ?_⟩
  rw [Around.under_plain (weight_type_call_type "set" [.ref l] []) rfl]
  have h1 := F.called_set.notType
  have h2 := F.called_set.canCreate
  have hct := F.typeCall_set_1 (.ref l)
  repeat (any_goals (first | assumption | wp_step))

  refine codeAny_mono (code_set_led1 (.ref l) (E := E) (Q₁ := fun obj s₁ => obj = .ref s.heap.objs.size ∧ s₁ = { s with heap := s.heap.push (set0 w) }) ⟨rfl, rfl⟩) fun r s₁ hr => ?_
  cases r with
  | error e => exact hr
  | ok fl =>
    cases fl with
    | ret obj =>
      obtain ⟨rfl, rfl⟩ := hr
      have hS : (s.heap.push (set0 w)).get? s.heap.objs.size = some (set0 w) := Heap.get?_push_size _ rfl
      have hT : Shared.TypeIs { s with heap := s.heap.push (set0 w) } (.ref s.heap.objs.size) "set" := ⟨_, hS, rfl⟩
      have hli := F.called_set.init.lookup
      have hbi := F.called_set.init.bind (.ref s.heap.objs.size)
      repeat (any_goals (first | assumption | wp_step))

      refine codeAny_mono (codeAny_call_builtin (R := wants (fun r s₂ => r = .none ∧ ∃ h' tk c, s₂ = { s with heap := h', toks := tk } ∧ SetR w h' s.heap.objs.size (fun j => decide (j ∈ ns)) c ∧
          (∀ b o, s.heap.get? b = some o → h'.get? b = some o)) E) F.called_set.init.plain F.entry_set_init (check_set_init_1 hT (init_list ns (A := A.in1) (by simp [hh]) hl hit hb fun h' tk c a b => ⟨rfl, h', tk, c, rfl, a, b⟩))) fun r₂ s₂ hr₂ => ?_
      cases r₂ with
      | error e => exact hr₂
      | ok fl₂ =>
        cases fl₂ with
        | ret r =>
          obtain ⟨rfl, h', tk, c', rfl, hS', hk'⟩ := hr₂
          repeat (any_goals (first | assumption | wp_step))
          exact h _ _ _ hS' hk'
        | _ => exact hr₂.elim
    | _ => exact hr.elim
end
section
variable {X : Cx}
theorem setR_count {w : World} {h : Heap} {a : Addr} {ns : List Int} {n : Nat} (R : SetR w h a (fun j => decide (j ∈ ns)) n) : n = (sset ns).length := by
  obtain ⟨o, es, ep, t, ho, hex, hd, g, nd, hm, hb, hf, hn, hr, hl⟩ := R
  have e1 : (es.toList.map keyOf).length = n := by rw [List.length_map, Array.length_toList]; exact hn
  rw [← e1]
  refine Nat.le_antisymm (nd_len nd fun k hk => ?_) (nd_len (nodup_sset ns) fun k hk => ?_)
  · rw [mem_sset]; simpa using (hm k).mpr hk
  · exact (hm k).mp (by simpa using mem_sset.mp hk)
def rSetLI (w : World) : List V → Hp → VK → Prop := fun vs H Q => ∃ (a : Addr) (ns : List Int), vs = [V.ref a] ∧ H a = some (.lst (ns.map V.int)) ∧ ns.length ≤ 1000 ∧
  ∀ p, H p = none → Q (.ref p) (upd H p (SetO w p (fun j => decide (j ∈ ns)) (sset ns).length))
theorem cr_setLI (hc : X.calm = true) : CallR X (.type "set") (rSetLI X.w) := by
  intro pins s σ H xs us Q I r h
  obtain ⟨a, ns, rfl, hs, hb, q⟩ := h
  obtain ⟨its, rv, hl, _⟩ := I.list (.inl (.inl hs))
  rw [Vals.ref1 r]
  refine call_setI ns (I.ok.hd hc) hl.isList (by simpa using rv.ints) (by unfold scanBound; omega) fun h' tk c S k => ?_
  rw [setR_count S] at S
  exact ⟨.ref _, upd H s.heap.objs.size (SetO X.w s.heap.objs.size (fun j => decide (j ∈ ns)) (sset ns).length), I.laid (t' := tk) (fun b u e => k b u e) (Nat.le_refl _) (setO_new S), rfl, q _ (I.hok.fresh (Nat.le_refl _))⟩
/-- sorted(set(xs)) -/
def dSortSet (f : DE) : DE := fun st => match f st with
  | none => none
  | some (x, s1) => match x.frz with
    | .lst xs => match D.ints xs with
      | none => none
      | some ns => if ns.length ≤ 1000 ∧ (sset ns).length < 64 then some (.lst (il (sset ns)), s1) else none
    | _ => none
theorem se_sortset {e : Expr} {f : DE} {p p2 pos pos2 : Pos} (hc : X.calm = true) (hg : Gl X "sorted") (hm : X.mg "sorted" = none) (hg2 : Gl X "set") (hm2 : X.mg "set" = none) (he : SE X e f) (hs : starEach [e] X.env = (false, eval e X.env) :: starEach [] X.env := by rfl) :
    SE X (.Call (.Name "sorted" p) [.Call (.Name "set" p2) [e] [] pos2] [] pos) (dSortSet f) := by
  have h1 : PE X (.Call (.Name "set" p2) [e] [] pos2) (tCB (rSetLI X.w) (tCons (tF X.K X.mg f) tNil)) := pe_callTy (cr_setLI hc) hg2 hm2 (by decide +kernel) (pa_cons he.pf pa_nil hs) (by decide) (by decide) hs
  have h2 : PE X (.Call (.Name "sorted" p) [.Call (.Name "set" p2) [e] [] pos2] [] pos) (tCB (rSortedSet X.w) (tCons (tCB (rSetLI X.w) (tCons (tF X.K X.mg f) tNil)) tNil)) := pe_callB (cr_sortedSet hc) hg hm bt_sorted (pa_cons h1 pa_nil)
  refine ⟨pe_imp h2 fun σ H Q q => ?_⟩
  obtain ⟨G, F, st, sv, st', R, e1, k⟩ := q
  unfold dSortSet at e1
  split at e1
  · cases e1
  rename_i x s1 ef
  split at e1
  · rename_i xs hx
    split at e1
    · cases e1
    rename_i ns en
    split at e1
    · rename_i hl
      cases e1
      refine ⟨G, F, st, x, _, R, ef, fun v F1 H1 g1 R1 r1 => ?_⟩
      rw [hx, D.ints_eq en] at r1
      obtain ⟨a, us, rfl, ha, ra⟩ := r1.lst_inv
      rw [ra.ints] at ha
      refine ⟨a, ns, rfl, R1.f _ _ ha, hl.1, fun p hp => ?_⟩
      refine ⟨p, _, _, rfl, upd_same, hl.2, fun ns' q a1 a2 a3 hq => ?_⟩
      have e2 : ns' = sset ns := asc_uniq a1 (sset_lt ns) fun k => by rw [a2, mem_sset]; simp
      rw [e2]
      exact Kn.newL (fun v F' H' g2 => k v F' H' (g1.trans g2)) (R1.laid hp) hq (rds_ints _)
    · cases e1
  · cases e1
end
@[simp ↓] theorem ap_SortSet (f : DE) (st : S) : dSortSet f st = match f st with
  | none => none
  | some (x, s1) => match x.frz with
    | .lst xs => match D.ints xs with
      | none => none
      | some ns => if ns.length ≤ 1000 ∧ (sset ns).length < 64 then some (.lst (il (sset ns)), s1) else none
    | _ => none := (rfl)
/-! ### any, list(range(..)) -/
def cAny : List D → Option SV
  | [.lst xs] => (D.bls xs).map fun ns => .imm (.bl (ns.any id))
  | _ => none
def lrg (i j : Int) (s1 : S) : Option (SV × S) := if -B20 ≤ i ∧ i ≤ B20 ∧ -B20 ≤ j ∧ j ≤ B20 then some (.lst (rangeD i (j - i).toNat), s1) else none
def dLRg1 (f : DE) : DE := fun st => match f st with
  | none => none
  | some (x, s1) => match x.frz with
    | .int j => lrg 0 j s1
    | _ => none
def dLRg2 (f g : DE) : DE := fun st => match f st with
  | none => none
  | some (x, s1) => match x.frz with
    | .int i => match g s1 with
      | none => none
      | some (y, s2) => match y.frz with
        | .int j => lrg i j s2
        | _ => none
    | _ => none
section
variable {X : Cx}
theorem cs_any (hc : X.calm = true) : CallS X (.builtin "any") cAny := by
  refine ⟨_, cr_any hc, ?_⟩
  intro G F H st σ ds vs sv Q R r e k
  unfold cAny at e
  split at e
  · rename_i xs
    cases q : D.bls xs with
    | none => rw [q] at e; cases e
    | some ns =>
      rw [q] at e
      cases e
      rw [D.bls_eq q] at r
      obtain ⟨v, rfl, h⟩ := r.one
      obtain ⟨a, us, rfl, ha, ra⟩ := h.lst_inv
      rw [ra.bls] at ha
      exact ⟨a, ns, rfl, .inl (.inl (R.f _ _ ha)), k.imm R (.bl _)⟩
  · cases e
theorem rds_range {K : PySem.W.Frag} {mg : Str → Option Value} {F : Hp} (i j : Int) : RDs K mg F (rangeD i (j - i).toNat) (rgV i j) := by
  have h : ∀ l : List Nat, RDs K mg F (l.map fun (k : Nat) => D.int (i + (k : Int))) (l.map fun k => V.int (i + (k : Nat))) := fun l => by
    induction l with
    | nil => exact .nil
    | cons a l ih => exact .cons (.int _) ih
  exact h _
theorem lrg_eq {i j : Int} {s1 : S} {r : SV × S} (h : lrg i j s1 = some r) : RgOk i j ∧ r = (.lst (rangeD i (j - i).toNat), s1) := by
  unfold lrg at h
  split at h
  · rename_i hb
    rw [B20_eq] at hb
    cases h
    exact ⟨⟨by omega, by omega, by omega, by omega, by omega⟩, rfl⟩
  · cases h
theorem se_lrg1 {a : Expr} {f : DE} {p p2 pos pos2 : Pos} (hc : X.calm = true) (hg : Gl X "list") (hm : X.mg "list" = none) (hg2 : Gl X "range") (hm2 : X.mg "range" = none) (ha : SE X a f)
    (na : starEach [a] X.env = (false, eval a X.env) :: starEach [] X.env := by rfl) (nb : starEach [.Call (.Name "range" p2) [a] [] pos2] X.env = (false, eval (.Call (.Name "range" p2) [a] [] pos2) X.env) :: starEach [] X.env := by rfl) :
    SE X (.Call (.Name "list" p) [.Call (.Name "range" p2) [a] [] pos2] [] pos) (dLRg1 f) := by
  refine ⟨pe_imp (pe_listRg hc hg hm (prg_1 hg2 hm2 ha.pf na) nb) fun σ H Q q => ?_⟩
  obtain ⟨G, F, st, sv, st', R, e1, k⟩ := q
  unfold dLRg1 at e1
  split at e1
  · cases e1
  rename_i x s1 ef
  split at e1
  · rename_i j hx
    obtain ⟨ok, e2⟩ := lrg_eq e1
    cases e2
    refine ⟨G, F, st, x, _, R, ef, fun v F1 H1 g1 R1 r1 => ?_⟩
    rw [hx] at r1
    cases r1
    exact ⟨j, rfl, ok, fun q hq => Kn.newL (fun v F' H' g2 => k v F' H' (g1.trans g2)) R1 hq (rds_range 0 j)⟩
  · cases e1
theorem se_lrg2 {a b : Expr} {f g : DE} {p p2 pos pos2 : Pos} (hc : X.calm = true) (hg : Gl X "list") (hm : X.mg "list" = none) (hg2 : Gl X "range") (hm2 : X.mg "range" = none) (ha : SE X a f) (hb : SE X b g)
    (na : starEach [a, b] X.env = (false, eval a X.env) :: starEach [b] X.env := by rfl) (nb : starEach [b] X.env = (false, eval b X.env) :: starEach [] X.env := by rfl) (hp : (backTo pos2 (starEach [b] X.env)).any (·.1) = false := by rfl)
    (nc : starEach [.Call (.Name "range" p2) [a, b] [] pos2] X.env = (false, eval (.Call (.Name "range" p2) [a, b] [] pos2) X.env) :: starEach [] X.env := by rfl) :
    SE X (.Call (.Name "list" p) [.Call (.Name "range" p2) [a, b] [] pos2] [] pos) (dLRg2 f g) := by
  refine ⟨pe_imp (pe_listRg hc hg hm (prg_2 hg2 hm2 ha.pf hb.pf na nb hp) nc) fun σ H Q q => ?_⟩
  obtain ⟨G, F, st, sv, st', R, e1, k⟩ := q
  unfold dLRg2 at e1
  split at e1
  · cases e1
  rename_i x s1 ef
  split at e1
  · rename_i i hx
    split at e1
    · cases e1
    rename_i y s2 eg
    split at e1
    · rename_i j hy
      obtain ⟨ok, e2⟩ := lrg_eq e1
      cases e2
      refine ⟨G, F, st, x, _, R, ef, fun v F1 H1 g1 R1 r1 => ⟨G, F1, s1, y, _, R1, eg, fun v2 F2 H2 g2 R2 r2 => ?_⟩⟩
      rw [hx] at r1
      rw [hy] at r2
      cases r1
      cases r2
      exact ⟨i, j, rfl, rfl, ok, fun q hq => Kn.newL (fun v F' H' g3 => k v F' H' ((g1.trans g2).trans g3)) R2 hq (rds_range i j)⟩
    · cases e1
  · cases e1
end
@[simp ↓] theorem ap_LRg1 (f : DE) (st : S) : dLRg1 f st = match f st with
  | none => none
  | some (x, s1) => match x.frz with
    | .int j => lrg 0 j s1
    | _ => none := (rfl)
@[simp ↓] theorem ap_LRg2 (f g : DE) (st : S) : dLRg2 f g st = match f st with
  | none => none
  | some (x, s1) => match x.frz with
    | .int i => match g s1 with
      | none => none
      | some (y, s2) => match y.frz with
        | .int j => lrg i j s2
        | _ => none
    | _ => none := (rfl)
@[simp] theorem any_l (ns : List Bool) : cAny [.lst (ns.map D.bl)] = some (.imm (.bl (ns.any id))) := by simp [cAny, bls_il]
theorem lrg_nat (n : Nat) (h : n ≤ 1000) (s1 : S) : lrg 0 (n : Int) s1 = some (.lst (il (tab n fun i => i)), s1) := by
  unfold lrg
  rw [if_pos (by rw [B20_eq]; omega)]
  rw [show ((n : Int) - 0).toNat = n by omega, range_il]
theorem bt_any : bootBuiltins "any" = some (.builtin "any") := by decide +kernel
end
end Sm
/-! Lots by their marks. -/
namespace Sm
noncomputable section
open PySem L2 Evl PyProof.Rows
theorem hu1 {a : Nat} (h : a + 64 < cLine) : a + 1 < cLine := by omega
theorem vs_ints : ∀ xs : List Int, (il xs).mapM D.v = some (xs.map V.int)
  | [] => rfl
  | x :: xs => by
    show ((D.int x :: il xs).mapM D.v) = _
    rw [List.mapM_cons, vs_ints xs]; rfl
theorem inV_ints (i : Int) : ∀ xs : List Int, inV (.int i) (xs.map V.int) = decide (i ∈ xs)
  | [] => rfl
  | x :: xs => by
    have ih := inV_ints i xs
    unfold inV at ih ⊢
    rw [List.map_cons, List.any_cons, ih]
    by_cases h : i = x
    · subst h; simp [eqV]
    · have h' : ¬ (x = i) := fun e => h e.symm
      simp [eqV, h, h']
@[simp] theorem in_l (neg : Bool) (i : Int) (xs : List Int) : oIn neg (.int i) (.lst (il xs)) = some (.imm (.bl (if neg then !decide (i ∈ xs) else decide (i ∈ xs)))) := by
  have e : oIn neg (.int i) (.lst (il xs)) = match (il xs).mapM D.v with
    | some vs => some (.imm (.bl (if neg then !inV (.int i) vs else inV (.int i) vs)))
    | none => none := rfl
  rw [e, vs_ints]
  simp only [inV_ints]
@[simp] theorem in_t (neg : Bool) (i : Int) (xs : List Int) : oIn neg (.int i) (.tup (il xs)) = some (.imm (.bl (if neg then !decide (i ∈ xs) else decide (i ∈ xs)))) := by
  have e : oIn neg (.int i) (.tup (il xs)) = match (il xs).mapM D.v with
    | some vs => some (.imm (.bl (if neg then !inV (.int i) vs else inV (.int i) vs)))
    | none => none := rfl
  rw [e, vs_ints]
  simp only [inV_ints]
/-- the numbers of the lot with these marks -/
def lotF (n : Nat) (ms : List Int) (i : Int) : Int := if i % (n : Int) ∈ ms then 1 else 0
theorem Per.lotF (n : Nat) (ms : List Int) : Per n (lotF n ms) := fun i => by unfold Sm.lotF; rw [Int.add_emod_right]
theorem lotF_bit (n : Nat) (ms : List Int) : BitF (lotF n ms) := fun i => by unfold lotF; split <;> simp
theorem lotF_abs (n : Nat) (ms : List Int) (i : Int) : (lotF n ms i).natAbs ≤ 99 := by unfold lotF; split <;> decide
theorem lotF_at {n : Nat} {ms : List Int} {i : Int} (h0 : 0 ≤ i) (h1 : i < n) : lotF n ms i = if i ∈ ms then 1 else 0 := by
  unfold lotF; rw [Int.emod_eq_of_lt h0 h1]
theorem tab_lot (n : Nat) (ms : List Int) : (tab n fun i => if i ∈ ms then 1 else 0) = tab n (lotF n ms) := tab_congr fun i h => (lotF_at (by omega) (by omega)).symm
theorem marks_mem' (n : Nat) (f : Int → Int) (i : Int) : i ∈ marks 0 (tab n f) ↔ 0 ≤ i ∧ i < n ∧ f i ≠ 0 := by
  rw [marks_tab, List.mem_map]
  constructor
  · rintro ⟨k, hk, rfl⟩
    obtain ⟨h1, h2⟩ := List.mem_filter.mp hk
    have := List.mem_range.mp h1
    exact ⟨by omega, by omega, by simpa using h2⟩
  · rintro ⟨h0, h1, h2⟩
    refine ⟨i.toNat, List.mem_filter.mpr ⟨List.mem_range.mpr (by omega), ?_⟩, Int.toNat_of_nonneg h0⟩
    rw [Int.toNat_of_nonneg h0]
    simpa using h2
theorem lot_mem {n : Nat} {ms : List Int} (hm : ∀ m ∈ ms, 0 ≤ m ∧ m < (n : Int)) (i : Int) : i ∈ marks 0 (tab n (lotF n ms)) ↔ i ∈ ms := by
  rw [marks_mem']
  constructor
  · rintro ⟨h0, h1, h2⟩
    rw [lotF_at h0 h1] at h2
    by_cases h : i ∈ ms
    · exact h
    · rw [if_neg h] at h2; exact absurd rfl h2
  · intro h
    obtain ⟨h0, h1⟩ := hm i h
    exact ⟨h0, h1, by rw [lotF_at h0 h1, if_pos h]; decide⟩
theorem marks_lot {n : Nat} {ms : List Int} (hm : ∀ m ∈ ms, 0 ≤ m ∧ m < (n : Int)) (hs : ms.Pairwise (· < ·)) : marks 0 (tab n (lotF n ms)) = ms :=
  asc_uniq (marks_sorted' n _) hs (lot_mem hm)
theorem lotF_congr {n : Nat} {ms ms' : List Int} (h : ∀ k, k ∈ ms ↔ k ∈ ms') : lotF n ms = lotF n ms' := funext fun i => by
  unfold lotF
  by_cases q : i % (n : Int) ∈ ms
  · rw [if_pos q, if_pos ((h _).mp q)]
  · rw [if_neg q, if_neg fun z => q ((h _).mpr z)]
theorem sortI_mem {k : Int} {xs : List Int} : k ∈ sortI xs ↔ k ∈ xs := (sortI_perm xs).mem_iff
theorem sortI_asc {xs : List Int} (h : xs.Nodup) : (sortI xs).Pairwise (· < ·) := lt_of_le_nd _ (sortI_sorted _) ((sortI_perm _).nodup_iff.mpr h)
theorem asc_nodup {xs : List Int} (h : xs.Pairwise (· < ·)) : xs.Nodup := h.imp fun h e => by omega
theorem len_in {n : Nat} {xs : List Int} (h : xs.Nodup) (hm : ∀ m ∈ xs, 0 ≤ m ∧ m < (n : Int)) : xs.length ≤ n := by
  have := nd_len (m := tab n fun i => i) h fun k hk => by
    obtain ⟨a, b⟩ := hm k hk
    simp only [tab, List.mem_map, List.mem_range]
    exact ⟨k.toNat, by omega, by omega⟩
  rwa [tab_len] at this
theorem tab_asc (n : Nat) : (tab n fun i => i).Pairwise (· < ·) := by
  unfold tab
  refine List.pairwise_map.mpr ((List.pairwise_lt_range (n := n)).imp fun {a b} h => ?_)
  show (a : Int) < (b : Int)
  omega
theorem tab_id_mem {n : Nat} {k : Int} : k ∈ (tab n fun i => i) ↔ 0 ≤ k ∧ k < n := by
  simp only [tab, List.mem_map, List.mem_range]
  constructor
  · rintro ⟨a, h, rfl⟩; omega
  · rintro ⟨h, h'⟩; exact ⟨k.toNat, by omega, by omega⟩
theorem perm_sum {xs ys : List Int} (p : xs.Perm ys) : xs.sum = ys.sum := by
  induction p with
  | nil => rfl
  | cons a _ ih => simp only [List.sum_cons, ih]
  | swap a b l => simp only [List.sum_cons]; omega
  | trans _ _ h1 h2 => exact h1.trans h2
/-- the beats where the numbers of a row are above 0, as many as its sum -/
theorem sm_lot {n : Nat} {ms : List Int} (hm : ∀ m ∈ ms, 0 ≤ m ∧ m < (n : Int)) (hs : ms.Nodup) : sm (lotF n ms) n = ms.length := by
  have e := marks_sum n (lotF n ms) (lotF n ms) fun i _ h => h
  rw [← e]
  have p : (marks 0 (tab n (lotF n ms))).Perm ms := (List.perm_ext_iff_of_nodup (asc_nodup (marks_sorted' n _)) hs).mpr (lot_mem hm)
  rw [show ((marks 0 (tab n (lotF n ms))).map (lotF n ms)).sum = (ms.map (lotF n ms)).sum from perm_sum (p.map _)]
  rw [sum_map_congr (G := fun _ => 1) fun a ha => by obtain ⟨h0, h1⟩ := hm a ha; rw [lotF_at h0 h1, if_pos ha], sum_ones]
/-! ### dicts of what came already -/
theorem valD_none {j : Int} : ∀ (ks : List Int) (ds : List D), j ∉ ks → valD (ks.map fun k => (Sum.inl k : Key)) ds (.inl j) = none
  | [], _, _ => by simp [valD]
  | k :: ks, [], _ => by simp [valD]
  | k :: ks, d :: ds, h => by
    simp only [List.map_cons, valD]
    rw [if_neg (fun e => h (by cases e; exact List.mem_cons_self))]
    exact valD_none ks ds fun z => h (List.mem_cons_of_mem _ z)
theorem hasK_none {j : Int} {ks : List Int} (h : j ∉ ks) : hasK (ks.map fun k => (Sum.inl k : Key)) (.inl j) = false := by
  unfold hasK
  rw [List.any_map, List.any_eq_false]
  intro k hk
  simp only [Function.comp, decide_eq_true_eq]
  intro e
  cases e
  exact h hk
/-! ### a comprehension that finds nothing -/
theorem comp_nil {g : D → S → Option S} {t : DT} {e : DE} {vs : List Nat} {s : S} : ∀ (ds : List D), (∀ d ∈ ds, ∃ s1 s2, g d s = some s1 ∧ t s1 = some (false, s2) ∧ wipeS s2 vs = s) → compD g t e vs ds s [] = some ([], s) := fun ds h => by
  have z := comp_pure (g := g) (t := t) (e := e) (vs := vs) (s := s) (fun _ => false) (fun d => d) ds [] fun d hd => by
    obtain ⟨s1, s2, h1, h2, h3⟩ := h d hd
    exact ⟨s1, s2, h1, h2, fun _ => h3, fun q => by cases q⟩
  rw [z]; simp
theorem loop_inv {g : D → S → Option S} {b : DS} (I : S → Prop) : ∀ (ds : List D) (s : S), (∀ d ∈ ds, ∀ s, I s → ∃ s1 s2, g d s = some s1 ∧ b s1 = some (.nx, s2) ∧ I s2) → I s → ∃ s', loopD g b ds s = some (.nx, s') ∧ I s'
  | [], s, _, h => ⟨s, rfl, h⟩
  | d :: ds, s, hb, h => by
    obtain ⟨s1, s2, h1, h2, h3⟩ := hb d List.mem_cons_self s h
    obtain ⟨s', e, h4⟩ := loop_inv I ds s2 (fun d' hd => hb d' (List.mem_cons_of_mem _ hd)) h3
    exact ⟨s', by simp [loopD, h1, h2, e], h4⟩
section
variable {X : Cx} {e : Expr} {f : DE} {pos : Pos}
theorem st_din {i : Nat} {x : Str} {p : Pos} (hu : X.A.units + 1 < cLine) (he : SE X e f) (hN : X.N[i]? = some x) (hv : Vis X.env.scope x) (hd : (x == ("__debug__" : Str)) = false := by decide) (hcd : (x == ("__classdict__" : Str)) = false := by decide) (h1 : behindInMarks .In (.Name x p) = false := by first | exact nobehind _ (by decide) (by decide) | rfl) :
    ST X (.Compare e [.In] [.Name x p] pos) (dB (dDIn false i f)) := ⟨pt_imp (pt_cmp (pc_din hu he.pe (pe_var hN hv hd hcd)) h1) fun _ _ _ q => din_of (tB_of q)⟩
theorem st_dnotin {i : Nat} {x : Str} {p : Pos} (hu : X.A.units + 1 < cLine) (he : SE X e f) (hN : X.N[i]? = some x) (hv : Vis X.env.scope x) (hd : (x == ("__debug__" : Str)) = false := by decide) (hcd : (x == ("__classdict__" : Str)) = false := by decide) (h1 : behindInMarks .NotIn (.Name x p) = false := by first | exact nobehind _ (by decide) (by decide) | rfl) :
    ST X (.Compare e [.NotIn] [.Name x p] pos) (dB (dDIn true i f)) := ⟨pt_imp (pt_cmp (pc_dnotin hu he.pe (pe_var hN hv hd hcd)) h1) fun _ _ _ q => din_of (tB_of q)⟩
end
end
end Sm
/-! Lots drawn out of a list by pop. -/
namespace Sm
noncomputable section
open PySem PySem.Spec L2 Evl PyProof.Rows
theorem il_erase : ∀ (l : List Int) (j : Nat), (il l).eraseIdx j = il (l.eraseIdx j)
  | [], _ => rfl
  | _ :: _, 0 => rfl
  | x :: l, j + 1 => by
    show D.int x :: (il l).eraseIdx j = D.int x :: il (l.eraseIdx j)
    rw [il_erase l j]
theorem erase_perm : ∀ (l : List Int) (j : Nat) (h : j < l.length), (l[j] :: l.eraseIdx j).Perm l
  | x :: l, 0, _ => List.Perm.refl _
  | x :: l, j + 1, h => by
    have h' : j < l.length := by simpa using h
    exact (List.Perm.swap x (l[j]) _).trans ((erase_perm l j h').cons x)
theorem pop_at {i : Nat} {f : DE} {st s1 : S} {ds0 : List D} {l : List Int} {k : Int} (h0 : st[i]? = some (some (.lst ds0))) (h : f st = some (.imm (.int k), s1)) (h1 : s1[i]? = some (some (.lst (il l)))) (k0 : 0 ≤ k) (k1 : k < l.length) (hl : l.length ≤ 1000000) :
    dPopAt i f st = some (.imm (.int (l.getD k.toNat 0)), s1.set i (some (.lst (il (l.eraseIdx k.toNat))))) := by
  have hk : k.toNat < l.length := by omega
  unfold dPopAt
  have e1 : ixN (il l).length k = some k.toNat := by
    unfold ixN
    rw [if_pos k0, il_len, if_pos (by omega)]
  have e2 : (il l)[k.toNat]? = some (.int (l.getD k.toNat 0)) := by
    unfold il
    rw [List.getElem?_map, List.getElem?_eq_getElem hk, List.getD_eq_getElem?_getD, List.getElem?_eq_getElem hk]
    rfl
  have e3 : (il l).eraseIdx k.toNat = il (l.eraseIdx k.toNat) := by
    exact il_erase l _
  simp only [h0, h, h1, e1, e2, e3]
  rw [if_pos ⟨by omega, by have : (2 : Int) ^ 62 = 4611686018427387904 := by decide
                           omega⟩]
theorem comp_pop {g : D → S → Option S} {e : DE} {vs : List Nat} (I : Nat → List Int → S → Prop)
    (he : ∀ k l s d, l ≠ [] → I (k + 1) l s → ∃ s1 j s2, g d s = some s1 ∧ e s1 = some (.imm (.int (l.getD j 0)), s2) ∧ j < l.length ∧ I k (l.eraseIdx j) (wipeS s2 vs)) :
    ∀ (ds : List D) (k : Nat) (l : List Int) (s : S) (acc : List D), ds.length ≤ l.length → I (k + ds.length) l s →
      ∃ (rs l' : List Int) (s' : S), compD g dYes e vs ds s acc = some (acc ++ il rs, s') ∧ (rs ++ l').Perm l ∧ rs.length = ds.length ∧ I k l' s'
  | [], k, l, s, acc, _, h => ⟨[], l, s, by simp [compD, il], by simp, rfl, by simpa using h⟩
  | d :: ds, k, l, s, acc, hl, h => by
    have hne : l ≠ [] := fun q => by rw [q] at hl; simp at hl
    obtain ⟨s1, j, s2, h1, h2, hj, h4⟩ := he (k + ds.length) l s d hne (by rw [show k + ds.length + 1 = k + (d :: ds).length by simp [Nat.add_assoc]]; exact h)
    obtain ⟨rs, l', s', a1, a2, a3, a4⟩ := comp_pop I he ds k _ _ (acc ++ [.int (l.getD j 0)]) (by rw [List.length_eraseIdx, if_pos hj]; simp at hl; omega) h4
    refine ⟨l.getD j 0 :: rs, l', s', ?_, ?_, by simp [a3], a4⟩
    · simp only [compD, h1, h2, dYes, frz_imm, a1]
      simp [il]
    · rw [List.cons_append, List.getD_eq_getElem?_getD, List.getElem?_eq_getElem hj]
      exact (a2.cons _).trans (erase_perm l j hj)
theorem perm_lot {n : Nat} {rs l' : List Int} (h : (rs ++ l').Perm (tab n fun i => i)) : (sortI rs).Pairwise (· < ·) ∧ ∀ x ∈ sortI rs, 0 ≤ x ∧ x < (n : Int) := by
  have nd : (rs ++ l').Nodup := h.nodup_iff.mpr (asc_nodup (tab_asc n))
  refine ⟨sortI_asc (List.nodup_append.mp nd).1, fun x hx => ?_⟩
  exact tab_id_mem.mp (h.mem_iff.mp (List.mem_append_left _ (sortI_mem.mp hx)))
end
end Sm
/-! sorted(..) of a tuple of ints. -/
namespace Sm
open PySem PySem.Spec L2 Evl PyProof.Rows
section
variable {prog : Program} {w : World} {A : Around} {E : Value → Shared → Prop} {s : Shared}
theorem collect_tuple {l : Addr} {vs : List Value} {Q : List Value → Shared → Prop} (hl : IsTup s.heap l vs.toArray)
    (h : Q vs { s with heap := (s.heap.push (seqObj "list" #[] 0)).update s.heap.objs.size (Obj.mapSeq (· ++ vs.toArray)) }) (hsz : vs.length ≤ sizeLine) :
    wpAny (model prog w) A (collect (.ref l)) Q E s := by
  obtain ⟨o, ho, hc, n, hd⟩ := id hl
  unfold collect
  refine wpAny_bind (wpAny_runValue (codeAny_builtin entry_proto_collect' ?_))
  show wpAny _ _ (do again (.builtin "list.__iadd__" ⟨[← newList [], .ref l], []⟩)) _ _ s
  refine wpAny_bind (wpAny_newList (wpAny_pure ⟨Code.quiet_builtin _ (by decide +kernel), codeAny_builtin entry_list_iadd' ?_⟩))
  show wpAny _ _ (Builtin.List.listExtendWith (.ref s.heap.objs.size) (.ref l) (.ref s.heap.objs.size)) _ _ { s with heap := s.heap.push (seqObj "list" #[] 0) }
  unfold Builtin.List.listExtendWith
  have ho' : (s.heap.push (seqObj "list" #[] 0)).get? l = some o := Heap.get?_push_of_some _ ho
  refine wpAny_bind (wpAny_typeOf (T := "tuple") ⟨o, ho', hc⟩ ?_)
  have ht : (Value.type "tuple" == Value.type "tuple") = true := by rfl
  rw [if_pos (by rw [ht]; simp)]
  refine wpAny_bind (listItems_at ho' hd ?_)
  refine wpAny_bind (listItems_at (xs := #[]) (n := 0) (Heap.get?_push_size _ rfl) rfl ?_)
  rw [if_neg (by simp)]
  refine wpAny_bind (listUpdate_at (xs := #[]) (n := 0) (Heap.get?_push_size _ rfl) rfl ?_ (Nat.zero_le _) (by show (#[] ++ vs.toArray).size ≤ sizeLine + 1; simp only [Array.size_append, List.size_toArray, List.length_nil]; omega))
  refine wpAny_pure ?_
  show wpAny (model prog w) A (do
      let o ← load s.heap.objs.size
      match o.data with
      | .seq xs _ => pure xs.toList
      | _ => unsupported "internal:collect") Q E { s with heap := (s.heap.push (seqObj "list" #[] 0)).update s.heap.objs.size (Obj.mapSeq (· ++ vs.toArray)) }
  refine wpAny_bind (wpAny_load (get?_update_seq (Heap.get?_push_size _ rfl) _) ?_)
  show wpAny _ _ (pure ((#[] : Array Value) ++ vs.toArray).toList) Q E _
  rw [show ((#[] : Array Value) ++ vs.toArray).toList = vs by simp]
  exact wpAny_pure h
open SrtO in
theorem sorted_ordT {l : Addr} {vs : List Value} {ltv : Value → Value → Bool} {Q : Value → Shared → Prop} (O : Swo ltv) (hl : IsTup s.heap l vs.toArray) (hz : vs.length ≤ sizeLine)
    (hS : 2 ≤ vs.length → ∀ (h₁ : Heap) (a : Addr), h₁.get? a = some (seqObj "list" vs.toArray 0) → (∀ b o, s.heap.get? b = some o → b ≠ a ∧ h₁.get? b = some o) → SortableO prog w A.in1.in1 { s with heap := h₁ } a vs ltv)
    (h : ∀ out : List Value, Srtd ltv out → Stb ltv out vs → Q (.ref (s.heap.objs.size + 1)) { s with heap := sortedAll s.heap vs out.toArray }) :
    wpAny (model prog w) A (call (.builtin "sorted") [.ref l]) Q E s := by
  refine Calls.call_function_entry kind_sorted plain_sorted entry_sorted (args_sorted1 _) ?_
  unfold Builtin.«sorted»
  refine wpAny_bind (m := checkCount "sorted" 1 1 _) (wpAny_pure ?_)
  refine wpAny_bind (collect_tuple hl ?_ hz)
  refine wpAny_bind (wpAny_newList ?_ hz)
  have hsz : ((s.heap.push (seqObj "list" #[] 0)).update s.heap.objs.size (Obj.mapSeq (· ++ vs.toArray))).objs.size = s.heap.objs.size + 1 := by
    rw [Heap.size_update, size_push']
  have hoL : (((s.heap.push (seqObj "list" #[] 0)).update s.heap.objs.size (Obj.mapSeq (· ++ vs.toArray))).push (seqObj "list" vs.toArray 0)).get? (s.heap.objs.size + 1) = some (seqObj "list" vs.toArray 0) := by
    rw [← hsz]; exact Heap.get?_push_size _ rfl
  have keep : ∀ b o, s.heap.get? b = some o → b ≠ s.heap.objs.size + 1 ∧ (((s.heap.push (seqObj "list" #[] 0)).update s.heap.objs.size (Obj.mapSeq (· ++ vs.toArray))).push (seqObj "list" vs.toArray 0)).get? b = some o := fun b o q => by
    have hlt : b < s.heap.objs.size := Heap.lt_size q
    refine ⟨Nat.ne_of_lt (Nat.lt_succ_of_lt hlt), Heap.get?_push_of_some _ ?_⟩
    rw [Heap.get?_update_ne _ _ _ _ (Nat.ne_of_lt hlt)]
    exact Heap.get?_push_of_some _ q
  show wpAny _ _ _ _ _ { s with heap := ((s.heap.push (seqObj "list" #[] 0)).update s.heap.objs.size (Obj.mapSeq (· ++ vs.toArray))).push (seqObj "list" vs.toArray 0) }
  rw [hsz]
  refine wpAny_bind (wpAny_holding (wpAny_call_entry slot_list_sort ⟨_, hoL, rfl⟩ entry_list_sort (list_sort_ord O hoL hz (fun h2 => hS h2 _ _ hoL keep) fun out hs hb => ⟨_, rfl, ?_⟩) (args_list_sort _)))
  exact wpAny_pure ⟨_, rfl, h out hs hb⟩
end
def rSortedT (K : PySem.W.Frag) : List V → Hp → VK → Prop := fun vs H Q => ∃ (a : Addr) (ns : List Int), vs = [V.ref a] ∧ SqT K H a (ns.map V.int) ∧
  ∀ (ns' : List Int) (p : Addr), ns'.Perm ns → ns'.Pairwise (· ≤ ·) → H p = none → Q (.ref p) (upd H p (.lst (ns'.map V.int)))
section
variable {X : Cx}
theorem cr_sortedT : CallR X (.builtin "sorted") (rSortedT X.K) := by
  intro pins s σ H vs us Q I r h
  obtain ⟨a, ns, rfl, hs, q⟩ := h
  obtain ⟨its, rv, hl, hz⟩ := I.tuple hs
  rw [Vals.ref1 r]
  have hi := rv.ints
  refine sorted_ordT SrtO.swo_int hl (by rw [← rv.length]; exact hz) (fun h2 h₁ a' _ _ => SrtO.ints_sortable hi h2) fun out h1 h2 => ?_
  obtain ⟨k1, k2, k3⟩ := SrtO.ints_out hi h1 h2
  obtain ⟨ep, he'⟩ := PyProof.Rows.sortedAll_at s.heap its out.toArray
  have hlen : ((out.map SrtO.iv).map V.int).length ≤ sizeLine := by
    rw [List.length_map, k2.length_eq]
    rw [List.length_map] at hz
    exact hz
  exact ⟨.ref _, upd H (s.heap.objs.size + 1) (.lst ((out.map SrtO.iv).map V.int)), I.laid (t' := s.toks) (fun _ _ => PyProof.Rows.sortedAll_old) (Nat.le_succ _) ⟨hlen, out, ep, vals_of_ints k1, he'⟩, rfl, q _ _ k2 k3 (I.hok.fresh (Nat.le_succ _))⟩
/-- sorted(..) of a list or a tuple -/
def cSortT : List D → Option SV
  | [.lst xs] => (D.ints xs).map fun ns => .lst (il (sortI ns))
  | [.tup xs] => (D.ints xs).map fun ns => .lst (il (sortI ns))
  | _ => none
theorem cs_sortT : CallS X (.builtin "sorted") cSortT := by
  refine ⟨_, cr_sortedI.or cr_sortedT, ?_⟩
  intro G F H st σ ds vs sv Q R r e k
  unfold cSortT at e
  split at e
  · rename_i xs
    cases q : D.ints xs with
    | none => rw [q] at e; cases e
    | some ns =>
      rw [q] at e
      cases e
      rw [D.ints_eq q] at r
      obtain ⟨v, rfl, h⟩ := r.one
      obtain ⟨a, us, rfl, ha, ra⟩ := h.lst_inv
      rw [ra.ints] at ha
      exact .inl ⟨a, ns, rfl, .inl (.inl (R.f _ _ ha)), fun ns' p h1 h2 hp => by rw [sortI_uniq h1 h2]; exact k.newL R hp (rds_ints _)⟩
  · rename_i xs
    cases q : D.ints xs with
    | none => rw [q] at e; cases e
    | some ns =>
      rw [q] at e
      cases e
      rw [D.ints_eq q] at r
      obtain ⟨v, rfl, h⟩ := r.one
      obtain ⟨a, us, rfl, ha, ra⟩ := h.tup_inv
      rw [ra.ints] at ha
      exact .inr ⟨a, ns, rfl, ex_t R.f ha, fun ns' p h1 h2 hp => by rw [sortI_uniq h1 h2]; exact k.newL R hp (rds_ints _)⟩
  · cases e
end
@[simp] theorem sortT_l (xs : List Int) : cSortT [.lst (il xs)] = some (.lst (il (sortI xs))) := by simp [cSortT, ints_il]
@[simp] theorem sortT_t (xs : List Int) : cSortT [.tup (il xs)] = some (.lst (il (sortI xs))) := by simp [cSortT, ints_il]
end Sm
/-! list(zip(a, b)) of two tuples. -/
namespace SmZ
open PySem PySem.Calls PyProof.Rows PyProof.V PySem.Spec
open PySem.Sem (wp)
section
variable {prog : Program} {w : World} {A : Around} {E : Value → Shared → Prop} {s : Shared}
theorem zt_next_item {z TI TO T i1 i2 l1 l2 : Addr} {f : Bool} {oT : Obj} {k1 k2 : Nat} {xs ys : Array Value} {x y : Value} {Q : Value → Shared → Prop} (D : ZipApart z TI TO i1 i2 l1 l2)
    (hz : IsZipHeld s.heap z TI TO T f) (hT : s.heap.get? T = some oT) (hTI : IsPair s.heap TI (.ref i1) (.ref i2))
    (h1 : s.heap.IsTupleIter i1 l1 k1) (h2 : s.heap.IsTupleIter i2 l2 k2) (hl1 : s.heap.IsTuple l1 xs) (hl2 : s.heap.IsTuple l2 ys) (hx : xs[k1]? = some x) (hy : ys[k2]? = some y)
    (hQ : ∀ h', IsZipHeld h' z TI TO T true → h'.IsTupleIter i1 l1 (k1 + 1) → h'.IsTupleIter i2 l2 (k2 + 1) → IsPair h' s.heap.objs.size x y → h'.objs.size = s.heap.objs.size + 1 →
      (∀ c o, c ≠ z → c ≠ i1 → c ≠ i2 → s.heap.get? c = some o → h'.get? c = some o) → Q (.ref s.heap.objs.size) { s with heap := h' }) :
    wpAny (model prog w) A (Builtin.«zip.__next__» ⟨[.ref z], []⟩) (fun fin s' => ∃ v, fin = .done (.ret v) ∧ Q v s') E s := by
  show wpAny _ _ (field (.ref z) 2 >>= _) _ _ _
  refine wpAny_bind (wpAny_field hz rfl (x := .bool false) rfl ?_)
  show wpAny _ _ (field (.ref z) 3 >>= _) _ _ _
  refine wpAny_bind (wpAny_field hz rfl (x := .ref TI) rfl ?_)
  refine wpAny_bind (wpAny_seqItems hTI rfl ?_)
  show wpAny _ _ (Builtin.SmallTypes.ownedTupleIsFree (.ref z) >>= _) _ _ _
  refine wpAny_bind (wpAny_tupleHeld_zip hz hT fun h₁ hz₁ hs₁ => ?_)
  simp only [Bool.false_eq_true, if_false]
  refine wpAny_bind ?_
  rw [← Array.forIn_toList]
  simp only [List.forIn_cons, List.forIn_nil]
  refine wpAny_bind (wpAny_bind (wpAny_holding ?_))
  show wpAny _ _ (Builtin.SmallTypes.nextOf (.ref i1) >>= _) _ _ _
  refine wpAny_bind (RZ.nextOf_tuple_item (s := { s with heap := h₁ }) (h1.extBut hs₁.extBut D.i1z) (hl1.extBut hs₁.extBut D.l1z) hx fun h₂ h1₂ hs₂ => wpAny_pure ?_)
  refine wpAny_pure ?_
  refine wpAny_bind (wpAny_bind (wpAny_holding ?_))
  show wpAny _ _ (Builtin.SmallTypes.nextOf (.ref i2) >>= _) _ _ _
  refine wpAny_bind (RZ.nextOf_tuple_item (s := { s with heap := h₂ }) ((h2.extBut hs₁.extBut D.i2z).extBut hs₂.extBut D.i12.symm) ((hl2.extBut hs₁.extBut D.l2z).extBut hs₂.extBut D.l2i1) hy fun h₃ h2₃ hs₃ => wpAny_pure ?_)
  refine wpAny_pure (wpAny_pure ?_)
  show wpAny _ _ (newTuple [x, y] >>= _) _ _ _
  refine wpAny_bind (wpAny_newTuple ?_)
  have hsz : h₃.objs.size = s.heap.objs.size := by rw [hs₃.1, hs₂.1, hs₁.1]
  have hz₃ : IsZipHeld h₃ z TI TO T true := hs₃.extBut _ _ D.i2z.symm (hs₂.extBut _ _ D.i1z.symm hz₁)
  have hk : ∀ c o, c ≠ z → c ≠ i1 → c ≠ i2 → s.heap.get? c = some o → h₃.get? c = some o := fun c o c1 c2 c3 e => hs₃.extBut _ _ c3 (hs₂.extBut _ _ c2 (hs₁.extBut _ _ c1 e))
  have h1₃ : h₃.IsTupleIter i1 l1 (k1 + 1) := h1₂.extBut hs₃.extBut D.i12
  refine wpAny_pure ⟨_, rfl, ?_⟩
  show Q (.ref h₃.objs.size) _
  have hp : IsPair (h₃.push { cls := .type "tuple", data := .seq #[x, y] }) h₃.objs.size x y := Heap.get?_push_size _ rfl
  have hz4 : (h₃.push { cls := .type "tuple", data := .seq #[x, y] }).objs.size = h₃.objs.size + 1 := Heap.size_push ..
  rw [hsz] at hp hz4 ⊢
  exact hQ _ (Heap.get?_push_of_some _ hz₃) (h1₃.at fun o e => Heap.get?_push_of_some _ e) (h2₃.at fun o e => Heap.get?_push_of_some _ e) hp hz4 fun c o c1 c2 c3 e => Heap.get?_push_of_some _ (hk c o c1 c2 c3 e)

theorem zt_next_end {z TI TO T i1 i2 l1 l2 : Addr} {f : Bool} {oT : Obj} {k1 k2 : Nat} {xs ys : Array Value} {Q : Fin → Shared → Prop} (hh : A.handled = none) (D : ZipApart z TI TO i1 i2 l1 l2)
    (hz : IsZipHeld s.heap z TI TO T f) (hT : s.heap.get? T = some oT) (hTI : IsPair s.heap TI (.ref i1) (.ref i2))
    (h1 : s.heap.IsTupleIter i1 l1 k1) (h2 : s.heap.IsTupleIter i2 l2 k2) (hl1 : s.heap.IsTuple l1 xs) (hl2 : s.heap.IsTuple l2 ys) (hend : xs[k1]? = none ∨ ys[k2]? = none)
    (hE : ∀ h' e, (∀ c o, c ≠ z → c ≠ i1 → c ≠ i2 → s.heap.get? c = some o → h'.get? c = some o) → (∃ o, h'.get? e = some o ∧ o.cls = .type "StopIteration") → E (.ref e) { s with heap := h' }) :
    wpAny (model prog w) A (Builtin.«zip.__next__» ⟨[.ref z], []⟩) Q E s := by
  show wpAny _ _ (field (.ref z) 2 >>= _) _ _ _
  refine wpAny_bind (wpAny_field hz rfl (x := .bool false) rfl ?_)
  show wpAny _ _ (field (.ref z) 3 >>= _) _ _ _
  refine wpAny_bind (wpAny_field hz rfl (x := .ref TI) rfl ?_)
  refine wpAny_bind (wpAny_seqItems hTI rfl ?_)
  show wpAny _ _ (Builtin.SmallTypes.ownedTupleIsFree (.ref z) >>= _) _ _ _
  refine wpAny_bind (wpAny_tupleHeld_zip hz hT fun h₁ hz₁ hs₁ => ?_)
  simp only [Bool.false_eq_true, if_false]
  refine wpAny_bind ?_
  rw [← Array.forIn_toList]
  simp only [List.forIn_cons, List.forIn_nil]
  refine wpAny_bind (wpAny_bind (wpAny_holding ?_))
  show wpAny _ _ (Builtin.SmallTypes.nextOf (.ref i1) >>= _) _ _ _
  cases hx : xs[k1]? with
  | none =>
    refine wpAny_bind (RZ.nextOf_tuple_end (s := { s with heap := h₁ }) hh (h1.extBut hs₁.extBut D.i1z) (hl1.extBut hs₁.extBut D.l1z) hx fun h₂ e hs₂ he => ?_)
    exact hE h₂ e (fun c o c1 c2 _ x => hs₂ _ _ c2 (hs₁.extBut _ _ c1 x)) he
  | some x =>
    have hy : ys[k2]? = none := by rcases hend with h | h; rw [hx] at h; cases h; exact h
    refine wpAny_bind (RZ.nextOf_tuple_item (s := { s with heap := h₁ }) (h1.extBut hs₁.extBut D.i1z) (hl1.extBut hs₁.extBut D.l1z) hx fun h₂ h1₂ hs₂ => wpAny_pure ?_)
    refine wpAny_pure ?_
    refine wpAny_bind (wpAny_bind (wpAny_holding ?_))
    show wpAny _ _ (Builtin.SmallTypes.nextOf (.ref i2) >>= _) _ _ _
    refine wpAny_bind (RZ.nextOf_tuple_end (s := { s with heap := h₂ }) hh ((h2.extBut hs₁.extBut D.i2z).extBut hs₂.extBut D.i12.symm) ((hl2.extBut hs₁.extBut D.l2z).extBut hs₂.extBut D.l2i1) hy fun h₃ e hs₃ he => ?_)
    exact hE h₃ e (fun c o c1 c2 c3 x => hs₃ _ _ c3 (hs₂.extBut _ _ c2 (hs₁.extBut _ _ c1 x))) he

theorem zt_pyNext_item {z TI TO T i1 i2 l1 l2 : Addr} {f : Bool} {oT : Obj} {k1 k2 : Nat} {xs ys : Array Value} {x y : Value} {Q : Option Value → Shared → Prop} (D : ZipApart z TI TO i1 i2 l1 l2)
    (hz : IsZipHeld s.heap z TI TO T f) (hT : s.heap.get? T = some oT) (hTI : IsPair s.heap TI (.ref i1) (.ref i2))
    (h1 : s.heap.IsTupleIter i1 l1 k1) (h2 : s.heap.IsTupleIter i2 l2 k2) (hl1 : s.heap.IsTuple l1 xs) (hl2 : s.heap.IsTuple l2 ys) (hx : xs[k1]? = some x) (hy : ys[k2]? = some y)
    (hQ : ∀ h', IsZipHeld h' z TI TO T true → h'.IsTupleIter i1 l1 (k1 + 1) → h'.IsTupleIter i2 l2 (k2 + 1) → IsPair h' s.heap.objs.size x y → h'.objs.size = s.heap.objs.size + 1 →
      (∀ c o, c ≠ z → c ≠ i1 → c ≠ i2 → s.heap.get? c = some o → h'.get? c = some o) → Q (some (.ref s.heap.objs.size)) { s with heap := h' }) :
    wpAny (model prog w) A (pyNext (.ref z)) Q E s := by
  have hTy : s.TypeIs (.ref z) "zip" := ⟨_, hz, rfl⟩
  unfold pyNext
  exact wpAny_bind (wpAny_attempt (wpAny_callSpecial?_slot (name := Str.ofString "__next__") hTy F.slot_zip_next
    (wpAny_call_entry F.slot_zip_next hTy F.entry_zip_next
      (zt_next_item D hz hT hTI h1 h2 hl1 hl2 hx hy fun h' a1 a3 a4 a5 a6 a7 => wpAny_pure (hQ h' a1 a3 a4 a5 a6 a7)) (F.args_zip_next_1 _))))
theorem zt_pyNext_end {z TI TO T i1 i2 l1 l2 : Addr} {f : Bool} {oT : Obj} {k1 k2 : Nat} {xs ys : Array Value} {Q : Option Value → Shared → Prop} (hh : A.handled = none) (D : ZipApart z TI TO i1 i2 l1 l2)
    (hz : IsZipHeld s.heap z TI TO T f) (hT : s.heap.get? T = some oT) (hTI : IsPair s.heap TI (.ref i1) (.ref i2))
    (h1 : s.heap.IsTupleIter i1 l1 k1) (h2 : s.heap.IsTupleIter i2 l2 k2) (hl1 : s.heap.IsTuple l1 xs) (hl2 : s.heap.IsTuple l2 ys) (hend : xs[k1]? = none ∨ ys[k2]? = none)
    (hQ : ∀ h', (∀ c o, c ≠ z → c ≠ i1 → c ≠ i2 → s.heap.get? c = some o → h'.get? c = some o) → Q none { s with heap := h' }) : wpAny (model prog w) A (pyNext (.ref z)) Q E s := by
  have hTy : s.TypeIs (.ref z) "zip" := ⟨_, hz, rfl⟩
  unfold pyNext
  refine wpAny_bind (wpAny_attempt (wpAny_callSpecial?_slot (name := Str.ofString "__next__") hTy F.slot_zip_next
    (wpAny_call_entry F.slot_zip_next hTy F.entry_zip_next (zt_next_end hh D hz hT hTI h1 h2 hl1 hl2 hend fun h' e hk he => ?_) (F.args_zip_next_1 _))))
  obtain ⟨o, ho, hc⟩ := he
  refine wpAny_bind (wpAny_isInstance (T := "StopIteration") (b := true) ⟨o, ho, hc⟩ isSubtype_stop ?_)
  exact wpAny_pure (hQ _ hk)

end
/-- a zip of the tuples at a and b, both at i; what was given out before lies above S -/
structure ZSt (h : Heap) (z TI TO i1 i2 a b S i : Nat) (xs ys : Array Value) : Prop where
  TI_ : IsPair h TI (.ref i1) (.ref i2)
  TO_ : ∃ x y, IsPair h TO x y
  h1 : h.IsTupleIter i1 a i
  h2 : h.IsTupleIter i2 b i
  l1 : h.IsTuple a xs
  l2 : h.IsTuple b ys
  z_ : IsZip h z TI TO .none ∨ ∃ (T : Addr) (f : Bool) (oT : Obj), IsZipHeld h z TI TO T f ∧ h.get? T = some oT ∧ S < T
structure ZLow (z TI TO i1 i2 a b S : Nat) : Prop where
  z_ : z < S
  TI_ : TI < S
  TO_ : TO < S
  h1 : i1 < S
  h2 : i2 < S
  a_ : a < S
  b_ : b < S
/-- all but the five -/
def ZKeep (z TO i1 i2 : Addr) (h h' : Heap) : Prop := ∀ c o, c ≠ z → c ≠ TO → c ≠ i1 → c ≠ i2 → h.get? c = some o → h'.get? c = some o
structure ZlG (xs ys : Array Value) (lo : Addr) (h : Heap) (as : List Addr) : Prop where
  rise : as.Pairwise (· < ·)
  above : ∀ a ∈ as, lo < a
  pairs : ∀ (j : Nat) (a : Addr), as[j]? = some a → ∃ x y, xs[j]? = some x ∧ ys[j]? = some y ∧ IsPair h a x y
theorem ZlG.there {xs ys : Array Value} {lo : Addr} {h : Heap} {as : List Addr} (g : ZlG xs ys lo h as) {a : Addr} (ha : a ∈ as) : a < h.objs.size := by
  obtain ⟨j, hj⟩ := List.mem_iff_getElem?.mp ha
  obtain ⟨_, _, _, _, e⟩ := g.pairs j a hj
  exact Heap.lt_size e
section
variable {prog : Program} {w : World} {A : Around} {E : Value → Shared → Prop} {s : Shared}
variable {z TI TO i1 i2 a b S i : Nat} {xs ys : Array Value}
theorem ZSt.keep {h h' : Heap} (st : ZSt h z TI TO i1 i2 a b S i xs ys) (L : ZLow z TI TO i1 i2 a b S) (k : ∀ c o, c ≠ S → h.get? c = some o → h'.get? c = some o) : ZSt h' z TI TO i1 i2 a b S i xs ys := by
  obtain ⟨p1, ⟨x, y, p2⟩, p3, p4, p5, p6, p7⟩ := st
  refine ⟨k _ _ (Nat.ne_of_lt L.TI_) p1, ⟨x, y, k _ _ (Nat.ne_of_lt L.TO_) p2⟩, p3.at fun o e => k _ o (Nat.ne_of_lt L.h1) e, p4.at fun o e => k _ o (Nat.ne_of_lt L.h2) e, p5.at fun o e => k _ o (Nat.ne_of_lt L.a_) e, p6.at fun o e => k _ o (Nat.ne_of_lt L.b_) e, ?_⟩
  rcases p7 with q | ⟨T, f, oT, q1, q2, q3⟩
  · exact .inl (k _ _ (Nat.ne_of_lt L.z_) q)
  · exact .inr ⟨T, f, oT, k _ _ (Nat.ne_of_lt L.z_) q1, k _ _ (Nat.ne_of_gt q3) q2, q3⟩
theorem zl_item {x y : Value} {Q : Option Value → Shared → Prop} (D : ZipApart z TI TO i1 i2 a b) (L : ZLow z TI TO i1 i2 a b S) (hS : S < s.heap.objs.size) (st : ZSt s.heap z TI TO i1 i2 a b S i xs ys) (hx : xs[i]? = some x) (hy : ys[i]? = some y)
    (hQ : ∀ h', ZSt h' z TI TO i1 i2 a b S (i + 1) xs ys → IsPair h' s.heap.objs.size x y → h'.objs.size = s.heap.objs.size + 1 → ZKeep z TO i1 i2 s.heap h' → Q (some (.ref s.heap.objs.size)) { s with heap := h' }) :
    wpAny (model prog w) A (pyNext (.ref z)) Q E s := by
  obtain ⟨p1, ⟨x0, y0, p2⟩, p3, p4, p5, p6, p7⟩ := st
  rcases p7 with q | ⟨T, f, oT, q1, q2, q3⟩
  · refine RZ.pyNext_zipT_item D q p1 p2 p3 p4 p5 p6 hx hy fun h' z' TO' h1' h2' hT hsz hk => ?_
    refine hQ h' ⟨hk _ _ D.TIz D.TITO D.TIi1 D.TIi2 p1, ⟨x, y, TO'⟩, h1', h2', p5.at fun o e => hk _ o D.l1z D.l1TO D.l1i1 D.l1i2 e, p6.at fun o e => hk _ o D.l2z D.l2TO D.l2i1 D.l2i2 e, .inr ⟨s.heap.objs.size, false, _, z', hT, hS⟩⟩ hT hsz fun c o c1 c2 c3 c4 e => hk c o c1 c2 c3 c4 e
  · have T1 : T ≠ z := Nat.ne_of_gt (Nat.lt_trans L.z_ q3)
    have T3 : T ≠ i1 := Nat.ne_of_gt (Nat.lt_trans L.h1 q3)
    have T4 : T ≠ i2 := Nat.ne_of_gt (Nat.lt_trans L.h2 q3)
    refine zt_pyNext_item D q1 q2 p1 p3 p4 p5 p6 hx hy fun h' z' h1' h2' hT hsz hk => ?_
    refine hQ h' ⟨hk _ _ D.TIz D.TIi1 D.TIi2 p1, ⟨x0, y0, hk _ _ D.TOz D.TOi1 D.TOi2 p2⟩, h1', h2', p5.at fun o e => hk _ o D.l1z D.l1i1 D.l1i2 e, p6.at fun o e => hk _ o D.l2z D.l2i1 D.l2i2 e, .inr ⟨T, true, oT, z', hk _ _ T1 T3 T4 q2, q3⟩⟩ hT hsz fun c o c1 _ c3 c4 e => hk c o c1 c3 c4 e
theorem zl_done {Q : Option Value → Shared → Prop} (hh : A.handled = none) (D : ZipApart z TI TO i1 i2 a b) (st : ZSt s.heap z TI TO i1 i2 a b S i xs ys) (he : xs[i]? = none ∨ ys[i]? = none)
    (hQ : ∀ h', ZKeep z TO i1 i2 s.heap h' → Q none { s with heap := h' }) : wpAny (model prog w) A (pyNext (.ref z)) Q E s := by
  obtain ⟨p1, ⟨x0, y0, p2⟩, p3, p4, p5, p6, p7⟩ := st
  rcases p7 with q | ⟨T, f, oT, q1, q2, q3⟩
  · exact RZ.pyNext_zipT_end hh D q p1 p2 p3 p4 p5 p6 he fun h' hk => hQ h' fun c o c1 c2 c3 c4 e => hk c o c1 c2 c3 c4 e
  · exact zt_pyNext_end hh D q1 q2 p1 p3 p4 p5 p6 he fun h' hk => hQ h' fun c o c1 c2 c3 c4 e => hk c o c1 c3 c4 e
end
section
variable {prog : Program} {w : World} {A : Around} {s : Shared} {R : Result → Shared → Prop}
variable {z TI TO i1 i2 a b S : Nat} {xs ys : Array Value}
theorem zl_loop (hh : A.handled = none) (D : ZipApart z TI TO i1 i2 a b) (L : ZLow z TI TO i1 i2 a b S) (hxy : xs.size = ys.size) (hn : xs.size ≤ sizeLine) (res : Value) {h₁ : Heap}
    (hR : ∀ h' tk acc c as, (∀ d o, d ≠ S → d ≠ z → d ≠ TO → d ≠ i1 → d ≠ i2 → h₁.get? d = some o → h'.get? d = some o) → h'.get? S = some { cls := .type "list", dict := none, data := .seq acc c, slots := #[] } → as.length = xs.size → ZlG xs ys S h' as →
      acc.toList = as.map Value.ref → R (.ok (.ret res)) { s with heap := h', toks := tk }) :
    ∀ (k i : Nat) (h : Heap) (tk c : Nat) (acc : Array Value) (as : List Addr), xs.size - i = k → i ≤ xs.size → ZSt h z TI TO i1 i2 a b S i xs ys → (∀ d o, d ≠ S → d ≠ z → d ≠ TO → d ≠ i1 → d ≠ i2 → h₁.get? d = some o → h.get? d = some o) →
      h.get? S = some { cls := .type "list", dict := none, data := .seq acc c, slots := #[] } → acc.toList = as.map Value.ref → as.length = i → ZlG xs ys S h as →
      codeAny (model prog w) A (.builtin "list.extend.loop" ⟨[.ref S, .ref z, res], []⟩) R { s with heap := h, toks := tk } := by
  have Sz : S ≠ z := Nat.ne_of_gt L.z_
  have STO : S ≠ TO := Nat.ne_of_gt L.TO_
  have S1 : S ≠ i1 := Nat.ne_of_gt L.h1
  have S2 : S ≠ i2 := Nat.ne_of_gt L.h2
  have hi : ∀ d, S < d → d ≠ z ∧ d ≠ TO ∧ d ≠ i1 ∧ d ≠ i2 := fun d hd => ⟨Nat.ne_of_gt (Nat.lt_trans L.z_ hd), Nat.ne_of_gt (Nat.lt_trans L.TO_ hd), Nat.ne_of_gt (Nat.lt_trans L.h1 hd), Nat.ne_of_gt (Nat.lt_trans L.h2 hd)⟩
  intro k
  induction k with
  | zero =>
    intro i h tk c acc as hk hin st hkeep hS hacc hal hG
    have hie : i = xs.size := by omega
    refine codeAny_builtin PySem.F.entry_extend_loop ?_
    rw [Around.under_plainId PySem.F.plain_extend_loop _]
    show wpAny _ A.in1 (pyNext (.ref z) >>= _) _ _ _
    refine wpAny_bind (zl_done (s := { s with heap := h, toks := tk }) (A := A.in1) hh D st (.inl (by rw [hie]; simp)) fun h' he => ?_)
    refine wpAny_pure (hR h' tk acc c as (fun d o d1 d2 d3 d4 d5 e => he d o d2 d3 d4 d5 (hkeep d o d1 d2 d3 d4 d5 e)) (he S _ Sz STO S1 S2 hS) (by omega) ⟨hG.rise, hG.above, fun j d hj => ?_⟩ hacc)
    obtain ⟨x, y, e1, e2, e3⟩ := hG.pairs j d hj
    obtain ⟨n1, n2, n3, n4⟩ := hi d (hG.above d (List.mem_of_getElem? hj))
    exact ⟨x, y, e1, e2, he d _ n1 n2 n3 n4 e3⟩
  | succ k ih =>
    intro i h tk c acc as hk hin st hkeep hS hacc hal hG
    have hlt : i < xs.size := by omega
    have hlt2 : i < ys.size := by omega
    have hsz : acc.size = i := by rw [← Array.length_toList, hacc, List.length_map, hal]
    refine codeAny_builtin PySem.F.entry_extend_loop ?_
    rw [Around.under_plainId PySem.F.plain_extend_loop _]
    show wpAny _ A.in1 (pyNext (.ref z) >>= _) _ _ _
    refine wpAny_bind (zl_item (s := { s with heap := h, toks := tk }) (S := S) D L (Heap.lt_size hS) st (Array.getElem?_eq_getElem hlt) (Array.getElem?_eq_getElem hlt2) fun h' hst' ht hz hkp => ?_)
    dsimp only at ht hz hkp ⊢
    have hS' := hkp S _ Sz STO S1 S2 hS
    have up : ∀ b o, b ≠ S → h'.get? b = some o → (h'.update S (Obj.mapSeq (·.push (Value.ref h.objs.size)))).get? b = some o := fun b o hb e => (Heap.get?_update_other _ _ (Ne.symm hb)).trans e
    have hSl : S < h.objs.size := Heap.lt_size hS
    show wpAny _ A.in1 (updateSeq S (·.push (Value.ref h.objs.size)) >>= _) _ _ _
    refine wpAny_bind ?_
    refine wpAny_updateSeq hS' rfl (wpAny_pure ⟨plainId_quiet PySem.F.plain_extend_loop _, ih (i + 1) _ tk _ (acc.push (Value.ref h.objs.size)) (as ++ [h.objs.size]) (by omega) hlt (hst'.keep L up)
      (fun d o d1 d2 d3 d4 d5 e => up d o d1 (hkp d o d2 d3 d4 d5 (hkeep d o d1 d2 d3 d4 d5 e))) (Heap.get?_update_self _ hS' rfl) (by rw [Array.toList_push, hacc, List.map_append]; rfl) (by rw [List.length_append, hal]; rfl) ⟨?_, ?_, ?_⟩⟩) (by rw [hsz]; omega) (by show (acc.push (Value.ref h.objs.size)).size ≤ sizeLine + 1; rw [Array.size_push, hsz]; omega)
    · refine List.pairwise_append.mpr ⟨hG.rise, List.pairwise_singleton _ _, fun a ha b hb => ?_⟩
      rw [List.mem_singleton.mp hb]
      exact hG.there ha
    · intro a ha
      rcases List.mem_append.mp ha with ha | ha
      · exact hG.above a ha
      · rw [List.mem_singleton.mp ha]; exact hSl
    · intro j d hj
      rcases Nat.lt_trichotomy j as.length with h1 | h1 | h1
      · rw [List.getElem?_append_left h1] at hj
        obtain ⟨x, y, e1, e2, e3⟩ := hG.pairs j d hj
        have hd := hG.above d (List.mem_of_getElem? hj)
        obtain ⟨n1, n2, n3, n4⟩ := hi d hd
        exact ⟨x, y, e1, e2, up d _ (Nat.ne_of_gt hd) (hkp d _ n1 n2 n3 n4 e3)⟩
      · subst h1
        have hb : h.objs.size = d := by simpa using hj
        subst hb
        exact ⟨xs[i], ys[i], by rw [hal]; exact Array.getElem?_eq_getElem hlt, by rw [hal]; exact Array.getElem?_eq_getElem hlt2, up _ _ (Nat.ne_of_gt hSl) ht⟩
      · have hnone : (as ++ [h.objs.size])[j]? = none := List.getElem?_eq_none (by rw [List.length_append, List.length_singleton]; omega)
        rw [hnone] at hj; cases hj
end
theorem zip_no_len : typeLookup (.type "zip") "__len__" = pure none := am_miss_of_fast (by decide +kernel)
theorem zip_no_hint : typeLookup (.type "zip") "__length_hint__" = pure none := am_miss_of_fast (by decide +kernel)
section
variable {prog : Program} {w : World} {A : Around} {E : Value → Shared → Prop} {s : Shared}
variable {z TI TO i1 i2 a b S : Nat} {xs ys : Array Value}
theorem ZSt.ty {h : Heap} {i : Nat} (st : ZSt h z TI TO i1 i2 a b S i xs ys) : ∃ o, h.get? z = some o ∧ o.cls = .type "zip" := by
  rcases st.z_ with q | ⟨T, f, oT, q1, _, _⟩
  · exact ⟨_, q, rfl⟩
  · exact ⟨_, q1, rfl⟩
theorem zl_extend {R : Result → Shared → Prop} (hh : A.handled = none) (D : ZipApart z TI TO i1 i2 a b) (L : ZLow z TI TO i1 i2 a b S) (hxy : xs.size = ys.size) (hn : xs.size ≤ sizeLine) (hz : IsZip s.heap z TI TO .none) (st : ZSt s.heap z TI TO i1 i2 a b S 0 xs ys) (res : Value) (c₀ : Nat) (hS : s.heap.get? S = some { cls := .type "list", data := .seq #[] c₀ })
    (hR : ∀ h' tk acc c as, (∀ d o, d ≠ S → d ≠ z → d ≠ TO → d ≠ i1 → d ≠ i2 → s.heap.get? d = some o → h'.get? d = some o) → h'.get? S = some { cls := .type "list", dict := none, data := .seq acc c, slots := #[] } → as.length = xs.size → ZlG xs ys S h' as →
      acc.toList = as.map Value.ref → R (.ok (.ret res)) { s with heap := h', toks := tk }) :
    wpAny (model prog w) A.in1 (Builtin.List.listExtendWith (.ref S) (.ref z) res)
      (fun fin s' => match fin with | .done f => R (.ok f) s' | .again c' => c'.quiet = true ∧ codeAny (model prog w) A c' R s') (fun e s' => R (.error e) s') s := by
  have hT : s.TypeIs (.ref z) "zip" := ⟨_, hz, rfl⟩
  unfold Builtin.List.listExtendWith
  refine wpAny_bind (wpAny_typeOf hT ?_)
  have h1 : Builtin.List.listSameRef (.ref S) (.ref z) = false := by
    have : S ≠ z := Nat.ne_of_gt L.z_
    simp [Builtin.List.listSameRef, this]
  have h2 : (Value.type "zip" == Value.type "list") = false := by decide
  have h3 : (Value.type "zip" == Value.type "tuple") = false := by decide
  simp only [h1, h2, h3, Bool.or_false, Bool.false_eq_true, if_false]
  refine wpAny_bind (wpAny_pyIter_zip hz ?_)
  refine wpAny_bind (wpAny_holding ?_)
  unfold Builtin.List.listLengthHint
  refine wpAny_bind (wpAny_specialOf hT zip_no_len ?_)
  show wpAny _ A.in1 (specialOf (Value.ref z) (Str.ofString "__length_hint__") >>= _) _ _ _
  refine wpAny_bind (wpAny_specialOf hT zip_no_hint ?_)
  refine wpAny_pure ?_
  show wpAny _ A.in1 (rule "list.extend.makes-room" >>= fun _ => Builtin.List.listTouch (.ref S) >>= fun _ =>
    again (.builtin "list.extend.loop" ⟨[.ref S, .ref z, res], []⟩)) _ _ _
  refine wpAny_bind (wpAny_rule ?_)
  refine wpAny_bind ?_
  show wpAny _ A.in1 (updateSeq S (·.push .none) >>= fun _ => updateSeq S (·.pop)) _ _ _
  refine wpAny_bind (wpAny_updateSeq hS rfl ?_)
  have hS₂ := Heap.get?_update_self (Obj.mapSeq (·.push Value.none)) hS rfl
  refine wpAny_updateSeq (hz := by seq_fits) hS₂ rfl ?_
  have hS₃ := Heap.get?_update_self (Obj.mapSeq (·.pop)) hS₂ rfl
  have oth : ∀ b o, b ≠ S → s.heap.get? b = some o → ((s.heap.update S (Obj.mapSeq (·.push Value.none))).update S (Obj.mapSeq (·.pop))).get? b = some o :=
    fun b o hb e => (Heap.get?_update_other _ _ (Ne.symm hb)).trans ((Heap.get?_update_other _ _ (Ne.symm hb)).trans e)
  refine wpAny_pure ⟨plainId_quiet F.plain_extend_loop _, ?_⟩
  exact zl_loop (s := s) (h₁ := s.heap) hh D L hxy hn res hR xs.size 0 _ s.toks _ #[] [] (Nat.sub_zero _) (Nat.zero_le _) (st.keep L oth) (fun d o d1 _ _ _ _ e => oth d o d1 e) hS₃ rfl rfl ⟨List.Pairwise.nil, (fun _ ha => nomatch ha), (fun j a hj => by simp at hj)⟩
theorem zl_init {R : Result → Shared → Prop} (hh : A.handled = none) (D : ZipApart z TI TO i1 i2 a b) (L : ZLow z TI TO i1 i2 a b S) (hxy : xs.size = ys.size) (hn : xs.size ≤ sizeLine) (hz : IsZip s.heap z TI TO .none) (st : ZSt s.heap z TI TO i1 i2 a b S 0 xs ys) (hS : s.heap.get? S = some { cls := .type "list", data := .seq #[] })
    (hR : ∀ h' tk acc c as, (∀ d o, d ≠ S → d ≠ z → d ≠ TO → d ≠ i1 → d ≠ i2 → s.heap.get? d = some o → h'.get? d = some o) → h'.get? S = some { cls := .type "list", dict := none, data := .seq acc c, slots := #[] } → as.length = xs.size → ZlG xs ys S h' as →
      acc.toList = as.map Value.ref → R (.ok (.ret .none)) { s with heap := h', toks := tk }) :
    wpAny (model prog w) A.in1 (Builtin.«list.__init__» ⟨[.ref S, .ref z], []⟩)
      (fun fin s' => match fin with | .done f => R (.ok f) s' | .again c' => c'.quiet = true ∧ codeAny (model prog w) A c' R s') (fun e s' => R (.error e) s') s := by
  show wpAny _ _ (do let old ← Builtin.List.listItems (.ref S); Builtin.List.listUpdate (.ref S) (fun _ => #[]); letGo old.toList.reverse; Builtin.List.listExtendWith (.ref S) (.ref z) .none) _ _ s
  refine wpAny_bind ?_
  unfold Builtin.List.listItems
  refine wpAny_bind (wpAny_seqItems hS rfl (wpAny_pure ?_))
  show wpAny _ _ (updateSeq S (fun _ => #[]) >>= fun _ => letGo (#[] : Array Value).toList.reverse >>= fun _ => Builtin.List.listExtendWith (.ref S) (.ref z) .none) _ _ s
  refine wpAny_bind (wpAny_updateSeq hS rfl ?_)
  have hS₂ := Heap.get?_update_self (Obj.mapSeq (fun _ => (#[] : Array Value))) hS rfl
  have oth : ∀ b o, b ≠ S → s.heap.get? b = some o → (s.heap.update S (Obj.mapSeq (fun _ => (#[] : Array Value)))).get? b = some o :=
    fun b o hb e => (Heap.get?_update_other _ _ (Ne.symm hb)).trans e
  refine wpAny_bind (wpAny_letGo ?_)
  refine zl_extend hh D L hxy hn (oth _ _ (Nat.ne_of_lt L.z_) hz) (st.keep L oth) .none _ hS₂ (fun h' tk acc c as hk hS' hl hG hacc => ?_)
  exact hR h' tk acc c as (fun d o d1 d2 d3 d4 d5 e => hk d o d1 d2 d3 d4 d5 (oth d o d1 e)) hS' hl hG hacc
theorem zl_call {Q : Value → Shared → Prop} (hh : A.handled = none) (D : ZipApart z TI TO i1 i2 a b) (hxy : xs.size = ys.size) (hn : xs.size ≤ sizeLine) (hz : IsZip s.heap z TI TO .none) (hTI : IsPair s.heap TI (.ref i1) (.ref i2)) (hTO : ∃ x y, IsPair s.heap TO x y)
    (h1 : s.heap.IsTupleIter i1 a 0) (h2 : s.heap.IsTupleIter i2 b 0) (l1 : s.heap.IsTuple a xs) (l2 : s.heap.IsTuple b ys)
    (hQ : ∀ h' tk acc c as, (∀ d o, d ≠ z → d ≠ TO → d ≠ i1 → d ≠ i2 → s.heap.get? d = some o → h'.get? d = some o) → h'.get? s.heap.objs.size = some { cls := .type "list", dict := none, data := .seq acc c, slots := #[] } → as.length = xs.size → ZlG xs ys s.heap.objs.size h' as →
      acc.toList = as.map Value.ref → Q (.ref s.heap.objs.size) { s with heap := h', toks := tk }) :
    wpAny (model prog w) A (call (.type "list") [.ref z]) Q E s := by
  refine callType_codes (Q₁ := fun obj s₁ => obj = .ref s.heap.objs.size ∧ s₁ = { s with heap := s.heap.push { cls := .type "list", data := .seq #[] } }) PySem.F.called_list (PySem.F.typeCall_list_1 _) PySem.F.entry_list_init
    (code_list_new _ ⟨rfl, rfl⟩) fun obj s₁ h₁ => ?_
  obtain ⟨rfl, rfl⟩ := h₁
  have hS : (s.heap.push { cls := .type "list", data := .seq #[] }).get? s.heap.objs.size = some { cls := .type "list", data := .seq #[] } := Heap.get?_push_size _ rfl
  have ⟨x0, y0, hTO'⟩ := hTO
  have L : ZLow z TI TO i1 i2 a b s.heap.objs.size := ⟨Heap.lt_size hz, Heap.lt_size hTI, Heap.lt_size hTO', by obtain ⟨_, e, _⟩ := h1; exact Heap.lt_size e, by obtain ⟨_, e, _⟩ := h2; exact Heap.lt_size e, by obtain ⟨_, e, _⟩ := l1; exact Heap.lt_size e, by obtain ⟨_, e, _⟩ := l2; exact Heap.lt_size e⟩
  have up : ∀ d o, s.heap.get? d = some o → (s.heap.push { cls := .type "list", data := .seq #[] }).get? d = some o := fun d o e => Heap.get?_push_of_some _ e
  refine ⟨⟨_, hS, rfl⟩, PySem.F.args_list_init_2 _ _, zl_init (A := A.in1) hh D L hxy hn (up _ _ hz) ⟨up _ _ hTI, ⟨x0, y0, up _ _ hTO'⟩, h1.at fun o e => up _ o e, h2.at fun o e => up _ o e, l1.at fun o e => up _ o e, l2.at fun o e => up _ o e, .inl (up _ _ hz)⟩ hS (fun h' tk acc c as hk hS' hl hG hacc => ?_)⟩
  exact ⟨rfl, hQ h' tk acc c as (fun d o d2 d3 d4 d5 e => hk d o (Nat.ne_of_lt (Heap.lt_size e)) d2 d3 d4 d5 (up d o e)) hS' hl hG hacc⟩
end
end SmZ
namespace Sm
open PySem L2 Evl PyProof.Rows LiI
/-- the pairs tracked at their addresses -/
def putP : Hp → List Addr → List (V × V) → Hp
  | H, a :: as, p :: kvs => putP (upd H a (.tup [p.1, p.2])) as kvs
  | H, _, _ => H
theorem putP_off {b : Addr} : ∀ (as : List Addr) (kvs : List (V × V)) (H : Hp), b ∉ as → putP H as kvs b = H b
  | [], _, _, _ => rfl
  | _ :: _, [], _, _ => rfl
  | a :: as, p :: kvs, H, h => by
    show putP (upd H a (.tup [p.1, p.2])) as kvs b = H b
    rw [putP_off as kvs _ (fun z => h (List.mem_cons_of_mem _ z)), upd_ne (fun z => h (by rw [z]; exact List.mem_cons_self))]
theorem putP_at : ∀ (as : List Addr) (kvs : List (V × V)) (H : Hp), as.length = kvs.length → as.Nodup → Paired (fun (t : Addr) (p : V × V) => putP H as kvs t = some (.tup [p.1, p.2])) as kvs
  | [], [], _, _, _ => .nil
  | [], _ :: _, _, h, _ => by cases h
  | _ :: _, [], _, h, _ => by cases h
  | a :: as, p :: kvs, H, h, hn => by
    have hn' := List.nodup_cons.mp hn
    have ih := putP_at as kvs (upd H a (.tup [p.1, p.2])) (Nat.succ.inj h) hn'.2
    refine .cons ?_ ih
    show putP (upd H a (.tup [p.1, p.2])) as kvs a = some (.tup [p.1, p.2])
    rw [putP_off as kvs _ hn'.1, upd_same]
def rListZip (K : PySem.W.Frag) : List V → Hp → VK → Prop := fun vs H1 Q => ∃ (a b : Addr) (xs ys : List V), vs = [.ref a, .ref b] ∧ SqT K H1 a xs ∧ SqT K H1 b ys ∧ xs.length = ys.length ∧
  ∀ (S : Addr) (as : List Addr), H1 S = none → (∀ t ∈ as, H1 t = none) → S ∉ as → as.Nodup → as.length = xs.length → Q (.ref S) (upd (putP H1 as (xs.zip ys)) S (.lst (as.map V.ref)))
def tListZip (K : PySem.W.Frag) (ta : TA) : TE := fun σ H Q => ta σ H fun vs H1 => rListZip K vs H1 Q
section
variable {X : Cx}
theorem zip_laid {pins : List (Addr × Obj)} {σ : L2.St} {H : Hp} {s : Shared} {h' : Heap} {tk : Nat} {xs ys : List V} {us ws : List Value} {acc : Array Value} {c S : Nat} {as : List Addr} (I : L2.Inv X pins σ H s) (hz : xs.length ≤ sizeLine) (rx : Vals xs us) (ry : Vals ys ws) (hxy : xs.length = ys.length)
    (hge : s.heap.objs.size ≤ S) (hk : ∀ b o, s.heap.get? b = some o → h'.get? b = some o) (hS : h'.get? S = some { cls := .type "list", dict := none, data := .seq acc c, slots := #[] }) (hl : as.length = xs.length) (hG : SmZ.ZlG us.toArray ws.toArray S h' as) (hacc : acc.toList = as.map Value.ref) :
    H S = none ∧ (∀ t ∈ as, H t = none) ∧ S ∉ as ∧ as.Nodup ∧ L2.Inv X pins σ (upd (putP H as (xs.zip ys)) S (.lst (as.map V.ref))) { s with heap := h', toks := tk } := by
  have hSn : S ∉ as := fun z => Nat.lt_irrefl _ (hG.above _ z)
  have nd : as.Nodup := List.Pairwise.imp (fun {a b} (h : a < b) => Nat.ne_of_lt h) hG.rise
  have new : ∀ t ∈ as, H t = none := fun t ht => I.hok.fresh (Nat.le_trans hge (Nat.le_of_lt (hG.above t ht)))
  have newS : H S = none := I.hok.fresh hge
  have atP := putP_at as (xs.zip ys) H (by rw [List.length_zip]; omega) nd
  have off : ∀ b, b ∉ as → b ≠ S → upd (putP H as (xs.zip ys)) S (.lst (as.map V.ref)) b = H b := fun b h1 h2 => by rw [upd_ne h2, putP_off as _ _ h1]
  have low : ∀ b o, s.heap.get? b = some o → b ∉ as ∧ b ≠ S := fun b o e => ⟨fun z => absurd (Nat.lt_of_lt_of_le (Heap.lt_size e) hge) (Nat.not_lt.mpr (Nat.le_of_lt (hG.above b z))), Nat.ne_of_lt (Nat.lt_of_lt_of_le (Heap.lt_size e) hge)⟩
  have kp : ∀ b u, H b = some u → (upd (putP H as (xs.zip ys)) S (.lst (as.map V.ref))) b = some u := fun b u e => by
    rw [off b (fun z => by rw [new b z] at e; cases e) (fun z => by rw [z, newS] at e; cases e)]
    exact e
  have eS : upd (putP H as (xs.zip ys)) S (.lst (as.map V.ref)) S = some (.lst (as.map V.ref)) := upd_same
  refine ⟨newS, new, hSn, nd, ?_⟩
  refine I.call' (ch := []) rfl ⟨fun b o q _ _ _ => hk b o q, fun b o q _ _ _ => ⟨o.slots, hk b o q⟩, fun b o q n _ => ?_, fun b o q _ => ⟨o, hk b o q⟩, fun b xs q => kp b _ q, fun b o u q => kp b _ q, fun b ps q => ⟨#[], by rw [kp b _ q]; simp⟩⟩ (fun b u q => ?_) I.bare fun b z => by simp at z
  · obtain ⟨z1, z2⟩ := low b o q
    rw [off b z1 z2]
    exact n
  · by_cases hb : b ∈ as
    · obtain ⟨j, pk, e1, e2, e3⟩ := paired_ix atP hb
      have hne : b ≠ S := fun z => hSn (z ▸ hb)
      rw [upd_ne hne, e3] at q
      cases q
      obtain ⟨x, y, f1, f2, f3⟩ := hG.pairs j b e1
      rw [List.getElem?_zip_eq_some] at e2
      obtain ⟨g1, g2⟩ := e2
      obtain ⟨x', k1, k2⟩ := rx.get g1
      obtain ⟨y', k3, k4⟩ := ry.get g2
      have ex : x' = x := by
        have : us[j]? = some x := by simpa using f1
        rw [this] at k1; cases k1; rfl
      have ey : y' = y := by
        have : ws[j]? = some y := by simpa using f2
        rw [this] at k3; cases k3; rfl
      subst ex ey
      exact ⟨by show 2 ≤ sizeLine; decide, [x', y'], .cons k2 (.cons k4 .nil), ⟨_, f3, rfl, _, rfl⟩⟩
    · by_cases hb2 : b = S
      · rw [hb2] at q ⊢
        rw [eS] at q
        cases q
        refine ⟨by rw [List.length_map]; omega, acc.toList, c, by rw [hacc]; exact LiI.vals_refs as, ?_⟩
        rw [Array.toArray_toList]
        exact hS
      · rw [off b hb hb2] at q
        exact (I.hok b u q).stay (fun d v _ y => hk d v y) (fun d y => kp d _ y) fun d xs y => kp d _ y
theorem pe_listZip {e e2 : Expr} {ta : TA} {p p2 zpos pos : Pos} (hc : X.calm = true) (hg : Gl X "list") (hm : X.mg "list" = none) (hv : bootBuiltins "list" = some (.type "list")) (hg2 : Gl X "zip") (hm2 : X.mg "zip" = none) (ha : PA X [e, e2] ta)
    (hs : starEach [e, e2] X.env = (false, eval e X.env) :: starEach [e2] X.env := by rfl) (hpl : (backTo zpos (starEach [e2] X.env)).any (·.1) = false := by rfl) (hn : starEach [.Call (.Name "zip" p2) [e, e2] [] zpos] X.env = (false, eval (.Call (.Name "zip" p2) [e, e2] [] zpos) X.env) :: starEach [] X.env := by rfl) :
    PE X (.Call (.Name "list" p) [.Call (.Name "zip" p2) [e, e2] [] zpos] [] pos) (tListZip X.K ta) := by
  refine ⟨fun pins s σ H Q I h => ?_⟩
  refine Call_ (ld_blt I hg hm hv ?_)
  refine PyProof.Rows.callWith_type1 (PyProof.Rows.args_cons ?_ hn) hn rfl
  refine Call_ (ld_blt I hg2 hm2 PyProof.Rows.boot_zip (PyProof.Rows.callWith_type1 (thn (ha.run zpos pins s σ H _ I h) fun us s1 ⟨vs, H1, I1, r1, q1⟩ => ?_) hs hpl))
  obtain ⟨a, b, xs, ys, ex, hqx, hqy, hxy, q⟩ := q1
  subst ex
  cases r1 with
  | cons r rr =>
    cases rr with
    | cons r' rr =>
      cases rr
      cases r
      cases r'
      obtain ⟨its, rv, p1, hz1⟩ := I1.tuple hqx
      obtain ⟨its2, rv2, p2', hz2⟩ := I1.tuple hqy
      obtain ⟨o1, ho1, _⟩ := id p1
      obtain ⟨o2, ho2, _⟩ := id p2'
      have l1 := rv.length
      have l2 := rv2.length
      refine RZ.call_zipT (show s1.heap.IsTuple a its.toArray from p1) (show s1.heap.IsTuple b its2.toArray from p2') fun h' hz hTI hTO h1 h2 hsz hk => ?_
      refine PyProof.Rows.args_nil ?_
      have up : ∀ d, d < s1.heap.objs.size → d ≠ s1.heap.objs.size + 4 ∧ d ≠ s1.heap.objs.size + 3 ∧ d ≠ s1.heap.objs.size ∧ d ≠ s1.heap.objs.size + 1 := fun d hd => ⟨by intro z; subst z; omega, by intro z; subst z; omega, by intro z; subst z; omega, by intro z; subst z; omega⟩
      have hzz : xs.length ≤ sizeLine := by omega
      refine SmZ.zl_call (s := { s1 with heap := h' }) (xs := its.toArray) (ys := its2.toArray) (I1.ok.hd hc) (PySem.W.ktu_apart s1.heap.objs.size a b (Heap.lt_size ho1) (Heap.lt_size ho2)) (by simp; omega) (by simp; omega) hz hTI ⟨_, _, hTO⟩ h1 h2 ((show s1.heap.IsTuple a its.toArray from p1).at fun o e => hk _ o e) ((show s1.heap.IsTuple b its2.toArray from p2').at fun o e => hk _ o e) fun h'' tk acc c as hk2 hS hl hG hacc => ?_
      dsimp only at hS hG hk2 hl ⊢
      rw [hsz] at hS hG ⊢
      have hkk : ∀ d o, s1.heap.get? d = some o → h''.get? d = some o := fun d o e => by
        obtain ⟨n1, n2, n3, n4⟩ := up d (Heap.lt_size e)
        exact hk2 d o n1 n2 n3 n4 (hk d o e)
      obtain ⟨j1, j2, j3, j4, J⟩ := zip_laid (tk := tk) I1 hzz rv rv2 hxy (by omega : s1.heap.objs.size ≤ s1.heap.objs.size + 5) hkk hS (by rw [hl]; simp; omega) hG hacc
      exact ⟨.ref _, _, J, rfl, q _ as j1 j2 j3 j4 (by rw [hl]; simp; omega)⟩
end
/-! ### its plain form -/
theorem RDs.zip2 {K : PySem.W.Frag} {mg : Str → Option Value} {G F H : Hp} {st : S} {σ : L2.St} : ∀ (as : List Addr) {ds es : List D} {vs ws : List V}, RDs K mg F ds vs → RDs K mg F es ws → as.length = vs.length → vs.length = ws.length → Rep K mg G F st σ H → (∀ t ∈ as, H t = none) → as.Nodup →
    ∃ F', Gr G F F' ∧ Rep K mg G F' st σ (putP H as (vs.zip ws)) ∧ RDs K mg F' (zipD ds es) (as.map V.ref) := by
  intro as
  induction as generalizing F H with
  | nil =>
    intro ds es vs ws r r2 hl hw R hf hn
    have hv : vs = [] := List.eq_nil_of_length_eq_zero (by simpa using hl.symm)
    subst hv
    cases r
    exact ⟨F, Gr.refl F, R, .nil⟩
  | cons a as ih =>
    intro ds es vs ws r r2 hl hw R hf hn
    cases r with
    | nil => simp at hl
    | @cons d v ds vs h t =>
      cases r2 with
      | nil => simp at hw
      | @cons d2 v2 es ws h2 t2 =>
        have hn' := List.nodup_cons.mp hn
        obtain ⟨g1, R1⟩ := R.laidF (o := .tup [v, v2]) (hf a List.mem_cons_self) fun _ z => nomatch z
        obtain ⟨F', g2, R2, rr⟩ := ih (t.mono g1.1) (t2.mono g1.1) (by simpa using hl) (by simpa using hw) R1 (fun t ht => by
          rw [upd_ne (fun z => hn'.1 (by rw [← z]; exact ht))]
          exact hf t (List.mem_cons_of_mem _ ht)) hn'.2
        refine ⟨F', g1.trans g2, R2, .cons (.tup (g2.1 _ _ upd_same) (.cons (h.mono (g1.trans g2).1) (.cons (h2.mono (g1.trans g2).1) .nil))) rr⟩
def dLZip (r : DA) : DE := fun st => match r st with
  | some ([.tup xs, .tup ys], s1) => if xs.length = ys.length then some (.lst (zipD xs ys), s1) else none
  | _ => none
@[simp ↓] theorem ap_LZip (r : DA) (st : S) : dLZip r st = match r st with
  | some ([.tup xs, .tup ys], s1) => if xs.length = ys.length then some (.lst (zipD xs ys), s1) else none
  | _ => none := (rfl)
section
variable {X : Cx} {a b : Expr} {r : DA} {p p2 zpos pos : Pos}
theorem se_lzip (hc : X.calm = true) (hg : Gl X "list") (hm : X.mg "list" = none) (hg2 : Gl X "zip") (hm2 : X.mg "zip" = none) (ha : SA X [a, b] r)
    (hs : starEach [a, b] X.env = (false, eval a X.env) :: starEach [b] X.env := by rfl) (hpl : (backTo zpos (starEach [b] X.env)).any (·.1) = false := by rfl) (hn : starEach [.Call (.Name "zip" p2) [a, b] [] zpos] X.env = (false, eval (.Call (.Name "zip" p2) [a, b] [] zpos) X.env) :: starEach [] X.env := by rfl) :
    SE X (.Call (.Name "list" p) [.Call (.Name "zip" p2) [a, b] [] zpos] [] pos) (dLZip r) := ⟨pe_imp (pe_listZip hc hg hm bt_list hg2 hm2 ha.pa hs hpl hn) fun σ H Q q => by
  obtain ⟨G, F, st, sv, st', Rp, e, k⟩ := q
  unfold dLZip at e
  split at e
  · rename_i xs ys s1 e1
    split at e
    · rename_i hl
      cases e
      refine ⟨G, F, st, _, _, Rp, e1, fun vs F1 H1 g1 R1 r1 => ?_⟩
      obtain ⟨v, w, rfl, h, h2⟩ := r1.two
      obtain ⟨p, us, rfl, hp, rr⟩ := h.tup_inv
      obtain ⟨p2, us2, rfl, hp2, rr2⟩ := h2.tup_inv
      have hle : us.length = us2.length := by rw [← rr.length, ← rr2.length]; exact hl
      refine ⟨p, p2, us, us2, rfl, ex_t R1.f hp, ex_t R1.f hp2, hle, fun S as hS hf hSn hnd hal => ?_⟩
      obtain ⟨F', g2, R2, r3⟩ := RDs.zip2 as rr rr2 hal hle R1 hf hnd
      have k' : Kn X.K X.mg G F' _ σ (.lst (zipD xs ys)) Q := fun v F2 H2 g3 R3 r3 s3 => k v F2 H2 ((g1.trans g2).trans g3) R3 r3 s3
      exact k'.newL R2 (by rw [putP_off as _ _ hSn]; exact hS) r3
    · cases e
  · cases e⟩
end
end Sm
/-! super().__init__(e, ..): a def that closes over __class__, its first statement this call. -/
namespace Sm
open PySem PySem.Spec PyProof.Rows L2 Evl
/-- a method's scope, of its own names and __class__ -/
structure FnScopeX (N P : List Str) (sc : Scope) : Prop where
  kind : sc.kind = .function
  co : sc.isCoroutine = false
  gen : sc.isGenerator = false
  nd : N.Nodup
  pre : N.take P.length = P
  par : ∀ x ∈ P, sc.names.lookup x = some .local
  nocell : ∀ y ∈ sc.names, y.2 ≠ .cell
  free : ∀ y ∈ sc.names, y.2 = .free → y.1 = ("__class__" : Str)
  sup : sc.names.lookup ("super" : Str) = some .globalImplicit
  cls : sc.names.lookup ("__class__" : Str) = some .free
abbrev envS (qual : Str) (scope : Scope) (L f : Addr) (cd : Value) (cc : Addr) : Env := PySem.W.ksEnv qual scope L f cd cc
def cxX (CX : CXT) (P : Program) (w : World) (K : PySem.W.Frag) (mg : Str → Option Value) (base : Heap) (N : List Str) (qual : Str) (scope : Scope) (f : Addr) (cd : Value) (cc : Addr) (A : Around) (outer : List Env) (s : Shared) (H : Hp) (E : XK) : Cx where
  prog := P
  w := w
  K := K
  mg := mg
  base := base
  A := A.deeper (envS qual scope s.heap.objs.size f cd cc)
  N := N
  s_0 := s
  H_0 := H
  env := envS qual scope s.heap.objs.size f cd cc
  outer := outer
  stack := envS qual scope s.heap.objs.size f cd cc :: outer
  ex := []
  calm := true
  fn := fun x => !(x == ("__class__" : Str))
  pn := []
  xe := fun e s' => wpAny (model P w) (A.deeper (envS qual scope s.heap.objs.size f cd cc)) (leaving (envS qual scope s.heap.objs.size f cd cc) e) (fun _ s'' => CX outer H s E e s'') (fun e' s'' => CX outer H s E e' s'') s'
theorem look1 {x : Str} {c cc : Addr} (h : ([(("__class__" : Str), cc)] : List (Str × Addr)).lookup x = some c) : x = ("__class__" : Str) ∧ c = cc := by
  unfold List.lookup at h
  split at h
  · rename_i hb
    have : x = ("__class__" : Str) := by simpa using hb
    cases h
    exact ⟨this, rfl⟩
  · cases h
theorem zip_rev_get {x : Str} {v : Value} {P : List Str} {vs : List Value} {i : Nat} (nd : P.Nodup) (h1 : P[i]? = some x) (h2 : vs[i]? = some v) : (P.zip vs).reverse.lookup x = some v := by
  have hm : (x, v) ∈ (P.zip vs).reverse := by
    rw [List.mem_reverse]
    have : (P.zip vs)[i]? = some (x, v) := by rw [List.getElem?_zip_eq_some]; exact ⟨h1, h2⟩
    exact List.mem_of_getElem? this
  have uniq : ∀ w, (x, w) ∈ (P.zip vs).reverse → w = v := fun w hw => by
    rw [List.mem_reverse] at hw
    obtain ⟨j, hj⟩ := List.getElem?_of_mem hw
    rw [List.getElem?_zip_eq_some] at hj
    have hji : i = j := by
      have hi' : i < P.length := by
        rcases Nat.lt_or_ge i P.length with h | h
        · exact h
        · rw [List.getElem?_eq_none h] at h1; cases h1
      exact (List.getElem?_inj hi' nd).mp (h1.trans hj.1.symm)
    subst hji
    rw [h2] at hj
    exact (Option.some.inj hj.2).symm
  cases q : (P.zip vs).reverse.lookup x with
  | none =>
    rw [List.lookup_eq_none_iff] at q
    have := q _ hm
    simp at this
  | some u => rw [uniq u (PySem.mem_of_lookup q)]
theorem inv_startX {CX : CXT} {P : Program} {w : World} {K : PySem.W.Frag} {mg : Str → Option Value} {base : Heap} {N ps : List Str} {qual : Str} {scope : Scope} {f cc : Addr} {cd : Value} {A : Around} {outer : List Env} {s : Shared} {h1 : Heap} {tk : Nat} {H : Hp} {E : XK} {us : List Value} {vs : List V} {oc : Obj} {cv : Option Value}
    (S : FnScopeX N ps scope) (hd : A.handled = none) (e0 : Env0 P w K mg base A outer s H) (hl : vs.length = ps.length) (r : Vals vs us) (hcc : K.lookup cc = some oc) (hcv : oc.data = .cell cv)
    (hns : h1.Ns s.heap.objs.size (fun x => (ps.zip us).reverse.lookup x)) (hk : ∀ b o, s.heap.get? b = some o → h1.get? b = some o) :
    L2.Inv (cxX CX P w K mg base N qual scope f cd cc A outer s H E) [] (L2.start N vs) H { s with heap := h1, toks := tk } := by
  have hpl : ps.length ≤ N.length := by have := congrArg List.length S.pre; rw [List.length_take] at this; omega
  have hb0 : base.get? cc = some oc := e0.mod.kin _ _ hcc
  obtain ⟨hs0, hH0⟩ := e0.bs _ _ hb0
  have noA : ∀ b : Addr, b ∉ (cxX CX P w K mg base N qual scope f cd cc A outer s H E).ex := fun b z => absurd (show b ∈ ([] : List Addr) from z) (by simp)
  refine ⟨⟨e0.mod, S.kind, rfl, rfl, Nat.le_refl _, fun y z c h1 h2 => ?_, fun y hy => ?_, fun y c hf h => ?_, fun _ => hd, Around.frames_deeper e0.frames, .inr ⟨rfl, rfl⟩, fun b z => absurd z (noA b), e0.bs, e0.bsz, fun b _ _ => noA b, fun b z => absurd z (noA b), e0.funs, e0.frf⟩,
    rfl, e0.bare, Un.kept hk, ⟨_, hns, fun i y v h1 h2 h3 => ?_⟩, fun y c h => ?_, e0.hok.fresh (Nat.le_refl _), fun y c h => ?_, fun p hp => absurd (show p ∈ ([] : List (Addr × Obj)) from hp) (by simp), e0.hok.kept hk, ?_⟩
  · rw [(look1 h1).1, (look1 h2).1]
  · have hy : scope.names.lookup y = some .cell ∨ scope.names.lookup y = some .free := hy
    rcases hy with hy | hy
    · exact absurd rfl (S.nocell _ (PySem.mem_of_lookup hy))
    · have := S.free _ (PySem.mem_of_lookup hy) rfl
      exact ⟨cc, by rw [show y = ("__class__" : Str) from this]; rfl⟩
  · have := (look1 h).1
    subst this
    exact absurd (show (!(("__class__" : Str) == ("__class__" : Str))) = true from hf) (by decide)
  · have hi : i < vs.length := by
      unfold L2.start at h2
      by_cases hi : i < vs.length
      · exact hi
      · rw [List.getElem?_append_right (by simpa using hi)] at h2
        rw [List.getElem?_replicate] at h2
        split at h2 <;> cases h2
    have ha : vs[i]? = some v := by
      unfold L2.start at h2
      rw [List.getElem?_append_left (by simpa using hi), List.getElem?_map] at h2
      cases e : vs[i]? with
      | none => rw [e] at h2; cases h2
      | some a => rw [e] at h2; cases h2; rfl
    obtain ⟨u, hu, rv⟩ := r.get ha
    have hp : ps[i]? = some y := by
      rw [← S.pre, List.getElem?_take_of_lt (by omega)]; exact h1
    have ndP : ps.Nodup := by rw [← S.pre]; exact S.nd.sublist (List.take_sublist _ _)
    exact ⟨u, rv, .inl ⟨S.par y (List.mem_of_getElem? hp), zip_rev_get ndP hp hu⟩⟩
  · obtain ⟨-, rfl⟩ := look1 h
    exact ⟨cv, oc, hk _ _ hs0, hcv⟩
  · obtain ⟨-, rfl⟩ := look1 h
    exact hH0
  · show (L2.start N vs).length = N.length
    unfold L2.start
    rw [List.length_append, List.length_map, List.length_replicate]
    omega
end Sm
/-! The call super().__init__(e, ..) itself. -/
namespace Sm
open PySem PySem.Spec PyProof.Rows L2 Evl
/-- what is written of a def at f that closes over its class D by the cell cc; f2: the __init__ behind -/
structure SupK (P : Program) (K : PySem.W.Frag) (mg : Str → Option Value) (f cc cda D f2 : Addr) (fd : FuncData) (x0 : Str) : Prop where
  self : ∃ ar, (fd.params.posonlyargs ++ fd.params.args).head? = some ar ∧ ar.arg = x0
  look : ∃ oc od osl, K.lookup f = some ⟨oc, od, .func fd, osl⟩
  code : ∃ ccl cdd vs ccs file tf, K.lookup cda = some ⟨ccl, cdd, .fields vs, ccs⟩ ∧ vs[2]? = some (.str file tf) ∧ ((P.main.file : Str) == file) = true
  cell : ∃ cl cld csl, K.lookup cc = some ⟨cl, cld, .cell (some (.ref D)), csl⟩
  clsD : ∃ cd, PySem.W.clsIn K D = some cd
  sup : mg "super" = none
  top : (P.main.scope.names.lookup ("super" : Str)).isSome = false
  stat : PySem.W.nsIn K cStatics "thirdparty.any" = some none
  mro : PySem.W.mroIn K D (.ref D) = some true
  to : PySem.W.ks_superIn K D D "__init__" = some (some (.ref f2))
  typ : PySem.W.typeIn K (.ref f2) = some (.type "function")
  fn : PySem.W.fnIn K f2 = true
section
variable {P : Program} {w : World} {K : PySem.W.Frag} {mg : Str → Option Value} {base : Heap} {N ps : List Str} {qual : Str} {scope : Scope} {f cc cda D f2 : Addr} {fd : FuncData} {A : Around} {outer : List Env} {s : Shared} {H0 : Hp} {E : XK} {x0 : Str} {k : Nat} {sp2 : Sp}
theorem super_run {pl : Sem Bool} {body : List Stmt} {σ : L2.St} {H : Hp} {s1 : Shared} {a dx : Addr} {fs : List (Str × V)} {e1 : Expr} {es : List Expr} {p0 p1 apos pos : Pos} {t : TA} {R : Hp → Prop}
    (Kx : SupK P K mg f cc cda D f2 fd x0) (S : FnScopeX N ps scope) (h0 : ps[0]? = some x0) (hd0 : (x0 == ("__debug__" : Str)) = false)
    (I : L2.Inv (cxX (L2.CX P w) P w K mg base N qual scope f (.ref cda) cc A outer s H0 E) [] σ H s1) (hσ : σ[0]? = some (some (.ref a))) (hH : H a = some (.ins D dx fs))
    (ha : PA (cxX (L2.CX P w) P w K mg base N qual scope f (.ref cda) cc A outer s H0 E) (e1 :: es) t)
    (hr : Room k (cxX (L2.CX P w) P w K mg base N qual scope f (.ref cda) cc A outer s H0 E).A) (F2 : L2.FnR P w K mg base (L2.CX P w) k f2 sp2)
    (q : t σ H fun ws H1 => sp2 (.ref a :: ws) H1 (fun _ H2 => R H2) E0)
    (hst : starEach (e1 :: es) (envS qual scope s.heap.objs.size f (.ref cda) cc) = (false, eval e1 (envS qual scope s.heap.objs.size f (.ref cda) cc)) :: starEach es (envS qual scope s.heap.objs.size f (.ref cda) cc))
    (hpl : (backTo pos (starEach es (envS qual scope s.heap.objs.size f (.ref cda) cc))).any (·.1) = false)
    (he : eval (.Call (.Attribute (.Call (.Name "super" p0) [] [] p1) "__init__" apos) (e1 :: es) [] pos) (envS qual scope s.heap.objs.size f (.ref cda) cc) = (do
      let ov ← attributeBase (.Call (.Name "super" p0) [] [] p1) "__init__" (envS qual scope s.heap.objs.size f (.ref cda) cc) (eval (.Call (.Name "super" p0) [] [] p1) (envS qual scope s.heap.objs.size f (.ref cda) cc))
      standAt apos.atName
      let (ff, first) ← holding [ov] (getMethod ov "__init__" pl)
      callWith pos ff first (backTo pos (starEach (e1 :: es) (envS qual scope s.heap.objs.size f (.ref cda) cc))) [])) :
    PySem.wpAt (model P w) (A.deeper (envS qual scope s.heap.objs.size f (.ref cda) cc)) (.func body (envS qual scope s.heap.objs.size f (.ref cda) cc))
      (eval (.Call (.Attribute (.Call (.Name "super" p0) [] [] p1) "__init__" apos) (e1 :: es) [] pos) (envS qual scope s.heap.objs.size f (.ref cda) cc))
      (fun _ s' => ∃ H2, L2.Inv (cxX (L2.CX P w) P w K mg base N qual scope f (.ref cda) cc A outer s H0 E) [] σ H2 s' ∧ R H2)
      (cxX (L2.CX P w) P w K mg base N qual scope f (.ref cda) cc A outer s H0 E).xe s1 := by
  obtain ⟨ar, har, hara⟩ := Kx.self
  obtain ⟨oc, od, osl, hlk⟩ := Kx.look
  obtain ⟨ccl, cdd, vs, ccs, file, tf, hcode, hvs, hfile⟩ := Kx.code
  obtain ⟨cl, cld, csl, hcell⟩ := Kx.cell
  obtain ⟨cdD, hD⟩ := Kx.clsD
  have X1 : K.In s1.heap := I.kIn
  have hpre : N[0]? = some x0 := by
    have : (N.take ps.length)[0]? = some x0 := by rw [S.pre]; exact h0
    rw [List.getElem?_take] at this
    split at this
    · exact this
    · cases this
  have hloc : scope.names.lookup x0 = some .local := S.par x0 (List.mem_of_getElem? h0)
  refine PySem.ks_wpAt_MethodCall ?_ he
  refine PySem.ks_wpAt_super_base (env := envS qual scope s.heap.objs.size f (.ref cda) cc) S.sup S.cls (by decide) rfl (X1 _ _ hlk) rfl har rfl (X1 _ _ hcode) rfl hvs hfile Kx.top ?_
  obtain ⟨mb, hmb1, hmb2⟩ := I.mod.blt
  refine PySem.W.ks_loadName_global S.kind S.sup (Calls.loadGlobal_builtin (env := envS qual scope s.heap.objs.size f (.ref cda) cc) (I.mod.glob.keeps I.bk) Kx.sup (hmb1.keeps I.bk) ((hmb2 _ (by decide)).trans (show bootBuiltins "super" = some (.type "super") by decide +kernel)) ⟨rfl, ?_⟩)
  refine wpAny_loadName_free S.kind S.cls rfl ⟨_, X1 _ _ hcell, rfl⟩ ?_
  obtain ⟨m, hm, hl⟩ := I.loc
  obtain ⟨u, hu, hlook⟩ := hl 0 x0 (.ref a) hpre hσ (.inl hloc)
  obtain rfl : u = Value.ref a := hu
  have hma : m x0 = some (.ref a) := by
    rcases hlook with ⟨_, h⟩ | ⟨h, _⟩
    · exact h
    · rcases h with h | h
      · rw [show (cxX (L2.CX P w) P w K mg base N qual scope f (.ref cda) cc A outer s H0 E).env.kindOf x0 = scope.names.lookup x0 from rfl, hloc] at h; cases h
      · rw [show (cxX (L2.CX P w) P w K mg base N qual scope f (.ref cda) cc A outer s H0 E).env.kindOf x0 = scope.names.lookup x0 from rfl, hloc] at h; cases h
  rw [hara]
  refine wpAny_loadName_local S.kind hloc hm hma ?_
  obtain ⟨oD, hD1, hD2⟩ : ∃ oD, s1.heap.get? D = some oD ∧ oD.data = .cls cdD := by
    unfold PySem.W.clsIn at hD
    split at hD
    · rename_i c d cd' sl ho
      cases hD
      exact ⟨_, X1 _ _ ho, rfl⟩
    · cases hD
  obtain ⟨mA, O, _⟩ := ins_get I.hok hH
  obtain ⟨odx, J, _⟩ := O.look
  obtain ⟨hh, g, d, tt, os⟩ := s1
  refine ks_wpAny_isType_cls hD1 hD2 ⟨rfl, ?_⟩
  refine ks_wpAny_call_super hD1 hD2 J.at_ J.cls (fun c e => ?_) (PySem.W.looks_mroIn X1 Kx.mro) (fun h' e kp => ?_)
  · have := J.no
    unfold PySem.W.notCls at this
    rw [e] at this
    exact Bool.noConfusion this
  have I2 := I.kept (t' := tt) kp
  have X2 : K.In h' := I2.kIn
  have J2 : PySem.W.InstAt h' a (PySem.W.instObj D dx) D (some odx) := ⟨kp _ _ J.at_, J.cls, J.no, kp _ _ J.dict⟩
  obtain ⟨of, hof, hofc⟩ : ∃ of, h'.get? f2 = some of ∧ of.cls = .type "function" := by
    have ht' : (K.lookup f2).map (·.cls) = some (.type "function") := Kx.typ
    cases z : K.lookup f2 with
    | none => rw [z] at ht'; cases ht'
    | some of => rw [z] at ht'; exact ⟨of, X2 _ _ z, Option.some.inj ht'⟩
  have hto : PySem.W.alongIn K "__init__" ((cdD.mro.dropWhile (· != .ref D)).drop 1) = some (some (.ref f2)) := by
    have z := Kx.to
    unfold PySem.W.ks_superIn at z
    rw [hD] at z
    exact z
  refine ks_wpAny_getMethod_super (l₀ := cdD.mro) e (PySem.W.looks_opaque X2 Kx.stat) ?_ rfl X2 hto hof hofc (PySem.W.ks_ne X2 J2 hD) (by decide) ?_
  · exact fun A Q E s k q => wpAny_bind ((PySem.W.looks_clsIn X2 hD) A _ E s k (wpAny_pure q))
  have hn : H h'.objs.size = none := I2.hok.fresh (Nat.le_refl _)
  have I3 := I2.kept (h' := h'.push { cls := .type "method", data := .fields #[.ref f2, .ref a] }) (t' := tt + 1) (fun b u e => Heap.get?_push_of_some _ e)
  have hq : (h'.push { cls := .type "method", data := .fields #[.ref f2, .ref a] }).get? h'.objs.size = some { cls := .type "method", data := .fields #[.ref f2, .ref a] } := Heap.get?_push_size _ rfl
  have I4 := I3.pins_of (pins' := [(h'.objs.size, { cls := .type "method", data := .fields #[.ref f2, .ref a] })]) fun p hp => by
    rw [List.mem_singleton] at hp
    subst hp
    exact ⟨hq, hn, fun z => absurd I2.lt (by rw [← z]; exact Nat.lt_irrefl _), I2.nofs (Nat.le_refl _), fun v z => by cases z⟩
  show wpAny _ _ (callWith pos (.ref h'.objs.size) [] (backTo pos (starEach (e1 :: es) _)) []) _ _ _
  have hr1 := thn (ha.run pos _ _ σ H _ I4 q) fun us s2 ⟨ws, H2, I5, r, q2⟩ => (show PySem.W.MethP K h'.objs.size f2 (.ref a) s2.heap ∧ wpAny (model P w) _ (call (.ref h'.objs.size) ([] ++ us)) (fun _ s' => ∃ H2, L2.Inv (cxX (L2.CX P w) P w K mg base N qual scope f (.ref cda) cc A outer s H0 E) [] σ H2 s' ∧ R H2) _ s2 from by
    have hp := I5.pin (h'.objs.size, { cls := .type "method", data := .fields #[.ref f2, .ref a] }) (by simp)
    refine ⟨⟨hp.1, I5.kIn⟩, wpAny_call (ks_codeAny_call_bound hp.1 ?_)⟩
    refine codeAny_mono (run_fnR (us := .ref a :: us) (vs := .ref a :: ws) F2 hr passL I5 (.cons rfl r) q2) fun rr s' hq' => ?_
    cases rr with
    | error e => exact hq'
    | ok fl =>
      cases fl with
      | ret u =>
        obtain ⟨v, H3, I6, rv, q3⟩ := hq'
        exact ⟨H3, I6.pins_of fun p hp => absurd hp (by simp), q3⟩
      | next => exact False.elim hq'
      | brk => exact False.elim hq'
      | cont => exact False.elim hq')
  have hst2 : starEach (e1 :: es) (cxX (L2.CX P w) P w K mg base N qual scope f (.ref cda) cc A outer s H0 E).env = (false, eval e1 (envS qual scope s.heap.objs.size f (.ref cda) cc)) :: starEach es (envS qual scope s.heap.objs.size f (.ref cda) cc) := hst
  rw [hst2] at hr1
  rw [hst]
  exact PySem.W.callWith_of (P := PySem.W.MethP K h'.objs.size f2 (.ref a)) (by show ((false || (backTo pos (starEach es _)).any (·.1)) || false) = false; rw [hpl]; rfl) (PySem.W.keeps_M Kx.fn) (Calls.evalArgs_plain hr1)
end
end Sm
/-! A def whose first statement is super().__init__(e, ..): its denotation. -/
namespace Sm
open PySem PySem.Spec PyProof.Rows L2 Evl
/-- o.__init__(w, ..), the last parameter a star -/
def spOS (K : PySem.W.Frag) (mg : Str → Option Value) (fo : SV → List D → Option (SV × SV)) : Sp := fun vs H Q E => ∃ ws rest, vs = ws ++ rest ∧ ws.length = 2 ∧ rest.length ≤ sizeLine ∧
  ∀ p, H p = none → spO K mg 2 fo (ws ++ [V.ref p]) (upd H p (.tup rest)) Q E
def dSuper (c : Str) (fo : SV → List D → Option (SV × SV)) (r : DA) : DS := fun st => match st[(0 : Nat)]? with
  | some (some (.ins c' _ _)) => if c' = c then (match r st with
    | some (w :: ps, s1) => if ps.length ≤ 1000 then (match s1[(0 : Nat)]? with
      | some (some x) => if x.own = true then (match fo x [w, .tup ps] with
        | some (_, x') => if x'.own = true then some (.nx, s1.set 0 (some x')) else none
        | none => none) else none
      | _ => none) else none
    | _ => none) else none
  | _ => none
section
variable {X : Cx} {c : Str} {C : Addr} {fo : SV → List D → Option (SV × SV)} {r : DA}
theorem super_of {D : Ends} {σ : L2.St} {H : Hp} (hc : X.mg c = some (.ref C)) (q : tS X.K X.mg [0] (dSuper c fo r) D σ H) :
    ∃ a dx fs, σ[0]? = some (some (.ref a)) ∧ H a = some (.ins C dx fs) ∧ tAD X.K X.mg r σ H fun ws H1 => spOS X.K X.mg fo (.ref a :: ws) H1 (fun _ H2 => D.nx σ H2) E0 := by
  obtain ⟨G, F, st, o, st', R, e, k⟩ := q
  unfold dSuper at e
  split at e
  · rename_i c' ns ds h0
    split at e
    · rename_i hcc
      subst hcc
      obtain ⟨v, hv, rs⟩ := R.at_ 0 _ h0
      cases rs with
      | @ins a C' dx _ fs _ _ ga fa hc' ha hn ra =>
        rw [hc] at hc'
        cases hc'
        refine ⟨a, dx, fs, hv, ha, ?_⟩
        split at e
        · rename_i w ps s1 e1
          split at e
          · rename_i hl
            split at e
            · rename_i x h1
              split at e
              · rename_i ox
                split at e
                · rename_i z x' e2
                  split at e
                  · rename_i ox'
                    cases e
                    refine ⟨G, F, st, w :: ps, s1, R, e1, fun vs F1 H1 g1 R1 r1 => ?_⟩
                    cases r1 with
                    | @cons _ vw _ vps rw rps =>
                      have hz : vps.length ≤ sizeLine := by
                        have := rps.length
                        exact Nat.le_of_lt (small1000 (by omega))
                      refine ⟨[.ref a, vw], vps, rfl, rfl, hz, fun p hp => ?_⟩
                      obtain ⟨g', R'⟩ := R1.laidF (o := .tup vps) hp fun _ z => nomatch z
                      exact spO_of (X := X) R' rfl (.cons (rw.mono g'.1) (.cons (.tup upd_same (rps.mono g'.1)) .nil)) h1 ox hv e2 fun _ v F2 H2 g2 R2 _ _ => k F2 H2 σ ((g1.trans g').trans g2) R2 Keeps.refl
                  · cases e
                · cases e
              · cases e
            · cases e
          · cases e
        · cases e
    · cases e
  · cases e
end
/-- a body: super().__init__(e, ..), then the rest -/
structure SupB (X : Cx) (body : List Stmt) (r : DA) (b : DS) : Prop where
  ex : ∃ (e1 : Expr) (es : List Expr) (rest : List Stmt) (p0 p1 apos pos epos : Pos) (pl : Sem Bool), body = .Expr (.Call (.Attribute (.Call (.Name "super" p0) [] [] p1) "__init__" apos) (e1 :: es) [] pos) epos :: rest ∧
    SA X (e1 :: es) r ∧ SSs X [0] rest b ∧ starEach (e1 :: es) X.env = (false, eval e1 X.env) :: starEach es X.env ∧ (backTo pos (starEach es X.env)).any (·.1) = false ∧
    eval (.Call (.Attribute (.Call (.Name "super" p0) [] [] p1) "__init__" apos) (e1 :: es) [] pos) X.env = (do
      let ov ← attributeBase (.Call (.Name "super" p0) [] [] p1) "__init__" X.env (eval (.Call (.Name "super" p0) [] [] p1) X.env)
      standAt apos.atName
      let (ff, first) ← holding [ov] (getMethod ov "__init__" pl)
      callWith pos ff first (backTo pos (starEach (e1 :: es) X.env)) []) ∧
    interactive X.env = false ∧ swapsWith (.Call (.Attribute (.Call (.Name "super" p0) [] [] p1) "__init__" apos) (e1 :: es) [] pos) none epos.line X.env = pure false
theorem sup_mk {X : Cx} {e1 : Expr} {es : List Expr} {rest : List Stmt} {p0 p1 apos pos epos : Pos} {pl : Sem Bool} {r : DA} {b : DS} (ha : SA X (e1 :: es) r) (hb : SSs X [0] rest b)
    (h1 : starEach (e1 :: es) X.env = (false, eval e1 X.env) :: starEach es X.env := by rfl) (h2 : (backTo pos (starEach es X.env)).any (·.1) = false := by rfl)
    (h3 : eval (.Call (.Attribute (.Call (.Name "super" p0) [] [] p1) "__init__" apos) (e1 :: es) [] pos) X.env = (do
      let ov ← attributeBase (.Call (.Name "super" p0) [] [] p1) "__init__" X.env (eval (.Call (.Name "super" p0) [] [] p1) X.env)
      standAt apos.atName
      let (ff, first) ← holding [ov] (getMethod ov "__init__" pl)
      callWith pos ff first (backTo pos (starEach (e1 :: es) X.env)) []) := by rfl)
    (h4 : interactive X.env = false := by rfl) (h5 : swapsWith (.Call (.Attribute (.Call (.Name "super" p0) [] [] p1) "__init__" apos) (e1 :: es) [] pos) none epos.line X.env = pure false := by rfl) :
    SupB X (.Expr (.Call (.Attribute (.Call (.Name "super" p0) [] [] p1) "__init__" apos) (e1 :: es) [] pos) epos :: rest) r b := ⟨⟨e1, es, rest, p0, p1, apos, pos, epos, pl, rfl, ha, hb, h1, h2, h3, h4, h5⟩⟩
/-- a def of the text that closes over its class -/
structure FunX (K : PySem.W.Frag) (x qual : Str) (st : Stmt) (f : Addr) (fd : FuncData) (cc cda : Addr) : Prop where
  ex : ∃ (oc : Value) (od : Option Addr) (kV doc pm : Value) (an : Option Addr) (ct : Value) (osl : Array (Option Value)),
    fd = PySem.W.ksFn x qual (defArgs st) (defBody st) (defScope st) .none kV doc pm an (.ref cda) ct cc ∧ K.lookup f = some ⟨oc, od, .func fd, osl⟩ ∧ PySem.W.codeIn K (.ref cda) qual = true
section
variable {P : Program} {w : World} {K : PySem.W.Frag} {mg : Str → Option Value} {base : Heap}
theorem funX_mk {x qual : Str} {st : Stmt} {f cc cda : Addr} {oc : Value} {od an : Option Addr} {osl : Array (Option Value)} {kV doc pm ct : Value} (l : K.lookup f = some ⟨oc, od, .func (PySem.W.ksFn x qual (defArgs st) (defBody st) (defScope st) .none kV doc pm an (.ref cda) ct cc), osl⟩)
    (c : PySem.W.codeIn K (.ref cda) qual = true) : FunX K x qual st f (PySem.W.ksFn x qual (defArgs st) (defBody st) (defScope st) .none kV doc pm an (.ref cda) ct cc) cc cda := ⟨⟨oc, od, kV, doc, pm, an, ct, osl, rfl, l, c⟩⟩
theorem fn_sup {x qual c x0 : Str} {st : Stmt} {f cc cda D f2 : Addr} {fd : FuncData} {N ps : List Str} {k : Nat} {fo : SV → List Sm.D → Option (SV × SV)} {r : DA} {b : DS}
    (F : FunX K x qual st f fd cc cda) (Kx : SupK P K mg f cc cda D f2 fd x0) (S : FnScopeX N (x0 :: ps) (defScope st)) (hc : mg c = some (.ref D)) (hd0 : (x0 == ("__debug__" : Str)) = false)
    (F2 : FnR P w K mg base (L2.CX P w) k f2 (spOS K mg fo))
    (hb : ∀ (A : Around) (outer : List Env) (s : Shared) (H : Hp) (E : XK), Room k (A.deeper (envS qual (defScope st) s.heap.objs.size f (.ref cda) cc)) → SupB (cxX (L2.CX P w) P w K mg base N qual (defScope st) f (.ref cda) cc A outer s H E) (defBody st) r b) :
    FnOk P w K mg base (L2.CX P w) (k + 1) f fd (x0 :: ps) (spO K mg ps.length (runO N.length (dSeq (dSuper c fo r) b))) := by
  have hpl : (x0 :: ps).length ≤ N.length := by have := congrArg List.length S.pre; rw [List.length_take] at this; omega
  obtain ⟨oc, od, kV, doc, pm, an, ct, osl, rfl, lk, hcd⟩ := F.ex
  refine ⟨fun vs H Q E h => spO_len vs H Q E h, fun A outer s H args us vs Q E hr e0 hbd r1 hsp => ?_⟩
  have hl : vs.length = (x0 :: ps).length := spO_len vs H Q E hsp
  have KX : K.In s.heap := e0.mod.kin.keeps fun b o e => (e0.bs b o e).1
  have lim : s.heap.NoLimit := e0.mod.nolimit.keeps fun b o e => (e0.bs b o e).1
  obtain ⟨e1, es, rest, p0, p1, apos, pos, epos, pl, hbody, ha, hrest, h1, h2, h3, h4, h5⟩ := (hb A outer s H E (hr.deeper _)).ex
  refine ks_codeAny_call_defAt (fd := PySem.W.ksFn x qual (defArgs st) (defBody st) (defScope st) .none kV doc pm an (.ref cda) ct cc) (body := defBody st) (binds := (x0 :: ps).zip us) hr.depth (KX _ _ lk) rfl lim (PySem.W.codeRec_of KX hcd) rfl hbd S.nocell (fun y hy => S.par y.1 (List.of_mem_zip hy).1) (fun h₁ hns hk₁ => ?_) S.co S.gen S.kind
  obtain ⟨cl, cld, csl, hcell⟩ := Kx.cell
  have I := inv_startX (CX := L2.CX P w) (w := w) (qual := qual) (f := f) (cd := .ref cda) (E := E) (tk := s.toks + ((x0 :: ps).zip us).length) S hr.hd e0 hl r1 hcell rfl hns hk₁
  have T := goO (p0 := x0) hpl hsp
  have T2 := seq_of (X := cxX (L2.CX P w) P w K mg base N qual (defScope st) f (.ref cda) cc A outer s H E) T
  obtain ⟨a, dx, fs, hσ, hH, tq⟩ := super_of (X := cxX (L2.CX P w) P w K mg base N qual (defScope st) f (.ref cda) cc A outer s H E) hc T2
  refine ks_wpAt_mono (Q := L2.SP (cxX (L2.CX P w) P w K mg base N qual (defScope st) f (.ref cda) cc A outer s H E) [] { nx := fun _ H' => Q .non H', rt := Q }) (E' := (cxX (L2.CX P w) P w K mg base N qual (defScope st) f (.ref cda) cc A outer s H E).xe) ?_ (fun fl s' hs => ?_) fun e s' hs => hs
  · rw [hbody]
    refine ks_wpAt_execs_cons (ks_wpAt_Expr_any ?_ h4 h5)
    refine ks_wpAt_mono (super_run (sp2 := spOS K mg fo) Kx S rfl hd0 I hσ hH ha.pa (hr.deeper _) F2 tq h1 h2 h3) (fun v s' hs => ?_) fun _ _ z => z
    obtain ⟨H2, I2, q2⟩ := hs
    exact wpAt_of_wpAny (hrest.pss.run [] s' _ H2 _ I2 q2)
  · have fin : ∀ {σ' : L2.St} {H' : Hp} {v : V} {u : Value}, L2.Inv (cxX (L2.CX P w) P w K mg base N qual (defScope st) f (.ref cda) cc A outer s H E) [] σ' H' s' → RelV v u → Q v H' → CE outer P w H s Q u s' :=
      fun {σ' H' v u} J rv q => ⟨v, H', J.os, J.bare, J.base, J.hok, rv, q⟩
    cases fl with
    | ret u =>
      obtain ⟨v, σ', H', J, rv, q⟩ := hs
      exact fin J rv q
    | next =>
      obtain ⟨σ', H', J, q⟩ := hs
      exact fin (v := V.non) (u := Value.none) J rfl q
    | brk =>
      obtain ⟨_, _, _, q⟩ := hs
      exact False.elim q
    | cont =>
      obtain ⟨_, _, _, q⟩ := hs
      exact False.elim q
end
end Sm
/-! A star parameter; self.a, self.b = e; a def that calls itself. -/
namespace Sm
open PySem PySem.Spec PyProof.Rows L2 Evl
section
variable {P : Program} {w : World} {K : PySem.W.Frag} {mg : Str → Option Value} {base : Heap}
/-- def f(self, word, *rest) -/
theorem fn_starO {x qual : Str} {st : Stmt} {f : Addr} {fd : FuncData} {N : List Str} {p0 p1 pv : Str} {k : Nat} {b : DS} (F : Fun K x qual st f fd) (S : FnScope N [p0, p1, pv] (defScope st))
    (h0 : ∀ a c, bindArgs fd ⟨[a, c], []⟩ = (newTuple [] >>= fun t => pure [(p0, a), (p1, c), (pv, t)])) (h1 : ∀ a c r rs, bindArgs fd ⟨a :: c :: r :: rs, []⟩ = (newTuple (r :: rs) >>= fun t => pure [(p0, a), (p1, c), (pv, t)]))
    (hb : ∀ (cdv : Value) (A : Around) (outer : List Env) (s : Shared) (H : Hp) (E : XK), Room k (A.deeper (envOfC qual (defScope st) s.heap.objs.size f cdv)) → SSs (cxOf (L2.CX P w) P w K mg base N qual (defScope st) f cdv A outer s H E).nox [0] (defBody st) b) :
    FnR P w K mg base (L2.CX P w) (k + 1) f (spOS K mg (runO N.length b)) := by
  have hpl : ([p0, p1, pv] : List Str).length ≤ N.length := by have := congrArg List.length S.pre; rw [List.length_take] at this; simp at this ⊢; omega
  obtain ⟨oc, od, kV, doc, pm, an, cdv, ct, osl, rfl, lk, hcd⟩ := F.ex
  exact StX.fn_star (ps := [p0, p1]) (pv := pv) (sp := spO K mg 2 (runO N.length b)) lk hcd S StX.cxUp (StX.bind_star2 (B := fun us => bindArgs _ ⟨us, []⟩) h0 h1) fun A outer s H vs Q E hr h => ⟨_, (hb cdv A outer s H E hr).pss.nox, goO (p0 := p0) (ps := [p1, pv]) hpl h⟩
/-- a promise of nothing -/
theorem fn_none {f : Addr} {fd : FuncData} {ps : List Str} {k : Nat} : FnOk P w K mg base (L2.CX P w) k f fd ps (spP K mg ps.length fun _ => none) :=
  ⟨fun vs H Q E h => (by obtain ⟨G, F, ds, sv, _, _, _, _, e, _⟩ := h; cases e), fun A outer s H args us vs Q E _ _ _ _ h => (by obtain ⟨G, F, ds, sv, _, _, _, _, e, _⟩ := h; cases e)⟩
end
/-! ### self.a, self.b = e -/
section
variable {X : Cx} {P : List Nat}
def gFld (K : PySem.W.Frag) (i : Nat) (ff : Str) : TG := fun v σ H Q => ∃ a C dx fs, σ[i]? = some (some (.ref a)) ∧ H a = some (.ins C dx fs) ∧ Cls K C ∧ NoAttr K C ff ∧ fs.length < 1000 ∧ Q σ (upd H a (.ins C dx (putF ff v fs)))
theorem wpAny_assign_attr {M : Model} {A : Around} {env : Env} {E : Value → Shared → Prop} {s : Shared} {o : Expr} {attr : Str} {pos' : Pos} {v : Value} {Q : Unit → Shared → Prop}
    (h : wpAny M A (eval o env) (fun ov s₂ => wpAny M A (setAttr ov attr v) (fun _ => Q ()) E s₂) E s) : wpAny M A (assign (.Attribute o attr pos') env v) Q E s := fun Γ p hΓ => by
  simp only [assign_Attribute, Sem.wp_bind', Sem.wp_holding, Sem.wp_cmd_standAt, Sem.wp_release, Sem.wp_pure']
  exact Sem.wp_mono M Γ _ (fun ov _ s₂ h₂ => h₂ Γ _ hΓ) (fun _ _ _ h' => h') _ _ (h Γ p hΓ)
theorem pg_fld {i : Nat} {x ff : Str} {p pos' : Pos} (hN : X.N[i]? = some x) (hv : Vis X.env.scope x) (hd : (x == ("__debug__" : Str)) = false := by decide) (hcd : (x == ("__classdict__" : Str)) = false := by decide) :
    PG X (.Attribute (.Name x p) ff pos') (gFld X.K i ff) := by
  refine ⟨fun pins s σ H v u Q I r h => ?_⟩
  obtain ⟨a, C, dx, fs, hσ, ha, c, n, hl, q⟩ := h
  refine wpAny_assign_attr (thn ((pe_var (i := i) hN hv hd hcd).run pins s σ H (fun y H1 => y = .ref a ∧ H1 = H) I ⟨_, hσ, rfl, rfl⟩) fun ov s1 ⟨y, H1, I1, ry, e1, e2⟩ => ?_)
  subst e1 e2
  obtain rfl : ov = Value.ref a := ry
  exact setattr_ok I1 ha c n hl r fun s2 I2 => ⟨σ, _, I2, q⟩
/-- the targets self.a, self.b .. -/
inductive TFs (X : Cx) (i : Nat) : List Expr → List Str → TGs → Prop where
  | nil : TFs X i [] [] gNil
  | cons {x ff : Str} {p pos' : Pos} {es : List Expr} {ffs : List Str} {t : TGs} (h1 : PG X (.Attribute (.Name x p) ff pos') (gFld X.K i ff))
      (hs : (assignEach (.Attribute (.Name x p) ff pos' :: es) X.env).map (·.2) = assign (.Attribute (.Name x p) ff pos') X.env :: (assignEach es X.env).map (·.2)) (r : TFs X i es ffs t) : TFs X i (.Attribute (.Name x p) ff pos' :: es) (ff :: ffs) (gCons (gFld X.K i ff) t)
theorem tfs_cons {i : Nat} {x ff : Str} {p pos' : Pos} {es : List Expr} {ffs : List Str} {t : TGs} (hN : X.N[i]? = some x) (hv : Vis X.env.scope x) (r : TFs X i es ffs t) (hd : (x == ("__debug__" : Str)) = false := by decide) (hcd : (x == ("__classdict__" : Str)) = false := by decide)
    (hs : (assignEach (.Attribute (.Name x p) ff pos' :: es) X.env).map (·.2) = assign (.Attribute (.Name x p) ff pos') X.env :: (assignEach es X.env).map (·.2) := by rfl) : TFs X i (.Attribute (.Name x p) ff pos' :: es) (ff :: ffs) (gCons (gFld X.K i ff) t) := .cons (pg_fld hN hv hd hcd) hs r
theorem TFs.pgs {i : Nat} : ∀ {es : List Expr} {ffs : List Str} {t : TGs}, TFs X i es ffs t → PGs X es t
  | _, _, _, .nil => pgs_nil
  | _, _, _, .cons h1 hs r => pgs_cons h1 r.pgs hs
def dSetFs (c : Str) (i : Nat) : List Str → List D → S → Option S
  | [], [], st => some st
  | ff :: ffs, y :: ys, st => match st[i]? with
    | some (some (.ins c' ns ds)) => if c' = c ∧ ds.length < 1000 then dSetFs c i ffs ys (st.set i (some (.ins c (putD ff y ns ds).1 (putD ff y ns ds).2))) else none
    | _ => none
  | _, _, _ => none
def dUnpF (c : Str) (i : Nat) (ffs : List Str) (f : DE) : DS := fun st => match f st with
  | none => none
  | some (x, s1) => match x.frz with
    | .tup xs => (match dSetFs c i ffs xs s1 with
      | some s2 => some (.nx, s2)
      | none => none)
    | _ => none
theorem dSetFs_len {c : Str} {i : Nat} : ∀ {ffs : List Str} {ys : List D} {st st' : S}, dSetFs c i ffs ys st = some st' → ffs.length = ys.length
  | [], [], _, _, _ => rfl
  | _ :: ffs, _ :: ys, st, st', h => by
    unfold dSetFs at h
    split at h
    · split at h
      · rw [List.length_cons, List.length_cons, dSetFs_len h]
      · cases h
    · cases h
  | [], _ :: _, _, _, h => by cases h
  | _ :: _, [], _, _, h => by cases h
theorem TFs.run {i : Nat} {c : Str} {C : Addr} {G F : Hp} {σ : L2.St} {Q : L2.St → Hp → Prop} (hc : X.mg c = some (.ref C)) (cl : Cls X.K C) : ∀ {es : List Expr} {ffs : List Str} {t : TGs} {ys : List D} {vs : List V} {st st' : S} {H : Hp}, TFs X i es ffs t → (∀ ff ∈ ffs, NoAttr X.K C ff) →
    RDs X.K X.mg F ys vs → Rep X.K X.mg G F st σ H → dSetFs c i ffs ys st = some st' → (∀ H', Rep X.K X.mg G F st' σ H' → Q σ H') → t vs σ H Q
  | _, [], _, [], _, st, st', H, .nil, _, .nil, R, e, q => by cases e; exact ⟨rfl, q H R⟩
  | _, ff :: ffs, _, y :: ys, _, st, st', H, .cons h1 hs r, na, .cons (v := v) (vs := vs) ry rys, R, e, q => by
    unfold dSetFs at e
    split at e
    · rename_i c' ns ds h0
      split at e
      · rename_i hcc
        obtain ⟨rfl, hl⟩ := hcc
        refine ⟨v, vs, rfl, ?_⟩
        obtain ⟨v0, hv0, rs⟩ := R.at_ i _ h0
        cases rs with
        | @ins a C' dx _ fs _ _ ga fa hc' ha hn ra =>
          rw [hc] at hc'
          cases hc'
          subst hn
          obtain ⟨q1, q2⟩ := putD_rd (f := ff) ry ra
          have hlf : fs.length < 1000 := by
            have := ra.length
            rw [List.length_map] at this
            omega
          refine ⟨a, C, dx, fs, hv0, ha, cl, na ff (by simp), hlf, ?_⟩
          exact r.run hc cl (fun f hf => na f (by simp [hf])) rys (R.write h0 rfl hv0 ga fa (.ins ga fa hc upd_same q1 q2)) e q
      · cases e
    · cases e
  | _, [], _, _ :: _, _, _, _, _, .nil, _, _, _, e, _ => by cases e
  | _, _ :: _, _, [], _, _, _, _, .cons _ _ _, _, _, _, e, _ => by cases e
theorem ss_unpF {c : Str} {C : Addr} {i : Nat} {ffs : List Str} {tgs : List Expr} {e : Expr} {f : DE} {pos pt : Pos} {kt} {tt : TGs} {n : Nat} (hc : X.mg c = some (.ref C)) (cl : Cls X.K C) (na : ∀ ff ∈ ffs, NoAttr X.K C ff) (hcalm : X.calm = true) (hT : TFs X i tgs ffs tt) (ha : SE X e f)
    (hn : (assignEach tgs X.env).length = n := by rfl) (hst : (assignEach tgs X.env).findIdx? (·.1) = none := by rfl) (hlen : n = ffs.length := by rfl)
    (hs : swapsWithSole [.Tuple tgs kt pt] e pos.line X.env = pure false := by rfl) (hw : swappedStores [.Tuple tgs kt pt] e X.env = pure none := by rfl)
    (h1 : (assignEach [.Tuple tgs kt pt] X.env).map (·.2) = [assign (.Tuple tgs kt pt) X.env] := by rfl) :
    SS X P (.Assign [.Tuple tgs kt pt] e pos) (dUnpF c i ffs f) := ⟨ps_imp (ps_asg ha.pf (pg_tup (n := n) hcalm hT.pgs hn hst) hs hw h1) fun D σ H q => by
  obtain ⟨G, F, st, o, st', R, e, k⟩ := q
  unfold dUnpF at e
  split at e
  · cases e
  rename_i x s1 e1
  split at e
  · rename_i xs hx
    split at e
    · rename_i s2 e2
      cases e
      refine ⟨G, F, st, x, s1, R, e1, fun v F1 H1 g1 R1 r1 => ?_⟩
      rw [hx] at r1
      obtain ⟨p, vs, rfl, hp, rr⟩ := r1.tup_inv
      refine ⟨p, vs, rfl, ex_t R1.f hp, by rw [← rr.length, ← dSetFs_len e2, hlen], hT.run hc cl na rr R1 e2 fun H' R' => k F1 H' σ g1 R' Keeps.refl⟩
    · cases e
  · cases e⟩
end
end Sm
/-! Truth of instances by a __bool__ of the program that is constant; bool(x). -/
namespace Sm
open PySem PySem.Spec PyProof.Rows L2 Evl
/-- class c says b -/
def BoolC (P : Program) (w : World) (K : PySem.W.Frag) (mg : Str → Option Value) (base : Heap) (k : Nat) (c : Str) (b : Bool) : Prop :=
  ∃ C f fd ps fn, mg c = some (.ref C) ∧ PySem.W.findIn K (.ref C) "__bool__" = some (some (.ref f)) ∧ PySem.W.isFn K (.ref f) = true ∧ FnOk P w K mg base (L2.CX P w) k f fd ps (spP K mg 1 fn) ∧ Binds K fd ps [] ∧ ∀ d, fn [d] = some (.imm (.bl b))
def tbB (tb : List (Str × Bool)) (c : Str) : Option Bool := (tb.find? fun t => decide (t.1 = c)).map (·.2)
def truB (tb : List (Str × Bool)) : D → Option Bool
  | .ins c _ _ => tbB tb c
  | d => truth d
def dTruB (tb : List (Str × Bool)) (f : DE) : DT := fun st => match f st with
  | none => none
  | some (x, s1) => match truB tb x.frz with
    | none => none
    | some b => some (b, s1)
theorem tbB_mem {tb : List (Str × Bool)} {c : Str} {b : Bool} (h : tbB tb c = some b) : (c, b) ∈ tb := by
  obtain ⟨t, h1, h2⟩ := Option.map_eq_some_iff.mp h
  have hm := List.mem_of_find?_eq_some h1
  have hp : t.1 = c := by simpa using List.find?_some h1
  rw [← hp, ← h2]
  exact hm
section
variable {X : Cx} {tb : List (Str × Bool)} {k : Nat}
/-- truth of an instance: its __bool__ is run; A: around here, or further in -/
theorem truthy_own {A : Around} {pins : List (Addr × Obj)} {s : Shared} {σ : L2.St} {H : Hp} {F : Hp} {Q : Bool → Hp → Prop} {c : Str} {ns : List Str} {ds : List D} {v : V} {u : Value} {b : Bool} {E : Value → Shared → Prop}
    (hok : ∀ p ∈ tb, BoolC X.prog X.w X.K X.mg X.base k p.1 p.2) (hr : Room k A) (e0 : Env0 X.prog X.w X.K X.mg X.base A X.stack s H) (I : L2.Inv X pins σ H s) (kg : Kp X.K X.mg (noT H) H) (ef : Exf F H) (r : RD X.K X.mg F (.ins c ns ds) v) (ru : RelV v u) (hb : tbB tb c = some b)
    (q : ∀ F' H', Gr (noT H) F F' → Kp X.K X.mg (noT H) H' → Exf F' H' → Q b H') : wpAny (model X.prog X.w) A (truthy u) (TP X pins σ Q) E s := by
  obtain ⟨C, f, fd, ps, fn, hc, hs, hf, F1, hbi, hfn⟩ := hok _ (tbB_mem hb)
  obtain ⟨a, C', dx, fs, rfl, hc', ha, hn, rr⟩ := r.ins_inv
  rw [hc] at hc'
  cases hc'
  obtain rfl : u = Value.ref a := ru
  obtain ⟨mA, O, _⟩ := ins_get I.hok (ef.1 a _ ha)
  obtain ⟨odx, J, _⟩ := O.look
  have hl : ps.length = 1 := by
    have := F1.len [.ref a] H (fun _ _ => True) E0 ⟨noT H, F, [.ins c ns ds], .imm (.bl b), kg, ef, rfl, .cons r .nil, hfn _, fun _ _ _ _ _ _ _ => trivial⟩
    simpa using this.symm
  have hcall : wpAny (model X.prog X.w) A (call (.ref f) [.ref a]) (fun v' s' => v' = .bool b ∧ TP X pins σ Q b s') E s := by
    have hsp : spP X.K X.mg 1 fn [.ref a] H (fun v' H' => v' = .bl b ∧ Q b H') E0 := ⟨noT H, F, [.ins c ns ds], .imm (.bl b), kg, ef, rfl, .cons r .nil, hfn _, fun v' F2 H2 g2 e1 e2 r2 => by
      cases r2 with | imm r2 => ?_
      exact ⟨r2.bl_inv, q F2 H2 g2 e1 e2⟩⟩
    refine wpAny_call (codeAny_mono (F1.run A X.stack s H ⟨[.ref a], []⟩ [.ref a] [.ref a] _ E0 hr e0 (by simpa using hbi s [.ref a] I.kIn (by simpa using hl.symm)) (.cons rfl .nil) hsp) fun r s' hq => ?_)
    cases r with
    | error e =>
      obtain ⟨_, _, _, _, _, _, _, _, _, _, _, _, z⟩ := hq
      exact z.elim
    | ok fl =>
      cases fl with
      | ret u' =>
        obtain ⟨v', H', I', rv, rfl, q'⟩ := I.after hq
        cases rv
        exact ⟨rfl, H', I', q'⟩
      | next => exact False.elim hq
      | brk => exact False.elim hq
      | cont => exact False.elim hq
  have hsp : wpAny (model X.prog X.w) A (callSpecial? (.ref a) "__bool__" []) (fun r s' => r = some (.bool b) ∧ TP X pins σ Q b s') E s := by
    unfold callSpecial? specialOf
    refine wpAny_bind (wpAny_bind (J.type.here ((PySem.W.looks_findIn I.kIn hs).here ?_)))
    refine wpAny_holding ?_
    refine wpAny_bind ((PySem.W.bind_fn I.kIn _ (beq_iff_eq.mp hf)).here ?_)
    refine wpAny_bind (wpAny_mono hcall (fun v' s' h' => ?_) fun _ _ z => z)
    obtain ⟨rfl, h'⟩ := h'
    exact wpAny_pure ⟨rfl, h'⟩
  unfold truthy
  repeat (first | with_reducible refine wpAny_bind (m := callSpecial? _ _ _ _) (wpAny_mono hsp (fun r s' z => ?_) fun _ _ e => e) | wp_step)
  obtain ⟨rfl, z⟩ := z
  exact wpAny_pure z
theorem st_truB {e : Expr} {f : DE} (hok : ∀ p ∈ tb, BoolC X.prog X.w X.K X.mg X.base k p.1 p.2) (hr : Room k X.A) (h : SE X e f) (he : ∀ whole, isTrue e X.env whole = (do let v ← whole; standAt e.pos; holding [v] (truthy v)) := by intro _; rfl) : ST X e (dTruB tb f) := by
  refine ⟨⟨fun pins s σ H Q I hw => ?_⟩⟩
  obtain ⟨G, F, st, b, st', R, e, k'⟩ := hw
  unfold dTruB at e
  split at e
  · cases e
  rename_i x s1 e1
  split at e
  · cases e
  rename_i b e2
  cases e
  refine isTrue_plain (thn (h.pf.run pins s σ H (fun v H1 => ∃ F1, Gr G F F1 ∧ Rep X.K X.mg G F1 st' σ H1 ∧ RD X.K X.mg F1 x.frz v) I ⟨G, F, st, x, st', R, e1, fun v F1 H1 g1 R1 r1 => ⟨F1, g1, R1, r1⟩⟩) fun u s2 ⟨v, H1, I1, rv, F1, g1, R1, r1⟩ => ?_) (he _)
  cases hx : x.frz with
  | ins c ns ds =>
    rw [hx] at r1 e2
    exact truthy_own hok hr I1.env0 I1 R1.g.self ⟨R1.f, R1.nt⟩ r1 rv e2 fun F' H' g e3 e4 => by
      obtain ⟨R', g'⟩ := R1.after g e3 e4
      exact k' F' H' (g1.trans g') R'
  | _ =>
    rw [hx] at r1 e2
    exact tru_ok pins s2 σ H1 v u Q I1 rv ⟨_, truth_rd r1 R1.f e2, k' F1 H1 g1 R1⟩
end
end Sm
/-! bool(x) of an instance. -/
namespace Sm
open PySem PySem.Spec PyProof.Rows L2 Evl
def cBool (tb : List (Str × Bool)) : List D → Option SV
  | [.non] => some (.imm (.bl false))
  | [.bl b] => some (.imm (.bl b))
  | [.int i] => some (.imm (.bl (i != 0)))
  | [.ins c _ _] => (tbB tb c).map fun b => .imm (.bl b)
  | _ => none
section
variable {prog : Program} {w : World} {A : Around} {E : Value → Shared → Prop}
theorem call_boolI {x : Value} {b : Bool} {Q : Shared → Prop} {s : Shared} (h : ∀ {E' : Value → Shared → Prop}, wpAny (model prog w) A.in1.in1 (truthy x) (fun b' s' => b' = b ∧ Q s') E' s) : wpAny (model prog w) A (call (.type "bool") [x]) (fun v s' => v = .bool b ∧ Q s') E s := by
  refine ks_callType_codesW (Q₁ := fun obj s₁ => obj = .bool b ∧ Q s₁) F.called_bool (fun h => wpAny_of_eq (F.typeCall_bool_1 x) h) F.entry_object_init ?_ fun obj s₁ h₁ => ?_
  · refine codeAny_of_tree ?_
    show wpAny _ A.in1.in1 (do checkBuiltinCall "bool.__new__" ⟨[.type "bool", x], []⟩; again (.builtin "bool.__new__" ⟨[.type "bool", x], []⟩)) _ _ s
    refine wpAny_bind (wpAny_of_eq (F.newCall_bool_1 x) (wpAny_pure ⟨plainId_quiet (by decide +kernel) _, codeAny_builtin F.entry_bool_new ?_⟩))
    rw [Around.under_plainId (by decide +kernel) _]
    obtain ⟨hp, g, d, tk, os⟩ := s
    have f1 := F.conv_sub_bool
    unfold Builtin.«bool.__new__»
    repeat (any_goals (first | assumption | (with_reducible refine wpAny_bind (m := truthy _) (wpAny_mono h (fun r s' z => ?_) fun _ _ e => e)) | wp_step))
    obtain ⟨rfl, z⟩ := z
    exact ⟨rfl, z⟩
  · obtain ⟨rfl, hq⟩ := h₁
    refine ⟨rfl, F.args_object_init_2 _ _, ?_⟩
    exact object_init_meets F.called_bool.init.lookup F.called_bool.made F.newNe_bool prog w A.in1 _ s₁ ⟨rfl, rfl, rfl, hq⟩
end
section
variable {X : Cx} {tb : List (Str × Bool)} {k : Nat}
def rBoolT (X : Cx) (tb : List (Str × Bool)) : List V → Hp → VK → Prop := fun xs H Q => (xs = [.non] ∧ Q (.bl false) H) ∨ (∃ i, xs = [.int i] ∧ Q (.bl (i != 0)) H) ∨ (∃ b, xs = [.bl b] ∧ Q (.bl b) H) ∨
  ∃ F c ns ds v b, xs = [v] ∧ Kp X.K X.mg (noT H) H ∧ Exf F H ∧ RD X.K X.mg F (.ins c ns ds) v ∧ tbB tb c = some b ∧ ∀ F' H', Gr (noT H) F F' → Kp X.K X.mg (noT H) H' → Exf F' H' → Q (.bl b) H'
theorem call_boolT (hok : ∀ p ∈ tb, BoolC X.prog X.w X.K X.mg X.base k p.1 p.2) (hr : Room (k + 2) X.A) : CallR X (.type "bool") (rBoolT X tb) := by
  intro pins s σ H xs us Q I r h
  rcases h with ⟨rfl, q⟩ | ⟨i, rfl, q⟩ | ⟨b, rfl, q⟩ | ⟨F, c, ns, ds, v, b, rfl, kg, ef, rd, hb, q⟩
  · obtain ⟨u, rfl, r1⟩ := vals1 r
    cases r1
    exact call_bool_none ⟨.bl false, H, I, rfl, q⟩
  · obtain ⟨u, rfl, t, rfl⟩ := vals1 r
    exact call_bool_int ⟨.bl (i != 0), H, I, rfl, q⟩
  · obtain ⟨u, rfl, r1⟩ := vals1 r
    cases r1
    exact call_bool_bool ⟨.bl b, H, I, rfl, q⟩
  · obtain ⟨u, rfl, ru⟩ := vals1 r
    refine wpAny_mono (call_boolI (b := b) (Q := fun s' => EP X pins σ Q (.bool b) s') fun {E'} => ?_) (fun v' s' hv => ?_) fun _ _ z => z
    · refine wpAny_mono (truthy_own (Q := fun b' H' => b' = b ∧ Q (.bl b) H') hok hr.in1.in1 I.env0.in1.in1 I kg ef rd ru hb fun F' H' g e1 e2 => ⟨rfl, q F' H' g e1 e2⟩) (fun b' s' hb' => ?_) fun _ _ z => z
      obtain ⟨H', I', rfl, q'⟩ := hb'
      exact ⟨rfl, .bl _, H', I', rfl, q'⟩
    · obtain ⟨rfl, h'⟩ := hv
      exact h'
theorem cs_boolT (hok : ∀ p ∈ tb, BoolC X.prog X.w X.K X.mg X.base k p.1 p.2) (hr : Room (k + 2) X.A) : CallS X (.type "bool") (cBool tb) := by
  refine ⟨_, call_boolT hok hr, ?_⟩
  intro G F H st σ ds vs sv Q R r e kn
  unfold cBool at e
  split at e
  · cases e
    obtain ⟨v, rfl, h⟩ := r.one
    cases h
    exact .inl ⟨rfl, kn.imm R (.bl _)⟩
  · cases e
    obtain ⟨v, rfl, h⟩ := r.one
    cases h
    exact .inr (.inr (.inl ⟨_, rfl, kn.imm R (.bl _)⟩))
  · cases e
    obtain ⟨v, rfl, h⟩ := r.one
    cases h
    exact .inr (.inl ⟨_, rfl, kn.imm R (.bl _)⟩)
  · rename_i c ns ds
    obtain ⟨b, hb, rfl⟩ := Option.map_eq_some_iff.mp e
    obtain ⟨v, rfl, h⟩ := r.one
    exact .inr (.inr (.inr ⟨F, c, ns, ds, v, b, rfl, R.g.self, ⟨R.f, R.nt⟩, h, hb, fun F' H' g e1 e2 => by
      obtain ⟨R', g'⟩ := R.after g e1 e2
      exact kn _ F' H' g' R' (.imm (.bl _)) Sep.imm⟩))
  · cases e
end
end Sm
/-! Fields of several classes; defs as values, called by a local name; isinstance of own instances against built-in kinds. -/
namespace Sm
open PySem PySem.Spec PyProof.Rows L2 Evl
theorem kitOne_ty {K : PySem.W.Frag} {C : Addr} {T : String} {b : Bool} (hm : PySem.W.kitMeta T = true) (hs : PySem.W.subIn K (.ref C) (.type T) = some b) : PySem.W.kitOne K (.ref C) (.type T) = some b := by
  show (if (Value.ref C == Value.type T) = true then some true else PySem.W.kitCls K (.ref C) (.type T)) = some b
  rw [if_neg (by intro z; have := beq_iff_eq.mp z; cases this)]
  show (if PySem.W.kitMeta T = true then _ else _) = some b
  rw [if_pos hm]
  exact hs
/-! ### e.f, the instance of one of some classes -/
def oFldS (cs : List Str) (f : Str) : D → Option SV
  | .ins c ns ds => if c ∈ cs then (getF f ns ds).map .imm else none
  | _ => none
def FldOk (K : PySem.W.Frag) (mg : Str → Option Value) (cs : List Str) (f : Str) : Prop := ∀ c ∈ cs, ∃ C, mg c = some (.ref C) ∧ Cls K C ∧ NoAttr K C f
section
variable {X : Cx} {pos : Pos}
theorem se_flds {cs : List Str} {f' : Str} {a : Expr} {f : DE} (h : FldOk X.K X.mg cs f') (ha : SE X a f) (hb : attributeBase a f' X.env (eval a X.env) = eval a X.env := by rfl) : SE X (.Attribute a f' pos) (dUn (oFldS cs f') f) := by
  refine ⟨⟨fun pins s σ H Q I q => ?_⟩⟩
  obtain ⟨G, F, st, sv, st', R, e, k⟩ := q
  have e0 := e
  unfold dUn at e
  split at e
  · cases e
  rename_i x s1 e1
  split at e
  · cases e
  rename_i z e2
  cases e
  have key : ∃ c ns ds, x.frz = .ins c ns ds ∧ c ∈ cs ∧ oFld c f' x.frz = some sv := by
    unfold oFldS at e2
    split at e2
    · rename_i c ns ds hx
      split at e2
      · rename_i hm
        exact ⟨c, ns, ds, hx, hm, by rw [hx]; exact (if_pos rfl).trans e2⟩
      · cases e2
    · cases e2
  obtain ⟨c, ns, ds, hx, hm, e3⟩ := key
  obtain ⟨C, hc, cl, na⟩ := h c hm
  refine (se_fld (X := X) (pos := pos) hc cl na ha hb).pe.run pins s σ H Q I ⟨G, F, st, sv, st', R, ?_, k⟩
  unfold dUn
  rw [e1]
  dsimp only
  rw [e3]
end
/-! ### f(e, ..), f a local name that holds a def -/
structure FnV (P : Program) (w : World) (K : PySem.W.Frag) (mg : Str → Option Value) (base : Heap) (k NN : Nat) (c : Str) (fn : List D → Option SV) (rn : List D → Option D) : Prop where
  ex : ∃ f fd ps, mg c = some (.ref f) ∧ FnOk P w K mg base (L2.CX P w) k f fd ps (spX K mg NN fn rn) ∧ PySem.W.keepIn K (.ref f) = true ∧ Binds K fd ps []
abbrev Tbl := List (Str × (List D → Option SV) × (List D → Option D))
def tbF (tb : Tbl) (c : Str) : Option (Str × (List D → Option SV) × (List D → Option D)) := tb.find? fun t => decide (t.1 = c)
theorem tbF_mem {tb : Tbl} {c : Str} {p : Str × (List D → Option SV) × (List D → Option D)} (h : tbF tb c = some p) : p ∈ tb ∧ p.1 = c := ⟨List.mem_of_find?_eq_some h, by simpa using List.find?_some h⟩
def dCallV (tb : Tbl) (i NN : Nat) (r : DA) : DE := fun st => match st[i]? with
  | some (some (.imm (.cls c))) => (match tbF tb c with
    | some p => (match r st with
      | none => none
      | some (xs, s1) => if xs.length = NN then (match p.2.1 xs with
        | none => none
        | some z => some (z, s1)) else none)
    | none => none)
  | _ => none
def xCallV (tb : Tbl) (i NN : Nat) (r : DA) (ra : DX) : DX := fun st => match st[i]? with
  | some (some (.imm (.cls c))) => (match tbF tb c with
    | some p => (match ra st with
      | some x => some x
      | none => match r st with
        | some (xs, _) => if xs.length = NN then p.2.2 xs else none
        | none => none)
    | none => none)
  | _ => none
section
variable {X : Cx} {k i NN : Nat} {tb : Tbl} {x : Str} {e : Expr} {es : List Expr} {r : DA} {ra : DX} {p pos : Pos} {E : XK}
theorem slot_cls {K : PySem.W.Frag} {mg : Str → Option Value} {G F H : Hp} {st : S} {σ : L2.St} {c : Str} {f : Addr} (R : Rep K mg G F st σ H) (h : st[i]? = some (some (.imm (.cls c)))) (hm : mg c = some (.ref f)) : σ[i]? = some (some (.ref f)) := by
  obtain ⟨v, hv, rs⟩ := R.at_ i _ h
  cases rs with | imm rd => ?_
  obtain ⟨C, rfl, hC⟩ := rd.cls_inv
  rw [hm] at hC
  cases hC
  exact hv
theorem se_callV (hok : ∀ q ∈ tb, FnV X.prog X.w X.K X.mg X.base k NN q.1 q.2.1 q.2.2) (hr : Room k X.A) (hN : X.N[i]? = some x) (hv : Vis X.env.scope x) (ha : SA X (e :: es) r)
    (hdb : (x == ("__debug__" : Str)) = false := by decide) (hcd : (x == ("__classdict__" : Str)) = false := by decide)
    (he : starEach (e :: es) X.env = (false, eval e X.env) :: starEach es X.env := by rfl) (hpl : (backTo pos (starEach es X.env)).any (·.1) = false := by rfl) : SE X (.Call (.Name x p) (e :: es) [] pos) (dCallV tb i NN r) := by
  refine ⟨⟨fun pins s σ H Q I q => ?_⟩⟩
  obtain ⟨G, F, st, sv, st', R, ee, kk⟩ := q
  unfold dCallV at ee
  split at ee
  · rename_i c h0
    split at ee
    · rename_i q hq
      obtain ⟨hm, rfl⟩ := tbF_mem hq
      obtain ⟨f, fd, ps, hmg, F1, hk, hb⟩ := (hok q hm).ex
      split at ee
      · cases ee
      rename_i xs s1 e1
      split at ee
      · rename_i hl
        split at ee
        · cases ee
        rename_i z e2
        cases ee
        refine (pe_callL F1 hr hN hv hk hb .nil passL ha.pa hdb hcd he hpl).run pins s σ H Q I ⟨slot_cls R h0 hmg, G, F, st, xs, _, R, e1, fun vs F1 H1 g1 R1 r1 => ?_⟩
        show spX X.K X.mg NN q.2.1 q.2.2 (vs ++ []) H1 Q E0
        rw [List.append_nil]
        exact .inl (spP_of R1 hl r1 e2 fun v F2 H2 g2 => kk v F2 H2 (g1.trans g2))
      · cases ee
    · cases ee
  · cases ee
theorem re_callV (hok : ∀ q ∈ tb, FnV X.prog X.w X.K X.mg X.base k NN q.1 q.2.1 q.2.2) (tk : TkX X E) (hr : Room k X.A) (hN : X.N[i]? = some x) (hv : Vis X.env.scope x) (ha : SA X (e :: es) r) (xa : RA X E (e :: es) ra)
    (hdb : (x == ("__debug__" : Str)) = false := by decide) (hcd : (x == ("__classdict__" : Str)) = false := by decide)
    (he : starEach (e :: es) X.env = (false, eval e X.env) :: starEach es X.env := by rfl) (hpl : (backTo pos (starEach es X.env)).any (·.1) = false := by rfl) : RE X E (.Call (.Name x p) (e :: es) [] pos) (xCallV tb i NN r ra) := by
  refine ⟨⟨fun pins s σ H Q I q => ?_⟩⟩
  obtain ⟨G, F, st, y, R, ee, kk⟩ := q
  unfold xCallV at ee
  split at ee
  · rename_i c h0
    split at ee
    · rename_i q hq
      obtain ⟨hm, rfl⟩ := tbF_mem hq
      obtain ⟨f, fd, ps, hmg, F1, hk, hb⟩ := (hok q hm).ex
      refine (pe_callL F1 hr hN hv hk hb .nil (passes_call tk fun _ _ _ _ h => h) (or_pa xa.pa ha.pa) hdb hcd he hpl).run pins s σ H Q I ⟨slot_cls R h0 hmg, ?_⟩
      split at ee
      · rename_i z e1
        cases ee
        exact .inl ⟨G, F, st, _, R, e1, kk⟩
      · split at ee
        · rename_i xs s1 e1
          split at ee
          · rename_i hl
            refine .inr ⟨G, F, st, xs, s1, R, e1, fun vs F1 H1 g1 R1 r1 => ?_⟩
            show spX X.K X.mg NN q.2.1 q.2.2 (vs ++ []) H1 Q E
            rw [List.append_nil]
            exact spX_of R1 hl r1 ee (kk.gr g1)
          · cases ee
        · cases ee
    · cases ee
  · cases ee
end
end Sm
/-! sorted(set(xs)) of a tuple; plain evaluation of truth. -/
namespace Sm
noncomputable section
open PySem PySem.Spec L2 Evl PyProof.Rows
section
variable {P : Program} {w : World} {A : Around} {E : Value → Shared → Prop} {s : Shared}
theorem init_tupleS {l : Addr} {items : Array Value} (ns : List Int) {R : Result → Shared → Prop} (hh : A.handled = none) (hl : s.heap.IsTuple l items) (hit : IntsAre items.toList ns) (hb : ns.length + 1 < scanBound)
    (h : ∀ (h' : Heap) (tk c : Nat), SetR w h' s.heap.objs.size (fun j => decide (j ∈ ns)) c → (∀ b o, s.heap.get? b = some o → h'.get? b = some o) → R (.ok (.ret .none)) { s with heap := h', toks := tk }) :
    wpAny (model P w) A.in1 (Builtin.«set.__init__» ⟨[.ref s.heap.objs.size, .ref l], []⟩)
      (fun fin s' => match fin with | .done f => R (.ok f) s' | .again c' => c'.quiet = true ∧ codeAny (model P w) A c' R s') (fun e s' => R (.error e) s') { s with heap := s.heap.push (set0 w) } := by
  have hisz : items.size = ns.length := by
    have q := IntsAre.length hit
    rw [Array.length_toList] at q
    exact q
  have hS : (s.heap.push (set0 w)).get? s.heap.objs.size = some (set0 w) := Heap.get?_push_size _ rfl
  have hT : Shared.TypeIs { s with heap := s.heap.push (set0 w) } (.ref s.heap.objs.size) "set" := ⟨_, hS, rfl⟩
  obtain ⟨ol, hol, hcl, nl, hdl⟩ := id hl
  have hlS : l < s.heap.objs.size := Heap.lt_size hol
  obtain ⟨ocls, odict, odata, oslots⟩ := ol
  simp only at hcl hdl
  subst hcl; subst hdl
  have hol' : (s.heap.push (set0 w)).get? l = some { cls := .type "tuple", dict := odict, data := .seq items nl, slots := oslots } := Heap.get?_push_of_some _ hol
  have hl1 : (s.heap.push (set0 w)).IsTuple l items := ⟨_, hol', rfl, nl, rfl⟩
  have hsls := PySem.F.sub_tuple_set
  have hslf := PySem.F.sub_tuple_frozenset
  have hne : (Value.type "tuple" == Value.type "dict") = false := by decide
  unfold Builtin.«set.__init__» noKeywords Builtin.Frozenset.updateFrom
  generalize hPI : pyIter = PI
  wp_walk
  subst hPI

  refine wpAny_pyIter_tuple hl1 ?_
  refine wpAny_bind (wpAny_runValue ?_)
  have hh3 : A.in1.in1.handled = none := by simp [hh]
  have hneI : l ≠ (s.heap.push (set0 w)).objs.size := by
    rw [Heap.size_push]; exact Nat.ne_of_lt (Nat.lt_succ_of_lt hlS)
  have hSf : s.heap.objs.size ∉ [(s.heap.push (set0 w)).objs.size, l] := by
    rw [Heap.size_push]; simp only [List.mem_cons, List.mem_singleton, List.not_mem_nil, or_false, not_or]
    exact ⟨Nat.ne_of_lt (Nat.lt_succ_self _), Nat.ne_of_gt hlS⟩
  have hval : ∀ (i : Nat) (v : Value), items[i]? = some v → ∃ k t, ns[i]? = some k ∧ v = .int k t := fun i v hv => by
    have hi : i < ns.length := by rw [← hisz]; exact (Array.getElem?_eq_some_iff.mp hv).1
    obtain ⟨t, e⟩ := PyProof.Rows.IntsAre.int_at hit i v (by rw [Array.getElem?_toList]; exact hv)
    refine ⟨ns[i], t, List.getElem?_eq_getElem hi, ?_⟩
    rw [e, List.getD_eq_getElem?_getD, List.getElem?_eq_getElem hi] <;> rfl
  refine set_update_ints ((Walks.tuple hh3 _ l hneI items).toS) s.heap.objs.size
    hSf ns hisz hb hval (items.size - 0) 0 { s with heap := (s.heap.push (set0 w)).push { cls := .type "tuple_iterator", data := .fields #[.ref l, .int 0 0] } } (by omega) (Nat.zero_le _)
    ⟨⟨_, Heap.get?_push_size _ rfl, rfl, rfl⟩, (hl1.push _)⟩ ?hS0 ?hR
  case hS0 =>
    have hget : ((s.heap.push (set0 w)).push { cls := .type "tuple_iterator", data := .fields #[.ref l, .int 0 0] }).get? s.heap.objs.size = some (set0 w) := Heap.get?_push_of_some _ hS
    exact ⟨0, Nat.le_refl 0, setR_new_at hget⟩
  intro s' c' hm hc' hS'
  obtain ⟨h', g2, d', tk', os'⟩ := s'
  have eg : g2 = s.gens := hm.gens
  have ed : d' = s.drawn := hm.drawn
  have eo : os' = s.os := hm.os
  subst eg; subst ed; subst eo
  show wpAny _ _ _ _ _ _
  refine wpAny_pure ?_
  show wpAny _ _ (ret Value.none) _ _ _
  refine wpAny_pure (h h' tk' c' hS' fun b o e => ?_)
  have hb0 : b < s.heap.objs.size := Heap.lt_size e
  have hb1 : b ≠ s.heap.objs.size := Nat.ne_of_lt hb0
  have hb2 : b ≠ (s.heap.push (set0 w)).objs.size := by
    rw [Heap.size_push]; exact Nat.ne_of_lt (Nat.lt_succ_of_lt hb0)
  exact hm.heap b o (by simp only [List.mem_cons, List.mem_singleton, List.not_mem_nil, or_false, not_or]; exact ⟨hb1, hb2⟩) (Heap.get?_push_of_some _ (Heap.get?_push_of_some _ e))
theorem call_setT {l : Addr} {items : Array Value} (ns : List Int) {Q : Value → Shared → Prop} (hh : A.handled = none) (hl : s.heap.IsTuple l items) (hit : IntsAre items.toList ns) (hb : ns.length + 1 < scanBound)
    (h : ∀ (h' : Heap) (tk c : Nat), SetR w h' s.heap.objs.size (fun j => decide (j ∈ ns)) c → (∀ b o, s.heap.get? b = some o → h'.get? b = some o) → Q (.ref s.heap.objs.size) { s with heap := h', toks := tk }) :
    wpAny (model P w) A (call (.type "set") [.ref l]) Q E s := by
  obtain ⟨c, tl, hmro⟩ := F.called_set.mro
  have hmade := F.called_set.made
  have hsub := F.called_set.sub
  refine wpAny_call (codeAny_of_tree ?_)
  show wpAny _ _ (callAny (.type "set") _) _ _ _
  refine wpAny_pure ⟨Code.quiet_builtin _ (by decide +kernel), codeAny_builtin F.entry_type_call ?_⟩
  rw [Around.under_plain (weight_type_call_type "set" [.ref l] []) rfl]
  have h1 := F.called_set.notType
  have h2 := F.called_set.canCreate
  have hct := F.typeCall_set_1 (.ref l)
  repeat (any_goals (first | assumption | wp_step))

  refine codeAny_mono (code_set_led1 (.ref l) (E := E) (Q₁ := fun obj s₁ => obj = .ref s.heap.objs.size ∧ s₁ = { s with heap := s.heap.push (set0 w) }) ⟨rfl, rfl⟩) fun r s₁ hr => ?_
  cases r with
  | error e => exact hr
  | ok fl =>
    cases fl with
    | ret obj =>
      obtain ⟨rfl, rfl⟩ := hr
      have hS : (s.heap.push (set0 w)).get? s.heap.objs.size = some (set0 w) := Heap.get?_push_size _ rfl
      have hT : Shared.TypeIs { s with heap := s.heap.push (set0 w) } (.ref s.heap.objs.size) "set" := ⟨_, hS, rfl⟩
      have hli := F.called_set.init.lookup
      have hbi := F.called_set.init.bind (.ref s.heap.objs.size)
      repeat (any_goals (first | assumption | wp_step))

      refine codeAny_mono (codeAny_call_builtin (R := wants (fun r s₂ => r = .none ∧ ∃ h' tk c, s₂ = { s with heap := h', toks := tk } ∧ SetR w h' s.heap.objs.size (fun j => decide (j ∈ ns)) c ∧
          (∀ b o, s.heap.get? b = some o → h'.get? b = some o)) E) F.called_set.init.plain F.entry_set_init (check_set_init_1 hT (init_tupleS ns (A := A.in1) (by simp [hh]) hl hit hb fun h' tk c a b => ⟨rfl, h', tk, c, rfl, a, b⟩))) fun r₂ s₂ hr₂ => ?_
      cases r₂ with
      | error e => exact hr₂
      | ok fl₂ =>
        cases fl₂ with
        | ret r =>
          obtain ⟨rfl, h', tk, c', rfl, hS', hk'⟩ := hr₂
          repeat (any_goals (first | assumption | wp_step))
          exact h _ _ _ hS' hk'
        | _ => exact hr₂.elim
    | _ => exact hr.elim
end
section
variable {X : Cx}
def rSetTI (K : PySem.W.Frag) (w : World) : List V → Hp → VK → Prop := fun vs H Q => ∃ (a : Addr) (ns : List Int), vs = [V.ref a] ∧ SqT K H a (ns.map V.int) ∧ ns.length ≤ 1000 ∧
  ∀ p, H p = none → Q (.ref p) (upd H p (SetO w p (fun j => decide (j ∈ ns)) (sset ns).length))
theorem cr_setTI (hc : X.calm = true) : CallR X (.type "set") (rSetTI X.K X.w) := by
  intro pins s σ H xs us Q I r h
  obtain ⟨a, ns, rfl, hs, hb, q⟩ := h
  obtain ⟨its, rv, hl, _⟩ := I.tuple hs
  rw [Vals.ref1 r]
  refine call_setT ns (I.ok.hd hc) hl (by simpa using rv.ints) (by unfold scanBound; omega) fun h' tk c S k => ?_
  rw [setR_count S] at S
  exact ⟨.ref _, upd H s.heap.objs.size (SetO X.w s.heap.objs.size (fun j => decide (j ∈ ns)) (sset ns).length), I.laid (t' := tk) (fun b u e => k b u e) (Nat.le_refl _) (setO_new S), rfl, q _ (I.hok.fresh (Nat.le_refl _))⟩
def rSetXI (K : PySem.W.Frag) (w : World) : List V → Hp → VK → Prop := fun vs H Q => rSetLI w vs H Q ∨ rSetTI K w vs H Q
theorem cr_setXI (hc : X.calm = true) : CallR X (.type "set") (rSetXI X.K X.w) := by
  intro pins s σ H xs us Q I r h
  rcases h with h | h
  · exact cr_setLI hc pins s σ H xs us Q I r h
  · exact cr_setTI hc pins s σ H xs us Q I r h
/-- sorted(set(xs)), xs a list or a tuple -/
def dSortSet2 (f : DE) : DE := fun st => match f st with
  | none => none
  | some (x, s1) => match partsD x.frz with
    | some xs => (match D.ints xs with
      | none => none
      | some ns => if ns.length ≤ 1000 ∧ (sset ns).length < 64 then some (.lst (il (sset ns)), s1) else none)
    | none => none
theorem se_sortset2 {e : Expr} {f : DE} {p p2 pos pos2 : Pos} (hc : X.calm = true) (hg : Gl X "sorted") (hm : X.mg "sorted" = none) (hg2 : Gl X "set") (hm2 : X.mg "set" = none) (he : SE X e f) (hs : starEach [e] X.env = (false, eval e X.env) :: starEach [] X.env := by rfl) :
    SE X (.Call (.Name "sorted" p) [.Call (.Name "set" p2) [e] [] pos2] [] pos) (dSortSet2 f) := by
  have h1 : PE X (.Call (.Name "set" p2) [e] [] pos2) (tCB (rSetXI X.K X.w) (tCons (tF X.K X.mg f) tNil)) := pe_callTy (cr_setXI hc) hg2 hm2 (by decide +kernel) (pa_cons he.pf pa_nil hs) (by decide) (by decide) hs
  have h2 : PE X (.Call (.Name "sorted" p) [.Call (.Name "set" p2) [e] [] pos2] [] pos) (tCB (rSortedSet X.w) (tCons (tCB (rSetXI X.K X.w) (tCons (tF X.K X.mg f) tNil)) tNil)) := pe_callB (cr_sortedSet hc) hg hm bt_sorted (pa_cons h1 pa_nil)
  refine ⟨pe_imp h2 fun σ H Q q => ?_⟩
  obtain ⟨G, F, st, sv, st', R, e1, k⟩ := q
  unfold dSortSet2 at e1
  split at e1
  · cases e1
  rename_i x s1 ef
  split at e1
  · rename_i xs hx
    split at e1
    · cases e1
    rename_i ns en
    split at e1
    · rename_i hl
      cases e1
      refine ⟨G, F, st, x, _, R, ef, fun v F1 H1 g1 R1 r1 => ?_⟩
      cases hf : x.frz with
      | lst ys =>
        rw [hf] at hx r1
        cases hx
        rw [D.ints_eq en] at r1
        obtain ⟨a, us, rfl, ha, ra⟩ := r1.lst_inv
        rw [ra.ints] at ha
        refine .inl ⟨a, ns, rfl, R1.f _ _ ha, hl.1, fun p hp => ?_⟩
        refine ⟨p, _, _, rfl, upd_same, hl.2, fun ns' q a1 a2 a3 hq => ?_⟩
        have e2 : ns' = sset ns := asc_uniq a1 (sset_lt ns) fun k => by rw [a2, mem_sset]; simp
        rw [e2]
        exact Kn.newL (fun v F' H' g2 => k v F' H' (g1.trans g2)) (R1.laid hp) hq (rds_ints _)
      | tup ys =>
        rw [hf] at hx r1
        cases hx
        rw [D.ints_eq en] at r1
        obtain ⟨a, us, rfl, ha, ra⟩ := r1.tup_inv
        rw [ra.ints] at ha
        refine .inr ⟨a, ns, rfl, ex_t R1.f ha, hl.1, fun p hp => ?_⟩
        refine ⟨p, _, _, rfl, upd_same, hl.2, fun ns' q a1 a2 a3 hq => ?_⟩
        have e2 : ns' = sset ns := asc_uniq a1 (sset_lt ns) fun k => by rw [a2, mem_sset]; simp
        rw [e2]
        exact Kn.newL (fun v F' H' g2 => k v F' H' (g1.trans g2)) (R1.laid hp) hq (rds_ints _)
      | _ => rw [hf] at hx; cases hx
    · cases e1
  · cases e1
end
@[simp ↓] theorem ap_SortSet2 (f : DE) (st : S) : dSortSet2 f st = match f st with
  | none => none
  | some (x, s1) => match partsD x.frz with
    | some xs => (match D.ints xs with
      | none => none
      | some ns => if ns.length ≤ 1000 ∧ (sset ns).length < 64 then some (.lst (il (sset ns)), s1) else none)
    | none => none := (rfl)
@[simp] theorem parts_l (xs : List D) : partsD (.lst xs) = some xs := rfl
@[simp] theorem parts_t (xs : List D) : partsD (.tup xs) = some xs := rfl
@[simp ↓] theorem ap_TruB (tb : List (Str × Bool)) (f : DE) (st : S) : dTruB tb f st = match f st with
  | none => none
  | some (x, s1) => match truB tb x.frz with
    | none => none
    | some b => some (b, s1) := (rfl)
end
end Sm
/-! A call without arguments. -/
namespace Sm
noncomputable section
open PySem PySem.Spec PyProof.Rows L2 Evl
section
variable {X : Cx} {k : Nat} {fa C : Addr} {fd : FuncData} {ps : List Str} {fn : List D → Option SV} {x m : Str} {p pos apos : Pos}
/-- f() -/
theorem se_call0 (F : FnOk X.prog X.w X.K X.mg X.base (L2.CX X.prog X.w) k fa fd ps (spP X.K X.mg 0 fn)) (hr : Room k X.A) (hg : Gl X x) (hm : X.mg x = some (.ref fa)) (hk : PySem.W.keepIn X.K (.ref fa) = true) (hb : Binds X.K fd ps [])
    (hdb : (x == ("__debug__" : Str)) = false := by decide) : SE X (.Call (.Name x p) [] [] pos) (dCallP 0 fn dNil) := by
  refine ⟨pe_imp (pe_call0 (E := E0) F hr hg hm hk hb .nil passL hdb) fun σ H Q q => ?_⟩
  obtain ⟨G, Fz, st, sv, st', R, e, k⟩ := q
  unfold dCallP at e
  split at e
  · cases e
  rename_i xs s1 e1
  cases e1
  split at e
  · rename_i hl
    split at e
    · cases e
    rename_i z e2
    cases e
    exact spP_of (E := E0) R rfl .nil e2 k
  · cases e
end
end
end Sm
/-! A tuple taken once. -/
namespace Sm
noncomputable section
open PySem PySem.Spec PyProof.Rows L2 Evl
theorem tuple_mulO (l : Addr) (items : Array Value) (n : Nat) (dd : Option Addr) (sl : Array (Option Value)) (u : Tok) :
    Meets (Builtin.«tuple.__mul__» ⟨[.ref l, .int 1 u], []⟩) (fun _ R s => s.heap.get? l = some { cls := .type "tuple", dict := dd, data := .seq items n, slots := sl } ∧ R (.ok (.ret (Value.ref l))) s) :=
  .of_wp fun prog w A R s h => by
    obtain ⟨hp, g, d, tk, os⟩ := s
    obtain ⟨hl, h⟩ := h
    have f1 := AutoSeq1.idx_int
    have c0 : (decide ((1 : Int) < -(2 ^ 63)) || decide ((1 : Int) ≥ 2 ^ 63)) = false := by decide
    have c1 : (items.isEmpty || (1 : Int) == 1) = true := by simp
    wp_walk using wpAny_loadPart' hl
    repeat (first
      | (refine wpAny_ite_false (decide_eq_false (by rw [c0]; exact Bool.false_ne_true)) ?_; wp_walk using wpAny_loadPart' hl)
      | (refine wpAny_ite_true (decide_eq_true (by rw [c1])) ?_; wp_walk using wpAny_loadPart' hl))
    exact ⟨_, rfl, h⟩
def rRepO (K : PySem.W.Frag) : R2 := fun x y H Q => ∃ l xs, x = .ref l ∧ y = .int 1 ∧ SqT K H l xs ∧ Q (.ref l) H
section
variable {X : Cx}
theorem op_repO : OpR X (binaryOp .Mult) (rRepO X.K) := by
  intro pins s σ H x y v u Q I rx ry h
  obtain ⟨l, xs, rfl, rfl, hT, q⟩ := h
  cases rx
  obtain ⟨t, rfl⟩ := ry
  obtain ⟨its, r, ⟨⟨cls, dd, data, sl⟩, ho, hc, n, hd⟩, hs⟩ := I.tuple hT
  simp only at hc hd
  subst hc hd
  refine wpAny_binaryOp_repeat_ref (T := "tuple") (U := "int") (by decide) ⟨_, ho, rfl⟩ (fun s' => typeIs_int s' 1 t) noFill_tuple_mul F.fills_int_mul F.slot_int_rmul repeat_tuple F.slot_int_index.lookup
    (call_meets F.slot_int_rmul (typeIs_int s 1 t) F.entry_int_rmul (F.args_int_rmul_2 _ _) (int_rmul_tuple 1 t l its.toArray n dd sl)
      ⟨ho, rfl, ⟨_, ho, rfl⟩, call_meets F.slot_tuple_mul ⟨_, ho, rfl⟩ F.entry_tuple_mul (F.args_tuple_mul_2 _ _) (tuple_mulO l its.toArray n dd sl t) ⟨ho, ?_⟩⟩)
  exact ⟨.ref l, H, I, rfl, q⟩
end
def oMul2 : D → D → Option SV
  | .tup xs, .int k => if k = 1 then some (.imm (.tup xs)) else oMul (.tup xs) (.int k)
  | x, y => oMul x y
@[simp] theorem mul2_t (xs : List D) (k : Int) : oMul2 (.tup xs) (.int k) = if k = 1 then some (.imm (.tup xs)) else oMul (.tup xs) (.int k) := (rfl)
section
variable {X : Cx}
theorem os_mul2 : OpS X (binaryOp .Mult) oMul2 := by
  obtain ⟨r, h1, h2⟩ := os_mul (X := X)
  refine ⟨_, h1.or op_repO, ?_⟩
  intro G F H st σ dx dy x y sv Q R rx ry e k
  unfold oMul2 at e
  split at e
  · rename_i xs kk
    split at e
    · rename_i hk
      subst hk
      cases e
      cases ry
      have rx' := rx
      obtain ⟨a, vs, rfl, ha, ra⟩ := rx.tup_inv
      exact .inr ⟨a, vs, rfl, rfl, ex_t R.f ha, k.imm R rx'⟩
    · exact .inl (h2 R rx ry e k)
  · exact .inl (h2 R rx ry e k)
end
end
end Sm
/-! try with several except clauses, named or not; the exception is told in the suite; a suite may return. -/
namespace Sm
open PySem L2 Evl PyProof.Rows
section
variable {X : Cx} {pins : List (Addr × Obj)} {σ : L2.St} {H : Hp} {s : Shared}
theorem suite0 (I : L2.Inv X pins σ H s) (a : Addr) : L2.Inv (X.suite a (X.pn ++ pins)) [] σ H s :=
  ⟨I.ok.suite _ _, I.os, I.bare, I.base, I.loc, I.cell, I.free, I.freeC, fun p hp => I.pin p (by rw [List.append_nil] at hp; exact hp), I.hok, I.len⟩
theorem unsuite0 {a : Addr} {pn' : List (Addr × Obj)} (I : L2.Inv (X.suite a (X.pn ++ pins)) pn' σ H s) (ok : X.Ok) : L2.Inv X pins σ H s :=
  ⟨ok, I.os, I.bare, I.base, I.loc, I.cell, I.free, I.freeC, fun p hp => I.pin p (List.mem_append_left _ hp), I.hok, I.len⟩
end
def putO (oi : Option Nat) (v : Option V) (σ : L2.St) : L2.St := match oi with
  | some i => σ.set i v
  | none => σ
def wHd (K : PySem.W.Frag) (D : Ends) (C dd : Addr) : List (Value × Option Nat × TS) → L2.St → Hp → Prop
  | [], _, _ => False
  | (c, oi, ts) :: l, σ, H => (PySem.W.exmOne K (.ref C) c = some true ∧ ∀ a, H a = none → ts { nx := fun σ' H' => D.nx (putO oi none σ') H', rt := D.rt, bk := fun _ _ => False, ct := fun _ _ => False } (putO oi (some (.ref a)) σ) (upd H a (exk a C dd))) ∨
    (PySem.W.exmOne K (.ref C) c = some false ∧ wHd K D C dd l σ H)
def wHdX (K : PySem.W.Frag) (D : Ends) (l : List (Value × Option Nat × TS)) : WX := fun cls d σ H => ∃ C dd, cls = .ref C ∧ d = some dd ∧ wHd K D C dd l σ H
inductive HdsN (X : Cx) : List ExceptHandler → List (Value × Option Nat × TS) → Prop
  | nil : HdsN X [] []
  | as_ {x n : Str} {c : Value} {i : Nat} {ts : TS} {b0 : Stmt} {suite : List Stmt} {np pos' : Pos} {hds : List ExceptHandler} {l : List (Value × Option Nat × TS)} (hc : Names X x c) (hi : X.N[i]? = some n) (hl : X.env.kindOf n = some .local)
      (hsu : ∀ (a : Addr) (pn : List (Addr × Obj)), PSs (X.suite a pn) (b0 :: suite) ts) (r : HdsN X hds l) :
      HdsN X (.ExceptHandler (some (.Name x np)) (some n) (b0 :: suite) pos' :: hds) ((c, some i, ts) :: l)
  | no {x : Str} {c : Value} {ts : TS} {b0 : Stmt} {suite : List Stmt} {np pos' : Pos} {hds : List ExceptHandler} {l : List (Value × Option Nat × TS)} (hc : Names X x c)
      (hsu : ∀ (a : Addr) (pn : List (Addr × Obj)), PSs (X.suite a pn) (b0 :: suite) ts) (r : HdsN X hds l) :
      HdsN X (.ExceptHandler (some (.Name x np)) none (b0 :: suite) pos' :: hds) ((c, none, ts) :: l)
section
variable {X : Cx} {body : List Stmt} {h0 : ExceptHandler} {hds : List ExceptHandler} {l : List (Value × Option Nat × TS)} {pos : Pos} {tb : WX → TS}
theorem ps_try_h (hs : X.stack = X.env :: X.outer) (hf : X.env.frame = some X.env.locals) (hex : X.ex = []) (hN : X.N.Nodup)
    (hb : ∀ (W : WX) (pn : List (Addr × Obj)) (xe : Value → Shared → Prop), Takes (X.tr pn xe) W → PSs (X.tr pn xe) body (tb W))
    (hh : HdsN X (h0 :: hds) l) :
    PS X (.Try body (h0 :: hds) [] [] pos) (fun D σ H => tb (wHdX X.K D l) D σ H) := by
  refine ⟨fun pins s0 σ0 H0 D I0 hq0 => ?_⟩
  have okX := I0.ok
  have frames : X.A.frames = some (X.env :: X.outer) := by rw [okX.frames, hs]
  let air : Value → Shared → Prop := fun e s1 => wpAny (model X.prog X.w) X.A (noteFrame e X.env) (fun _ s2 => wpAny (model X.prog X.w) X.A (setFlight e none) (fun _ s3 => wpAny (model X.prog X.w) X.A (handleBy e X.env (h0 :: hds)) (L2.SP X pins D) X.xe s3) X.xe s2) X.xe s1
  have tk : Takes (X.tr (X.pn ++ pins) air) (wHdX X.K D l) := by
    rintro _ s1 ⟨a, B, sG, pins1, σ1, H1, cls, d, rfl, J0, ground, ups, sky, na, os1, ag, C, dd, rfl, rfl, wish⟩
    have JG : L2.Inv X pins σ1 H1 sG := J0.ofTry okX
    have skyX : Sky B (X.env :: X.outer) a (Zc (.ref C) (some dd)) X.env.locals s1.heap := by rw [← hs]; exact sky
    show wpAny (model X.prog X.w) X.A (noteFrame (.ref a) X.env) _ _ _
    refine Sky.land Zc.steady frames hf skyX fun g1 fl1 up1 => ?_
    have K1 : L2.Inv X pins σ1 H1 { s1 with heap := g1 } := JG.landed ground fl1.1 (ups.trans up1) os1 ag
    obtain ⟨ob1, vs1, at1, z1, dt1⟩ := fl1.there
    have away : a ∉ frs (X.env :: X.outer) := fun hm => by
      obtain ⟨_, o', at', nf⟩ := fl1.2.2.1.mem hm
      rw [at1] at at'; cases at'
      exact nf _ dt1
    have aL : a ≠ X.env.locals := fun z => away (List.mem_filterMap.mpr ⟨X.env, List.mem_cons_self, by rw [hf, z]⟩)
    have aF : a ∉ X.fs := fun hm => by
      obtain ⟨en, hen, q⟩ := List.mem_filterMap.mp hm
      exact away (List.mem_filterMap.mpr ⟨en, List.mem_cons_of_mem _ hen, q⟩)
    have aG : sG.heap.get? a = none := by
      cases q : sG.heap.get? a with
      | none => rfl
      | some o =>
        have z := ground a o q (by rw [hs]; exact away)
        rw [fl1.2.1] at z; cases z
    have a0 : X.s_0.heap.get? a = none := by
      cases q : X.s_0.heap.get? a with
      | none => rfl
      | some o =>
        obtain ⟨o', e'⟩ := JG.base.there a o q (by rw [hex]; simp)
        rw [aG] at e'; cases e'
    have aP : ∀ p ∈ X.pn ++ pins, p.1 ≠ a := fun p hp z => by
      have := (JG.pin p hp).1
      rw [z, aG] at this; cases this
    have S1 := K1.suite at1 dt1 na aL aF
    have isT : PySem.W.Looks (model X.prog X.w) g1 (typeOf (.ref a)) (.ref C) := fun A Q E s k q => wpAny_typeOf_ref (k _ _ at1) (by rw [z1.1]; exact q)
    have named : ∀ {x : Str} {c : Value} {np : Pos} {Q : Value → Shared → Prop} {E : Value → Shared → Prop}, Names X x c → Q c { s1 with heap := g1 } → wpAny (model X.prog X.w) (X.A.mark (some (.ref a))) (eval (.Name x np) X.env) Q E { s1 with heap := g1 } := fun {x c np Q E} hc q => by
      obtain ⟨gl, dbg, hm | ⟨hm, hv, hnn⟩⟩ := hc
      · exact ld_glob (X := X.suite a ((a, ob1) :: (X.pn ++ pins))) S1 gl hm q dbg
      · exact ld_blt (X := X.suite a ((a, ob1) :: (X.pn ++ pins))) S1 gl hm hv q hnn dbg
    have go : ∀ {hds' : List ExceptHandler} {l' : List (Value × Option Nat × TS)}, HdsN X hds' l' → wHd X.K D C dd l' σ1 H1 →
        wpAny (model X.prog X.w) X.A (handleBy (.ref a) X.env hds') (L2.SP X pins D) X.xe { s1 with heap := g1 } := by
      intro hds' l' hk
      induction hk with
      | nil => exact fun w => w.elim
      | @as_ x n c i ts b0 suite np pos' hds2 l2 hc hi hl hsu r ih =>
        intro w
        refine wpAny_handleBy_cons (codeAny_handlers_test ?_) (by intro q; cases q)
        rcases w with ⟨hx, wish⟩ | ⟨hx, wish⟩
        · have yes := PySem.W.exm_one (M := model X.prog X.w) (K1.kIn) isT hx
          refine named hc (yes.here (codeAny_handlers_suite_as (HandSPX.lands_againZ fl1 fun g2 fl2 up2 => ?_)))
          have K2 : L2.Inv X pins σ1 H1 { s1 with heap := g2 } := JG.landed ground fl2.1 ((ups.trans up1).trans up2) os1 ag
          obtain ⟨ob2, vs2, at2, z2, dt2⟩ := fl2.there
          have K3 := track K2 at2 z2.1 z2.2 ⟨_, dt2⟩ na a0 aL aP
          refine store_ok (X := X.suite a (X.pn ++ pins)) (v := .ref a) (suite0 K3 a) hN hi (.inl hl) rfl (fun s3 S3 => ?_) (.inr hl)
          refine wpAny_mono ((hsu a (X.pn ++ pins)).run [] s3 _ _ _ S3 (wish a na)) (fun fl s4 hq => ?_) (fun _ _ z => False.elim z)
          cases fl with
          | next =>
            obtain ⟨σ4, H4, S4, q4⟩ := hq
            exact gone_ok (unsuite0 S4 okX) hN hi hl fun s5 J5 => ⟨_, _, J5, q4⟩
          | brk =>
            obtain ⟨_, _, _, q⟩ := hq
            exact q.elim
          | cont =>
            obtain ⟨_, _, _, q⟩ := hq
            exact q.elim
          | ret u =>
            obtain ⟨v, σ4, H4, S4, r4, q4⟩ := hq
            exact gone_ok (unsuite0 S4 okX) hN hi hl fun s5 J5 => ⟨_, _, _, J5, r4, q4⟩
        · have no := PySem.W.exm_one (M := model X.prog X.w) (K1.kIn) isT hx
          refine named hc (no.here ?_)
          show wpAny _ X.A (handleBy (.ref a) X.env hds2) _ _ _
          exact ih wish
      | @no x c ts b0 suite np pos' hds2 l2 hc hsu r ih =>
        intro w
        refine wpAny_handleBy_cons (codeAny_handlers_test ?_) (by intro q; cases q)
        rcases w with ⟨hx, wish⟩ | ⟨hx, wish⟩
        · have yes := PySem.W.exm_one (M := model X.prog X.w) (K1.kIn) isT hx
          refine named hc (yes.here (codeAny_handlers_suite (HandSPX.lands_againZ fl1 fun g2 fl2 up2 => ?_)))
          have K2 : L2.Inv X pins σ1 H1 { s1 with heap := g2 } := JG.landed ground fl2.1 ((ups.trans up1).trans up2) os1 ag
          obtain ⟨ob2, vs2, at2, z2, dt2⟩ := fl2.there
          have K3 := track K2 at2 z2.1 z2.2 ⟨_, dt2⟩ na a0 aL aP
          refine wpAny_mono ((hsu a (X.pn ++ pins)).run [] _ _ _ _ (suite0 K3 a) (wish a na)) (fun fl s4 hq => ?_) (fun _ _ z => False.elim z)
          cases fl with
          | next =>
            obtain ⟨σ4, H4, S4, q4⟩ := hq
            exact ⟨_, _, unsuite0 S4 okX, q4⟩
          | brk =>
            obtain ⟨_, _, _, q⟩ := hq
            exact q.elim
          | cont =>
            obtain ⟨_, _, _, q⟩ := hq
            exact q.elim
          | ret u =>
            obtain ⟨v, σ4, H4, S4, r4, q4⟩ := hq
            exact ⟨_, _, _, unsuite0 S4 okX, r4, q4⟩
        · have no := PySem.W.exm_one (M := model X.prog X.w) (K1.kIn) isT hx
          refine named hc (no.here ?_)
          show wpAny _ X.A (handleBy (.ref a) X.env hds2) _ _ _
          exact ih wish
    exact go hh wish
  refine wpAny_Try_except (wpAny_mono ((hb _ _ air tk).run [] s0 σ0 H0 D (I0.toTry _) hq0) (fun fl s1 hq => ?_) fun e s1 he => he)
  cases fl with
  | next =>
    obtain ⟨σ1, H1, J1, q⟩ := hq
    exact wpAny_execs_nil ⟨σ1, H1, J1.ofTry okX, q⟩
  | brk =>
    obtain ⟨σ1, H1, J1, q⟩ := hq
    exact ⟨σ1, H1, J1.ofTry okX, q⟩
  | cont =>
    obtain ⟨σ1, H1, J1, q⟩ := hq
    exact ⟨σ1, H1, J1.ofTry okX, q⟩
  | ret u =>
    obtain ⟨v, σ1, H1, J1, r, q⟩ := hq
    exact ⟨v, σ1, H1, J1.ofTry okX, r, q⟩
end
end Sm
/-! A def that tries what it gets, with several except clauses: what it makes of what it heard. -/
namespace Sm
open PySem L2 Evl PyProof.Rows LamX
theorem exm_ownB {K : PySem.W.Frag} {C CB : Addr} {b : Bool} (hB : PySem.W.subIn K (.ref CB) (.type "BaseException") = some true) (hd : PySem.W.hasDictIn K CB = true) (ht : PySem.W.typeIn K (.ref CB) = some (.type "type")) (hs : PySem.W.subIn K (.ref C) (.ref CB) = some b) : PySem.W.exmOne K (.ref C) (.ref CB) = some b := by
  unfold PySem.W.exmOne
  rw [if_pos (by rw [hB]; rfl)]
  obtain ⟨cd, hc, _⟩ := PySem.W.any_some hd
  show (if ((PySem.W.clsIn K CB).isSome && PySem.W.typeIn K (.ref CB) == some (.type "type")) = true then PySem.W.subIn K (.ref C) (.ref CB) else none) = some b
  rw [if_pos (by rw [hc, ht]; rfl)]
  exact hs
abbrev HL := List (List Str × Option Nat × DS)
def stO (n : Nat) (oi : Option Nat) (x : D) : S := match oi with
  | some i => slotH n i (some x)
  | none => List.replicate n none
def goneO (oi : Option Nat) (st : S) : S := match oi with
  | some i => st.set i none
  | none => st
def st00 (n : Nat) (jo : Option Nat) : S := match jo with
  | some j => slotH n j none
  | none => List.replicate n none
def hPick (n : Nat) (c : Str) (x : D) : HL → Option (Out × S)
  | [] => none
  | (cs, oi, d) :: l => if c ∈ cs then (match d (stO n oi x) with
    | some (.nx, st) => some (.nx, goneO oi st)
    | some (.rt sv, st) => some (.rt sv, st)
    | _ => none) else hPick n c x l
def finH (rest : DS) : Option (Out × S) → Option SV
  | some (.rt sv, _) => some sv
  | some (.nx, st) => outH (rest st)
  | _ => none
def kG (all : List Str) (n : Nat) (jo : Option Nat) (l : HL) (rest : DS) : Option D → Option SV
  | none => outH (rest (st00 n jo))
  | some (.exc c ns ds) => if c ∈ all then finH rest (hPick n c (.exc c ns ds) l) else none
  | _ => none
inductive HdD (X : Cx) (all : List Str) : List ExceptHandler → HL → Prop
  | nil : HdD X all [] []
  | as_ {x en : Str} {c : Value} {i : Nat} {cs : List Str} {d : DS} {b0 : Stmt} {suite : List Stmt} {np pos' : Pos} {hds : List ExceptHandler} {l : HL} (hc : Names X x c) (hi : X.N[i]? = some en) (hl : X.env.kindOf en = some .local)
      (ok : ∀ s ∈ all, ∃ C, X.mg s = some (.ref C) ∧ PySem.W.exmOne X.K (.ref C) c = some (decide (s ∈ cs)))
      (hsu : ∀ (a : Addr) (pn : List (Addr × Obj)), SSs (X.suite a pn) [] (b0 :: suite) d) (r : HdD X all hds l) :
      HdD X all (.ExceptHandler (some (.Name x np)) (some en) (b0 :: suite) pos' :: hds) ((cs, some i, d) :: l)
  | no {x : Str} {c : Value} {cs : List Str} {d : DS} {b0 : Stmt} {suite : List Stmt} {np pos' : Pos} {hds : List ExceptHandler} {l : HL} (hc : Names X x c)
      (ok : ∀ s ∈ all, ∃ C, X.mg s = some (.ref C) ∧ PySem.W.exmOne X.K (.ref C) c = some (decide (s ∈ cs)))
      (hsu : ∀ (a : Addr) (pn : List (Addr × Obj)), SSs (X.suite a pn) [] (b0 :: suite) d) (r : HdD X all hds l) :
      HdD X all (.ExceptHandler (some (.Name x np)) none (b0 :: suite) pos' :: hds) ((cs, none, d) :: l)
theorem rep_none {K : PySem.W.Frag} {mg : Str → Option Value} {G F H : Hp} {n : Nat} {σ : L2.St} (kg : Kp K mg G H) (kf : Exf F H) (hl : σ.length = n) : Rep K mg G F (List.replicate n none) σ H := by
  have inv : ∀ (i : Nat) (y : SV), (List.replicate n (none : Option SV))[i]? = some (some y) → False := fun i y h => by
    rw [List.getElem?_replicate] at h
    split at h <;> cases h
  exact ⟨kg, kf.1, kf.2, by simp [hl], fun i y h => (inv i y h).elim, fun i k y z w h1 _ _ => (inv i y h1).elim⟩
theorem rep_gone {K : PySem.W.Frag} {mg : Str → Option Value} {G F H : Hp} {st : S} {σ : L2.St} (R : Rep K mg G F st σ H) (oi : Option Nat) : Rep K mg G F (goneO oi st) (putO oi none σ) H := by
  cases oi with
  | none => exact R
  | some i =>
    have inv : ∀ (j : Nat) (y : SV), (st.set i none)[j]? = some (some y) → i ≠ j ∧ st[j]? = some (some y) := fun j y h => by
      by_cases hj : i = j
      · subst hj
        by_cases hlt : i < st.length
        · rw [List.getElem?_set_self hlt] at h; cases h
        · rw [List.getElem?_eq_none (by simpa using hlt)] at h; cases h
      · rw [List.getElem?_set_ne hj] at h
        exact ⟨hj, h⟩
    refine ⟨R.g, R.f, R.nt, ?_, fun j y h => ?_, fun j k y z w h1 h2 o1 o2 e1 e2 => ?_⟩
    · show (st.set i none).length = (σ.set i none).length
      rw [List.length_set, List.length_set, R.len]
    · obtain ⟨hj, h'⟩ := inv j y h
      obtain ⟨v, e, r⟩ := R.at_ j y h'
      exact ⟨v, by show (σ.set i none)[j]? = _; rw [List.getElem?_set_ne hj]; exact e, r⟩
    · obtain ⟨hj, h1'⟩ := inv j y h1
      obtain ⟨hk, h2'⟩ := inv k z h2
      have e1' : (σ.set i none)[j]? = some (some w) := e1
      have e2' : (σ.set i none)[k]? = some (some w) := e2
      rw [List.getElem?_set_ne hj] at e1'
      rw [List.getElem?_set_ne hk] at e2'
      exact R.one j k y z w h1' h2' o1 o2 e1' e2'
section
variable {K : PySem.W.Frag} {mg : Str → Option Value}
theorem rest_any {sv : SV} {G F H : Hp} {st : S} {σ : L2.St} {Q : VK} {d : DS} (R : Rep K mg G F st σ H) (e : outH (d st) = some sv) (k : Fin1 K mg G F sv Q) : tS K mg [] d { nx := fun _ H' => Q .non H', rt := Q } σ H := by
  unfold outH at e
  split at e
  · rename_i st1 e1
    cases e
    exact ⟨G, F, _, _, _, R, e1, fun F' H' σ' g R' _ => k .non F' H' g R'.g ⟨R'.f, R'.nt⟩ (.imm .non)⟩
  · rename_i sv1 st1 e1
    cases e
    exact ⟨G, F, _, _, _, R, e1, fun F' H' σ' g R' _ v rv _ => k v F' H' g R'.g ⟨R'.f, R'.nt⟩ rv⟩
  · cases e
theorem Fin1.trans {G F F1 : Hp} {sv : SV} {Q : VK} (k : Fin1 K mg G F sv Q) (g : Gr G F F1) : Fin1 K mg G F1 sv Q := fun v F' H' g2 => k v F' H' (g.trans g2)
/-- one suite -/
theorem wish_one {n : Nat} {oi : Option Nat} {d rest : DS} {x : D} {sv : SV} {G F H : Hp} {σ : L2.St} {Q : VK} {D0 : Ends} (R : Rep K mg G F (stO n oi x) σ H)
    (e : finH rest (match d (stO n oi x) with
      | some (.nx, st) => some (.nx, goneO oi st)
      | some (.rt sv, st) => some (.rt sv, st)
      | _ => none) = some sv) (k : Fin1 K mg G F sv Q) (h1 : D0.rt = Q) (h2 : ∀ σ H, tS K mg [] rest { nx := fun _ H' => Q .non H', rt := Q } σ H → D0.nx σ H) :
    tS K mg [] d { nx := fun σ' H' => D0.nx (putO oi none σ') H', rt := D0.rt, bk := fun _ _ => False, ct := fun _ _ => False } σ H := by
  split at e
  · rename_i st e1
    refine ⟨G, F, _, _, _, R, e1, fun F' H' σ' g R' _ => ?_⟩
    show D0.nx (putO oi none σ') H'
    exact h2 _ _ (rest_any (rep_gone R' oi) e (k.trans g))
  · rename_i sv1 st e1
    cases e
    refine ⟨G, F, _, _, _, R, e1, fun F' H' σ' g R' _ v rv _ => ?_⟩
    show D0.rt v H'
    rw [h1]
    exact k v F' H' g R'.g ⟨R'.f, R'.nt⟩ rv
  · cases e
theorem hd_go {Z : Cx} {all : List Str} (n : Nat) (hn : Z.N.length = n) : ∀ {hds : List ExceptHandler} {l : HL}, HdD Z all hds l → ∃ l', HdsN Z hds l' ∧
    ∀ (rest : DS) (Q : VK) (D0 : Ends) (C dd : Addr) (c : Str) (ns : List Str) (ds : List D) (σ : L2.St) (H G F : Hp) (sv : SV), Kp Z.K Z.mg G H → Exf F H → Z.mg c = some (.ref C) →
      (∀ b, H b = none → ∃ F1, Gr G F F1 ∧ Kp Z.K Z.mg G (upd H b (exk b C dd)) ∧ Exf F1 (upd H b (exk b C dd)) ∧ RD Z.K Z.mg F1 (.exc c ns ds) (.ref b)) → σ.length = n → c ∈ all →
      finH rest (hPick n c (.exc c ns ds) l) = some sv → Fin1 Z.K Z.mg G F sv Q → D0.rt = Q → (∀ σ H, tS Z.K Z.mg [] rest { nx := fun _ H' => Q .non H', rt := Q } σ H → D0.nx σ H) → wHd Z.K D0 C dd l' σ H := by
  intro hds l h
  induction h with
  | nil => exact ⟨[], .nil, fun rest Q D0 C dd c ns ds σ H G F sv _ _ _ _ _ _ e => by cases e⟩
  | @as_ x en c0 i cs d b0 suite np pos' hds l hc hi hl ok hsu r ih =>
    obtain ⟨l', h1, h2⟩ := ih
    refine ⟨(c0, some i, tS Z.K Z.mg [] d) :: l', .as_ hc hi hl (fun a pn => (hsu a pn).pss) h1, fun rest Q D0 C dd c ns ds σ H G F sv kg kf hm mk hlen hall e k e1 e2 => ?_⟩
    obtain ⟨C', hC', hx⟩ := ok c hall
    rw [hm] at hC'
    cases hC'
    unfold hPick at e
    by_cases q : c ∈ cs
    · rw [if_pos q] at e
      rw [decide_eq_true q] at hx
      refine .inl ⟨hx, fun b nb => ?_⟩
      obtain ⟨F1, g1, kg1, kf1, rx⟩ := mk b nb
      have R : Rep Z.K Z.mg G F1 (stO n (some i) (.exc c ns ds)) (putO (some i) (some (.ref b)) σ) (upd H b (exk b C dd)) :=
        rep_slot (o := some (.exc c ns ds)) kg1 kf1 (by show (σ.set i _).length = n; rw [List.length_set]; exact hlen) (List.getElem?_set_self (by rw [hlen, ← hn]; exact (List.getElem?_eq_some_iff.mp hi).1)) rx
      exact wish_one R e (k.trans g1) e1 e2
    · rw [if_neg q] at e
      rw [decide_eq_false q] at hx
      exact .inr ⟨hx, h2 rest Q D0 C dd c ns ds σ H G F sv kg kf hm mk hlen hall e k e1 e2⟩
  | @no x c0 cs d b0 suite np pos' hds l hc ok hsu r ih =>
    obtain ⟨l', h1, h2⟩ := ih
    refine ⟨(c0, none, tS Z.K Z.mg [] d) :: l', .no hc (fun a pn => (hsu a pn).pss) h1, fun rest Q D0 C dd c ns ds σ H G F sv kg kf hm mk hlen hall e k e1 e2 => ?_⟩
    obtain ⟨C', hC', hx⟩ := ok c hall
    rw [hm] at hC'
    cases hC'
    unfold hPick at e
    by_cases q : c ∈ cs
    · rw [if_pos q] at e
      rw [decide_eq_true q] at hx
      refine .inl ⟨hx, fun b nb => ?_⟩
      obtain ⟨F1, g1, kg1, kf1, rx⟩ := mk b nb
      have R : Rep Z.K Z.mg G F1 (stO n none (.exc c ns ds)) (putO none (some (.ref b)) σ) (upd H b (exk b C dd)) := rep_none kg1 kf1 hlen
      exact wish_one R e (k.trans g1) e1 e2
    · rw [if_neg q] at e
      rw [decide_eq_false q] at hx
      exact .inr ⟨hx, h2 rest Q D0 C dd c ns ds σ H G F sv kg kf hm mk hlen hall e k e1 e2⟩
end
section
variable {X : Cx} {Ng all : List Str} {x a cn q : Str} {sg : Scope} {g : Addr} {cdg : Value} {jc : Nat} {j : Nat} {p1 p2 p3 p4 p5 p6 p12 : Pos} {rest : List Stmt} {d : DS} {h0 : ExceptHandler} {hds : List ExceptHandler} {l : HL}
/-- nothing ahead of the try -/
theorem gives_h (hN : Ng.Nodup) (hst : ∀ f : Addr, (L2.start Ng [V.ref f])[0]? = some (some (V.ref f))) (hlen : ∀ f : Addr, (L2.start Ng [V.ref f]).length = Ng.length)
    (hs2 : ∀ env : Env, env.scope = sg → swapsWith (.Call (.Name a p4) [] [] p5) none p6.line env = pure false)
    (hh : ∀ (s : Shared) (H : Hp), HdD (hCx X Ng x sg g cdg s H) all (h0 :: hds) l)
    (hd : ∀ (s : Shared) (H : Hp), SSs (hCx X Ng x sg g cdg s H) [] rest d) :
    GivesTo X Ng x sg g cdg (.Try [.Expr (.Call (.Name a p4) [] [] p5) p6] (h0 :: hds) [] [] p12 :: rest) a q (TTk X.K X.mg (kG all Ng.length none l d)) := by
  intro f c' s H Q tl act hc h
  obtain ⟨E', Q', q1, q2, q3⟩ := h
  let Z := hCx X Ng x sg g cdg s H
  obtain ⟨l', hds', wish⟩ := hd_go (Z := Z) Ng.length rfl (hh s H)
  have body := pss_cons (X := Z) (ps_try_h (X := Z) (pos := p12) (body := [.Expr (.Call (.Name a p4) [] [] p5) p6])
      (tb := fun W D σ H => (∀ v H', Q' v H' → D.nx σ H') ∧ (∀ cls d σ' H', E' cls d H' → σ'.length = Ng.length → W cls d σ' H') ∧ σ[0]? = some (some (.ref f)) ∧ H c' = some (CodeO c' q) ∧ tl E' H Q')
      rfl rfl rfl hN (fun W pn xe tk => ⟨fun pins s' σ H' D I h' => by
        obtain ⟨w1, w2, w3, w4, w5⟩ := h'
        have hp := act (fun cls d σ H => E' cls d H ∧ (σ.length = Ng.length → W cls d σ H)) pn xe E' p4 p5 ((takes_len tk).imp fun cls d σ H z => z.2) fun cls d σ' H' z => ⟨z, w2 cls d σ' H' z⟩
        have hq := pss_one (ps_expr (pos := p6) (pe_mono hp) (hs2 _ rfl))
        exact hq.run pins s' σ H' D I ⟨Q', ⟨w3, w4, w5⟩, w1⟩⟩) hds')
      (hd s H).pss
  refine ⟨_, body, ?_⟩
  refine ⟨fun v H' z => ?_, fun cls d0 σ' H' z hl => ?_, hst f, hc, q1⟩
  · obtain ⟨G, F, sv, kg, kf, e, k⟩ := q2 v H' z
    exact rest_any (rep_none kg kf (hlen f)) e k
  · obtain ⟨G, F, y, sv, kg, kf, ⟨c, ns, ds, C, dd, fs, rfl, rfl, hC, rfl, hfd, hn, rr⟩, e, k⟩ := q3 cls d0 H' z
    have e' : (if c ∈ all then finH d (hPick Ng.length c (.exc c ns ds) l) else none) = some sv := e
    split at e'
    · rename_i hcs
      refine ⟨C, dd, rfl, rfl, wish d Q _ C dd c ns ds σ' H' G F sv kg kf hC (fun b nb => ?_) hl hcs e' k rfl fun σ H z => z⟩
      have gb := kg.back nb
      have fb : F b = none := fresh_back kf.1 nb
      have Fe : Ex F (upd F b (exk b C dd)) := Ex.new fb
      have ne : dd ≠ b := fun z => by rw [z, fb] at hfd; cases hfd
      have g1 : Gr G F (upd F b (exk b C dd)) := ⟨Fe, fun u o ho => by
        by_cases hu : u = b
        · subst hu; exact .inr gb
        · rw [upd_ne hu] at ho; exact .inl ho⟩
      have kf1 : Exf (upd F b (exk b C dd)) (upd H' b (exk b C dd)) := ⟨fun u o ho => by
        by_cases hu : u = b
        · subst hu; rw [upd_same] at ho ⊢; exact ho
        · rw [upd_ne hu] at ho ⊢; exact kf.1 u o ho, kf.2.put b fun _ z => nomatch (show HO.ext _ = HO.tbl _ from z)⟩
      have rx : RD X.K X.mg (upd F b (exk b C dd)) (.exc c ns ds) (.ref b) := .exc hC upd_same (by rw [upd_ne ne]; exact hfd) hn (rr.mono Fe)
      exact ⟨_, g1, kg.new nb, kf1, rx⟩
    · cases e'
/-- x = None ahead of the try -/
theorem gives_h1 (hN : Ng.Nodup) (hjc : Ng[jc]? = some cn) (h1 : jc ≠ 0) (lcn : sg.names.lookup cn = some .local) (hst : ∀ f : Addr, (L2.start Ng [V.ref f])[0]? = some (some (V.ref f))) (hlen : ∀ f : Addr, (L2.start Ng [V.ref f]).length = Ng.length)
    (hs1 : ∀ env : Env, env.scope = sg → swapsWith (.Constant .none j p2) (some (.Name cn p1)) p3.line env = pure false)
    (hs2 : ∀ env : Env, env.scope = sg → swapsWith (.Call (.Name a p4) [] [] p5) none p6.line env = pure false)
    (hh : ∀ (s : Shared) (H : Hp), HdD (hCx X Ng x sg g cdg s H) all (h0 :: hds) l)
    (hd : ∀ (s : Shared) (H : Hp), SSs (hCx X Ng x sg g cdg s H) [] rest d) :
    GivesTo X Ng x sg g cdg (.Assign [.Name cn p1] (.Constant .none j p2) p3 :: .Try [.Expr (.Call (.Name a p4) [] [] p5) p6] (h0 :: hds) [] [] p12 :: rest) a q (TTk X.K X.mg (kG all Ng.length (some jc) l d)) := by
  intro f c' s H Q tl act hc h
  obtain ⟨E', Q', q1, q2, q3⟩ := h
  let Z := hCx X Ng x sg g cdg s H
  have hjl : jc < Ng.length := (List.getElem?_eq_some_iff.mp hjc).1
  obtain ⟨l', hds', wish⟩ := hd_go (Z := Z) Ng.length rfl (hh s H)
  have body := pss_cons (X := Z) (ps_set (pos := p3) (pos' := p1) (i := jc) hN hjc (.inl lcn) (pe_non (j := j) (pos := p2)) (hs1 _ rfl) (.inr lcn))
    (pss_cons (ps_try_h (X := Z) (pos := p12) (body := [.Expr (.Call (.Name a p4) [] [] p5) p6])
      (tb := fun W D σ H => (∀ v H', Q' v H' → D.nx σ H') ∧ (∀ cls d σ' H', E' cls d H' → σ'.length = Ng.length → W cls d σ' H') ∧ σ[0]? = some (some (.ref f)) ∧ H c' = some (CodeO c' q) ∧ tl E' H Q')
      rfl rfl rfl hN (fun W pn xe tk => ⟨fun pins s' σ H' D I h' => by
        obtain ⟨w1, w2, w3, w4, w5⟩ := h'
        have hp := act (fun cls d σ H => E' cls d H ∧ (σ.length = Ng.length → W cls d σ H)) pn xe E' p4 p5 ((takes_len tk).imp fun cls d σ H z => z.2) fun cls d σ' H' z => ⟨z, w2 cls d σ' H' z⟩
        have hq := pss_one (ps_expr (pos := p6) (pe_mono hp) (hs2 _ rfl))
        exact hq.run pins s' σ H' D I ⟨Q', ⟨w3, w4, w5⟩, w1⟩⟩) hds')
      (hd s H).pss)
  refine ⟨_, body, ?_⟩
  have s0 : ((L2.start Ng [V.ref f]).set jc (some V.non))[0]? = some (some (V.ref f)) := by rw [List.getElem?_set_ne h1]; exact hst f
  refine ⟨fun v H' z => ?_, fun cls d0 σ' H' z hl => ?_, s0, hc, q1⟩
  · obtain ⟨G, F, sv, kg, kf, e, k⟩ := q2 v H' z
    exact rest_any (rep_slot (K := X.K) (mg := X.mg) (o := none) kg kf (by rw [List.length_set]; exact hlen f) (List.getElem?_set_self (by rw [hlen f]; exact hjl)) .non) e k
  · obtain ⟨G, F, y, sv, kg, kf, ⟨c, ns, ds, C, dd, fs, rfl, rfl, hC, rfl, hfd, hn, rr⟩, e, k⟩ := q3 cls d0 H' z
    have e' : (if c ∈ all then finH d (hPick Ng.length c (.exc c ns ds) l) else none) = some sv := e
    split at e'
    · rename_i hcs
      refine ⟨C, dd, rfl, rfl, wish d Q _ C dd c ns ds σ' H' G F sv kg kf hC (fun b nb => ?_) hl hcs e' k rfl fun σ H z => z⟩
      have gb := kg.back nb
      have fb : F b = none := fresh_back kf.1 nb
      have Fe : Ex F (upd F b (exk b C dd)) := Ex.new fb
      have ne : dd ≠ b := fun z => by rw [z, fb] at hfd; cases hfd
      have g1 : Gr G F (upd F b (exk b C dd)) := ⟨Fe, fun u o ho => by
        by_cases hu : u = b
        · subst hu; exact .inr gb
        · rw [upd_ne hu] at ho; exact .inl ho⟩
      have kf1 : Exf (upd F b (exk b C dd)) (upd H' b (exk b C dd)) := ⟨fun u o ho => by
        by_cases hu : u = b
        · subst hu; rw [upd_same] at ho ⊢; exact ho
        · rw [upd_ne hu] at ho ⊢; exact kf.1 u o ho, kf.2.put b fun _ z => nomatch (show HO.ext _ = HO.tbl _ from z)⟩
      have rx : RD X.K X.mg (upd F b (exk b C dd)) (.exc c ns ds) (.ref b) := .exc hC upd_same (by rw [upd_ne ne]; exact hfd) hn (rr.mono Fe)
      exact ⟨_, g1, kg.new nb, kf1, rx⟩
    · cases e'
end
end Sm
/-! sorted(xs), xs a list of tuples of whole numbers. -/
namespace Sm
open PySem PySem.Spec PyProof.Rows L2 Evl PySem.W
def sortR (rows : List (List Int)) : List (List Int) := rows.mergeSort (fun p q => decide (p ≤ q))
def rowP (r : List Int) : PyData := .tuple (r.map .int)
theorem dataLe_tups {β : Type} (x : β → List Int) : dataLe false (fun b => rowP (x b)) = fun p q => decide (x p ≤ x q) := by
  funext p q
  show (!dataLt (.tuple ((x q).map .int)) (.tuple ((x p).map .int))) = _
  rw [dataLt_tuple]
  show (!rowLt ((x q).map .int) ((x p).map .int)) = _
  rw [dataLt_ints]
  by_cases h : x q < x p
  · have h' : ¬ x p ≤ x q := fun r => List.not_lt.mpr r h
    simp [h, h']
  · have h' : x p ≤ x q := List.not_lt.mp h
    simp [h, h']
theorem rowP_alike (x y : List Int) : alike (rowP x) (rowP y) = true := by
  unfold rowP
  simp [alike, alike_ints]
theorem rowP_depth (x : List Int) : (rowP x).depth ≤ 1 := by
  unfold rowP
  simp [PyData.depth, depth_ints]
section
variable {prog : Program} {w : World} {A : Around} {E : Value → Shared → Prop} {s : Shared} {β : Type} {vs : List Value} {bs : List β} {enc : β → PyData} {R : Value → β → Prop}
/-- one value, or none, is sorted already -/
theorem SortsAt.one {vs : List Value} {ds : List PyData} (e : EachIs (fun v d => ∃ as, Reads s.heap v d as) vs ds) (hal : AllAlike ds) (hn : ∀ d ∈ ds, d ≠ .none) (hl : ds.length ≤ 1) (hu : ∀ d, d ∈ ds → A.units + d.depth < cLine) : SortsAt prog w A s (dataKind s.heap ds) vs := by
  refine ⟨fun v hv => ?_, general', fun E x y a b Q ha hb hq => ?_, fun h2 => absurd h2 (by rw [e.length]; omega)⟩
  · obtain ⟨d, hd, as, r⟩ := e.left v hv
    exact ⟨_, dataKind_some hal hd r⟩
  · obtain ⟨d, as, hd, ra, rfl⟩ := dataKind_inv ha
    obtain ⟨d', as', hd', rb, rfl⟩ := dataKind_inv hb
    have hq' : Q (dataLt d d') s := hq
    exact oneLt_alike (f := false) (fun z => by cases z) ra rb (hal d hd d' hd') (hn d hd) (Nat.lt_of_le_of_lt (Nat.add_le_add_left (Nat.min_le_left _ _) _) (hu d hd)) hq'
theorem sorted_any {l : Addr} {Q : Value → Shared → Prop} (hl : s.heap.IsList l vs.toArray) (e : EachIs R vs bs) (er : EachIs (fun v b => ∃ as, Reads s.heap v (enc b) as) vs bs) (hal : AllAlike (bs.map enc)) (hk : Sortable (bs.map enc) ∨ ((∀ d ∈ bs.map enc, d ≠ .none) ∧ bs.length ≤ 1)) (hL : bs.length ≤ sizeLine)
    (hu : ∀ b, b ∈ bs → A.units + 2 + (enc b).depth < cLine) (h : ∀ out, out.length = bs.length → EachIs R out (bs.mergeSort (dataLe false enc)) → Q (.ref (s.heap.objs.size + 1)) { s with heap := sortedAll s.heap vs (List.toArray out) }) :
    wpAny (model prog w) A (call (.builtin "sorted") [.ref l]) Q E s := by
  rcases hk with hk | ⟨hn, h1⟩
  · exact sorted_data hl e er hal hk hL hu h
  · have er' : EachIs (fun v b => ∃ as, Reads (sortingHeap (copyHeap s.heap vs) (s.heap.objs.size + 1) vs) v (enc b) as) vs bs := er.mono fun _ _ ⟨as, r⟩ => ⟨as, PyProof.Rows.Reads.keeps (fun _ _ => sorting_copy_old) r⟩
    exact sorted_vals hl (SortsAt.one (s := { s with heap := sortingHeap (copyHeap s.heap vs) (s.heap.objs.size + 1) vs }) (each_map (R := fun v d => ∃ as, Reads (sortingHeap (copyHeap s.heap vs) (s.heap.objs.size + 1) vs) v d as) enc er') hal hn (by rw [List.length_map]; exact h1) (bound_map hu)) (by rw [e.length]; exact hL)
      (h _ (by rw [sortVals_length false rfl]; exact e.length) (sortVals_data false e er' hal))
end
def rSortRows (K : PySem.W.Frag) : List V → Hp → VK → Prop := fun vs H Q => ∃ (a : Addr) (xs : List V) (rows : List (List Int)), vs = [V.ref a] ∧ SqL K H a xs ∧ DpAll K H xs (rows.map rowP) ∧ ((∀ r ∈ rows, r ≠ []) ∨ rows.length ≤ 1) ∧
  ∀ (ord : List (V × List Int)) (p : Addr), ord.Perm (xs.zip rows) → ord.map (·.2) = sortR rows → H p = none → Q (.ref p) (upd H p (.lst (ord.map (·.1))))
theorem vals_each : ∀ {xs : List V} {us : List Value} {rows : List (List Int)}, Vals xs us → rows.length = xs.length → EachIs (fun u (b : V × List Int) => RelV b.1 u) us (xs.zip rows)
  | _, _, [], .nil, _ => .nil
  | _, _, r :: rows, .cons h t, hl => .cons h (vals_each t (by simpa using hl))
theorem each_vals : ∀ {us : List Value} {ord : List (V × List Int)}, EachIs (fun u (b : V × List Int) => RelV b.1 u) us ord → Vals (ord.map (·.1)) us
  | _, _, .nil => .nil
  | _, _, .cons h t => .cons h (each_vals t)
theorem dp_len {K : PySem.W.Frag} {H : Hp} : ∀ {xs : List V} {ds : List PyData}, DpAll K H xs ds → xs.length = ds.length
  | _, _, .nil => rfl
  | _, _, .cons _ t => by rw [List.length_cons, List.length_cons, dp_len t]
theorem reads_each {X : Cx} {pins : List (Addr × Obj)} {σ : L2.St} {H : Hp} {s : Shared} (I : L2.Inv X pins σ H s) : ∀ {xs : List V} {us : List Value} {rows : List (List Int)}, Vals xs us → DpAll X.K H xs (rows.map rowP) → EachIs (fun v (b : V × List Int) => ∃ as, Reads s.heap v (rowP b.2) as) us (xs.zip rows)
  | _, _, [], .nil, _ => .nil
  | _, _, [], .cons _ _, h => by cases h
  | _, _, r :: rows, .cons h t, .cons d ds => .cons (Dp.reads I _ _ _ d h) (reads_each I t ds)
section
variable {X : Cx}
theorem cr_sortRows (hu : X.A.units + 64 < cLine) : CallR X (.builtin "sorted") (rSortRows X.K) := by
  intro pins s σ H vs us Q I r h
  obtain ⟨a, xs, rows, rfl, hs, hd, hne, q⟩ := h
  obtain ⟨its, rv, hl, hz⟩ := I.list hs
  rw [Vals.ref1 r]
  have hlen : rows.length = xs.length := by
    have := dp_len hd
    rw [List.length_map] at this
    exact this.symm
  have hzl : (xs.zip rows).length = xs.length := by rw [List.length_zip, hlen, Nat.min_self]
  refine sorted_any (enc := fun b : V × List Int => rowP b.2) (R := fun u (b : V × List Int) => RelV b.1 u) (bs := xs.zip rows) hl.isList (vals_each rv hlen) (reads_each I rv hd) (AllAlike.of fun b b' => rowP_alike _ _) ?_ (by rw [hzl]; exact hz) (fun b hb => ?_) fun out ho eo => ?_
  · rcases hne with h | h
    · refine .inl (.inl fun d hd' => ?_)
      obtain ⟨b, hb, rfl⟩ := List.mem_map.mp hd'
      have hb' : b.2 ∈ rows := (List.of_mem_zip hb).2
      cases e : b.2 with
      | nil => exact absurd e (h _ hb')
      | cons y ys => exact ⟨.int y, ys.map .int, rfl⟩
    · refine .inr ⟨fun d hd' => ?_, by rw [hzl, ← hlen]; exact h⟩
      obtain ⟨b, hb, rfl⟩ := List.mem_map.mp hd'
      intro z
      cases z
  · have := rowP_depth b.2
    show X.A.units + 2 + (rowP b.2).depth < cLine
    omega
  · have hp : ((xs.zip rows).mergeSort (dataLe false fun b : V × List Int => rowP b.2)).Perm (xs.zip rows) := List.mergeSort_perm _ _
    obtain ⟨ep, he'⟩ := PyProof.Rows.sortedAll_at s.heap its out.toArray
    have e2 : ((xs.zip rows).mergeSort (dataLe false fun b : V × List Int => rowP b.2)).map (·.2) = sortR rows := by
      have := sort_maps (fun b : V × List Int => b.2) (r := dataLe false fun b : V × List Int => rowP b.2) (s := fun p q => decide (p ≤ q)) (l := xs.zip rows) fun p _ q _ => by rw [dataLe_tups]
      rw [this, List.map_snd_zip (by omega)]
      rfl
    have hsz : (((xs.zip rows).mergeSort (dataLe false fun b : V × List Int => rowP b.2)).map (·.1)).length ≤ sizeLine := by rw [List.length_map, hp.length_eq, hzl]; exact hz
    exact ⟨.ref _, upd H (s.heap.objs.size + 1) (.lst (((xs.zip rows).mergeSort (dataLe false fun b : V × List Int => rowP b.2)).map (·.1))), I.laid (t' := s.toks) (fun _ _ => PyProof.Rows.sortedAll_old) (Nat.le_succ _) ⟨hsz, out, ep, each_vals eo, he'⟩, rfl, q _ _ hp e2 (I.hok.fresh (Nat.le_succ _))⟩
end
def rowD? : D → Option (List Int)
  | .tup xs => D.ints xs
  | _ => none
def rowsD : List D → Option (List (List Int))
  | [] => some []
  | x :: xs => match rowD? x, rowsD xs with
    | some r, some rs => some (r :: rs)
    | _, _ => none
def tups (rows : List (List Int)) : List D := rows.map fun r => .tup (il r)
theorem rowsD_eq : ∀ {xs : List D} {rows : List (List Int)}, rowsD xs = some rows → xs = tups rows
  | [], rows, h => by cases h; rfl
  | x :: xs, rows, h => by
    unfold rowsD at h
    split at h
    · rename_i r rs h1 h2
      cases h
      have e1 : x = .tup (il r) := by
        unfold rowD? at h1
        split at h1
        · rw [D.ints_eq h1]; rfl
        · cases h1
      rw [e1, rowsD_eq h2]
      rfl
    · cases h
theorem rows_tups : ∀ rows : List (List Int), rowsD (tups rows) = some rows
  | [] => rfl
  | r :: rows => by
    have := rows_tups rows
    show (match D.ints (il r), rowsD (tups rows) with | some r, some rs => some (r :: rs) | _, _ => none) = _
    rw [this, ints_il]
/-- sorted of a list of tuples of whole numbers -/
def cSortRows : List D → Option SV
  | [.lst xs] => match rowsD xs with
    | some rows => if rows.all (fun r => !r.isEmpty) = true ∨ rows.length ≤ 1 then some (.lst (tups (sortR rows))) else none
    | none => none
  | _ => none
theorem sortRows_l (rows : List (List Int)) (h : (∀ r ∈ rows, r ≠ []) ∨ rows.length ≤ 1) : cSortRows [.lst (tups rows)] = some (.lst (tups (sortR rows))) := by
  show (match rowsD (tups rows) with | some rows => (if rows.all (fun r => !r.isEmpty) = true ∨ rows.length ≤ 1 then some (SV.lst (tups (sortR rows))) else none) | none => none) = _
  rw [rows_tups]
  show (if rows.all (fun r => !r.isEmpty) = true ∨ rows.length ≤ 1 then some (SV.lst (tups (sortR rows))) else none) = _
  rw [if_pos]
  rcases h with h | h
  · refine .inl (List.all_eq_true.mpr fun r hr => ?_)
    cases r with
    | nil => exact absurd rfl (h _ hr)
    | cons a b => rfl
  · exact .inr h
section
variable {K : PySem.W.Frag} {mg : Str → Option Value} {F : Hp}
theorem pys_tups : ∀ rows : List (List Int), D.pys (tups rows) = some (rows.map rowP)
  | [] => by simp [tups, D.pys]
  | r :: rows => by
    have := pys_tups rows
    simp only [tups, List.map_cons, D.pys, D.py, pys_il] at *
    rw [this]
    rfl
theorem rds_zip : ∀ {rows : List (List Int)} {vs : List V}, RDs K mg F (tups rows) vs → ∀ p ∈ vs.zip rows, RD K mg F (.tup (il p.2)) p.1
  | [], _, .nil, p, h => by simp at h
  | r :: rows, _, .cons h t, p, hp => by
    rcases List.mem_cons.mp (by simpa using hp) with rfl | hp
    · exact h
    · exact rds_zip t p hp
theorem rds_ord : ∀ {ord : List (V × List Int)}, (∀ p ∈ ord, RD K mg F (.tup (il p.2)) p.1) → RDs K mg F (tups (ord.map (·.2))) (ord.map (·.1))
  | [], _ => .nil
  | p :: ord, h => .cons (h p List.mem_cons_self) (rds_ord fun q hq => h q (List.mem_cons_of_mem _ hq))
end
section
variable {X : Cx}
theorem cs_sortRows (hu : X.A.units + 64 < cLine) : CallS X (.builtin "sorted") cSortRows := by
  refine ⟨_, cr_sortRows hu, ?_⟩
  intro G F H st σ ds vs sv Q R r e k
  unfold cSortRows at e
  split at e
  · rename_i xs
    split at e
    · rename_i rows q
      split at e
      · rename_i hne
        cases e
        rw [rowsD_eq q] at r
        obtain ⟨v, rfl, h⟩ := r.one
        obtain ⟨a, us, rfl, ha, ra⟩ := h.lst_inv
        refine ⟨a, us, rows, rfl, .inl (.inl (R.f _ _ ha)), D.pys_rd R.f ra (pys_tups rows), hne.imp (fun z r hr e => ?_) id, fun ord p h1 h2 hp => ?_⟩
        · have := List.all_eq_true.mp z r hr
          rw [e] at this
          cases this
        · have rr : RDs X.K X.mg F (tups (sortR rows)) (ord.map (·.1)) := by
            rw [← h2]
            exact rds_ord fun p hp => rds_zip ra p (h1.mem_iff.mp hp)
          exact k.newL R hp rr
      · cases e
    · cases e
  · cases e
/-- sorted of whole numbers, or of a list of tuples of such -/
def cSortX (ds : List D) : Option SV := match cSortT ds with
  | some r => some r
  | none => cSortRows ds
theorem cs_sortX (hu : X.A.units + 64 < cLine) : CallS X (.builtin "sorted") cSortX := by
  obtain ⟨r1, h1, k1⟩ := cs_sortT (X := X)
  obtain ⟨r2, h2, k2⟩ := cs_sortRows hu
  refine ⟨_, h1.or h2, ?_⟩
  intro G F H st σ ds vs sv Q R r e k
  unfold cSortX at e
  split at e
  · rename_i x q
    cases e
    exact .inl (k1 R r q k)
  · exact .inr (k2 R r e k)
end
@[simp] theorem sortX_l (xs : List Int) : cSortX [.lst (il xs)] = some (.lst (il (sortI xs))) := by simp [cSortX]
@[simp] theorem sortX_t (xs : List Int) : cSortX [.tup (il xs)] = some (.lst (il (sortI xs))) := by simp [cSortX]
theorem sortX_r (rows : List (List Int)) (h : (∀ r ∈ rows, r ≠ []) ∨ rows.length ≤ 1) : cSortX [.lst (tups rows)] = some (.lst (tups (sortR rows))) := by
  cases rows with
  | nil =>
    have h := sortX_l []
    rw [show sortI [] = [] by simp [sortI]] at h
    rw [show sortR [] = [] by simp [sortR]]
    exact h
  | cons r rows =>
    have e : cSortT [.lst (tups (r :: rows))] = none := rfl
    unfold cSortX
    rw [e]
    exact sortRows_l _ h
theorem sortR_perm (rows : List (List Int)) : (sortR rows).Perm rows := List.mergeSort_perm _ _
end Sm
/-! The walk of this law's defs: printed by gen.py. -/
namespace K12
noncomputable section
open PySem PySem.Spec PyProof.Rows L2 Evl Sm
/-! ### the text -/
def topS (i : Nat) : Stmt := PySem.Challenge.pw_spanalike_k12_whole_what_is_left_out.main.body.getD i (.Pass ⟨0, 0, 0, 0⟩)
abbrev s_law_hand : Stmt := topS 42
abbrev N_law_hand : List Str := ["_law_script", "_law_cell"]
theorem sc_law_hand : FnScope N_law_hand ["_law_script"] (defScope s_law_hand) := ⟨rfl, rfl, rfl, by decide +kernel, rfl, by decide +kernel, by decide +kernel⟩
abbrev s_law_take : Stmt := topS 43
abbrev N_law_take : List Str := ["_law_hand_here", "_law_many", "_law_left", "_law_at", "_law_cell", "_law_mixed"]
theorem sc_law_take : FnScope N_law_take ["_law_hand_here", "_law_many"] (defScope s_law_take) := ⟨rfl, rfl, rfl, by decide +kernel, rfl, by decide +kernel, by decide +kernel⟩
abbrev s_law_lot : Stmt := topS 45
abbrev N_law_lot : List Str := ["_law_hand_here", "_law_many", "_law_size", "_law_left", "_law_turn"]
theorem sc_law_lot : FnScope N_law_lot ["_law_hand_here", "_law_many", "_law_size"] (defScope s_law_lot) := ⟨rfl, rfl, rfl, by decide +kernel, rfl, by decide +kernel, by decide +kernel⟩
abbrev s_is_integer : Stmt := topS 14
abbrev N_is_integer : List Str := ["value"]
theorem sc_is_integer : FnScope N_is_integer ["value"] (defScope s_is_integer) := ⟨rfl, rfl, rfl, by decide +kernel, rfl, by decide +kernel, by decide +kernel⟩
abbrev s_is_listed : Stmt := topS 16
abbrev N_is_listed : List Str := ["value"]
theorem sc_is_listed : FnScope N_is_listed ["value"] (defScope s_is_listed) := ⟨rfl, rfl, rfl, by decide +kernel, rfl, by decide +kernel, by decide +kernel⟩
abbrev s_are_integers : Stmt := topS 17
abbrev N_are_integers : List Str := ["value", "each"]
theorem sc_are_integers : FnScope N_are_integers ["value"] (defScope s_are_integers) := ⟨rfl, rfl, rfl, by decide +kernel, rfl, by decide +kernel, by decide +kernel⟩
abbrev s_Rowx__initx_ : Stmt := inClass (topS 31) 0
abbrev N_Rowx__initx_ : List Str := ["self", "numbers", "number", "beat"]
theorem sc_Rowx__initx_ : FnScope N_Rowx__initx_ ["self", "numbers"] (defScope s_Rowx__initx_) := ⟨rfl, rfl, rfl, by decide +kernel, rfl, by decide +kernel, by decide +kernel⟩
abbrev s_Row_left_out : Stmt := inClass (topS 31) 9
abbrev N_Row_left_out : List Str := ["self", "number"]
theorem sc_Row_left_out : FnScope N_Row_left_out ["self"] (defScope s_Row_left_out) := ⟨rfl, rfl, rfl, by decide +kernel, rfl, by decide +kernel, by decide +kernel⟩
abbrev s_first_twice : Stmt := topS 18
abbrev N_first_twice : List Str := ["values", "known", "each"]
theorem sc_first_twice : FnScope N_first_twice ["values"] (defScope s_first_twice) := ⟨rfl, rfl, rfl, by decide +kernel, rfl, by decide +kernel, by decide +kernel⟩
abbrev s_is_within : Stmt := topS 15
abbrev N_is_within : List Str := ["value", "least", "most"]
theorem sc_is_within : FnScope N_is_within ["value", "least", "most"] (defScope s_is_within) := ⟨rfl, rfl, rfl, by decide +kernel, rfl, by decide +kernel, by decide +kernel⟩
abbrev s_BadNumberx__initx_ : Stmt := inClass (topS 4) 0
abbrev N_BadNumberx__initx_ : List Str := ["self", "part"]
theorem sc_BadNumberx__initx_ : FnScope N_BadNumberx__initx_ ["self", "part"] (defScope s_BadNumberx__initx_) := ⟨rfl, rfl, rfl, by decide +kernel, rfl, by decide +kernel, by decide +kernel⟩
abbrev s_need_number : Stmt := topS 19
abbrev N_need_number : List Str := ["value", "part", "least", "most"]
theorem sc_need_number : FnScope N_need_number ["value", "part", "least", "most"] (defScope s_need_number) := ⟨rfl, rfl, rfl, by decide +kernel, rfl, by decide +kernel, by decide +kernel⟩
abbrev s_need_many : Stmt := topS 27
abbrev N_need_many : List Str := ["value"]
theorem sc_need_many : FnScope N_need_many ["value"] (defScope s_need_many) := ⟨rfl, rfl, rfl, by decide +kernel, rfl, by decide +kernel, by decide +kernel⟩
abbrev s_Row_of : Stmt := inClass (topS 31) 2
abbrev N_Row_of : List Str := ["many", "marks", "beat", "again"]
theorem sc_Row_of : FnScope N_Row_of ["many", "marks"] (defScope s_Row_of) := ⟨rfl, rfl, rfl, by decide +kernel, rfl, by decide +kernel, by decide +kernel⟩
abbrev s_law_counts : Stmt := topS 47
abbrev N_law_counts : List Str := ["_law_many", "_law_marks", "_law_found", "_law_at", "_law_one", "_law_other", "_law_far"]
theorem sc_law_counts : FnScope N_law_counts ["_law_many", "_law_marks"] (defScope s_law_counts) := ⟨rfl, rfl, rfl, by decide +kernel, rfl, by decide +kernel, by decide +kernel⟩
abbrev s_counts_of : Stmt := topS 35
abbrev N_counts_of : List Str := ["told", "many", "beat"]
theorem sc_counts_of : FnScope N_counts_of ["told"] (defScope s_counts_of) := ⟨rfl, rfl, rfl, by decide +kernel, rfl, by decide +kernel, by decide +kernel⟩
abbrev s_BadRowx__initx_ : Stmt := inClass (topS 3) 0
abbrev N_BadRowx__initx_ : List Str := ["self", "part"]
theorem sc_BadRowx__initx_ : FnScope N_BadRowx__initx_ ["self", "part"] (defScope s_BadRowx__initx_) := ⟨rfl, rfl, rfl, by decide +kernel, rfl, by decide +kernel, by decide +kernel⟩
abbrev s_need_row : Stmt := topS 28
abbrev N_need_row : List Str := ["value", "part"]
theorem sc_need_row : FnScope N_need_row ["value", "part"] (defScope s_need_row) := ⟨rfl, rfl, rfl, by decide +kernel, rfl, by decide +kernel, by decide +kernel⟩
abbrev s_need_lot : Stmt := topS 29
abbrev N_need_lot : List Str := ["value", "part"]
theorem sc_need_lot : FnScope N_need_lot ["value", "part"] (defScope s_need_lot) := ⟨rfl, rfl, rfl, by decide +kernel, rfl, by decide +kernel, by decide +kernel⟩
abbrev s_sums_across : Stmt := topS 34
abbrev N_sums_across : List Str := ["one", "other", "many", "found", "beat", "turned", "mine", "its"]
theorem sc_sums_across : FnScope N_sums_across ["one", "other"] (defScope s_sums_across) := ⟨rfl, rfl, rfl, by decide +kernel, rfl, by decide +kernel, by decide +kernel⟩
abbrev s_distances : Stmt := topS 37
abbrev N_distances : List Str := ["lot"]
theorem sc_distances : FnScope N_distances ["lot"] (defScope s_distances) := ⟨rfl, rfl, rfl, by decide +kernel, rfl, by decide +kernel, by decide +kernel⟩
abbrev s_coming : Stmt := topS 38
abbrev N_coming : List Str := ["lot", "at", "count"]
theorem sc_coming : FnScope N_coming ["lot"] (defScope s_coming) := ⟨rfl, rfl, rfl, by decide +kernel, rfl, by decide +kernel, by decide +kernel⟩
abbrev s_need_counts : Stmt := topS 33
abbrev N_need_counts : List Str := ["many", "size", "counts", "count"]
theorem sc_need_counts : FnScope N_need_counts ["many", "size", "counts"] (defScope s_need_counts) := ⟨rfl, rfl, rfl, by decide +kernel, rfl, by decide +kernel, by decide +kernel⟩
abbrev s_distances_left_out : Stmt := topS 40
abbrev N_distances_left_out : List Str := ["many", "size", "counts", "found", "at", "count", "more"]
theorem sc_distances_left_out : FnScope N_distances_left_out ["many", "size", "counts"] (defScope s_distances_left_out) := ⟨rfl, rfl, rfl, by decide +kernel, rfl, by decide +kernel, by decide +kernel⟩
abbrev s_not_coming : Stmt := topS 39
abbrev N_not_coming : List Str := ["lot", "at", "count"]
theorem sc_not_coming : FnScope N_not_coming ["lot"] (defScope s_not_coming) := ⟨rfl, rfl, rfl, by decide +kernel, rfl, by decide +kernel, by decide +kernel⟩
abbrev s_spans : Stmt := topS 36
abbrev N_spans : List Str := ["row"]
theorem sc_spans : FnScope N_spans ["row"] (defScope s_spans) := ⟨rfl, rfl, rfl, by decide +kernel, rfl, by decide +kernel, by decide +kernel⟩
abbrev s_law_lot_right : Stmt := topS 49
abbrev N_law_lot_right : List Str := ["_law_many", "_law_marks", "_law_lot_here", "_law_counts_here", "_law_size", "_law_left", "_law_its", "_law_told", "_law_at", "_law_count", "_law_whole", "_law_due", "_law_beat"]
theorem sc_law_lot_right : FnScope N_law_lot_right ["_law_many", "_law_marks"] (defScope s_law_lot_right) := ⟨rfl, rfl, rfl, by decide +kernel, rfl, by decide +kernel, by decide +kernel⟩
abbrev s_law_lots : Stmt := topS 46
abbrev N_law_lots : List Str := ["_law_many", "_law_size", "_law_found", "_law_beat", "_law_lot_here"]
theorem sc_law_lots : FnScope N_law_lots ["_law_many", "_law_size"] (defScope s_law_lots) := ⟨rfl, rfl, rfl, by decide +kernel, rfl, by decide +kernel, by decide +kernel⟩
abbrev s_law_pick : Stmt := topS 44
abbrev N_law_pick : List Str := ["_law_hand_here", "_law_some"]
theorem sc_law_pick : FnScope N_law_pick ["_law_hand_here", "_law_some"] (defScope s_law_pick) := ⟨rfl, rfl, rfl, by decide +kernel, rfl, by decide +kernel, by decide +kernel⟩
abbrev s_law_heard : Stmt := topS 48
abbrev N_law_heard : List Str := ["_law_ask", "_law_caught", "error", "_law_kinds"]
theorem sc_law_heard : FnScope N_law_heard ["_law_ask"] (defScope s_law_heard) := ⟨rfl, rfl, rfl, by decide +kernel, rfl, by decide +kernel, by decide +kernel⟩
abbrev s_law_refused_right : Stmt := topS 51
abbrev N_law_refused_right : List Str := ["_law_hand_here", "_law_odd", "_law_row", "_law_heard_here", "_law_value", "_law_ask", "_law_bad", "_law_wrong", "_law_ill", "_law_bent"]
theorem sc_law_refused_right : FnScope N_law_refused_right ["_law_hand_here"] (defScope s_law_refused_right) := ⟨rfl, rfl, rfl, by decide +kernel, rfl, by decide +kernel, by decide +kernel⟩
abbrev s_law_told_right : Stmt := topS 50
abbrev N_law_told_right : List Str := ["_law_hand_here", "_law_many", "_law_size", "_law_counts_here", "_law_due", "_law_distance", "_law_at", "_law_count"]
theorem sc_law_told_right : FnScope N_law_told_right ["_law_hand_here"] (defScope s_law_told_right) := ⟨rfl, rfl, rfl, by decide +kernel, rfl, by decide +kernel, by decide +kernel⟩
abbrev s_law : Stmt := topS 52
abbrev N_law : List Str := ["_law_script", "_law_hand_here", "_law_many", "_law_size", "_law_marks"]
theorem sc_law : FnScope N_law ["_law_script"] (defScope s_law) := ⟨rfl, rfl, rfl, by decide +kernel, rfl, by decide +kernel, by decide +kernel⟩
/-! ### what the defs compute -/
def csX : List Str := ["BadNumber", "BadRow"]
def xf_most : List Str := []
def xf_part : List Str := ["BadNumber", "BadRow"]
def xf_what : List Str := []
def isP : IsP := ⟨[], ["BadNumber", "BadRow"], [(.inl "NoneType", .inr "BadNumber", false), (.inl "NoneType", .inr "BadRow", false), (.inl "NoneType", .inr "Misfit", false), (.inl "NoneType", .inr "NoDivisor", false), (.inl "NoneType", .inr "TooMany", false), (.inr "BadNumber", .inr "BadNumber", true), (.inr "BadNumber", .inr "BadRow", false), (.inr "BadNumber", .inr "Misfit", false), (.inr "BadNumber", .inr "NoDivisor", false), (.inr "BadNumber", .inr "TooMany", false), (.inr "BadRow", .inr "BadNumber", false), (.inr "BadRow", .inr "BadRow", true), (.inr "BadRow", .inr "Misfit", false), (.inr "BadRow", .inr "NoDivisor", false), (.inr "BadRow", .inr "TooMany", false)]⟩
def isR_Row : IsP := ⟨["Row"], [], [(.inr "Row", .inr "Row", true), (.inl "NoneType", .inr "Row", false), (.inl "int", .inr "Row", false), (.inl "bool", .inr "Row", false), (.inl "str", .inr "Row", false), (.inl "list", .inr "Row", false), (.inl "tuple", .inr "Row", false), (.inl "dict", .inr "Row", false)]⟩
def b_law_hand : DS := (dRet (dLst (dCons (dLc (dSeqI (dSl (dVar 0) .no (.at_ (dC (.int 60))))) (gN 1) dYes (dCB cInt (dCons (dVar 1) dNil)) [1]) (dCons (dC (.int 0)) (dCons (dC (.int 0)) dNil)))))
def F_law_hand : List D → Option SV := runP 2 b_law_hand
def b_law_take : DS := (dSeq (dIfS (dB (dOp (oInt fun i j => decide (j < i)) (dIxV 0 (dC (.int 2))) (dC (.int 0)))) (dSeq (dSet 2 (dIxV 0 (dC (.int 2))))
  (dSeq (dSetIx 0 (dOp oDiv (dCB cInt (dCons (dVar 2) dNil)) (dVar 1)) (dC (.int 2)))
  (dRet (dOp oMod (dCB cInt (dCons (dVar 2) dNil)) (dVar 1))))) dNext)
  (dSeq (dSet 3 (dIxV 0 (dC (.int 1))))
  (dSeq (dSetIx 0 (dOp oAdd (dVar 3) (dC (.int 1))) (dC (.int 1)))
  (dSeq (dSet 4 (dOp oAdd (dOp oMul (dC (.int 62003)) (dVar 3)) (dC (.int 4271))))
  (dSeq (dIfS (dB (dOp (oEq true) (dIxV 0 (dC (.int 0))) (dLst dNil))) (dSet 4 (dOp oIx (dIxV 0 (dC (.int 0))) (dOp oMod (dCB cInt (dCons (dVar 3) dNil)) (dCB cLen (dCons (dIxV 0 (dC (.int 0))) dNil))))) dNext)
  (dSeq (dIfS (dAnd (dB (dOp (oInt fun i j => decide (i < j)) (dVar 3) (dCB cLen (dCons (dIxV 0 (dC (.int 0))) dNil)))) (dB (dOp (oInt fun i j => decide (j ≤ i)) (dCB cAbs (dCons (dVar 4) dNil)) (dOp oPow (dC (.int 10)) (dC (.int 18)))))) (dSeq (dSet 2 (dOp oAdd (dOp oMul (dC (.int 2)) (dOp oSub (dCB cAbs (dCons (dVar 4) dNil)) (dOp oPow (dC (.int 10)) (dC (.int 18))))) (dCB cInt (dCons (dOp (oInt fun i j => decide (i < j)) (dVar 4) (dC (.int 0))) dNil))))
  (dSeq (dSetIx 0 (dOp oDiv (dCB cInt (dCons (dVar 2) dNil)) (dVar 1)) (dC (.int 2)))
  (dRet (dOp oMod (dCB cInt (dCons (dVar 2) dNil)) (dVar 1))))) dNext)
  (dSeq (dSet 5 (dOp oMod (dCB cInt (dCons (dOp oPow (dOp oAdd (dOp oAdd (dOp oMod (dCB cInt (dCons (dVar 4) dNil)) (dC (.int 2147483587))) (dOp oMul (dC (.int 72019)) (dVar 3))) (dC (.int 4271))) (dC (.int 5))) dNil)) (dC (.int 2147483629))))
  (dSeq (dSet 5 (dOp oMod (dCB cInt (dCons (dOp oPow (dOp oAdd (dOp oAdd (dOp oMul (dVar 5) (dOp oAdd (dOp oMul (dC (.int 2)) (dVar 3)) (dC (.int 2003)))) (dOp oMul (dOp oMul (dC (.int 62003)) (dVar 3)) (dVar 3))) (dC (.int 92003))) (dC (.int 3))) dNil)) (dC (.int 2147483549))))
  (dRet (dOp oMod (dCB cInt (dCons (dOp oDiv (dVar 5) (dC (.int 64))) dNil)) (dVar 1)))))))))))
def F_law_take : SV → List D → Option (SV × SV) := runO 6 b_law_take
def b_law_lot : DS := (dSeq (dSet 3 (dLRg1 (dVar 1)))
  (dRet (dCB cSorted (dCons (dLc (dRng1 (dCons (dVar 2) dNil)) (gN 4) dYes (dPopAt 3 (dCallO 1 0 F_law_take (dCons (dLenV 3) dNil))) [4]) dNil))))
def F_law_lot : SV → List D → Option (SV × SV) := runO 5 b_law_lot
def b_is_integer : DS := (dRet (dAndV (dCB (cIsi "Row") (dCons (dVar 0) (dCons (dC (.ty "int")) dNil))) (dNotV (dCB (cIsi "Row") (dCons (dVar 0) (dCons (dC (.ty "bool")) dNil))))))
def F_is_integer : List D → Option SV := runP 1 b_is_integer
def b_is_listed : DS := (dRet (dCB (cIsi "Row") (dCons (dVar 0) (dCons (dTup (dCons (dC (.ty "list")) (dCons (dC (.ty "tuple")) dNil))) dNil))))
def F_is_listed : List D → Option SV := runP 1 b_is_listed
def b_are_integers : DS := (dRet (dAndV (dCallP 1 F_is_listed (dCons (dVar 0) dNil)) (dCB cAll (dCons (dLc (dSeqI (dVar 0)) (gN 1) dYes (dCallP 1 F_is_integer (dCons (dVar 1) dNil)) [1]) dNil))))
def F_are_integers : List D → Option SV := runP 2 b_are_integers
def b_Rowx__initx_ : DS := (dSeq (dIfS (dOr (dNot (dB (dCallP 1 F_are_integers (dCons (dVar 1) dNil)))) (dNot (dB (dChain (oInt fun i j => decide (i ≤ j)) (oInt fun i j => decide (i ≤ j)) (dC (.int 2)) (dLenV 1) (dC (.int 24)))))) dNo dNext)
  (dSeq (dSetF "Row" 0 "numbers" (dCB cTuple (dCons (dVar 1) dNil)))
  (dSeq (dSetF "Row" 0 "many" (dLenV 1))
  (dSeq (dSetF "Row" 0 "total" (dCB cSum (dCons (dVar 1) dNil)))
  (dSeq (dSetF "Row" 0 "is_lot" (dCB cAll (dCons (dLc (dSeqI (dVar 1)) (gN 2) dYes (dOp (oIn false) (dVar 2) (dTup (dCons (dC (.int 0)) (dCons (dC (.int 1)) dNil)))) [2]) dNil)))
  (dSetF "Row" 0 "marks" (dCB cTuple (dCons (dLc (dEnum (dCons (dVar 1) dNil)) (gT [3, 2]) (dB (dOp (oEq true) (dVar 2) (dC (.int 0)))) (dVar 3) [3, 2]) dNil))))))))
def F_Rowx__initx_ : SV → List D → Option (SV × SV) := runO 4 b_Rowx__initx_
def b_Row_left_out : DS := (dRet (dMake "Row" 1 F_Rowx__initx_ (dCons (dLc (dSeqI (dFldV "Row" "numbers" 0)) (gN 1) dYes (dOp oSub (dC (.int 1)) (dVar 1)) [1]) dNil)))
def F_Row_left_out : List D → Option SV := runP 2 b_Row_left_out
def b_first_twice : DS := (dSeq (dSet 1 dNewK)
  (dSeq (dFor (dSeqI (dVar 0)) (gN 2) (dSeq (dIfS (dB (dDIn false 1 (dVar 2))) (dRet (dTake 2)) dNext)
  (dDPut 1 (dC (.bl true)) (dVar 2))))
  (dRet (dC .non))))
def F_first_twice : List D → Option SV := runP 3 b_first_twice
def b_is_within : DS := (dSeq (dIfS (dNot (dB (dCallP 1 F_is_integer (dCons (dVar 0) dNil)))) (dRet (dC (.bl false))) dNext)
  (dRet (dAndV (dOrV (dOp (oIs false) (dVar 1) (dC .non)) (dOp (oInt fun i j => decide (j ≤ i)) (dVar 0) (dVar 1))) (dOrV (dOp (oIs false) (dVar 2) (dC .non)) (dOp (oInt fun i j => decide (i ≤ j)) (dVar 0) (dVar 2))))))
def F_is_within : List D → Option SV := runP 3 b_is_within
def b_need_number : DS := (dIfS (dNot (dB (dCallP 3 F_is_within (dCons (dVar 0) (dCons (dVar 2) (dCons (dVar 3) dNil)))))) dNo dNext)
def F_need_number : List D → Option SV := runP 4 b_need_number
def r_need_number : DX := (xIf (dNot (dB (dCallP 3 F_is_within (dCons (dVar 0) (dCons (dVar 2) (dCons (dVar 3) dNil)))))) xNo (xRaise "BadNumber" ["part"] (dCons (dVar 1) dNil)) xNo)
def R_need_number : List D → Option D := runX 4 r_need_number
def b_need_many : DS := (dDrop (dCallP 4 F_need_number (dCons (dVar 0) (dCons (dC (.str "many")) (dCons (dC (.int 2)) (dCons (dC (.int 24)) dNil))))))
def F_need_many : List D → Option SV := runP 1 b_need_many
def r_need_many : DX := (xCall 4 R_need_number (dCons (dVar 0) (dCons (dC (.str "many")) (dCons (dC (.int 2)) (dCons (dC (.int 24)) dNil)))) xNo)
def R_need_many : List D → Option D := runX 1 r_need_many
def b_Row_of : DS := (dSeq (dDrop (dCallP 1 F_need_many (dCons (dVar 0) dNil)))
  (dSeq (dIfS (dNot (dB (dCallP 1 F_is_listed (dCons (dVar 1) dNil)))) dNo dNext)
  (dSeq (dFor (dSeqI (dVar 1)) (gN 2) (dIfS (dNot (dB (dCallP 3 F_is_within (dCons (dVar 2) (dCons (dC (.int 0)) (dCons (dOp oSub (dVar 0) (dC (.int 1))) dNil)))))) dNo dNext))
  (dSeq (dSet 3 (dCallP 1 F_first_twice (dCons (dVar 1) dNil)))
  (dSeq (dIfS (dB (dOp (oIs true) (dVar 3) (dC .non))) dNo dNext)
  (dRet (dMake "Row" 1 F_Rowx__initx_ (dCons (dLc (dRng1 (dCons (dVar 0) dNil)) (gN 2) dYes (dCB cInt (dCons (dOp (oIn false) (dVar 2) (dVar 1)) dNil)) [2]) dNil))))))))
def F_Row_of : List D → Option SV := runP 4 b_Row_of
def b_law_counts : DS := (dSeq (dSet 2 (dOp oMul (dLst (dCons (dC (.int 0)) dNil)) (dOp oDiv (dVar 0) (dC (.int 2)))))
  (dSeq (dFor (dEnum (dCons (dVar 1) dNil)) (gT [3, 4]) (dFor (dSeqI (dSl (dVar 1) (.at_ (dOp oAdd (dVar 3) (dC (.int 1)))) .no)) (gN 5) (dSeq (dSet 6 (dCB cMin (dCons (dOp oSub (dVar 5) (dVar 4)) (dCons (dOp oAdd (dOp oSub (dVar 0) (dVar 5)) (dVar 4)) dNil))))
  (dSetIx 2 (dOp oAdd (dIxV 2 (dOp oSub (dVar 6) (dC (.int 1)))) (dC (.int 1))) (dOp oSub (dVar 6) (dC (.int 1)))))))
  (dRet (dTake 2))))
def F_law_counts : List D → Option SV := runP 7 b_law_counts
def b_counts_of : DS := (dSeq (dSet 1 (dLenV 0))
  (dRet (dCB cTuple (dCons (dLc (dRng2 (dCons (dC (.int 1)) (dCons (dOp oAdd (dOp oDiv (dVar 1) (dC (.int 2))) (dC (.int 1))) dNil))) (gN 2) dYes (dIf (dB (dOp (oEq false) (dOp oMul (dC (.int 2)) (dVar 2)) (dVar 1))) (dOp oDiv (dIxV 0 (dVar 2)) (dC (.int 2))) (dIxV 0 (dVar 2))) [2]) dNil))))
def F_counts_of : List D → Option SV := runP 3 b_counts_of
def b_need_row : DS := (dIfS (dNot (dB (dCB (cIsa isR_Row) (dCons (dVar 0) (dCons (dC (.cls "Row")) dNil))))) dNo dNext)
def F_need_row : List D → Option SV := runP 2 b_need_row
def r_need_row : DX := (xIf (dNot (dB (dCB (cIsa isR_Row) (dCons (dVar 0) (dCons (dC (.cls "Row")) dNil))))) xNo (xRaise "BadRow" ["part"] (dCons (dVar 1) dNil)) xNo)
def R_need_row : List D → Option D := runX 2 r_need_row
def b_need_lot : DS := (dSeq (dDrop (dCallP 2 F_need_row (dCons (dVar 0) (dCons (dVar 1) dNil))))
  (dIfS (dNot (dB (dFldV "Row" "is_lot" 0))) dNo dNext))
def F_need_lot : List D → Option SV := runP 2 b_need_lot
def r_need_lot : DX := (xSeq (dDrop (dCallP 2 F_need_row (dCons (dVar 0) (dCons (dVar 1) dNil)))) (xCall 2 R_need_row (dCons (dVar 0) (dCons (dVar 1) dNil)) xNo)
  (xIf (dNot (dB (dFldV "Row" "is_lot" 0))) xNo (xRaise "BadRow" ["part"] (dCons (dVar 1) dNil)) xNo))
def R_need_lot : List D → Option D := runX 2 r_need_lot
def b_sums_across : DS := (dSeq (dPar [2, 3] (sCons (dLenV 0) (sCons (dLst dNil) sNil)))
  (dSeq (dFor (dRng1 (dCons (dVar 2) dNil)) (gN 4) (dSeq (dSet 5 (dOp oAdd (dSl (dVar 1) (.at_ (dVar 4)) .no) (dSl (dVar 1) .no (.at_ (dVar 4)))))
  (dDrop (dApp 3 (dCB cSum (dCons (dLc (dZip (dCons (dVar 0) (dCons (dVar 5) dNil))) (gT [6, 7]) dYes (dOp oMul (dVar 6) (dVar 7)) [6, 7]) dNil))))))
  (dRet (dCB cTuple (dCons (dVar 3) dNil)))))
def F_sums_across : List D → Option SV := runP 8 b_sums_across
def b_distances : DS := (dSeq (dDrop (dCallP 2 F_need_lot (dCons (dVar 0) (dCons (dC (.str "lot")) dNil))))
  (dRet (dCallP 1 F_counts_of (dCons (dCallP 2 F_sums_across (dCons (dFldV "Row" "numbers" 0) (dCons (dFldV "Row" "numbers" 0) dNil))) dNil))))
def F_distances : List D → Option SV := runP 1 b_distances
def r_distances : DX := (xSeq (dDrop (dCallP 2 F_need_lot (dCons (dVar 0) (dCons (dC (.str "lot")) dNil)))) (xCall 2 R_need_lot (dCons (dVar 0) (dCons (dC (.str "lot")) dNil)) xNo)
  xNo)
def R_distances : List D → Option D := runX 1 r_distances
def b_coming : DS := (dRet (dCB cTuple (dCons (dLc (dEnum (dCons (dCallP 1 F_distances (dCons (dVar 0) dNil)) dNil)) (gT [1, 2]) (dB (dOp (oInt fun i j => decide (j < i)) (dVar 2) (dC (.int 0)))) (dOp oAdd (dVar 1) (dC (.int 1))) [1, 2]) dNil)))
def F_coming : List D → Option SV := runP 3 b_coming
def r_coming : DX := (xThen (dLc (dEnum (dCons (dCallP 1 F_distances (dCons (dVar 0) dNil)) dNil)) (gT [1, 2]) (dB (dOp (oInt fun i j => decide (j < i)) (dVar 2) (dC (.int 0)))) (dOp oAdd (dVar 1) (dC (.int 1))) [1, 2]) (xThen (dCallP 1 F_distances (dCons (dVar 0) dNil)) (xCall 1 R_distances (dCons (dVar 0) dNil) xNo) xNo) xNo)
def R_coming : List D → Option D := runX 3 r_coming
def b_need_counts : DS := (dSeq (dDrop (dCallP 1 F_need_many (dCons (dVar 0) dNil)))
  (dSeq (dDrop (dCallP 4 F_need_number (dCons (dVar 1) (dCons (dC (.str "size")) (dCons (dC (.int 0)) (dCons (dVar 0) dNil))))))
  (dIfS (dOr (dNot (dB (dCallP 1 F_are_integers (dCons (dVar 2) dNil)))) (dOr (dB (dOp (oEq true) (dLenV 2) (dOp oDiv (dVar 0) (dC (.int 2))))) (dNot (dB (dCB cAll (dCons (dLc (dSeqI (dVar 2)) (gN 3) dYes (dOp (oInt fun i j => decide (j ≤ i)) (dVar 3) (dC (.int 0))) [3]) dNil)))))) dNo dNext)))
def F_need_counts : List D → Option SV := runP 4 b_need_counts
def r_need_counts : DX := (xSeq (dDrop (dCallP 1 F_need_many (dCons (dVar 0) dNil))) (xCall 1 R_need_many (dCons (dVar 0) dNil) xNo)
  (xSeq (dDrop (dCallP 4 F_need_number (dCons (dVar 1) (dCons (dC (.str "size")) (dCons (dC (.int 0)) (dCons (dVar 0) dNil)))))) (xCall 4 R_need_number (dCons (dVar 1) (dCons (dC (.str "size")) (dCons (dC (.int 0)) (dCons (dVar 0) dNil)))) xNo)
  (xIf (dOr (dNot (dB (dCallP 1 F_are_integers (dCons (dVar 2) dNil)))) (dOr (dB (dOp (oEq true) (dLenV 2) (dOp oDiv (dVar 0) (dC (.int 2))))) (dNot (dB (dCB cAll (dCons (dLc (dSeqI (dVar 2)) (gN 3) dYes (dOp (oInt fun i j => decide (j ≤ i)) (dVar 3) (dC (.int 0))) [3]) dNil)))))) xNo (xRaise "BadNumber" ["part"] (dCons (dC (.str "counts")) dNil)) xNo)))
def R_need_counts : List D → Option D := runX 4 r_need_counts
def b_distances_left_out : DS := (dSeq (dDrop (dCallP 3 F_need_counts (dCons (dVar 0) (dCons (dVar 1) (dCons (dVar 2) dNil)))))
  (dSeq (dSet 3 (dLst dNil))
  (dSeq (dFor (dEnum (dCons (dVar 2) dNil)) (gT [4, 5]) (dSeq (dSet 6 (dIf (dB (dOp (oEq false) (dOp oMul (dC (.int 2)) (dOp oAdd (dVar 4) (dC (.int 1)))) (dVar 0))) (dOp oSub (dOp oDiv (dVar 0) (dC (.int 2))) (dVar 1)) (dOp oSub (dVar 0) (dOp oMul (dC (.int 2)) (dVar 1)))))
  (dDrop (dApp 3 (dOp oAdd (dVar 5) (dVar 6))))))
  (dRet (dCB cTuple (dCons (dVar 3) dNil))))))
def F_distances_left_out : List D → Option SV := runP 7 b_distances_left_out
def r_distances_left_out : DX := (xSeq (dDrop (dCallP 3 F_need_counts (dCons (dVar 0) (dCons (dVar 1) (dCons (dVar 2) dNil))))) (xCall 3 R_need_counts (dCons (dVar 0) (dCons (dVar 1) (dCons (dVar 2) dNil))) xNo)
  (xSeq (dSet 3 (dLst dNil)) xNo
  (xSeq (dFor (dEnum (dCons (dVar 2) dNil)) (gT [4, 5]) (dSeq (dSet 6 (dIf (dB (dOp (oEq false) (dOp oMul (dC (.int 2)) (dOp oAdd (dVar 4) (dC (.int 1)))) (dVar 0))) (dOp oSub (dOp oDiv (dVar 0) (dC (.int 2))) (dVar 1)) (dOp oSub (dVar 0) (dOp oMul (dC (.int 2)) (dVar 1)))))
  (dDrop (dApp 3 (dOp oAdd (dVar 5) (dVar 6)))))) xNo
  xNo)))
def R_distances_left_out : List D → Option D := runX 7 r_distances_left_out
def b_not_coming : DS := (dRet (dCB cTuple (dCons (dLc (dEnum (dCons (dCallP 1 F_distances (dCons (dVar 0) dNil)) dNil)) (gT [1, 2]) (dB (dOp (oEq false) (dVar 2) (dC (.int 0)))) (dOp oAdd (dVar 1) (dC (.int 1))) [1, 2]) dNil)))
def F_not_coming : List D → Option SV := runP 3 b_not_coming
def r_not_coming : DX := (xThen (dLc (dEnum (dCons (dCallP 1 F_distances (dCons (dVar 0) dNil)) dNil)) (gT [1, 2]) (dB (dOp (oEq false) (dVar 2) (dC (.int 0)))) (dOp oAdd (dVar 1) (dC (.int 1))) [1, 2]) (xThen (dCallP 1 F_distances (dCons (dVar 0) dNil)) (xCall 1 R_distances (dCons (dVar 0) dNil) xNo) xNo) xNo)
def R_not_coming : List D → Option D := runX 3 r_not_coming
def b_spans : DS := (dSeq (dDrop (dCallP 2 F_need_row (dCons (dVar 0) (dCons (dC (.str "row")) dNil))))
  (dRet (dCallP 2 F_sums_across (dCons (dFldV "Row" "numbers" 0) (dCons (dFldV "Row" "numbers" 0) dNil)))))
def F_spans : List D → Option SV := runP 1 b_spans
def r_spans : DX := (xSeq (dDrop (dCallP 2 F_need_row (dCons (dVar 0) (dCons (dC (.str "row")) dNil)))) (xCall 2 R_need_row (dCons (dVar 0) (dCons (dC (.str "row")) dNil)) xNo)
  xNo)
def R_spans : List D → Option D := runX 1 r_spans
def b_law_lot_right : DS := (dSeq (dPar [2, 3, 4] (sCons (dCallP 2 F_Row_of (dCons (dVar 0) (dCons (dCB cList (dCons (dVar 1) dNil)) dNil))) (sCons (dCallP 2 F_law_counts (dCons (dVar 0) (dCons (dVar 1) dNil))) (sCons (dLenV 1) sNil))))
  (dSeq (dSet 5 (dLc (dRng1 (dCons (dVar 0) dNil)) (gN 12) (dB (dOp (oIn true) (dVar 12) (dVar 1))) (dVar 12) [12]))
  (dSeq (dPar [6, 7] (sCons (dCallP 2 F_law_counts (dCons (dVar 0) (dCons (dVar 5) dNil))) (sCons (dCallK 0 1 [0] 1 F_distances dNil (dCons (dVar 2) dNil)) sNil)))
  (dSeq (dIfS (dOr (dB (dOp (oEq true) (dVar 7) (dCB cTuple (dCons (dVar 3) dNil)))) (dOr (dB (dOp (oEq true) (dCB cSum (dCons (dVar 7) dNil)) (dOp oDiv (dOp oMul (dVar 4) (dOp oSub (dVar 4) (dC (.int 1)))) (dC (.int 2))))) (dB (dOp (oEq true) (dCallP 1 F_distances (dCons (dMeth "Row" "left_out" 1 F_Row_left_out (dVar 2) dNil) dNil)) (dCB cTuple (dCons (dVar 6) dNil)))))) (dRet (dC (.bl false))) dNext)
  (dSeq (dIfS (dOr (dB (dOp (oEq true) (dCallP 3 F_distances_left_out (dCons (dVar 0) (dCons (dVar 4) (dCons (dVar 7) dNil)))) (dCB cTuple (dCons (dVar 6) dNil)))) (dB (dOp (oEq true) (dCallK 0 3 [2, 1, 0] 3 F_distances_left_out dNil (dCons (dVar 3) (dCons (dVar 4) (dCons (dVar 0) dNil)))) (dCB cTuple (dCons (dVar 6) dNil))))) (dRet (dC (.bl false))) dNext)
  (dSeq (dFor (dEnum (dCons (dVar 3) dNil)) (gT [8, 9]) (dIfS (dB (dOp (oEq true) (dOp oSub (dIxV 6 (dVar 8)) (dVar 9)) (dIf (dB (dOp (oEq false) (dOp oAdd (dOp oMul (dC (.int 2)) (dVar 8)) (dC (.int 2))) (dVar 0))) (dOp oSub (dOp oDiv (dVar 0) (dC (.int 2))) (dVar 4)) (dOp oSub (dVar 0) (dOp oMul (dC (.int 2)) (dVar 4)))))) (dRet (dC (.bl false))) dNext))
  (dSeq (dIfS (dAnd (dB (dOp (oEq false) (dOp oMul (dC (.int 2)) (dVar 4)) (dVar 0))) (dB (dOp (oEq true) (dVar 6) (dVar 3)))) (dRet (dC (.bl false))) dNext)
  (dSeq (dIfS (dB (dOp (oEq true) (dCallK 0 1 [0] 1 F_coming dNil (dCons (dVar 2) dNil)) (dCB cTuple (dCons (dLc (dRng1 (dCons (dOp oDiv (dVar 0) (dC (.int 2))) dNil)) (gN 8) (dB (dOp (oInt fun i j => decide (j < i)) (dIxV 3 (dVar 8)) (dC (.int 0)))) (dOp oAdd (dVar 8) (dC (.int 1))) [8]) dNil)))) (dRet (dC (.bl false))) dNext)
  (dSeq (dIfS (dB (dOp (oEq true) (dCallK 0 1 [0] 1 F_not_coming dNil (dCons (dVar 2) dNil)) (dCB cTuple (dCons (dLc (dRng1 (dCons (dOp oDiv (dVar 0) (dC (.int 2))) dNil)) (gN 8) (dB (dOp (oEq false) (dIxV 3 (dVar 8)) (dC (.int 0)))) (dOp oAdd (dVar 8) (dC (.int 1))) [8]) dNil)))) (dRet (dC (.bl false))) dNext)
  (dSeq (dSet 10 (dCallK 0 1 [0] 1 F_spans dNil (dCons (dVar 2) dNil)))
  (dSeq (dIfS (dOr (dB (dOp (oEq true) (dLenV 10) (dVar 0))) (dOr (dB (dOp (oEq true) (dIxV 10 (dC (.int 0))) (dVar 4))) (dB (dOp (oEq true) (dCB cSum (dCons (dVar 10) dNil)) (dOp oMul (dVar 4) (dVar 4)))))) (dRet (dC (.bl false))) dNext)
  (dSeq (dFor (dEnum (dCons (dVar 3) dNil)) (gT [8, 9]) (dSeq (dSet 11 (dIf (dB (dOp (oEq false) (dOp oAdd (dOp oMul (dC (.int 2)) (dVar 8)) (dC (.int 2))) (dVar 0))) (dOp oMul (dC (.int 2)) (dVar 9)) (dVar 9)))
  (dIfS (dOr (dB (dOp (oEq true) (dIxV 10 (dOp oAdd (dVar 8) (dC (.int 1)))) (dVar 11))) (dB (dOp (oEq true) (dIxV 10 (dOp oSub (dOp oSub (dVar 0) (dVar 8)) (dC (.int 1)))) (dVar 11)))) (dRet (dC (.bl false))) dNext)))
  (dRet (dC (.bl true)))))))))))))))
def F_law_lot_right : List D → Option SV := runP 13 b_law_lot_right
def b_law_lots : DS := (dSeq (dSet 2 (dLst (dCons (dTup dNil) dNil)))
  (dSeq (dFor (dRng1 (dCons (dVar 0) dNil)) (gN 3) (dSet 2 (dOp oAdd (dVar 2) (dLc (dSeqI (dVar 2)) (gN 4) (dB (dOp (oInt fun i j => decide (i < j)) (dLenV 4) (dVar 1))) (dOp oAdd (dVar 4) (dTup (dCons (dVar 3) dNil))) [4]))))
  (dRet (dCB cSortX (dCons (dLc (dSeqI (dVar 2)) (gN 4) (dB (dOp (oEq false) (dLenV 4) (dVar 1))) (dVar 4) [4]) dNil)))))
def F_law_lots : List D → Option SV := runP 5 b_law_lots
def b_law_pick : DS := (dRet (dIxV 1 (dCallO 1 0 F_law_take (dCons (dLenV 1) dNil))))
def F_law_pick : SV → List D → Option (SV × SV) := runO 2 b_law_pick
def d_law_heard : DS := (dSeq (dSet 3 (dLst (dCons (dCB (cIsa isP) (dCons (dVar 1) (dCons (dC (.cls "BadRow")) dNil))) (dCons (dCB (cIsa isP) (dCons (dVar 1) (dCons (dC (.cls "BadNumber")) dNil))) (dCons (dCB (cIsa isP) (dCons (dVar 1) (dCons (dC (.cls "Misfit")) dNil))) dNil)))))
  (dSeq (dIfS (dB (dOp (oIn false) (dC (.bl true)) (dVar 3))) (dRet (dTup (dCons (dOp oIx (dLst (dCons (dC (.str "row")) (dCons (dC (.str "number")) (dCons (dC (.str "misfit")) dNil)))) (dBM "list" oIndex (dVar 3) (dCons (dC (.bl true)) dNil))) (dCons (dUn (oXf xf_part "part") (dVar 1)) dNil)))) dNext)
  (dSeq (dIfS (dB (dCB (cIsa isP) (dCons (dVar 1) (dCons (dC (.cls "NoDivisor")) dNil)))) (dRet (dTup (dCons (dC (.str "divisor")) (dCons dNoE dNil)))) dNext)
  (dRet (dIf (dB (dCB (cIsa isP) (dCons (dVar 1) (dCons (dC (.cls "TooMany")) dNil)))) (dTup (dCons (dUn (oXf xf_what "what") (dVar 1)) (dCons (dUn (oXf xf_most "most") (dVar 1)) dNil))) (dIf (dB (dOp (oIs false) (dVar 1) (dC .non))) (dC .non) (dTup (dCons (dC (.str "other")) dNil))))))))
def H_law_heard : Option D → Option SV := kH csX 4 1 d_law_heard
def tbV1 : Tbl := [("coming", F_coming, R_coming), ("distances", F_distances, R_distances), ("not_coming", F_not_coming, R_not_coming)]
def b_law_refused_right : DS := (dSeq (dSet 1 (dCallO 1 0 F_law_pick (dCons (dLst (dCons (dC .non) (dCons (dC (.int 5)) (dCons (dC (.str "1 0 1")) (dCons (dLst (dCons (dC (.int 1)) (dCons (dC (.int 0)) dNil))) (dCons (dTup (dCons (dC (.int 0)) (dCons (dC (.int 1)) (dCons (dC (.int 1)) dNil)))) dNil)))))) dNil)))
  (dSeq (dSet 2 (dMake "Row" 1 F_Rowx__initx_ (dCons (dCallO 1 0 F_law_pick (dCons (dLst (dCons (dLst (dCons (dC (.int 0)) (dCons (dC (.int 2)) dNil))) (dCons (dLst (dCons (dC (.int 1)) (dCons (dUn oNeg (dC (.int 1))) (dCons (dC (.int 0)) dNil)))) (dCons (dLst (dCons (dC (.int 0)) (dCons (dC (.int 0)) (dCons (dC (.int 1)) (dCons (dC (.int 5)) dNil))))) dNil)))) dNil)) dNil)))
  (dSeq (dSet 3 (dLst (dCons (dLam H_law_heard [1] (dCallP 1 F_spans (dCons (dVar 1) dNil)) (xCall 1 R_spans (dCons (dVar 1) dNil) xNo)) dNil)))
  (dSeq (dFor (dSeqI (dTup (dCons (dVar 1) (dCons (dVar 2) dNil)))) (gN 4) (dFor (dSeqI (dTup (dCons (dC (.cls "distances")) (dCons (dC (.cls "coming")) (dCons (dC (.cls "not_coming")) dNil))))) (gN 5) (dDrop (dApp 3 (dLam H_law_heard [4, 5] (dCallV tbV1 5 1 (dCons (dVar 4) dNil)) (xCallV tbV1 5 1 (dCons (dVar 4) dNil) xNo))))))
  (dSeq (dIfS (dB (dOp (oEq true) (dVar 3) (dOp oAdd (dLst (dCons (dTup (dCons (dC (.str "row")) (dCons (dC (.str "row")) dNil))) dNil)) (dOp oMul (dLst (dCons (dTup (dCons (dC (.str "row")) (dCons (dC (.str "lot")) dNil))) dNil)) (dC (.int 6)))))) (dRet (dC (.bl false))) dNext)
  (dSeq (dPar [6, 7] (sCons (dCallO 1 0 F_law_pick (dCons (dLst (dCons (dC .non) (dCons (dC (.int 1)) (dCons (dC (.int 25)) (dCons (dC (.str "8")) (dCons (dC (.bl true)) (dCons (dLst (dCons (dC (.int 8)) dNil)) (dCons (dC (.int 0)) (dCons (dUn oNeg (dC (.int 3))) dNil))))))))) dNil)) (sCons (dCallO 1 0 F_law_pick (dCons (dLst (dCons (dC .non) (dCons (dUn oNeg (dC (.int 1))) (dCons (dC (.int 9)) (dCons (dC (.str "4")) (dCons (dC (.bl false)) (dCons (dLst (dCons (dC (.int 4)) dNil)) dNil))))))) dNil)) sNil)))
  (dSeq (dSet 8 (dCallO 1 0 F_law_pick (dCons (dLst (dCons (dC .non) (dCons (dC (.int 5)) (dCons (dC (.str "2121")) (dCons (dLst (dCons (dC (.int 2)) (dCons (dC (.int 1)) (dCons (dC (.int 2)) dNil)))) (dCons (dLst (dCons (dC (.int 2)) (dCons (dC (.int 1)) (dCons (dC (.int 2)) (dCons (dC (.int 1)) (dCons (dC (.int 0)) dNil)))))) (dCons (dLst (dCons (dC (.int 2)) (dCons (dC (.int 1)) (dCons (dC (.int 2)) (dCons (dUn oNeg (dC (.int 1))) dNil))))) (dCons (dLst (dCons (dC (.int 2)) (dCons (dC (.int 1)) (dCons (dC (.int 2)) (dCons (dC .non) dNil))))) (dCons (dLst (dCons (dC (.int 2)) (dCons (dC (.int 1)) (dCons (dC (.int 2)) (dCons (dC (.bl true)) dNil))))) (dCons dNewK (dCons (dLst dNil) dNil))))))))))) dNil)))
  (dSeq (dSet 9 (dLst (dCons (dC (.int 2)) (dCons (dC (.int 1)) (dCons (dC (.int 2)) (dCons (dC (.int 1)) dNil))))))
  (dSeq (dSetIx 9 (dCallO 1 0 F_law_pick (dCons (dLst (dCons (dC .non) (dCons (dC (.bl true)) (dCons (dUn oNeg (dC (.int 1))) (dCons (dC (.str "1")) dNil))))) dNil)) (dCallO 1 0 F_law_take (dCons (dC (.int 4)) dNil)))
  (dSeq (dIfS (dB (dOp (oEq true) (dLam H_law_heard [9] (dCallP 3 F_distances_left_out (dCons (dC (.int 8)) (dCons (dC (.int 4)) (dCons (dVar 9) dNil)))) (xCall 3 R_distances_left_out (dCons (dC (.int 8)) (dCons (dC (.int 4)) (dCons (dVar 9) dNil))) xNo)) (dTup (dCons (dC (.str "number")) (dCons (dC (.str "counts")) dNil))))) (dRet (dC (.bl false))) dNext)
  (dSeq (dSet 3 (dLst (dCons (dLam H_law_heard [6, 7, 8] (dCallP 3 F_distances_left_out (dCons (dVar 6) (dCons (dVar 7) (dCons (dVar 8) dNil)))) (xCall 3 R_distances_left_out (dCons (dVar 6) (dCons (dVar 7) (dCons (dVar 8) dNil))) xNo)) dNil)))
  (dSeq (dDrop (dApp 3 (dLam H_law_heard [7, 8] (dCallP 3 F_distances_left_out (dCons (dC (.int 8)) (dCons (dVar 7) (dCons (dVar 8) dNil)))) (xCall 3 R_distances_left_out (dCons (dC (.int 8)) (dCons (dVar 7) (dCons (dVar 8) dNil))) xNo))))
  (dSeq (dDrop (dApp 3 (dLam H_law_heard [8] (dCallP 3 F_distances_left_out (dCons (dC (.int 8)) (dCons (dC (.int 4)) (dCons (dVar 8) dNil)))) (xCall 3 R_distances_left_out (dCons (dC (.int 8)) (dCons (dC (.int 4)) (dCons (dVar 8) dNil))) xNo))))
  (dSeq (dDrop (dApp 3 (dLam H_law_heard [] (dCallP 3 F_distances_left_out (dCons (dC (.int 8)) (dCons (dC (.int 8)) (dCons (dLst (dCons (dC (.int 8)) (dCons (dC (.int 8)) (dCons (dC (.int 8)) (dCons (dC (.int 4)) dNil))))) dNil)))) (xCall 3 R_distances_left_out (dCons (dC (.int 8)) (dCons (dC (.int 8)) (dCons (dLst (dCons (dC (.int 8)) (dCons (dC (.int 8)) (dCons (dC (.int 8)) (dCons (dC (.int 4)) dNil))))) dNil))) xNo))))
  (dRet (dOp (oEq false) (dVar 3) (dLst (dCons (dTup (dCons (dC (.str "number")) (dCons (dC (.str "many")) dNil))) (dCons (dTup (dCons (dC (.str "number")) (dCons (dC (.str "size")) dNil))) (dCons (dTup (dCons (dC (.str "number")) (dCons (dC (.str "counts")) dNil))) (dCons (dC .non) dNil)))))))))))))))))))))
def F_law_refused_right : SV → List D → Option (SV × SV) := runO 10 b_law_refused_right
def b_law_told_right : DS := (dSeq (dSet 1 (dOp oAdd (dC (.int 2)) (dCallO 1 0 F_law_take (dCons (dC (.int 23)) dNil))))
  (dSeq (dPar [2, 3] (sCons (dCallO 1 0 F_law_take (dCons (dOp oAdd (dVar 1) (dC (.int 1))) dNil)) (sCons (dLc (dRng1 (dCons (dOp oDiv (dVar 1) (dC (.int 2))) dNil)) (gN 5) dYes (dCallO 1 0 F_law_pick (dCons (dLst (dCons (dC (.int 0)) (dCons (dC (.int 1)) (dCons (dC (.int 2)) (dCons (dC (.int 5)) (dCons (dC (.int 0)) (dCons (dOp oPow (dC (.int 10)) (dC (.int 6))) dNil))))))) dNil)) [5]) sNil)))
  (dSeq (dSet 4 (dLc (dEnum (dCons (dVar 3) dNil)) (gT [6, 7]) dYes (dOp oAdd (dVar 7) (dIf (dB (dOp (oEq false) (dOp oAdd (dOp oMul (dC (.int 2)) (dVar 6)) (dC (.int 2))) (dVar 1))) (dOp oSub (dOp oDiv (dVar 1) (dC (.int 2))) (dVar 2)) (dOp oSub (dVar 1) (dOp oMul (dC (.int 2)) (dVar 2))))) [6, 7]))
  (dRet (dAndV (dOp (oEq false) (dCallP 3 F_distances_left_out (dCons (dVar 1) (dCons (dVar 2) (dCons (dVar 3) dNil)))) (dCB cTuple (dCons (dVar 4) dNil))) (dOp (oEq false) (dCallP 3 F_distances_left_out (dCons (dVar 1) (dCons (dVar 2) (dCons (dCB cTuple (dCons (dVar 3) dNil)) dNil)))) (dCB cTuple (dCons (dVar 4) dNil))))))))
def F_law_told_right : SV → List D → Option (SV × SV) := runO 8 b_law_told_right
def b_law : DS := (dSeq (dSet 1 (dCallP 1 F_law_hand (dCons (dVar 0) dNil)))
  (dSeq (dSet 2 (dOp oAdd (dC (.int 2)) (dCallO 1 1 F_law_take (dCons (dC (.int 8)) dNil))))
  (dSeq (dSet 3 (dCallO 1 1 F_law_pick (dCons (dLst (dCons (dOp oDiv (dVar 2) (dC (.int 2))) (dCons (dOp oDiv (dVar 2) (dC (.int 2))) (dCons (dOp oSub (dVar 2) (dOp oDiv (dVar 2) (dC (.int 2)))) (dCons (dCallO 1 1 F_law_take (dCons (dOp oAdd (dVar 2) (dC (.int 1))) dNil)) (dCons (dCallO 1 1 F_law_take (dCons (dOp oAdd (dVar 2) (dC (.int 1))) dNil)) dNil)))))) dNil)))
  (dSeq (dIfS (dB (dOp (oEq true) (dLc (dSeqI (dCallP 2 F_law_lots (dCons (dVar 2) (dCons (dVar 3) dNil)))) (gN 4) (dNot (dB (dCallP 2 F_law_lot_right (dCons (dVar 2) (dCons (dVar 4) dNil))))) (dVar 4) [4]) (dLst dNil))) (dRet (dC (.bl false))) dNext)
  (dSeq (dSet 2 (dOp oAdd (dC (.int 10)) (dCallO 1 1 F_law_take (dCons (dC (.int 15)) dNil))))
  (dSeq (dSet 3 (dCallO 1 1 F_law_pick (dCons (dLst (dCons (dOp oDiv (dVar 2) (dC (.int 2))) (dCons (dC (.int 0)) (dCons (dVar 2) (dCons (dC (.int 1)) (dCons (dCallO 1 1 F_law_take (dCons (dOp oAdd (dVar 2) (dC (.int 1))) dNil)) (dCons (dCallO 1 1 F_law_take (dCons (dOp oAdd (dVar 2) (dC (.int 1))) dNil)) dNil))))))) dNil)))
  (dRet (dAndV (dCallP 2 F_law_lot_right (dCons (dVar 2) (dCons (dCallO 2 1 F_law_lot (dCons (dVar 2) (dCons (dVar 3) dNil))) dNil))) (dAndV (dCallO 0 1 F_law_told_right dNil) (dCallO 0 1 F_law_refused_right dNil))))))))))
def F_law : List D → Option SV := runP 5 b_law
/-! ### what the top has written -/
structure Tx (P : Program) (K : PySem.W.Frag) (mg : Str → Option Value) where
  m_abs : mg "abs" = none
  m_all : mg "all" = none
  m_bool : mg "bool" = none
  m_enumerate : mg "enumerate" = none
  m_int : mg "int" = none
  m_isinstance : mg "isinstance" = none
  m_len : mg "len" = none
  m_list : mg "list" = none
  m_min : mg "min" = none
  m_range : mg "range" = none
  m_sorted : mg "sorted" = none
  m_sum : mg "sum" = none
  m_tuple : mg "tuple" = none
  m_zip : mg "zip" = none
  C_Row : Addr
  ctRow : CT K mg "Row" C_Row
  na_Row_is_lot : NoAttr K C_Row "is_lot"
  na_Row_many : NoAttr K C_Row "many"
  na_Row_marks : NoAttr K C_Row "marks"
  na_Row_numbers : NoAttr K C_Row "numbers"
  na_Row_total : NoAttr K C_Row "total"
  t_LEAST_MANY : Tok
  g_LEAST_MANY : mg "LEAST_MANY" = some (.int 2 t_LEAST_MANY)
  t_MOST_MANY : Tok
  g_MOST_MANY : mg "MOST_MANY" = some (.int 24 t_MOST_MANY)
  Cx_BadNumber : Addr
  mx_BadNumber : mg "BadNumber" = some (.ref Cx_BadNumber)
  Cx_BadRow : Addr
  mx_BadRow : mg "BadRow" = some (.ref Cx_BadRow)
  Cx_BeatError : Addr
  mx_BeatError : mg "BeatError" = some (.ref Cx_BeatError)
  Cx_Misfit : Addr
  mx_Misfit : mg "Misfit" = some (.ref Cx_Misfit)
  Cx_NoDivisor : Addr
  mx_NoDivisor : mg "NoDivisor" = some (.ref Cx_NoDivisor)
  Cx_TooMany : Addr
  mx_TooMany : mg "TooMany" = some (.ref Cx_TooMany)
  ox_BadNumber : OexC K Cx_BadNumber
  xk_BadNumber : ExK K Cx_BadNumber
  nf_BadNumber_part : PySem.W.findIn K (.ref Cx_BadNumber) "part" = some none
  ox_BadRow : OexC K Cx_BadRow
  xk_BadRow : ExK K Cx_BadRow
  nf_BadRow_part : PySem.W.findIn K (.ref Cx_BadRow) "part" = some none
  tr_Row : PySem.W.typeIn K (.ref C_Row) = some (.type "type")
  sr_NoneType_Row : PySem.W.subIn K (.type "NoneType") (.ref C_Row) = some false
  sr_int_Row : PySem.W.subIn K (.type "int") (.ref C_Row) = some false
  sr_bool_Row : PySem.W.subIn K (.type "bool") (.ref C_Row) = some false
  sr_str_Row : PySem.W.subIn K (.type "str") (.ref C_Row) = some false
  sr_list_Row : PySem.W.subIn K (.type "list") (.ref C_Row) = some false
  sr_tuple_Row : PySem.W.subIn K (.type "tuple") (.ref C_Row) = some false
  sr_dict_Row : PySem.W.subIn K (.type "dict") (.ref C_Row) = some false
  hx_BadNumber : PySem.W.hasDictIn K Cx_BadNumber = true
  tx_BadNumber : PySem.W.typeIn K (.ref Cx_BadNumber) = some (.type "type")
  ss_BadNumber : PySem.W.subIn K (.ref Cx_BadNumber) (.ref Cx_BadNumber) = some true
  hx_BadRow : PySem.W.hasDictIn K Cx_BadRow = true
  tx_BadRow : PySem.W.typeIn K (.ref Cx_BadRow) = some (.type "type")
  ss_BadRow : PySem.W.subIn K (.ref Cx_BadRow) (.ref Cx_BadRow) = some true
  hx_BeatError : PySem.W.hasDictIn K Cx_BeatError = true
  tx_BeatError : PySem.W.typeIn K (.ref Cx_BeatError) = some (.type "type")
  ss_BeatError : PySem.W.subIn K (.ref Cx_BeatError) (.ref Cx_BeatError) = some true
  hx_Misfit : PySem.W.hasDictIn K Cx_Misfit = true
  tx_Misfit : PySem.W.typeIn K (.ref Cx_Misfit) = some (.type "type")
  ss_Misfit : PySem.W.subIn K (.ref Cx_Misfit) (.ref Cx_Misfit) = some true
  hx_NoDivisor : PySem.W.hasDictIn K Cx_NoDivisor = true
  tx_NoDivisor : PySem.W.typeIn K (.ref Cx_NoDivisor) = some (.type "type")
  ss_NoDivisor : PySem.W.subIn K (.ref Cx_NoDivisor) (.ref Cx_NoDivisor) = some true
  hx_TooMany : PySem.W.hasDictIn K Cx_TooMany = true
  tx_TooMany : PySem.W.typeIn K (.ref Cx_TooMany) = some (.type "type")
  ss_TooMany : PySem.W.subIn K (.ref Cx_TooMany) (.ref Cx_TooMany) = some true
  sB_BeatError : PySem.W.subIn K (.ref Cx_BeatError) (.type "BaseException") = some true
  sb_None_BadNumber : PySem.W.subIn K (.type "NoneType") (.ref Cx_BadNumber) = some false
  sb_None_BadRow : PySem.W.subIn K (.type "NoneType") (.ref Cx_BadRow) = some false
  sb_None_Misfit : PySem.W.subIn K (.type "NoneType") (.ref Cx_Misfit) = some false
  sb_None_NoDivisor : PySem.W.subIn K (.type "NoneType") (.ref Cx_NoDivisor) = some false
  sb_None_TooMany : PySem.W.subIn K (.type "NoneType") (.ref Cx_TooMany) = some false
  sb_BadNumber_BadNumber : PySem.W.subIn K (.ref Cx_BadNumber) (.ref Cx_BadNumber) = some true
  sb_BadNumber_BadRow : PySem.W.subIn K (.ref Cx_BadNumber) (.ref Cx_BadRow) = some false
  sb_BadNumber_BeatError : PySem.W.subIn K (.ref Cx_BadNumber) (.ref Cx_BeatError) = some true
  sb_BadNumber_Misfit : PySem.W.subIn K (.ref Cx_BadNumber) (.ref Cx_Misfit) = some false
  sb_BadNumber_NoDivisor : PySem.W.subIn K (.ref Cx_BadNumber) (.ref Cx_NoDivisor) = some false
  sb_BadNumber_TooMany : PySem.W.subIn K (.ref Cx_BadNumber) (.ref Cx_TooMany) = some false
  sb_BadRow_BadNumber : PySem.W.subIn K (.ref Cx_BadRow) (.ref Cx_BadNumber) = some false
  sb_BadRow_BadRow : PySem.W.subIn K (.ref Cx_BadRow) (.ref Cx_BadRow) = some true
  sb_BadRow_BeatError : PySem.W.subIn K (.ref Cx_BadRow) (.ref Cx_BeatError) = some true
  sb_BadRow_Misfit : PySem.W.subIn K (.ref Cx_BadRow) (.ref Cx_Misfit) = some false
  sb_BadRow_NoDivisor : PySem.W.subIn K (.ref Cx_BadRow) (.ref Cx_NoDivisor) = some false
  sb_BadRow_TooMany : PySem.W.subIn K (.ref Cx_BadRow) (.ref Cx_TooMany) = some false
  f_law_hand : Addr
  fd_law_hand : FuncData
  F_law_hand : Fun K "_law_hand" "_law_hand" s_law_hand f_law_hand fd_law_hand
  b_law_hand : Binds K fd_law_hand ["_law_script"] []
  f_law_hand_kp : PySem.W.keepIn K (.ref f_law_hand) = true
  g_law_hand : mg "_law_hand" = some (.ref f_law_hand)
  f_law_take : Addr
  fd_law_take : FuncData
  F_law_take : Fun K "_law_take" "_law_take" s_law_take f_law_take fd_law_take
  b_law_take : Binds K fd_law_take ["_law_hand_here", "_law_many"] []
  f_law_take_kp : PySem.W.keepIn K (.ref f_law_take) = true
  g_law_take : mg "_law_take" = some (.ref f_law_take)
  f_law_lot : Addr
  fd_law_lot : FuncData
  F_law_lot : Fun K "_law_lot" "_law_lot" s_law_lot f_law_lot fd_law_lot
  b_law_lot : Binds K fd_law_lot ["_law_hand_here", "_law_many", "_law_size"] []
  f_law_lot_kp : PySem.W.keepIn K (.ref f_law_lot) = true
  g_law_lot : mg "_law_lot" = some (.ref f_law_lot)
  f_is_integer : Addr
  fd_is_integer : FuncData
  F_is_integer : Fun K "is_integer" "is_integer" s_is_integer f_is_integer fd_is_integer
  b_is_integer : Binds K fd_is_integer ["value"] []
  f_is_integer_kp : PySem.W.keepIn K (.ref f_is_integer) = true
  g_is_integer : mg "is_integer" = some (.ref f_is_integer)
  f_is_listed : Addr
  fd_is_listed : FuncData
  F_is_listed : Fun K "is_listed" "is_listed" s_is_listed f_is_listed fd_is_listed
  b_is_listed : Binds K fd_is_listed ["value"] []
  f_is_listed_kp : PySem.W.keepIn K (.ref f_is_listed) = true
  g_is_listed : mg "is_listed" = some (.ref f_is_listed)
  f_are_integers : Addr
  fd_are_integers : FuncData
  F_are_integers : Fun K "are_integers" "are_integers" s_are_integers f_are_integers fd_are_integers
  b_are_integers : Binds K fd_are_integers ["value"] []
  f_are_integers_kp : PySem.W.keepIn K (.ref f_are_integers) = true
  g_are_integers : mg "are_integers" = some (.ref f_are_integers)
  f_Rowx__initx_ : Addr
  fd_Rowx__initx_ : FuncData
  F_Rowx__initx_ : Fun K "__init__" "Row.__init__" s_Rowx__initx_ f_Rowx__initx_ fd_Rowx__initx_
  b_Rowx__initx_ : Binds K fd_Rowx__initx_ ["self", "numbers"] []
  f_Rowx__initx__kp : PySem.W.keepIn K (.ref f_Rowx__initx_) = true
  a_Rowx__initx_ : PySem.W.findIn K (.ref C_Row) "__init__" = some (some (.ref f_Rowx__initx_))
  fn_Rowx__initx_ : PySem.W.isFn K (.ref f_Rowx__initx_) = true
  f_Row_left_out : Addr
  fd_Row_left_out : FuncData
  F_Row_left_out : Fun K "left_out" "Row.left_out" s_Row_left_out f_Row_left_out fd_Row_left_out
  b_Row_left_out : Binds K fd_Row_left_out ["self"] []
  f_Row_left_out_kp : PySem.W.keepIn K (.ref f_Row_left_out) = true
  a_Row_left_out : PySem.W.findIn K (.ref C_Row) "left_out" = some (some (.ref f_Row_left_out))
  fn_Row_left_out : PySem.W.isFn K (.ref f_Row_left_out) = true
  f_first_twice : Addr
  fd_first_twice : FuncData
  F_first_twice : Fun K "first_twice" "first_twice" s_first_twice f_first_twice fd_first_twice
  b_first_twice : Binds K fd_first_twice ["values"] []
  f_first_twice_kp : PySem.W.keepIn K (.ref f_first_twice) = true
  g_first_twice : mg "first_twice" = some (.ref f_first_twice)
  f_is_within : Addr
  fd_is_within : FuncData
  F_is_within : Fun K "is_within" "is_within" s_is_within f_is_within fd_is_within
  b_is_within : Binds K fd_is_within ["value", "least", "most"] []
  f_is_within_kp : PySem.W.keepIn K (.ref f_is_within) = true
  g_is_within : mg "is_within" = some (.ref f_is_within)
  f_BadNumberx__initx_ : Addr
  fd_BadNumberx__initx_ : FuncData
  F_BadNumberx__initx_ : Fun K "__init__" "BadNumber.__init__" s_BadNumberx__initx_ f_BadNumberx__initx_ fd_BadNumberx__initx_
  b_BadNumberx__initx_ : Binds K fd_BadNumberx__initx_ ["self", "part"] []
  f_BadNumberx__initx__kp : PySem.W.keepIn K (.ref f_BadNumberx__initx_) = true
  ti_BadNumberx__initx_ : PySem.W.typeIn K (.ref f_BadNumberx__initx_) = some (.type "function")
  ic_BadNumber : PySem.W.findIn K (.ref Cx_BadNumber) "__init__" = some (some (.ref f_BadNumberx__initx_))
  f_need_number : Addr
  fd_need_number : FuncData
  F_need_number : Fun K "need_number" "need_number" s_need_number f_need_number fd_need_number
  b_need_number : Binds K fd_need_number ["value", "part", "least", "most"] []
  f_need_number_kp : PySem.W.keepIn K (.ref f_need_number) = true
  g_need_number : mg "need_number" = some (.ref f_need_number)
  f_need_many : Addr
  fd_need_many : FuncData
  F_need_many : Fun K "need_many" "need_many" s_need_many f_need_many fd_need_many
  b_need_many : Binds K fd_need_many ["value"] []
  f_need_many_kp : PySem.W.keepIn K (.ref f_need_many) = true
  g_need_many : mg "need_many" = some (.ref f_need_many)
  f_Row_of : Addr
  fd_Row_of : FuncData
  F_Row_of : Fun K "of" "Row.of" s_Row_of f_Row_of fd_Row_of
  b_Row_of : Binds K fd_Row_of ["many", "marks"] []
  f_Row_of_kp : PySem.W.keepIn K (.ref f_Row_of) = true
  st_Row_of : Stat K C_Row "of" f_Row_of
  f_law_counts : Addr
  fd_law_counts : FuncData
  F_law_counts : Fun K "_law_counts" "_law_counts" s_law_counts f_law_counts fd_law_counts
  b_law_counts : Binds K fd_law_counts ["_law_many", "_law_marks"] []
  f_law_counts_kp : PySem.W.keepIn K (.ref f_law_counts) = true
  g_law_counts : mg "_law_counts" = some (.ref f_law_counts)
  f_counts_of : Addr
  fd_counts_of : FuncData
  F_counts_of : Fun K "counts_of" "counts_of" s_counts_of f_counts_of fd_counts_of
  b_counts_of : Binds K fd_counts_of ["told"] []
  f_counts_of_kp : PySem.W.keepIn K (.ref f_counts_of) = true
  g_counts_of : mg "counts_of" = some (.ref f_counts_of)
  f_BadRowx__initx_ : Addr
  fd_BadRowx__initx_ : FuncData
  F_BadRowx__initx_ : Fun K "__init__" "BadRow.__init__" s_BadRowx__initx_ f_BadRowx__initx_ fd_BadRowx__initx_
  b_BadRowx__initx_ : Binds K fd_BadRowx__initx_ ["self", "part"] []
  f_BadRowx__initx__kp : PySem.W.keepIn K (.ref f_BadRowx__initx_) = true
  ti_BadRowx__initx_ : PySem.W.typeIn K (.ref f_BadRowx__initx_) = some (.type "function")
  ic_BadRow : PySem.W.findIn K (.ref Cx_BadRow) "__init__" = some (some (.ref f_BadRowx__initx_))
  f_need_row : Addr
  fd_need_row : FuncData
  F_need_row : Fun K "need_row" "need_row" s_need_row f_need_row fd_need_row
  b_need_row : Binds K fd_need_row ["value", "part"] []
  f_need_row_kp : PySem.W.keepIn K (.ref f_need_row) = true
  g_need_row : mg "need_row" = some (.ref f_need_row)
  f_need_lot : Addr
  fd_need_lot : FuncData
  F_need_lot : Fun K "need_lot" "need_lot" s_need_lot f_need_lot fd_need_lot
  b_need_lot : Binds K fd_need_lot ["value", "part"] []
  f_need_lot_kp : PySem.W.keepIn K (.ref f_need_lot) = true
  g_need_lot : mg "need_lot" = some (.ref f_need_lot)
  f_sums_across : Addr
  fd_sums_across : FuncData
  F_sums_across : Fun K "sums_across" "sums_across" s_sums_across f_sums_across fd_sums_across
  b_sums_across : Binds K fd_sums_across ["one", "other"] []
  f_sums_across_kp : PySem.W.keepIn K (.ref f_sums_across) = true
  g_sums_across : mg "sums_across" = some (.ref f_sums_across)
  f_distances : Addr
  fd_distances : FuncData
  F_distances : Fun K "distances" "distances" s_distances f_distances fd_distances
  b_distances : Binds K fd_distances ["lot"] []
  f_distances_kp : PySem.W.keepIn K (.ref f_distances) = true
  g_distances : mg "distances" = some (.ref f_distances)
  f_coming : Addr
  fd_coming : FuncData
  F_coming : Fun K "coming" "coming" s_coming f_coming fd_coming
  b_coming : Binds K fd_coming ["lot"] []
  f_coming_kp : PySem.W.keepIn K (.ref f_coming) = true
  g_coming : mg "coming" = some (.ref f_coming)
  f_need_counts : Addr
  fd_need_counts : FuncData
  F_need_counts : Fun K "need_counts" "need_counts" s_need_counts f_need_counts fd_need_counts
  b_need_counts : Binds K fd_need_counts ["many", "size", "counts"] []
  f_need_counts_kp : PySem.W.keepIn K (.ref f_need_counts) = true
  g_need_counts : mg "need_counts" = some (.ref f_need_counts)
  f_distances_left_out : Addr
  fd_distances_left_out : FuncData
  F_distances_left_out : Fun K "distances_left_out" "distances_left_out" s_distances_left_out f_distances_left_out fd_distances_left_out
  b_distances_left_out : Binds K fd_distances_left_out ["many", "size", "counts"] []
  f_distances_left_out_kp : PySem.W.keepIn K (.ref f_distances_left_out) = true
  g_distances_left_out : mg "distances_left_out" = some (.ref f_distances_left_out)
  f_not_coming : Addr
  fd_not_coming : FuncData
  F_not_coming : Fun K "not_coming" "not_coming" s_not_coming f_not_coming fd_not_coming
  b_not_coming : Binds K fd_not_coming ["lot"] []
  f_not_coming_kp : PySem.W.keepIn K (.ref f_not_coming) = true
  g_not_coming : mg "not_coming" = some (.ref f_not_coming)
  f_spans : Addr
  fd_spans : FuncData
  F_spans : Fun K "spans" "spans" s_spans f_spans fd_spans
  b_spans : Binds K fd_spans ["row"] []
  f_spans_kp : PySem.W.keepIn K (.ref f_spans) = true
  g_spans : mg "spans" = some (.ref f_spans)
  f_law_lot_right : Addr
  fd_law_lot_right : FuncData
  F_law_lot_right : Fun K "_law_lot_right" "_law_lot_right" s_law_lot_right f_law_lot_right fd_law_lot_right
  b_law_lot_right : Binds K fd_law_lot_right ["_law_many", "_law_marks"] []
  f_law_lot_right_kp : PySem.W.keepIn K (.ref f_law_lot_right) = true
  g_law_lot_right : mg "_law_lot_right" = some (.ref f_law_lot_right)
  f_law_lots : Addr
  fd_law_lots : FuncData
  F_law_lots : Fun K "_law_lots" "_law_lots" s_law_lots f_law_lots fd_law_lots
  b_law_lots : Binds K fd_law_lots ["_law_many", "_law_size"] []
  f_law_lots_kp : PySem.W.keepIn K (.ref f_law_lots) = true
  g_law_lots : mg "_law_lots" = some (.ref f_law_lots)
  f_law_pick : Addr
  fd_law_pick : FuncData
  F_law_pick : Fun K "_law_pick" "_law_pick" s_law_pick f_law_pick fd_law_pick
  b_law_pick : Binds K fd_law_pick ["_law_hand_here", "_law_some"] []
  f_law_pick_kp : PySem.W.keepIn K (.ref f_law_pick) = true
  g_law_pick : mg "_law_pick" = some (.ref f_law_pick)
  f_law_heard : Addr
  fd_law_heard : FuncData
  F_law_heard : Fun K "_law_heard" "_law_heard" s_law_heard f_law_heard fd_law_heard
  b_law_heard : Binds K fd_law_heard ["_law_ask"] []
  f_law_heard_kp : PySem.W.keepIn K (.ref f_law_heard) = true
  g_law_heard : mg "_law_heard" = some (.ref f_law_heard)
  f_law_refused_right : Addr
  fd_law_refused_right : FuncData
  c_law_refused_right : Addr
  P_law_refused_right : Addr
  F_law_refused_right : FunL K "_law_refused_right" "_law_refused_right" s_law_refused_right f_law_refused_right fd_law_refused_right c_law_refused_right
  hc_law_refused_right : PySem.W.codeHdIn K c_law_refused_right P_law_refused_right = true
  b_law_refused_right : Binds K fd_law_refused_right ["_law_hand_here"] []
  f_law_refused_right_kp : PySem.W.keepIn K (.ref f_law_refused_right) = true
  g_law_refused_right : mg "_law_refused_right" = some (.ref f_law_refused_right)
  f_law_told_right : Addr
  fd_law_told_right : FuncData
  F_law_told_right : Fun K "_law_told_right" "_law_told_right" s_law_told_right f_law_told_right fd_law_told_right
  b_law_told_right : Binds K fd_law_told_right ["_law_hand_here"] []
  f_law_told_right_kp : PySem.W.keepIn K (.ref f_law_told_right) = true
  g_law_told_right : mg "_law_told_right" = some (.ref f_law_told_right)
  f_law : Addr
  fd_law : FuncData
  F_law : Fun K "law" "law" s_law f_law fd_law
  b_law : Binds K fd_law ["_law_script"] []
  f_law_kp : PySem.W.keepIn K (.ref f_law) = true
  g_law : mg "law" = some (.ref f_law)
  kb_distances_lot_ : KB K fd_distances ["lot"] ["lot"] 0 [0]
  kb_distances_left_out_counts_size_many_ : KB K fd_distances_left_out ["many", "size", "counts"] ["counts", "size", "many"] 0 [2, 1, 0]
  kb_coming_lot_ : KB K fd_coming ["lot"] ["lot"] 0 [0]
  kb_not_coming_lot_ : KB K fd_not_coming ["lot"] ["lot"] 0 [0]
  kb_spans_row_ : KB K fd_spans ["row"] ["row"] 0 [0]
structure Tb {P : Program} {K : PySem.W.Frag} {mg : Str → Option Value} (T : Tx P K mg) (base : Heap) : Prop where
  tb_law_refused_right : LamX.TabB base mg T.c_law_refused_right T.P_law_refused_right
section
variable {P : Program} {w : World} {K : PySem.W.Frag} {mg : Str → Option Value} {base : Heap} (T : Tx P K mg)
include T in
theorem kb_distances_lot : KB K T.fd_distances ["lot"] ["lot"] 0 [0] := T.kb_distances_lot_
include T in
theorem kb_distances_left_out_counts_size_many : KB K T.fd_distances_left_out ["many", "size", "counts"] ["counts", "size", "many"] 0 [2, 1, 0] := T.kb_distances_left_out_counts_size_many_
include T in
theorem kb_coming_lot : KB K T.fd_coming ["lot"] ["lot"] 0 [0] := T.kb_coming_lot_
include T in
theorem kb_not_coming_lot : KB K T.fd_not_coming ["lot"] ["lot"] 0 [0] := T.kb_not_coming_lot_
include T in
theorem kb_spans_row : KB K T.fd_spans ["row"] ["row"] 0 [0] := T.kb_spans_row_
include T in
theorem isOkR_Row : IsOk K mg isR_Row where
  cs := fun c hc => by
    simp only [isR_Row, List.mem_cons, List.not_mem_nil, or_false] at hc
    subst hc
    exact ⟨T.C_Row, T.ctRow.hc, T.ctRow.ci⟩
  xs := fun c hc => (List.not_mem_nil hc).elim
  L := fun t ht => by
    simp only [isR_Row, List.mem_cons, List.not_mem_nil, or_false] at ht
    rcases ht with rfl | rfl | rfl | rfl | rfl | rfl | rfl | rfl
    · exact ⟨.ref T.C_Row, .ref T.C_Row, T.ctRow.hc, T.ctRow.hc, T.ctRow.kk⟩
    · exact ⟨.type "NoneType", .ref T.C_Row, rfl, T.ctRow.hc, kitOne_own T.ctRow.ci.cl.hd T.tr_Row T.sr_NoneType_Row (fun z => by cases z)⟩
    · exact ⟨.type "int", .ref T.C_Row, rfl, T.ctRow.hc, kitOne_own T.ctRow.ci.cl.hd T.tr_Row T.sr_int_Row (fun z => by cases z)⟩
    · exact ⟨.type "bool", .ref T.C_Row, rfl, T.ctRow.hc, kitOne_own T.ctRow.ci.cl.hd T.tr_Row T.sr_bool_Row (fun z => by cases z)⟩
    · exact ⟨.type "str", .ref T.C_Row, rfl, T.ctRow.hc, kitOne_own T.ctRow.ci.cl.hd T.tr_Row T.sr_str_Row (fun z => by cases z)⟩
    · exact ⟨.type "list", .ref T.C_Row, rfl, T.ctRow.hc, kitOne_own T.ctRow.ci.cl.hd T.tr_Row T.sr_list_Row (fun z => by cases z)⟩
    · exact ⟨.type "tuple", .ref T.C_Row, rfl, T.ctRow.hc, kitOne_own T.ctRow.ci.cl.hd T.tr_Row T.sr_tuple_Row (fun z => by cases z)⟩
    · exact ⟨.type "dict", .ref T.C_Row, rfl, T.ctRow.hc, kitOne_own T.ctRow.ci.cl.hd T.tr_Row T.sr_dict_Row (fun z => by cases z)⟩
include T in
theorem xfOk_most : XfOk K mg xf_most "most" := fun c hc => (List.not_mem_nil hc).elim
include T in
theorem xfOk_part : XfOk K mg xf_part "part" := fun c hc => by
  simp only [xf_part, List.mem_cons, List.not_mem_nil, or_false] at hc
  rcases hc with rfl | rfl
  · exact ⟨T.Cx_BadNumber, T.mx_BadNumber, T.xk_BadNumber, T.nf_BadNumber_part⟩
  · exact ⟨T.Cx_BadRow, T.mx_BadRow, T.xk_BadRow, T.nf_BadRow_part⟩
include T in
theorem xfOk_what : XfOk K mg xf_what "what" := fun c hc => (List.not_mem_nil hc).elim
include T in
theorem isOk : IsOk K mg isP where
  cs := fun c hc => (List.not_mem_nil hc).elim
  xs := fun c hc => by
    simp only [isP, List.mem_cons, List.not_mem_nil, or_false] at hc
    rcases hc with rfl | rfl
    · exact ⟨T.Cx_BadNumber, T.mx_BadNumber, T.xk_BadNumber⟩
    · exact ⟨T.Cx_BadRow, T.mx_BadRow, T.xk_BadRow⟩
  L := fun t ht => by
    simp only [isP, List.mem_cons, List.not_mem_nil, or_false] at ht
    rcases ht with rfl | rfl | rfl | rfl | rfl | rfl | rfl | rfl | rfl | rfl | rfl | rfl | rfl | rfl | rfl
    · exact ⟨.type "NoneType", .ref T.Cx_BadNumber, rfl, T.mx_BadNumber, kitOne_own T.hx_BadNumber T.tx_BadNumber T.sb_None_BadNumber (fun z => by cases z)⟩
    · exact ⟨.type "NoneType", .ref T.Cx_BadRow, rfl, T.mx_BadRow, kitOne_own T.hx_BadRow T.tx_BadRow T.sb_None_BadRow (fun z => by cases z)⟩
    · exact ⟨.type "NoneType", .ref T.Cx_Misfit, rfl, T.mx_Misfit, kitOne_own T.hx_Misfit T.tx_Misfit T.sb_None_Misfit (fun z => by cases z)⟩
    · exact ⟨.type "NoneType", .ref T.Cx_NoDivisor, rfl, T.mx_NoDivisor, kitOne_own T.hx_NoDivisor T.tx_NoDivisor T.sb_None_NoDivisor (fun z => by cases z)⟩
    · exact ⟨.type "NoneType", .ref T.Cx_TooMany, rfl, T.mx_TooMany, kitOne_own T.hx_TooMany T.tx_TooMany T.sb_None_TooMany (fun z => by cases z)⟩
    · exact ⟨.ref T.Cx_BadNumber, .ref T.Cx_BadNumber, T.mx_BadNumber, T.mx_BadNumber, kitOne_own T.hx_BadNumber T.tx_BadNumber T.sb_BadNumber_BadNumber (fun _ => rfl)⟩
    · exact ⟨.ref T.Cx_BadNumber, .ref T.Cx_BadRow, T.mx_BadNumber, T.mx_BadRow, kitOne_own T.hx_BadRow T.tx_BadRow T.sb_BadNumber_BadRow (fun z => by have z := beq_iff_eq.mp z; have h := T.sb_BadNumber_BadRow; rw [z, T.ss_BadRow] at h; cases h)⟩
    · exact ⟨.ref T.Cx_BadNumber, .ref T.Cx_Misfit, T.mx_BadNumber, T.mx_Misfit, kitOne_own T.hx_Misfit T.tx_Misfit T.sb_BadNumber_Misfit (fun z => by have z := beq_iff_eq.mp z; have h := T.sb_BadNumber_Misfit; rw [z, T.ss_Misfit] at h; cases h)⟩
    · exact ⟨.ref T.Cx_BadNumber, .ref T.Cx_NoDivisor, T.mx_BadNumber, T.mx_NoDivisor, kitOne_own T.hx_NoDivisor T.tx_NoDivisor T.sb_BadNumber_NoDivisor (fun z => by have z := beq_iff_eq.mp z; have h := T.sb_BadNumber_NoDivisor; rw [z, T.ss_NoDivisor] at h; cases h)⟩
    · exact ⟨.ref T.Cx_BadNumber, .ref T.Cx_TooMany, T.mx_BadNumber, T.mx_TooMany, kitOne_own T.hx_TooMany T.tx_TooMany T.sb_BadNumber_TooMany (fun z => by have z := beq_iff_eq.mp z; have h := T.sb_BadNumber_TooMany; rw [z, T.ss_TooMany] at h; cases h)⟩
    · exact ⟨.ref T.Cx_BadRow, .ref T.Cx_BadNumber, T.mx_BadRow, T.mx_BadNumber, kitOne_own T.hx_BadNumber T.tx_BadNumber T.sb_BadRow_BadNumber (fun z => by have z := beq_iff_eq.mp z; have h := T.sb_BadRow_BadNumber; rw [z, T.ss_BadNumber] at h; cases h)⟩
    · exact ⟨.ref T.Cx_BadRow, .ref T.Cx_BadRow, T.mx_BadRow, T.mx_BadRow, kitOne_own T.hx_BadRow T.tx_BadRow T.sb_BadRow_BadRow (fun _ => rfl)⟩
    · exact ⟨.ref T.Cx_BadRow, .ref T.Cx_Misfit, T.mx_BadRow, T.mx_Misfit, kitOne_own T.hx_Misfit T.tx_Misfit T.sb_BadRow_Misfit (fun z => by have z := beq_iff_eq.mp z; have h := T.sb_BadRow_Misfit; rw [z, T.ss_Misfit] at h; cases h)⟩
    · exact ⟨.ref T.Cx_BadRow, .ref T.Cx_NoDivisor, T.mx_BadRow, T.mx_NoDivisor, kitOne_own T.hx_NoDivisor T.tx_NoDivisor T.sb_BadRow_NoDivisor (fun z => by have z := beq_iff_eq.mp z; have h := T.sb_BadRow_NoDivisor; rw [z, T.ss_NoDivisor] at h; cases h)⟩
    · exact ⟨.ref T.Cx_BadRow, .ref T.Cx_TooMany, T.mx_BadRow, T.mx_TooMany, kitOne_own T.hx_TooMany T.tx_TooMany T.sb_BadRow_TooMany (fun z => by have z := beq_iff_eq.mp z; have h := T.sb_BadRow_TooMany; rw [z, T.ss_TooMany] at h; cases h)⟩
include T in
theorem exm_BeatError : ∀ c ∈ csX, ∃ C, mg c = some (.ref C) ∧ PySem.W.exmOne K (.ref C) (.ref T.Cx_BeatError) = some true := fun c hc => by
  simp only [csX, List.mem_cons, List.not_mem_nil, or_false] at hc
  rcases hc with rfl | rfl
  · exact ⟨T.Cx_BadNumber, T.mx_BadNumber, exm_own T.sB_BeatError T.hx_BeatError T.tx_BeatError T.sb_BadNumber_BeatError⟩
  · exact ⟨T.Cx_BadRow, T.mx_BadRow, exm_own T.sB_BeatError T.hx_BeatError T.tx_BeatError T.sb_BadRow_BeatError⟩
include T in
theorem lA_law_refused_right : lamA K mg "_law_refused_right" = T.P_law_refused_right := by
  obtain ⟨oc, od, kV, doc, pm, an, ct, osl, hfd, lk, hcd⟩ := T.F_law_refused_right.ex
  exact lamA_of ⟨T.f_law_refused_right, oc, od, T.fd_law_refused_right, osl, T.c_law_refused_right, T.g_law_refused_right, lk, congrArg FuncData.code hfd, T.hc_law_refused_right⟩
include T in
theorem lm_law_refused_right : (T.P_law_refused_right, ("_law_refused_right" : Str) ++ (".<locals>." : Str) ++ ("<lambda>" : Str)) ∈ lamT K mg := List.mem_map.mpr ⟨"_law_refused_right", (by decide : ("_law_refused_right" : Str) ∈ (["_law_refused_right"] : List Str)), by rw [lA_law_refused_right T]⟩
include T in
theorem lu_law_refused_right : ∀ p ∈ lamT K mg, p.1 = T.P_law_refused_right → p.2 = ("_law_refused_right" : Str) ++ (".<locals>." : Str) ++ ("<lambda>" : Str) := fun p hp e => by
  obtain ⟨g, hg, rfl⟩ := List.mem_map.mp hp
  have hg : g ∈ (["_law_refused_right"] : List Str) := hg
  simp only [List.mem_cons, List.not_mem_nil, or_false] at hg
  rcases hg with rfl
  · rfl
theorem ok_law_hand : FnOk P w K mg base (L2.CX P w) 1 T.f_law_hand T.fd_law_hand ["_law_script"] (spP K mg 1 F_law_hand) :=
  fn_p T.F_law_hand sc_law_hand fun cdv A outer s H E hr =>
  (sss_one (ss_ret (se_lst (sa_cons (se_lc (own := [("_law_cell", 1)]) rfl sc_law_hand.nd (si_seq (se_sl (v_ 0) sp_no (sp_at se_int))) (blkOk_by (N := N_law_hand) (sc := defScope s_law_hand) (by decide +kernel)) (fun _ _ _ _ _ => sg_name sc_law_hand.nd rfl (by first | exact Or.inl rfl | exact Or.inr rfl)) (fun _ _ _ _ _ => sts_nil) (fun _ _ _ _ _ => (se_callTy cs_int (by rfl) T.m_int bt_int (sa_cons (v_ 1) sa_nil)))) (sa_cons se_int (sa_cons se_int sa_nil))))))
theorem ok_law_take : FnOk P w K mg base (L2.CX P w) 1 T.f_law_take T.fd_law_take ["_law_hand_here", "_law_many"] (spO K mg 1 F_law_take) :=
  fn_o T.F_law_take sc_law_take fun cdv A outer s H E hr =>
  (sss_cons (ss_if (st_cmp os_gt (se_ixv (i := 0) rfl (by first | exact Or.inl rfl | exact Or.inr (Or.inl rfl) | exact Or.inr (Or.inr rfl)) se_int) se_int (by rfl)) (sss_cons (ss_set (i := 2) (by decide) sc_law_take.nd rfl (by first | exact Or.inl rfl | exact Or.inr rfl) (se_ixv (i := 0) rfl (by first | exact Or.inl rfl | exact Or.inr (Or.inl rfl) | exact Or.inr (Or.inr rfl)) se_int))
  (sss_cons (ss_setix (i := 0) rfl (by first | exact Or.inl rfl | exact Or.inr (Or.inl rfl) | exact Or.inr (Or.inr rfl)) (se_op os_div (se_callTy cs_int (by rfl) T.m_int bt_int (sa_cons (v_ 2) sa_nil)) (v_ 1)) se_int)
  (sss_one (ss_ret (se_op os_mod (se_callTy cs_int (by rfl) T.m_int bt_int (sa_cons (v_ 2) sa_nil)) (v_ 1)))))) sss_nil)
  (sss_cons (ss_set (i := 3) (by decide) sc_law_take.nd rfl (by first | exact Or.inl rfl | exact Or.inr rfl) (se_ixv (i := 0) rfl (by first | exact Or.inl rfl | exact Or.inr (Or.inl rfl) | exact Or.inr (Or.inr rfl)) se_int))
  (sss_cons (ss_setix (i := 0) rfl (by first | exact Or.inl rfl | exact Or.inr (Or.inl rfl) | exact Or.inr (Or.inr rfl)) (se_op os_add (v_ 3) se_int) se_int)
  (sss_cons (ss_set (i := 4) (by decide) sc_law_take.nd rfl (by first | exact Or.inl rfl | exact Or.inr rfl) (se_op os_add (se_op os_mul se_int (v_ 3)) se_int))
  (sss_cons (ss_if (st_cmp (os_ne hr.units) (se_ixv (i := 0) rfl (by first | exact Or.inl rfl | exact Or.inr (Or.inl rfl) | exact Or.inr (Or.inr rfl)) se_int) (se_lst sa_nil) (by rfl)) (sss_one (ss_set (i := 4) (by decide) sc_law_take.nd rfl (by first | exact Or.inl rfl | exact Or.inr rfl) (se_ix (se_ixv (i := 0) rfl (by first | exact Or.inl rfl | exact Or.inr (Or.inl rfl) | exact Or.inr (Or.inr rfl)) se_int) (se_op os_mod (se_callTy cs_int (by rfl) T.m_int bt_int (sa_cons (v_ 3) sa_nil)) (se_callB cs_len (by rfl) T.m_len bt_len (sa_cons (se_ixv (i := 0) rfl (by first | exact Or.inl rfl | exact Or.inr (Or.inl rfl) | exact Or.inr (Or.inr rfl)) se_int) sa_nil)))))) sss_nil)
  (sss_cons (ss_if (SW.st (sw_and (st_cmp os_lt (v_ 3) (se_callB cs_len (by rfl) T.m_len bt_len (sa_cons (se_ixv (i := 0) rfl (by first | exact Or.inl rfl | exact Or.inr (Or.inl rfl) | exact Or.inr (Or.inr rfl)) se_int) sa_nil)) (by rfl)) (sw_and1 (st_cmp os_ge (se_callB cs_abs (by rfl) T.m_abs bt_abs (sa_cons (v_ 4) sa_nil)) (se_op os_pow se_int se_int) (by rfl))))) (sss_cons (ss_set (i := 2) (by decide) sc_law_take.nd rfl (by first | exact Or.inl rfl | exact Or.inr rfl) (se_op os_add (se_op os_mul se_int (se_op os_sub (se_callB cs_abs (by rfl) T.m_abs bt_abs (sa_cons (v_ 4) sa_nil)) (se_op os_pow se_int se_int))) (se_callTy cs_int (by rfl) T.m_int bt_int (sa_cons (se_cmp os_lt (v_ 4) se_int (by rfl)) sa_nil))))
  (sss_cons (ss_setix (i := 0) rfl (by first | exact Or.inl rfl | exact Or.inr (Or.inl rfl) | exact Or.inr (Or.inr rfl)) (se_op os_div (se_callTy cs_int (by rfl) T.m_int bt_int (sa_cons (v_ 2) sa_nil)) (v_ 1)) se_int)
  (sss_one (ss_ret (se_op os_mod (se_callTy cs_int (by rfl) T.m_int bt_int (sa_cons (v_ 2) sa_nil)) (v_ 1)))))) sss_nil)
  (sss_cons (ss_set (i := 5) (by decide) sc_law_take.nd rfl (by first | exact Or.inl rfl | exact Or.inr rfl) (se_op os_mod (se_callTy cs_int (by rfl) T.m_int bt_int (sa_cons (se_op os_pow (se_op os_add (se_op os_add (se_op os_mod (se_callTy cs_int (by rfl) T.m_int bt_int (sa_cons (v_ 4) sa_nil)) se_int) (se_op os_mul se_int (v_ 3))) se_int) se_int) sa_nil)) se_int))
  (sss_cons (ss_set (i := 5) (by decide) sc_law_take.nd rfl (by first | exact Or.inl rfl | exact Or.inr rfl) (se_op os_mod (se_callTy cs_int (by rfl) T.m_int bt_int (sa_cons (se_op os_pow (se_op os_add (se_op os_add (se_op os_mul (v_ 5) (se_op os_add (se_op os_mul se_int (v_ 3)) se_int)) (se_op os_mul (se_op os_mul se_int (v_ 3)) (v_ 3))) se_int) se_int) sa_nil)) se_int))
  (sss_one (ss_ret (se_op os_mod (se_callTy cs_int (by rfl) T.m_int bt_int (sa_cons (se_op os_div (v_ 5) se_int) sa_nil)) (v_ 1))))))))))))
theorem ok_law_lot : FnOk P w K mg base (L2.CX P w) 2 T.f_law_lot T.fd_law_lot ["_law_hand_here", "_law_many", "_law_size"] (spO K mg 2 F_law_lot) :=
  fn_o T.F_law_lot sc_law_lot fun cdv A outer s H E hr =>
  (sss_cons (ss_set (i := 3) (by decide) sc_law_lot.nd rfl (by first | exact Or.inl rfl | exact Or.inr rfl) (se_lrg1 rfl (by rfl) T.m_list (by rfl) T.m_range (v_ 1)))
  (sss_one (ss_ret (se_callB cs_sorted (by rfl) T.m_sorted bt_sorted (sa_cons (se_lc (own := [("_law_turn", 4)]) rfl sc_law_lot.nd (si_rng1 (by rfl) T.m_range (sa_cons (v_ 2) sa_nil)) (blkOk_by (N := N_law_lot) (sc := defScope s_law_lot) (by decide +kernel)) (fun _ _ _ _ _ => sg_name sc_law_lot.nd rfl (by first | exact Or.inl rfl | exact Or.inr rfl)) (fun _ _ _ _ _ => sts_nil) (fun _ _ _ _ _ => (se_popAt (i := 3) rfl (by first | exact Or.inl rfl | exact Or.inr (Or.inl rfl) | exact Or.inr (Or.inr rfl)) (se_callO (i := 0) (ok_law_take T) (hr.mono (by decide)) (by rfl) T.g_law_take T.f_law_take_kp T.b_law_take rfl (by first | exact Or.inl rfl | exact Or.inr (Or.inl rfl) | exact Or.inr (Or.inr rfl)) (sa_cons (se_lenv (i := 3) (by rfl) T.m_len bt_len rfl (by first | exact Or.inl rfl | exact Or.inr (Or.inl rfl) | exact Or.inr (Or.inr rfl))) sa_nil))))) sa_nil)))))
theorem ok_is_integer : FnOk P w K mg base (L2.CX P w) 1 T.f_is_integer T.fd_is_integer ["value"] (spP K mg 1 F_is_integer) :=
  fn_p T.F_is_integer sc_is_integer fun cdv A outer s H E hr =>
  (sss_one (ss_ret (se_and (se_callB (cs_isi T.ctRow.hc T.ctRow.ci T.ctRow.kk) (by rfl) T.m_isinstance bt_isinstance (sa_cons (v_ 0) (sa_cons (se_ty (by rfl) T.m_int bt_int) sa_nil))) (se_one (se_not (se_callB (cs_isi T.ctRow.hc T.ctRow.ci T.ctRow.kk) (by rfl) T.m_isinstance bt_isinstance (sa_cons (v_ 0) (sa_cons (se_ty (by rfl) T.m_bool bt_bool) sa_nil))))))))
theorem ok_is_listed : FnOk P w K mg base (L2.CX P w) 1 T.f_is_listed T.fd_is_listed ["value"] (spP K mg 1 F_is_listed) :=
  fn_p T.F_is_listed sc_is_listed fun cdv A outer s H E hr =>
  (sss_one (ss_ret (se_callB (cs_isi T.ctRow.hc T.ctRow.ci T.ctRow.kk) (by rfl) T.m_isinstance bt_isinstance (sa_cons (v_ 0) (sa_cons (se_tup (sa_cons (se_ty (by rfl) T.m_list bt_list) (sa_cons (se_ty (by rfl) T.m_tuple bt_tuple) sa_nil))) sa_nil)))))
theorem ok_are_integers : FnOk P w K mg base (L2.CX P w) 2 T.f_are_integers T.fd_are_integers ["value"] (spP K mg 1 F_are_integers) :=
  fn_p T.F_are_integers sc_are_integers fun cdv A outer s H E hr =>
  (sss_one (ss_ret (se_and (se_call (ok_is_listed T) (hr.mono (by decide)) (by rfl) T.g_is_listed T.f_is_listed_kp T.b_is_listed (sa_cons (v_ 0) sa_nil)) (se_one (se_callB (cs_all rfl) (by rfl) T.m_all bt_all (sa_cons (se_lc (own := [("each", 1)]) rfl sc_are_integers.nd (si_seq (v_ 0)) (blkOk_by (N := N_are_integers) (sc := defScope s_are_integers) (by decide +kernel)) (fun _ _ _ _ _ => sg_name sc_are_integers.nd rfl (by first | exact Or.inl rfl | exact Or.inr rfl)) (fun _ _ _ _ _ => sts_nil) (fun _ _ _ _ _ => (se_call (ok_is_integer T) (hr.mono (by decide)) (by rfl) T.g_is_integer T.f_is_integer_kp T.b_is_integer (sa_cons (v_ 1) sa_nil)))) sa_nil))))))
theorem ok_Rowx__initx_ : FnOk P w K mg base (L2.CX P w) 3 T.f_Rowx__initx_ T.fd_Rowx__initx_ ["self", "numbers"] (spO K mg 1 F_Rowx__initx_) :=
  fn_o T.F_Rowx__initx_ sc_Rowx__initx_ fun cdv A outer s H E hr =>
  (sss_cons (ss_if (SW.st (sw_or (st_not (st_val (se_call (ok_are_integers T) (hr.mono (by decide)) (by rfl) T.g_are_integers T.f_are_integers_kp T.b_are_integers (sa_cons (v_ 1) sa_nil)))) (sw_or1 (st_not (st_chain os_le os_le (se_gi (by rfl) T.g_LEAST_MANY) (se_lenv (i := 1) (by rfl) T.m_len bt_len rfl (by first | exact Or.inl rfl | exact Or.inr (Or.inl rfl) | exact Or.inr (Or.inr rfl))) (se_gi (by rfl) T.g_MOST_MANY) (by with_unfolding_all rfl)))))) (sss_one ss_no) sss_nil)
  (sss_cons (ss_fld (i := 0) T.ctRow.hc T.ctRow.ci.cl T.na_Row_numbers rfl (by first | exact Or.inl rfl | exact Or.inr (Or.inl rfl) | exact Or.inr (Or.inr rfl)) (se_callTy cs_tuple (by rfl) T.m_tuple bt_tuple (sa_cons (v_ 1) sa_nil)))
  (sss_cons (ss_fld (i := 0) T.ctRow.hc T.ctRow.ci.cl T.na_Row_many rfl (by first | exact Or.inl rfl | exact Or.inr (Or.inl rfl) | exact Or.inr (Or.inr rfl)) (se_lenv (i := 1) (by rfl) T.m_len bt_len rfl (by first | exact Or.inl rfl | exact Or.inr (Or.inl rfl) | exact Or.inr (Or.inr rfl))))
  (sss_cons (ss_fld (i := 0) T.ctRow.hc T.ctRow.ci.cl T.na_Row_total rfl (by first | exact Or.inl rfl | exact Or.inr (Or.inl rfl) | exact Or.inr (Or.inr rfl)) (se_callB (cs_sum rfl) (by rfl) T.m_sum bt_sum (sa_cons (v_ 1) sa_nil)))
  (sss_cons (ss_fld (i := 0) T.ctRow.hc T.ctRow.ci.cl T.na_Row_is_lot rfl (by first | exact Or.inl rfl | exact Or.inr (Or.inl rfl) | exact Or.inr (Or.inr rfl)) (se_callB (cs_all rfl) (by rfl) T.m_all bt_all (sa_cons (se_lc (own := [("number", 2)]) rfl sc_Rowx__initx_.nd (si_seq (v_ 1)) (blkOk_by (N := N_Rowx__initx_) (sc := defScope s_Rowx__initx_) (by decide +kernel)) (fun _ _ _ _ _ => sg_name sc_Rowx__initx_.nd rfl (by first | exact Or.inl rfl | exact Or.inr rfl)) (fun _ _ _ _ _ => sts_nil) (fun _ _ _ _ _ => (se_cmp os_in (v_ 2) (se_tup (sa_cons se_int (sa_cons se_int sa_nil))) (by rfl)))) sa_nil)))
  (sss_one (ss_fld (i := 0) T.ctRow.hc T.ctRow.ci.cl T.na_Row_marks rfl (by first | exact Or.inl rfl | exact Or.inr (Or.inl rfl) | exact Or.inr (Or.inr rfl)) (se_callTy cs_tuple (by rfl) T.m_tuple bt_tuple (sa_cons (se_lc (own := [("beat", 3), ("number", 2)]) rfl sc_Rowx__initx_.nd (si_enum (by rfl) T.m_enumerate (sa_cons (v_ 1) sa_nil)) (blkOk_by (N := N_Rowx__initx_) (sc := defScope s_Rowx__initx_) (by decide +kernel)) (fun _ _ _ _ _ => (sg_tup (is := [3, 2]) rfl sc_Rowx__initx_.nd (tns_cons (i := 3) rfl (by first | exact Or.inl rfl | exact Or.inr rfl) (tns_cons (i := 2) rfl (by first | exact Or.inl rfl | exact Or.inr rfl) TNs.nil)))) (fun _ _ _ _ _ => sts_one (st_cmp (os_ne hr.units) (v_ 2) se_int (by rfl))) (fun _ _ _ _ _ => (v_ 3))) sa_nil)))))))))
theorem ok_Row_left_out : FnOk P w K mg base (L2.CX P w) 5 T.f_Row_left_out T.fd_Row_left_out ["self"] (spP K mg 1 F_Row_left_out) :=
  fn_p T.F_Row_left_out sc_Row_left_out fun cdv A outer s H E hr =>
  (sss_one (ss_ret (se_make ⟨T.ctRow.mks, T.a_Rowx__initx_, T.fn_Rowx__initx_, T.ctRow.kp⟩ (ok_Rowx__initx_ T) (hr.mono (by decide)) (by rfl) T.ctRow.hc T.b_Rowx__initx_ (sa_cons (se_lc (own := [("number", 1)]) rfl sc_Row_left_out.nd (si_seq (se_fldv (i := 0) T.ctRow.hc T.ctRow.ci.cl T.na_Row_numbers rfl (by first | exact Or.inl rfl | exact Or.inr (Or.inl rfl) | exact Or.inr (Or.inr rfl)))) (blkOk_by (N := N_Row_left_out) (sc := defScope s_Row_left_out) (by decide +kernel)) (fun _ _ _ _ _ => sg_name sc_Row_left_out.nd rfl (by first | exact Or.inl rfl | exact Or.inr rfl)) (fun _ _ _ _ _ => sts_nil) (fun _ _ _ _ _ => (se_op os_sub se_int (v_ 1)))) sa_nil))))
theorem ok_first_twice : FnOk P w K mg base (L2.CX P w) 1 T.f_first_twice T.fd_first_twice ["values"] (spP K mg 1 F_first_twice) :=
  fn_p T.F_first_twice sc_first_twice fun cdv A outer s H E hr =>
  (sss_cons (ss_set (i := 1) (by decide) sc_first_twice.nd rfl (by first | exact Or.inl rfl | exact Or.inr rfl) se_dnewK)
  (sss_cons (ss_for (by decide) PassesOwn.never rfl (si_seq (v_ 0)) (sg_name sc_first_twice.nd rfl (by first | exact Or.inl rfl | exact Or.inr rfl)) (sss_cons (ss_if (st_din (i := 1) (hu1 hr.units) (v_ 2) rfl (by first | exact Or.inl rfl | exact Or.inr (Or.inl rfl) | exact Or.inr (Or.inr rfl))) (sss_one (ss_ret (tk_ 2))) sss_nil)
  (sss_one (ss_dput (i := 1) (hu1 hr.units) rfl (by first | exact Or.inl rfl | exact Or.inr (Or.inl rfl) | exact Or.inr (Or.inr rfl)) se_bl (v_ 2)))))
  (sss_one (ss_ret se_non))))
theorem ok_is_within : FnOk P w K mg base (L2.CX P w) 2 T.f_is_within T.fd_is_within ["value", "least", "most"] (spP K mg 3 F_is_within) :=
  fn_p T.F_is_within sc_is_within fun cdv A outer s H E hr =>
  (sss_cons (ss_if (st_not (st_val (se_call (ok_is_integer T) (hr.mono (by decide)) (by rfl) T.g_is_integer T.f_is_integer_kp T.b_is_integer (sa_cons (v_ 0) sa_nil)))) (sss_one (ss_ret se_bl)) sss_nil)
  (sss_one (ss_ret (se_and (se_or (se_cmp os_is (v_ 1) se_non (by rfl)) (se_one (se_cmp os_ge (v_ 0) (v_ 1) (by rfl)))) (se_one (se_or (se_cmp os_is (v_ 2) se_non (by rfl)) (se_one (se_cmp os_le (v_ 0) (v_ 2) (by rfl)))))))))
theorem oki_BadNumberx__initx_ : FnOk P w K mg base (L2.CX P w) 1 T.f_BadNumberx__initx_ T.fd_BadNumberx__initx_ ["self", "part"] (spI1 K "part") :=
  fn_i1 T.F_BadNumberx__initx_ sc_BadNumberx__initx_ rfl (by first | exact Or.inl rfl | exact Or.inr (Or.inl rfl) | exact Or.inr (Or.inr rfl)) (by first | exact Or.inl rfl | exact Or.inr (Or.inl rfl) | exact Or.inr (Or.inr rfl)) (by decide) (by decide) (by decide) (by decide) (fun _ _ => rfl)
theorem okx_need_number : FnOk P w K mg base (L2.CX P w) 3 T.f_need_number T.fd_need_number ["value", "part", "least", "most"] (spX K mg 4 F_need_number R_need_number) :=
  fn_px T.F_need_number sc_need_number (fun cdv A outer s H E hr =>
  (sss_one (ss_if (st_not (st_val (se_call (ok_is_within T) (hr.mono (by decide)) (by rfl) T.g_is_within T.f_is_within_kp T.b_is_within (sa_cons (v_ 0) (sa_cons (v_ 2) (sa_cons (v_ 3) sa_nil)))))) (sss_one ss_no) sss_nil))) (fun cdv A outer s H E hr tk hpo =>
  (rss_one (rs_if (st_not (st_val (se_call (ok_is_within T) (hr.mono (by decide)) (by rfl) T.g_is_within T.f_is_within_kp T.b_is_within (sa_cons (v_ 0) (sa_cons (v_ 2) (sa_cons (v_ 3) sa_nil)))))) rt_noE (rss_one (rs_raise1 T.ox_BadNumber T.nf_BadNumber_part T.ic_BadNumber T.ti_BadNumberx__initx_ (oki_BadNumberx__initx_ T) tk rfl (hr.mono (by decide)) T.b_BadNumberx__initx_ (by rfl) T.mx_BadNumber (sa_cons (v_ 1) sa_nil))) rss_nil)))
theorem ok_need_number : FnOk P w K mg base (L2.CX P w) 3 T.f_need_number T.fd_need_number ["value", "part", "least", "most"] (spP K mg 4 F_need_number) := Sm.FnOk.val (okx_need_number T)
theorem okx_need_many : FnOk P w K mg base (L2.CX P w) 4 T.f_need_many T.fd_need_many ["value"] (spX K mg 1 F_need_many R_need_many) :=
  fn_px T.F_need_many sc_need_many (fun cdv A outer s H E hr =>
  (sss_one (ss_expr (se_call (ok_need_number T) (hr.mono (by decide)) (by rfl) T.g_need_number T.f_need_number_kp T.b_need_number (sa_cons (v_ 0) (sa_cons se_str (sa_cons (se_gi (by rfl) T.g_LEAST_MANY) (sa_cons (se_gi (by rfl) T.g_MOST_MANY) sa_nil)))))))) (fun cdv A outer s H E hr tk hpo =>
  (rss_one (rs_expr (re_call (okx_need_number T) tk (hr.mono (by decide)) (by rfl) T.g_need_number T.f_need_number_kp T.b_need_number (sa_cons (v_ 0) (sa_cons se_str (sa_cons (se_gi (by rfl) T.g_LEAST_MANY) (sa_cons (se_gi (by rfl) T.g_MOST_MANY) sa_nil)))) ra_noE))))
theorem ok_need_many : FnOk P w K mg base (L2.CX P w) 4 T.f_need_many T.fd_need_many ["value"] (spP K mg 1 F_need_many) := Sm.FnOk.val (okx_need_many T)
theorem ok_Row_of : FnOk P w K mg base (L2.CX P w) 5 T.f_Row_of T.fd_Row_of ["many", "marks"] (spP K mg 2 F_Row_of) :=
  fn_p T.F_Row_of sc_Row_of fun cdv A outer s H E hr =>
  (sss_cons (ss_expr (se_call (ok_need_many T) (hr.mono (by decide)) (by rfl) T.g_need_many T.f_need_many_kp T.b_need_many (sa_cons (v_ 0) sa_nil)))
  (sss_cons (ss_if (st_not (st_val (se_call (ok_is_listed T) (hr.mono (by decide)) (by rfl) T.g_is_listed T.f_is_listed_kp T.b_is_listed (sa_cons (v_ 1) sa_nil)))) (sss_one ss_no) sss_nil)
  (sss_cons (ss_for (by decide) PassesOwn.never rfl (si_seq (v_ 1)) (sg_name sc_Row_of.nd rfl (by first | exact Or.inl rfl | exact Or.inr rfl)) (sss_one (ss_if (st_not (st_val (se_call (ok_is_within T) (hr.mono (by decide)) (by rfl) T.g_is_within T.f_is_within_kp T.b_is_within (sa_cons (v_ 2) (sa_cons se_int (sa_cons (se_op os_sub (v_ 0) se_int) sa_nil)))))) (sss_one ss_no) sss_nil)))
  (sss_cons (ss_set (i := 3) (by decide) sc_Row_of.nd rfl (by first | exact Or.inl rfl | exact Or.inr rfl) (se_call (ok_first_twice T) (hr.mono (by decide)) (by rfl) T.g_first_twice T.f_first_twice_kp T.b_first_twice (sa_cons (v_ 1) sa_nil)))
  (sss_cons (ss_if (st_cmp os_isnot (v_ 3) se_non (by rfl)) (sss_one ss_no) sss_nil)
  (sss_one (ss_ret (se_make ⟨T.ctRow.mks, T.a_Rowx__initx_, T.fn_Rowx__initx_, T.ctRow.kp⟩ (ok_Rowx__initx_ T) (hr.mono (by decide)) (by rfl) T.ctRow.hc T.b_Rowx__initx_ (sa_cons (se_lc (own := [("beat", 2)]) rfl sc_Row_of.nd (si_rng1 (by rfl) T.m_range (sa_cons (v_ 0) sa_nil)) (blkOk_by (N := N_Row_of) (sc := defScope s_Row_of) (by decide +kernel)) (fun _ _ _ _ _ => sg_name sc_Row_of.nd rfl (by first | exact Or.inl rfl | exact Or.inr rfl)) (fun _ _ _ _ _ => sts_nil) (fun _ _ _ _ _ => (se_callTy cs_int (by rfl) T.m_int bt_int (sa_cons (se_cmp os_in (v_ 2) (v_ 1) (by rfl)) sa_nil)))) sa_nil)))))))))
theorem ok_law_counts : FnOk P w K mg base (L2.CX P w) 1 T.f_law_counts T.fd_law_counts ["_law_many", "_law_marks"] (spP K mg 2 F_law_counts) :=
  fn_p T.F_law_counts sc_law_counts fun cdv A outer s H E hr =>
  (sss_cons (ss_set (i := 2) (by decide) sc_law_counts.nd rfl (by first | exact Or.inl rfl | exact Or.inr rfl) (se_op os_mul (se_lst (sa_cons se_int sa_nil)) (se_op os_div (v_ 0) se_int)))
  (sss_cons (ss_for (by decide) PassesOwn.never rfl (si_enum (by rfl) T.m_enumerate (sa_cons (v_ 1) sa_nil)) (sg_tup (is := [3, 4]) rfl sc_law_counts.nd (tns_cons (i := 3) rfl (by first | exact Or.inl rfl | exact Or.inr rfl) (tns_cons (i := 4) rfl (by first | exact Or.inl rfl | exact Or.inr rfl) TNs.nil))) (sss_one (ss_for (by decide) PassesOwn.never rfl (si_seq (se_sl (v_ 1) (sp_at (se_op os_add (v_ 3) se_int)) sp_no)) (sg_name sc_law_counts.nd rfl (by first | exact Or.inl rfl | exact Or.inr rfl)) (sss_cons (ss_set (i := 6) (by decide) sc_law_counts.nd rfl (by first | exact Or.inl rfl | exact Or.inr rfl) (se_callB (cs_min rfl) (by rfl) T.m_min bt_min (sa_cons (se_op os_sub (v_ 5) (v_ 4)) (sa_cons (se_op os_add (se_op os_sub (v_ 0) (v_ 5)) (v_ 4)) sa_nil))))
  (sss_one (ss_setix (i := 2) rfl (by first | exact Or.inl rfl | exact Or.inr (Or.inl rfl) | exact Or.inr (Or.inr rfl)) (se_op os_add (se_ixv (i := 2) rfl (by first | exact Or.inl rfl | exact Or.inr (Or.inl rfl) | exact Or.inr (Or.inr rfl)) (se_op os_sub (v_ 6) se_int)) se_int) (se_op os_sub (v_ 6) se_int)))))))
  (sss_one (ss_ret (tk_ 2)))))
theorem ok_counts_of : FnOk P w K mg base (L2.CX P w) 1 T.f_counts_of T.fd_counts_of ["told"] (spP K mg 1 F_counts_of) :=
  fn_p T.F_counts_of sc_counts_of fun cdv A outer s H E hr =>
  (sss_cons (ss_set (i := 1) (by decide) sc_counts_of.nd rfl (by first | exact Or.inl rfl | exact Or.inr rfl) (se_lenv (i := 0) (by rfl) T.m_len bt_len rfl (by first | exact Or.inl rfl | exact Or.inr (Or.inl rfl) | exact Or.inr (Or.inr rfl))))
  (sss_one (ss_ret (se_callTy cs_tuple (by rfl) T.m_tuple bt_tuple (sa_cons (se_lc (own := [("beat", 2)]) rfl sc_counts_of.nd (si_rng2 (by rfl) T.m_range (sa_cons se_int (sa_cons (se_op os_add (se_op os_div (v_ 1) se_int) se_int) sa_nil))) (blkOk_by (N := N_counts_of) (sc := defScope s_counts_of) (by decide +kernel)) (fun _ _ _ _ _ => sg_name sc_counts_of.nd rfl (by first | exact Or.inl rfl | exact Or.inr rfl)) (fun _ _ _ _ _ => sts_nil) (fun _ _ _ _ _ => (se_if (st_cmp (os_eq hr.units) (se_op os_mul se_int (v_ 2)) (v_ 1) (by rfl)) (se_op os_div (se_ixv (i := 0) rfl (by first | exact Or.inl rfl | exact Or.inr (Or.inl rfl) | exact Or.inr (Or.inr rfl)) (v_ 2)) se_int) (se_ixv (i := 0) rfl (by first | exact Or.inl rfl | exact Or.inr (Or.inl rfl) | exact Or.inr (Or.inr rfl)) (v_ 2))))) sa_nil)))))
theorem oki_BadRowx__initx_ : FnOk P w K mg base (L2.CX P w) 1 T.f_BadRowx__initx_ T.fd_BadRowx__initx_ ["self", "part"] (spI1 K "part") :=
  fn_i1 T.F_BadRowx__initx_ sc_BadRowx__initx_ rfl (by first | exact Or.inl rfl | exact Or.inr (Or.inl rfl) | exact Or.inr (Or.inr rfl)) (by first | exact Or.inl rfl | exact Or.inr (Or.inl rfl) | exact Or.inr (Or.inr rfl)) (by decide) (by decide) (by decide) (by decide) (fun _ _ => rfl)
theorem okx_need_row : FnOk P w K mg base (L2.CX P w) 3 T.f_need_row T.fd_need_row ["value", "part"] (spX K mg 2 F_need_row R_need_row) :=
  fn_px T.F_need_row sc_need_row (fun cdv A outer s H E hr =>
  (sss_one (ss_if (st_not (st_val (se_callB (cs_isa (isOkR_Row T)) (by rfl) T.m_isinstance bt_isinstance (sa_cons (v_ 0) (sa_cons (se_cls (by rfl) T.ctRow.hc) sa_nil))))) (sss_one ss_no) sss_nil))) (fun cdv A outer s H E hr tk hpo =>
  (rss_one (rs_if (st_not (st_val (se_callB (cs_isa (isOkR_Row T)) (by rfl) T.m_isinstance bt_isinstance (sa_cons (v_ 0) (sa_cons (se_cls (by rfl) T.ctRow.hc) sa_nil))))) rt_noE (rss_one (rs_raise1 T.ox_BadRow T.nf_BadRow_part T.ic_BadRow T.ti_BadRowx__initx_ (oki_BadRowx__initx_ T) tk rfl (hr.mono (by decide)) T.b_BadRowx__initx_ (by rfl) T.mx_BadRow (sa_cons (v_ 1) sa_nil))) rss_nil)))
theorem ok_need_row : FnOk P w K mg base (L2.CX P w) 3 T.f_need_row T.fd_need_row ["value", "part"] (spP K mg 2 F_need_row) := Sm.FnOk.val (okx_need_row T)
theorem okx_need_lot : FnOk P w K mg base (L2.CX P w) 4 T.f_need_lot T.fd_need_lot ["value", "part"] (spX K mg 2 F_need_lot R_need_lot) :=
  fn_px T.F_need_lot sc_need_lot (fun cdv A outer s H E hr =>
  (sss_cons (ss_expr (se_call (ok_need_row T) (hr.mono (by decide)) (by rfl) T.g_need_row T.f_need_row_kp T.b_need_row (sa_cons (v_ 0) (sa_cons (v_ 1) sa_nil))))
  (sss_one (ss_if (st_not (st_val (se_fldv (i := 0) T.ctRow.hc T.ctRow.ci.cl T.na_Row_is_lot rfl (by first | exact Or.inl rfl | exact Or.inr (Or.inl rfl) | exact Or.inr (Or.inr rfl))))) (sss_one ss_no) sss_nil)))) (fun cdv A outer s H E hr tk hpo =>
  (rss_cons (P := []) (ss_expr (se_call (ok_need_row T) (hr.mono (by decide)) (by rfl) T.g_need_row T.f_need_row_kp T.b_need_row (sa_cons (v_ 0) (sa_cons (v_ 1) sa_nil)))) (rs_expr (re_call (okx_need_row T) tk (hr.mono (by decide)) (by rfl) T.g_need_row T.f_need_row_kp T.b_need_row (sa_cons (v_ 0) (sa_cons (v_ 1) sa_nil)) ra_noE))
  (rss_one (rs_if (st_not (st_val (se_fldv (i := 0) T.ctRow.hc T.ctRow.ci.cl T.na_Row_is_lot rfl (by first | exact Or.inl rfl | exact Or.inr (Or.inl rfl) | exact Or.inr (Or.inr rfl))))) rt_noE (rss_one (rs_raise1 T.ox_BadRow T.nf_BadRow_part T.ic_BadRow T.ti_BadRowx__initx_ (oki_BadRowx__initx_ T) tk rfl (hr.mono (by decide)) T.b_BadRowx__initx_ (by rfl) T.mx_BadRow (sa_cons (v_ 1) sa_nil))) rss_nil))))
theorem ok_need_lot : FnOk P w K mg base (L2.CX P w) 4 T.f_need_lot T.fd_need_lot ["value", "part"] (spP K mg 2 F_need_lot) := Sm.FnOk.val (okx_need_lot T)
theorem ok_sums_across : FnOk P w K mg base (L2.CX P w) 1 T.f_sums_across T.fd_sums_across ["one", "other"] (spP K mg 2 F_sums_across) :=
  fn_p T.F_sums_across sc_sums_across fun cdv A outer s H E hr =>
  (sss_cons (ss_par2 (by decide) rfl sc_sums_across.nd rfl rfl (by decide) rfl rfl (sas_cons (se_lenv (i := 0) (by rfl) T.m_len bt_len rfl (by first | exact Or.inl rfl | exact Or.inr (Or.inl rfl) | exact Or.inr (Or.inr rfl))) (sas_cons (se_lst sa_nil) sas_nil)) (by rfl))
  (sss_cons (ss_for (by decide) PassesOwn.never rfl (si_rng1 (by rfl) T.m_range (sa_cons (v_ 2) sa_nil)) (sg_name sc_sums_across.nd rfl (by first | exact Or.inl rfl | exact Or.inr rfl)) (sss_cons (ss_set (i := 5) (by decide) sc_sums_across.nd rfl (by first | exact Or.inl rfl | exact Or.inr rfl) (se_op os_add (se_sl (v_ 1) (sp_at (v_ 4)) sp_no) (se_sl (v_ 1) sp_no (sp_at (v_ 4)))))
  (sss_one (ss_expr (se_app (i := 3) rfl (by first | exact Or.inl rfl | exact Or.inr (Or.inl rfl) | exact Or.inr (Or.inr rfl)) (se_callB (cs_sum rfl) (by rfl) T.m_sum bt_sum (sa_cons (se_lc (own := [("mine", 6), ("its", 7)]) rfl sc_sums_across.nd (si_zip (by rfl) T.m_zip (sa_cons (v_ 0) (sa_cons (v_ 5) sa_nil))) (blkOk_by (N := N_sums_across) (sc := defScope s_sums_across) (by decide +kernel)) (fun _ _ _ _ _ => (sg_tup (is := [6, 7]) rfl sc_sums_across.nd (tns_cons (i := 6) rfl (by first | exact Or.inl rfl | exact Or.inr rfl) (tns_cons (i := 7) rfl (by first | exact Or.inl rfl | exact Or.inr rfl) TNs.nil)))) (fun _ _ _ _ _ => sts_nil) (fun _ _ _ _ _ => (se_op os_mul (v_ 6) (v_ 7)))) sa_nil)))))))
  (sss_one (ss_ret (se_callTy cs_tuple (by rfl) T.m_tuple bt_tuple (sa_cons (v_ 3) sa_nil))))))
theorem okx_distances : FnOk P w K mg base (L2.CX P w) 5 T.f_distances T.fd_distances ["lot"] (spX K mg 1 F_distances R_distances) :=
  fn_px T.F_distances sc_distances (fun cdv A outer s H E hr =>
  (sss_cons (ss_expr (se_call (ok_need_lot T) (hr.mono (by decide)) (by rfl) T.g_need_lot T.f_need_lot_kp T.b_need_lot (sa_cons (v_ 0) (sa_cons se_str sa_nil))))
  (sss_one (ss_ret (se_call (ok_counts_of T) (hr.mono (by decide)) (by rfl) T.g_counts_of T.f_counts_of_kp T.b_counts_of (sa_cons (se_call (ok_sums_across T) (hr.mono (by decide)) (by rfl) T.g_sums_across T.f_sums_across_kp T.b_sums_across (sa_cons (se_fldv (i := 0) T.ctRow.hc T.ctRow.ci.cl T.na_Row_numbers rfl (by first | exact Or.inl rfl | exact Or.inr (Or.inl rfl) | exact Or.inr (Or.inr rfl))) (sa_cons (se_fldv (i := 0) T.ctRow.hc T.ctRow.ci.cl T.na_Row_numbers rfl (by first | exact Or.inl rfl | exact Or.inr (Or.inl rfl) | exact Or.inr (Or.inr rfl))) sa_nil))) sa_nil)))))) (fun cdv A outer s H E hr tk hpo =>
  (rss_cons (P := []) (ss_expr (se_call (ok_need_lot T) (hr.mono (by decide)) (by rfl) T.g_need_lot T.f_need_lot_kp T.b_need_lot (sa_cons (v_ 0) (sa_cons se_str sa_nil)))) (rs_expr (re_call (okx_need_lot T) tk (hr.mono (by decide)) (by rfl) T.g_need_lot T.f_need_lot_kp T.b_need_lot (sa_cons (v_ 0) (sa_cons se_str sa_nil)) ra_noE))
  (rss_one rs_noE)))
theorem ok_distances : FnOk P w K mg base (L2.CX P w) 5 T.f_distances T.fd_distances ["lot"] (spP K mg 1 F_distances) := Sm.FnOk.val (okx_distances T)
theorem okx_coming : FnOk P w K mg base (L2.CX P w) 6 T.f_coming T.fd_coming ["lot"] (spX K mg 1 F_coming R_coming) :=
  fn_px T.F_coming sc_coming (fun cdv A outer s H E hr =>
  (sss_one (ss_ret (se_callTy cs_tuple (by rfl) T.m_tuple bt_tuple (sa_cons (se_lc (own := [("at", 1), ("count", 2)]) rfl sc_coming.nd (si_enum (by rfl) T.m_enumerate (sa_cons (se_call (ok_distances T) (hr.mono (by decide)) (by rfl) T.g_distances T.f_distances_kp T.b_distances (sa_cons (v_ 0) sa_nil)) sa_nil)) (blkOk_by (N := N_coming) (sc := defScope s_coming) (by decide +kernel)) (fun _ _ _ _ _ => (sg_tup (is := [1, 2]) rfl sc_coming.nd (tns_cons (i := 1) rfl (by first | exact Or.inl rfl | exact Or.inr rfl) (tns_cons (i := 2) rfl (by first | exact Or.inl rfl | exact Or.inr rfl) TNs.nil)))) (fun _ _ _ _ _ => sts_one (st_cmp os_gt (v_ 2) se_int (by rfl))) (fun _ _ _ _ _ => (se_op os_add (v_ 1) se_int))) sa_nil))))) (fun cdv A outer s H E hr tk hpo =>
  (rss_one (rs_ret (re_callTy cs_tuple (by rfl) T.m_tuple bt_tuple (ra_cons (se_lc (own := [("at", 1), ("count", 2)]) rfl sc_coming.nd (si_enum (by rfl) T.m_enumerate (sa_cons (se_call (ok_distances T) (hr.mono (by decide)) (by rfl) T.g_distances T.f_distances_kp T.b_distances (sa_cons (v_ 0) sa_nil)) sa_nil)) (blkOk_by (N := N_coming) (sc := defScope s_coming) (by decide +kernel)) (fun _ _ _ _ _ => (sg_tup (is := [1, 2]) rfl sc_coming.nd (tns_cons (i := 1) rfl (by first | exact Or.inl rfl | exact Or.inr rfl) (tns_cons (i := 2) rfl (by first | exact Or.inl rfl | exact Or.inr rfl) TNs.nil)))) (fun _ _ _ _ _ => sts_one (st_cmp os_gt (v_ 2) se_int (by rfl))) (fun _ _ _ _ _ => (se_op os_add (v_ 1) se_int))) (re_lc (own := [("at", 1), ("count", 2)]) rfl sc_coming.nd (ri_enum (by rfl) T.m_enumerate (ra_cons (se_call (ok_distances T) (hr.mono (by decide)) (by rfl) T.g_distances T.f_distances_kp T.b_distances (sa_cons (v_ 0) sa_nil)) (re_call (okx_distances T) tk (hr.mono (by decide)) (by rfl) T.g_distances T.f_distances_kp T.b_distances (sa_cons (v_ 0) sa_nil) ra_noE) ra_noE)) (blkOk_by (N := N_coming) (sc := defScope s_coming) (by decide +kernel)) (fun _ _ _ _ _ => (sg_tup (is := [1, 2]) rfl sc_coming.nd (tns_cons (i := 1) rfl (by first | exact Or.inl rfl | exact Or.inr rfl) (tns_cons (i := 2) rfl (by first | exact Or.inl rfl | exact Or.inr rfl) TNs.nil)))) (fun _ _ _ _ _ => sts_one (st_cmp os_gt (v_ 2) se_int (by rfl))) (fun _ _ _ _ _ => (se_op os_add (v_ 1) se_int))) ra_noE)))))
theorem ok_coming : FnOk P w K mg base (L2.CX P w) 6 T.f_coming T.fd_coming ["lot"] (spP K mg 1 F_coming) := Sm.FnOk.val (okx_coming T)
theorem okx_need_counts : FnOk P w K mg base (L2.CX P w) 5 T.f_need_counts T.fd_need_counts ["many", "size", "counts"] (spX K mg 3 F_need_counts R_need_counts) :=
  fn_px T.F_need_counts sc_need_counts (fun cdv A outer s H E hr =>
  (sss_cons (ss_expr (se_call (ok_need_many T) (hr.mono (by decide)) (by rfl) T.g_need_many T.f_need_many_kp T.b_need_many (sa_cons (v_ 0) sa_nil)))
  (sss_cons (ss_expr (se_call (ok_need_number T) (hr.mono (by decide)) (by rfl) T.g_need_number T.f_need_number_kp T.b_need_number (sa_cons (v_ 1) (sa_cons se_str (sa_cons se_int (sa_cons (v_ 0) sa_nil))))))
  (sss_one (ss_if (SW.st (sw_or (st_not (st_val (se_call (ok_are_integers T) (hr.mono (by decide)) (by rfl) T.g_are_integers T.f_are_integers_kp T.b_are_integers (sa_cons (v_ 2) sa_nil)))) (sw_or (st_cmp (os_ne hr.units) (se_lenv (i := 2) (by rfl) T.m_len bt_len rfl (by first | exact Or.inl rfl | exact Or.inr (Or.inl rfl) | exact Or.inr (Or.inr rfl))) (se_op os_div (v_ 0) se_int) (by rfl)) (sw_or1 (st_not (st_val (se_callB (cs_all rfl) (by rfl) T.m_all bt_all (sa_cons (se_lc (own := [("count", 3)]) rfl sc_need_counts.nd (si_seq (v_ 2)) (blkOk_by (N := N_need_counts) (sc := defScope s_need_counts) (by decide +kernel)) (fun _ _ _ _ _ => sg_name sc_need_counts.nd rfl (by first | exact Or.inl rfl | exact Or.inr rfl)) (fun _ _ _ _ _ => sts_nil) (fun _ _ _ _ _ => (se_cmp os_ge (v_ 3) se_int (by rfl)))) sa_nil)))))))) (sss_one ss_no) sss_nil))))) (fun cdv A outer s H E hr tk hpo =>
  (rss_cons (P := []) (ss_expr (se_call (ok_need_many T) (hr.mono (by decide)) (by rfl) T.g_need_many T.f_need_many_kp T.b_need_many (sa_cons (v_ 0) sa_nil))) (rs_expr (re_call (okx_need_many T) tk (hr.mono (by decide)) (by rfl) T.g_need_many T.f_need_many_kp T.b_need_many (sa_cons (v_ 0) sa_nil) ra_noE))
  (rss_cons (P := []) (ss_expr (se_call (ok_need_number T) (hr.mono (by decide)) (by rfl) T.g_need_number T.f_need_number_kp T.b_need_number (sa_cons (v_ 1) (sa_cons se_str (sa_cons se_int (sa_cons (v_ 0) sa_nil)))))) (rs_expr (re_call (okx_need_number T) tk (hr.mono (by decide)) (by rfl) T.g_need_number T.f_need_number_kp T.b_need_number (sa_cons (v_ 1) (sa_cons se_str (sa_cons se_int (sa_cons (v_ 0) sa_nil)))) ra_noE))
  (rss_one (rs_if (SW.st (sw_or (st_not (st_val (se_call (ok_are_integers T) (hr.mono (by decide)) (by rfl) T.g_are_integers T.f_are_integers_kp T.b_are_integers (sa_cons (v_ 2) sa_nil)))) (sw_or (st_cmp (os_ne hr.units) (se_lenv (i := 2) (by rfl) T.m_len bt_len rfl (by first | exact Or.inl rfl | exact Or.inr (Or.inl rfl) | exact Or.inr (Or.inr rfl))) (se_op os_div (v_ 0) se_int) (by rfl)) (sw_or1 (st_not (st_val (se_callB (cs_all rfl) (by rfl) T.m_all bt_all (sa_cons (se_lc (own := [("count", 3)]) rfl sc_need_counts.nd (si_seq (v_ 2)) (blkOk_by (N := N_need_counts) (sc := defScope s_need_counts) (by decide +kernel)) (fun _ _ _ _ _ => sg_name sc_need_counts.nd rfl (by first | exact Or.inl rfl | exact Or.inr rfl)) (fun _ _ _ _ _ => sts_nil) (fun _ _ _ _ _ => (se_cmp os_ge (v_ 3) se_int (by rfl)))) sa_nil)))))))) rt_noE (rss_one (rs_raise1 T.ox_BadNumber T.nf_BadNumber_part T.ic_BadNumber T.ti_BadNumberx__initx_ (oki_BadNumberx__initx_ T) tk rfl (hr.mono (by decide)) T.b_BadNumberx__initx_ (by rfl) T.mx_BadNumber (sa_cons se_str sa_nil))) rss_nil)))))
theorem ok_need_counts : FnOk P w K mg base (L2.CX P w) 5 T.f_need_counts T.fd_need_counts ["many", "size", "counts"] (spP K mg 3 F_need_counts) := Sm.FnOk.val (okx_need_counts T)
theorem okx_distances_left_out : FnOk P w K mg base (L2.CX P w) 6 T.f_distances_left_out T.fd_distances_left_out ["many", "size", "counts"] (spX K mg 3 F_distances_left_out R_distances_left_out) :=
  fn_px T.F_distances_left_out sc_distances_left_out (fun cdv A outer s H E hr =>
  (sss_cons (ss_expr (se_call (ok_need_counts T) (hr.mono (by decide)) (by rfl) T.g_need_counts T.f_need_counts_kp T.b_need_counts (sa_cons (v_ 0) (sa_cons (v_ 1) (sa_cons (v_ 2) sa_nil)))))
  (sss_cons (ss_set (i := 3) (by decide) sc_distances_left_out.nd rfl (by first | exact Or.inl rfl | exact Or.inr rfl) (se_lst sa_nil))
  (sss_cons (ss_for (by decide) PassesOwn.never rfl (si_enum (by rfl) T.m_enumerate (sa_cons (v_ 2) sa_nil)) (sg_tup (is := [4, 5]) rfl sc_distances_left_out.nd (tns_cons (i := 4) rfl (by first | exact Or.inl rfl | exact Or.inr rfl) (tns_cons (i := 5) rfl (by first | exact Or.inl rfl | exact Or.inr rfl) TNs.nil))) (sss_cons (ss_set (i := 6) (by decide) sc_distances_left_out.nd rfl (by first | exact Or.inl rfl | exact Or.inr rfl) (se_if (st_cmp (os_eq hr.units) (se_op os_mul se_int (se_op os_add (v_ 4) se_int)) (v_ 0) (by rfl)) (se_op os_sub (se_op os_div (v_ 0) se_int) (v_ 1)) (se_op os_sub (v_ 0) (se_op os_mul se_int (v_ 1)))))
  (sss_one (ss_expr (se_app (i := 3) rfl (by first | exact Or.inl rfl | exact Or.inr (Or.inl rfl) | exact Or.inr (Or.inr rfl)) (se_op os_add (v_ 5) (v_ 6)))))))
  (sss_one (ss_ret (se_callTy cs_tuple (by rfl) T.m_tuple bt_tuple (sa_cons (v_ 3) sa_nil)))))))) (fun cdv A outer s H E hr tk hpo =>
  (rss_cons (P := []) (ss_expr (se_call (ok_need_counts T) (hr.mono (by decide)) (by rfl) T.g_need_counts T.f_need_counts_kp T.b_need_counts (sa_cons (v_ 0) (sa_cons (v_ 1) (sa_cons (v_ 2) sa_nil))))) (rs_expr (re_call (okx_need_counts T) tk (hr.mono (by decide)) (by rfl) T.g_need_counts T.f_need_counts_kp T.b_need_counts (sa_cons (v_ 0) (sa_cons (v_ 1) (sa_cons (v_ 2) sa_nil))) ra_noE))
  (rss_cons (P := []) (ss_set (i := 3) (by decide) sc_distances_left_out.nd rfl (by first | exact Or.inl rfl | exact Or.inr rfl) (se_lst sa_nil)) rs_noE
  (rss_cons (P := []) (ss_for (by decide) hpo rfl (si_enum (by rfl) T.m_enumerate (sa_cons (v_ 2) sa_nil)) (sg_tup (is := [4, 5]) rfl sc_distances_left_out.nd (tns_cons (i := 4) rfl (by first | exact Or.inl rfl | exact Or.inr rfl) (tns_cons (i := 5) rfl (by first | exact Or.inl rfl | exact Or.inr rfl) TNs.nil))) (sss_cons (ss_set (i := 6) (by decide) sc_distances_left_out.nd rfl (by first | exact Or.inl rfl | exact Or.inr rfl) (se_if (st_cmp (os_eq hr.units) (se_op os_mul se_int (se_op os_add (v_ 4) se_int)) (v_ 0) (by rfl)) (se_op os_sub (se_op os_div (v_ 0) se_int) (v_ 1)) (se_op os_sub (v_ 0) (se_op os_mul se_int (v_ 1)))))
  (sss_one (ss_expr (se_app (i := 3) rfl (by first | exact Or.inl rfl | exact Or.inr (Or.inl rfl) | exact Or.inr (Or.inr rfl)) (se_op os_add (v_ 5) (v_ 6))))))) rs_noE
  (rss_one rs_noE)))))
theorem ok_distances_left_out : FnOk P w K mg base (L2.CX P w) 6 T.f_distances_left_out T.fd_distances_left_out ["many", "size", "counts"] (spP K mg 3 F_distances_left_out) := Sm.FnOk.val (okx_distances_left_out T)
theorem okx_not_coming : FnOk P w K mg base (L2.CX P w) 6 T.f_not_coming T.fd_not_coming ["lot"] (spX K mg 1 F_not_coming R_not_coming) :=
  fn_px T.F_not_coming sc_not_coming (fun cdv A outer s H E hr =>
  (sss_one (ss_ret (se_callTy cs_tuple (by rfl) T.m_tuple bt_tuple (sa_cons (se_lc (own := [("at", 1), ("count", 2)]) rfl sc_not_coming.nd (si_enum (by rfl) T.m_enumerate (sa_cons (se_call (ok_distances T) (hr.mono (by decide)) (by rfl) T.g_distances T.f_distances_kp T.b_distances (sa_cons (v_ 0) sa_nil)) sa_nil)) (blkOk_by (N := N_not_coming) (sc := defScope s_not_coming) (by decide +kernel)) (fun _ _ _ _ _ => (sg_tup (is := [1, 2]) rfl sc_not_coming.nd (tns_cons (i := 1) rfl (by first | exact Or.inl rfl | exact Or.inr rfl) (tns_cons (i := 2) rfl (by first | exact Or.inl rfl | exact Or.inr rfl) TNs.nil)))) (fun _ _ _ _ _ => sts_one (st_cmp (os_eq hr.units) (v_ 2) se_int (by rfl))) (fun _ _ _ _ _ => (se_op os_add (v_ 1) se_int))) sa_nil))))) (fun cdv A outer s H E hr tk hpo =>
  (rss_one (rs_ret (re_callTy cs_tuple (by rfl) T.m_tuple bt_tuple (ra_cons (se_lc (own := [("at", 1), ("count", 2)]) rfl sc_not_coming.nd (si_enum (by rfl) T.m_enumerate (sa_cons (se_call (ok_distances T) (hr.mono (by decide)) (by rfl) T.g_distances T.f_distances_kp T.b_distances (sa_cons (v_ 0) sa_nil)) sa_nil)) (blkOk_by (N := N_not_coming) (sc := defScope s_not_coming) (by decide +kernel)) (fun _ _ _ _ _ => (sg_tup (is := [1, 2]) rfl sc_not_coming.nd (tns_cons (i := 1) rfl (by first | exact Or.inl rfl | exact Or.inr rfl) (tns_cons (i := 2) rfl (by first | exact Or.inl rfl | exact Or.inr rfl) TNs.nil)))) (fun _ _ _ _ _ => sts_one (st_cmp (os_eq hr.units) (v_ 2) se_int (by rfl))) (fun _ _ _ _ _ => (se_op os_add (v_ 1) se_int))) (re_lc (own := [("at", 1), ("count", 2)]) rfl sc_not_coming.nd (ri_enum (by rfl) T.m_enumerate (ra_cons (se_call (ok_distances T) (hr.mono (by decide)) (by rfl) T.g_distances T.f_distances_kp T.b_distances (sa_cons (v_ 0) sa_nil)) (re_call (okx_distances T) tk (hr.mono (by decide)) (by rfl) T.g_distances T.f_distances_kp T.b_distances (sa_cons (v_ 0) sa_nil) ra_noE) ra_noE)) (blkOk_by (N := N_not_coming) (sc := defScope s_not_coming) (by decide +kernel)) (fun _ _ _ _ _ => (sg_tup (is := [1, 2]) rfl sc_not_coming.nd (tns_cons (i := 1) rfl (by first | exact Or.inl rfl | exact Or.inr rfl) (tns_cons (i := 2) rfl (by first | exact Or.inl rfl | exact Or.inr rfl) TNs.nil)))) (fun _ _ _ _ _ => sts_one (st_cmp (os_eq hr.units) (v_ 2) se_int (by rfl))) (fun _ _ _ _ _ => (se_op os_add (v_ 1) se_int))) ra_noE)))))
theorem ok_not_coming : FnOk P w K mg base (L2.CX P w) 6 T.f_not_coming T.fd_not_coming ["lot"] (spP K mg 1 F_not_coming) := Sm.FnOk.val (okx_not_coming T)
theorem okx_spans : FnOk P w K mg base (L2.CX P w) 4 T.f_spans T.fd_spans ["row"] (spX K mg 1 F_spans R_spans) :=
  fn_px T.F_spans sc_spans (fun cdv A outer s H E hr =>
  (sss_cons (ss_expr (se_call (ok_need_row T) (hr.mono (by decide)) (by rfl) T.g_need_row T.f_need_row_kp T.b_need_row (sa_cons (v_ 0) (sa_cons se_str sa_nil))))
  (sss_one (ss_ret (se_call (ok_sums_across T) (hr.mono (by decide)) (by rfl) T.g_sums_across T.f_sums_across_kp T.b_sums_across (sa_cons (se_fldv (i := 0) T.ctRow.hc T.ctRow.ci.cl T.na_Row_numbers rfl (by first | exact Or.inl rfl | exact Or.inr (Or.inl rfl) | exact Or.inr (Or.inr rfl))) (sa_cons (se_fldv (i := 0) T.ctRow.hc T.ctRow.ci.cl T.na_Row_numbers rfl (by first | exact Or.inl rfl | exact Or.inr (Or.inl rfl) | exact Or.inr (Or.inr rfl))) sa_nil))))))) (fun cdv A outer s H E hr tk hpo =>
  (rss_cons (P := []) (ss_expr (se_call (ok_need_row T) (hr.mono (by decide)) (by rfl) T.g_need_row T.f_need_row_kp T.b_need_row (sa_cons (v_ 0) (sa_cons se_str sa_nil)))) (rs_expr (re_call (okx_need_row T) tk (hr.mono (by decide)) (by rfl) T.g_need_row T.f_need_row_kp T.b_need_row (sa_cons (v_ 0) (sa_cons se_str sa_nil)) ra_noE))
  (rss_one rs_noE)))
theorem ok_spans : FnOk P w K mg base (L2.CX P w) 4 T.f_spans T.fd_spans ["row"] (spP K mg 1 F_spans) := Sm.FnOk.val (okx_spans T)
theorem ok_law_lot_right : FnOk P w K mg base (L2.CX P w) 7 T.f_law_lot_right T.fd_law_lot_right ["_law_many", "_law_marks"] (spP K mg 2 F_law_lot_right) :=
  fn_p T.F_law_lot_right sc_law_lot_right fun cdv A outer s H E hr =>
  (sss_cons (ss_parT (is := [2, 3, 4]) (by decide) rfl sc_law_lot_right.nd (tns_cons (i := 2) rfl (by first | exact Or.inl rfl | exact Or.inr rfl) (tns_cons (i := 3) rfl (by first | exact Or.inl rfl | exact Or.inr rfl) (tns_cons (i := 4) rfl (by first | exact Or.inl rfl | exact Or.inr rfl) TNs.nil))) (sas_cons (se_stat (by rfl) T.ctRow.hc T.st_Row_of (ok_Row_of T) (hr.mono (by decide)) T.b_Row_of (sa_cons (v_ 0) (sa_cons (se_callTy cs_list (by rfl) T.m_list bt_list (sa_cons (v_ 1) sa_nil)) sa_nil))) (sas_cons (se_call (ok_law_counts T) (hr.mono (by decide)) (by rfl) T.g_law_counts T.f_law_counts_kp T.b_law_counts (sa_cons (v_ 0) (sa_cons (v_ 1) sa_nil))) (sas_cons (se_lenv (i := 1) (by rfl) T.m_len bt_len rfl (by first | exact Or.inl rfl | exact Or.inr (Or.inl rfl) | exact Or.inr (Or.inr rfl))) sas_nil))))
  (sss_cons (ss_setLc (i := 5) (by decide) rfl sc_law_lot_right.nd rfl rfl (sw_true rfl rfl rfl (by decide +kernel)) (own := [("_law_beat", 12)]) (si_rng1 (by rfl) T.m_range (sa_cons (v_ 0) sa_nil)) (blkOk_by (N := N_law_lot_right) (sc := defScope s_law_lot_right) (by decide +kernel)) (fun _ _ _ _ _ => sg_name sc_law_lot_right.nd rfl (by first | exact Or.inl rfl | exact Or.inr rfl)) (fun _ _ _ _ _ => sts_one (st_cmp os_notin (v_ 12) (v_ 1) (by rfl))) (fun _ _ _ _ _ => (v_ 12)))
  (sss_cons (ss_par2 (by decide) rfl sc_law_lot_right.nd rfl rfl (by decide) rfl rfl (sas_cons (se_call (ok_law_counts T) (hr.mono (by decide)) (by rfl) T.g_law_counts T.f_law_counts_kp T.b_law_counts (sa_cons (v_ 0) (sa_cons (v_ 5) sa_nil))) (sas_cons (se_callK0 (ok_distances T) (hr.mono (by decide)) (by rfl) T.g_distances T.f_distances_kp (kb_distances_lot T) (sk_cons (v_ 2) sk_nil)) sas_nil)) (by rfl))
  (sss_cons (ss_if (SW.st (sw_or (st_cmp (os_ne hr.units) (v_ 7) (se_callTy cs_tuple (by rfl) T.m_tuple bt_tuple (sa_cons (v_ 3) sa_nil)) (by rfl)) (sw_or (st_cmp (os_ne hr.units) (se_callB (cs_sum rfl) (by rfl) T.m_sum bt_sum (sa_cons (v_ 7) sa_nil)) (se_op os_div (se_op os_mul (v_ 4) (se_op os_sub (v_ 4) se_int)) se_int) (by rfl)) (sw_or1 (st_cmp (os_ne hr.units) (se_call (ok_distances T) (hr.mono (by decide)) (by rfl) T.g_distances T.f_distances_kp T.b_distances (sa_cons (se_meth0 T.ctRow.hc T.ctRow.ci.cl ⟨T.a_Row_left_out, T.fn_Row_left_out, T.f_Row_left_out_kp⟩ (ok_Row_left_out T) (hr.mono (by decide)) T.b_Row_left_out (v_ 2)) sa_nil)) (se_callTy cs_tuple (by rfl) T.m_tuple bt_tuple (sa_cons (v_ 6) sa_nil)) (by rfl)))))) (sss_one (ss_ret se_bl)) sss_nil)
  (sss_cons (ss_if (SW.st (sw_or (st_cmp (os_ne hr.units) (se_call (ok_distances_left_out T) (hr.mono (by decide)) (by rfl) T.g_distances_left_out T.f_distances_left_out_kp T.b_distances_left_out (sa_cons (v_ 0) (sa_cons (v_ 4) (sa_cons (v_ 7) sa_nil)))) (se_callTy cs_tuple (by rfl) T.m_tuple bt_tuple (sa_cons (v_ 6) sa_nil)) (by rfl)) (sw_or1 (st_cmp (os_ne hr.units) (se_callK0 (ok_distances_left_out T) (hr.mono (by decide)) (by rfl) T.g_distances_left_out T.f_distances_left_out_kp (kb_distances_left_out_counts_size_many T) (sk_cons (v_ 3) (sk_cons (v_ 4) (sk_cons (v_ 0) sk_nil)))) (se_callTy cs_tuple (by rfl) T.m_tuple bt_tuple (sa_cons (v_ 6) sa_nil)) (by rfl))))) (sss_one (ss_ret se_bl)) sss_nil)
  (sss_cons (ss_for (by decide) PassesOwn.never rfl (si_enum (by rfl) T.m_enumerate (sa_cons (v_ 3) sa_nil)) (sg_tup (is := [8, 9]) rfl sc_law_lot_right.nd (tns_cons (i := 8) rfl (by first | exact Or.inl rfl | exact Or.inr rfl) (tns_cons (i := 9) rfl (by first | exact Or.inl rfl | exact Or.inr rfl) TNs.nil))) (sss_one (ss_if (st_cmp (os_ne hr.units) (se_op os_sub (se_ixv (i := 6) rfl (by first | exact Or.inl rfl | exact Or.inr (Or.inl rfl) | exact Or.inr (Or.inr rfl)) (v_ 8)) (v_ 9)) (se_if (st_cmp (os_eq hr.units) (se_op os_add (se_op os_mul se_int (v_ 8)) se_int) (v_ 0) (by rfl)) (se_op os_sub (se_op os_div (v_ 0) se_int) (v_ 4)) (se_op os_sub (v_ 0) (se_op os_mul se_int (v_ 4)))) (by rfl)) (sss_one (ss_ret se_bl)) sss_nil)))
  (sss_cons (ss_if (SW.st (sw_and (st_cmp (os_eq hr.units) (se_op os_mul se_int (v_ 4)) (v_ 0) (by rfl)) (sw_and1 (st_cmp (os_ne hr.units) (v_ 6) (v_ 3) (by rfl))))) (sss_one (ss_ret se_bl)) sss_nil)
  (sss_cons (ss_if (st_cmp (os_ne hr.units) (se_callK0 (ok_coming T) (hr.mono (by decide)) (by rfl) T.g_coming T.f_coming_kp (kb_coming_lot T) (sk_cons (v_ 2) sk_nil)) (se_callTy cs_tuple (by rfl) T.m_tuple bt_tuple (sa_cons (se_lc (own := [("_law_at", 8)]) rfl sc_law_lot_right.nd (si_rng1 (by rfl) T.m_range (sa_cons (se_op os_div (v_ 0) se_int) sa_nil)) (blkOk_by (N := N_law_lot_right) (sc := defScope s_law_lot_right) (by decide +kernel)) (fun _ _ _ _ _ => sg_name sc_law_lot_right.nd rfl (by first | exact Or.inl rfl | exact Or.inr rfl)) (fun _ _ _ _ _ => sts_one (st_cmp os_gt (se_ixv (i := 3) rfl (by first | exact Or.inl rfl | exact Or.inr (Or.inl rfl) | exact Or.inr (Or.inr rfl)) (v_ 8)) se_int (by rfl))) (fun _ _ _ _ _ => (se_op os_add (v_ 8) se_int))) sa_nil)) (by rfl)) (sss_one (ss_ret se_bl)) sss_nil)
  (sss_cons (ss_if (st_cmp (os_ne hr.units) (se_callK0 (ok_not_coming T) (hr.mono (by decide)) (by rfl) T.g_not_coming T.f_not_coming_kp (kb_not_coming_lot T) (sk_cons (v_ 2) sk_nil)) (se_callTy cs_tuple (by rfl) T.m_tuple bt_tuple (sa_cons (se_lc (own := [("_law_at", 8)]) rfl sc_law_lot_right.nd (si_rng1 (by rfl) T.m_range (sa_cons (se_op os_div (v_ 0) se_int) sa_nil)) (blkOk_by (N := N_law_lot_right) (sc := defScope s_law_lot_right) (by decide +kernel)) (fun _ _ _ _ _ => sg_name sc_law_lot_right.nd rfl (by first | exact Or.inl rfl | exact Or.inr rfl)) (fun _ _ _ _ _ => sts_one (st_cmp (os_eq hr.units) (se_ixv (i := 3) rfl (by first | exact Or.inl rfl | exact Or.inr (Or.inl rfl) | exact Or.inr (Or.inr rfl)) (v_ 8)) se_int (by rfl))) (fun _ _ _ _ _ => (se_op os_add (v_ 8) se_int))) sa_nil)) (by rfl)) (sss_one (ss_ret se_bl)) sss_nil)
  (sss_cons (ss_set (i := 10) (by decide) sc_law_lot_right.nd rfl (by first | exact Or.inl rfl | exact Or.inr rfl) (se_callK0 (ok_spans T) (hr.mono (by decide)) (by rfl) T.g_spans T.f_spans_kp (kb_spans_row T) (sk_cons (v_ 2) sk_nil)))
  (sss_cons (ss_if (SW.st (sw_or (st_cmp (os_ne hr.units) (se_lenv (i := 10) (by rfl) T.m_len bt_len rfl (by first | exact Or.inl rfl | exact Or.inr (Or.inl rfl) | exact Or.inr (Or.inr rfl))) (v_ 0) (by rfl)) (sw_or (st_cmp (os_ne hr.units) (se_ixv (i := 10) rfl (by first | exact Or.inl rfl | exact Or.inr (Or.inl rfl) | exact Or.inr (Or.inr rfl)) se_int) (v_ 4) (by rfl)) (sw_or1 (st_cmp (os_ne hr.units) (se_callB (cs_sum rfl) (by rfl) T.m_sum bt_sum (sa_cons (v_ 10) sa_nil)) (se_op os_mul (v_ 4) (v_ 4)) (by rfl)))))) (sss_one (ss_ret se_bl)) sss_nil)
  (sss_cons (ss_for (by decide) PassesOwn.never rfl (si_enum (by rfl) T.m_enumerate (sa_cons (v_ 3) sa_nil)) (sg_tup (is := [8, 9]) rfl sc_law_lot_right.nd (tns_cons (i := 8) rfl (by first | exact Or.inl rfl | exact Or.inr rfl) (tns_cons (i := 9) rfl (by first | exact Or.inl rfl | exact Or.inr rfl) TNs.nil))) (sss_cons (ss_set (i := 11) (by decide) sc_law_lot_right.nd rfl (by first | exact Or.inl rfl | exact Or.inr rfl) (se_if (st_cmp (os_eq hr.units) (se_op os_add (se_op os_mul se_int (v_ 8)) se_int) (v_ 0) (by rfl)) (se_op os_mul se_int (v_ 9)) (v_ 9)))
  (sss_one (ss_if (SW.st (sw_or (st_cmp (os_ne hr.units) (se_ixv (i := 10) rfl (by first | exact Or.inl rfl | exact Or.inr (Or.inl rfl) | exact Or.inr (Or.inr rfl)) (se_op os_add (v_ 8) se_int)) (v_ 11) (by rfl)) (sw_or1 (st_cmp (os_ne hr.units) (se_ixv (i := 10) rfl (by first | exact Or.inl rfl | exact Or.inr (Or.inl rfl) | exact Or.inr (Or.inr rfl)) (se_op os_sub (se_op os_sub (v_ 0) (v_ 8)) se_int)) (v_ 11) (by rfl))))) (sss_one (ss_ret se_bl)) sss_nil))))
  (sss_one (ss_ret se_bl))))))))))))))
theorem ok_law_lots : FnOk P w K mg base (L2.CX P w) 1 T.f_law_lots T.fd_law_lots ["_law_many", "_law_size"] (spP K mg 2 F_law_lots) :=
  fn_p T.F_law_lots sc_law_lots fun cdv A outer s H E hr =>
  (sss_cons (ss_set (i := 2) (by decide) sc_law_lots.nd rfl (by first | exact Or.inl rfl | exact Or.inr rfl) (se_lst (sa_cons (se_tup sa_nil) sa_nil)))
  (sss_cons (ss_for (by decide) PassesOwn.never rfl (si_rng1 (by rfl) T.m_range (sa_cons (v_ 0) sa_nil)) (sg_name sc_law_lots.nd rfl (by first | exact Or.inl rfl | exact Or.inr rfl)) (sss_one (ss_set (i := 2) (by decide) sc_law_lots.nd rfl (by first | exact Or.inl rfl | exact Or.inr rfl) (se_op os_add (v_ 2) (se_lc (own := [("_law_lot_here", 4)]) rfl sc_law_lots.nd (si_seq (v_ 2)) (blkOk_by (N := N_law_lots) (sc := defScope s_law_lots) (by decide +kernel)) (fun _ _ _ _ _ => sg_name sc_law_lots.nd rfl (by first | exact Or.inl rfl | exact Or.inr rfl)) (fun _ _ _ _ _ => sts_one (st_cmp os_lt (se_lenv (i := 4) (by rfl) T.m_len bt_len rfl (by first | exact Or.inl rfl | exact Or.inr (Or.inl rfl) | exact Or.inr (Or.inr rfl))) (v_ 1) (by rfl))) (fun _ _ _ _ _ => (se_op os_add (v_ 4) (se_tup (sa_cons (v_ 3) sa_nil)))))))))
  (sss_one (ss_ret (se_callB (cs_sortX hr.units) (by rfl) T.m_sorted bt_sorted (sa_cons (se_lc (own := [("_law_lot_here", 4)]) rfl sc_law_lots.nd (si_seq (v_ 2)) (blkOk_by (N := N_law_lots) (sc := defScope s_law_lots) (by decide +kernel)) (fun _ _ _ _ _ => sg_name sc_law_lots.nd rfl (by first | exact Or.inl rfl | exact Or.inr rfl)) (fun _ _ _ _ _ => sts_one (st_cmp (os_eq hr.units) (se_lenv (i := 4) (by rfl) T.m_len bt_len rfl (by first | exact Or.inl rfl | exact Or.inr (Or.inl rfl) | exact Or.inr (Or.inr rfl))) (v_ 1) (by rfl))) (fun _ _ _ _ _ => (v_ 4))) sa_nil))))))
theorem ok_law_pick : FnOk P w K mg base (L2.CX P w) 2 T.f_law_pick T.fd_law_pick ["_law_hand_here", "_law_some"] (spO K mg 1 F_law_pick) :=
  fn_o T.F_law_pick sc_law_pick fun cdv A outer s H E hr =>
  (sss_one (ss_ret (se_ixv (i := 1) rfl (by first | exact Or.inl rfl | exact Or.inr (Or.inl rfl) | exact Or.inr (Or.inr rfl)) (se_callO (i := 0) (ok_law_take T) (hr.mono (by decide)) (by rfl) T.g_law_take T.f_law_take_kp T.b_law_take rfl (by first | exact Or.inl rfl | exact Or.inr (Or.inl rfl) | exact Or.inr (Or.inr rfl)) (sa_cons (se_lenv (i := 1) (by rfl) T.m_len bt_len rfl (by first | exact Or.inl rfl | exact Or.inr (Or.inl rfl) | exact Or.inr (Or.inr rfl))) sa_nil)))))
theorem gv_law_heard {X : Cx} (T : Tx X.prog X.K X.mg) (cdg : Value) (qq : Str) : LamX.GivesTo X N_law_heard "_law_heard" (defScope s_law_heard) T.f_law_heard cdg (defBody s_law_heard) "_law_ask" qq (TTk X.K X.mg H_law_heard) :=
  gives_k (jc := 1) (je := 2) sc_law_heard.nd rfl rfl (by decide) (by decide) (by decide) rfl rfl rfl T.mx_BeatError (by decide) (by decide) (by decide) (fun _ => rfl) (fun _ => rfl) (exm_BeatError T) (fun _ _ => rfl) (fun _ _ => rfl) (fun _ _ => rfl) (fun s H => (sss_cons (ss_set (i := 3) (by decide) sc_law_heard.nd rfl (by first | exact Or.inl rfl | exact Or.inr rfl) (se_lst (sa_cons (se_callB (cs_isa (isOk T)) (by rfl) T.m_isinstance bt_isinstance (sa_cons (v_ 1) (sa_cons (se_cls (by rfl) T.mx_BadRow) sa_nil))) (sa_cons (se_callB (cs_isa (isOk T)) (by rfl) T.m_isinstance bt_isinstance (sa_cons (v_ 1) (sa_cons (se_cls (by rfl) T.mx_BadNumber) sa_nil))) (sa_cons (se_callB (cs_isa (isOk T)) (by rfl) T.m_isinstance bt_isinstance (sa_cons (v_ 1) (sa_cons (se_cls (by rfl) T.mx_Misfit) sa_nil))) sa_nil)))))
  (sss_cons (ss_if (st_cmp os_in se_bl (v_ 3) (by rfl)) (sss_one (ss_ret (se_tup (sa_cons (se_ix (se_lst (sa_cons se_str (sa_cons se_str (sa_cons se_str sa_nil)))) (se_bmL PySem.F.plainAttrs_list PySem.F.slot_list_index PySem.F.type_list_index ms_index (v_ 3) (sa_cons se_bl sa_nil))) (sa_cons (se_xf (xfOk_part T) (v_ 1)) sa_nil))))) sss_nil)
  (sss_cons (ss_if (st_val (se_callB (cs_isa (isOk T)) (by rfl) T.m_isinstance bt_isinstance (sa_cons (v_ 1) (sa_cons (se_cls (by rfl) T.mx_NoDivisor) sa_nil)))) (sss_one (ss_ret (se_tup (sa_cons se_str (sa_cons se_noE sa_nil))))) sss_nil)
  (sss_one (ss_ret (se_if (st_val (se_callB (cs_isa (isOk T)) (by rfl) T.m_isinstance bt_isinstance (sa_cons (v_ 1) (sa_cons (se_cls (by rfl) T.mx_TooMany) sa_nil)))) (se_tup (sa_cons (se_xf (xfOk_what T) (v_ 1)) (sa_cons (se_xf (xfOk_most T) (v_ 1)) sa_nil))) (se_if (st_cmp os_is (v_ 1) se_non (by rfl)) se_non (se_tup (sa_cons se_str sa_nil))))))))))
include T in
theorem tbVok1 : ∀ t ∈ tbV1, FnV P w K mg base 6 1 t.1 t.2.1 t.2.2 := fun t ht => by
  simp only [tbV1, List.mem_cons, List.not_mem_nil, or_false] at ht
  rcases ht with rfl | rfl | rfl
  · exact ⟨T.f_coming, T.fd_coming, _, T.g_coming, (okx_coming T).mono (by decide), T.f_coming_kp, T.b_coming⟩
  · exact ⟨T.f_distances, T.fd_distances, _, T.g_distances, (okx_distances T).mono (by decide), T.f_distances_kp, T.b_distances⟩
  · exact ⟨T.f_not_coming, T.fd_not_coming, _, T.g_not_coming, (okx_not_coming T).mono (by decide), T.f_not_coming_kp, T.b_not_coming⟩
theorem ok_law_refused_right (B : Tb T base) : FnOk P w K mg base (L2.CX P w) 9 T.f_law_refused_right T.fd_law_refused_right ["_law_hand_here"] (spO K mg 0 F_law_refused_right) :=
  fn_oL T.F_law_refused_right sc_law_refused_right fun A outer s H E hr =>
  (sss_cons (ss_set (i := 1) (by decide) sc_law_refused_right.nd rfl (by first | exact Or.inl rfl | exact Or.inr rfl) (se_callO (i := 0) (ok_law_pick T) (hr.mono (by decide)) (by rfl) T.g_law_pick T.f_law_pick_kp T.b_law_pick rfl (by first | exact Or.inl rfl | exact Or.inr (Or.inl rfl) | exact Or.inr (Or.inr rfl)) (sa_cons (se_lst (sa_cons se_non (sa_cons se_int (sa_cons se_str (sa_cons (se_lst (sa_cons se_int (sa_cons se_int sa_nil))) (sa_cons (se_tup (sa_cons se_int (sa_cons se_int (sa_cons se_int sa_nil)))) sa_nil)))))) sa_nil)))
  (sss_cons (ss_set (i := 2) (by decide) sc_law_refused_right.nd rfl (by first | exact Or.inl rfl | exact Or.inr rfl) (se_make ⟨T.ctRow.mks, T.a_Rowx__initx_, T.fn_Rowx__initx_, T.ctRow.kp⟩ (ok_Rowx__initx_ T) (hr.mono (by decide)) (by rfl) T.ctRow.hc T.b_Rowx__initx_ (sa_cons (se_callO (i := 0) (ok_law_pick T) (hr.mono (by decide)) (by rfl) T.g_law_pick T.f_law_pick_kp T.b_law_pick rfl (by first | exact Or.inl rfl | exact Or.inr (Or.inl rfl) | exact Or.inr (Or.inr rfl)) (sa_cons (se_lst (sa_cons (se_lst (sa_cons se_int (sa_cons se_int sa_nil))) (sa_cons (se_lst (sa_cons se_int (sa_cons (se_neg se_int) (sa_cons se_int sa_nil)))) (sa_cons (se_lst (sa_cons se_int (sa_cons se_int (sa_cons se_int (sa_cons se_int sa_nil))))) sa_nil)))) sa_nil)) sa_nil)))
  (sss_cons (ss_set (i := 3) (by decide) sc_law_refused_right.nd rfl (by first | exact Or.inl rfl | exact Or.inr rfl) (se_lst (sa_cons (se_lamF (k := 4) (by rfl) T.g_law_heard T.f_law_heard_kp T.F_law_heard T.b_law_heard sc_law_heard rfl (by first | exact Or.inl rfl | exact Or.inr (Or.inl rfl) | exact Or.inr (Or.inr rfl)) (fun cdg => gv_law_heard (X := (cxOf (L2.CX P w) P w K mg base N_law_refused_right "_law_refused_right" (defScope s_law_refused_right) T.f_law_refused_right (.ref T.c_law_refused_right) A outer s H E).nox) T cdg _) B.tb_law_refused_right rfl (lm_law_refused_right T) (lu_law_refused_right T) (hr.mono (by decide)) (LamX.lamS_by (by kernel_rfl)) rfl (fun _ _ _ _ _ => rfl) (fun A outer s H E f c' hr => (se_call (ok_spans T) (hr.mono (by decide)) (by rfl) T.g_spans T.f_spans_kp T.b_spans (sa_cons (v_ 1) sa_nil))) (fun A outer s H E f c' hr tk => (re_call (okx_spans T) tk (hr.mono (by decide)) (by rfl) T.g_spans T.f_spans_kp T.b_spans (sa_cons (v_ 1) sa_nil) ra_noE))) sa_nil)))
  (sss_cons (ss_for (by decide) PassesOwn.never rfl (si_seq (se_tup (sa_cons (v_ 1) (sa_cons (v_ 2) sa_nil)))) (sg_name sc_law_refused_right.nd rfl (by first | exact Or.inl rfl | exact Or.inr rfl)) (sss_one (ss_for (by decide) PassesOwn.never rfl (si_seq (se_tup (sa_cons (se_cls (by rfl) T.g_distances) (sa_cons (se_cls (by rfl) T.g_coming) (sa_cons (se_cls (by rfl) T.g_not_coming) sa_nil))))) (sg_name sc_law_refused_right.nd rfl (by first | exact Or.inl rfl | exact Or.inr rfl)) (sss_one (ss_expr (se_app (i := 3) rfl (by first | exact Or.inl rfl | exact Or.inr (Or.inl rfl) | exact Or.inr (Or.inr rfl)) (se_lamF (k := 6) (by rfl) T.g_law_heard T.f_law_heard_kp T.F_law_heard T.b_law_heard sc_law_heard rfl (by first | exact Or.inl rfl | exact Or.inr (Or.inl rfl) | exact Or.inr (Or.inr rfl)) (fun cdg => gv_law_heard (X := (cxOf (L2.CX P w) P w K mg base N_law_refused_right "_law_refused_right" (defScope s_law_refused_right) T.f_law_refused_right (.ref T.c_law_refused_right) A outer s H E).nox) T cdg _) B.tb_law_refused_right rfl (lm_law_refused_right T) (lu_law_refused_right T) (hr.mono (by decide)) (LamX.lamS_by (by kernel_rfl)) rfl (fun _ _ _ _ _ => rfl) (fun A outer s H E f c' hr => (se_callV (tbVok1 T) (hr.mono (by decide)) rfl (by first | exact Or.inl rfl | exact Or.inr (Or.inl rfl) | exact Or.inr (Or.inr rfl)) (sa_cons (v_ 4) sa_nil))) (fun A outer s H E f c' hr tk => (re_callV (tbVok1 T) tk (hr.mono (by decide)) rfl (by first | exact Or.inl rfl | exact Or.inr (Or.inl rfl) | exact Or.inr (Or.inr rfl)) (sa_cons (v_ 4) sa_nil) ra_noE)))))))))
  (sss_cons (ss_if (st_cmp (os_ne hr.units) (v_ 3) (se_op os_add (se_lst (sa_cons (se_tup (sa_cons se_str (sa_cons se_str sa_nil))) sa_nil)) (se_op os_mul (se_lst (sa_cons (se_tup (sa_cons se_str (sa_cons se_str sa_nil))) sa_nil)) se_int)) (by rfl)) (sss_one (ss_ret se_bl)) sss_nil)
  (sss_cons (ss_parT (is := [6, 7]) (by decide) rfl sc_law_refused_right.nd (tns_cons (i := 6) rfl (by first | exact Or.inl rfl | exact Or.inr rfl) (tns_cons (i := 7) rfl (by first | exact Or.inl rfl | exact Or.inr rfl) TNs.nil)) (sas_cons (se_callO (i := 0) (ok_law_pick T) (hr.mono (by decide)) (by rfl) T.g_law_pick T.f_law_pick_kp T.b_law_pick rfl (by first | exact Or.inl rfl | exact Or.inr (Or.inl rfl) | exact Or.inr (Or.inr rfl)) (sa_cons (se_lst (sa_cons se_non (sa_cons se_int (sa_cons se_int (sa_cons se_str (sa_cons se_bl (sa_cons (se_lst (sa_cons se_int sa_nil)) (sa_cons se_int (sa_cons (se_neg se_int) sa_nil))))))))) sa_nil)) (sas_cons (se_callO (i := 0) (ok_law_pick T) (hr.mono (by decide)) (by rfl) T.g_law_pick T.f_law_pick_kp T.b_law_pick rfl (by first | exact Or.inl rfl | exact Or.inr (Or.inl rfl) | exact Or.inr (Or.inr rfl)) (sa_cons (se_lst (sa_cons se_non (sa_cons (se_neg se_int) (sa_cons se_int (sa_cons se_str (sa_cons se_bl (sa_cons (se_lst (sa_cons se_int sa_nil)) sa_nil))))))) sa_nil)) sas_nil)))
  (sss_cons (ss_set (i := 8) (by decide) sc_law_refused_right.nd rfl (by first | exact Or.inl rfl | exact Or.inr rfl) (se_callO (i := 0) (ok_law_pick T) (hr.mono (by decide)) (by rfl) T.g_law_pick T.f_law_pick_kp T.b_law_pick rfl (by first | exact Or.inl rfl | exact Or.inr (Or.inl rfl) | exact Or.inr (Or.inr rfl)) (sa_cons (se_lst (sa_cons se_non (sa_cons se_int (sa_cons se_str (sa_cons (se_lst (sa_cons se_int (sa_cons se_int (sa_cons se_int sa_nil)))) (sa_cons (se_lst (sa_cons se_int (sa_cons se_int (sa_cons se_int (sa_cons se_int (sa_cons se_int sa_nil)))))) (sa_cons (se_lst (sa_cons se_int (sa_cons se_int (sa_cons se_int (sa_cons (se_neg se_int) sa_nil))))) (sa_cons (se_lst (sa_cons se_int (sa_cons se_int (sa_cons se_int (sa_cons se_non sa_nil))))) (sa_cons (se_lst (sa_cons se_int (sa_cons se_int (sa_cons se_int (sa_cons se_bl sa_nil))))) (sa_cons se_dnewK (sa_cons (se_lst sa_nil) sa_nil))))))))))) sa_nil)))
  (sss_cons (ss_set (i := 9) (by decide) sc_law_refused_right.nd rfl (by first | exact Or.inl rfl | exact Or.inr rfl) (se_lst (sa_cons se_int (sa_cons se_int (sa_cons se_int (sa_cons se_int sa_nil))))))
  (sss_cons (ss_setix (i := 9) rfl (by first | exact Or.inl rfl | exact Or.inr (Or.inl rfl) | exact Or.inr (Or.inr rfl)) (se_callO (i := 0) (ok_law_pick T) (hr.mono (by decide)) (by rfl) T.g_law_pick T.f_law_pick_kp T.b_law_pick rfl (by first | exact Or.inl rfl | exact Or.inr (Or.inl rfl) | exact Or.inr (Or.inr rfl)) (sa_cons (se_lst (sa_cons se_non (sa_cons se_bl (sa_cons (se_neg se_int) (sa_cons se_str sa_nil))))) sa_nil)) (se_callO (i := 0) (ok_law_take T) (hr.mono (by decide)) (by rfl) T.g_law_take T.f_law_take_kp T.b_law_take rfl (by first | exact Or.inl rfl | exact Or.inr (Or.inl rfl) | exact Or.inr (Or.inr rfl)) (sa_cons se_int sa_nil)))
  (sss_cons (ss_if (st_cmp (os_ne hr.units) (se_lamF (k := 6) (by rfl) T.g_law_heard T.f_law_heard_kp T.F_law_heard T.b_law_heard sc_law_heard rfl (by first | exact Or.inl rfl | exact Or.inr (Or.inl rfl) | exact Or.inr (Or.inr rfl)) (fun cdg => gv_law_heard (X := (cxOf (L2.CX P w) P w K mg base N_law_refused_right "_law_refused_right" (defScope s_law_refused_right) T.f_law_refused_right (.ref T.c_law_refused_right) A outer s H E).nox) T cdg _) B.tb_law_refused_right rfl (lm_law_refused_right T) (lu_law_refused_right T) (hr.mono (by decide)) (LamX.lamS_by (by kernel_rfl)) rfl (fun _ _ _ _ _ => rfl) (fun A outer s H E f c' hr => (se_call (ok_distances_left_out T) (hr.mono (by decide)) (by rfl) T.g_distances_left_out T.f_distances_left_out_kp T.b_distances_left_out (sa_cons se_int (sa_cons se_int (sa_cons (v_ 9) sa_nil))))) (fun A outer s H E f c' hr tk => (re_call (okx_distances_left_out T) tk (hr.mono (by decide)) (by rfl) T.g_distances_left_out T.f_distances_left_out_kp T.b_distances_left_out (sa_cons se_int (sa_cons se_int (sa_cons (v_ 9) sa_nil))) ra_noE))) (se_tup (sa_cons se_str (sa_cons se_str sa_nil))) (by rfl)) (sss_one (ss_ret se_bl)) sss_nil)
  (sss_cons (ss_set (i := 3) (by decide) sc_law_refused_right.nd rfl (by first | exact Or.inl rfl | exact Or.inr rfl) (se_lst (sa_cons (se_lamF (k := 6) (by rfl) T.g_law_heard T.f_law_heard_kp T.F_law_heard T.b_law_heard sc_law_heard rfl (by first | exact Or.inl rfl | exact Or.inr (Or.inl rfl) | exact Or.inr (Or.inr rfl)) (fun cdg => gv_law_heard (X := (cxOf (L2.CX P w) P w K mg base N_law_refused_right "_law_refused_right" (defScope s_law_refused_right) T.f_law_refused_right (.ref T.c_law_refused_right) A outer s H E).nox) T cdg _) B.tb_law_refused_right rfl (lm_law_refused_right T) (lu_law_refused_right T) (hr.mono (by decide)) (LamX.lamS_by (by kernel_rfl)) rfl (fun _ _ _ _ _ => rfl) (fun A outer s H E f c' hr => (se_call (ok_distances_left_out T) (hr.mono (by decide)) (by rfl) T.g_distances_left_out T.f_distances_left_out_kp T.b_distances_left_out (sa_cons (v_ 6) (sa_cons (v_ 7) (sa_cons (v_ 8) sa_nil))))) (fun A outer s H E f c' hr tk => (re_call (okx_distances_left_out T) tk (hr.mono (by decide)) (by rfl) T.g_distances_left_out T.f_distances_left_out_kp T.b_distances_left_out (sa_cons (v_ 6) (sa_cons (v_ 7) (sa_cons (v_ 8) sa_nil))) ra_noE))) sa_nil)))
  (sss_cons (ss_expr (se_app (i := 3) rfl (by first | exact Or.inl rfl | exact Or.inr (Or.inl rfl) | exact Or.inr (Or.inr rfl)) (se_lamF (k := 6) (by rfl) T.g_law_heard T.f_law_heard_kp T.F_law_heard T.b_law_heard sc_law_heard rfl (by first | exact Or.inl rfl | exact Or.inr (Or.inl rfl) | exact Or.inr (Or.inr rfl)) (fun cdg => gv_law_heard (X := (cxOf (L2.CX P w) P w K mg base N_law_refused_right "_law_refused_right" (defScope s_law_refused_right) T.f_law_refused_right (.ref T.c_law_refused_right) A outer s H E).nox) T cdg _) B.tb_law_refused_right rfl (lm_law_refused_right T) (lu_law_refused_right T) (hr.mono (by decide)) (LamX.lamS_by (by kernel_rfl)) rfl (fun _ _ _ _ _ => rfl) (fun A outer s H E f c' hr => (se_call (ok_distances_left_out T) (hr.mono (by decide)) (by rfl) T.g_distances_left_out T.f_distances_left_out_kp T.b_distances_left_out (sa_cons se_int (sa_cons (v_ 7) (sa_cons (v_ 8) sa_nil))))) (fun A outer s H E f c' hr tk => (re_call (okx_distances_left_out T) tk (hr.mono (by decide)) (by rfl) T.g_distances_left_out T.f_distances_left_out_kp T.b_distances_left_out (sa_cons se_int (sa_cons (v_ 7) (sa_cons (v_ 8) sa_nil))) ra_noE)))))
  (sss_cons (ss_expr (se_app (i := 3) rfl (by first | exact Or.inl rfl | exact Or.inr (Or.inl rfl) | exact Or.inr (Or.inr rfl)) (se_lamF (k := 6) (by rfl) T.g_law_heard T.f_law_heard_kp T.F_law_heard T.b_law_heard sc_law_heard rfl (by first | exact Or.inl rfl | exact Or.inr (Or.inl rfl) | exact Or.inr (Or.inr rfl)) (fun cdg => gv_law_heard (X := (cxOf (L2.CX P w) P w K mg base N_law_refused_right "_law_refused_right" (defScope s_law_refused_right) T.f_law_refused_right (.ref T.c_law_refused_right) A outer s H E).nox) T cdg _) B.tb_law_refused_right rfl (lm_law_refused_right T) (lu_law_refused_right T) (hr.mono (by decide)) (LamX.lamS_by (by kernel_rfl)) rfl (fun _ _ _ _ _ => rfl) (fun A outer s H E f c' hr => (se_call (ok_distances_left_out T) (hr.mono (by decide)) (by rfl) T.g_distances_left_out T.f_distances_left_out_kp T.b_distances_left_out (sa_cons se_int (sa_cons se_int (sa_cons (v_ 8) sa_nil))))) (fun A outer s H E f c' hr tk => (re_call (okx_distances_left_out T) tk (hr.mono (by decide)) (by rfl) T.g_distances_left_out T.f_distances_left_out_kp T.b_distances_left_out (sa_cons se_int (sa_cons se_int (sa_cons (v_ 8) sa_nil))) ra_noE)))))
  (sss_cons (ss_expr (se_app (i := 3) rfl (by first | exact Or.inl rfl | exact Or.inr (Or.inl rfl) | exact Or.inr (Or.inr rfl)) (se_lamF (k := 6) (by rfl) T.g_law_heard T.f_law_heard_kp T.F_law_heard T.b_law_heard sc_law_heard rfl (by first | exact Or.inl rfl | exact Or.inr (Or.inl rfl) | exact Or.inr (Or.inr rfl)) (fun cdg => gv_law_heard (X := (cxOf (L2.CX P w) P w K mg base N_law_refused_right "_law_refused_right" (defScope s_law_refused_right) T.f_law_refused_right (.ref T.c_law_refused_right) A outer s H E).nox) T cdg _) B.tb_law_refused_right rfl (lm_law_refused_right T) (lu_law_refused_right T) (hr.mono (by decide)) (LamX.lamS_by (by kernel_rfl)) rfl (fun _ _ _ _ _ => rfl) (fun A outer s H E f c' hr => (se_call (ok_distances_left_out T) (hr.mono (by decide)) (by rfl) T.g_distances_left_out T.f_distances_left_out_kp T.b_distances_left_out (sa_cons se_int (sa_cons se_int (sa_cons (se_lst (sa_cons se_int (sa_cons se_int (sa_cons se_int (sa_cons se_int sa_nil))))) sa_nil))))) (fun A outer s H E f c' hr tk => (re_call (okx_distances_left_out T) tk (hr.mono (by decide)) (by rfl) T.g_distances_left_out T.f_distances_left_out_kp T.b_distances_left_out (sa_cons se_int (sa_cons se_int (sa_cons (se_lst (sa_cons se_int (sa_cons se_int (sa_cons se_int (sa_cons se_int sa_nil))))) sa_nil))) ra_noE)))))
  (sss_one (ss_ret (se_cmp (os_eq hr.units) (v_ 3) (se_lst (sa_cons (se_tup (sa_cons se_str (sa_cons se_str sa_nil))) (sa_cons (se_tup (sa_cons se_str (sa_cons se_str sa_nil))) (sa_cons (se_tup (sa_cons se_str (sa_cons se_str sa_nil))) (sa_cons se_non sa_nil))))) (by rfl))))))))))))))))))
theorem ok_law_told_right : FnOk P w K mg base (L2.CX P w) 7 T.f_law_told_right T.fd_law_told_right ["_law_hand_here"] (spO K mg 0 F_law_told_right) :=
  fn_o T.F_law_told_right sc_law_told_right fun cdv A outer s H E hr =>
  (sss_cons (ss_set (i := 1) (by decide) sc_law_told_right.nd rfl (by first | exact Or.inl rfl | exact Or.inr rfl) (se_op os_add se_int (se_callO (i := 0) (ok_law_take T) (hr.mono (by decide)) (by rfl) T.g_law_take T.f_law_take_kp T.b_law_take rfl (by first | exact Or.inl rfl | exact Or.inr (Or.inl rfl) | exact Or.inr (Or.inr rfl)) (sa_cons se_int sa_nil))))
  (sss_cons (ss_parT (is := [2, 3]) (by decide) rfl sc_law_told_right.nd (tns_cons (i := 2) rfl (by first | exact Or.inl rfl | exact Or.inr rfl) (tns_cons (i := 3) rfl (by first | exact Or.inl rfl | exact Or.inr rfl) TNs.nil)) (sas_cons (se_callO (i := 0) (ok_law_take T) (hr.mono (by decide)) (by rfl) T.g_law_take T.f_law_take_kp T.b_law_take rfl (by first | exact Or.inl rfl | exact Or.inr (Or.inl rfl) | exact Or.inr (Or.inr rfl)) (sa_cons (se_op os_add (v_ 1) se_int) sa_nil)) (sas_cons (se_lc (own := [("_law_distance", 5)]) rfl sc_law_told_right.nd (si_rng1 (by rfl) T.m_range (sa_cons (se_op os_div (v_ 1) se_int) sa_nil)) (blkOk_by (N := N_law_told_right) (sc := defScope s_law_told_right) (by decide +kernel)) (fun _ _ _ _ _ => sg_name sc_law_told_right.nd rfl (by first | exact Or.inl rfl | exact Or.inr rfl)) (fun _ _ _ _ _ => sts_nil) (fun _ _ _ _ _ => (se_callO (i := 0) (ok_law_pick T) (hr.mono (by decide)) (by rfl) T.g_law_pick T.f_law_pick_kp T.b_law_pick rfl (by first | exact Or.inl rfl | exact Or.inr (Or.inl rfl) | exact Or.inr (Or.inr rfl)) (sa_cons (se_lst (sa_cons se_int (sa_cons se_int (sa_cons se_int (sa_cons se_int (sa_cons se_int (sa_cons (se_op os_pow se_int se_int) sa_nil))))))) sa_nil)))) sas_nil)))
  (sss_cons (ss_setLc (i := 4) (by decide) rfl sc_law_told_right.nd rfl rfl (sw_true rfl rfl rfl (by decide +kernel)) (own := [("_law_at", 6), ("_law_count", 7)]) (si_enum (by rfl) T.m_enumerate (sa_cons (v_ 3) sa_nil)) (blkOk_by (N := N_law_told_right) (sc := defScope s_law_told_right) (by decide +kernel)) (fun _ _ _ _ _ => (sg_tup (is := [6, 7]) rfl sc_law_told_right.nd (tns_cons (i := 6) rfl (by first | exact Or.inl rfl | exact Or.inr rfl) (tns_cons (i := 7) rfl (by first | exact Or.inl rfl | exact Or.inr rfl) TNs.nil)))) (fun _ _ _ _ _ => sts_nil) (fun _ _ _ _ _ => (se_op os_add (v_ 7) (se_if (st_cmp (os_eq hr.units) (se_op os_add (se_op os_mul se_int (v_ 6)) se_int) (v_ 1) (by rfl)) (se_op os_sub (se_op os_div (v_ 1) se_int) (v_ 2)) (se_op os_sub (v_ 1) (se_op os_mul se_int (v_ 2)))))))
  (sss_one (ss_ret (se_and (se_cmp (os_eq hr.units) (se_call (ok_distances_left_out T) (hr.mono (by decide)) (by rfl) T.g_distances_left_out T.f_distances_left_out_kp T.b_distances_left_out (sa_cons (v_ 1) (sa_cons (v_ 2) (sa_cons (v_ 3) sa_nil)))) (se_callTy cs_tuple (by rfl) T.m_tuple bt_tuple (sa_cons (v_ 4) sa_nil)) (by rfl)) (se_one (se_cmp (os_eq hr.units) (se_call (ok_distances_left_out T) (hr.mono (by decide)) (by rfl) T.g_distances_left_out T.f_distances_left_out_kp T.b_distances_left_out (sa_cons (v_ 1) (sa_cons (v_ 2) (sa_cons (se_callTy cs_tuple (by rfl) T.m_tuple bt_tuple (sa_cons (v_ 3) sa_nil)) sa_nil)))) (se_callTy cs_tuple (by rfl) T.m_tuple bt_tuple (sa_cons (v_ 4) sa_nil)) (by rfl)))))))))
theorem ok_law (B : Tb T base) : FnOk P w K mg base (L2.CX P w) 10 T.f_law T.fd_law ["_law_script"] (spP K mg 1 F_law) :=
  fn_p T.F_law sc_law fun cdv A outer s H E hr =>
  (sss_cons (ss_set (i := 1) (by decide) sc_law.nd rfl (by first | exact Or.inl rfl | exact Or.inr rfl) (se_call (ok_law_hand T) (hr.mono (by decide)) (by rfl) T.g_law_hand T.f_law_hand_kp T.b_law_hand (sa_cons (v_ 0) sa_nil)))
  (sss_cons (ss_set (i := 2) (by decide) sc_law.nd rfl (by first | exact Or.inl rfl | exact Or.inr rfl) (se_op os_add se_int (se_callO (i := 1) (ok_law_take T) (hr.mono (by decide)) (by rfl) T.g_law_take T.f_law_take_kp T.b_law_take rfl (by first | exact Or.inl rfl | exact Or.inr (Or.inl rfl) | exact Or.inr (Or.inr rfl)) (sa_cons se_int sa_nil))))
  (sss_cons (ss_set (i := 3) (by decide) sc_law.nd rfl (by first | exact Or.inl rfl | exact Or.inr rfl) (se_callO (i := 1) (ok_law_pick T) (hr.mono (by decide)) (by rfl) T.g_law_pick T.f_law_pick_kp T.b_law_pick rfl (by first | exact Or.inl rfl | exact Or.inr (Or.inl rfl) | exact Or.inr (Or.inr rfl)) (sa_cons (se_lst (sa_cons (se_op os_div (v_ 2) se_int) (sa_cons (se_op os_div (v_ 2) se_int) (sa_cons (se_op os_sub (v_ 2) (se_op os_div (v_ 2) se_int)) (sa_cons (se_callO (i := 1) (ok_law_take T) (hr.mono (by decide)) (by rfl) T.g_law_take T.f_law_take_kp T.b_law_take rfl (by first | exact Or.inl rfl | exact Or.inr (Or.inl rfl) | exact Or.inr (Or.inr rfl)) (sa_cons (se_op os_add (v_ 2) se_int) sa_nil)) (sa_cons (se_callO (i := 1) (ok_law_take T) (hr.mono (by decide)) (by rfl) T.g_law_take T.f_law_take_kp T.b_law_take rfl (by first | exact Or.inl rfl | exact Or.inr (Or.inl rfl) | exact Or.inr (Or.inr rfl)) (sa_cons (se_op os_add (v_ 2) se_int) sa_nil)) sa_nil)))))) sa_nil)))
  (sss_cons (ss_if (st_cmp (os_ne hr.units) (se_lc (own := [("_law_marks", 4)]) rfl sc_law.nd (si_seq (se_call (ok_law_lots T) (hr.mono (by decide)) (by rfl) T.g_law_lots T.f_law_lots_kp T.b_law_lots (sa_cons (v_ 2) (sa_cons (v_ 3) sa_nil)))) (blkOk_by (N := N_law) (sc := defScope s_law) (by decide +kernel)) (fun _ _ _ _ _ => sg_name sc_law.nd rfl (by first | exact Or.inl rfl | exact Or.inr rfl)) (fun _ _ _ _ _ => sts_one (st_not (st_val (se_call (ok_law_lot_right T) (hr.mono (by decide)) (by rfl) T.g_law_lot_right T.f_law_lot_right_kp T.b_law_lot_right (sa_cons (v_ 2) (sa_cons (v_ 4) sa_nil)))))) (fun _ _ _ _ _ => (v_ 4))) (se_lst sa_nil) (by rfl)) (sss_one (ss_ret se_bl)) sss_nil)
  (sss_cons (ss_set (i := 2) (by decide) sc_law.nd rfl (by first | exact Or.inl rfl | exact Or.inr rfl) (se_op os_add se_int (se_callO (i := 1) (ok_law_take T) (hr.mono (by decide)) (by rfl) T.g_law_take T.f_law_take_kp T.b_law_take rfl (by first | exact Or.inl rfl | exact Or.inr (Or.inl rfl) | exact Or.inr (Or.inr rfl)) (sa_cons se_int sa_nil))))
  (sss_cons (ss_set (i := 3) (by decide) sc_law.nd rfl (by first | exact Or.inl rfl | exact Or.inr rfl) (se_callO (i := 1) (ok_law_pick T) (hr.mono (by decide)) (by rfl) T.g_law_pick T.f_law_pick_kp T.b_law_pick rfl (by first | exact Or.inl rfl | exact Or.inr (Or.inl rfl) | exact Or.inr (Or.inr rfl)) (sa_cons (se_lst (sa_cons (se_op os_div (v_ 2) se_int) (sa_cons se_int (sa_cons (v_ 2) (sa_cons se_int (sa_cons (se_callO (i := 1) (ok_law_take T) (hr.mono (by decide)) (by rfl) T.g_law_take T.f_law_take_kp T.b_law_take rfl (by first | exact Or.inl rfl | exact Or.inr (Or.inl rfl) | exact Or.inr (Or.inr rfl)) (sa_cons (se_op os_add (v_ 2) se_int) sa_nil)) (sa_cons (se_callO (i := 1) (ok_law_take T) (hr.mono (by decide)) (by rfl) T.g_law_take T.f_law_take_kp T.b_law_take rfl (by first | exact Or.inl rfl | exact Or.inr (Or.inl rfl) | exact Or.inr (Or.inr rfl)) (sa_cons (se_op os_add (v_ 2) se_int) sa_nil)) sa_nil))))))) sa_nil)))
  (sss_one (ss_ret (se_and (se_call (ok_law_lot_right T) (hr.mono (by decide)) (by rfl) T.g_law_lot_right T.f_law_lot_right_kp T.b_law_lot_right (sa_cons (v_ 2) (sa_cons (se_callO (i := 1) (ok_law_lot T) (hr.mono (by decide)) (by rfl) T.g_law_lot T.f_law_lot_kp T.b_law_lot rfl (by first | exact Or.inl rfl | exact Or.inr (Or.inl rfl) | exact Or.inr (Or.inr rfl)) (sa_cons (v_ 2) (sa_cons (v_ 3) sa_nil))) sa_nil))) (se_and (se_callO (i := 1) (ok_law_told_right T) (hr.mono (by decide)) (by rfl) T.g_law_told_right T.f_law_told_right_kp T.b_law_told_right rfl (by first | exact Or.inl rfl | exact Or.inr (Or.inl rfl) | exact Or.inr (Or.inr rfl)) sa_nil) (se_one (se_callO (i := 1) (ok_law_refused_right T B) (hr.mono (by decide)) (by rfl) T.g_law_refused_right T.f_law_refused_right_kp T.b_law_refused_right rfl (by first | exact Or.inl rfl | exact Or.inr (Or.inl rfl) | exact Or.inr (Or.inr rfl)) sa_nil))))))))))))
end
end
end K12
/-! Turned from K14b.lean by tpl.py. -/
namespace K12
noncomputable section
open PySem PySem.Spec PyProof.Rows L2 Evl Sm
theorem kb_ii : kitB "int" "int" = some true := by decide +kernel
theorem kb_ib : kitB "int" "bool" = some false := by decide +kernel
theorem kb_ll : kitB "list" "list" = some true := by decide +kernel
theorem isi_ii (i : Int) : cIsi "Row" [.int i, .ty "int"] = some (.imm (.bl true)) := by simp [cIsi, tyN, kb_ii]
theorem isi_ib (i : Int) : cIsi "Row" [.int i, .ty "bool"] = some (.imm (.bl false)) := by simp [cIsi, tyN, kb_ib]
theorem isi_l (xs : List D) : cIsi "Row" [.lst xs, .tup [.ty "list", .ty "tuple"]] = some (.imm (.bl true)) := by simp [cIsi, tyN, tyNames, kitAnyB, kb_ll]
theorem is_integer_i (i : Int) : F_is_integer [.int i] = some (.imm (.bl true)) := by
  simp [F_is_integer, b_is_integer, isi_ii, isi_ib]
theorem is_listed_l (xs : List D) : F_is_listed [.lst xs] = some (.imm (.bl true)) := by
  simp [F_is_listed, b_is_listed, isi_l]
theorem all_true (ns : List Int) : cAll [.lst (ns.map fun _ => D.bl true)] = some (.imm (.bl true)) := by
  have := all_l (ns.map fun _ => true)
  rw [List.map_map] at this
  rw [show (ns.map fun _ => D.bl true) = ns.map (D.bl ∘ fun _ => true) from rfl, this]
  simp
theorem are_integers_l (ns : List Int) (h : ns.length ≤ 50000) : F_are_integers [.lst (il ns)] = some (.imm (.bl true)) := by
  have c := comp_gN (e := dCallP 1 F_is_integer (dCons (dVar 1) dNil)) (v := 1) (s := [some (.imm (.lst (il ns))), none]) (ns := ns) (fun _ => D.bl true) rfl fun i _ => by
    simp [is_integer_i]
  simp [F_are_integers, b_are_integers, is_listed_l, h, c, all_true]
/-! ### rows -/
def lotB (x : Int) : Bool := decide (x = 0 ∨ x = 1)
def rowNs : List Str := ["numbers", "many", "total", "is_lot", "marks"]
def rowVs (xs : List Int) : List D := [.tup (il xs), .int xs.length, .int xs.sum, .bl (xs.all lotB), .tup (il (marks 0 xs))]
def rowD (xs : List Int) : D := .ins "Row" rowNs (rowVs xs)
def rowS (xs : List Int) : SV := .ins "Row" rowNs (rowVs xs)
@[simp] theorem rowS_frz (xs : List Int) : (rowS xs).frz = rowD xs := rfl
@[simp] theorem varS_row (st : S) (i : Nat) (xs : List Int) : varS st i (rowS xs) = st.set i (some (.imm (rowD xs))) := (rfl)
@[simp] theorem rowS_own (xs : List Int) : (rowS xs).own = true := rfl
@[simp] theorem fld_numbers (xs : List Int) : oFld "Row" "numbers" (rowD xs) = some (.imm (.tup (il xs))) := (fld_ins ..).trans rfl
@[simp] theorem fld_many (xs : List Int) : oFld "Row" "many" (rowD xs) = some (.imm (.int xs.length)) := (fld_ins ..).trans rfl
@[simp] theorem fld_total (xs : List Int) : oFld "Row" "total" (rowD xs) = some (.imm (.int xs.sum)) := (fld_ins ..).trans rfl
@[simp] theorem fld_marks (xs : List Int) : oFld "Row" "marks" (rowD xs) = some (.imm (.tup (il (marks 0 xs)))) := (fld_ins ..).trans rfl
@[simp] theorem isi_row (xs : List Int) : cIsi "Row" [rowD xs, .cls "Row"] = some (.imm (.bl true)) := isi_ins ..
@[simp] theorem isr_row (xs : List Int) : cIsa isR_Row [rowD xs, .cls "Row"] = some (.imm (.bl true)) := (rfl)
theorem need_row_r (xs : List Int) (d : D) : F_need_row [rowD xs, d] = some (.imm .non) := by
  simp [F_need_row, b_need_row]
theorem is_within_n (i : Int) : F_is_within [.int i, .non, .non] = some (.imm (.bl true)) := by
  simp [F_is_within, b_is_within, is_integer_i]
theorem is_within_i (i j k : Int) (h : j ≤ i) (h' : i ≤ k) : F_is_within [.int i, .int j, .int k] = some (.imm (.bl true)) := by
  simp [F_is_within, b_is_within, is_integer_i, h, h']
theorem need_number_n (i : Int) (d : D) : F_need_number [.int i, d, .non, .non] = some (.imm .non) := by
  simp [F_need_number, b_need_number, is_within_n]
/-! ### making a row -/
@[simp] theorem put1 (y : D) : putD "numbers" y [] [] = ((["numbers"] : List Str), [y]) := rfl
@[simp] theorem put2 (a y : D) : putD "many" y ["numbers"] [a] = ((["numbers", "many"] : List Str), [a, y]) := rfl
@[simp] theorem put3 (a b y : D) : putD "total" y ["numbers", "many"] [a, b] = ((["numbers", "many", "total"] : List Str), [a, b, y]) := rfl
@[simp] theorem put4 (a b c y : D) : putD "is_lot" y ["numbers", "many", "total"] [a, b, c] = ((["numbers", "many", "total", "is_lot"] : List Str), [a, b, c, y]) := rfl
@[simp] theorem put5 (a b c d y : D) : putD "marks" y ["numbers", "many", "total", "is_lot"] [a, b, c, d] = ((["numbers", "many", "total", "is_lot", "marks"] : List Str), [a, b, c, d, y]) := rfl
theorem in_01 (i : Int) : oIn false (.int i) (.tup [.int 0, .int 1]) = some (.imm (.bl (lotB i))) := by
  have e : inV (.int i) [.int 0, .int 1] = lotB i := by
    unfold lotB
    by_cases h0 : i = 0
    · subst h0; rfl
    · by_cases h1 : i = 1
      · subst h1; rfl
      · have a : ¬ (0 = i) := fun e => h0 e.symm
        have b : ¬ (1 = i) := fun e => h1 e.symm
        simp [inV, eqV, h0, h1, a, b]
  show (match some [V.int 0, V.int 1] with | some vs => some (SV.imm (.bl (inV (.int i) vs))) | none => none) = _
  simp only [e]
def mP : D → Bool
  | .tup [.int _, .int x] => decide (x ≠ 0)
  | _ => false
def mF : D → D
  | .tup [.int i, _] => .int i
  | d => d
theorem enum_mem {xs : List Int} {d : D} (h : d ∈ enumD (il xs)) : ∃ i x : Int, d = .tup [.int i, .int x] := by
  unfold enumD at h
  obtain ⟨i, hi, e⟩ := List.mem_mapIdx.mp h
  exact ⟨i, xs[i]'(by simpa using hi), by rw [← e]; simp [il]⟩
theorem enum_marks (xs : List Int) : ((enumD (il xs)).filter mP).map mF = il (marks 0 xs) := by
  have key : ∀ (xs : List Int) (k : Nat), (((il xs).mapIdx fun (i : Nat) (d : D) => D.tup [.int ((i + k : Nat) : Int), d]).filter mP).map mF = il (marks (k : Int) xs) := by
    intro xs
    induction xs with
    | nil => intro k; rfl
    | cons x xs ih =>
      intro k
      have := ih (k + 1)
      rw [show il (x :: xs) = D.int x :: il xs from rfl, List.mapIdx_cons, List.filter_cons, marks]
      have e : (List.mapIdx (fun (i : Nat) (d : D) => D.tup [.int ((i + 1 + k : Nat) : Int), d]) (il xs)) = (List.mapIdx (fun (i : Nat) (d : D) => D.tup [.int ((i + (k + 1) : Nat) : Int), d]) (il xs)) := by
        congr 1; funext i d; rw [show i + 1 + k = i + (k + 1) by omega]
      rw [e]
      by_cases h : x = 0
      · subst h
        rw [if_neg (by simp [mP]), if_pos rfl, this]; rfl
      · rw [if_pos (by simp [mP, h]), if_neg h, List.map_cons, this]
        simp [mF, il]
  have := key xs 0
  simpa [enumD] using this
theorem init_row (xs : List Int) (h2 : 2 ≤ xs.length) (h24 : xs.length ≤ 24) : F_Rowx__initx_ (.ins "Row" [] []) [.lst (il xs)] = some (.imm .non, rowS xs) := by
  have hl : xs.length ≤ 50000 := by omega
  have i2 : (2 : Int) ≤ (xs.length : Int) := by omega
  have i24 : (xs.length : Int) ≤ 24 := by omega
  have c1 : ∀ s : SV, compD (gN 2) dYes (dOp (oIn false) (dVar 2) (dTup (dCons (dC (.int 0)) (dCons (dC (.int 1)) dNil)))) [2] (il xs) [some s, some (.imm (.lst (il xs))), none, none] [] = some ((xs.map fun x => D.bl (lotB x)), [some s, some (.imm (.lst (il xs))), none, none]) := fun s => comp_gN _ rfl fun i _ => by
    simp [in_01]
  have c2 : ∀ s : SV, compD (gT [3, 2]) (dB (dOp (oEq true) (dVar 2) (dC (.int 0)))) (dVar 3) [3, 2] (enumD (il xs)) [some s, some (.imm (.lst (il xs))), none, none] [] = some (((enumD (il xs)).filter mP).map mF, [some s, some (.imm (.lst (il xs))), none, none]) := fun s => comp_pure mP mF _ [] fun d hd => by
    obtain ⟨i, x, rfl⟩ := enum_mem hd
    simp [mP, mF]
    exact fun _ => ⟨_, _, ⟨rfl, rfl⟩, rfl, rfl⟩
  have a1 : cAll [.lst (xs.map fun x => D.bl (lotB x))] = some (.imm (.bl (xs.all lotB))) := by
    have := all_l (xs.map lotB)
    rw [List.map_map] at this
    rw [show (xs.map fun x => D.bl (lotB x)) = xs.map (D.bl ∘ lotB) from rfl, this, List.all_map]
    rfl
  have el : (enumD (il xs)).length = xs.length := by simp [enumD]
  simp [F_Rowx__initx_, b_Rowx__initx_, are_integers_l xs hl, i2, i24, hl, c1, c2, a1, enum_marks, el]
  rfl

/-! ### the methods -/
section
variable {n : Nat} {f g : Int → Int}
theorem make_tab (h2 : 2 ≤ n) (h24 : n ≤ 24) (f : Int → Int) : F_Rowx__initx_ (.ins "Row" [] []) [.lst (il (tab n f))] = some (.imm .non, rowS (tab n f)) :=
  init_row _ (by rw [tab_len]; exact h2) (by rw [tab_len]; exact h24)
theorem row_left_out (h2 : 2 ≤ n) (h24 : n ≤ 24) : F_Row_left_out [rowD (tab n f)] = some (rowS (tab n fun i => 1 - f i)) := by
  have c := comp_gI (e := dOp oSub (dC (.int 1)) (dVar 1)) (v := 1) (s := [some (.imm (rowD (tab n f))), none]) (ns := tab n f) (fun x => 1 - x) rfl fun i _ => by
    simp
  have l : n ≤ 50000 := by omega
  simp [F_Row_left_out, b_Row_left_out, c, tab_map, make_tab h2 h24, tab_len, l]
def aF : D → D
  | .tup [.int a, .int b] => .int (a + b)
  | d => d
theorem zip_mem : ∀ {xs ys : List Int} {d : D}, d ∈ zipD (il xs) (il ys) → ∃ a b : Int, d = .tup [.int a, .int b]
  | [], _, d, h => by simp [zipD, il] at h
  | _ :: _, [], d, h => by simp [zipD, il] at h
  | x :: xs, y :: ys, d, h => by
    rcases List.mem_cons.mp (show d ∈ D.tup [.int x, .int y] :: zipD (il xs) (il ys) from h) with h | h
    · exact ⟨x, y, h⟩
    · exact zip_mem h
theorem zip_aF : ∀ xs ys : List Int, (zipD (il xs) (il ys)).map aF = il (List.zipWith (fun a b => a + b) xs ys)
  | [], ys => by simp [zipD, il]
  | _ :: _, [] => by simp [zipD, il]
  | x :: xs, y :: ys => by
    rw [List.zipWith_cons_cons, show zipD (il (x :: xs)) (il (y :: ys)) = D.tup [.int x, .int y] :: zipD (il xs) (il ys) from rfl, List.map_cons, zip_aF xs ys]
    rfl
theorem zip_len (xs ys : List Int) : (zipD (il xs) (il ys)).length = min xs.length ys.length := by simp [zipD]
theorem turned_c (h2 : 2 ≤ n) (p : Per n f) (k : Int) : compD (gN 2) dYes (dOp oIx (dFldV "Row" "numbers" 0) (dOp oMod (dOp oSub (dVar 2) (dVar 1)) (dFldV "Row" "many" 0))) [2] (il (tab n fun i => i)) [some (.imm (rowD (tab n f))), some (.imm (.int k)), none] [] = some (il (tab n fun i => f (i - k)), [some (.imm (rowD (tab n f))), some (.imm (.int k)), none]) := by
  have hn : (0 : Int) < n := by omega
  rw [comp_gI (e := dOp oIx (dFldV "Row" "numbers" 0) (dOp oMod (dOp oSub (dVar 2) (dVar 1)) (dFldV "Row" "many" 0))) (v := 2) (s := [some (.imm (rowD (tab n f))), some (.imm (.int k)), none]) (ns := tab n fun i => i) (fun x => f (x - k)) rfl fun i _ => by
    have h0 := Int.emod_nonneg (i - k) (b := (n : Int)) (by omega)
    have h1 := Int.emod_lt_of_pos (i - k) (b := (n : Int)) hn
    have e := ixt (tab n f) ((i - k) % (n : Int)) h0 (by rw [tab_len]; exact h1)
    rw [tab_getD _ h0 h1, per_mod p (by omega)] at e
    simp [tab_len, (show 0 < n by omega), e], tab_map]
end
end
end K12
/-! The pen of this law: printed by pen.py. -/
namespace K12
noncomputable section
open PySem PySem.Spec PyProof.Rows L2 Evl Sm
def penS (cs : List Int) (at_ left : Int) : SV := .lst [.lst (il cs), .int at_, .int left]
def Bud (k : Nat) (p : SV) : Prop := ∃ (cs : List Int) (at_ left : Int), p = penS cs at_ left ∧ cs.length ≤ 62 ∧ 0 ≤ at_ ∧ at_ + k ≤ 100000
theorem Bud.own {k : Nat} {p : SV} (h : Bud k p) : p.own = true := by obtain ⟨_, _, _, rfl, _⟩ := h; rfl
theorem Bud.le {k k' : Nat} {p : SV} (h : Bud k p) (hk : k' ≤ k) : Bud k' p := by
  obtain ⟨cs, a, l, e, h1, h2, h3⟩ := h
  exact ⟨cs, a, l, e, h1, h2, by omega⟩
@[simp] theorem ix3_0 (a b c : D) : oIx (.lst [a, b, c]) (.int 0) = some (.imm a) := (rfl)
@[simp] theorem ix3_1 (a b c : D) : oIx (.lst [a, b, c]) (.int 1) = some (.imm b) := (rfl)
@[simp] theorem ix3_2 (a b c : D) : oIx (.lst [a, b, c]) (.int 2) = some (.imm c) := (rfl)
@[simp] theorem ixN3_1 : ixN 3 1 = some 1 := (rfl)
@[simp] theorem ixN3_2 : ixN 3 2 = some 2 := (rfl)
theorem ten18 : oPow (.int 10) (.int 18) = some (.imm (.int 1000000000000000000)) := pow_i (sml (by decide)) 18 (by decide)
@[simp] theorem eq_nil (cs : List Int) : oEq true (.lst (il cs)) (.lst []) = some (.imm (.bl (!decide (cs = [])))) := eq_ll true cs []
def dr2 : DS := (dSeq (dSet 5 (dOp oMod (dCB cInt (dCons (dOp oPow (dOp oAdd (dOp oAdd (dOp oMul (dVar 5) (dOp oAdd (dOp oMul (dC (.int 2)) (dVar 3)) (dC (.int 2003)))) (dOp oMul (dOp oMul (dC (.int 62003)) (dVar 3)) (dVar 3))) (dC (.int 92003))) (dC (.int 3))) dNil)) (dC (.int 2147483549))))
  (dRet (dOp oMod (dCB cInt (dCons (dOp oDiv (dVar 5) (dC (.int 64))) dNil)) (dVar 1))))
def dr1 : DS := (dSeq (dSet 5 (dOp oMod (dCB cInt (dCons (dOp oPow (dOp oAdd (dOp oAdd (dOp oMod (dCB cInt (dCons (dVar 4) dNil)) (dC (.int 2147483587))) (dOp oMul (dC (.int 72019)) (dVar 3))) (dC (.int 4271))) (dC (.int 5))) dNil)) (dC (.int 2147483629)))) dr2)
def dr0 : DS := (dSeq (dIfS (dAnd (dB (dOp (oInt fun i j => decide (i < j)) (dVar 3) (dCB cLen (dCons (dIxV 0 (dC (.int 0))) dNil)))) (dB (dOp (oInt fun i j => decide (j ≤ i)) (dCB cAbs (dCons (dVar 4) dNil)) (dOp oPow (dC (.int 10)) (dC (.int 18)))))) (dSeq (dSet 2 (dOp oAdd (dOp oMul (dC (.int 2)) (dOp oSub (dCB cAbs (dCons (dVar 4) dNil)) (dOp oPow (dC (.int 10)) (dC (.int 18))))) (dCB cInt (dCons (dOp (oInt fun i j => decide (i < j)) (dVar 4) (dC (.int 0))) dNil))))
  (dSeq (dSetIx 0 (dOp oDiv (dCB cInt (dCons (dVar 2) dNil)) (dVar 1)) (dC (.int 2)))
  (dRet (dOp oMod (dCB cInt (dCons (dVar 2) dNil)) (dVar 1))))) dNext) dr1)
theorem s2 : Sml 2 := sml (by decide)
theorem sK1 : Sml 62003 := sml (by decide)
theorem sK3 : Sml 72019 := sml (by decide)
theorem sK6 : Sml 62003 := sml (by decide)
section
variable {m : Int}
theorem dr2_ev (hm : 0 < m) (P : Option SV) (c at_ M : Int) (h0 : 0 ≤ at_) (h1 : at_ ≤ 100000) (m0 : 0 ≤ M) (m1 : M < 2147483629) :
    ∃ (r : Int) (s : S), dr2 [P, some (.imm (.int m)), none, some (.imm (.int at_)), some (.imm (.int c)), some (.imm (.int M))] = some (.rt (.imm (.int r)), P :: s) ∧ 0 ≤ r ∧ r < m := by
  have sa : Sml at_ := sml (by omega)
  have sM : Sml M := sml (by omega)
  have b1 : 0 ≤ M * (2 * at_ + 2003) := Int.mul_nonneg m0 (by omega)
  have b2 : M * (2 * at_ + 2003) ≤ 2147483629 * 202003 := Int.mul_le_mul (by omega) (by omega) (by omega) (by omega)
  have b3 : 0 ≤ 62003 * at_ * at_ := Int.mul_nonneg (by omega) h0
  have b4 : 62003 * at_ * at_ ≤ 6200300000 * 100000 := Int.mul_le_mul (by omega) (by omega) (by omega) (by omega)
  have sb : Sml (M * (2 * at_ + 2003) + 62003 * at_ * at_ + 92003) := sml (by omega)
  have e1 := pow_i sb 3 (by decide)
  have e2 := fun x => div_i x 64 (by decide)
  obtain ⟨B, hB⟩ : ∃ B, B = M * (2 * at_ + 2003) + 62003 * at_ * at_ + 92003 := ⟨_, rfl⟩
  rw [← hB] at e1
  refine ⟨(B ^ 3 % 2147483549) / 64 % m, [some (.imm (.int m)), none, some (.imm (.int at_)), some (.imm (.int c)), some (.imm (.int (B ^ 3 % 2147483549)))], ?_, Int.emod_nonneg _ (by omega), Int.emod_lt_of_pos _ hm⟩
  simp [dr2, mul_i1 sM, mul_i1 s2, mul_i1 sK6, mul_i2 sa, ← hB, e1, e2, hm]
theorem dr1_ev (hm : 0 < m) (P : Option SV) (c at_ : Int) (h0 : 0 ≤ at_) (h1 : at_ ≤ 100000) :
    ∃ (r : Int) (s : S), dr1 [P, some (.imm (.int m)), none, some (.imm (.int at_)), some (.imm (.int c)), none] = some (.rt (.imm (.int r)), P :: s) ∧ 0 ≤ r ∧ r < m := by
  have c0 := Int.emod_nonneg c (b := 2147483587) (by decide)
  have c1 := Int.emod_lt_of_pos c (b := 2147483587) (by decide)
  have sb : Sml (c % 2147483587 + 72019 * at_ + 4271) := sml (by omega)
  have e1 := pow_i sb 5 (by decide)
  obtain ⟨B, hB⟩ : ∃ B, B = c % 2147483587 + 72019 * at_ + 4271 := ⟨_, rfl⟩
  rw [← hB] at e1
  obtain ⟨r, s, e, hr⟩ := dr2_ev hm P c at_ (B ^ 5 % 2147483629) h0 h1 (Int.emod_nonneg _ (by decide)) (Int.emod_lt_of_pos _ (by decide))
  refine ⟨r, s, ?_, hr⟩
  simp [dr1, mul_i1 sK3, ← hB, e1, e]
theorem dr0_ev {k : Nat} (hm : 0 < m ∧ m < 1073741824) (cs : List Int) (at_ l c : Int) (hl : cs.length ≤ 62) (h0 : 0 ≤ at_) (h1 : at_ + 1 + k ≤ 100000) :
    ∃ (r : Int) (p : SV) (s : S), dr0 [some (penS cs (at_ + 1) l), some (.imm (.int m)), none, some (.imm (.int at_)), some (.imm (.int c)), none] = some (.rt (.imm (.int r)), some p :: s) ∧ 0 ≤ r ∧ r < m ∧ Bud k p := by
  obtain ⟨A, hA⟩ : ∃ A, cAbs [.int c] = some (.imm (.int A)) := ⟨_, rfl⟩
  obtain ⟨N, hN⟩ : ∃ N, cInt [.bl (decide (c < 0))] = some (.imm (.int N)) := ⟨_, rfl⟩
  by_cases g1 : at_ < (cs.length : Int)
  · by_cases g2 : (1000000000000000000 : Int) ≤ A
    · have dv := div_i (2 * (A - 1000000000000000000) + N) m hm
      refine ⟨(2 * (A - 1000000000000000000) + N) % m, penS cs (at_ + 1) ((2 * (A - 1000000000000000000) + N) / m), [some (.imm (.int m)), some (.imm (.int (2 * (A - 1000000000000000000) + N))), some (.imm (.int at_)), some (.imm (.int c)), none], ?_, Int.emod_nonneg _ (by omega), Int.emod_lt_of_pos _ hm.1, ⟨cs, at_ + 1, _, rfl, hl, by omega, by omega⟩⟩
      simp [dr0, penS, -abs_i, -int_b, hA, hN, ten18, g1, g2, mul_i1 s2, dv, hm.1]
    · obtain ⟨r, s, e, hr⟩ := dr1_ev hm.1 (some (penS cs (at_ + 1) l)) c at_ h0 (by omega)
      refine ⟨r, penS cs (at_ + 1) l, s, ?_, hr.1, hr.2, ⟨cs, at_ + 1, l, rfl, hl, by omega, by omega⟩⟩
      rw [← e]
      simp [dr0, penS, -abs_i, -int_b, hA, hN, ten18, g1, g2]
  · obtain ⟨r, s, e, hr⟩ := dr1_ev hm.1 (some (penS cs (at_ + 1) l)) c at_ h0 (by omega)
    refine ⟨r, penS cs (at_ + 1) l, s, ?_, hr.1, hr.2, ⟨cs, at_ + 1, l, rfl, hl, by omega, by omega⟩⟩
    rw [← e]
    simp [dr0, penS, -abs_i, -int_b, hA, hN, ten18, g1]
theorem draw_ev {k : Nat} {p : SV} (B : Bud (k + 1) p) (hm : 0 < m ∧ m < 1073741824) :
    ∃ (r : Int) (p' : SV), F_law_take p [.int m] = some (.imm (.int r), p') ∧ 0 ≤ r ∧ r < m ∧ Bud k p' := by
  obtain ⟨cs, at_, l, rfl, hl, h0, h1⟩ := B
  have eb : b_law_take = (dSeq (dIfS (dB (dOp (oInt fun i j => decide (j < i)) (dIxV 0 (dC (.int 2))) (dC (.int 0)))) (dSeq (dSet 2 (dIxV 0 (dC (.int 2))))
  (dSeq (dSetIx 0 (dOp oDiv (dCB cInt (dCons (dVar 2) dNil)) (dVar 1)) (dC (.int 2)))
  (dRet (dOp oMod (dCB cInt (dCons (dVar 2) dNil)) (dVar 1))))) dNext) (dSeq (dSet 3 (dIxV 0 (dC (.int 1)))) (dSeq (dSetIx 0 (dOp oAdd (dVar 3) (dC (.int 1))) (dC (.int 1))) (dSeq (dSet 4 (dOp oAdd (dOp oMul (dC (.int 62003)) (dVar 3)) (dC (.int 4271)))) (dSeq (dIfS (dB (dOp (oEq true) (dIxV 0 (dC (.int 0))) (dLst dNil))) (dSet 4 (dOp oIx (dIxV 0 (dC (.int 0))) (dOp oMod (dCB cInt (dCons (dVar 3) dNil)) (dCB cLen (dCons (dIxV 0 (dC (.int 0))) dNil))))) dNext) dr0))))) := rfl
  by_cases hp : 0 < l
  · have dv := div_i l m hm
    refine ⟨l % m, penS cs at_ (l / m), ?_, Int.emod_nonneg _ (by omega), Int.emod_lt_of_pos _ hm.1, ⟨cs, at_, _, rfl, hl, h0, by omega⟩⟩
    simp [F_law_take, b_law_take, penS, hp, hm.1, dv]
  · by_cases hc : cs = []
    · obtain ⟨r, p, s, e, a, b, B⟩ := dr0_ev (k := k) hm cs at_ l (62003 * at_ + 4271) hl h0 (by omega)
      refine ⟨r, p, ?_, a, b, B⟩
      simp only [penS] at e
      simp [F_law_take, eb, penS, hp, hc, mul_i1 sK1]
      subst hc
      simp [e, B.own]
    · have hn : 0 < cs.length := List.length_pos_iff.mpr hc
      have n0 := Int.emod_nonneg at_ (b := (cs.length : Int)) (by omega)
      have n1 := Int.emod_lt_of_pos at_ (b := (cs.length : Int)) (by omega)
      have ix := ixl cs _ n0 n1
      obtain ⟨r, p, s, e, a, b, B⟩ := dr0_ev (k := k) hm cs at_ l (gt cs (at_ % (cs.length : Int))) hl h0 (by omega)
      refine ⟨r, p, ?_, a, b, B⟩
      simp only [penS] at e
      simp [F_law_take, eb, penS, hp, hc, mul_i1 sK1, hn, ix, e, B.own]
end
theorem pick_ev {k : Nat} {p : SV} (B : Bud (k + 1) p) (xs : List Int) (h0 : xs ≠ []) (h1 : xs.length < 1000) :
    ∃ (r : Int) (p' : SV), F_law_pick p [.lst (il xs)] = some (.imm (.int r), p') ∧ r ∈ xs ∧ Bud k p' := by
  have hl : 0 < xs.length := List.length_pos_iff.mpr h0
  obtain ⟨r, p', e, r0, r1, B'⟩ := draw_ev (m := (xs.length : Int)) B ⟨by omega, by omega⟩
  have ix := ixl xs r r0 r1
  refine ⟨gt xs r, p', ?_, ?_, B'⟩
  · simp [F_law_pick, b_law_pick, B.own, e, B'.own, ix]
  · unfold gt
    rw [List.getD_eq_getElem?_getD, List.getElem?_eq_getElem (by omega)]
    exact List.getElem_mem _
theorem cut_lim (ns : List Int) : cutD (il ns) none (some 60) = il (ns.take 60) := by
  unfold Sm.cutD
  have : HT.sIx (il ns).length (il ns).length (some 60) = min 60 ns.length := by rw [il_len]; exact HT.sIx_nat _ _ 60
  rw [this, HT.sIx_none, List.drop_zero, Nat.sub_zero, il, il, ← List.map_take]
  congr 1
  rw [List.take_eq_take_iff]
  omega
theorem pen_ev (ns : List Int) : ∃ p, F_law_hand [.scr ns] = some p ∧ Bud 90000 p := by
  refine ⟨penS (ns.take 60) 0 0, ?_, ns.take 60, 0, 0, rfl, by rw [List.length_take]; omega, by decide, by decide⟩
  have c := comp_gI (e := dCB cInt (dCons (dVar 1) dNil)) (v := 1) (s := [some (.imm (.scr ns)), none]) (ns := ns.take 60) (fun x => x) rfl fun i _ => by simp
  simp only [List.map_id'] at c
  have l : min 60 ns.length ≤ 50000 := by omega
  simp [F_law_hand, b_law_hand, cut_lim, c, l, penS]
end
end K12
/-! Turned from K17r.lean by tpl.py. -/
namespace K12
noncomputable section
open PySem PySem.Spec PyProof.Rows L2 Evl Sm
section
variable {n : Nat} {ms : List Int}
def ftB : DS := (dSeq (dIfS (dB (dDIn false 1 (dVar 2))) (dRet (dTake 2)) dNext) (dDPut 1 (dC (.bl true)) (dVar 2)))
theorem ft_loop (A : Option SV) : ∀ (xs pre : List Int) (a2 : Option SV), (pre ++ xs).Nodup → (pre ++ xs).length ≤ 50000 →
    ∃ a2', loopD (gN 2) ftB (il xs) [A, some (.dK (pre.map Sum.inl) (pre.map fun _ => D.bl true)), a2] = some (.nx, [A, some (.dK ((pre ++ xs).map Sum.inl) ((pre ++ xs).map fun _ => D.bl true)), a2'])
  | [], pre, a2, _, _ => ⟨a2, by rw [loop_nil, List.append_nil]⟩
  | x :: xs, pre, a2, hn, hl => by
    have e0 : pre ++ x :: xs = (pre ++ [x]) ++ xs := by simp
    have hx : x ∉ pre := by
      intro h
      have := (List.nodup_append.mp hn).2.2 x h x List.mem_cons_self
      exact this rfl
    obtain ⟨a2', e⟩ := ft_loop A xs (pre ++ [x]) (some (.imm (.int x))) (by rw [← e0]; exact hn) (by rw [← e0]; exact hl)
    refine ⟨a2', ?_⟩
    rw [e0, ← e, loop_il]
    have h1 : pre.length < 100000 := by simp at hl; omega
    have h2 : valD (pre.map Sum.inl) (pre.map fun _ => D.bl true) (.inl x) = none := valD_none pre _ hx
    have h3 : hasK (pre.map Sum.inl) (.inl x) = false := hasK_none hx
    simp [ftB, dictAt, h1, h2, putKs, putDs, h3]
theorem first_twice_ev (hn : ms.Nodup) (hl : ms.length ≤ 50000) : F_first_twice [.lst (il ms)] = some (.imm .non) := by
  have eb : b_first_twice = (dSeq (dSet 1 dNewK) (dSeq (dFor (dSeqI (dVar 0)) (gN 2) ftB) (dRet (dC .non)))) := rfl
  obtain ⟨a2, e⟩ := ft_loop (some (.imm (.lst (il ms)))) ms [] none (by simpa using hn) (by simpa using hl)
  simp only [List.map_nil, List.nil_append] at e
  simp [F_first_twice, eb, e]
def ofB : DS := (dIfS (dNot (dB (dCallP 3 F_is_within (dCons (dVar 2) (dCons (dC (.int 0)) (dCons (dOp oSub (dVar 0) (dC (.int 1))) dNil)))))) dNo dNext)
theorem of_loop (A1 A3 : Option SV) : ∀ (xs : List Int) (a2 : Option SV), (∀ x ∈ xs, 0 ≤ x ∧ x < (n : Int)) → ∃ a2', loopD (gN 2) ofB (il xs) [some (.imm (.int n)), A1, a2, A3] = some (.nx, [some (.imm (.int n)), A1, a2', A3])
  | [], a2, _ => ⟨a2, rfl⟩
  | x :: xs, a2, h => by
    obtain ⟨a2', e⟩ := of_loop A1 A3 xs (some (.imm (.int x))) fun y hy => h y (List.mem_cons_of_mem _ hy)
    refine ⟨a2', ?_⟩
    rw [← e, loop_il]
    have := h x List.mem_cons_self
    have w := is_within_i x 0 ((n : Int) - 1) this.1 (by omega)
    simp [ofB, w]
theorem row_of (h2 : 2 ≤ n) (h24 : n ≤ 24) (hn : ms.Nodup) (hm : ∀ m ∈ ms, 0 ≤ m ∧ m < (n : Int)) : F_Row_of [.int n, .lst (il ms)] = some (rowS (tab n (lotF n ms))) := by
  have hl := len_in hn hm
  have nm : F_need_many [.int n] = some (.imm .non) := by
    simp [F_need_many, b_need_many, F_need_number, b_need_number, is_within_i (n : Int) 2 24 (by omega) (by omega)]
  obtain ⟨a2, e⟩ := of_loop (n := n) (some (.imm (.lst (il ms)))) none ms none hm
  have ft := first_twice_ev hn (by omega)
  have eb : b_Row_of = (dSeq (dDrop (dCallP 1 F_need_many (dCons (dVar 0) dNil)))
    (dSeq (dIfS (dNot (dB (dCallP 1 F_is_listed (dCons (dVar 1) dNil)))) dNo dNext)
    (dSeq (dFor (dSeqI (dVar 1)) (gN 2) ofB)
    (dSeq (dSet 3 (dCallP 1 F_first_twice (dCons (dVar 1) dNil)))
    (dSeq (dIfS (dB (dOp (oIs true) (dVar 3) (dC .non))) dNo dNext)
    (dRet (dMake "Row" 1 F_Rowx__initx_ (dCons (dLc (dRng1 (dCons (dVar 0) dNil)) (gN 2) dYes (dCB cInt (dCons (dOp (oIn false) (dVar 2) (dVar 1)) dNil)) [2]) dNil)))))))) := rfl
  have c := comp_gI (e := (dCB cInt (dCons (dOp (oIn false) (dVar 2) (dVar 1)) dNil))) (v := 2) (s := [some (.imm (.int n)), some (.imm (.lst (il ms))), none, some (.imm .non)]) (ns := tab n fun i => i) (fun i => if i ∈ ms then 1 else 0) rfl fun i hi => by
    by_cases q : i ∈ ms <;> simp [q]
  rw [show ((tab n fun i => i).map fun i => if i ∈ ms then (1 : Int) else 0) = tab n (lotF n ms) by rw [tab_map]; exact tab_lot n ms] at c
  have r1 := fun s => rng1_nat n s (show n ≤ 1000000 by omega)
  have it := make_tab h2 h24 (lotF n ms)
  simp [F_Row_of, eb, nm, is_listed_l, e, ft, r1, tab_len, show n ≤ 50000 by omega, c, it]
end
end
end K12
/-! Turned from K17e.lean by tpl.py. -/
namespace K12
noncomputable section
open PySem PySem.Spec PyProof.Rows L2 Evl Sm
/-! ### a row of a tuple -/
theorem kb_tl : kitB "tuple" "list" = some false := by decide +kernel
theorem kb_tt : kitB "tuple" "tuple" = some true := by decide +kernel
theorem isi_t (xs : List D) : cIsi "Row" [.tup xs, .tup [.ty "list", .ty "tuple"]] = some (.imm (.bl true)) := by simp [cIsi, tyN, tyNames, kitAnyB, kb_tl, kb_tt]
theorem is_listed_t (xs : List D) : F_is_listed [.tup xs] = some (.imm (.bl true)) := by
  simp [F_is_listed, b_is_listed, isi_t]
theorem are_integers_t (ns : List Int) (h : ns.length ≤ 50000) : F_are_integers [.tup (il ns)] = some (.imm (.bl true)) := by
  have c := comp_gN (e := dCallP 1 F_is_integer (dCons (dVar 1) dNil)) (v := 1) (s := [some (.imm (.tup (il ns))), none]) (ns := ns) (fun _ => D.bl true) rfl fun i _ => by
    simp [is_integer_i]
  simp [F_are_integers, b_are_integers, is_listed_t, h, c, all_true]
theorem init_row_t (xs : List Int) (h2 : 2 ≤ xs.length) (h24 : xs.length ≤ 24) : F_Rowx__initx_ (.ins "Row" [] []) [.tup (il xs)] = some (.imm .non, rowS xs) := by
  have hl : xs.length ≤ 50000 := by omega
  have i2 : (2 : Int) ≤ (xs.length : Int) := by omega
  have i24 : (xs.length : Int) ≤ 24 := by omega
  have c1 : ∀ s : SV, compD (gN 2) dYes (dOp (oIn false) (dVar 2) (dTup (dCons (dC (.int 0)) (dCons (dC (.int 1)) dNil)))) [2] (il xs) [some s, some (.imm (.tup (il xs))), none, none] [] = some ((xs.map fun x => D.bl (lotB x)), [some s, some (.imm (.tup (il xs))), none, none]) := fun s => comp_gN _ rfl fun i _ => by
    simp [in_01]
  have c2 : ∀ s : SV, compD (gT [3, 2]) (dB (dOp (oEq true) (dVar 2) (dC (.int 0)))) (dVar 3) [3, 2] (enumD (il xs)) [some s, some (.imm (.tup (il xs))), none, none] [] = some (((enumD (il xs)).filter mP).map mF, [some s, some (.imm (.tup (il xs))), none, none]) := fun s => comp_pure mP mF _ [] fun d hd => by
    obtain ⟨i, x, rfl⟩ := enum_mem hd
    simp [mP, mF]
    exact fun _ => ⟨_, _, ⟨rfl, rfl⟩, rfl, rfl⟩
  have a1 : cAll [.lst (xs.map fun x => D.bl (lotB x))] = some (.imm (.bl (xs.all lotB))) := by
    have := all_l (xs.map lotB)
    rw [List.map_map] at this
    rw [show (xs.map fun x => D.bl (lotB x)) = xs.map (D.bl ∘ lotB) from rfl, this, List.all_map]
    rfl
  have el : (enumD (il xs)).length = xs.length := by simp [enumD]
  simp [F_Rowx__initx_, b_Rowx__initx_, are_integers_t xs hl, i2, i24, hl, c1, c2, a1, enum_marks, el]
  rfl
section
variable {n : Nat} {f g : Int → Int}
def Bnd (n : Nat) (f : Int → Int) : Prop := ∀ i : Int, 0 ≤ i → i < n → Sml (f i)
theorem make_tup (h2 : 2 ≤ n) (h24 : n ≤ 24) (f : Int → Int) : F_Rowx__initx_ (.ins "Row" [] []) [.tup (il (tab n f))] = some (.imm .non, rowS (tab n f)) :=
  init_row_t _ (by rw [tab_len]; exact h2) (by rw [tab_len]; exact h24)
/-! ### mirrored -/
/-! ### stretched -/
end
end
end K12
/-! Turned from K17f.lean by tpl.py. -/
namespace K12
noncomputable section
open PySem PySem.Spec PyProof.Rows L2 Evl Sm
section
variable {n : Nat} {f g : Int → Int}
/-! ### spans -/
def mF2 : D → D
  | .tup [.int a, .int b] => .int (a * b)
  | d => d
theorem zip_mF2 : ∀ xs ys : List Int, (zipD (il xs) (il ys)).map mF2 = il (List.zipWith (fun a b => a * b) xs ys)
  | [], ys => by simp [zipD, il]
  | _ :: _, [] => by simp [zipD, il]
  | x :: xs, y :: ys => by
    rw [List.zipWith_cons_cons, show zipD (il (x :: xs)) (il (y :: ys)) = D.tup [.int x, .int y] :: zipD (il xs) (il ys) from rfl, List.map_cons, zip_mF2 xs ys]
    rfl
theorem zip_memB : ∀ {xs ys : List Int} {d : D}, d ∈ zipD (il xs) (il ys) → ∃ a b : Int, d = .tup [.int a, .int b] ∧ a ∈ xs ∧ b ∈ ys
  | [], _, d, h => by simp [zipD, il] at h
  | _ :: _, [], d, h => by simp [zipD, il] at h
  | x :: xs, y :: ys, d, h => by
    rcases List.mem_cons.mp (show d ∈ D.tup [.int x, .int y] :: zipD (il xs) (il ys) from h) with h | h
    · exact ⟨x, y, h, List.mem_cons_self .., List.mem_cons_self ..⟩
    · obtain ⟨a, b, e, h1, h2⟩ := zip_memB h
      exact ⟨a, b, e, List.mem_cons_of_mem _ h1, List.mem_cons_of_mem _ h2⟩
theorem cut_hi (xs : List Int) (k : Nat) (hk : k ≤ xs.length) : cutD (il xs) (some (k : Int)) none = il (xs.drop k) := by
  unfold Sm.cutD
  have : HT.sIx (il xs).length 0 (some (k : Int)) = k := by rw [il_len, HT.sIx_nat]; omega
  rw [this, HT.sIx_none, il, il, List.map_drop]
  rw [List.take_of_length_le (by simp)]
theorem cut_lo (xs : List Int) (k : Nat) (hk : k ≤ xs.length) : cutD (il xs) none (some (k : Int)) = il (xs.take k) := by
  unfold Sm.cutD
  have : HT.sIx (il xs).length (il xs).length (some (k : Int)) = k := by rw [il_len, HT.sIx_nat]; omega
  rw [this, HT.sIx_none, List.drop_zero, Nat.sub_zero, il, il, List.map_take]
theorem moved_tab (p : Per n f) (k : Nat) (hk : k < n) : (tab n f).drop k ++ (tab n f).take k = tab n fun i => f (i + k) := by
  apply List.ext_getElem?
  intro i
  by_cases h : i < n
  · rw [tab_get h, List.getElem?_append, List.length_drop, tab_len]
    by_cases q : i < n - k
    · rw [if_pos q, List.getElem?_drop, tab_get (by omega)]
      congr 2
      push_cast
      omega
    · rw [if_neg q, List.getElem?_take, if_pos (by omega), tab_get (by omega)]
      have := p ((i - (n - k) : Nat) : Int)
      rw [← this]
      congr 2
      omega
  · rw [List.getElem?_eq_none (by rw [List.length_append, List.length_drop, List.length_take, tab_len]; omega), List.getElem?_eq_none (by rw [tab_len]; omega)]
theorem cr_sum (p : Per n f) (q : Per n g) (k : Int) : (List.zipWith (fun a b => a * b) (tab n f) (tab n fun i => g (i + k))).sum = cr n f g k := by
  rw [tab_zip, sum_tab, cr_eq p q]
theorem tab_bnd (b : Bnd n f) {x : Int} (h : x ∈ tab n f) : Sml x := by
  obtain ⟨k, hk, rfl⟩ := tab_mem h
  exact b k (by omega) (by omega)
def acB : DS := (dSeq (dSet 5 (dOp oAdd (dSl (dVar 1) (.at_ (dVar 4)) .no) (dSl (dVar 1) .no (.at_ (dVar 4)))))
  (dDrop (dApp 3 (dCB cSum (dCons (dLc (dZip (dCons (dVar 0) (dCons (dVar 5) dNil))) (gT [6, 7]) dYes (dOp oMul (dVar 6) (dVar 7)) [6, 7]) dNil)))))
@[simp] theorem sl_t (lo hi : Option Int) (ns : List D) : oSl lo hi (.tup ns) = some (.imm (.tup (cutD ns lo hi))) := (rfl)
theorem add_t (xs ys : List Int) (h : xs.length + ys.length ≤ 100000) : oAdd (.tup (il xs)) (.tup (il ys)) = some (.imm (.tup (il (xs ++ ys)))) := by
  rw [show oAdd (.tup (il xs)) (.tup (il ys)) = if (il xs).length + (il ys).length ≤ 100000 then some (.imm (.tup (il xs ++ il ys))) else none from rfl, if_pos (by rw [il_len, il_len]; exact h), il_app]
@[simp ↓] theorem ap_App (i : Nat) (f : DE) (st : S) : dApp i f st = match st[i]? with
  | some (some (.lst _)) => (match f st with
    | none => none
    | some (x, s1) => match s1[i]? with
      | some (some (.lst ds)) => if ds.length < 100000 then some (.imm .non, s1.set i (some (.lst (ds ++ [x.frz])))) else none
      | _ => none)
  | _ => none := (rfl)
theorem ac_step (h24 : n ≤ 24) (pf : Per n f) (pg : Per n g) (b : Bnd n f) (fd : List Int) (hl : fd.length ≤ 100) (k : Nat) (hk : k < n) (a5 : Option SV) :
    acB [some (.imm (.tup (il (tab n f)))), some (.imm (.tup (il (tab n g)))), some (.imm (.int n)), some (.lst (il fd)), some (.imm (.int k)), a5, none, none] =
      some (.nx, [some (.imm (.tup (il (tab n f)))), some (.imm (.tup (il (tab n g)))), some (.imm (.int n)), some (.lst (il (fd ++ [cr n f g k]))), some (.imm (.int k)), some (.imm (.tup (il (tab n fun i => g (i + k))))), none, none]) := by
  have e1 := cut_hi (tab n g) k (by rw [tab_len]; omega)
  have e2 := cut_lo (tab n g) k (by rw [tab_len]; omega)
  have e3 := add_t ((tab n g).drop k) ((tab n g).take k) (by rw [List.length_drop, List.length_take, tab_len]; omega)
  rw [moved_tab pg k hk] at e3
  have c : ∀ a2 a3 a4 : Option SV, compD (gT [6, 7]) dYes (dOp oMul (dVar 6) (dVar 7)) [6, 7] (zipD (il (tab n f)) (il (tab n fun i => g (i + k)))) [some (.imm (.tup (il (tab n f)))), some (.imm (.tup (il (tab n g)))), a2, a3, a4, some (.imm (.tup (il (tab n fun i => g (i + k))))), none, none] [] = some (il (List.zipWith (fun a b => a * b) (tab n f) (tab n fun i => g (i + k))), [some (.imm (.tup (il (tab n f)))), some (.imm (.tup (il (tab n g)))), a2, a3, a4, some (.imm (.tup (il (tab n fun i => g (i + k))))), none, none]) := fun a2 a3 a4 => by
    rw [← zip_mF2]
    refine comp_map mF2 _ fun d hd => ?_
    obtain ⟨a, b', rfl, ha, _⟩ := zip_memB hd
    simp [mul_i1 (tab_bnd b ha)]
    exact ⟨_, _, ⟨rfl, rfl⟩, rfl, rfl⟩
  have l : n ≤ 50000 := by omega
  have l2 : fd.length < 100000 := by omega
  have ea : il fd ++ [D.int (cr n f g k)] = il (fd ++ [cr n f g k]) := il_app fd [cr n f g k]
  simp [acB, e1, e2, e3, c, zip_len, tab_len, l, l2, cr_sum pf pg, ea]
theorem ac_loop (h24 : n ≤ 24) (pf : Per n f) (pg : Per n g) (b : Bnd n f) : ∀ (ks : List Nat) (fd : List Int) (a4 a5 : Option SV), fd.length + ks.length ≤ 100 → (∀ k ∈ ks, k < n) →
    ∃ a4' a5', loopD (gN 4) acB (il (ks.map fun (k : Nat) => (k : Int))) [some (.imm (.tup (il (tab n f)))), some (.imm (.tup (il (tab n g)))), some (.imm (.int n)), some (.lst (il fd)), a4, a5, none, none] =
      some (.nx, [some (.imm (.tup (il (tab n f)))), some (.imm (.tup (il (tab n g)))), some (.imm (.int n)), some (.lst (il (fd ++ ks.map fun (k : Nat) => cr n f g k))), a4', a5', none, none])
  | [], fd, a4, a5, _, _ => ⟨a4, a5, by simp [il, loopD]⟩
  | k :: ks, fd, a4, a5, hl, hk => by
    have st := ac_step h24 pf pg b fd (by simp at hl; omega) k (hk k (List.mem_cons_self ..)) a5
    obtain ⟨x, y, e⟩ := ac_loop h24 pf pg b ks (fd ++ [cr n f g k]) (some (.imm (.int k))) (some (.imm (.tup (il (tab n fun i => g (i + k)))))) (by simp at hl ⊢; omega) fun j hj => hk j (List.mem_cons_of_mem _ hj)
    refine ⟨x, y, ?_⟩
    rw [List.map_cons, loop_il, List.map_cons, show fd ++ cr n f g k :: ks.map (fun k : Nat => cr n f g k) = (fd ++ [cr n f g k]) ++ ks.map (fun k : Nat => cr n f g k) by simp, ← e]
    simp only [ap_gN, List.set_cons_succ, List.set_cons_zero, st]
theorem across_ev (h24 : n ≤ 24) (pf : Per n f) (pg : Per n g) (b : Bnd n f) : F_sums_across [.tup (il (tab n f)), .tup (il (tab n g))] = some (.imm (.tup (il (tab n (cr n f g))))) := by
  obtain ⟨x, y, e⟩ := ac_loop h24 pf pg b (List.range n) [] none none (by simp; omega) fun k hk => List.mem_range.mp hk
  have e' : loopD (gN 4) (dSeq (dSet 5 (dOp oAdd (dSl (dVar 1) (.at_ (dVar 4)) .no) (dSl (dVar 1) .no (.at_ (dVar 4)))))
  (dDrop (dApp 3 (dCB cSum (dCons (dLc (dZip (dCons (dVar 0) (dCons (dVar 5) dNil))) (gT [6, 7]) dYes (dOp oMul (dVar 6) (dVar 7)) [6, 7]) dNil))))) (il (tab n fun i => i)) [some (.imm (.tup (il (tab n f)))), some (.imm (.tup (il (tab n g)))), some (.imm (.int n)), some (.lst []), none, none, none, none] = some (.nx, [some (.imm (.tup (il (tab n f)))), some (.imm (.tup (il (tab n g)))), some (.imm (.int n)), some (.lst (il (tab n (cr n f g)))), x, y, none, none]) := e
  have r := fun s => rng1_nat n s (show n ≤ 1000000 by omega)
  simp [F_sums_across, b_sums_across, tab_len, r, e']
theorem spans_ev (h24 : n ≤ 24) (pf : Per n f) (b : Bnd n f) : F_spans [rowD (tab n f)] = some (.imm (.tup (il (tab n (cr n f f))))) := by
  simp [F_spans, b_spans, need_row_r, across_ev h24 pf pf b]
/-! ### the law's own spans -/
end
end
end K12
/-! Turned from K17h.lean by tpl.py. -/
namespace K12
noncomputable section
open PySem PySem.Spec PyProof.Rows L2 Evl Sm
section
variable {n : Nat} {f g : Int → Int}
/-! ### the law's own counts -/
@[simp] theorem sl_l (lo hi : Option Int) (ns : List D) : oSl lo hi (.lst ns) = some (.lst (cutD ns lo hi)) := (rfl)
/-! ### the program's counts -/
@[simp] theorem fld_is_lot (xs : List Int) : oFld "Row" "is_lot" (rowD xs) = some (.imm (.bl (xs.all lotB))) := (fld_ins ..).trans rfl
theorem all_tab (q : Int → Bool) (p : Per n f) (hn : 0 < n) : ((tab n f).all q = true) ↔ ∀ i : Int, q (f i) = true := by
  rw [List.all_eq_true]
  constructor
  · intro h i
    have h0 := Int.emod_nonneg i (b := (n : Int)) (by omega)
    have h1 := Int.emod_lt_of_pos i (b := (n : Int)) (by omega)
    rw [← per_mod p hn]
    refine h _ (List.mem_map.mpr ⟨(i % (n : Int)).toNat, List.mem_range.mpr (by omega), by rw [Int.toNat_of_nonneg h0]⟩)
  · intro h x hx
    obtain ⟨k, _, rfl⟩ := tab_mem hx
    exact h _
theorem countsof_ev (h2 : 2 ≤ n) (h24 : n ≤ 24) (h : Int → Int) : F_counts_of [.tup (il (tab n h))] = some (.imm (.tup (il ((rg1 (n / 2 + 1)).map fun k => if 2 * k = (n : Int) then h k / 2 else h k)))) := by
  have dv := div_i (n : Int) 2 ⟨by decide, by decide⟩
  have a1 : (n : Int) / 2 = ((n / 2 : Nat) : Int) := by omega
  have r : ∀ s : S, rng2 1 ((n : Int) / 2 + 1) s = some (il (rg1 (n / 2 + 1)), s) := fun s => by rw [a1]; exact rng2_one' (n / 2) s (by omega)
  have c := comp_gI (e := (dIf (dB (dOp (oEq false) (dOp oMul (dC (.int 2)) (dVar 2)) (dVar 1))) (dOp oDiv (dIxV 0 (dVar 2)) (dC (.int 2))) (dIxV 0 (dVar 2)))) (v := 2) (s := [some (.imm (.tup (il (tab n h)))), some (.imm (.int n)), none]) (ns := rg1 (n / 2 + 1)) (fun k => if 2 * k = (n : Int) then h k / 2 else h k) rfl fun k hk => by
    have hk := rg1_mem hk
    have e1 := ixt (tab n h) k (by omega) (by rw [tab_len]; omega)
    rw [tab_getD _ (by omega) (by omega)] at e1
    have d2 := div_i (h k) 2 ⟨by decide, by decide⟩
    by_cases q : 2 * k = (n : Int)
    · simp [mul_i1 s2, q, e1, d2]
    · simp [mul_i1 s2, q, e1]
  have l : (rg1 (n / 2 + 1)).length ≤ 50000 := by rw [rg1_len]; omega
  simp [F_counts_of, b_counts_of, tab_len, dv, r, rg1_len, c, show n / 2 ≤ 50000 by omega, l]
theorem distances_ev (h2 : 2 ≤ n) (h24 : n ≤ 24) (pf : Per n f) (b : Bnd n f) (hb : BitF f) : F_distances [rowD (tab n f)] = some (.imm (.tup (il (cntL n f)))) := by
  have hl : (tab n f).all lotB = true := (all_tab lotB pf (by omega)).mpr fun i => by rcases hb i with q | q <;> rw [q] <;> rfl
  simp [F_distances, b_distances, F_need_lot, b_need_lot, need_row_r, hl, across_ev h24 pf pf b, countsof_ev h2 h24]
  rfl
def comeL (n : Nat) (f : Int → Int) : List Int := ((tab (n / 2) fun i => i).filter fun i => decide (0 < cnt n f (i + 1))).map fun i => i + 1
def restL (n : Nat) (f : Int → Int) : List Int := ((tab (n / 2) fun i => i).filter fun i => decide (cnt n f (i + 1) = 0)).map fun i => i + 1
theorem enum_km (m : Nat) (h : Int → Int) (P : Int → Bool) : ((enumD (il (tab m h))).filter fun d => match d with | .tup [.int _, .int x] => P x | _ => false).map (fun d => match d with | .tup [.int i, _] => .int (i + 1) | d => d) = il (((tab m fun i => i).filter fun i => P (h i)).map fun i => i + 1) := by
  rw [enum_tab, List.filter_map, List.map_map, il, List.map_map]
  rfl
theorem coming_ev (h2 : 2 ≤ n) (h24 : n ≤ 24) (pf : Per n f) (b : Bnd n f) (hb : BitF f) : F_coming [rowD (tab n f)] = some (.imm (.tup (il (comeL n f)))) := by
  have c : compD (gT [1, 2]) (dB (dOp (oInt fun i j => decide (j < i)) (dVar 2) (dC (.int 0)))) (dOp oAdd (dVar 1) (dC (.int 1))) [1, 2] (enumD (il (cntL n f))) [some (.imm (rowD (tab n f))), none, none] [] = some (il (comeL n f), [some (.imm (rowD (tab n f))), none, none]) := by
    rw [comeL, ← enum_km (n / 2) (fun i => cnt n f (i + 1)) (fun x => decide (0 < x)), ← cntL_tab]
    refine comp_pure _ _ _ [] fun d hd => ?_
    rw [cntL_tab, enum_tab] at hd
    obtain ⟨i, hi, rfl⟩ := List.mem_map.mp hd
    simp
    exact fun _ => ⟨_, _, ⟨rfl, rfl⟩, rfl, rfl⟩
  have l : (enumD (il (cntL n f))).length ≤ 50000 := by simp [enumD, cntL_len]; omega
  have l2 : (comeL n f).length ≤ 50000 := by
    unfold comeL
    rw [List.length_map]
    exact Nat.le_trans (List.length_filter_le ..) (by rw [tab_len]; omega)
  simp [F_coming, b_coming, distances_ev h2 h24 pf b hb, l, c, l2]
theorem rest_ev (h2 : 2 ≤ n) (h24 : n ≤ 24) (pf : Per n f) (b : Bnd n f) (hb : BitF f) : F_not_coming [rowD (tab n f)] = some (.imm (.tup (il (restL n f)))) := by
  have c : compD (gT [1, 2]) (dB (dOp (oEq false) (dVar 2) (dC (.int 0)))) (dOp oAdd (dVar 1) (dC (.int 1))) [1, 2] (enumD (il (cntL n f))) [some (.imm (rowD (tab n f))), none, none] [] = some (il (restL n f), [some (.imm (rowD (tab n f))), none, none]) := by
    rw [restL, ← enum_km (n / 2) (fun i => cnt n f (i + 1)) (fun x => decide (x = 0)), ← cntL_tab]
    refine comp_pure _ _ _ [] fun d hd => ?_
    rw [cntL_tab, enum_tab] at hd
    obtain ⟨i, hi, rfl⟩ := List.mem_map.mp hd
    simp
    exact fun _ => ⟨_, _, ⟨rfl, rfl⟩, rfl, rfl⟩
  have l : (enumD (il (cntL n f))).length ≤ 50000 := by simp [enumD, cntL_len]; omega
  have l2 : (restL n f).length ≤ 50000 := by
    unfold restL
    rw [List.length_map]
    exact Nat.le_trans (List.length_filter_le ..) (by rw [tab_len]; omega)
  simp [F_not_coming, b_not_coming, distances_ev h2 h24 pf b hb, l, c, l2]
end
end
end K12
/-! Turned from K17t.lean by tpl.py. -/
namespace K12
noncomputable section
open PySem PySem.Spec PyProof.Rows L2 Evl Sm
section
variable {n : Nat} {f g : Int → Int} {ms : List Int}
theorem come_mem {k : Int} : k ∈ comeL n f ↔ 1 ≤ k ∧ 2 * k ≤ n ∧ 0 < cnt n f k := by
  unfold comeL
  rw [List.mem_map]
  constructor
  · rintro ⟨i, hi, rfl⟩
    obtain ⟨h1, h2⟩ := List.mem_filter.mp hi
    have h1 := tab_id_mem.mp h1
    exact ⟨by omega, by omega, of_decide_eq_true h2⟩
  · rintro ⟨h1, h2, h3⟩
    exact ⟨k - 1, List.mem_filter.mpr ⟨tab_id_mem.mpr ⟨by omega, by omega⟩, decide_eq_true (by rw [Int.sub_add_cancel]; exact h3)⟩, by omega⟩
theorem rest_mem {k : Int} : k ∈ restL n f ↔ 1 ≤ k ∧ 2 * k ≤ n ∧ cnt n f k = 0 := by
  unfold restL
  rw [List.mem_map]
  constructor
  · rintro ⟨i, hi, rfl⟩
    obtain ⟨h1, h2⟩ := List.mem_filter.mp hi
    have h1 := tab_id_mem.mp h1
    exact ⟨by omega, by omega, of_decide_eq_true h2⟩
  · rintro ⟨h1, h2, h3⟩
    exact ⟨k - 1, List.mem_filter.mpr ⟨tab_id_mem.mpr ⟨by omega, by omega⟩, decide_eq_true (by rw [Int.sub_add_cancel]; exact h3)⟩, by omega⟩
theorem map_asc {xs : List Int} (h : xs.Pairwise (· < ·)) : (xs.map fun i => i + 1).Pairwise (· < ·) := List.pairwise_map.mpr (h.imp fun h => by omega)
theorem come_asc : (comeL n f).Pairwise (· < ·) := map_asc ((tab_asc _).filter _)
theorem rest_asc : (restL n f).Pairwise (· < ·) := map_asc ((tab_asc _).filter _)
theorem rg1_mem' {b : Nat} {k : Int} : k ∈ rg1 b ↔ 1 ≤ k ∧ k < b := by
  refine ⟨rg1_mem, fun h => ?_⟩
  unfold rg1
  exact List.mem_map.mpr ⟨k.toNat, List.mem_range'_1.mpr ⟨by omega, by omega⟩, by omega⟩
theorem rg1_asc (b : Nat) : (rg1 b).Pairwise (· < ·) := List.pairwise_map.mpr ((List.pairwise_lt_range' (s := 1) (n := b - 1) : _).imp fun h => by omega)
theorem sum01_nn {α : Type} {P : α → Prop} [DecidablePred P] : ∀ xs : List α, 0 ≤ (xs.map fun b => if P b then (1 : Int) else 0).sum
  | [] => Int.le_refl _
  | x :: xs => by
    have := sum01_nn (P := P) xs
    rw [List.map_cons, List.sum_cons]
    split <;> omega
theorem sum01_pos {α : Type} {P : α → Prop} [DecidablePred P] : ∀ {xs : List α}, 0 < (xs.map fun b => if P b then (1 : Int) else 0).sum ↔ ∃ b ∈ xs, P b
  | [] => ⟨fun h => absurd h (by simp), fun ⟨_, h, _⟩ => nomatch h⟩
  | x :: xs => by
    have nn := sum01_nn (P := P) xs
    have ih := sum01_pos (P := P) (xs := xs)
    rw [List.map_cons, List.sum_cons]
    by_cases c : P x
    · rw [if_pos c]
      exact ⟨fun _ => ⟨x, List.mem_cons_self, c⟩, fun _ => by omega⟩
    · rw [if_neg c, Int.zero_add, ih]
      exact ⟨fun ⟨b, h, p⟩ => ⟨b, List.mem_cons_of_mem _ h, p⟩, fun ⟨b, h, p⟩ => by
        rcases List.mem_cons.mp h with e | h
        · exact absurd (e ▸ p) c
        · exact ⟨b, h, p⟩⟩
theorem pairs_nn {P : Int → Int → Prop} [∀ a b, Decidable (P a b)] : ∀ xs : List Int, 0 ≤ pairs (fun a b => if P a b then 1 else 0) xs
  | [] => Int.le_refl _
  | x :: xs => Int.add_nonneg (sum01_nn (P := P x) xs) (pairs_nn xs)
theorem pairs_pos {P : Int → Int → Prop} [∀ a b, Decidable (P a b)] : ∀ {xs : List Int}, xs.Pairwise (· < ·) → (0 < pairs (fun a b => if P a b then 1 else 0) xs ↔ ∃ a ∈ xs, ∃ o ∈ xs, a < o ∧ P a o)
  | [], _ => ⟨fun h => absurd (show (0 : Int) < 0 from h) (by decide), fun ⟨_, h, _⟩ => nomatch h⟩
  | x :: xs, hs => by
    obtain ⟨h1, h2⟩ := List.pairwise_cons.mp hs
    have nn := pairs_nn (P := P) xs
    have n1 := sum01_nn (P := P x) xs
    have ih := pairs_pos (P := P) h2
    have i1 := sum01_pos (P := P x) (xs := xs)
    show 0 < (xs.map fun b => if P x b then (1 : Int) else 0).sum + pairs _ xs ↔ _
    constructor
    · intro h
      by_cases c : 0 < (xs.map fun b => if P x b then (1 : Int) else 0).sum
      · obtain ⟨b, hb, p⟩ := i1.mp c
        exact ⟨x, List.mem_cons_self, b, List.mem_cons_of_mem _ hb, h1 b hb, p⟩
      · obtain ⟨a, ha, o, ho, p⟩ := ih.mp (by omega)
        exact ⟨a, List.mem_cons_of_mem _ ha, o, List.mem_cons_of_mem _ ho, p⟩
    · rintro ⟨a, ha, o, ho, hao, p⟩
      have ho : o ∈ xs := by
        rcases List.mem_cons.mp ho with e | ho
        · rcases List.mem_cons.mp ha with e' | ha
          · omega
          · have := h1 a ha; omega
        · exact ho
      rcases List.mem_cons.mp ha with e | ha
      · have := i1.mpr ⟨o, ho, e ▸ p⟩; omega
      · have := ih.mpr ⟨a, ha, o, ho, hao, p⟩; omega
theorem cnt_nn (hn : 0 < n) (p : Per n f) (hb : BitF f) (k : Int) (h0 : 1 ≤ k) (h1 : 2 * k ≤ n) : 0 ≤ cnt n f k := by
  rw [cnt_pairs hn p hb k h0 h1]; exact pairs_nn _
theorem lot_cnt (hn : 0 < n) (hm : ∀ m ∈ ms, 0 ≤ m ∧ m < (n : Int)) (hs : ms.Pairwise (· < ·)) (k : Int) (h0 : 1 ≤ k) (h1 : 2 * k ≤ n) : 0 < cnt n (lotF n ms) k ↔ ∃ a ∈ ms, ∃ o ∈ ms, a < o ∧ far n a o = k := by
  rw [cnt_pairs hn (Per.lotF n ms) (lotF_bit n ms) k h0 h1, marks_lot hm hs]
  exact pairs_pos (P := fun a o => far n a o = k) hs
theorem come_len : (comeL n f).length ≤ n / 2 := by
  unfold comeL
  rw [List.length_map]
  exact Nat.le_trans (List.length_filter_le ..) (by rw [tab_len]; omega)
theorem rest_come (hn : 0 < n) (p : Per n f) (hb : BitF f) : restL n f = (rg1 (n / 2 + 1)).filter fun k => !decide (k ∈ comeL n f) :=
  asc_uniq rest_asc ((rg1_asc _).filter _) fun k => by
    rw [rest_mem, List.mem_filter, rg1_mem', Bool.not_eq_true', decide_eq_false_iff_not, come_mem]
    constructor
    · rintro ⟨h1, h2, h3⟩
      exact ⟨⟨h1, by omega⟩, fun h => by omega⟩
    · rintro ⟨⟨h1, h2⟩, h3⟩
      refine ⟨h1, by omega, ?_⟩
      have := cnt_nn hn p hb k h1 (by omega)
      have : ¬ 0 < cnt n f k := fun q => h3 ⟨h1, by omega, q⟩
      omega
theorem cr_lo (hb : BitF f) (p : Per n f) (k : Int) : 2 * sm f n - n ≤ cr n f f k := by
  have e := cr_out p k
  have h : 0 ≤ cr n (fun i => 1 - f i) (fun i => 1 - f i) k := by
    have p' : Per n (fun i => 1 - f i) := fun i => by show 1 - f (i + n) = 1 - f i; rw [p]
    rw [cr_eq p' p']
    have : ∀ m : Nat, 0 ≤ sm (fun i => (1 - f i) * (1 - f (i + k))) m := fun m => by
      induction m with
      | zero => exact Int.le_refl _
      | succ m ih =>
        rw [sm]
        refine Int.add_nonneg ih (Int.mul_nonneg ?_ ?_)
        · rcases hb m with q | q <;> rw [q] <;> decide
        · rcases hb (m + k) with q | q <;> rw [q] <;> decide
    exact this n
  omega
theorem cr_come (hn : 0 < n) (p : Per n f) (hb : BitF f) (k : Int) (h0 : 1 ≤ k) (h1 : k < n) : 0 < cr n f f k ↔ (if (n : Int) - k < k then (n : Int) - k else k) ∈ comeL n f := by
  rw [come_mem]
  by_cases c : (n : Int) - k < k
  · rw [if_pos c, ← cr_back p k, cr_cnt hn p hb _ (by omega) (by omega)]
    split
    · omega
    · exact ⟨fun h => ⟨by omega, by omega, h⟩, fun h => h.2.2⟩
  · rw [if_neg c, cr_cnt hn p hb _ (by omega) (by omega)]
    split
    · exact ⟨fun h => ⟨by omega, by omega, by omega⟩, fun h => by omega⟩
    · exact ⟨fun h => ⟨by omega, by omega, h⟩, fun h => h.2.2⟩
theorem come_all (hn : 0 < n) (p : Per n f) (hb : BitF f) (h : (n : Int) < 2 * sm f n) : comeL n f = rg1 (n / 2 + 1) :=
  asc_uniq come_asc (rg1_asc _) fun k => by
    rw [come_mem, rg1_mem']
    constructor
    · rintro ⟨h1, h2, _⟩; exact ⟨h1, by omega⟩
    · rintro ⟨h1, h2⟩
      have a := cr_lo hb p k
      have b := cr_cnt hn p hb k h1 (by omega)
      refine ⟨h1, by omega, ?_⟩
      split at b <;> omega
end
end
end K12
/-! The law's own counts; counts of what is left out. -/
namespace K12
noncomputable section
open PySem PySem.Spec PyProof.Rows L2 Evl Sm
def SeqOf (d : D) (ms : List Int) : Prop := d = .lst (il ms) ∨ d = .tup (il ms)
section
variable {n : Nat} {f g : Int → Int} {ms : List Int}
theorem pd_far {a o : Int} (ha : 0 ≤ a ∧ a < n) (ho : 0 ≤ o ∧ o < n) (h : a < o) : (if (n : Int) - o + a < o - a then (n : Int) - o + a else o - a) = far n a o := by
  obtain ⟨e1, e2⟩ := mod_pair ha ho h
  unfold far
  rw [e1, e2, show (n : Int) - o + a = n - (o - a) by omega]
/-! ### own counts -/
def lcB : DS := (dSeq (dSet 6 (dCB cMin (dCons (dOp oSub (dVar 5) (dVar 4)) (dCons (dOp oAdd (dOp oSub (dVar 0) (dVar 5)) (dVar 4)) dNil))))
  (dSetIx 2 (dOp oAdd (dIxV 2 (dOp oSub (dVar 6) (dC (.int 1)))) (dC (.int 1))) (dOp oSub (dVar 6) (dC (.int 1)))))
theorem lc_step (h2 : 2 ≤ n) {fd : List Int} (hl : fd.length = n / 2) {a o : Int} (ha : 0 ≤ a ∧ a < n) (ho : 0 ≤ o ∧ o < n) (hao : a < o) (a1 a3 a6 : Option SV) :
    lcB [some (.imm (.int n)), a1, some (.lst (il fd)), a3, some (.imm (.int a)), some (.imm (.int o)), a6] =
      some (.nx, [some (.imm (.int n)), a1, some (.lst (il (bump fd (far n a o - 1).toNat 1))), a3, some (.imm (.int a)), some (.imm (.int o)), some (.imm (.int (far n a o)))]) := by
  have hf := far_in ha ho hao
  have e0 := pd_far ha ho hao
  have h0 : 0 ≤ far n a o - 1 := by omega
  have h1 : far n a o - 1 < ((n / 2 : Nat) : Int) := by omega
  have e1 := ixl fd _ h0 (by rw [hl]; exact h1)
  have e4 := ixN_ok (n / 2) _ h0 h1
  have e5 := bump_il fd (far n a o - 1) 1
  rw [show Sm.bump fd (far n a o - 1).toNat 1 = fd.set (far n a o - 1).toNat (fd.getD (far n a o - 1).toNat 0 + 1) from rfl, ← e5]
  generalize far n a o = w at *
  simp [lcB, min_ii, e0, e1, hl, e4]
theorem lc_in (h2 : 2 ≤ n) {a : Int} (ha : 0 ≤ a ∧ a < n) (a1 a3 : Option SV) : ∀ (os fd : List Int) (a5 a6 : Option SV), fd.length = n / 2 → (∀ o ∈ os, (0 ≤ o ∧ o < (n : Int)) ∧ a < o) →
    ∃ a5' a6', loopD (gN 5) lcB (il os) [some (.imm (.int n)), a1, some (.lst (il fd)), a3, some (.imm (.int a)), a5, a6] =
      some (.nx, [some (.imm (.int n)), a1, some (.lst (il (cI n a fd os))), a3, some (.imm (.int a)), a5', a6'])
  | [], fd, a5, a6, _, _ => ⟨a5, a6, rfl⟩
  | o :: os, fd, a5, a6, hl, h => by
    obtain ⟨h1, h2'⟩ := h o (List.mem_cons_self ..)
    have st := lc_step h2 hl ha h1 h2' a1 a3 a6
    obtain ⟨x, y, e⟩ := lc_in h2 ha a1 a3 os (bump fd (far n a o - 1).toNat 1) (some (.imm (.int o))) (some (.imm (.int (far n a o)))) (by rw [bump_len]; exact hl) fun q hq => h q (List.mem_cons_of_mem _ hq)
    refine ⟨x, y, ?_⟩
    rw [loop_il, cI, ← e]
    simp only [ap_gN, List.set_cons_succ, List.set_cons_zero, st]
def lcO : DS := (dFor (dSeqI (dSl (dVar 1) (.at_ (dOp oAdd (dVar 3) (dC (.int 1)))) .no)) (gN 5) lcB)
theorem lc_out {d1 : D} (hd : SeqOf d1 ms) (h2 : 2 ≤ n) (hs : ms.Pairwise (· < ·)) (hm : ∀ m ∈ ms, 0 ≤ m ∧ m < (n : Int)) (hlm : ms.length ≤ 100) : ∀ (xs pre fd : List Int) (a3 a4 a5 a6 : Option SV), ms = pre ++ xs → fd.length = n / 2 →
    ∃ a3' a4' a5' a6', loopD (gT [3, 4]) lcO (enF (pre.length : Int) xs) [some (.imm (.int n)), some (.imm d1), some (.lst (il fd)), a3, a4, a5, a6] =
      some (.nx, [some (.imm (.int n)), some (.imm d1), some (.lst (il (cO n fd xs))), a3', a4', a5', a6'])
  | [], pre, fd, a3, a4, a5, a6, _, _ => ⟨a3, a4, a5, a6, rfl⟩
  | x :: xs, pre, fd, a3, a4, a5, a6, hp, hl => by
    have hx : x ∈ ms := by rw [hp]; simp
    have hxs : ∀ o ∈ xs, (0 ≤ o ∧ o < (n : Int)) ∧ x < o := fun o ho => by
      refine ⟨hm o (by rw [hp]; simp [ho]), ?_⟩
      rw [hp, List.pairwise_append] at hs
      exact (List.pairwise_cons.mp hs.2.1).1 o ho
    obtain ⟨u, v, st⟩ := lc_in h2 (hm x hx) (some (.imm d1)) (some (.imm (.int (pre.length : Int)))) xs fd a5 a6 hl hxs
    obtain ⟨a, b, c, d, e⟩ := lc_out hd h2 hs hm hlm xs (pre ++ [x]) (cI n x fd xs) (some (.imm (.int (pre.length : Int)))) (some (.imm (.int x))) u v (by rw [hp]; simp) (by rw [cI_len]; exact hl)
    refine ⟨a, b, c, d, ?_⟩
    have cut : cutD (il ms) (some ((pre.length : Int) + 1)) none = il xs := by
      have := cut_hi ms (pre.length + 1) (by rw [hp]; simp)
      push_cast at this
      rw [this, hp, show pre ++ x :: xs = (pre ++ [x]) ++ xs by simp, List.drop_left' (by simp)]
    have lx : xs.length ≤ 100 := by
      have := congrArg List.length hp
      simp at this
      omega
    rw [List.length_append, List.length_singleton] at e
    push_cast at e
    rw [cO, ← e]
    rcases hd with rfl | rfl <;> simp [enF, loopD, lcO, cut, st, show xs.length ≤ 50000 by omega]
theorem law_counts_ev {d1 : D} (hd : SeqOf d1 ms) (h2 : 2 ≤ n) (h24 : n ≤ 24) (hs : ms.Pairwise (· < ·)) (hm : ∀ m ∈ ms, 0 ≤ m ∧ m < (n : Int)) : F_law_counts [.int n, d1] = some (.lst (il (cntL n (lotF n ms)))) := by
  have hl := len_in (asc_nodup hs) hm
  obtain ⟨a, b, c, d, e⟩ := lc_out hd h2 hs hm (by omega) ms [] (List.replicate (n / 2) 0) none none none none rfl (by simp)
  have eb : b_law_counts = (dSeq (dSet 2 (dOp oMul (dLst (dCons (dC (.int 0)) dNil)) (dOp oDiv (dVar 0) (dC (.int 2)))))
    (dSeq (dFor (dEnum (dCons (dVar 1) dNil)) (gT [3, 4]) lcO) (dRet (dTake 2)))) := rfl
  have dv := div_i (n : Int) 2 ⟨by decide, by decide⟩
  have om : oMul (.lst [.int 0]) (.int ((n : Int) / 2)) = some (.lst (il (List.replicate (n / 2) 0))) := by
    rw [mul_l, if_pos ⟨by omega, by omega, by simp⟩, show ((n : Int) / 2).toNat = n / 2 by omega, il_rep]
  have e0 := cO_cnt (n := n) (by omega) (Per.lotF n ms) (lotF_bit n ms)
  rw [marks_lot hm hs] at e0
  rw [e0, show (([] : List Int).length : Int) = 0 from rfl, ← enum_enF] at e
  have le : (enumD (il ms)).length ≤ 50000 := by simp [enumD]; omega
  generalize cntL n (lotF n ms) = cl at *
  rcases hd with rfl | rfl <;> simp [F_law_counts, eb, dv, om, e, le, show ms.length ≤ 50000 by omega]
/-! ### what is left out, by counts -/
def wO (n : Nat) (size i : Int) : Int := if 2 * (i + 1) = (n : Int) then (n : Int) / 2 - size else (n : Int) - 2 * size
def doF (n : Nat) (size : Int) : Int → List Int → List Int
  | _, [] => []
  | i, x :: xs => (x + wO n size i) :: doF n size (i + 1) xs
theorem doF_len (n : Nat) (size : Int) : ∀ (xs : List Int) (i : Int), (doF n size i xs).length = xs.length
  | [], _ => rfl
  | x :: xs, i => by rw [doF, List.length_cons, List.length_cons, doF_len n size xs]
def doB : DS := (dSeq (dSet 6 (dIf (dB (dOp (oEq false) (dOp oMul (dC (.int 2)) (dOp oAdd (dVar 4) (dC (.int 1)))) (dVar 0))) (dOp oSub (dOp oDiv (dVar 0) (dC (.int 2))) (dVar 1)) (dOp oSub (dVar 0) (dOp oMul (dC (.int 2)) (dVar 1)))))
  (dDrop (dApp 3 (dOp oAdd (dVar 5) (dVar 6)))))
theorem do_loop (size : Int) (A2 : Option SV) : ∀ (xs : List Int) (i : Int) (acc : List Int) (a4 a5 a6 : Option SV), acc.length + xs.length ≤ 1000 → ∃ a4' a5' a6', loopD (gT [4, 5]) doB (enF i xs) [some (.imm (.int n)), some (.imm (.int size)), A2, some (.lst (il acc)), a4, a5, a6] =
      some (.nx, [some (.imm (.int n)), some (.imm (.int size)), A2, some (.lst (il (acc ++ doF n size i xs))), a4', a5', a6'])
  | [], i, acc, a4, a5, a6, _ => ⟨a4, a5, a6, by rw [doF, List.append_nil]; rfl⟩
  | x :: xs, i, acc, a4, a5, a6, h => by
    rw [List.length_cons] at h
    have dv := div_i (n : Int) 2 ⟨by decide, by decide⟩
    obtain ⟨b4, b5, b6, e⟩ := do_loop size A2 xs (i + 1) (acc ++ [x + wO n size i]) (some (.imm (.int i))) (some (.imm (.int x))) (some (.imm (.int (wO n size i)))) (by rw [List.length_append, List.length_singleton]; omega)
    refine ⟨b4, b5, b6, ?_⟩
    rw [doF, show acc ++ (x + wO n size i) :: doF n size (i + 1) xs = (acc ++ [x + wO n size i]) ++ doF n size (i + 1) xs by simp, ← e, ← il_app acc [x + wO n size i]]
    have hw : wO n size i = if 2 * (i + 1) = (n : Int) then (n : Int) / 2 - size else (n : Int) - 2 * size := rfl
    by_cases q : 2 * (i + 1) = (n : Int)
    · rw [if_pos q] at hw
      simp [enF, loopD, gT, doB, mul_i1 s2, dv, q, hw, show acc.length < 100000 by omega, show il [x + ((n : Int) / 2 - size)] = [D.int (x + ((n : Int) / 2 - size))] from rfl]
    · rw [if_neg q] at hw
      simp [enF, loopD, gT, doB, mul_i1 s2, dv, q, hw, show acc.length < 100000 by omega, show il [x + ((n : Int) - 2 * size)] = [D.int (x + ((n : Int) - 2 * size))] from rfl]
theorem need_many_i (i : Int) (h : 2 ≤ i) (h' : i ≤ 24) : F_need_many [.int i] = some (.imm .non) := by
  simp [F_need_many, b_need_many, F_need_number, b_need_number, is_within_i i 2 24 h h']
theorem need_counts_ev {d1 : D} {cs : List Int} (hd : SeqOf d1 cs) (h2 : 2 ≤ n) (h24 : n ≤ 24) {size : Int} (h0 : 0 ≤ size) (h1 : size ≤ n) (hl : cs.length = n / 2) (hc : ∀ c ∈ cs, 0 ≤ c) : F_need_counts [.int n, .int size, d1] = some (.imm .non) := by
  have nm := need_many_i n (by omega) (by omega)
  have nn : F_need_number [.int size, .str "size", .int 0, .int n] = some (.imm .non) := by simp [F_need_number, b_need_number, is_within_i size 0 n h0 h1]
  have dv := div_i (n : Int) 2 ⟨by decide, by decide⟩
  have lq : ((cs.length : Nat) : Int) = (n : Int) / 2 := by omega
  have c := comp_gN (e := (dOp (oInt fun i j => decide (j ≤ i)) (dVar 3) (dC (.int 0)))) (v := 3) (s := [some (.imm (.int n)), some (.imm (.int size)), some (.imm d1), none]) (ns := cs) (fun x => D.bl (decide (0 ≤ x))) rfl fun i _ => by simp
  have e : cs.map (fun x => D.bl (decide (0 ≤ x))) = cs.map fun _ => D.bl true := List.map_congr_left fun x hx => by rw [decide_eq_true (hc x hx)]
  have at_ := all_true cs
  rw [e] at c
  have ai : F_are_integers [d1] = some (.imm (.bl true)) := by
    rcases hd with rfl | rfl
    · exact are_integers_l cs (by omega)
    · exact are_integers_t cs (by omega)
  rcases hd with rfl | rfl <;> simp [F_need_counts, b_need_counts, nm, nn, ai, dv, lq, c, at_, show cs.length ≤ 50000 by omega]
theorem left_out_ev {d1 : D} {cs : List Int} (hd : SeqOf d1 cs) (h2 : 2 ≤ n) (h24 : n ≤ 24) {size : Int} (h0 : 0 ≤ size) (h1 : size ≤ n) (hl : cs.length = n / 2) (hc : ∀ c ∈ cs, 0 ≤ c) : F_distances_left_out [.int n, .int size, d1] = some (.imm (.tup (il (doF n size 0 cs)))) := by
  have nc := need_counts_ev hd h2 h24 h0 h1 hl hc
  obtain ⟨a4, a5, a6, e⟩ := do_loop (n := n) size (some (.imm d1)) cs 0 [] none none none (by simp; omega)
  rw [← enum_enF, List.nil_append, show il ([] : List Int) = [] from rfl] at e
  have eb : b_distances_left_out = (dSeq (dDrop (dCallP 3 F_need_counts (dCons (dVar 0) (dCons (dVar 1) (dCons (dVar 2) dNil)))))
    (dSeq (dSet 3 (dLst dNil)) (dSeq (dFor (dEnum (dCons (dVar 2) dNil)) (gT [4, 5]) doB) (dRet (dCB cTuple (dCons (dVar 3) dNil)))))) := rfl
  have le : (enumD (il cs)).length ≤ 50000 := by simp [enumD]; omega
  have ld : (doF n size 0 cs).length ≤ 50000 := by rw [doF_len]; omega
  rcases hd with rfl | rfl <;> simp [F_distances_left_out, eb, nc, e, le, ld, show cs.length ≤ 50000 by omega]
end
end
end K12
/-! A lot is right. -/
namespace K12
noncomputable section
open PySem PySem.Spec PyProof.Rows L2 Evl Sm
section
variable {n : Nat} {f g : Int → Int} {ms : List Int}
def outL (n : Nat) (ms : List Int) : List Int := (tab n fun i => i).filter fun i => !decide (i ∈ ms)
theorem outL_mem {i : Int} : i ∈ outL n ms ↔ (0 ≤ i ∧ i < n) ∧ i ∉ ms := by
  unfold outL
  rw [List.mem_filter, tab_id_mem]
  simp
theorem outL_asc : (outL n ms).Pairwise (· < ·) := (tab_asc _).filter _
theorem outL_in : ∀ m ∈ outL n ms, 0 ≤ m ∧ m < (n : Int) := fun m h => (outL_mem.mp h).1
theorem outL_lot (hn : 0 < n) : lotF n (outL n ms) = fun i => 1 - lotF n ms i := funext fun i => by
  have h0 := Int.emod_nonneg i (b := (n : Int)) (by omega)
  have h1 := Int.emod_lt_of_pos i (b := (n : Int)) (by omega)
  show (if i % (n : Int) ∈ outL n ms then (1 : Int) else 0) = 1 - if i % (n : Int) ∈ ms then 1 else 0
  by_cases c : i % (n : Int) ∈ ms
  · rw [if_neg fun z => (outL_mem.mp z).2 c, if_pos c]; rfl
  · rw [if_pos (outL_mem.mpr ⟨⟨h0, h1⟩, c⟩), if_neg c]; rfl
theorem bit_bnd (hb : BitF f) : Bnd n f := fun i _ _ => by rcases hb i with q | q <;> rw [q] <;> exact sml (by decide)
theorem cnt_out (hn : 0 < n) (p : Per n f) (hb : BitF f) (i : Int) (h0 : 0 ≤ i) (h1 : 2 * (i + 1) ≤ n) : cnt n (fun i => 1 - f i) (i + 1) = cnt n f (i + 1) + wO n (sm f n) i := by
  have e := cr_out p (i + 1)
  have c := cr_cnt hn p hb (i + 1) (by omega) h1
  unfold wO
  show (if 2 * (i + 1) = (n : Int) then cr n (fun i => 1 - f i) (fun i => 1 - f i) (i + 1) / 2 else cr n (fun i => 1 - f i) (fun i => 1 - f i) (i + 1)) = _
  by_cases q : 2 * (i + 1) = (n : Int)
  · rw [if_pos q] at c
    rw [if_pos q, if_pos q]
    omega
  · rw [if_neg q] at c
    rw [if_neg q, if_neg q]
    omega
theorem doF_get (size : Int) : ∀ (xs : List Int) (i : Int) (j : Nat), (doF n size i xs)[j]? = (xs[j]?).map fun x => x + wO n size (i + j)
  | [], i, j => by simp [doF]
  | x :: xs, i, 0 => by simp [doF]
  | x :: xs, i, j + 1 => by
    rw [doF, List.getElem?_cons_succ, List.getElem?_cons_succ, doF_get size xs (i + 1) j]
    congr 1
    funext y
    congr 2
    push_cast
    omega
theorem cntL_out (hn : 0 < n) (p : Per n f) (hb : BitF f) : cntL n (fun i => 1 - f i) = doF n (sm f n) 0 (cntL n f) := by
  apply List.ext_getElem?
  intro j
  rw [doF_get]
  by_cases h : j < n / 2
  · rw [cntL_get j h, cntL_get j h, cnt_out hn p hb j (by omega) (by omega)]
    show _ = some (_ + wO n (sm f n) (0 + (j : Int)))
    rw [Int.zero_add]
  · rw [List.getElem?_eq_none (by rw [cntL_len]; omega), List.getElem?_eq_none (by rw [cntL_len]; omega)]
    rfl
theorem cnt_gt (i : Int) (h0 : 0 ≤ i) (h1 : i < ((n / 2 : Nat) : Int)) : (cntL n f).getD i.toNat 0 = cnt n f (i + 1) := by
  rw [List.getD_eq_getElem?_getD, cntL_get i.toNat (by omega)]
  rw [show ((i.toNat : Nat) : Int) = i by omega]
  rfl
def lrA : DS := (dIfS (dB (dOp (oEq true) (dOp oSub (dIxV 6 (dVar 8)) (dVar 9)) (dIf (dB (dOp (oEq false) (dOp oAdd (dOp oMul (dC (.int 2)) (dVar 8)) (dC (.int 2))) (dVar 0))) (dOp oSub (dOp oDiv (dVar 0) (dC (.int 2))) (dVar 4)) (dOp oSub (dVar 0) (dOp oMul (dC (.int 2)) (dVar 4)))))) (dRet (dC (.bl false))) dNext)
def lrB : DS := (dSeq (dSet 11 (dIf (dB (dOp (oEq false) (dOp oAdd (dOp oMul (dC (.int 2)) (dVar 8)) (dC (.int 2))) (dVar 0))) (dOp oMul (dC (.int 2)) (dVar 9)) (dVar 9)))
  (dIfS (dOr (dB (dOp (oEq true) (dIxV 10 (dOp oAdd (dVar 8) (dC (.int 1)))) (dVar 11))) (dB (dOp (oEq true) (dIxV 10 (dOp oSub (dOp oSub (dVar 0) (dVar 8)) (dC (.int 1)))) (dVar 11)))) (dRet (dC (.bl false))) dNext))
theorem lr_a (hn : 2 ≤ n) (h24 : n ≤ 24) (size : Int) (A1 A2 A3 A5 A7 : Option SV) {cs : List Int} (hl : cs.length = n / 2) : ∀ (xs : List Int) (k : Nat) (a8 a9 : Option SV), cs.drop k = xs →
    ∃ b8 b9, loopD (gT [8, 9]) lrA (enF (k : Int) xs) [some (.imm (.int n)), A1, A2, A3, some (.imm (.int size)), A5, some (.imm (.lst (il (doF n size 0 cs)))), A7, a8, a9, none, none, none] =
      some (.nx, [some (.imm (.int n)), A1, A2, A3, some (.imm (.int size)), A5, some (.imm (.lst (il (doF n size 0 cs)))), A7, b8, b9, none, none, none])
  | [], k, a8, a9, _ => ⟨a8, a9, rfl⟩
  | x :: xs, k, a8, a9, hd => by
    have hk : k < cs.length := by
      have := congrArg List.length hd
      rw [List.length_drop, List.length_cons] at this
      omega
    have hx : cs[k]? = some x := by
      have := congrArg (·[0]?) hd
      simpa using this
    obtain ⟨b8, b9, e⟩ := lr_a hn h24 size A1 A2 A3 A5 A7 hl xs (k + 1) (some (.imm (.int k))) (some (.imm (.int x))) (by rw [← List.drop_drop, hd]; rfl)
    refine ⟨b8, b9, ?_⟩
    push_cast at e
    rw [← e]
    have dv := div_i (n : Int) 2 ⟨by decide, by decide⟩
    have ix := ixl (doF n size 0 cs) (k : Int) (by omega) (by rw [doF_len]; omega)
    have gx : gt (doF n size 0 cs) (k : Int) = x + wO n size k := by
      unfold gt
      rw [List.getD_eq_getElem?_getD, Int.toNat_natCast, doF_get, hx]
      show x + wO n size (0 + (k : Int)) = _
      rw [Int.zero_add]
    rw [gx] at ix
    have hw : wO n size k = if 2 * ((k : Int) + 1) = (n : Int) then (n : Int) / 2 - size else (n : Int) - 2 * size := rfl
    by_cases q : 2 * (k : Int) + 2 = (n : Int)
    · rw [if_pos (by omega)] at hw
      have e1 : x + ((n : Int) / 2 - size) - x = (n : Int) / 2 - size := by omega
      rw [hw] at ix
      simp [enF, loopD, gT, lrA, mul_i1 s2, dv, q, ix, e1]
    · rw [if_neg (by omega)] at hw
      have e1 : x + ((n : Int) - 2 * size) - x = (n : Int) - 2 * size := by omega
      rw [hw] at ix
      simp [enF, loopD, gT, lrA, mul_i1 s2, dv, q, ix, e1]
theorem lr_b (hn : 2 ≤ n) (h24 : n ≤ 24) (pf : Per n f) (hb : BitF f) (A1 A2 A3 A4 A5 A6 A7 : Option SV) : ∀ (xs : List Int) (k : Nat) (a8 a9 a11 : Option SV), (cntL n f).drop k = xs →
    ∃ b8 b9 b11, loopD (gT [8, 9]) lrB (enF (k : Int) xs) [some (.imm (.int n)), A1, A2, A3, A4, A5, A6, A7, a8, a9, some (.imm (.tup (il (tab n (cr n f f))))), a11, none] =
      some (.nx, [some (.imm (.int n)), A1, A2, A3, A4, A5, A6, A7, b8, b9, some (.imm (.tup (il (tab n (cr n f f))))), b11, none])
  | [], k, a8, a9, a11, _ => ⟨a8, a9, a11, rfl⟩
  | x :: xs, k, a8, a9, a11, hd => by
    have hk : k < n / 2 := by
      have := congrArg List.length hd
      rw [List.length_drop, List.length_cons, cntL_len] at this
      omega
    have hx : cnt n f (k + 1) = x := by
      have := congrArg (·[0]?) hd
      have h0 : (cntL n f)[k]? = some x := by simpa using this
      rw [cntL_get k hk] at h0
      exact Option.some.inj h0
    have c := cr_cnt (n := n) (by omega) pf hb ((k : Int) + 1) (by omega) (by omega)
    rw [hx] at c
    have cb := cr_back pf ((k : Int) + 1)
    have i1 := ixt (tab n (cr n f f)) ((k : Int) + 1) (by omega) (by rw [tab_len]; omega)
    have i2 := ixt (tab n (cr n f f)) ((n : Int) - k - 1) (by omega) (by rw [tab_len]; omega)
    rw [tab_getD _ (by omega) (by omega)] at i1 i2
    rw [show (n : Int) - k - 1 = n - (k + 1) by omega, cb, show (n : Int) - (k + 1) = n - k - 1 by omega] at i2
    rw [c] at i1 i2
    by_cases q : 2 * (k : Int) + 2 = (n : Int)
    · obtain ⟨b8, b9, b11, e⟩ := lr_b hn h24 pf hb A1 A2 A3 A4 A5 A6 A7 xs (k + 1) (some (.imm (.int k))) (some (.imm (.int x))) (some (.imm (.int (2 * x)))) (by rw [← List.drop_drop, hd]; rfl)
      refine ⟨b8, b9, b11, ?_⟩
      push_cast at e
      rw [← e]
      rw [if_pos (by omega)] at i1 i2
      simp [enF, loopD, gT, lrB, mul_i1 s2, q, i1, i2]
    · obtain ⟨b8, b9, b11, e⟩ := lr_b hn h24 pf hb A1 A2 A3 A4 A5 A6 A7 xs (k + 1) (some (.imm (.int k))) (some (.imm (.int x))) (some (.imm (.int x))) (by rw [← List.drop_drop, hd]; rfl)
      refine ⟨b8, b9, b11, ?_⟩
      push_cast at e
      rw [← e]
      rw [if_neg (by omega)] at i1 i2
      simp [enF, loopD, gT, lrB, mul_i1 s2, q, i1, i2]
end
end
end K12
set_option maxHeartbeats 8000000
/-! A lot is right. -/
namespace K12
noncomputable section
open PySem PySem.Spec PyProof.Rows L2 Evl Sm
theorem keep2 (b : Option SV) : keepImm (some (keepImm (some b))) = keepImm (some b) := by
  cases b with
  | none => rfl
  | some x => cases x <;> rfl
section
variable {n : Nat} {f g : Int → Int} {ms : List Int}
@[simp] theorem meth_row (m : Str) (NN : Nat) (fn : List D → Option SV) (r : DA) (s1 : S) (xs : List Int) (h : hasN m rowNs = false) : methD "Row" m NN fn r s1 (rowD xs) = match r s1 with
      | none => none
      | some (ys, s2) => if ys.length + 1 = NN then (match fn (rowD xs :: ys) with
        | none => none
        | some z => some (z, s2)) else none := meth_ins _ _ _ _ _ _ _ _ h
@[simp] theorem pick210 (a b c : D) : pick .non [2, 1, 0] [a, b, c] = [c, b, a] := (rfl)
@[simp] theorem hn_left : hasN "left_out" rowNs = false := by decide +kernel
theorem cr_size (p : Per n f) (hb : BitF f) : cr n f f 0 = sm f n := by
  rw [cr_zero p]
  exact sm_congr fun i _ => by rcases hb i with q | q <;> rw [q] <;> rfl
theorem lot_right_ev {d1 : D} (hd : SeqOf d1 ms) (h2 : 2 ≤ n) (h24 : n ≤ 24) (hs : ms.Pairwise (· < ·)) (hm : ∀ m ∈ ms, 0 ≤ m ∧ m < (n : Int)) : F_law_lot_right [.int n, d1] = some (.imm (.bl true)) := by
  have hn : 0 < n := by omega
  have hl := len_in (asc_nodup hs) hm
  have ro := row_of h2 h24 (asc_nodup hs) hm
  have lc := law_counts_ev hd h2 h24 hs hm
  have lo := law_counts_ev (d1 := .lst (il (outL n ms))) (ms := outL n ms) (.inl rfl) h2 h24 outL_asc outL_in
  rw [outL_lot hn] at lo
  have pf := Per.lotF n ms
  have hb := lotF_bit n ms
  have sz : sm (lotF n ms) n = ms.length := sm_lot hm (asc_nodup hs)
  have co := cntL_out hn pf hb
  rw [sz] at co
  rw [co] at lo
  have csum := cntL_sum hn pf hb
  rw [marks_lot hm hs] at csum
  have di := distances_ev h2 h24 pf (bit_bnd hb) hb
  have lfo := row_left_out (f := lotF n ms) h2 h24
  have po : Per n fun i => 1 - lotF n ms i := fun i => by show 1 - lotF n ms (i + n) = _; rw [pf]
  have hbo : BitF fun i => 1 - lotF n ms i := fun i => by
    show 1 - lotF n ms i = 0 ∨ 1 - lotF n ms i = 1
    rcases hb i with q | q <;> rw [q] <;> simp
  have dio := distances_ev h2 h24 po (bit_bnd hbo) hbo
  rw [co] at dio
  have cge : ∀ c ∈ cntL n (lotF n ms), 0 ≤ c := fun c hc => by
    rw [cntL_tab] at hc
    obtain ⟨i, hi, rfl⟩ := tab_mem hc
    exact cnt_nn hn pf hb _ (by omega) (by omega)
  have l1 := left_out_ev (d1 := .tup (il (cntL n (lotF n ms)))) (.inr rfl) h2 h24 (size := ms.length) (by omega) (by omega) (cntL_len n _) cge
  have l2 := left_out_ev (d1 := .lst (il (cntL n (lotF n ms)))) (.inl rfl) h2 h24 (size := ms.length) (by omega) (by omega) (cntL_len n _) cge
  have cm := coming_ev h2 h24 pf (bit_bnd hb) hb
  have rs := rest_ev h2 h24 pf (bit_bnd hb) hb
  have sp := spans_ev h24 pf (bit_bnd hb)
  have c0 := cr_size pf hb
  have ssp : (tab n (cr n (lotF n ms) (lotF n ms))).sum = (ms.length : Int) * ms.length := by rw [sum_tab, sm_cr pf, sz]
  rw [sz] at c0
  have half : 2 * (ms.length : Int) = n → doF n ms.length 0 (cntL n (lotF n ms)) = cntL n (lotF n ms) := fun e => by
    apply List.ext_getElem?
    intro j
    rw [doF_get]
    have : ∀ i, wO n ms.length i = 0 := fun i => by unfold wO; split <;> omega
    simp [this]
  have gc : ∀ i : Int, 0 ≤ i → i < ((n / 2 : Nat) : Int) → oIx (.lst (il (cntL n (lotF n ms)))) (.int i) = some (.imm (.int (cnt n (lotF n ms) (i + 1)))) := fun i i0 i1 => by
    rw [ixl _ i i0 (by rw [cntL_len]; omega)]
    show some (SV.imm (D.int ((cntL n (lotF n ms)).getD i.toNat 0))) = _
    rw [cnt_gt i i0 i1]
  obtain ⟨b8, b9, ea⟩ := lr_a (n := n) h2 h24 ms.length (some (.imm d1)) (some (.imm (rowD (tab n (lotF n ms))))) (some (.imm (.lst (il (cntL n (lotF n ms)))))) (some (.imm (.lst (il (outL n ms))))) (some (.imm (.tup (il (cntL n (lotF n ms)))))) (cs := cntL n (lotF n ms)) (cntL_len n _) (cntL n (lotF n ms)) 0 none none rfl
  obtain ⟨x8, x9, x11, eb'⟩ := lr_b (n := n) h2 h24 pf hb (some (.imm d1)) (some (.imm (rowD (tab n (lotF n ms))))) (some (.imm (.lst (il (cntL n (lotF n ms)))))) (some (.imm (.int ms.length))) (some (.imm (.lst (il (outL n ms))))) (some (.imm (.lst (il (doF n ms.length 0 (cntL n (lotF n ms))))))) (some (.imm (.tup (il (cntL n (lotF n ms)))))) (cntL n (lotF n ms)) 0 (keepImm (some b8)) b9 none rfl
  rw [show (((0 : Nat) : Int)) = 0 from rfl, ← enum_enF] at ea eb'
  have ll := cntL_len n (lotF n ms)
  have le : (enumD (il (cntL n (lotF n ms)))).length ≤ 50000 := by simp [enumD, ll]; omega
  have ci : (comeL n (lotF n ms)) = ((tab (n / 2) fun i => i).filter fun i => decide (0 < cnt n (lotF n ms) (i + 1))).map fun i => i + 1 := rfl
  have ri : (restL n (lotF n ms)) = ((tab (n / 2) fun i => i).filter fun i => decide (cnt n (lotF n ms) (i + 1) = 0)).map fun i => i + 1 := rfl
  have hcl : (comeL n (lotF n ms)).length ≤ 50000 := by rw [ci, List.length_map]; exact Nat.le_trans (List.length_filter_le ..) (by rw [tab_len]; omega)
  have hrl : (restL n (lotF n ms)).length ≤ 50000 := by rw [ri, List.length_map]; exact Nat.le_trans (List.length_filter_le ..) (by rw [tab_len]; omega)
  have ol : (outL n ms).length ≤ 50000 := Nat.le_trans (List.length_filter_le ..) (by rw [tab_len]; omega)
  have dl : (doF n ms.length 0 (cntL n (lotF n ms))).length ≤ 50000 := by rw [doF_len, ll]; omega
  have dv := div_i (n : Int) 2 ⟨by decide, by decide⟩
  have dq := div_i ((ms.length : Int) * ((ms.length : Int) - 1)) 2 ⟨by decide, by decide⟩
  have r0 := fun s => rng1_nat n s (show n ≤ 1000000 by omega)
  have r1 : ∀ s : S, rng1 ((n : Int) / 2) s = some (il (tab (n / 2) fun i => i), s) := fun s => by
    rw [show (n : Int) / 2 = ((n / 2 : Nat) : Int) by omega]
    exact rng1_nat (n / 2) s (by omega)
  have k1 : compD (gN 12) (dB (dOp (oIn true) (dVar 12) (dVar 1))) (dVar 12) [12] (il (tab n fun i => i)) [some (.imm (.int n)), some (.imm d1), some (rowS (tab n (lotF n ms))), some (.lst (il (cntL n (lotF n ms)))), some (.imm (.int ms.length)), none, none, none, none, none, none, none, none] [] = some (il (outL n ms), [some (.imm (.int n)), some (.imm d1), some (rowS (tab n (lotF n ms))), some (.lst (il (cntL n (lotF n ms)))), some (.imm (.int ms.length)), none, none, none, none, none, none, none, none]) :=
    comp_keep (fun i => !decide (i ∈ ms)) rfl fun i _ => by rcases hd with rfl | rfl <;> simp
  have k2 := comp_km (t := (dB (dOp (oInt fun i j => decide (j < i)) (dIxV 3 (dVar 8)) (dC (.int 0))))) (e := (dOp oAdd (dVar 8) (dC (.int 1)))) (v := 8) (s := [some (.imm (.int n)), some (.imm d1), some (.imm (rowD (tab n (lotF n ms)))), some (.imm (.lst (il (cntL n (lotF n ms))))), some (.imm (.int ms.length)), some (.imm (.lst (il (outL n ms)))), some (.imm (.lst (il (doF n ms.length 0 (cntL n (lotF n ms)))))), some (.imm (.tup (il (cntL n (lotF n ms))))), none, b9, none, none, none]) (ns := tab (n / 2) fun i => i) (fun i => decide (0 < cnt n (lotF n ms) (i + 1))) (fun i => i + 1) rfl (fun i hi => by
    obtain ⟨i0, i1⟩ := tab_id_mem.mp hi
    simp [gc i i0 i1]) fun i hi _ => by simp
  have k3 := comp_km (t := (dB (dOp (oEq false) (dIxV 3 (dVar 8)) (dC (.int 0))))) (e := (dOp oAdd (dVar 8) (dC (.int 1)))) (v := 8) (s := [some (.imm (.int n)), some (.imm d1), some (.imm (rowD (tab n (lotF n ms)))), some (.imm (.lst (il (cntL n (lotF n ms))))), some (.imm (.int ms.length)), some (.imm (.lst (il (outL n ms)))), some (.imm (.lst (il (doF n ms.length 0 (cntL n (lotF n ms)))))), some (.imm (.tup (il (cntL n (lotF n ms))))), none, b9, none, none, none]) (ns := tab (n / 2) fun i => i) (fun i => decide (cnt n (lotF n ms) (i + 1) = 0)) (fun i => i + 1) rfl (fun i hi => by
    obtain ⟨i0, i1⟩ := tab_id_mem.mp hi
    simp [gc i i0 i1]) fun i hi _ => by simp
  rw [← ci] at k2
  rw [← ri] at k3
  have i0 := ixt (tab n (cr n (lotF n ms) (lotF n ms))) 0 (by omega) (by rw [tab_len]; omega)
  rw [tab_getD _ (by omega) (by omega), c0] at i0
  have sm1 : Sml (ms.length : Int) := sml (by omega)
  have tl : (tab n (cr n (lotF n ms) (lotF n ms))).length = n := tab_len ..
  have cs2 : (ms.length : Int) * ((ms.length : Int) - 1) / 2 = (cntL n (lotF n ms)).sum := by rw [← csum]; omega
  have e3 : b_law_lot_right = (dSeq (dPar [2, 3, 4] (sCons (dCallP 2 F_Row_of (dCons (dVar 0) (dCons (dCB cList (dCons (dVar 1) dNil)) dNil))) (sCons (dCallP 2 F_law_counts (dCons (dVar 0) (dCons (dVar 1) dNil))) (sCons (dLenV 1) sNil))))
  (dSeq (dSet 5 (dLc (dRng1 (dCons (dVar 0) dNil)) (gN 12) (dB (dOp (oIn true) (dVar 12) (dVar 1))) (dVar 12) [12]))
  (dSeq (dPar [6, 7] (sCons (dCallP 2 F_law_counts (dCons (dVar 0) (dCons (dVar 5) dNil))) (sCons (dCallK 0 1 [0] 1 F_distances dNil (dCons (dVar 2) dNil)) sNil)))
  (dSeq (dIfS (dOr (dB (dOp (oEq true) (dVar 7) (dCB cTuple (dCons (dVar 3) dNil)))) (dOr (dB (dOp (oEq true) (dCB cSum (dCons (dVar 7) dNil)) (dOp oDiv (dOp oMul (dVar 4) (dOp oSub (dVar 4) (dC (.int 1)))) (dC (.int 2))))) (dB (dOp (oEq true) (dCallP 1 F_distances (dCons (dMeth "Row" "left_out" 1 F_Row_left_out (dVar 2) dNil) dNil)) (dCB cTuple (dCons (dVar 6) dNil)))))) (dRet (dC (.bl false))) dNext)
  (dSeq (dIfS (dOr (dB (dOp (oEq true) (dCallP 3 F_distances_left_out (dCons (dVar 0) (dCons (dVar 4) (dCons (dVar 7) dNil)))) (dCB cTuple (dCons (dVar 6) dNil)))) (dB (dOp (oEq true) (dCallK 0 3 [2, 1, 0] 3 F_distances_left_out dNil (dCons (dVar 3) (dCons (dVar 4) (dCons (dVar 0) dNil)))) (dCB cTuple (dCons (dVar 6) dNil))))) (dRet (dC (.bl false))) dNext)
  (dSeq (dFor (dEnum (dCons (dVar 3) dNil)) (gT [8, 9]) lrA)
  (dSeq (dIfS (dAnd (dB (dOp (oEq false) (dOp oMul (dC (.int 2)) (dVar 4)) (dVar 0))) (dB (dOp (oEq true) (dVar 6) (dVar 3)))) (dRet (dC (.bl false))) dNext)
  (dSeq (dIfS (dB (dOp (oEq true) (dCallK 0 1 [0] 1 F_coming dNil (dCons (dVar 2) dNil)) (dCB cTuple (dCons (dLc (dRng1 (dCons (dOp oDiv (dVar 0) (dC (.int 2))) dNil)) (gN 8) (dB (dOp (oInt fun i j => decide (j < i)) (dIxV 3 (dVar 8)) (dC (.int 0)))) (dOp oAdd (dVar 8) (dC (.int 1))) [8]) dNil)))) (dRet (dC (.bl false))) dNext)
  (dSeq (dIfS (dB (dOp (oEq true) (dCallK 0 1 [0] 1 F_not_coming dNil (dCons (dVar 2) dNil)) (dCB cTuple (dCons (dLc (dRng1 (dCons (dOp oDiv (dVar 0) (dC (.int 2))) dNil)) (gN 8) (dB (dOp (oEq false) (dIxV 3 (dVar 8)) (dC (.int 0)))) (dOp oAdd (dVar 8) (dC (.int 1))) [8]) dNil)))) (dRet (dC (.bl false))) dNext)
  (dSeq (dSet 10 (dCallK 0 1 [0] 1 F_spans dNil (dCons (dVar 2) dNil)))
  (dSeq (dIfS (dOr (dB (dOp (oEq true) (dLenV 10) (dVar 0))) (dOr (dB (dOp (oEq true) (dIxV 10 (dC (.int 0))) (dVar 4))) (dB (dOp (oEq true) (dCB cSum (dCons (dVar 10) dNil)) (dOp oMul (dVar 4) (dVar 4)))))) (dRet (dC (.bl false))) dNext)
  (dSeq (dFor (dEnum (dCons (dVar 3) dNil)) (gT [8, 9]) lrB)
  (dRet (dC (.bl true))))))))))))))) := rfl
  have hln : hasN "left_out" rowNs = false := by decide +kernel
  clear ci ri gc cge csum co
  generalize doF n (ms.length : Int) 0 (cntL n (lotF n ms)) = os at *
  generalize cntL n (lotF n ms) = cl at *
  generalize comeL n (lotF n ms) = cl1 at *
  generalize restL n (lotF n ms) = cl2 at *
  generalize outL n ms = ol1 at *
  have fin : ∀ b : Bool, decide (2 * (ms.length : Int) = n) = b → runP 13 b_law_lot_right [.int n, d1] = some (.imm (.bl true)) := fun b hbq => by
    cases b with
    | true =>
      have q := of_decide_eq_true hbq
      have hq := eq_true (half q)
      rcases hd with rfl | rfl <;> simp [e3, ro, lc, lo, di, lfo, dio, l1, l2, cm, rs, sp, ssp, ea, eb', le, hcl, hrl, ol, dl, dv, dq, r0, r1, k1, k2, k3, i0, mul_i1 sm1, mul_i1 s2, tl, cs2, ll, tab_len, hln, keep2, q, hq, show n ≤ 50000 by omega, show n / 2 ≤ 50000 by omega, show ms.length ≤ 50000 by omega]
    | false =>
      have q := of_decide_eq_false hbq
      rcases hd with rfl | rfl <;> simp [e3, ro, lc, lo, di, lfo, dio, l1, l2, cm, rs, sp, ssp, ea, eb', le, hcl, hrl, ol, dl, dv, dq, r0, r1, k1, k2, k3, i0, mul_i1 sm1, mul_i1 s2, tl, cs2, ll, tab_len, hln, keep2, q, show n ≤ 50000 by omega, show n / 2 ≤ 50000 by omega, show ms.length ≤ 50000 by omega]
  exact fin _ rfl
end
end
end K12
/-! All lots of a size; counts that are told. -/
namespace K12
noncomputable section
open PySem PySem.Spec PyProof.Rows L2 Evl Sm
section
variable {n : Nat} {ms : List Int}
def llB : DS := (dSet 2 (dOp oAdd (dVar 2) (dLc (dSeqI (dVar 2)) (gN 4) (dB (dOp (oInt fun i j => decide (i < j)) (dLenV 4) (dVar 1))) (dOp oAdd (dVar 4) (dTup (dCons (dVar 3) dNil))) [4])))
def llS (size b : Int) (rows : List (List Int)) : List (List Int) := rows ++ (rows.filter fun r => decide ((r.length : Int) < size)).map fun r => r ++ [b]
structure LL (b : Nat) (rows : List (List Int)) : Prop where
  hd : ∃ rest, rows = [] :: rest ∧ ∀ r ∈ rest, r ≠ []
  asc : ∀ r ∈ rows, r.Pairwise (· < ·) ∧ ∀ m ∈ r, 0 ≤ m ∧ m < (b : Int)
  len : rows.length ≤ 2 ^ b
theorem LL.step {b : Nat} {rows : List (List Int)} (h : LL b rows) (size : Int) : LL (b + 1) (llS size b rows) := by
  obtain ⟨rest, rfl, hr⟩ := h.hd
  refine ⟨⟨rest ++ (([] :: rest).filter fun r => decide ((r.length : Int) < size)).map fun r => r ++ [(b : Int)], rfl, fun r h' => ?_⟩, fun r h' => ?_, ?_⟩
  · rcases List.mem_append.mp h' with h' | h'
    · exact hr r h'
    · obtain ⟨q, _, rfl⟩ := List.mem_map.mp h'
      simp
  · rcases List.mem_append.mp h' with h' | h'
    · obtain ⟨a, c⟩ := h.asc r h'
      exact ⟨a, fun m hm => by have := c m hm; omega⟩
    · obtain ⟨q, hq, rfl⟩ := List.mem_map.mp h'
      obtain ⟨a, c⟩ := h.asc q (List.mem_filter.mp hq).1
      refine ⟨List.pairwise_append.mpr ⟨a, List.pairwise_singleton _ _, fun x hx y hy => ?_⟩, fun m hm => ?_⟩
      · rw [List.mem_singleton.mp hy]
        exact (c x hx).2
      · rcases List.mem_append.mp hm with hm | hm
        · have := c m hm; omega
        · rw [List.mem_singleton.mp hm]; omega
  · have h1 := h.len
    have h2 := List.length_filter_le (fun r : List Int => decide ((r.length : Int) < size)) ([] :: rest)
    show (([] :: rest) ++ _).length ≤ _
    rw [List.length_append, List.length_map, Nat.pow_succ]
    omega
def llP (size : Int) : D → Bool
  | .tup xs => decide ((xs.length : Int) < size)
  | _ => false
def llF (b : Int) : D → D
  | .tup xs => .tup (xs ++ [.int b])
  | d => d
theorem tups_step (size b : Int) (rows : List (List Int)) : tups rows ++ (((tups rows).filter (llP size)).map (llF b)) = tups (llS size b rows) := by
  unfold tups llS
  rw [List.map_append, List.filter_map, List.map_map, List.map_map]
  congr 1
  have e1 : (llP size ∘ fun r : List Int => D.tup (il r)) = fun r => decide ((r.length : Int) < size) := funext fun r => by
    show decide (((il r).length : Int) < size) = _
    rw [il_len]
  rw [e1]
  refine List.map_congr_left fun r _ => ?_
  show D.tup (il r ++ [D.int b]) = D.tup (il (r ++ [b]))
  rw [← il_app]
  rfl
theorem ll_loop (size : Int) : ∀ (k b : Nat) (rows : List (List Int)) (a2 a3 : Option SV), LL b rows → b + k ≤ 9 → (a2 = some (.lst (tups rows)) ∨ a2 = some (.imm (.lst (tups rows)))) → ∃ rows' b3, LL (b + k) rows' ∧
    ∃ b2, (b2 = some (.lst (tups rows')) ∨ b2 = some (.imm (.lst (tups rows')))) ∧ loopD (gN 3) llB (il ((List.range' b k).map fun (i : Nat) => (i : Int))) [some (.imm (.int n)), some (.imm (.int size)), a2, a3, none] = some (.nx, [some (.imm (.int n)), some (.imm (.int size)), b2, b3, none])
  | 0, b, rows, a2, a3, L, _, ha => ⟨rows, a3, L, a2, ha, rfl⟩
  | k + 1, b, rows, a2, a3, L, hk, ha => by
    have hl : rows.length ≤ 512 := Nat.le_trans L.len (by
      have : (2 : Nat) ^ b ≤ 2 ^ 9 := Nat.pow_le_pow_right (by decide) (by omega)
      exact this)
    obtain ⟨rows', b3, L', b2, hb, e⟩ := ll_loop size k (b + 1) (llS size b rows) (some (.lst (tups (llS size b rows)))) (some (.imm (.int b))) (L.step size) (by omega) (.inl rfl)
    refine ⟨rows', b3, by rw [show b + (k + 1) = b + 1 + k by omega]; exact L', b2, hb, ?_⟩
    rw [← e, List.range'_succ, List.map_cons, loop_il]
    have c := comp_pure (g := gN 4) (t := (dB (dOp (oInt fun i j => decide (i < j)) (dLenV 4) (dVar 1)))) (e := (dOp oAdd (dVar 4) (dTup (dCons (dVar 3) dNil)))) (vs := [4]) (s := [some (.imm (.int n)), some (.imm (.int size)), some (.imm (.lst (tups rows))), some (.imm (.int b)), none]) (llP size) (llF b) (tups rows) [] fun d hd => by
      obtain ⟨r, hr, rfl⟩ := List.mem_map.mp hd
      have hrl : r.length ≤ 9 := by
        have := len_in (n := b) (asc_nodup (L.asc r hr).1) (L.asc r hr).2
        omega
      refine ⟨[some (.imm (.int n)), some (.imm (.int size)), some (.imm (.lst (tups rows))), some (.imm (.int b)), some (.imm (.tup (il r)))], [some (.imm (.int n)), some (.imm (.int size)), some (.imm (.lst (tups rows))), some (.imm (.int b)), some (.imm (.tup (il r)))], rfl, ?_, fun _ => rfl, fun _ => ⟨.imm (llF b (.tup (il r))), [some (.imm (.int n)), some (.imm (.int size)), some (.imm (.lst (tups rows))), some (.imm (.int b)), some (.imm (.tup (il r)))], ?_, rfl, rfl⟩⟩
      · simp [llP]
      · have oa : oAdd (.tup (il r)) (.tup [.int (b : Int)]) = some (.imm (.tup (il r ++ [.int b]))) := by
          have := add_t r [(b : Int)] (by simp; omega)
          rw [← il_app] at this
          exact this
        simp [llF, oa]
    have ts := tups_step size b rows
    have tl : (tups rows).length = rows.length := by simp [tups]
    have fl : (((tups rows).filter (llP size)).map (llF b)).length ≤ 512 := by
      rw [List.length_map]
      exact Nat.le_trans (List.length_filter_le ..) (by rw [tl]; exact hl)
    rw [List.nil_append] at c
    generalize ((tups rows).filter (llP size)).map (llF b) = zs at *
    generalize tups rows = ts0 at *
    rcases ha with rfl | rfl <;> simp [llB, c, ← ts, tl, show rows.length ≤ 50000 by omega, show rows.length + zs.length ≤ 100000 by omega]
theorem lots_ev (h9 : n ≤ 9) (size : Int) (h0 : 0 ≤ size) : ∃ rows, F_law_lots [.int n, .int size] = some (.lst (tups rows)) ∧ rows.length ≤ 512 ∧ ∀ r ∈ rows, r.Pairwise (· < ·) ∧ ∀ m ∈ r, 0 ≤ m ∧ m < (n : Int) := by
  have L0 : LL 0 [[]] := ⟨⟨[], rfl, fun _ h => nomatch h⟩, fun r h => by rw [List.mem_singleton.mp h]; exact ⟨List.Pairwise.nil, fun _ h => nomatch h⟩, by decide⟩
  obtain ⟨rows, b3, L, b2, hb, e⟩ := ll_loop (n := n) size n 0 [[]] (some (.lst (tups [[]]))) none L0 (by omega) (.inl rfl)
  rw [Nat.zero_add] at L
  have hl : rows.length ≤ 512 := Nat.le_trans L.len (by
      have : (2 : Nat) ^ n ≤ 2 ^ 9 := Nat.pow_le_pow_right (by decide) (by omega)
      exact this)
  have et : (tab n fun i => i) = (List.range' 0 n).map fun (i : Nat) => (i : Int) := by
    unfold tab
    rw [List.range_eq_range']
  rw [← et] at e
  let out := rows.filter fun r => decide ((r.length : Int) = size)
  have c := comp_pure (g := gN 4) (t := (dB (dOp (oEq false) (dLenV 4) (dVar 1)))) (e := dVar 4) (vs := [4]) (s := [some (.imm (.int n)), some (.imm (.int size)), some (.imm (.lst (tups rows))), b3, none]) (fun d => match d with | .tup xs => decide ((xs.length : Int) = size) | _ => false) id (tups rows) [] fun d hd => by
    obtain ⟨r, hr, rfl⟩ := List.mem_map.mp hd
    have hrl : r.length ≤ 9 := by
      have := len_in (n := n) (asc_nodup (L.asc r hr).1) (L.asc r hr).2
      omega
    refine ⟨[some (.imm (.int n)), some (.imm (.int size)), some (.imm (.lst (tups rows))), b3, some (.imm (.tup (il r)))], [some (.imm (.int n)), some (.imm (.int size)), some (.imm (.lst (tups rows))), b3, some (.imm (.tup (il r)))], rfl, ?_, fun _ => rfl, fun _ => ⟨.imm (.tup (il r)), [some (.imm (.int n)), some (.imm (.int size)), some (.imm (.lst (tups rows))), b3, some (.imm (.tup (il r)))], ?_, rfl, rfl⟩⟩
    · simp
    · simp
  have ef : ((tups rows).filter fun d => match d with | .tup xs => decide ((xs.length : Int) = size) | _ => false) = tups out := by
    unfold tups
    rw [List.filter_map]
    congr 1
    refine List.filter_congr fun r _ => ?_
    show decide (((il r).length : Int) = size) = _
    rw [il_len]
  rw [ef, List.nil_append, List.map_id] at c
  have hne : (∀ r ∈ out, r ≠ []) ∨ out.length ≤ 1 := by
    by_cases q : size = 0
    · obtain ⟨rest, er, hr⟩ := L.hd
      refine .inr ?_
      have : out = [[]] := by
        show rows.filter _ = _
        rw [er, List.filter_cons_of_pos (by simp [q])]
        congr 1
        rw [List.filter_eq_nil_iff]
        intro r hr'
        have := hr r hr'
        simp only [q, decide_eq_true_eq]
        cases r with
        | nil => exact absurd rfl this
        | cons a b => simp; omega
      rw [this]
      exact Nat.le_refl _
    · refine .inl fun r hr e => ?_
      have := (List.mem_filter.mp hr).2
      simp only [decide_eq_true_eq] at this
      rw [e] at this
      exact q this.symm
  have so := sortX_r out hne
  have mem : ∀ r ∈ sortR out, r ∈ rows := fun r h => (List.mem_filter.mp ((sortR_perm out).mem_iff.mp h)).1
  refine ⟨sortR out, ?_, ?_, fun r h => L.asc r (mem r h)⟩
  · have eb : b_law_lots = (dSeq (dSet 2 (dLst (dCons (dTup dNil) dNil))) (dSeq (dFor (dRng1 (dCons (dVar 0) dNil)) (gN 3) llB)
      (dRet (dCB cSortX (dCons (dLc (dSeqI (dVar 2)) (gN 4) (dB (dOp (oEq false) (dLenV 4) (dVar 1))) (dVar 4) [4]) dNil))))) := rfl
    have r0 := fun s => rng1_nat n s (show n ≤ 1000000 by omega)
    have t1 : tups [[]] = [D.tup []] := rfl
    rw [t1] at e
    have tl : (tups rows).length = rows.length := by simp [tups]
    rcases hb with rfl | rfl <;> simp [F_law_lots, eb, r0, e, tab_len, show n ≤ 50000 by omega, c, so, tl, show rows.length ≤ 50000 by omega]
  · rw [(sortR_perm out).length_eq]
    exact Nat.le_trans (List.length_filter_le ..) hl
/-! ### counts that are told -/
def trF (n : Nat) (size : Int) : D → D
  | .tup [.int i, .int x] => .int (x + wO n size i)
  | d => d
theorem enF_do (size : Int) : ∀ (xs : List Int) (i : Int), (enF i xs).map (trF n size) = il (doF n size i xs)
  | [], _ => rfl
  | x :: xs, i => by
    rw [enF, List.map_cons, enF_do size xs (i + 1)]
    rfl
def pkE : DE := (dCallO 1 0 F_law_pick (dCons (dLst (dCons (dC (.int 0)) (dCons (dC (.int 1)) (dCons (dC (.int 2)) (dCons (dC (.int 5)) (dCons (dC (.int 0)) (dCons (dOp oPow (dC (.int 10)) (dC (.int 6))) dNil))))))) dNil))
theorem told_right_ev {k : Nat} {p : SV} (B : Bud (k + 20) p) : ∃ p', F_law_told_right p [] = some (.imm (.bl true), p') ∧ Bud k p' := by
  obtain ⟨r, p1, e1, r0, r1, B1⟩ := draw_ev (k := k + 19) (m := (23 : Int)) B ⟨by decide, by decide⟩
  obtain ⟨n, hn⟩ : ∃ n : Nat, 2 + r = (n : Int) := ⟨(2 + r).toNat, by omega⟩
  have h2 : 2 ≤ n := by omega
  have h24 : n ≤ 24 := by omega
  obtain ⟨size, p2, e2, z0, z1, B2⟩ := draw_ev (k := k + 18) (m := (n : Int) + 1) B1 ⟨by omega, by omega⟩
  have ten6 : oPow (.int 10) (.int 6) = some (.imm (.int 1000000)) := pow_i (sml (by decide)) 6 (by decide)
  obtain ⟨cs, s', e3, e4, e5, p3, rfl, B3⟩ := comp_draw (g := gN 5) (e := pkE) (vs := [5]) (fun k s => ∃ p, s = [some p, some (.imm (.int n)), none, none, none, none, none, none] ∧ Bud k p) (fun r => 0 ≤ r) 1
    (fun k s d h => by
      obtain ⟨p, rfl, B⟩ := h
      obtain ⟨r, p', e, hr, B'⟩ := pick_ev (k := k) B [0, 1, 2, 5, 0, 1000000] (by simp) (by simp)
      refine ⟨_, r, [some p', some (.imm (.int n)), none, none, none, some (.imm d), none, none], rfl, ?_, ?_, p', rfl, B'⟩
      · have : il [0, 1, 2, 5, 0, 1000000] = [D.int 0, .int 1, .int 2, .int 5, .int 0, .int 1000000] := rfl
        rw [this] at e
        simp [pkE, ten6, B.own, e, B'.own]
      · simp at hr
        omega)
    (il (tab (n / 2) fun i => i)) (k + 6) [some p2, some (.imm (.int n)), none, none, none, none, none, none] [] ⟨p2, rfl, B2.le (by rw [il_len, tab_len]; omega)⟩
  rw [il_len, tab_len] at e4
  rw [List.nil_append] at e3
  have dv := div_i (n : Int) 2 ⟨by decide, by decide⟩
  have r1 : ∀ s : S, rng1 ((n : Int) / 2) s = some (il (tab (n / 2) fun i => i), s) := fun s => by
    rw [show (n : Int) / 2 = ((n / 2 : Nat) : Int) by omega]
    exact rng1_nat (n / 2) s (by omega)
  have c := comp_map (g := gT [6, 7]) (e := (dOp oAdd (dVar 7) (dIf (dB (dOp (oEq false) (dOp oAdd (dOp oMul (dC (.int 2)) (dVar 6)) (dC (.int 2))) (dVar 1))) (dOp oSub (dOp oDiv (dVar 1) (dC (.int 2))) (dVar 2)) (dOp oSub (dVar 1) (dOp oMul (dC (.int 2)) (dVar 2)))))) (vs := [6, 7]) (s := [some p3, some (.imm (.int n)), some (.imm (.int size)), some (.imm (.lst (il cs))), none, none, none, none]) (trF n size) (enumD (il cs)) fun d hd => by
    obtain ⟨i, x, rfl⟩ := enum_mem hd
    refine ⟨[some p3, some (.imm (.int n)), some (.imm (.int size)), some (.imm (.lst (il cs))), none, none, some (.imm (.int i)), some (.imm (.int x))], .imm (.int (x + wO n size i)), [some p3, some (.imm (.int n)), some (.imm (.int size)), some (.imm (.lst (il cs))), none, none, some (.imm (.int i)), some (.imm (.int x))], rfl, ?_, rfl, rfl⟩
    unfold wO
    by_cases q : 2 * i + 2 = (n : Int)
    · rw [if_pos (by omega)]
      simp [mul_i1 s2, dv, q]
    · rw [if_neg (by omega)]
      simp [mul_i1 s2, dv, q]
  rw [enum_enF, enF_do, ← enum_enF] at c
  have l1 := left_out_ev (d1 := .lst (il cs)) (.inl rfl) h2 h24 z0 (by omega) e4 e5
  have l2 := left_out_ev (d1 := .tup (il cs)) (.inr rfl) h2 h24 z0 (by omega) e4 e5
  have le : (enumD (il cs)).length ≤ 50000 := by simp [enumD]; omega
  have ld : (doF n size 0 cs).length ≤ 50000 := by rw [doF_len]; omega
  refine ⟨p3, ?_, B3.le (by omega)⟩
  have eb : b_law_told_right = (dSeq (dSet 1 (dOp oAdd (dC (.int 2)) (dCallO 1 0 F_law_take (dCons (dC (.int 23)) dNil))))
  (dSeq (dPar [2, 3] (sCons (dCallO 1 0 F_law_take (dCons (dOp oAdd (dVar 1) (dC (.int 1))) dNil)) (sCons (dLc (dRng1 (dCons (dOp oDiv (dVar 1) (dC (.int 2))) dNil)) (gN 5) dYes pkE [5]) sNil)))
  (dSeq (dSet 4 (dLc (dEnum (dCons (dVar 3) dNil)) (gT [6, 7]) dYes (dOp oAdd (dVar 7) (dIf (dB (dOp (oEq false) (dOp oAdd (dOp oMul (dC (.int 2)) (dVar 6)) (dC (.int 2))) (dVar 1))) (dOp oSub (dOp oDiv (dVar 1) (dC (.int 2))) (dVar 2)) (dOp oSub (dVar 1) (dOp oMul (dC (.int 2)) (dVar 2))))) [6, 7]))
  (dRet (dAndV (dOp (oEq false) (dCallP 3 F_distances_left_out (dCons (dVar 1) (dCons (dVar 2) (dCons (dVar 3) dNil)))) (dCB cTuple (dCons (dVar 4) dNil))) (dOp (oEq false) (dCallP 3 F_distances_left_out (dCons (dVar 1) (dCons (dVar 2) (dCons (dCB cTuple (dCons (dVar 3) dNil)) dNil)))) (dCB cTuple (dCons (dVar 4) dNil)))))))) := rfl
  simp [F_law_told_right, eb, B.own, e1, B1.own, hn, e2, B2.own, dv, r1, tab_len, show n / 2 ≤ 50000 by omega, e3, B3.own, le, c, l1, l2, ld, show cs.length ≤ 50000 by omega]
end
end
end K12
/-! What is refused. -/
namespace K12
noncomputable section
open PySem PySem.Spec PyProof.Rows L2 Evl Sm
def br (x : Str) : D := .exc "BadRow" ["part"] [.str x]
def bn (x : Str) : D := .exc "BadNumber" ["part"] [.str x]
theorem heard_br (x : Str) : H_law_heard (some (br x)) = some (.imm (.tup [.str "row", .str x])) := by
  have e : H_law_heard (some (br x)) = outH (d_law_heard [none, some (.imm (br x)), none, none]) := rfl
  have k1 : oIn false (.bl true) (.lst [.bl true, .bl false, .bl false]) = some (.imm (.bl true)) := rfl
  have k2 : oIndex (.lst [.bl true, .bl false, .bl false]) [.bl true] = some (.imm (.int 0)) := rfl
  have k3 : oIx (.lst [.str "row", .str "number", .str "misfit"]) (.int 0) = some (.imm (.str "row")) := rfl
  rw [e]
  have a1 : cIsa isP [br x, .cls "BadRow"] = some (.imm (.bl true)) := rfl
  have a2 : cIsa isP [br x, .cls "BadNumber"] = some (.imm (.bl false)) := rfl
  have a3 : cIsa isP [br x, .cls "Misfit"] = some (.imm (.bl false)) := rfl
  have a4 : oXf xf_part "part" (br x) = some (.imm (.str x)) := rfl
  generalize br x = b at *
  simp [d_law_heard, a1, a2, a3, a4, k1, k2, k3, outH]
theorem heard_bn (x : Str) : H_law_heard (some (bn x)) = some (.imm (.tup [.str "number", .str x])) := by
  have e : H_law_heard (some (bn x)) = outH (d_law_heard [none, some (.imm (bn x)), none, none]) := rfl
  have k1 : oIn false (.bl true) (.lst [.bl false, .bl true, .bl false]) = some (.imm (.bl true)) := rfl
  have k2 : oIndex (.lst [.bl false, .bl true, .bl false]) [.bl true] = some (.imm (.int 1)) := rfl
  have k3 : oIx (.lst [.str "row", .str "number", .str "misfit"]) (.int 1) = some (.imm (.str "number")) := rfl
  rw [e]
  have a1 : cIsa isP [bn x, .cls "BadRow"] = some (.imm (.bl false)) := rfl
  have a2 : cIsa isP [bn x, .cls "BadNumber"] = some (.imm (.bl true)) := rfl
  have a3 : cIsa isP [bn x, .cls "Misfit"] = some (.imm (.bl false)) := rfl
  have a4 : oXf xf_part "part" (bn x) = some (.imm (.str x)) := rfl
  generalize bn x = b at *
  simp [d_law_heard, a1, a2, a3, a4, k1, k2, k3, outH]
theorem heard_no : H_law_heard none = some (.imm .non) := by
  have e : H_law_heard none = outH (d_law_heard [none, some (.imm .non), none, none]) := rfl
  have k1 : oIn false (.bl true) (.lst [.bl false, .bl false, .bl false]) = some (.imm (.bl false)) := rfl
  rw [e]
  have a1 : cIsa isP [.non, .cls "BadRow"] = some (.imm (.bl false)) := rfl
  have a2 : cIsa isP [.non, .cls "BadNumber"] = some (.imm (.bl false)) := rfl
  have a3 : cIsa isP [.non, .cls "Misfit"] = some (.imm (.bl false)) := rfl
  have a4 : cIsa isP [.non, .cls "NoDivisor"] = some (.imm (.bl false)) := rfl
  have a5 : cIsa isP [.non, .cls "TooMany"] = some (.imm (.bl false)) := rfl
  have a6 : oIs false .non .non = some (.imm (.bl true)) := rfl
  simp [d_law_heard, a1, a2, a3, a4, a5, a6, k1, outH]
theorem frz1_v (st : S) (i : Nat) : frz1 st i = match st[i]? with
    | some (some sv) => varS st i sv
    | _ => st := by
  unfold frz1
  split
  · rename_i d h; rw [h]; rfl
  · rename_i sv hn h; rw [h]; cases sv <;> first | rfl | exact absurd rfl (hn _)
  · rename_i h1 h2
    split
    · rename_i sv h; exact absurd h (h2 sv)
    · rfl
/-! ### rows -/
def noRow (d : D) : Prop := cIsa isR_Row [d, .cls "Row"] = some (.imm (.bl false))
theorem rr_no {d e : D} (h : noRow d) (x : Str) (he : e = .str x) : R_need_row [d, e] = some (br x) := by
  subst he
  unfold noRow at h
  simp [R_need_row, r_need_row, runX, h, br]
theorem rr_ok (xs : List Int) (d : D) : R_need_row [rowD xs, d] = none := by
  simp [R_need_row, r_need_row, runX]
theorem rl_no {d : D} (h : noRow d) : R_need_lot [d, .str "lot"] = some (br "lot") := by
  have r := rr_no h "lot" rfl
  simp [R_need_lot, r_need_lot, runX, r]
theorem rl_row (xs : List Int) (h : xs.all lotB = false) : R_need_lot [rowD xs, .str "lot"] = some (br "lot") := by
  simp [R_need_lot, r_need_lot, runX, rr_ok, need_row_r, h, br]
theorem rs_no {d : D} (h : noRow d) : R_spans [d] = some (br "row") := by
  have r := rr_no h "row" rfl
  simp [R_spans, r_spans, runX, r]
theorem rd_of {d : D} (h : R_need_lot [d, .str "lot"] = some (br "lot")) : R_distances [d] = some (br "lot") := by
  simp [R_distances, r_distances, runX, h]
theorem rc_of {d : D} (h : R_distances [d] = some (br "lot")) : R_coming [d] = some (br "lot") := by
  simp [R_coming, r_coming, runX, h]
theorem rn_of {d : D} (h : R_distances [d] = some (br "lot")) : R_not_coming [d] = some (br "lot") := by
  simp [R_not_coming, r_not_coming, runX, h]
/-! ### numbers -/
theorem kb_ni : kitB "NoneType" "int" = some false := by decide +kernel
theorem kb_bi : kitB "bool" "int" = some true := by decide +kernel
theorem kb_bb : kitB "bool" "bool" = some true := by decide +kernel
theorem kb_si : kitB "str" "int" = some false := by decide +kernel
theorem kb_li : kitB "list" "int" = some false := by decide +kernel
theorem kb_nl : kitB "NoneType" "list" = some false := by decide +kernel
theorem kb_nt : kitB "NoneType" "tuple" = some false := by decide +kernel
theorem kb_il : kitB "int" "list" = some false := by decide +kernel
theorem kb_it : kitB "int" "tuple" = some false := by decide +kernel
theorem kb_sl : kitB "str" "list" = some false := by decide +kernel
theorem kb_st : kitB "str" "tuple" = some false := by decide +kernel
theorem kb_dl : kitB "dict" "list" = some false := by decide +kernel
theorem kb_dt : kitB "dict" "tuple" = some false := by decide +kernel
theorem int_non : F_is_integer [.non] = some (.imm (.bl false)) := by simp [F_is_integer, b_is_integer, cIsi, tyN, kb_ni]
theorem int_bl (b : Bool) : F_is_integer [.bl b] = some (.imm (.bl false)) := by simp [F_is_integer, b_is_integer, cIsi, tyN, kb_bi, kb_bb]
theorem int_str (x : Str) : F_is_integer [.str x] = some (.imm (.bl false)) := by simp [F_is_integer, b_is_integer, cIsi, tyN, kb_si]
theorem int_lst (x : List D) : F_is_integer [.lst x] = some (.imm (.bl false)) := by simp [F_is_integer, b_is_integer, cIsi, tyN, kb_li]
theorem within_no {d : D} (h : F_is_integer [d] = some (.imm (.bl false))) (j k : D) : F_is_within [d, j, k] = some (.imm (.bl false)) := by
  simp [F_is_within, b_is_within, h]
theorem within_i (i j k : Int) (h : ¬ (j ≤ i ∧ i ≤ k)) : F_is_within [.int i, .int j, .int k] = some (.imm (.bl false)) := by
  by_cases c : j ≤ i
  · have c2 : ¬ i ≤ k := fun z => h ⟨c, z⟩
    simp [F_is_within, b_is_within, is_integer_i, c, c2]
  · simp [F_is_within, b_is_within, is_integer_i, c]
theorem rn_no {d e j k : D} (h : F_is_within [d, j, k] = some (.imm (.bl false))) (x : Str) (he : e = .str x) : R_need_number [d, e, j, k] = some (bn x) := by
  subst he
  simp [R_need_number, r_need_number, runX, h, bn]
theorem rn_ok {i j k : Int} (h : j ≤ i) (h' : i ≤ k) (e : D) : R_need_number [.int i, e, .int j, .int k] = none := by
  simp [R_need_number, r_need_number, runX, is_within_i i j k h h']
def bads : List D := [.non, .int 1, .int 25, .str "8", .bl true, .lst [.int 8], .int 0, .int (-3)]
theorem bads_no {d : D} (h : d ∈ bads) : R_need_many [d] = some (bn "many") := by
  have un : ∀ {d : D}, F_is_within [d, .int 2, .int 24] = some (.imm (.bl false)) → R_need_many [d] = some (bn "many") := fun {d} h => by
    have r := rn_no h "many" rfl
    simp [R_need_many, r_need_many, runX, r]
  simp only [bads, List.mem_cons, List.not_mem_nil, or_false] at h
  rcases h with rfl | rfl | rfl | rfl | rfl | rfl | rfl | rfl
  · exact un (within_no int_non _ _)
  · exact un (within_i _ _ _ (by decide))
  · exact un (within_i _ _ _ (by decide))
  · exact un (within_no (int_str _) _ _)
  · exact un (within_no (int_bl _) _ _)
  · exact un (within_no (int_lst _) _ _)
  · exact un (within_i _ _ _ (by decide))
  · exact un (within_i _ _ _ (by decide))
def wrongs : List D := [.non, .int (-1), .int 9, .str "4", .bl false, .lst [.int 4]]
theorem wrongs_no {d : D} (h : d ∈ wrongs) : R_need_number [d, .str "size", .int 0, .int 8] = some (bn "size") := by
  simp only [wrongs, List.mem_cons, List.not_mem_nil, or_false] at h
  rcases h with rfl | rfl | rfl | rfl | rfl | rfl
  · exact rn_no (within_no int_non _ _) _ rfl
  · exact rn_no (within_i _ _ _ (by decide)) _ rfl
  · exact rn_no (within_i _ _ _ (by decide)) _ rfl
  · exact rn_no (within_no (int_str _) _ _) _ rfl
  · exact rn_no (within_no (int_bl _) _ _) _ rfl
  · exact rn_no (within_no (int_lst _) _ _) _ rfl
theorem rm8 : R_need_many [.int 8] = none := by
  have := rn_ok (i := 8) (j := 2) (k := 24) (by decide) (by decide) (.str "many")
  simp [R_need_many, r_need_many, runX, this]
theorem fm8 : F_need_many [.int 8] = some (.imm .non) := need_many_i 8 (by decide) (by decide)
theorem fs8 (s : Int) (h0 : 0 ≤ s) (h1 : s ≤ 8) : F_need_number [.int s, .str "size", .int 0, .int 8] = some (.imm .non) := by
  simp [F_need_number, b_need_number, is_within_i s 0 8 h0 h1]
theorem nc_1 {d : D} (h : R_need_many [d] = some (bn "many")) (e c : D) : R_distances_left_out [d, e, c] = some (bn "many") := by
  simp [R_distances_left_out, r_distances_left_out, R_need_counts, r_need_counts, runX, h]
theorem nc_2 {d : D} (h : R_need_number [d, .str "size", .int 0, .int 8] = some (bn "size")) (c : D) : R_distances_left_out [.int 8, d, c] = some (bn "size") := by
  simp [R_distances_left_out, r_distances_left_out, R_need_counts, r_need_counts, runX, rm8, fm8, h]
/-- no counts of a ring of eight beats -/
def noC (d : D) : Prop := (dOr (dNot (dB (dCallP 1 F_are_integers (dCons (dVar 2) dNil)))) (dOr (dB (dOp (oEq true) (dLenV 2) (dOp oDiv (dVar 0) (dC (.int 2))))) (dNot (dB (dCB cAll (dCons (dLc (dSeqI (dVar 2)) (gN 3) dYes (dOp (oInt fun i j => decide (j ≤ i)) (dVar 3) (dC (.int 0))) [3]) dNil)))))) [some (.imm (.int 8)), some (.imm (.int 4)), some (.imm d), none] = some (true, [some (.imm (.int 8)), some (.imm (.int 4)), some (.imm d), none])
theorem nc_3 {d : D} (h : noC d) : R_distances_left_out [.int 8, .int 4, d] = some (bn "counts") := by
  have r := rn_ok (i := 4) (j := 0) (k := 8) (by decide) (by decide) (.str "size")
  have f := fs8 4 (by decide) (by decide)
  have e : R_need_counts [.int 8, .int 4, d] = some (bn "counts") := by
    unfold noC at h
    simp [R_need_counts, r_need_counts, runX, rm8, fm8, r, f, -ap_Or, h, bn]
  simp [R_distances_left_out, r_distances_left_out, runX, e]
end
end K12
/-! What is no counts; what is refused. -/
namespace K12
noncomputable section
open PySem PySem.Spec PyProof.Rows L2 Evl Sm
@[simp ↓] theorem ap_CallV (tb : Tbl) (i NN : Nat) (r : DA) (st : S) : dCallV tb i NN r st = match st[i]? with
  | some (some (.imm (.cls c))) => (match tbF tb c with
    | some p => (match r st with
      | none => none
      | some (xs, s1) => if xs.length = NN then (match p.2.1 xs with
        | none => none
        | some z => some (z, s1)) else none)
    | none => none)
  | _ => none := (rfl)
@[simp ↓] theorem ap_xCallV (tb : Tbl) (i NN : Nat) (r : DA) (ra : DX) (st : S) : xCallV tb i NN r ra st = match st[i]? with
  | some (some (.imm (.cls c))) => (match tbF tb c with
    | some p => (match ra st with
      | some x => some x
      | none => match r st with
        | some (xs, _) => if xs.length = NN then p.2.2 xs else none
        | none => none)
    | none => none)
  | _ => none := (rfl)
theorem tb_d : tbF tbV1 "distances" = some (("distances" : Str), F_distances, R_distances) := rfl
theorem tb_c : tbF tbV1 "coming" = some (("coming" : Str), F_coming, R_coming) := rfl
theorem tb_n : tbF tbV1 "not_coming" = some (("not_coming" : Str), F_not_coming, R_not_coming) := rfl
theorem div8 : oDiv (.int 8) (.int 2) = some (.imm (.int 4)) := div_i 8 2 ⟨by decide, by decide⟩
theorem noC_ai {d : D} (h : F_are_integers [d] = some (.imm (.bl false))) : noC d := by
  unfold noC
  simp [h]
theorem noC_len {cs : List Int} (h : cs.length ≠ 4) (hl : cs.length ≤ 50000) : noC (.lst (il cs)) := by
  unfold noC
  have a := are_integers_l cs hl
  have : ¬ ((cs.length : Int) = 4) := by omega
  simp [a, div8, this]
theorem noC_neg {cs : List Int} (h : cs.length = 4) (hn : ∃ c ∈ cs, c < 0) : noC (.lst (il cs)) := by
  unfold noC
  have a := are_integers_l cs (by omega)
  have c := comp_gN (e := (dOp (oInt fun i j => decide (j ≤ i)) (dVar 3) (dC (.int 0)))) (v := 3) (s := [some (.imm (.int 8)), some (.imm (.int 4)), some (.imm (.lst (il cs))), none]) (ns := cs) (fun x => D.bl (decide (0 ≤ x))) rfl fun i _ => by simp
  have e : cAll [.lst (cs.map fun x => D.bl (decide (0 ≤ x)))] = some (.imm (.bl false)) := by
    have := all_l (cs.map fun x => decide (0 ≤ x))
    rw [List.map_map] at this
    rw [show (cs.map fun x => D.bl (decide (0 ≤ x))) = cs.map (D.bl ∘ fun x => decide (0 ≤ x)) from rfl, this]
    congr 3
    rw [List.all_map, Bool.eq_false_iff]
    intro z
    obtain ⟨c, hc, h0⟩ := hn
    have := List.all_eq_true.mp z c hc
    simp at this
    omega
  have l4 : ((cs.length : Nat) : Int) = 4 := by omega
  simp [a, div8, l4, c, e, show cs.length ≤ 50000 by omega]
theorem notl {d : D} (h : F_is_listed [d] = some (.imm (.bl false))) : F_are_integers [d] = some (.imm (.bl false)) := by
  simp [F_are_integers, b_are_integers, h]
inductive AreI : List D → List Bool → Prop
  | nil : AreI [] []
  | cons {d : D} {b : Bool} {ds : List D} {bs : List Bool} : F_is_integer [d] = some (.imm (.bl b)) → AreI ds bs → AreI (d :: ds) (b :: bs)
theorem ail {ds : List D} (hl : ds.length ≤ 10) (bs : List Bool) (hb : AreI ds bs) : F_are_integers [.lst ds] = some (.imm (.bl (bs.all id))) := by
  have key : ∀ (ds : List D) (bs : List Bool) (acc : List D), AreI ds bs → ∀ x : D, compD (gN 1) dYes (dCallP 1 F_is_integer (dCons (dVar 1) dNil)) [1] ds [some (.imm x), none] acc = some (acc ++ bs.map D.bl, [some (.imm x), none]) := by
    intro ds
    induction ds with
    | nil => intro bs acc h x; cases h; simp [compD]
    | cons d ds ih =>
      intro bs acc h x
      cases h with
      | cons h1 h2 =>
        rename_i b bs
        have e := ih bs (acc ++ [.bl b]) h2 x
        simp only [compD, ap_gN, List.set_cons_succ, List.set_cons_zero]
        simp [h1, wipeS, dYes]
        simpa using e
  have c := key ds bs [] hb (.lst ds)
  rw [List.nil_append] at c
  simp [F_are_integers, b_are_integers, is_listed_l, c, show ds.length ≤ 50000 by omega]
theorem lis_non : F_is_listed [.non] = some (.imm (.bl false)) := by simp [F_is_listed, b_is_listed, cIsi, tyN, tyNames, kitAnyB, kb_nl, kb_nt]
theorem lis_int (i : Int) : F_is_listed [.int i] = some (.imm (.bl false)) := by simp [F_is_listed, b_is_listed, cIsi, tyN, tyNames, kitAnyB, kb_il, kb_it]
theorem lis_str (x : Str) : F_is_listed [.str x] = some (.imm (.bl false)) := by simp [F_is_listed, b_is_listed, cIsi, tyN, tyNames, kitAnyB, kb_sl, kb_st]
theorem lis_dict (ks : List Key) (xs : List D) : F_is_listed [.dK ks xs] = some (.imm (.bl false)) := by simp [F_is_listed, b_is_listed, cIsi, tyN, tyNames, kitAnyB, kb_dl, kb_dt]
def ills : List D := [.non, .int 5, .str "2121", .lst [.int 2, .int 1, .int 2], .lst [.int 2, .int 1, .int 2, .int 1, .int 0], .lst [.int 2, .int 1, .int 2, .int (-1)], .lst [.int 2, .int 1, .int 2, .non], .lst [.int 2, .int 1, .int 2, .bl true], .dK [] [], .lst []]
theorem ills_no {d : D} (h : d ∈ ills) : noC d := by
  simp only [ills, List.mem_cons, List.not_mem_nil, or_false] at h
  rcases h with rfl | rfl | rfl | rfl | rfl | rfl | rfl | rfl | rfl | rfl
  · exact noC_ai (notl lis_non)
  · exact noC_ai (notl (lis_int _))
  · exact noC_ai (notl (lis_str _))
  · exact noC_len (cs := [2, 1, 2]) (by decide) (by decide)
  · exact noC_len (cs := [2, 1, 2, 1, 0]) (by decide) (by decide)
  · exact noC_neg (cs := [2, 1, 2, -1]) (by decide) ⟨-1, by decide, by decide⟩
  · exact noC_ai (ail (by decide) [true, true, true, false] (.cons (is_integer_i _) (.cons (is_integer_i _) (.cons (is_integer_i _) (.cons int_non .nil)))))
  · exact noC_ai (ail (by decide) [true, true, true, false] (.cons (is_integer_i _) (.cons (is_integer_i _) (.cons (is_integer_i _) (.cons (int_bl _) .nil)))))
  · exact noC_ai (notl (lis_dict _ _))
  · exact noC_len (cs := []) (by decide) (by decide)
def bents : List D := [.non, .bl true, .int (-1), .str "1"]
theorem bents_no {d : D} (h : d ∈ bents) {r : Int} (r0 : 0 ≤ r) (r1 : r < 4) : noC (.lst ([D.int 2, .int 1, .int 2, .int 1].set r.toNat d)) := by
  have r4 : r = 0 ∨ r = 1 ∨ r = 2 ∨ r = 3 := by omega
  simp only [bents, List.mem_cons, List.not_mem_nil, or_false] at h
  have ni : ∀ {d : D}, F_is_integer [d] = some (.imm (.bl false)) → noC (.lst ([D.int 2, .int 1, .int 2, .int 1].set r.toNat d)) := fun {d} hd => by
    rcases r4 with rfl | rfl | rfl | rfl
    · exact noC_ai (ail (by simp) [false, true, true, true] (.cons hd (.cons (is_integer_i _) (.cons (is_integer_i _) (.cons (is_integer_i _) .nil)))))
    · exact noC_ai (ail (by simp) [true, false, true, true] (.cons (is_integer_i _) (.cons hd (.cons (is_integer_i _) (.cons (is_integer_i _) .nil)))))
    · exact noC_ai (ail (by simp) [true, true, false, true] (.cons (is_integer_i _) (.cons (is_integer_i _) (.cons hd (.cons (is_integer_i _) .nil)))))
    · exact noC_ai (ail (by simp) [true, true, true, false] (.cons (is_integer_i _) (.cons (is_integer_i _) (.cons (is_integer_i _) (.cons hd .nil)))))
  rcases h with rfl | rfl | rfl | rfl
  · exact ni int_non
  · exact ni (int_bl _)
  · rcases r4 with rfl | rfl | rfl | rfl
    · exact noC_neg (cs := [-1, 1, 2, 1]) (by decide) ⟨-1, by decide, by decide⟩
    · exact noC_neg (cs := [2, -1, 2, 1]) (by decide) ⟨-1, by decide, by decide⟩
    · exact noC_neg (cs := [2, 1, -1, 1]) (by decide) ⟨-1, by decide, by decide⟩
    · exact noC_neg (cs := [2, 1, 2, -1]) (by decide) ⟨-1, by decide, by decide⟩
  · exact ni (int_str _)
theorem xs_nn (d : DS) : xSeq d xNo xNo = xNo := funext fun st => by
  show (match d st with | some (.nx, s1) => none | _ => none) = (none : Option D)
  split <;> rfl
/-- counts that are right: nothing is raised -/
theorem nc_4 : R_distances_left_out [.int 8, .int 8, .lst [.int 8, .int 8, .int 8, .int 4]] = none ∧ ∃ x, F_distances_left_out [.int 8, .int 8, .lst [.int 8, .int 8, .int 8, .int 4]] = some x := by
  have hc : ∀ c ∈ [(8 : Int), 8, 8, 4], 0 ≤ c := by decide
  have l : F_distances_left_out [.int 8, .int 8, .lst [.int 8, .int 8, .int 8, .int 4]] = _ := left_out_ev (n := 8) (d1 := .lst (il [8, 8, 8, 4])) (cs := [8, 8, 8, 4]) (.inl rfl) (by decide) (by decide) (size := 8) (by decide) (by decide) rfl hc
  have nc : F_need_counts [.int 8, .int 8, .lst [.int 8, .int 8, .int 8, .int 4]] = some (.imm .non) := need_counts_ev (n := 8) (d1 := .lst (il [8, 8, 8, 4])) (cs := [8, 8, 8, 4]) (.inl rfl) (by decide) (by decide) (size := 8) (by decide) (by decide) rfl hc
  have r := rn_ok (i := 8) (j := 0) (k := 8) (by decide) (by decide) (.str "size")
  have f := fs8 8 (by decide) (by decide)
  have a : F_are_integers [.lst [.int 8, .int 8, .int 8, .int 4]] = some (.imm (.bl true)) := are_integers_l [8, 8, 8, 4] (by decide)
  have c : compD (gN 3) dYes (dOp (oInt fun i j => decide (j ≤ i)) (dVar 3) (dC (.int 0))) [3] [.int 8, .int 8, .int 8, .int 4] [some (.imm (.int 8)), some (.imm (.int 8)), some (.imm (.lst [.int 8, .int 8, .int 8, .int 4])), none] [] = some ([.bl true, .bl true, .bl true, .bl true], [some (.imm (.int 8)), some (.imm (.int 8)), some (.imm (.lst [.int 8, .int 8, .int 8, .int 4])), none]) :=
    comp_gN (e := (dOp (oInt fun i j => decide (j ≤ i)) (dVar 3) (dC (.int 0)))) (v := 3) (s := [some (.imm (.int 8)), some (.imm (.int 8)), some (.imm (.lst [.int 8, .int 8, .int 8, .int 4])), none]) (ns := [8, 8, 8, 4]) (fun x => D.bl (decide (0 ≤ x))) rfl fun i _ => by simp
  have at_ : cAll [.lst [.bl true, .bl true, .bl true, .bl true]] = some (.imm (.bl true)) := all_true [0, 0, 0, 0]
  have e : R_need_counts [.int 8, .int 8, .lst [.int 8, .int 8, .int 8, .int 4]] = none := by
    simp [R_need_counts, r_need_counts, runX, rm8, fm8, r, f, a, div8, c, at_]
  refine ⟨?_, _, l⟩
  simp [R_distances_left_out, r_distances_left_out, runX, nc, e]
  split <;> rfl
end
end K12
set_option maxHeartbeats 8000000
/-! What is refused, the first of it. -/
namespace K12
noncomputable section
open PySem PySem.Spec PyProof.Rows L2 Evl Sm
theorem ixd (ds : List D) (i : Int) (h0 : 0 ≤ i) (h1 : i < ds.length) : ∃ d, oIx (.lst ds) (.int i) = some (.imm d) ∧ d ∈ ds := by
  have hlt : i.toNat < ds.length := by omega
  refine ⟨ds[i.toNat], ?_, List.getElem_mem _⟩
  show (atI ds i).map SV.imm = _
  unfold atI
  rw [ixN_ok ds.length i h0 h1]
  simp [hlt]
theorem pickD_ev {k : Nat} {p : SV} (B : Bud (k + 1) p) (ds : List D) (h0 : ds ≠ []) (h1 : ds.length < 1000) :
    ∃ (d : D) (p' : SV), F_law_pick p [.lst ds] = some (.imm d, p') ∧ d ∈ ds ∧ Bud k p' := by
  have hl : 0 < ds.length := List.length_pos_iff.mpr h0
  obtain ⟨r, p', e, r0, r1, B'⟩ := draw_ev (m := (ds.length : Int)) B ⟨by omega, by omega⟩
  obtain ⟨d, ix, hd⟩ := ixd ds r r0 r1
  refine ⟨d, p', ?_, hd, B'⟩
  simp [F_law_pick, b_law_pick, B.own, e, B'.own, ix]
def odds : List D := [.non, .int 5, .str "1 0 1", .lst [.int 1, .int 0], .tup [.int 0, .int 1, .int 1]]
theorem odds_no {d : D} (h : d ∈ odds) : noRow d := by
  simp only [odds, List.mem_cons, List.not_mem_nil, or_false] at h
  rcases h with rfl | rfl | rfl | rfl | rfl <;> rfl
def rowL : List D := [.lst [.int 0, .int 2], .lst [.int 1, .int (-1), .int 0], .lst [.int 0, .int 0, .int 1, .int 5]]
theorem rowL_no {d : D} (h : d ∈ rowL) : ∃ xs : List Int, F_Rowx__initx_ (.ins "Row" [] []) [d] = some (.imm .non, rowS xs) ∧ xs.all lotB = false := by
  simp only [rowL, List.mem_cons, List.not_mem_nil, or_false] at h
  rcases h with rfl | rfl | rfl
  · exact ⟨[0, 2], init_row [0, 2] (by decide) (by decide), by decide⟩
  · exact ⟨[1, -1, 0], init_row [1, -1, 0] (by decide) (by decide), by decide⟩
  · exact ⟨[0, 0, 1, 5], init_row [0, 0, 1, 5] (by decide) (by decide), by decide⟩
def tL : D := .tup [.str "row", .str "lot"]
def iB : DS := (dDrop (dApp 3 (dLam H_law_heard [4, 5] (dCallV tbV1 5 1 (dCons (dVar 4) dNil)) (xCallV tbV1 5 1 (dCons (dVar 4) dNil) xNo))))
theorem in_loop {v : D} (h : R_distances [v] = some (br "lot")) (A0 A1 A2 A5 A6 A7 A8 A9 : Option SV) (hs : List D) (hl : hs.length ≤ 100) :
    loopD (gN 5) iB [.cls "distances", .cls "coming", .cls "not_coming"] [A0, A1, A2, some (.lst hs), some (.imm v), A5, A6, A7, A8, A9] = some (.nx, [A0, A1, A2, some (.lst (hs ++ [tL, tL, tL])), some (.imm v), some (.imm (.cls "not_coming")), A6, A7, A8, A9]) := by
  have h2 := rc_of h
  have h3 := rn_of h
  have hb := heard_br "lot"
  simp [loopD, gN, iB, frzL, frz1_v, blind, blind1, tb_d, tb_c, tb_n, h, h2, h3, hb, tL, show hs.length < 100000 by omega, show hs.length + 1 < 100000 by omega, show hs.length + 1 + 1 < 100000 by omega, show hs.length + 2 < 100000 by omega]
def oB : DS := (dFor (dSeqI (dTup (dCons (dC (.cls "distances")) (dCons (dC (.cls "coming")) (dCons (dC (.cls "not_coming")) dNil))))) (gN 5) iB)
theorem out_loop {d : D} (hd : noRow d) {xs : List Int} (hx : xs.all lotB = false) (A0 A1 A2 A6 A7 A8 A9 : Option SV) (hs : List D) (hl : hs.length ≤ 50) :
    loopD (gN 4) oB [d, rowD xs] [A0, A1, A2, some (.lst hs), none, none, A6, A7, A8, A9] = some (.nx, [A0, A1, A2, some (.lst (hs ++ [tL, tL, tL] ++ [tL, tL, tL])), some (.imm (rowD xs)), some (.imm (.cls "not_coming")), A6, A7, A8, A9]) := by
  have e1 := in_loop (rd_of (rl_no hd)) A0 A1 A2 none A6 A7 A8 A9 hs (by omega)
  have e2 := in_loop (rd_of (rl_row xs hx)) A0 A1 A2 (some (.imm (.cls "not_coming"))) A6 A7 A8 A9 (hs ++ [tL, tL, tL]) (by simp; omega)
  generalize rowD xs = rd at *
  simp only [loopD, ap_gN, List.set_cons_succ, List.set_cons_zero]
  simp [oB, e1, e2]
end
end K12
set_option maxHeartbeats 8000000
/-! What is refused is refused. -/
namespace K12
noncomputable section
open PySem PySem.Spec PyProof.Rows L2 Evl Sm
@[simp] theorem frz_dK (ks : List Key) (xs : List D) : (SV.dK ks xs).frz = D.dK ks xs := (rfl)
def t0 : D := .tup [.str "row", .str "row"]
def tN (x : Str) : D := .tup [.str "number", .str x]
theorem q1 : oEq true (.lst [t0, tL, tL, tL, tL, tL, tL]) (.lst [t0, tL, tL, tL, tL, tL, tL]) = some (.imm (.bl false)) := by kernel_rfl
theorem q2 : oEq true (tN "counts") (tN "counts") = some (.imm (.bl false)) := by kernel_rfl
theorem q3 : oEq false (.lst [tN "many", tN "size", tN "counts", .non]) (.lst [tN "many", tN "size", tN "counts", .non]) = some (.imm (.bl true)) := by kernel_rfl
theorem om6 : oMul (.lst [tL]) (.int 6) = some (.lst [tL, tL, tL, tL, tL, tL]) := by
  rw [mul_l, if_pos ⟨by decide, by decide, by decide⟩]
  rfl
theorem refused_ev {k : Nat} {p : SV} (B : Bud (k + 10) p) : ∃ p', F_law_refused_right p [] = some (.imm (.bl true), p') ∧ Bud k p' := by
  obtain ⟨odd, p1, e1, ho, B1⟩ := pickD_ev (k := k + 9) B odds (by simp [odds]) (by decide)
  obtain ⟨rl, p2, e2, hr, B2⟩ := pickD_ev (k := k + 8) B1 rowL (by simp [rowL]) (by decide)
  obtain ⟨bad, p3, e3, hb, B3⟩ := pickD_ev (k := k + 7) B2 bads (by simp [bads]) (by decide)
  obtain ⟨wr, p4, e4, hw, B4⟩ := pickD_ev (k := k + 6) B3 wrongs (by simp [wrongs]) (by decide)
  obtain ⟨il1, p5, e5, hi, B5⟩ := pickD_ev (k := k + 5) B4 ills (by simp [ills]) (by decide)
  obtain ⟨be, p6, e6, hbe, B6⟩ := pickD_ev (k := k + 4) B5 bents (by simp [bents]) (by decide)
  obtain ⟨r, p7, e7, r0, r1, B7⟩ := draw_ev (k := k + 3) (m := (4 : Int)) B6 ⟨by decide, by decide⟩
  obtain ⟨xs, it, hx⟩ := rowL_no hr
  have no := odds_no ho
  have ol := out_loop no hx (some p2) (some (.imm odd)) (some (.imm (rowD xs))) none none none none [t0] (by decide)
  have h1 := rs_no no
  have h2 := nc_3 (bents_no hbe r0 r1)
  have h3 := nc_1 (bads_no hb) wr il1
  have h4 := nc_2 (wrongs_no hw) il1
  have h5 := nc_3 (ills_no hi)
  obtain ⟨h6, x6, f6⟩ := nc_4
  have ix := ixN_ok 4 r r0 r1
  have b1 := heard_br "row"
  have b2 := heard_bn "many"
  have b3 := heard_bn "size"
  have b4 := heard_bn "counts"
  have b5 := heard_no
  simp only [odds] at e1
  simp only [rowL] at e2
  simp only [bads] at e3
  simp only [wrongs] at e4
  simp only [ills] at e5
  simp only [bents] at e6
  have o1 := B.own
  have o2 := B1.own
  have o3 := B2.own
  have o4 := B3.own
  have o5 := B4.own
  have o6 := B5.own
  have o7 := B6.own
  have o8 := B7.own
  have eb : b_law_refused_right = (dSeq (dSet 1 (dCallO 1 0 F_law_pick (dCons (dLst (dCons (dC .non) (dCons (dC (.int 5)) (dCons (dC (.str "1 0 1")) (dCons (dLst (dCons (dC (.int 1)) (dCons (dC (.int 0)) dNil))) (dCons (dTup (dCons (dC (.int 0)) (dCons (dC (.int 1)) (dCons (dC (.int 1)) dNil)))) dNil)))))) dNil)))
  (dSeq (dSet 2 (dMake "Row" 1 F_Rowx__initx_ (dCons (dCallO 1 0 F_law_pick (dCons (dLst (dCons (dLst (dCons (dC (.int 0)) (dCons (dC (.int 2)) dNil))) (dCons (dLst (dCons (dC (.int 1)) (dCons (dUn oNeg (dC (.int 1))) (dCons (dC (.int 0)) dNil)))) (dCons (dLst (dCons (dC (.int 0)) (dCons (dC (.int 0)) (dCons (dC (.int 1)) (dCons (dC (.int 5)) dNil))))) dNil)))) dNil)) dNil)))
  (dSeq (dSet 3 (dLst (dCons (dLam H_law_heard [1] (dCallP 1 F_spans (dCons (dVar 1) dNil)) (xCall 1 R_spans (dCons (dVar 1) dNil) xNo)) dNil)))
  (dSeq (dFor (dSeqI (dTup (dCons (dVar 1) (dCons (dVar 2) dNil)))) (gN 4) oB)
  (dSeq (dIfS (dB (dOp (oEq true) (dVar 3) (dOp oAdd (dLst (dCons (dTup (dCons (dC (.str "row")) (dCons (dC (.str "row")) dNil))) dNil)) (dOp oMul (dLst (dCons (dTup (dCons (dC (.str "row")) (dCons (dC (.str "lot")) dNil))) dNil)) (dC (.int 6)))))) (dRet (dC (.bl false))) dNext)
  (dSeq (dPar [6, 7] (sCons (dCallO 1 0 F_law_pick (dCons (dLst (dCons (dC .non) (dCons (dC (.int 1)) (dCons (dC (.int 25)) (dCons (dC (.str "8")) (dCons (dC (.bl true)) (dCons (dLst (dCons (dC (.int 8)) dNil)) (dCons (dC (.int 0)) (dCons (dUn oNeg (dC (.int 3))) dNil))))))))) dNil)) (sCons (dCallO 1 0 F_law_pick (dCons (dLst (dCons (dC .non) (dCons (dUn oNeg (dC (.int 1))) (dCons (dC (.int 9)) (dCons (dC (.str "4")) (dCons (dC (.bl false)) (dCons (dLst (dCons (dC (.int 4)) dNil)) dNil))))))) dNil)) sNil)))
  (dSeq (dSet 8 (dCallO 1 0 F_law_pick (dCons (dLst (dCons (dC .non) (dCons (dC (.int 5)) (dCons (dC (.str "2121")) (dCons (dLst (dCons (dC (.int 2)) (dCons (dC (.int 1)) (dCons (dC (.int 2)) dNil)))) (dCons (dLst (dCons (dC (.int 2)) (dCons (dC (.int 1)) (dCons (dC (.int 2)) (dCons (dC (.int 1)) (dCons (dC (.int 0)) dNil)))))) (dCons (dLst (dCons (dC (.int 2)) (dCons (dC (.int 1)) (dCons (dC (.int 2)) (dCons (dUn oNeg (dC (.int 1))) dNil))))) (dCons (dLst (dCons (dC (.int 2)) (dCons (dC (.int 1)) (dCons (dC (.int 2)) (dCons (dC .non) dNil))))) (dCons (dLst (dCons (dC (.int 2)) (dCons (dC (.int 1)) (dCons (dC (.int 2)) (dCons (dC (.bl true)) dNil))))) (dCons dNewK (dCons (dLst dNil) dNil))))))))))) dNil)))
  (dSeq (dSet 9 (dLst (dCons (dC (.int 2)) (dCons (dC (.int 1)) (dCons (dC (.int 2)) (dCons (dC (.int 1)) dNil))))))
  (dSeq (dSetIx 9 (dCallO 1 0 F_law_pick (dCons (dLst (dCons (dC .non) (dCons (dC (.bl true)) (dCons (dUn oNeg (dC (.int 1))) (dCons (dC (.str "1")) dNil))))) dNil)) (dCallO 1 0 F_law_take (dCons (dC (.int 4)) dNil)))
  (dSeq (dIfS (dB (dOp (oEq true) (dLam H_law_heard [9] (dCallP 3 F_distances_left_out (dCons (dC (.int 8)) (dCons (dC (.int 4)) (dCons (dVar 9) dNil)))) (xCall 3 R_distances_left_out (dCons (dC (.int 8)) (dCons (dC (.int 4)) (dCons (dVar 9) dNil))) xNo)) (dTup (dCons (dC (.str "number")) (dCons (dC (.str "counts")) dNil))))) (dRet (dC (.bl false))) dNext)
  (dSeq (dSet 3 (dLst (dCons (dLam H_law_heard [6, 7, 8] (dCallP 3 F_distances_left_out (dCons (dVar 6) (dCons (dVar 7) (dCons (dVar 8) dNil)))) (xCall 3 R_distances_left_out (dCons (dVar 6) (dCons (dVar 7) (dCons (dVar 8) dNil))) xNo)) dNil)))
  (dSeq (dDrop (dApp 3 (dLam H_law_heard [7, 8] (dCallP 3 F_distances_left_out (dCons (dC (.int 8)) (dCons (dVar 7) (dCons (dVar 8) dNil)))) (xCall 3 R_distances_left_out (dCons (dC (.int 8)) (dCons (dVar 7) (dCons (dVar 8) dNil))) xNo))))
  (dSeq (dDrop (dApp 3 (dLam H_law_heard [8] (dCallP 3 F_distances_left_out (dCons (dC (.int 8)) (dCons (dC (.int 4)) (dCons (dVar 8) dNil)))) (xCall 3 R_distances_left_out (dCons (dC (.int 8)) (dCons (dC (.int 4)) (dCons (dVar 8) dNil))) xNo))))
  (dSeq (dDrop (dApp 3 (dLam H_law_heard [] (dCallP 3 F_distances_left_out (dCons (dC (.int 8)) (dCons (dC (.int 8)) (dCons (dLst (dCons (dC (.int 8)) (dCons (dC (.int 8)) (dCons (dC (.int 8)) (dCons (dC (.int 4)) dNil))))) dNil)))) (xCall 3 R_distances_left_out (dCons (dC (.int 8)) (dCons (dC (.int 8)) (dCons (dLst (dCons (dC (.int 8)) (dCons (dC (.int 8)) (dCons (dC (.int 8)) (dCons (dC (.int 4)) dNil))))) dNil))) xNo))))
  (dRet (dOp (oEq false) (dVar 3) (dLst (dCons (dTup (dCons (dC (.str "number")) (dCons (dC (.str "many")) dNil))) (dCons (dTup (dCons (dC (.str "number")) (dCons (dC (.str "size")) dNil))) (dCons (dTup (dCons (dC (.str "number")) (dCons (dC (.str "counts")) dNil))) (dCons (dC .non) dNil))))))))))))))))))))) := rfl
  refine ⟨p7, ?_, B7.le (by omega)⟩
  rw [show ([t0] : List D) ++ [tL, tL, tL] ++ [tL, tL, tL] = [t0, tL, tL, tL, tL, tL, tL] from rfl] at ol
  generalize hbl : ([D.int 2, .int 1, .int 2, .int 1].set r.toNat be) = bl at *
  have Q1 := q1
  have Q2 := q2
  have Q3 := q3
  have O6 := om6
  simp only [t0, tL, tN] at Q1 Q2 Q3 O6 ol
  simp [F_law_refused_right, eb, o1, e1, o2, e2, it, o3, frzL, frz1_v, blind, blind1, h1, b1, ol, O6, Q1, e3, o4, e4, o5, e5, o6, e6, o7, e7, o8, ix, hbl, h2, b4, Q2, h3, b2, h4, b3, h5, h6, f6, b5, Q3]
end
end K12
set_option maxHeartbeats 8000000
/-! The law. -/
namespace K12
noncomputable section
open PySem PySem.Spec PyProof.Rows L2 Evl Sm
section
variable {n : Nat} {ms : List Int}
def lotE : DE := (dPopAt 3 (dCallO 1 0 F_law_take (dCons (dLenV 3) dNil)))
theorem lot_ev {k m : Nat} {p : SV} (B : Bud (k + m) p) (hm : m ≤ n) (h24 : n ≤ 24) : ∃ (ms : List Int) (p' : SV), F_law_lot p [.int n, .int m] = some (.lst (il ms), p') ∧ ms.Pairwise (· < ·) ∧ (∀ x ∈ ms, 0 ≤ x ∧ x < (n : Int)) ∧ Bud k p' := by
  obtain ⟨rs, l', s', e1, e2, e3, p', rfl, e4, B'⟩ := comp_pop (g := gN 4) (e := lotE) (vs := [4]) (fun k l s => ∃ p, s = [some p, some (.imm (.int n)), some (.imm (.int m)), some (.lst (il l)), none] ∧ l.length ≤ 24 ∧ Bud k p) (fun k l s d hne h => by
    obtain ⟨p, rfl, hl, B⟩ := h
    have hp : 0 < l.length := List.length_pos_iff.mpr hne
    obtain ⟨r, p', e, r0, r1, B'⟩ := draw_ev (m := (l.length : Int)) B ⟨by omega, by omega⟩
    refine ⟨_, r.toNat, _, rfl, pop_at (l := l) (s1 := [some p', some (.imm (.int n)), some (.imm (.int m)), some (.lst (il l)), some (.imm d)]) rfl ?_ rfl r0 r1 (by omega), by omega, p', rfl, ?_, B'⟩
    · simp [B.own, e, B'.own]
    · rw [List.length_eraseIdx]; split <;> omega)
    (il (tab m fun i => i)) k (tab n fun i => i) [some p, some (.imm (.int n)), some (.imm (.int m)), some (.lst (il (tab n fun i => i))), none] [] (by rw [il_len, tab_len, tab_len]; exact hm) ⟨p, rfl, by rw [tab_len]; exact h24, by rw [il_len, tab_len]; exact B⟩
  obtain ⟨a1, a2⟩ := perm_lot e2
  refine ⟨sortI rs, p', ?_, a1, a2, B'⟩
  have r := fun s => rng1_nat m s (show m ≤ 1000000 by omega)
  have lr := fun s => lrg_nat n (show n ≤ 1000 by omega) s
  have eb : b_law_lot = (dSeq (dSet 3 (dLRg1 (dVar 1))) (dRet (dCB cSorted (dCons (dLc (dRng1 (dCons (dVar 2) dNil)) (gN 4) dYes lotE [4]) dNil)))) := rfl
  simp [F_law_lot, eb, r, lr, e1, tab_len, show m ≤ 50000 by omega, B.own, cSorted, ints_il, B'.own]

end
def szE : DE := (dCallO 1 1 F_law_pick (dCons (dLst (dCons (dOp oDiv (dVar 2) (dC (.int 2))) (dCons (dOp oDiv (dVar 2) (dC (.int 2))) (dCons (dOp oSub (dVar 2) (dOp oDiv (dVar 2) (dC (.int 2)))) (dCons (dCallO 1 1 F_law_take (dCons (dOp oAdd (dVar 2) (dC (.int 1))) dNil)) (dCons (dCallO 1 1 F_law_take (dCons (dOp oAdd (dVar 2) (dC (.int 1))) dNil)) dNil)))))) dNil))
def szF : DE := (dCallO 1 1 F_law_pick (dCons (dLst (dCons (dOp oDiv (dVar 2) (dC (.int 2))) (dCons (dC (.int 0)) (dCons (dVar 2) (dCons (dC (.int 1)) (dCons (dCallO 1 1 F_law_take (dCons (dOp oAdd (dVar 2) (dC (.int 1))) dNil)) (dCons (dCallO 1 1 F_law_take (dCons (dOp oAdd (dVar 2) (dC (.int 1))) dNil)) dNil))))))) dNil))
theorem sz_ev {n k : Nat} {p : SV} (B : Bud (k + 3) p) (h2 : 2 ≤ n) (h24 : n ≤ 24) (A0 A3 A4 : Option SV) : ∃ (m : Nat) (p' : SV), szE [A0, some p, some (.imm (.int n)), A3, A4] = some (.imm (.int m), [A0, some p', some (.imm (.int n)), A3, A4]) ∧ m ≤ n ∧ Bud k p' := by
  obtain ⟨r1, p1, e1, a0, a1, B1⟩ := draw_ev (k := k + 2) (m := (n : Int) + 1) B ⟨by omega, by omega⟩
  obtain ⟨r2, p2, e2, b0, b1, B2⟩ := draw_ev (k := k + 1) (m := (n : Int) + 1) B1 ⟨by omega, by omega⟩
  obtain ⟨r, p3, e3, hr, B3⟩ := pick_ev (k := k) B2 [(n : Int) / 2, (n : Int) / 2, (n : Int) - (n : Int) / 2, r1, r2] (by simp) (by simp)
  have hm : 0 ≤ r ∧ r ≤ n := by
    simp at hr
    omega
  refine ⟨r.toNat, p3, ?_, by omega, B3⟩
  have dv := div_i (n : Int) 2 ⟨by decide, by decide⟩
  rw [show il [(n : Int) / 2, (n : Int) / 2, (n : Int) - (n : Int) / 2, r1, r2] = [D.int ((n : Int) / 2), .int ((n : Int) / 2), .int ((n : Int) - (n : Int) / 2), .int r1, .int r2] from rfl] at e3
  rw [show ((r.toNat : Nat) : Int) = r by omega]
  generalize (n : Int) / 2 = hf at *
  simp [szE, dv, B.own, e1, B1.own, e2, B2.own, e3, B3.own]
theorem szF_ev {n k : Nat} {p : SV} (B : Bud (k + 3) p) (h2 : 2 ≤ n) (h24 : n ≤ 24) (A0 A3 A4 : Option SV) : ∃ (m : Nat) (p' : SV), szF [A0, some p, some (.imm (.int n)), A3, A4] = some (.imm (.int m), [A0, some p', some (.imm (.int n)), A3, A4]) ∧ m ≤ n ∧ Bud k p' := by
  obtain ⟨r1, p1, e1, a0, a1, B1⟩ := draw_ev (k := k + 2) (m := (n : Int) + 1) B ⟨by omega, by omega⟩
  obtain ⟨r2, p2, e2, b0, b1, B2⟩ := draw_ev (k := k + 1) (m := (n : Int) + 1) B1 ⟨by omega, by omega⟩
  obtain ⟨r, p3, e3, hr, B3⟩ := pick_ev (k := k) B2 [(n : Int) / 2, 0, (n : Int), 1, r1, r2] (by simp) (by simp)
  have hm : 0 ≤ r ∧ r ≤ n := by
    simp at hr
    omega
  refine ⟨r.toNat, p3, ?_, by omega, B3⟩
  have dv := div_i (n : Int) 2 ⟨by decide, by decide⟩
  rw [show il [(n : Int) / 2, 0, (n : Int), 1, r1, r2] = [D.int ((n : Int) / 2), .int 0, .int n, .int 1, .int r1, .int r2] from rfl] at e3
  rw [show ((r.toNat : Nat) : Int) = r by omega]
  generalize (n : Int) / 2 = hf at *
  simp [szF, dv, B.own, e1, B1.own, e2, B2.own, e3, B3.own]
theorem law_true (ns : List Int) (_ : ns.length ≤ 63) : F_law [.scr ns] = some (.imm (.bl true)) := by
  obtain ⟨p, e0, B⟩ := pen_ev ns
  obtain ⟨r, p1, e1, r0, r1, B1⟩ := draw_ev (k := 80000) (m := (8 : Int)) (B.le (by decide)) ⟨by decide, by decide⟩
  obtain ⟨n, hn⟩ : ∃ n : Nat, 2 + r = (n : Int) := ⟨(2 + r).toNat, by omega⟩
  obtain ⟨m, p2, e2, hm, B2⟩ := sz_ev (n := n) (k := 70000) (B1.le (by decide)) (by omega) (by omega) (some (.imm (.scr ns))) none none
  obtain ⟨rows, el, hl, hrw⟩ := lots_ev (n := n) (by omega) (m : Int) (by omega)
  obtain ⟨q, p3, e3, q0, q1, B3⟩ := draw_ev (k := 60000) (m := (15 : Int)) (B2.le (by decide)) ⟨by decide, by decide⟩
  obtain ⟨n', hn'⟩ : ∃ n : Nat, 10 + q = (n : Int) := ⟨(10 + q).toNat, by omega⟩
  obtain ⟨m', p4, e4, hm', B4⟩ := szF_ev (n := n') (k := 50000) (B3.le (by decide)) (by omega) (by omega) (some (.imm (.scr ns))) (some (.imm (.int m))) none
  obtain ⟨ms, p5, e5, hs, hms, B5⟩ := lot_ev (n := n') (m := m') (k := 40000) (p := p4) (B4.le (by omega)) hm' (by omega)
  have lr := lot_right_ev (n := n') (d1 := .lst (il ms)) (.inl rfl) (by omega) (by omega) hs hms
  obtain ⟨p6, e6, B6⟩ := told_right_ev (k := 30000) (p := p5) (B5.le (by decide))
  obtain ⟨p7, e7, B7⟩ := refused_ev (k := 20000) (p := p6) (B6.le (by decide))
  have c := comp_nil (g := gN 4) (t := (dNot (dB (dCallP 2 F_law_lot_right (dCons (dVar 2) (dCons (dVar 4) dNil)))))) (e := dVar 4) (vs := [4]) (s := [some (.imm (.scr ns)), some p2, some (.imm (.int n)), some (.imm (.int m)), none]) (tups rows) fun d hd => by
    obtain ⟨r, hr, rfl⟩ := List.mem_map.mp hd
    have lr := lot_right_ev (n := n) (d1 := .tup (il r)) (.inr rfl) (by omega) (by omega) (hrw r hr).1 (hrw r hr).2
    refine ⟨[some (.imm (.scr ns)), some p2, some (.imm (.int n)), some (.imm (.int m)), some (.imm (.tup (il r)))], [some (.imm (.scr ns)), some p2, some (.imm (.int n)), some (.imm (.int m)), some (.imm (.tup (il r)))], rfl, ?_, rfl⟩
    simp [lr]
  have tl : (tups rows).length ≤ 50000 := by
    unfold tups
    rw [List.length_map]
    omega
  have en : oEq true (.lst []) (.lst []) = some (.imm (.bl false)) := eq_ll true [] []
  have eb : b_law = (dSeq (dSet 1 (dCallP 1 F_law_hand (dCons (dVar 0) dNil)))
  (dSeq (dSet 2 (dOp oAdd (dC (.int 2)) (dCallO 1 1 F_law_take (dCons (dC (.int 8)) dNil))))
  (dSeq (dSet 3 szE)
  (dSeq (dIfS (dB (dOp (oEq true) (dLc (dSeqI (dCallP 2 F_law_lots (dCons (dVar 2) (dCons (dVar 3) dNil)))) (gN 4) (dNot (dB (dCallP 2 F_law_lot_right (dCons (dVar 2) (dCons (dVar 4) dNil))))) (dVar 4) [4]) (dLst dNil))) (dRet (dC (.bl false))) dNext)
  (dSeq (dSet 2 (dOp oAdd (dC (.int 10)) (dCallO 1 1 F_law_take (dCons (dC (.int 15)) dNil))))
  (dSeq (dSet 3 szF)
  (dRet (dAndV (dCallP 2 F_law_lot_right (dCons (dVar 2) (dCons (dCallO 2 1 F_law_lot (dCons (dVar 2) (dCons (dVar 3) dNil))) dNil))) (dAndV (dCallO 0 1 F_law_told_right dNil) (dCallO 0 1 F_law_refused_right dNil)))))))))) := rfl
  cases p with
  | imm d => have := B.own; cases this
  | _ => simp [F_law, eb, e0, B.own, e1, B1.own, hn, e2, el, tl, c, en, B2.own, e3, B3.own, hn', e4, B4.own, e5, B5.own, lr, e6, B6.own, e7, B7.own]
end
end K12
/-! The facts of the top, the end of the law: printed by gen.py. -/
namespace K12
open PySem PySem.Spec PyProof.Rows L2 Evl Sm
/-! ### the facts, from the head -/
theorem all_mk {l : PySem.W.OpenLaw} {w : World} {K : PySem.W.Frag} {h : Heap} {mg : Str → Option Value} {fa : Addr} (X : K.In h) (G : h.Ns mainGlobals mg) (hfa : mg "law" = some (.ref fa))
    {f0 : Addr} {od0 an0 : Option Addr} {sl0 : Array (Option Value)} {oc0 kV0 dc0 pm0 cd0 ct0 : Value} {f1 : Addr} {od1 an1 : Option Addr} {sl1 : Array (Option Value)} {oc1 kV1 dc1 pm1 cd1 ct1 : Value} {f2 : Addr} {od2 an2 : Option Addr} {sl2 : Array (Option Value)} {oc2 kV2 dc2 pm2 cd2 ct2 : Value} {f3 : Addr} {od3 an3 : Option Addr} {sl3 : Array (Option Value)} {oc3 kV3 dc3 pm3 cd3 ct3 : Value} {f4 : Addr} {od4 an4 : Option Addr} {sl4 : Array (Option Value)} {oc4 kV4 dc4 pm4 cd4 ct4 : Value} {f5 : Addr} {od5 an5 : Option Addr} {sl5 : Array (Option Value)} {oc5 kV5 dc5 pm5 cd5 ct5 : Value} {f6 : Addr} {od6 an6 : Option Addr} {sl6 : Array (Option Value)} {oc6 kV6 dc6 pm6 cd6 ct6 : Value} {f7 : Addr} {od7 an7 : Option Addr} {sl7 : Array (Option Value)} {oc7 kV7 dc7 pm7 cd7 ct7 : Value} {f8 : Addr} {od8 an8 : Option Addr} {sl8 : Array (Option Value)} {oc8 kV8 dc8 pm8 cd8 ct8 : Value} {f9 : Addr} {od9 an9 : Option Addr} {sl9 : Array (Option Value)} {oc9 kV9 dc9 pm9 cd9 ct9 : Value} {f10 : Addr} {od10 an10 : Option Addr} {sl10 : Array (Option Value)} {oc10 kV10 dc10 pm10 cd10 ct10 : Value} {f11 : Addr} {od11 an11 : Option Addr} {sl11 : Array (Option Value)} {oc11 kV11 dc11 pm11 cd11 ct11 : Value} {f12 : Addr} {od12 an12 : Option Addr} {sl12 : Array (Option Value)} {oc12 kV12 dc12 pm12 cd12 ct12 : Value} {f13 : Addr} {od13 an13 : Option Addr} {sl13 : Array (Option Value)} {oc13 kV13 dc13 pm13 cd13 ct13 : Value} {f14 : Addr} {od14 an14 : Option Addr} {sl14 : Array (Option Value)} {oc14 kV14 dc14 pm14 cd14 ct14 : Value} {f15 : Addr} {od15 an15 : Option Addr} {sl15 : Array (Option Value)} {oc15 kV15 dc15 pm15 cd15 ct15 : Value} {f16 : Addr} {od16 an16 : Option Addr} {sl16 : Array (Option Value)} {oc16 kV16 dc16 pm16 cd16 ct16 : Value} {f17 : Addr} {od17 an17 : Option Addr} {sl17 : Array (Option Value)} {oc17 kV17 dc17 pm17 cd17 ct17 : Value} {f18 : Addr} {od18 an18 : Option Addr} {sl18 : Array (Option Value)} {oc18 kV18 dc18 pm18 cd18 ct18 : Value} {f19 : Addr} {od19 an19 : Option Addr} {sl19 : Array (Option Value)} {oc19 kV19 dc19 pm19 cd19 ct19 : Value} {f20 : Addr} {od20 an20 : Option Addr} {sl20 : Array (Option Value)} {oc20 kV20 dc20 pm20 cd20 ct20 : Value} {f21 : Addr} {od21 an21 : Option Addr} {sl21 : Array (Option Value)} {oc21 kV21 dc21 pm21 cd21 ct21 : Value} {f22 : Addr} {od22 an22 : Option Addr} {sl22 : Array (Option Value)} {oc22 kV22 dc22 pm22 cd22 ct22 : Value} {f23 : Addr} {od23 an23 : Option Addr} {sl23 : Array (Option Value)} {oc23 kV23 dc23 pm23 cd23 ct23 : Value} {f24 : Addr} {od24 an24 : Option Addr} {sl24 : Array (Option Value)} {oc24 kV24 dc24 pm24 cd24 ct24 : Value} {f25 : Addr} {od25 an25 : Option Addr} {sl25 : Array (Option Value)} {oc25 kV25 dc25 pm25 cd25 ct25 : Value} {f26 : Addr} {od26 an26 : Option Addr} {sl26 : Array (Option Value)} {oc26 kV26 dc26 pm26 cd26 ct26 : Value} {f27 : Addr} {od27 an27 : Option Addr} {sl27 : Array (Option Value)} {oc27 kV27 dc27 pm27 cd27 ct27 : Value} {f28 : Addr} {od28 an28 : Option Addr} {sl28 : Array (Option Value)} {oc28 kV28 dc28 pm28 cd28 ct28 : Value} {f29 : Addr} {od29 an29 : Option Addr} {sl29 : Array (Option Value)} {oc29 kV29 dc29 pm29 cd29 ct29 : Value} {f30 : Addr} {od30 an30 : Option Addr} {sl30 : Array (Option Value)} {oc30 kV30 dc30 pm30 ct30 : Value} {f31 : Addr} {od31 an31 : Option Addr} {sl31 : Array (Option Value)} {oc31 kV31 dc31 pm31 cd31 ct31 : Value} {f32 : Addr} {od32 an32 : Option Addr} {sl32 : Array (Option Value)} {oc32 kV32 dc32 pm32 cd32 ct32 : Value} {CRow : Addr} {tLEAST_MANY : Tok} {tMOST_MANY : Tok} {CXBadNumber : Addr} {CXBadRow : Addr} {CXBeatError : Addr} {CXMisfit : Addr} {CXNoDivisor : Addr} {CXTooMany : Addr} {nmBadNumber qqBadNumber : Str} {NNBadNumber : Addr} {bsBadNumber bmBadNumber : List Value} {snBadNumber : List Str} {suBadNumber : List Value} {abBadNumber : Bool} {coBadNumber : Option Bool} {ddBadNumber : Option Addr} {kaBadNumber kbBadNumber kcBadNumber kdBadNumber keBadNumber : Option Value} {nmBadRow qqBadRow : Str} {NNBadRow : Addr} {bsBadRow bmBadRow : List Value} {snBadRow : List Str} {suBadRow : List Value} {abBadRow : Bool} {coBadRow : Option Bool} {ddBadRow : Option Addr} {kaBadRow kbBadRow kcBadRow kdBadRow keBadRow : Option Value} {sp13 : Addr} {rs13 : List Value} {cc30 PP30 : Addr} {vs30 : Array Value} {do30 : Option Addr} {so30 : Array (Option Value)}
    (zb_abs : PySem.W.nsIn K mainGlobals "abs" = some none) (zb_all : PySem.W.nsIn K mainGlobals "all" = some none) (zb_bool : PySem.W.nsIn K mainGlobals "bool" = some none) (zb_enumerate : PySem.W.nsIn K mainGlobals "enumerate" = some none) (zb_int : PySem.W.nsIn K mainGlobals "int" = some none) (zb_isinstance : PySem.W.nsIn K mainGlobals "isinstance" = some none) (zb_len : PySem.W.nsIn K mainGlobals "len" = some none) (zb_list : PySem.W.nsIn K mainGlobals "list" = some none) (zb_min : PySem.W.nsIn K mainGlobals "min" = some none) (zb_range : PySem.W.nsIn K mainGlobals "range" = some none) (zb_sorted : PySem.W.nsIn K mainGlobals "sorted" = some none) (zb_sum : PySem.W.nsIn K mainGlobals "sum" = some none) (zb_tuple : PySem.W.nsIn K mainGlobals "tuple" = some none) (zb_zip : PySem.W.nsIn K mainGlobals "zip" = some none) (zc_Row : PySem.W.nsIn K mainGlobals "Row" = some (some (.ref CRow))) (zpg_Row : PySem.W.plainGet K CRow Str.empty = true) (zhd_Row : PySem.W.hasDictIn K CRow = true) (zpo_Row : PySem.W.plainOver K CRow = true) (zsa_Row : PySem.W.findIn K (.ref CRow) "__setattr__" = some (some (.builtin "object.__setattr__"))) (zha_Row : PySem.W.findIn K (.ref CRow) "__class__" = some (some (.builtin "object.__class__"))) (zhn_Row : PySem.W.specialIn K (.builtin "object.__class__") "__get__" = some (some (.builtin "getset_descriptor.__get__"))) (ztk_Row : PySem.W.takesIn K (.builtin "object.__class__") = some true) (zhm_Row : PySem.W.mroIn K CRow (.type "object") = some true) (zmk_Row : PySem.W.makesIn K CRow = true) (zkp_Row : PySem.W.keepIn K (.ref CRow) = true) (zne_Row : PySem.W.findIn K (.ref CRow) "__ne__" = some (some (.builtin "object.__ne__"))) (zna_Row_is_lot : PySem.W.findIn K (.ref CRow) "is_lot" = some none) (zna_Row_many : PySem.W.findIn K (.ref CRow) "many" = some none) (zna_Row_marks : PySem.W.findIn K (.ref CRow) "marks" = some none) (zna_Row_numbers : PySem.W.findIn K (.ref CRow) "numbers" = some none) (zna_Row_total : PySem.W.findIn K (.ref CRow) "total" = some none) (zg_LEAST_MANY : PySem.W.nsIn K mainGlobals "LEAST_MANY" = some (some (.int 2 tLEAST_MANY))) (zg_MOST_MANY : PySem.W.nsIn K mainGlobals "MOST_MANY" = some (some (.int 24 tMOST_MANY))) (zx_BadNumber : PySem.W.nsIn K mainGlobals "BadNumber" = some (some (.ref CXBadNumber))) (zx_BadRow : PySem.W.nsIn K mainGlobals "BadRow" = some (some (.ref CXBadRow))) (zx_BeatError : PySem.W.nsIn K mainGlobals "BeatError" = some (some (.ref CXBeatError))) (zx_Misfit : PySem.W.nsIn K mainGlobals "Misfit" = some (some (.ref CXMisfit))) (zx_NoDivisor : PySem.W.nsIn K mainGlobals "NoDivisor" = some (some (.ref CXNoDivisor))) (zx_TooMany : PySem.W.nsIn K mainGlobals "TooMany" = some (some (.ref CXTooMany))) (zl_BadNumber : K.lookup CXBadNumber = some (excClassObj nmBadNumber qqBadNumber CXBadNumber NNBadNumber bsBadNumber bmBadNumber true snBadNumber suBadNumber abBadNumber coBadNumber ddBadNumber kaBadNumber kbBadNumber kcBadNumber kdBadNumber keBadNumber "ValueError.__new__")) (zr_BadNumber : PySem.HandSPX.refsVE bmBadNumber = true) (zsa_xBadNumber : PySem.W.findIn K (.ref CXBadNumber) "__setattr__" = some (some (.builtin "object.__setattr__"))) (zeb_BadNumber : PySem.W.subIn K (.ref CXBadNumber) (.type "BaseException") = some true) (zyc_BadNumber : PySem.W.typeIn K (.ref CXBadNumber) = some (.type "type")) (zkc_BadNumber : PySem.W.keepIn K (.ref CXBadNumber) = true) (zk_BadNumber : ExK K CXBadNumber) (zf_BadNumber_part : PySem.W.findIn K (.ref CXBadNumber) "part" = some none) (zl_BadRow : K.lookup CXBadRow = some (excClassObj nmBadRow qqBadRow CXBadRow NNBadRow bsBadRow bmBadRow true snBadRow suBadRow abBadRow coBadRow ddBadRow kaBadRow kbBadRow kcBadRow kdBadRow keBadRow "ValueError.__new__")) (zr_BadRow : PySem.HandSPX.refsVE bmBadRow = true) (zsa_xBadRow : PySem.W.findIn K (.ref CXBadRow) "__setattr__" = some (some (.builtin "object.__setattr__"))) (zeb_BadRow : PySem.W.subIn K (.ref CXBadRow) (.type "BaseException") = some true) (zyc_BadRow : PySem.W.typeIn K (.ref CXBadRow) = some (.type "type")) (zkc_BadRow : PySem.W.keepIn K (.ref CXBadRow) = true) (zk_BadRow : ExK K CXBadRow) (zf_BadRow_part : PySem.W.findIn K (.ref CXBadRow) "part" = some none) (zhx_BadNumber : PySem.W.hasDictIn K CXBadNumber = true) (ztx_BadNumber : PySem.W.typeIn K (.ref CXBadNumber) = some (.type "type")) (zss_BadNumber : PySem.W.subIn K (.ref CXBadNumber) (.ref CXBadNumber) = some true) (zhx_BadRow : PySem.W.hasDictIn K CXBadRow = true) (ztx_BadRow : PySem.W.typeIn K (.ref CXBadRow) = some (.type "type")) (zss_BadRow : PySem.W.subIn K (.ref CXBadRow) (.ref CXBadRow) = some true) (zhx_BeatError : PySem.W.hasDictIn K CXBeatError = true) (ztx_BeatError : PySem.W.typeIn K (.ref CXBeatError) = some (.type "type")) (zss_BeatError : PySem.W.subIn K (.ref CXBeatError) (.ref CXBeatError) = some true) (zhx_Misfit : PySem.W.hasDictIn K CXMisfit = true) (ztx_Misfit : PySem.W.typeIn K (.ref CXMisfit) = some (.type "type")) (zss_Misfit : PySem.W.subIn K (.ref CXMisfit) (.ref CXMisfit) = some true) (zhx_NoDivisor : PySem.W.hasDictIn K CXNoDivisor = true) (ztx_NoDivisor : PySem.W.typeIn K (.ref CXNoDivisor) = some (.type "type")) (zss_NoDivisor : PySem.W.subIn K (.ref CXNoDivisor) (.ref CXNoDivisor) = some true) (zhx_TooMany : PySem.W.hasDictIn K CXTooMany = true) (ztx_TooMany : PySem.W.typeIn K (.ref CXTooMany) = some (.type "type")) (zss_TooMany : PySem.W.subIn K (.ref CXTooMany) (.ref CXTooMany) = some true) (zsB_BeatError : PySem.W.subIn K (.ref CXBeatError) (.type "BaseException") = some true) (ztr_Row : PySem.W.typeIn K (.ref CRow) = some (.type "type")) (zsr_NoneType_Row : PySem.W.subIn K (.type "NoneType") (.ref CRow) = some false) (zsr_int_Row : PySem.W.subIn K (.type "int") (.ref CRow) = some false) (zsr_bool_Row : PySem.W.subIn K (.type "bool") (.ref CRow) = some false) (zsr_str_Row : PySem.W.subIn K (.type "str") (.ref CRow) = some false) (zsr_list_Row : PySem.W.subIn K (.type "list") (.ref CRow) = some false) (zsr_tuple_Row : PySem.W.subIn K (.type "tuple") (.ref CRow) = some false) (zsr_dict_Row : PySem.W.subIn K (.type "dict") (.ref CRow) = some false) (zsb_None_BadNumber : PySem.W.subIn K (.type "NoneType") (.ref CXBadNumber) = some false) (zsb_None_BadRow : PySem.W.subIn K (.type "NoneType") (.ref CXBadRow) = some false) (zsb_None_Misfit : PySem.W.subIn K (.type "NoneType") (.ref CXMisfit) = some false) (zsb_None_NoDivisor : PySem.W.subIn K (.type "NoneType") (.ref CXNoDivisor) = some false) (zsb_None_TooMany : PySem.W.subIn K (.type "NoneType") (.ref CXTooMany) = some false) (zsb_BadNumber_BadNumber : PySem.W.subIn K (.ref CXBadNumber) (.ref CXBadNumber) = some true) (zsb_BadNumber_BadRow : PySem.W.subIn K (.ref CXBadNumber) (.ref CXBadRow) = some false) (zsb_BadNumber_BeatError : PySem.W.subIn K (.ref CXBadNumber) (.ref CXBeatError) = some true) (zsb_BadNumber_Misfit : PySem.W.subIn K (.ref CXBadNumber) (.ref CXMisfit) = some false) (zsb_BadNumber_NoDivisor : PySem.W.subIn K (.ref CXBadNumber) (.ref CXNoDivisor) = some false) (zsb_BadNumber_TooMany : PySem.W.subIn K (.ref CXBadNumber) (.ref CXTooMany) = some false) (zsb_BadRow_BadNumber : PySem.W.subIn K (.ref CXBadRow) (.ref CXBadNumber) = some false) (zsb_BadRow_BadRow : PySem.W.subIn K (.ref CXBadRow) (.ref CXBadRow) = some true) (zsb_BadRow_BeatError : PySem.W.subIn K (.ref CXBadRow) (.ref CXBeatError) = some true) (zsb_BadRow_Misfit : PySem.W.subIn K (.ref CXBadRow) (.ref CXMisfit) = some false) (zsb_BadRow_NoDivisor : PySem.W.subIn K (.ref CXBadRow) (.ref CXNoDivisor) = some false) (zsb_BadRow_TooMany : PySem.W.subIn K (.ref CXBadRow) (.ref CXTooMany) = some false) (a0 : PySem.W.nsIn K mainGlobals "_law_hand" = some (some (.ref f0))) (l0 : K.lookup f0 = some ⟨oc0, od0, .func (PySem.W.fnOf "_law_hand" "_law_hand" (defArgs s_law_hand) (defBody s_law_hand) (defScope s_law_hand) .none kV0 dc0 pm0 an0 cd0 ct0), sl0⟩) (c0 : PySem.W.codeIn K cd0 "_law_hand" = true) (k0 : PySem.W.keepIn K (.ref f0) = true) (a1 : PySem.W.nsIn K mainGlobals "_law_take" = some (some (.ref f1))) (l1 : K.lookup f1 = some ⟨oc1, od1, .func (PySem.W.fnOf "_law_take" "_law_take" (defArgs s_law_take) (defBody s_law_take) (defScope s_law_take) .none kV1 dc1 pm1 an1 cd1 ct1), sl1⟩) (c1 : PySem.W.codeIn K cd1 "_law_take" = true) (k1 : PySem.W.keepIn K (.ref f1) = true) (a2 : PySem.W.nsIn K mainGlobals "_law_lot" = some (some (.ref f2))) (l2 : K.lookup f2 = some ⟨oc2, od2, .func (PySem.W.fnOf "_law_lot" "_law_lot" (defArgs s_law_lot) (defBody s_law_lot) (defScope s_law_lot) .none kV2 dc2 pm2 an2 cd2 ct2), sl2⟩) (c2 : PySem.W.codeIn K cd2 "_law_lot" = true) (k2 : PySem.W.keepIn K (.ref f2) = true) (a3 : PySem.W.nsIn K mainGlobals "is_integer" = some (some (.ref f3))) (l3 : K.lookup f3 = some ⟨oc3, od3, .func (PySem.W.fnOf "is_integer" "is_integer" (defArgs s_is_integer) (defBody s_is_integer) (defScope s_is_integer) .none kV3 dc3 pm3 an3 cd3 ct3), sl3⟩) (c3 : PySem.W.codeIn K cd3 "is_integer" = true) (k3 : PySem.W.keepIn K (.ref f3) = true) (a4 : PySem.W.nsIn K mainGlobals "is_listed" = some (some (.ref f4))) (l4 : K.lookup f4 = some ⟨oc4, od4, .func (PySem.W.fnOf "is_listed" "is_listed" (defArgs s_is_listed) (defBody s_is_listed) (defScope s_is_listed) .none kV4 dc4 pm4 an4 cd4 ct4), sl4⟩) (c4 : PySem.W.codeIn K cd4 "is_listed" = true) (k4 : PySem.W.keepIn K (.ref f4) = true) (a5 : PySem.W.nsIn K mainGlobals "are_integers" = some (some (.ref f5))) (l5 : K.lookup f5 = some ⟨oc5, od5, .func (PySem.W.fnOf "are_integers" "are_integers" (defArgs s_are_integers) (defBody s_are_integers) (defScope s_are_integers) .none kV5 dc5 pm5 an5 cd5 ct5), sl5⟩) (c5 : PySem.W.codeIn K cd5 "are_integers" = true) (k5 : PySem.W.keepIn K (.ref f5) = true) (a6 : PySem.W.findIn K (.ref CRow) "__init__" = some (some (.ref f6))) (i6 : PySem.W.isFn K (.ref f6) = true) (l6 : K.lookup f6 = some ⟨oc6, od6, .func (PySem.W.fnOf "__init__" "Row.__init__" (defArgs s_Rowx__initx_) (defBody s_Rowx__initx_) (defScope s_Rowx__initx_) .none kV6 dc6 pm6 an6 cd6 ct6), sl6⟩) (c6 : PySem.W.codeIn K cd6 "Row.__init__" = true) (k6 : PySem.W.keepIn K (.ref f6) = true) (a7 : PySem.W.findIn K (.ref CRow) "left_out" = some (some (.ref f7))) (i7 : PySem.W.isFn K (.ref f7) = true) (l7 : K.lookup f7 = some ⟨oc7, od7, .func (PySem.W.fnOf "left_out" "Row.left_out" (defArgs s_Row_left_out) (defBody s_Row_left_out) (defScope s_Row_left_out) .none kV7 dc7 pm7 an7 cd7 ct7), sl7⟩) (c7 : PySem.W.codeIn K cd7 "Row.left_out" = true) (k7 : PySem.W.keepIn K (.ref f7) = true) (a8 : PySem.W.nsIn K mainGlobals "first_twice" = some (some (.ref f8))) (l8 : K.lookup f8 = some ⟨oc8, od8, .func (PySem.W.fnOf "first_twice" "first_twice" (defArgs s_first_twice) (defBody s_first_twice) (defScope s_first_twice) .none kV8 dc8 pm8 an8 cd8 ct8), sl8⟩) (c8 : PySem.W.codeIn K cd8 "first_twice" = true) (k8 : PySem.W.keepIn K (.ref f8) = true) (a9 : PySem.W.nsIn K mainGlobals "is_within" = some (some (.ref f9))) (l9 : K.lookup f9 = some ⟨oc9, od9, .func (PySem.W.fnOf "is_within" "is_within" (defArgs s_is_within) (defBody s_is_within) (defScope s_is_within) .none kV9 dc9 pm9 an9 cd9 ct9), sl9⟩) (c9 : PySem.W.codeIn K cd9 "is_within" = true) (k9 : PySem.W.keepIn K (.ref f9) = true) (zic10_BadNumber : PySem.W.findIn K (.ref CXBadNumber) "__init__" = some (some (.ref f10))) (zti10 : PySem.W.typeIn K (.ref f10) = some (.type "function")) (l10 : K.lookup f10 = some ⟨oc10, od10, .func (PySem.W.fnOf "__init__" "BadNumber.__init__" (defArgs s_BadNumberx__initx_) (defBody s_BadNumberx__initx_) (defScope s_BadNumberx__initx_) .none kV10 dc10 pm10 an10 cd10 ct10), sl10⟩) (c10 : PySem.W.codeIn K cd10 "BadNumber.__init__" = true) (k10 : PySem.W.keepIn K (.ref f10) = true) (a11 : PySem.W.nsIn K mainGlobals "need_number" = some (some (.ref f11))) (l11 : K.lookup f11 = some ⟨oc11, od11, .func (PySem.W.fnOf "need_number" "need_number" (defArgs s_need_number) (defBody s_need_number) (defScope s_need_number) .none kV11 dc11 pm11 an11 cd11 ct11), sl11⟩) (c11 : PySem.W.codeIn K cd11 "need_number" = true) (k11 : PySem.W.keepIn K (.ref f11) = true) (a12 : PySem.W.nsIn K mainGlobals "need_many" = some (some (.ref f12))) (l12 : K.lookup f12 = some ⟨oc12, od12, .func (PySem.W.fnOf "need_many" "need_many" (defArgs s_need_many) (defBody s_need_many) (defScope s_need_many) .none kV12 dc12 pm12 an12 cd12 ct12), sl12⟩) (c12 : PySem.W.codeIn K cd12 "need_many" = true) (k12 : PySem.W.keepIn K (.ref f12) = true) (sr13 : PySem.W.readsIn K CRow (.type "type") = true) (sf13 : PySem.W.findCls K (.ref CRow) (.type "type") "of" = some (.get (.builtin "staticmethod.__get__") (.ref sp13) .none (.ref CRow))) (se13 : PySem.W.recIn K sp13 "staticmethod" = some (.ref f13 :: rs13)) (sg13 : PySem.W.specialIn K (.ref CRow) "__getattribute__" = some (some (.builtin "type.__getattribute__"))) (l13 : K.lookup f13 = some ⟨oc13, od13, .func (PySem.W.fnOf "of" "Row.of" (defArgs s_Row_of) (defBody s_Row_of) (defScope s_Row_of) .none kV13 dc13 pm13 an13 cd13 ct13), sl13⟩) (c13 : PySem.W.codeIn K cd13 "Row.of" = true) (k13 : PySem.W.keepIn K (.ref f13) = true) (a14 : PySem.W.nsIn K mainGlobals "_law_counts" = some (some (.ref f14))) (l14 : K.lookup f14 = some ⟨oc14, od14, .func (PySem.W.fnOf "_law_counts" "_law_counts" (defArgs s_law_counts) (defBody s_law_counts) (defScope s_law_counts) .none kV14 dc14 pm14 an14 cd14 ct14), sl14⟩) (c14 : PySem.W.codeIn K cd14 "_law_counts" = true) (k14 : PySem.W.keepIn K (.ref f14) = true) (a15 : PySem.W.nsIn K mainGlobals "counts_of" = some (some (.ref f15))) (l15 : K.lookup f15 = some ⟨oc15, od15, .func (PySem.W.fnOf "counts_of" "counts_of" (defArgs s_counts_of) (defBody s_counts_of) (defScope s_counts_of) .none kV15 dc15 pm15 an15 cd15 ct15), sl15⟩) (c15 : PySem.W.codeIn K cd15 "counts_of" = true) (k15 : PySem.W.keepIn K (.ref f15) = true) (zic16_BadRow : PySem.W.findIn K (.ref CXBadRow) "__init__" = some (some (.ref f16))) (zti16 : PySem.W.typeIn K (.ref f16) = some (.type "function")) (l16 : K.lookup f16 = some ⟨oc16, od16, .func (PySem.W.fnOf "__init__" "BadRow.__init__" (defArgs s_BadRowx__initx_) (defBody s_BadRowx__initx_) (defScope s_BadRowx__initx_) .none kV16 dc16 pm16 an16 cd16 ct16), sl16⟩) (c16 : PySem.W.codeIn K cd16 "BadRow.__init__" = true) (k16 : PySem.W.keepIn K (.ref f16) = true) (a17 : PySem.W.nsIn K mainGlobals "need_row" = some (some (.ref f17))) (l17 : K.lookup f17 = some ⟨oc17, od17, .func (PySem.W.fnOf "need_row" "need_row" (defArgs s_need_row) (defBody s_need_row) (defScope s_need_row) .none kV17 dc17 pm17 an17 cd17 ct17), sl17⟩) (c17 : PySem.W.codeIn K cd17 "need_row" = true) (k17 : PySem.W.keepIn K (.ref f17) = true) (a18 : PySem.W.nsIn K mainGlobals "need_lot" = some (some (.ref f18))) (l18 : K.lookup f18 = some ⟨oc18, od18, .func (PySem.W.fnOf "need_lot" "need_lot" (defArgs s_need_lot) (defBody s_need_lot) (defScope s_need_lot) .none kV18 dc18 pm18 an18 cd18 ct18), sl18⟩) (c18 : PySem.W.codeIn K cd18 "need_lot" = true) (k18 : PySem.W.keepIn K (.ref f18) = true) (a19 : PySem.W.nsIn K mainGlobals "sums_across" = some (some (.ref f19))) (l19 : K.lookup f19 = some ⟨oc19, od19, .func (PySem.W.fnOf "sums_across" "sums_across" (defArgs s_sums_across) (defBody s_sums_across) (defScope s_sums_across) .none kV19 dc19 pm19 an19 cd19 ct19), sl19⟩) (c19 : PySem.W.codeIn K cd19 "sums_across" = true) (k19 : PySem.W.keepIn K (.ref f19) = true) (a20 : PySem.W.nsIn K mainGlobals "distances" = some (some (.ref f20))) (l20 : K.lookup f20 = some ⟨oc20, od20, .func (PySem.W.fnOf "distances" "distances" (defArgs s_distances) (defBody s_distances) (defScope s_distances) .none kV20 dc20 pm20 an20 cd20 ct20), sl20⟩) (c20 : PySem.W.codeIn K cd20 "distances" = true) (k20 : PySem.W.keepIn K (.ref f20) = true) (a21 : PySem.W.nsIn K mainGlobals "coming" = some (some (.ref f21))) (l21 : K.lookup f21 = some ⟨oc21, od21, .func (PySem.W.fnOf "coming" "coming" (defArgs s_coming) (defBody s_coming) (defScope s_coming) .none kV21 dc21 pm21 an21 cd21 ct21), sl21⟩) (c21 : PySem.W.codeIn K cd21 "coming" = true) (k21 : PySem.W.keepIn K (.ref f21) = true) (a22 : PySem.W.nsIn K mainGlobals "need_counts" = some (some (.ref f22))) (l22 : K.lookup f22 = some ⟨oc22, od22, .func (PySem.W.fnOf "need_counts" "need_counts" (defArgs s_need_counts) (defBody s_need_counts) (defScope s_need_counts) .none kV22 dc22 pm22 an22 cd22 ct22), sl22⟩) (c22 : PySem.W.codeIn K cd22 "need_counts" = true) (k22 : PySem.W.keepIn K (.ref f22) = true) (a23 : PySem.W.nsIn K mainGlobals "distances_left_out" = some (some (.ref f23))) (l23 : K.lookup f23 = some ⟨oc23, od23, .func (PySem.W.fnOf "distances_left_out" "distances_left_out" (defArgs s_distances_left_out) (defBody s_distances_left_out) (defScope s_distances_left_out) .none kV23 dc23 pm23 an23 cd23 ct23), sl23⟩) (c23 : PySem.W.codeIn K cd23 "distances_left_out" = true) (k23 : PySem.W.keepIn K (.ref f23) = true) (a24 : PySem.W.nsIn K mainGlobals "not_coming" = some (some (.ref f24))) (l24 : K.lookup f24 = some ⟨oc24, od24, .func (PySem.W.fnOf "not_coming" "not_coming" (defArgs s_not_coming) (defBody s_not_coming) (defScope s_not_coming) .none kV24 dc24 pm24 an24 cd24 ct24), sl24⟩) (c24 : PySem.W.codeIn K cd24 "not_coming" = true) (k24 : PySem.W.keepIn K (.ref f24) = true) (a25 : PySem.W.nsIn K mainGlobals "spans" = some (some (.ref f25))) (l25 : K.lookup f25 = some ⟨oc25, od25, .func (PySem.W.fnOf "spans" "spans" (defArgs s_spans) (defBody s_spans) (defScope s_spans) .none kV25 dc25 pm25 an25 cd25 ct25), sl25⟩) (c25 : PySem.W.codeIn K cd25 "spans" = true) (k25 : PySem.W.keepIn K (.ref f25) = true) (a26 : PySem.W.nsIn K mainGlobals "_law_lot_right" = some (some (.ref f26))) (l26 : K.lookup f26 = some ⟨oc26, od26, .func (PySem.W.fnOf "_law_lot_right" "_law_lot_right" (defArgs s_law_lot_right) (defBody s_law_lot_right) (defScope s_law_lot_right) .none kV26 dc26 pm26 an26 cd26 ct26), sl26⟩) (c26 : PySem.W.codeIn K cd26 "_law_lot_right" = true) (k26 : PySem.W.keepIn K (.ref f26) = true) (a27 : PySem.W.nsIn K mainGlobals "_law_lots" = some (some (.ref f27))) (l27 : K.lookup f27 = some ⟨oc27, od27, .func (PySem.W.fnOf "_law_lots" "_law_lots" (defArgs s_law_lots) (defBody s_law_lots) (defScope s_law_lots) .none kV27 dc27 pm27 an27 cd27 ct27), sl27⟩) (c27 : PySem.W.codeIn K cd27 "_law_lots" = true) (k27 : PySem.W.keepIn K (.ref f27) = true) (a28 : PySem.W.nsIn K mainGlobals "_law_pick" = some (some (.ref f28))) (l28 : K.lookup f28 = some ⟨oc28, od28, .func (PySem.W.fnOf "_law_pick" "_law_pick" (defArgs s_law_pick) (defBody s_law_pick) (defScope s_law_pick) .none kV28 dc28 pm28 an28 cd28 ct28), sl28⟩) (c28 : PySem.W.codeIn K cd28 "_law_pick" = true) (k28 : PySem.W.keepIn K (.ref f28) = true) (a29 : PySem.W.nsIn K mainGlobals "_law_heard" = some (some (.ref f29))) (l29 : K.lookup f29 = some ⟨oc29, od29, .func (PySem.W.fnOf "_law_heard" "_law_heard" (defArgs s_law_heard) (defBody s_law_heard) (defScope s_law_heard) .none kV29 dc29 pm29 an29 cd29 ct29), sl29⟩) (c29 : PySem.W.codeIn K cd29 "_law_heard" = true) (k29 : PySem.W.keepIn K (.ref f29) = true) (a30 : PySem.W.nsIn K mainGlobals "_law_refused_right" = some (some (.ref f30))) (l30 : K.lookup f30 = some ⟨oc30, od30, .func (PySem.W.fnOf "_law_refused_right" "_law_refused_right" (defArgs s_law_refused_right) (defBody s_law_refused_right) (defScope s_law_refused_right) .none kV30 dc30 pm30 an30 (.ref cc30) ct30), sl30⟩) (c30 : PySem.W.codeIn K (.ref cc30) "_law_refused_right" = true) (k30 : PySem.W.keepIn K (.ref f30) = true) (zlc30 : K.lookup cc30 = some ⟨.type "code", do30, .fields vs30, so30⟩) (zpp30 : vs30[11]? = some (Value.ref PP30)) (zhc30 : PySem.W.codeHdIn K cc30 PP30 = true) (znt30 : K.lookup PP30 = none) (a31 : PySem.W.nsIn K mainGlobals "_law_told_right" = some (some (.ref f31))) (l31 : K.lookup f31 = some ⟨oc31, od31, .func (PySem.W.fnOf "_law_told_right" "_law_told_right" (defArgs s_law_told_right) (defBody s_law_told_right) (defScope s_law_told_right) .none kV31 dc31 pm31 an31 cd31 ct31), sl31⟩) (c31 : PySem.W.codeIn K cd31 "_law_told_right" = true) (k31 : PySem.W.keepIn K (.ref f31) = true) (a32 : PySem.W.nsIn K mainGlobals "law" = some (some (.ref f32))) (l32 : K.lookup f32 = some ⟨oc32, od32, .func (PySem.W.fnOf "law" "law" (defArgs s_law) (defBody s_law) (defScope s_law) .none kV32 dc32 pm32 an32 cd32 ct32), sl32⟩) (c32 : PySem.W.codeIn K cd32 "law" = true) (k32 : PySem.W.keepIn K (.ref f32) = true) :
    ∃ fd : FuncData, (∀ (s : Shared) (v : Value), BindsTo s fd ⟨[v], []⟩ [("_law_script", v)]) ∧ (∀ base : Heap, K.In base → base.Ns mainGlobals mg → (∀ p ∈ ([(cc30, PP30)] : List (Addr × Addr)), LamX.TabB base mg p.1 p.2) → FnOk l.prog w K mg base (L2.CX l.prog w) 10 fa fd ["_law_script"] (spP K mg 1 F_law)) ∧ (∀ p ∈ ([(cc30, PP30)] : List (Addr × Addr)), PySem.W.codeHdIn K p.1 p.2 = true ∧ K.lookup p.2 = none) ∧ lamT K mg = [(PP30, ("_law_refused_right" : Str) ++ (".<locals>." : Str) ++ ("<lambda>" : Str))] := by
  have e := hfa.symm.trans (PySem.W.mg_of X G a32)
  cases e
  have F0 := fun_mk (st := s_law_hand) (x := "_law_hand") l0 c0 k0
  have b0 := F0.binds (ps := ["_law_script"]) fun _ _ _ _ _ _ us hl => match us, hl with | [_], _ => rfl
  have F1 := fun_mk (st := s_law_take) (x := "_law_take") l1 c1 k1
  have b1 := F1.binds (ps := ["_law_hand_here", "_law_many"]) fun _ _ _ _ _ _ us hl => match us, hl with | [_, _], _ => rfl
  have F2 := fun_mk (st := s_law_lot) (x := "_law_lot") l2 c2 k2
  have b2 := F2.binds (ps := ["_law_hand_here", "_law_many", "_law_size"]) fun _ _ _ _ _ _ us hl => match us, hl with | [_, _, _], _ => rfl
  have F3 := fun_mk (st := s_is_integer) (x := "is_integer") l3 c3 k3
  have b3 := F3.binds (ps := ["value"]) fun _ _ _ _ _ _ us hl => match us, hl with | [_], _ => rfl
  have F4 := fun_mk (st := s_is_listed) (x := "is_listed") l4 c4 k4
  have b4 := F4.binds (ps := ["value"]) fun _ _ _ _ _ _ us hl => match us, hl with | [_], _ => rfl
  have F5 := fun_mk (st := s_are_integers) (x := "are_integers") l5 c5 k5
  have b5 := F5.binds (ps := ["value"]) fun _ _ _ _ _ _ us hl => match us, hl with | [_], _ => rfl
  have F6 := fun_mk (st := s_Rowx__initx_) (x := "__init__") l6 c6 k6
  have b6 := F6.binds (ps := ["self", "numbers"]) fun _ _ _ _ _ _ us hl => match us, hl with | [_, _], _ => rfl
  have F7 := fun_mk (st := s_Row_left_out) (x := "left_out") l7 c7 k7
  have b7 := F7.binds (ps := ["self"]) fun _ _ _ _ _ _ us hl => match us, hl with | [_], _ => rfl
  have F8 := fun_mk (st := s_first_twice) (x := "first_twice") l8 c8 k8
  have b8 := F8.binds (ps := ["values"]) fun _ _ _ _ _ _ us hl => match us, hl with | [_], _ => rfl
  have F9 := fun_mk (st := s_is_within) (x := "is_within") l9 c9 k9
  have b9 := F9.binds (ps := ["value", "least", "most"]) fun _ _ _ _ _ _ us hl => match us, hl with | [_, _, _], _ => rfl
  have F10 := fun_mk (st := s_BadNumberx__initx_) (x := "__init__") l10 c10 k10
  have b10 := F10.binds (ps := ["self", "part"]) fun _ _ _ _ _ _ us hl => match us, hl with | [_, _], _ => rfl
  have F11 := fun_mk (st := s_need_number) (x := "need_number") l11 c11 k11
  have b11 := F11.binds (ps := ["value", "part", "least", "most"]) fun _ _ _ _ _ _ us hl => match us, hl with | [_, _, _, _], _ => rfl
  have F12 := fun_mk (st := s_need_many) (x := "need_many") l12 c12 k12
  have b12 := F12.binds (ps := ["value"]) fun _ _ _ _ _ _ us hl => match us, hl with | [_], _ => rfl
  have F13 := fun_mk (st := s_Row_of) (x := "of") l13 c13 k13
  have b13 := F13.binds (ps := ["many", "marks"]) fun _ _ _ _ _ _ us hl => match us, hl with | [_, _], _ => rfl
  have F14 := fun_mk (st := s_law_counts) (x := "_law_counts") l14 c14 k14
  have b14 := F14.binds (ps := ["_law_many", "_law_marks"]) fun _ _ _ _ _ _ us hl => match us, hl with | [_, _], _ => rfl
  have F15 := fun_mk (st := s_counts_of) (x := "counts_of") l15 c15 k15
  have b15 := F15.binds (ps := ["told"]) fun _ _ _ _ _ _ us hl => match us, hl with | [_], _ => rfl
  have F16 := fun_mk (st := s_BadRowx__initx_) (x := "__init__") l16 c16 k16
  have b16 := F16.binds (ps := ["self", "part"]) fun _ _ _ _ _ _ us hl => match us, hl with | [_, _], _ => rfl
  have F17 := fun_mk (st := s_need_row) (x := "need_row") l17 c17 k17
  have b17 := F17.binds (ps := ["value", "part"]) fun _ _ _ _ _ _ us hl => match us, hl with | [_, _], _ => rfl
  have F18 := fun_mk (st := s_need_lot) (x := "need_lot") l18 c18 k18
  have b18 := F18.binds (ps := ["value", "part"]) fun _ _ _ _ _ _ us hl => match us, hl with | [_, _], _ => rfl
  have F19 := fun_mk (st := s_sums_across) (x := "sums_across") l19 c19 k19
  have b19 := F19.binds (ps := ["one", "other"]) fun _ _ _ _ _ _ us hl => match us, hl with | [_, _], _ => rfl
  have F20 := fun_mk (st := s_distances) (x := "distances") l20 c20 k20
  have b20 := F20.binds (ps := ["lot"]) fun _ _ _ _ _ _ us hl => match us, hl with | [_], _ => rfl
  have F21 := fun_mk (st := s_coming) (x := "coming") l21 c21 k21
  have b21 := F21.binds (ps := ["lot"]) fun _ _ _ _ _ _ us hl => match us, hl with | [_], _ => rfl
  have F22 := fun_mk (st := s_need_counts) (x := "need_counts") l22 c22 k22
  have b22 := F22.binds (ps := ["many", "size", "counts"]) fun _ _ _ _ _ _ us hl => match us, hl with | [_, _, _], _ => rfl
  have F23 := fun_mk (st := s_distances_left_out) (x := "distances_left_out") l23 c23 k23
  have b23 := F23.binds (ps := ["many", "size", "counts"]) fun _ _ _ _ _ _ us hl => match us, hl with | [_, _, _], _ => rfl
  have F24 := fun_mk (st := s_not_coming) (x := "not_coming") l24 c24 k24
  have b24 := F24.binds (ps := ["lot"]) fun _ _ _ _ _ _ us hl => match us, hl with | [_], _ => rfl
  have F25 := fun_mk (st := s_spans) (x := "spans") l25 c25 k25
  have b25 := F25.binds (ps := ["row"]) fun _ _ _ _ _ _ us hl => match us, hl with | [_], _ => rfl
  have F26 := fun_mk (st := s_law_lot_right) (x := "_law_lot_right") l26 c26 k26
  have b26 := F26.binds (ps := ["_law_many", "_law_marks"]) fun _ _ _ _ _ _ us hl => match us, hl with | [_, _], _ => rfl
  have F27 := fun_mk (st := s_law_lots) (x := "_law_lots") l27 c27 k27
  have b27 := F27.binds (ps := ["_law_many", "_law_size"]) fun _ _ _ _ _ _ us hl => match us, hl with | [_, _], _ => rfl
  have F28 := fun_mk (st := s_law_pick) (x := "_law_pick") l28 c28 k28
  have b28 := F28.binds (ps := ["_law_hand_here", "_law_some"]) fun _ _ _ _ _ _ us hl => match us, hl with | [_, _], _ => rfl
  have F29 := fun_mk (st := s_law_heard) (x := "_law_heard") l29 c29 k29
  have b29 := F29.binds (ps := ["_law_ask"]) fun _ _ _ _ _ _ us hl => match us, hl with | [_], _ => rfl
  have F30 := fun_mk (st := s_law_refused_right) (x := "_law_refused_right") l30 c30 k30
  have FL30 := funL_mk (st := s_law_refused_right) (x := "_law_refused_right") l30 c30
  have b30 := F30.binds (ps := ["_law_hand_here"]) fun _ _ _ _ _ _ us hl => match us, hl with | [_], _ => rfl
  have F31 := fun_mk (st := s_law_told_right) (x := "_law_told_right") l31 c31 k31
  have b31 := F31.binds (ps := ["_law_hand_here"]) fun _ _ _ _ _ _ us hl => match us, hl with | [_], _ => rfl
  have F32 := fun_mk (st := s_law) (x := "law") l32 c32 k32
  have b32 := F32.binds (ps := ["_law_script"]) fun _ _ _ _ _ _ us hl => match us, hl with | [_], _ => rfl
  let T : Tx l.prog K mg := { m_abs := PySem.W.mg_none_of X G zb_abs, m_all := PySem.W.mg_none_of X G zb_all, m_bool := PySem.W.mg_none_of X G zb_bool, m_enumerate := PySem.W.mg_none_of X G zb_enumerate, m_int := PySem.W.mg_none_of X G zb_int, m_isinstance := PySem.W.mg_none_of X G zb_isinstance, m_len := PySem.W.mg_none_of X G zb_len, m_list := PySem.W.mg_none_of X G zb_list, m_min := PySem.W.mg_none_of X G zb_min, m_range := PySem.W.mg_none_of X G zb_range, m_sorted := PySem.W.mg_none_of X G zb_sorted, m_sum := PySem.W.mg_none_of X G zb_sum, m_tuple := PySem.W.mg_none_of X G zb_tuple, m_zip := PySem.W.mg_none_of X G zb_zip, C_Row := CRow, ctRow := ⟨PySem.W.mg_of X G zc_Row, ⟨⟨zpg_Row, zhd_Row, zpo_Row, zsa_Row⟩, zha_Row, zhn_Row, ztk_Row, zhm_Row⟩, zmk_Row, zkp_Row, by show (if _ then _ else _) = _; exact if_pos (beq_self_eq_true _), zne_Row⟩, na_Row_is_lot := zna_Row_is_lot, na_Row_many := zna_Row_many, na_Row_marks := zna_Row_marks, na_Row_numbers := zna_Row_numbers, na_Row_total := zna_Row_total, t_LEAST_MANY := tLEAST_MANY, g_LEAST_MANY := PySem.W.mg_of X G zg_LEAST_MANY, t_MOST_MANY := tMOST_MANY, g_MOST_MANY := PySem.W.mg_of X G zg_MOST_MANY, Cx_BadNumber := CXBadNumber, mx_BadNumber := PySem.W.mg_of X G zx_BadNumber, Cx_BadRow := CXBadRow, mx_BadRow := PySem.W.mg_of X G zx_BadRow, Cx_BeatError := CXBeatError, mx_BeatError := PySem.W.mg_of X G zx_BeatError, Cx_Misfit := CXMisfit, mx_Misfit := PySem.W.mg_of X G zx_Misfit, Cx_NoDivisor := CXNoDivisor, mx_NoDivisor := PySem.W.mg_of X G zx_NoDivisor, Cx_TooMany := CXTooMany, mx_TooMany := PySem.W.mg_of X G zx_TooMany, ox_BadNumber := ⟨⟨_, _, _, _, _, _, _, _, _, _, _, _, _, _, _, zl_BadNumber, zr_BadNumber⟩, zsa_xBadNumber, zeb_BadNumber, zyc_BadNumber, zkc_BadNumber⟩, xk_BadNumber := zk_BadNumber, nf_BadNumber_part := zf_BadNumber_part, ox_BadRow := ⟨⟨_, _, _, _, _, _, _, _, _, _, _, _, _, _, _, zl_BadRow, zr_BadRow⟩, zsa_xBadRow, zeb_BadRow, zyc_BadRow, zkc_BadRow⟩, xk_BadRow := zk_BadRow, nf_BadRow_part := zf_BadRow_part, hx_BadNumber := zhx_BadNumber, tx_BadNumber := ztx_BadNumber, ss_BadNumber := zss_BadNumber, hx_BadRow := zhx_BadRow, tx_BadRow := ztx_BadRow, ss_BadRow := zss_BadRow, hx_BeatError := zhx_BeatError, tx_BeatError := ztx_BeatError, ss_BeatError := zss_BeatError, hx_Misfit := zhx_Misfit, tx_Misfit := ztx_Misfit, ss_Misfit := zss_Misfit, hx_NoDivisor := zhx_NoDivisor, tx_NoDivisor := ztx_NoDivisor, ss_NoDivisor := zss_NoDivisor, hx_TooMany := zhx_TooMany, tx_TooMany := ztx_TooMany, ss_TooMany := zss_TooMany, sB_BeatError := zsB_BeatError, tr_Row := ztr_Row, sr_NoneType_Row := zsr_NoneType_Row, sr_int_Row := zsr_int_Row, sr_bool_Row := zsr_bool_Row, sr_str_Row := zsr_str_Row, sr_list_Row := zsr_list_Row, sr_tuple_Row := zsr_tuple_Row, sr_dict_Row := zsr_dict_Row, sb_None_BadNumber := zsb_None_BadNumber, sb_None_BadRow := zsb_None_BadRow, sb_None_Misfit := zsb_None_Misfit, sb_None_NoDivisor := zsb_None_NoDivisor, sb_None_TooMany := zsb_None_TooMany, sb_BadNumber_BadNumber := zsb_BadNumber_BadNumber, sb_BadNumber_BadRow := zsb_BadNumber_BadRow, sb_BadNumber_BeatError := zsb_BadNumber_BeatError, sb_BadNumber_Misfit := zsb_BadNumber_Misfit, sb_BadNumber_NoDivisor := zsb_BadNumber_NoDivisor, sb_BadNumber_TooMany := zsb_BadNumber_TooMany, sb_BadRow_BadNumber := zsb_BadRow_BadNumber, sb_BadRow_BadRow := zsb_BadRow_BadRow, sb_BadRow_BeatError := zsb_BadRow_BeatError, sb_BadRow_Misfit := zsb_BadRow_Misfit, sb_BadRow_NoDivisor := zsb_BadRow_NoDivisor, sb_BadRow_TooMany := zsb_BadRow_TooMany, g_law_hand := PySem.W.mg_of X G a0, f_law_hand := f0, fd_law_hand := _, F_law_hand := F0, b_law_hand := b0, f_law_hand_kp := k0, g_law_take := PySem.W.mg_of X G a1, f_law_take := f1, fd_law_take := _, F_law_take := F1, b_law_take := b1, f_law_take_kp := k1, g_law_lot := PySem.W.mg_of X G a2, f_law_lot := f2, fd_law_lot := _, F_law_lot := F2, b_law_lot := b2, f_law_lot_kp := k2, g_is_integer := PySem.W.mg_of X G a3, f_is_integer := f3, fd_is_integer := _, F_is_integer := F3, b_is_integer := b3, f_is_integer_kp := k3, g_is_listed := PySem.W.mg_of X G a4, f_is_listed := f4, fd_is_listed := _, F_is_listed := F4, b_is_listed := b4, f_is_listed_kp := k4, g_are_integers := PySem.W.mg_of X G a5, f_are_integers := f5, fd_are_integers := _, F_are_integers := F5, b_are_integers := b5, f_are_integers_kp := k5, a_Rowx__initx_ := a6, fn_Rowx__initx_ := i6, f_Rowx__initx_ := f6, fd_Rowx__initx_ := _, F_Rowx__initx_ := F6, b_Rowx__initx_ := b6, f_Rowx__initx__kp := k6, a_Row_left_out := a7, fn_Row_left_out := i7, f_Row_left_out := f7, fd_Row_left_out := _, F_Row_left_out := F7, b_Row_left_out := b7, f_Row_left_out_kp := k7, g_first_twice := PySem.W.mg_of X G a8, f_first_twice := f8, fd_first_twice := _, F_first_twice := F8, b_first_twice := b8, f_first_twice_kp := k8, g_is_within := PySem.W.mg_of X G a9, f_is_within := f9, fd_is_within := _, F_is_within := F9, b_is_within := b9, f_is_within_kp := k9, ic_BadNumber := zic10_BadNumber, ti_BadNumberx__initx_ := zti10, f_BadNumberx__initx_ := f10, fd_BadNumberx__initx_ := _, F_BadNumberx__initx_ := F10, b_BadNumberx__initx_ := b10, f_BadNumberx__initx__kp := k10, g_need_number := PySem.W.mg_of X G a11, f_need_number := f11, fd_need_number := _, F_need_number := F11, b_need_number := b11, f_need_number_kp := k11, g_need_many := PySem.W.mg_of X G a12, f_need_many := f12, fd_need_many := _, F_need_many := F12, b_need_many := b12, f_need_many_kp := k12, st_Row_of := ⟨⟨_, sp13, rs13, sr13, sf13, se13⟩, sg13, k13⟩, f_Row_of := f13, fd_Row_of := _, F_Row_of := F13, b_Row_of := b13, f_Row_of_kp := k13, g_law_counts := PySem.W.mg_of X G a14, f_law_counts := f14, fd_law_counts := _, F_law_counts := F14, b_law_counts := b14, f_law_counts_kp := k14, g_counts_of := PySem.W.mg_of X G a15, f_counts_of := f15, fd_counts_of := _, F_counts_of := F15, b_counts_of := b15, f_counts_of_kp := k15, ic_BadRow := zic16_BadRow, ti_BadRowx__initx_ := zti16, f_BadRowx__initx_ := f16, fd_BadRowx__initx_ := _, F_BadRowx__initx_ := F16, b_BadRowx__initx_ := b16, f_BadRowx__initx__kp := k16, g_need_row := PySem.W.mg_of X G a17, f_need_row := f17, fd_need_row := _, F_need_row := F17, b_need_row := b17, f_need_row_kp := k17, g_need_lot := PySem.W.mg_of X G a18, f_need_lot := f18, fd_need_lot := _, F_need_lot := F18, b_need_lot := b18, f_need_lot_kp := k18, g_sums_across := PySem.W.mg_of X G a19, f_sums_across := f19, fd_sums_across := _, F_sums_across := F19, b_sums_across := b19, f_sums_across_kp := k19, g_distances := PySem.W.mg_of X G a20, f_distances := f20, fd_distances := _, F_distances := F20, b_distances := b20, f_distances_kp := k20, g_coming := PySem.W.mg_of X G a21, f_coming := f21, fd_coming := _, F_coming := F21, b_coming := b21, f_coming_kp := k21, g_need_counts := PySem.W.mg_of X G a22, f_need_counts := f22, fd_need_counts := _, F_need_counts := F22, b_need_counts := b22, f_need_counts_kp := k22, g_distances_left_out := PySem.W.mg_of X G a23, f_distances_left_out := f23, fd_distances_left_out := _, F_distances_left_out := F23, b_distances_left_out := b23, f_distances_left_out_kp := k23, g_not_coming := PySem.W.mg_of X G a24, f_not_coming := f24, fd_not_coming := _, F_not_coming := F24, b_not_coming := b24, f_not_coming_kp := k24, g_spans := PySem.W.mg_of X G a25, f_spans := f25, fd_spans := _, F_spans := F25, b_spans := b25, f_spans_kp := k25, g_law_lot_right := PySem.W.mg_of X G a26, f_law_lot_right := f26, fd_law_lot_right := _, F_law_lot_right := F26, b_law_lot_right := b26, f_law_lot_right_kp := k26, g_law_lots := PySem.W.mg_of X G a27, f_law_lots := f27, fd_law_lots := _, F_law_lots := F27, b_law_lots := b27, f_law_lots_kp := k27, g_law_pick := PySem.W.mg_of X G a28, f_law_pick := f28, fd_law_pick := _, F_law_pick := F28, b_law_pick := b28, f_law_pick_kp := k28, g_law_heard := PySem.W.mg_of X G a29, f_law_heard := f29, fd_law_heard := _, F_law_heard := F29, b_law_heard := b29, f_law_heard_kp := k29, g_law_refused_right := PySem.W.mg_of X G a30, f_law_refused_right := f30, fd_law_refused_right := _, F_law_refused_right := FL30, b_law_refused_right := b30, f_law_refused_right_kp := k30, g_law_told_right := PySem.W.mg_of X G a31, f_law_told_right := f31, fd_law_told_right := _, F_law_told_right := F31, b_law_told_right := b31, f_law_told_right_kp := k31, g_law := PySem.W.mg_of X G a32, f_law := fa, fd_law := _, F_law := F32, b_law := b32, f_law_kp := k32, c_law_refused_right := cc30, P_law_refused_right := PP30, hc_law_refused_right := zhc30, kb_distances_lot_ := fun s us ws _ h1 h2 => match us, ws, h1, h2 with | [], [_], _, _ => .of_eq rfl, kb_distances_left_out_counts_size_many_ := fun s us ws _ h1 h2 => match us, ws, h1, h2 with | [], [_, _, _], _, _ => .of_eq rfl, kb_coming_lot_ := fun s us ws _ h1 h2 => match us, ws, h1, h2 with | [], [_], _, _ => .of_eq rfl, kb_not_coming_lot_ := fun s us ws _ h1 h2 => match us, ws, h1, h2 with | [], [_], _, _ => .of_eq rfl, kb_spans_row_ := fun s us ws _ h1 h2 => match us, ws, h1, h2 with | [], [_], _, _ => .of_eq rfl }
  refine ⟨_, fun s v => .of_eq rfl, fun base _ _ hb => ok_law T { tb_law_refused_right := hb _ (List.mem_cons_self ..) }, fun p hp => ?_, ?_⟩
  · simp only [List.mem_cons, List.not_mem_nil, or_false] at hp
    rcases hp with rfl
    · exact ⟨zhc30, znt30⟩
  · have e : lamT K mg = [(lamA K mg "_law_refused_right", ("_law_refused_right" : Str) ++ (".<locals>." : Str) ++ ("<lambda>" : Str))] := rfl
    rw [e, lA_law_refused_right T]
theorem cx_no {P : Program} {w : World} {outer : List Env} {H : Hp} {s : Shared} {u : Value} {s' : Shared} (h : L2.CX P w outer H s (fun _ _ _ => False) u s') : False := by
  obtain ⟨_, _, _, _, _, _, _, _, _, _, _, _, h⟩ := h
  exact h
def spEnd (K : PySem.W.Frag) (mg : Str → Option Value) : Sp := fun vs H Q _ => ∃ (a : Addr) (ns : List Int), vs = [.ref a] ∧ SqL K H a (ns.map V.int) ∧ ns.length ≤ 63 ∧ LamX.Tabs (lamT K mg) H ∧ ∀ H', Q (.bl true) H'
theorem end_ok {K : PySem.W.Frag} {mg : Str → Option Value} {H : Hp} {a : Addr} {ns : List Int} (hl : ns.length ≤ 63) (hT : LamX.Tabs (lamT K mg) H) (hS : SqL K H a (ns.map V.int)) : spEnd K mg [.ref a] H (fun v _ => v = .bl true) fun _ _ _ => False := ⟨a, ns, rfl, hS, hl, hT, fun _ => rfl⟩
theorem sql_noT {K : PySem.W.Frag} {H : Hp} {a : Addr} {xs : List V} (h : SqL K H a xs) : SqL K (noT H) a xs := by
  rcases h with h | h
  · refine .inl ?_
    rcases h with h | ⟨o, h⟩
    · exact .inl (noT_some h fun _ z => nomatch z)
    · exact .inr ⟨o, noT_some h fun _ z => nomatch z⟩
  · exact .inr h
theorem end_imp {K : PySem.W.Frag} {mg : Str → Option Value} : ∀ vs H Q E, spEnd K mg vs H Q E → spP K mg 1 F_law vs H Q E := fun vs H Q E h => by
  obtain ⟨a, ns, rfl, hS, hl, hT, q⟩ := h
  refine ⟨noT H, noT H, [.scr ns], .imm (.bl true), ⟨fun _ _ h => noT_inv h, hT⟩, ⟨fun _ _ h => (noT_inv h).1, fun b ps z => (noT_inv z).2 ps rfl⟩, rfl, .cons (.scr (sql_noT hS)) .nil, law_true ns hl, fun v F' H' _ _ _ r => ?_⟩
  cases r with | imm r => rw [r.bl_inv]; exact q H'
def spE0 (K : PySem.W.Frag) : Sp := fun vs H Q _ => ∃ (a : Addr) (ns : List Int), vs = [.ref a] ∧ SqL K H a (ns.map V.int) ∧ ns.length ≤ 63 ∧ ∀ H', Q (.bl true) H'
theorem end_ok0 {K : PySem.W.Frag} {H : Hp} {a : Addr} {ns : List Int} (hl : ns.length ≤ 63) (hS : SqL K H a (ns.map V.int)) : spE0 K [.ref a] H (fun v _ => v = .bl true) fun _ _ _ => False := ⟨a, ns, rfl, hS, hl, fun _ => rfl⟩
theorem fin_mkT {l : PySem.W.OpenLaw} {w : World} {K : PySem.W.Frag} {mg : Str → Option Value} {fa : Addr} {x : Str} {k : Nat} {h : Heap} {cs : List (Addr × Addr)} {ps : List (Addr × Str)} (KX : K.In h)
    (a : ∃ fd : FuncData, (∀ (s : Shared) (v : Value), BindsTo s fd ⟨[v], []⟩ [(x, v)]) ∧ (∀ base : Heap, K.In base → base.Ns mainGlobals mg → (∀ p ∈ cs, LamX.TabB base mg p.1 p.2) → FnOk l.prog w K mg base (L2.CX l.prog w) k fa fd [x] (spP K mg 1 F_law)) ∧ (∀ p ∈ cs, PySem.W.codeHdIn K p.1 p.2 = true ∧ K.lookup p.2 = none) ∧ lamT K mg = ps)
    (ht : ∀ p ∈ cs, h.get? p.2 = some { cls := .none, data := .fields #[] }) (hps : ps.map (·.1) = cs.map (·.2) := by rfl) : LamX.LawAtS l w K (L2.CX l.prog w) k 63 x mg fa h := by
  obtain ⟨fd, h1, h2, h3, h4⟩ := a
  refine ⟨fd, cs, spEnd K mg, ht, fun p hp => (h3 p hp).2, fun p hp => PySem.W.codeHd_of_K KX (h3 p hp).1, h1, fun H a ns hl _ hT hS => end_ok hl (fun p hp => ?_) hS, fun base b1 b2 b3 => (h2 base b1 b2 b3).imp end_imp⟩
  rw [h4] at hp
  have hm : p.1 ∈ ps.map (·.1) := List.mem_map_of_mem hp
  rw [hps] at hm
  obtain ⟨c, hc, e⟩ := List.mem_map.mp hm
  exact LamX.TabS.nil (by rw [← e]; exact hT c hc)
end K12
open PySem PySem.W PyProof.Rows
set_option maxRecDepth 100000 in
set_option maxHeartbeats 0 in
theorem PySem.Challenge.cw_spanalike_k12_whole_what_is_left_out_holds : PySem.Challenge.rw_spanalike_k12_whole_what_is_left_out.Holds := by
  w_on; o_law; k_head; (case hw => w_witness2)
  k_fill
  refine LamX.walk_ofTs (l := PySem.Challenge.rw_spanalike_k12_whole_what_is_left_out) (n := 63) (k := 10) (x := "_law_script") (CX := fun w => L2.CX PySem.Challenge.rw_spanalike_k12_whole_what_is_left_out.prog w) rfl (by decide) rfl ⟨rfl, by decide, by decide⟩ (fun w h Y => PySem.W.km_in_of Y) ?F (fun _ _ _ _ _ h => K12.cx_no h)
  case F =>
    intro w mg fa h Y KX G hmg
    refine' K12.fin_mkT KX (K12.all_mk KX G hmg ?zb_abs ?zb_all ?zb_bool ?zb_enumerate ?zb_int ?zb_isinstance ?zb_len ?zb_list ?zb_min ?zb_range ?zb_sorted ?zb_sum ?zb_tuple ?zb_zip ?zc_Row ?zpg_Row ?zhd_Row ?zpo_Row ?zsa_Row ?zha_Row ?zhn_Row ?ztk_Row ?zhm_Row ?zmk_Row ?zkp_Row ?zne_Row ?zna_Row_is_lot ?zna_Row_many ?zna_Row_marks ?zna_Row_numbers ?zna_Row_total ?zg_LEAST_MANY ?zg_MOST_MANY ?zx_BadNumber ?zx_BadRow ?zx_BeatError ?zx_Misfit ?zx_NoDivisor ?zx_TooMany ?zl_BadNumber ?zr_BadNumber ?zsa_xBadNumber ?zeb_BadNumber ?zyc_BadNumber ?zkc_BadNumber ?zk_BadNumber ?zf_BadNumber_part ?zl_BadRow ?zr_BadRow ?zsa_xBadRow ?zeb_BadRow ?zyc_BadRow ?zkc_BadRow ?zk_BadRow ?zf_BadRow_part ?zhx_BadNumber ?ztx_BadNumber ?zss_BadNumber ?zhx_BadRow ?ztx_BadRow ?zss_BadRow ?zhx_BeatError ?ztx_BeatError ?zss_BeatError ?zhx_Misfit ?ztx_Misfit ?zss_Misfit ?zhx_NoDivisor ?ztx_NoDivisor ?zss_NoDivisor ?zhx_TooMany ?ztx_TooMany ?zss_TooMany ?zsB_BeatError ?ztr_Row ?zsr_NoneType_Row ?zsr_int_Row ?zsr_bool_Row ?zsr_str_Row ?zsr_list_Row ?zsr_tuple_Row ?zsr_dict_Row ?zsb_None_BadNumber ?zsb_None_BadRow ?zsb_None_Misfit ?zsb_None_NoDivisor ?zsb_None_TooMany ?zsb_BadNumber_BadNumber ?zsb_BadNumber_BadRow ?zsb_BadNumber_BeatError ?zsb_BadNumber_Misfit ?zsb_BadNumber_NoDivisor ?zsb_BadNumber_TooMany ?zsb_BadRow_BadNumber ?zsb_BadRow_BadRow ?zsb_BadRow_BeatError ?zsb_BadRow_Misfit ?zsb_BadRow_NoDivisor ?zsb_BadRow_TooMany ?a0 ?l0 ?c0 ?k0 ?a1 ?l1 ?c1 ?k1 ?a2 ?l2 ?c2 ?k2 ?a3 ?l3 ?c3 ?k3 ?a4 ?l4 ?c4 ?k4 ?a5 ?l5 ?c5 ?k5 ?a6 ?i6 ?l6 ?c6 ?k6 ?a7 ?i7 ?l7 ?c7 ?k7 ?a8 ?l8 ?c8 ?k8 ?a9 ?l9 ?c9 ?k9 ?zic10_BadNumber ?zti10 ?l10 ?c10 ?k10 ?a11 ?l11 ?c11 ?k11 ?a12 ?l12 ?c12 ?k12 ?sr13 ?sf13 ?se13 ?sg13 ?l13 ?c13 ?k13 ?a14 ?l14 ?c14 ?k14 ?a15 ?l15 ?c15 ?k15 ?zic16_BadRow ?zti16 ?l16 ?c16 ?k16 ?a17 ?l17 ?c17 ?k17 ?a18 ?l18 ?c18 ?k18 ?a19 ?l19 ?c19 ?k19 ?a20 ?l20 ?c20 ?k20 ?a21 ?l21 ?c21 ?k21 ?a22 ?l22 ?c22 ?k22 ?a23 ?l23 ?c23 ?k23 ?a24 ?l24 ?c24 ?k24 ?a25 ?l25 ?c25 ?k25 ?a26 ?l26 ?c26 ?k26 ?a27 ?l27 ?c27 ?k27 ?a28 ?l28 ?c28 ?k28 ?a29 ?l29 ?c29 ?k29 ?a30 ?l30 ?c30 ?k30 ?zlc30 ?zpp30 ?zhc30 ?znt30 ?a31 ?l31 ?c31 ?k31 ?a32 ?l32 ?c32 ?k32) ?tabs
    (case zb_abs => k_is); (case zb_all => k_is); (case zb_bool => k_is); (case zb_enumerate => k_is); (case zb_int => k_is); (case zb_isinstance => k_is); (case zb_len => k_is); (case zb_list => k_is)
    (case zb_min => k_is); (case zb_range => k_is); (case zb_sorted => k_is); (case zb_sum => k_is); (case zb_tuple => k_is); (case zb_zip => k_is); (case zc_Row => k_is); (case zpg_Row => k_is)
    (case zhd_Row => k_is); (case zpo_Row => k_is); (case zsa_Row => k_is); (case zha_Row => k_is); (case zhn_Row => k_is); (case ztk_Row => k_is); (case zhm_Row => k_is); (case zmk_Row => k_is)
    (case zkp_Row => k_is); (case zne_Row => k_is); (case zna_Row_is_lot => k_is); (case zna_Row_many => k_is); (case zna_Row_marks => k_is); (case zna_Row_numbers => k_is); (case zna_Row_total => k_is); (case zg_LEAST_MANY => k_is)
    (case zg_MOST_MANY => k_is); (case zx_BadNumber => k_is); (case zx_BadRow => k_is); (case zx_BeatError => k_is); (case zx_Misfit => k_is); (case zx_NoDivisor => k_is); (case zx_TooMany => k_is); (case zl_BadNumber => k_is)
    (case zr_BadNumber => rfl); (case zsa_xBadNumber => k_is); (case zeb_BadNumber => k_is); (case zyc_BadNumber => k_is); (case zkc_BadNumber => k_is); (case zk_BadNumber => refine ⟨?h1, ?h2, ?h3, ?h4, ?h5, ?h6, ?h7, ?h8⟩; (case h1 => k_is); (case h2 => k_is); (case h3 => k_is); (case h4 => k_is); (case h5 => k_is); (case h6 => k_is); (case h7 => k_is); (case h8 => k_is)); (case zf_BadNumber_part => k_is); (case zl_BadRow => k_is)
    (case zr_BadRow => rfl); (case zsa_xBadRow => k_is); (case zeb_BadRow => k_is); (case zyc_BadRow => k_is); (case zkc_BadRow => k_is); (case zk_BadRow => refine ⟨?h1, ?h2, ?h3, ?h4, ?h5, ?h6, ?h7, ?h8⟩; (case h1 => k_is); (case h2 => k_is); (case h3 => k_is); (case h4 => k_is); (case h5 => k_is); (case h6 => k_is); (case h7 => k_is); (case h8 => k_is)); (case zf_BadRow_part => k_is); (case zhx_BadNumber => k_is)
    (case ztx_BadNumber => k_is); (case zss_BadNumber => k_is); (case zhx_BadRow => k_is); (case ztx_BadRow => k_is); (case zss_BadRow => k_is); (case zhx_BeatError => k_is); (case ztx_BeatError => k_is); (case zss_BeatError => k_is)
    (case zhx_Misfit => k_is); (case ztx_Misfit => k_is); (case zss_Misfit => k_is); (case zhx_NoDivisor => k_is); (case ztx_NoDivisor => k_is); (case zss_NoDivisor => k_is); (case zhx_TooMany => k_is); (case ztx_TooMany => k_is)
    (case zss_TooMany => k_is); (case zsB_BeatError => k_is); (case ztr_Row => k_is); (case zsr_NoneType_Row => k_is); (case zsr_int_Row => k_is); (case zsr_bool_Row => k_is); (case zsr_str_Row => k_is); (case zsr_list_Row => k_is)
    (case zsr_tuple_Row => k_is); (case zsr_dict_Row => k_is); (case zsb_None_BadNumber => k_is); (case zsb_None_BadRow => k_is); (case zsb_None_Misfit => k_is); (case zsb_None_NoDivisor => k_is); (case zsb_None_TooMany => k_is); (case zsb_BadNumber_BadNumber => k_is)
    (case zsb_BadNumber_BadRow => k_is); (case zsb_BadNumber_BeatError => k_is); (case zsb_BadNumber_Misfit => k_is); (case zsb_BadNumber_NoDivisor => k_is); (case zsb_BadNumber_TooMany => k_is); (case zsb_BadRow_BadNumber => k_is); (case zsb_BadRow_BadRow => k_is); (case zsb_BadRow_BeatError => k_is)
    (case zsb_BadRow_Misfit => k_is); (case zsb_BadRow_NoDivisor => k_is); (case zsb_BadRow_TooMany => k_is); (case a0 => k_is); (case l0 => k_is); (case c0 => k_is); (case k0 => k_is); (case a1 => k_is)
    (case l1 => k_is); (case c1 => k_is); (case k1 => k_is); (case a2 => k_is); (case l2 => k_is); (case c2 => k_is); (case k2 => k_is); (case a3 => k_is)
    (case l3 => k_is); (case c3 => k_is); (case k3 => k_is); (case a4 => k_is); (case l4 => k_is); (case c4 => k_is); (case k4 => k_is); (case a5 => k_is)
    (case l5 => k_is); (case c5 => k_is); (case k5 => k_is); (case a6 => k_is); (case i6 => k_is); (case l6 => k_is); (case c6 => k_is); (case k6 => k_is)
    (case a7 => k_is); (case i7 => k_is); (case l7 => k_is); (case c7 => k_is); (case k7 => k_is); (case a8 => k_is); (case l8 => k_is); (case c8 => k_is)
    (case k8 => k_is); (case a9 => k_is); (case l9 => k_is); (case c9 => k_is); (case k9 => k_is); (case zic10_BadNumber => k_is); (case zti10 => k_is); (case l10 => k_is)
    (case c10 => k_is); (case k10 => k_is); (case a11 => k_is); (case l11 => k_is); (case c11 => k_is); (case k11 => k_is); (case a12 => k_is); (case l12 => k_is)
    (case c12 => k_is); (case k12 => k_is); (case sr13 => k_is); (case sf13 => k_is); (case se13 => k_is); (case sg13 => k_is); (case l13 => k_is); (case c13 => k_is)
    (case k13 => k_is); (case a14 => k_is); (case l14 => k_is); (case c14 => k_is); (case k14 => k_is); (case a15 => k_is); (case l15 => k_is); (case c15 => k_is)
    (case k15 => k_is); (case zic16_BadRow => k_is); (case zti16 => k_is); (case l16 => k_is); (case c16 => k_is); (case k16 => k_is); (case a17 => k_is); (case l17 => k_is)
    (case c17 => k_is); (case k17 => k_is); (case a18 => k_is); (case l18 => k_is); (case c18 => k_is); (case k18 => k_is); (case a19 => k_is); (case l19 => k_is)
    (case c19 => k_is); (case k19 => k_is); (case a20 => k_is); (case l20 => k_is); (case c20 => k_is); (case k20 => k_is); (case a21 => k_is); (case l21 => k_is)
    (case c21 => k_is); (case k21 => k_is); (case a22 => k_is); (case l22 => k_is); (case c22 => k_is); (case k22 => k_is); (case a23 => k_is); (case l23 => k_is)
    (case c23 => k_is); (case k23 => k_is); (case a24 => k_is); (case l24 => k_is); (case c24 => k_is); (case k24 => k_is); (case a25 => k_is); (case l25 => k_is)
    (case c25 => k_is); (case k25 => k_is); (case a26 => k_is); (case l26 => k_is); (case c26 => k_is); (case k26 => k_is); (case a27 => k_is); (case l27 => k_is)
    (case c27 => k_is); (case k27 => k_is); (case a28 => k_is); (case l28 => k_is); (case c28 => k_is); (case k28 => k_is); (case a29 => k_is); (case l29 => k_is)
    (case c29 => k_is); (case k29 => k_is); (case a30 => k_is); (case l30 => k_is); (case c30 => k_is); (case k30 => k_is); (case zlc30 => k_is); (case zpp30 => rfl)
    (case zhc30 => kernel_rfl); (case znt30 => kernel_rfl); (case a31 => k_is); (case l31 => k_is); (case c31 => k_is); (case k31 => k_is); (case a32 => k_is); (case l32 => k_is)
    (case c32 => k_is); (case k32 => k_is)
    case tabs => exact fun p hp => PySem.W.km_tabs_of Y p.2 (by revert p; decide)
