import PyProof.Rows.All
import Wide.All
import OpenK.AllK
import Wide.FinOn
import HandS.ForMost
import HandS.ForExc
import HandS.CallSlots
import HandS.IsInst
import HandS.TupAny
import HandS.Deep
import HandS.Wide
import HandS.Flow
import HandS.Conv
import HandS.Style
import HandS.Lambda
import HandS.DeepEq
import HandS.DictEq
import PyProof.NeKinds
import KE.GoesMore
import HandS.EndBits
import HandS.EndTab
import HandS.SortInts
import HandS.ExcIs
import HandS.ExcField
import HandS.TryOnly
import KE.KNestM
import HandS.SetFor
import HandS.Strs
import HandS.Sort
import HandS.Dict
import KE.LtSeq
import HandS.TupMul
import HandS.ExcInit
import HandS.ClsMeth
import HandS.HotCalls
import PyProof.ReprRoads
import PySem.Challenge.RW_asifalone_k71_what_is_a_program
import PyProof.ReprLen
set_option Elab.async false
set_option linter.all false
set_option maxRecDepth 100000
namespace Dl
open PySem PySem.Spec PyProof.Rows L2

/-! ## data -/
/-- the class that the module's name holds -/
def ClsN (K : PySem.W.Frag) (x : Str) (a : Addr) : Prop := PySem.W.nsIn K mainGlobals x = some (some (.ref a))
inductive D where
  | non | bl (b : Bool) | int (i : Int) | str (s : Str)
  | lst (xs : List D) | tup (xs : List D)
  | scr (xs : List D)
  | dk (kvs : List (Key × D)) | dt (kvs : List (List Key × D))
  | ins (c : Str) (fs : List (Str × D))
  | opq (v : V)

mutual
/-- the value v stands for the datum in the heap H -/
def Rp (K : PySem.W.Frag) (H : Hp) : D → V → Prop
  | .non, v => v = .non
  | .bl b, v => v = .bl b
  | .int i, v => v = .int i
  | .str s, v => v = .str s
  | .lst ds, v => ∃ a xs, v = .ref a ∧ H a = some (.lst xs) ∧ RpL K H ds xs
  | .tup ds, v => ∃ a xs, v = .ref a ∧ SqT K H a xs ∧ RpL K H ds xs
  | .scr ds, v => ∃ a xs, v = .ref a ∧ SqL K H a xs ∧ RpL K H ds xs
  | .dk kvs, v => ∃ a ys, v = .ref a ∧ H a = some (.dK ys) ∧ RpK K H kvs ys
  | .dt kvs, v => ∃ a ys, v = .ref a ∧ H a = some (.dT ys) ∧ RpT K H kvs ys
  | .ins c fs, v => ∃ a C dx ys, v = .ref a ∧ ClsN K c C ∧ H a = some (.ins C dx ys) ∧ H dx = some (.own a) ∧ RpF K H fs ys
  | .opq w, v => v = w
def RpL (K : PySem.W.Frag) (H : Hp) : List D → List V → Prop
  | [], vs => vs = []
  | d :: ds, vs => ∃ v ws, vs = v :: ws ∧ Rp K H d v ∧ RpL K H ds ws
def RpK (K : PySem.W.Frag) (H : Hp) : List (Key × D) → List (Key × V) → Prop
  | [], vs => vs = []
  | (k, d) :: ds, vs => ∃ v ws, vs = (k, v) :: ws ∧ Rp K H d v ∧ RpK K H ds ws
def RpT (K : PySem.W.Frag) (H : Hp) : List (List Key × D) → List (List Key × V) → Prop
  | [], vs => vs = []
  | (k, d) :: ds, vs => ∃ v ws, vs = (k, v) :: ws ∧ Rp K H d v ∧ RpT K H ds ws
def RpF (K : PySem.W.Frag) (H : Hp) : List (Str × D) → List (Str × V) → Prop
  | [], vs => vs = []
  | (k, d) :: ds, vs => ∃ v ws, vs = (k, v) :: ws ∧ Rp K H d v ∧ RpF K H ds ws
end

/-- one heap within another -/
def Sub (F H : Hp) : Prop := ∀ a o, F a = some o → H a = some o
theorem Sub.refl (H : Hp) : Sub H H := fun _ _ h => h
theorem Sub.trans {F G H : Hp} (a : Sub F G) (b : Sub G H) : Sub F H := fun _ _ h => b _ _ (a _ _ h)
section
variable {K : PySem.W.Frag} {F H : Hp}
theorem rd_mono {a : Addr} {u : HO} (e : Sub F H) (h : Rd F a u) : Rd H a u := by
  rcases h with h | ⟨o, h⟩
  · exact .inl (e _ _ h)
  · exact .inr ⟨o, e _ _ h⟩
theorem sqL_mono {a : Addr} {xs : List V} (e : Sub F H) (h : SqL K F a xs) : SqL K H a xs := by
  rcases h with h | h
  · exact .inl (rd_mono e h)
  · exact .inr h
theorem sqT_mono {a : Addr} {xs : List V} (e : Sub F H) (h : SqT K F a xs) : SqT K H a xs := by
  rcases h with h | h
  · exact .inl (rd_mono e h)
  · exact .inr h
mutual
theorem Rp.mono (e : Sub F H) : ∀ (d : D) {v : V}, Rp K F d v → Rp K H d v
  | .non, _, h => by unfold Rp at h ⊢; exact h
  | .bl b, _, h => by unfold Rp at h ⊢; exact h
  | .int i, _, h => by unfold Rp at h ⊢; exact h
  | .str i, _, h => by unfold Rp at h ⊢; exact h
  | .lst ds, _, h => by
    unfold Rp at h ⊢
    obtain ⟨a, xs, e1, h1, h2⟩ := h
    exact ⟨a, xs, e1, e _ _ h1, RpL.mono e ds h2⟩
  | .tup ds, _, h => by
    unfold Rp at h ⊢
    obtain ⟨a, xs, e1, h1, h2⟩ := h
    exact ⟨a, xs, e1, sqT_mono e h1, RpL.mono e ds h2⟩
  | .scr ds, _, h => by
    unfold Rp at h ⊢
    obtain ⟨a, xs, e1, h1, h2⟩ := h
    exact ⟨a, xs, e1, sqL_mono e h1, RpL.mono e ds h2⟩
  | .dk ds, _, h => by
    unfold Rp at h ⊢
    obtain ⟨a, xs, e1, h1, h2⟩ := h
    exact ⟨a, xs, e1, e _ _ h1, RpK.mono e ds h2⟩
  | .dt ds, _, h => by
    unfold Rp at h ⊢
    obtain ⟨a, xs, e1, h1, h2⟩ := h
    exact ⟨a, xs, e1, e _ _ h1, RpT.mono e ds h2⟩
  | .ins c ds, _, h => by
    unfold Rp at h ⊢
    obtain ⟨a, C, dx, xs, e1, nC, h1, h0, h2⟩ := h
    exact ⟨a, C, dx, xs, e1, nC, e _ _ h1, e _ _ h0, RpF.mono e ds h2⟩
  | .opq w, _, h => by unfold Rp at h ⊢; exact h
theorem RpL.mono (e : Sub F H) : ∀ (ds : List D) {vs : List V}, RpL K F ds vs → RpL K H ds vs
  | [], _, h => by unfold RpL at h ⊢; exact h
  | d :: ds, _, h => by
    unfold RpL at h ⊢
    obtain ⟨v, ws, e1, h1, h2⟩ := h
    exact ⟨v, ws, e1, Rp.mono e d h1, RpL.mono e ds h2⟩
theorem RpK.mono (e : Sub F H) : ∀ (ds : List (Key × D)) {vs : List (Key × V)}, RpK K F ds vs → RpK K H ds vs
  | [], _, h => by unfold RpK at h ⊢; exact h
  | (k, d) :: ds, _, h => by
    unfold RpK at h ⊢
    obtain ⟨v, ws, e1, h1, h2⟩ := h
    exact ⟨v, ws, e1, Rp.mono e d h1, RpK.mono e ds h2⟩
theorem RpT.mono (e : Sub F H) : ∀ (ds : List (List Key × D)) {vs : List (List Key × V)}, RpT K F ds vs → RpT K H ds vs
  | [], _, h => by unfold RpT at h ⊢; exact h
  | (k, d) :: ds, _, h => by
    unfold RpT at h ⊢
    obtain ⟨v, ws, e1, h1, h2⟩ := h
    exact ⟨v, ws, e1, Rp.mono e d h1, RpT.mono e ds h2⟩
theorem RpF.mono (e : Sub F H) : ∀ (ds : List (Str × D)) {vs : List (Str × V)}, RpF K F ds vs → RpF K H ds vs
  | [], _, h => by unfold RpF at h ⊢; exact h
  | (k, d) :: ds, _, h => by
    unfold RpF at h ⊢
    obtain ⟨v, ws, e1, h1, h2⟩ := h
    exact ⟨v, ws, e1, Rp.mono e d h1, RpF.mono e ds h2⟩
end

/-! ### lists of data -/
theorem RpL.nil : RpL K F [] [] := by unfold RpL; rfl
theorem RpL.cons {d : D} {v : V} {ds : List D} {vs : List V} (h : Rp K F d v) (t : RpL K F ds vs) : RpL K F (d :: ds) (v :: vs) := by
  unfold RpL
  exact ⟨v, vs, rfl, h, t⟩
theorem RpL.inv {d : D} {ds : List D} {vs : List V} (h : RpL K F (d :: ds) vs) : ∃ v ws, vs = v :: ws ∧ Rp K F d v ∧ RpL K F ds ws := by
  unfold RpL at h
  exact h
theorem RpL.inv0 {vs : List V} (h : RpL K F [] vs) : vs = [] := by
  unfold RpL at h
  exact h
theorem RpL.length : ∀ {ds : List D} {vs : List V}, RpL K F ds vs → ds.length = vs.length
  | [], _, h => by rw [h.inv0]; rfl
  | d :: ds, _, h => by
    obtain ⟨v, ws, rfl, _, t⟩ := h.inv
    rw [List.length_cons, List.length_cons, t.length]
theorem RpL.get : ∀ {ds : List D} {vs : List V} {i : Nat} {d : D}, RpL K F ds vs → ds[i]? = some d → ∃ v, vs[i]? = some v ∧ Rp K F d v
  | [], _, _, _, _, e => by simp at e
  | d :: ds, _, 0, x, h, e => by
    obtain ⟨v, ws, rfl, h1, _⟩ := h.inv
    simp at e
    subst e
    exact ⟨v, rfl, h1⟩
  | d :: ds, _, i + 1, x, h, e => by
    obtain ⟨v, ws, rfl, _, t⟩ := h.inv
    obtain ⟨u, e1, e2⟩ := RpL.get (i := i) (d := x) t (by simpa using e)
    exact ⟨u, by simpa using e1, e2⟩
theorem RpL.append : ∀ {ds es : List D} {vs ws : List V}, RpL K F ds vs → RpL K F es ws → RpL K F (ds ++ es) (vs ++ ws)
  | [], _, _, _, h, k => by rw [h.inv0]; exact k
  | d :: ds, _, _, _, h, k => by
    obtain ⟨v, us, rfl, h1, t⟩ := h.inv
    exact .cons h1 (t.append k)
theorem RpL.take : ∀ {ds : List D} {vs : List V} (n : Nat), RpL K F ds vs → RpL K F (ds.take n) (vs.take n)
  | _, _, 0, _ => by simp; exact .nil
  | [], _, n + 1, h => by rw [h.inv0]; simp; exact .nil
  | d :: ds, _, n + 1, h => by
    obtain ⟨v, ws, rfl, h1, t⟩ := h.inv
    exact .cons h1 (t.take n)
theorem RpL.drop : ∀ {ds : List D} {vs : List V} (n : Nat), RpL K F ds vs → RpL K F (ds.drop n) (vs.drop n)
  | _, _, 0, h => by simpa using h
  | [], _, n + 1, h => by rw [h.inv0]; simp; exact .nil
  | d :: ds, _, n + 1, h => by
    obtain ⟨v, ws, rfl, h1, t⟩ := h.inv
    simpa using t.drop n
theorem RpL.reverse {ds : List D} {vs : List V} (h : RpL K F ds vs) : RpL K F ds.reverse vs.reverse := by
  induction ds generalizing vs with
  | nil => rw [h.inv0]; exact .nil
  | cons d ds ih =>
    obtain ⟨v, ws, rfl, h1, t⟩ := h.inv
    rw [List.reverse_cons, List.reverse_cons]
    exact (ih t).append (.cons h1 .nil)
theorem RpL.set {d : D} {v : V} (hv : Rp K F d v) : ∀ {ds : List D} {vs : List V} (i : Nat), RpL K F ds vs → RpL K F (ds.set i d) (vs.set i v)
  | [], _, _, h => by rw [h.inv0]; exact .nil
  | e :: ds, _, 0, h => by
    obtain ⟨u, ws, rfl, h1, t⟩ := h.inv
    exact .cons hv t
  | e :: ds, _, i + 1, h => by
    obtain ⟨u, ws, rfl, h1, t⟩ := h.inv
    exact .cons h1 (t.set hv i)
theorem RpL.eraseIdx : ∀ {ds : List D} {vs : List V} (i : Nat), RpL K F ds vs → RpL K F (ds.eraseIdx i) (vs.eraseIdx i)
  | [], _, _, h => by rw [h.inv0]; exact .nil
  | e :: ds, _, 0, h => by
    obtain ⟨u, ws, rfl, h1, t⟩ := h.inv
    exact t
  | e :: ds, _, i + 1, h => by
    obtain ⟨u, ws, rfl, h1, t⟩ := h.inv
    exact .cons h1 (t.eraseIdx i)
theorem RpL.dropLast {ds : List D} {vs : List V} (h : RpL K F ds vs) : RpL K F ds.dropLast vs.dropLast := by
  rw [List.dropLast_eq_take, List.dropLast_eq_take, h.length]
  exact h.take _
theorem RpL.replicate {ds : List D} {vs : List V} (h : RpL K F ds vs) (n : Nat) : RpL K F (List.replicate n ds).flatten (List.replicate n vs).flatten := by
  induction n with
  | zero => exact .nil
  | succ n ih =>
    rw [List.replicate_succ, List.replicate_succ, List.flatten_cons, List.flatten_cons]
    exact h.append ih
theorem RpL.ints : ∀ {ns : List Int}, RpL K F (ns.map D.int) (ns.map V.int)
  | [] => .nil
  | n :: ns => .cons (by unfold Rp; rfl) RpL.ints
theorem RpL.strs : ∀ {ns : List Str}, RpL K F (ns.map D.str) (ns.map V.str)
  | [] => .nil
  | n :: ns => .cons (by unfold Rp; rfl) RpL.strs
theorem RpL.bls : ∀ {ns : List Bool}, RpL K F (ns.map D.bl) (ns.map V.bl)
  | [] => .nil
  | n :: ns => .cons (by unfold Rp; rfl) RpL.bls
theorem RpL.ints_inv : ∀ {ns : List Int} {vs : List V}, RpL K F (ns.map D.int) vs → vs = ns.map V.int
  | [], _, h => h.inv0
  | n :: ns, _, h => by
    obtain ⟨v, ws, rfl, h1, t⟩ := RpL.inv (d := .int n) (ds := ns.map D.int) h
    unfold Rp at h1
    rw [h1, RpL.ints_inv t]
    rfl
theorem RpL.bls_inv : ∀ {ns : List Bool} {vs : List V}, RpL K F (ns.map D.bl) vs → vs = ns.map V.bl
  | [], _, h => h.inv0
  | n :: ns, _, h => by
    obtain ⟨v, ws, rfl, h1, t⟩ := RpL.inv (d := .bl n) (ds := ns.map D.bl) h
    unfold Rp at h1
    rw [h1, RpL.bls_inv t]
    rfl
theorem RpL.strs_inv : ∀ {ns : List Str} {vs : List V}, RpL K F (ns.map D.str) vs → vs = ns.map V.str
  | [], _, h => h.inv0
  | n :: ns, _, h => by
    obtain ⟨v, ws, rfl, h1, t⟩ := RpL.inv (d := .str n) (ds := ns.map D.str) h
    unfold Rp at h1
    rw [h1, RpL.strs_inv t]
    rfl
end
end Dl

set_option Elab.async false
set_option linter.all false
set_option maxRecDepth 100000
namespace Dl
open PySem PySem.Spec L2
open PyProof.Rows hiding St

/-! ## owned things within owned things -/
inductive O where
  | fz (d : D)
  | lst (os : List O)
  | dk (kvs : List (Key × O))
  | dt (kvs : List (List Key × O))
  | ins (c : Str) (fs : List (Str × O))
mutual
/-- the value v stands for the tree; ft: what it owns -/
def ORep (K : PySem.W.Frag) (F H : Hp) : O → V → List Addr → Prop
  | .fz d, v, ft => ft = [] ∧ Rp K F d v
  | .lst os, v, ft => ∃ l xs A, v = .ref l ∧ ft = l :: A ∧ H l = some (.lst xs) ∧ F l = none ∧ l ∉ A ∧ ORepL K F H os xs A
  | .dk os, v, ft => ∃ l xs A, v = .ref l ∧ ft = l :: A ∧ H l = some (.dK xs) ∧ F l = none ∧ l ∉ A ∧ ORepK K F H os xs A
  | .dt os, v, ft => ∃ l xs A, v = .ref l ∧ ft = l :: A ∧ H l = some (.dT xs) ∧ F l = none ∧ l ∉ A ∧ ORepT K F H os xs A
  | .ins c fs, v, ft => ∃ l C dx xs A, v = .ref l ∧ ft = l :: dx :: A ∧ ClsN K c C ∧ H l = some (.ins C dx xs) ∧ H dx = some (.own l) ∧ F l = none ∧ F dx = none ∧ l ≠ dx ∧ l ∉ A ∧ dx ∉ A ∧ ORepF K F H fs xs A
def ORepL (K : PySem.W.Frag) (F H : Hp) : List O → List V → List Addr → Prop
  | [], vs, ft => vs = [] ∧ ft = []
  | o :: os, vs, ft => ∃ v ws A1 A2, vs = v :: ws ∧ ft = A1 ++ A2 ∧ (∀ a ∈ A1, a ∉ A2) ∧ ORep K F H o v A1 ∧ ORepL K F H os ws A2
def ORepK (K : PySem.W.Frag) (F H : Hp) : List (Key × O) → List (Key × V) → List Addr → Prop
  | [], vs, ft => vs = [] ∧ ft = []
  | (k, o) :: os, vs, ft => ∃ v ws A1 A2, vs = (k, v) :: ws ∧ ft = A1 ++ A2 ∧ (∀ a ∈ A1, a ∉ A2) ∧ ORep K F H o v A1 ∧ ORepK K F H os ws A2
def ORepT (K : PySem.W.Frag) (F H : Hp) : List (List Key × O) → List (List Key × V) → List Addr → Prop
  | [], vs, ft => vs = [] ∧ ft = []
  | (k, o) :: os, vs, ft => ∃ v ws A1 A2, vs = (k, v) :: ws ∧ ft = A1 ++ A2 ∧ (∀ a ∈ A1, a ∉ A2) ∧ ORep K F H o v A1 ∧ ORepT K F H os ws A2
def ORepF (K : PySem.W.Frag) (F H : Hp) : List (Str × O) → List (Str × V) → List Addr → Prop
  | [], vs, ft => vs = [] ∧ ft = []
  | (k, o) :: os, vs, ft => ∃ v ws A1 A2, vs = (k, v) :: ws ∧ ft = A1 ++ A2 ∧ (∀ a ∈ A1, a ∉ A2) ∧ ORep K F H o v A1 ∧ ORepF K F H os ws A2
end
/-- what is owned at an address -/
def Lv (F H : Hp) (a : Addr) : Prop := (∃ o, H a = some o ∧ (∀ ps, o ≠ .tbl ps) ∧ (∀ ys, o ≠ .tup ys) ∧ ∀ u ys, o ≠ .frz u (.tup ys)) ∧ F a = none
theorem lv_of {F H : Hp} {a : Addr} {o : HO} (h : H a = some o) (n : F a = none) (h1 : ∀ ps, o ≠ .tbl ps := by intro _ z; cases z) (h2 : ∀ ys, o ≠ .tup ys := by intro _ z; cases z) (h3 : ∀ u ys, o ≠ .frz u (.tup ys) := by intro _ _ z; cases z) : Lv F H a := ⟨⟨o, h, h1, h2, h3⟩, n⟩
section
variable {K : PySem.W.Frag} {F H F' H' : Hp}
mutual
theorem O.lv : ∀ (o : O) {v : V} {ft : List Addr}, ORep K F H o v ft → ∀ a ∈ ft, Lv F H a
  | .fz d, v, ft, h => by
    unfold ORep at h
    rw [h.1]
    intro a m
    cases m
  | .lst os, v, ft, h => by
    unfold ORep at h
    obtain ⟨l, xs, A, _, rfl, e, n, _, r⟩ := h
    intro a m
    rcases List.mem_cons.mp m with rfl | m
    · exact lv_of e n
    · exact O.lvL os r a m
  | .dk os, v, ft, h => by
    unfold ORep at h
    obtain ⟨l, xs, A, _, rfl, e, n, _, r⟩ := h
    intro a m
    rcases List.mem_cons.mp m with rfl | m
    · exact lv_of e n
    · exact O.lvK os r a m
  | .dt os, v, ft, h => by
    unfold ORep at h
    obtain ⟨l, xs, A, _, rfl, e, n, _, r⟩ := h
    intro a m
    rcases List.mem_cons.mp m with rfl | m
    · exact lv_of e n
    · exact O.lvT os r a m
  | .ins c os, v, ft, h => by
    unfold ORep at h
    obtain ⟨l, C, dx, xs, A, _, rfl, _, e, e2, n, n2, _, _, _, r⟩ := h
    intro a m
    rcases List.mem_cons.mp m with rfl | m
    · exact lv_of e n
    · rcases List.mem_cons.mp m with rfl | m
      · exact lv_of e2 n2
      · exact O.lvF os r a m
theorem O.lvL : ∀ (os : List O) {vs : List V} {ft : List Addr}, ORepL K F H os vs ft → ∀ a ∈ ft, Lv F H a
  | [], vs, ft, h => by
    unfold ORepL at h
    rw [h.2]
    intro a m
    cases m
  | o :: os, vs, ft, h => by
    unfold ORepL at h
    obtain ⟨v, ws, A1, A2, _, rfl, _, r1, r2⟩ := h
    intro a m
    rcases List.mem_append.mp m with m | m
    · exact O.lv o r1 a m
    · exact O.lvL os r2 a m
theorem O.lvK : ∀ (os : List (Key × O)) {vs : List (Key × V)} {ft : List Addr}, ORepK K F H os vs ft → ∀ a ∈ ft, Lv F H a
  | [], vs, ft, h => by
    unfold ORepK at h
    rw [h.2]
    intro a m
    cases m
  | (k, o) :: os, vs, ft, h => by
    unfold ORepK at h
    obtain ⟨v, ws, A1, A2, _, rfl, _, r1, r2⟩ := h
    intro a m
    rcases List.mem_append.mp m with m | m
    · exact O.lv o r1 a m
    · exact O.lvK os r2 a m
theorem O.lvT : ∀ (os : List (List Key × O)) {vs : List (List Key × V)} {ft : List Addr}, ORepT K F H os vs ft → ∀ a ∈ ft, Lv F H a
  | [], vs, ft, h => by
    unfold ORepT at h
    rw [h.2]
    intro a m
    cases m
  | (k, o) :: os, vs, ft, h => by
    unfold ORepT at h
    obtain ⟨v, ws, A1, A2, _, rfl, _, r1, r2⟩ := h
    intro a m
    rcases List.mem_append.mp m with m | m
    · exact O.lv o r1 a m
    · exact O.lvT os r2 a m
theorem O.lvF : ∀ (os : List (Str × O)) {vs : List (Str × V)} {ft : List Addr}, ORepF K F H os vs ft → ∀ a ∈ ft, Lv F H a
  | [], vs, ft, h => by
    unfold ORepF at h
    rw [h.2]
    intro a m
    cases m
  | (k, o) :: os, vs, ft, h => by
    unfold ORepF at h
    obtain ⟨v, ws, A1, A2, _, rfl, _, r1, r2⟩ := h
    intro a m
    rcases List.mem_append.mp m with m | m
    · exact O.lv o r1 a m
    · exact O.lvF os r2 a m
end
theorem O.live (o : O) {v : V} {ft : List Addr} (h : ORep K F H o v ft) : ∀ a ∈ ft, (∃ o, H a = some o ∧ ∀ ps, o ≠ .tbl ps) ∧ F a = none := fun a m => by
  obtain ⟨⟨u, e, n1, _⟩, n⟩ := O.lv o h a m
  exact ⟨⟨u, e, n1⟩, n⟩
theorem O.ntup (o : O) {v : V} {ft : List Addr} (h : ORep K F H o v ft) : ∀ a ∈ ft, ∀ xs, H a ≠ some (.tup xs) := fun a m xs z => by
  obtain ⟨⟨u, e, _, n2, _⟩, _⟩ := O.lv o h a m
  rw [e] at z
  exact n2 xs (Option.some.inj z)
mutual
theorem O.stab : ∀ (o : O) {v : V} {ft : List Addr}, ORep K F H o v ft → Sub F F' → (∀ a ∈ ft, H' a = H a) → (∀ a ∈ ft, F' a = none) → ORep K F' H' o v ft
  | .fz d, v, ft, h, s, k, n => by
    unfold ORep at h ⊢
    exact ⟨h.1, Rp.mono s d h.2⟩
  | .lst os, v, ft, h, s, k, n => by
    unfold ORep at h ⊢
    obtain ⟨l, xs, A, ev, rfl, e, nl, d, r⟩ := h
    exact ⟨l, xs, A, ev, rfl, (k l List.mem_cons_self).trans e, n l List.mem_cons_self, d, O.stabL os r s (fun a m => k a (List.mem_cons_of_mem _ m)) fun a m => n a (List.mem_cons_of_mem _ m)⟩
  | .dk os, v, ft, h, s, k, n => by
    unfold ORep at h ⊢
    obtain ⟨l, xs, A, ev, rfl, e, nl, d, r⟩ := h
    exact ⟨l, xs, A, ev, rfl, (k l List.mem_cons_self).trans e, n l List.mem_cons_self, d, O.stabK os r s (fun a m => k a (List.mem_cons_of_mem _ m)) fun a m => n a (List.mem_cons_of_mem _ m)⟩
  | .dt os, v, ft, h, s, k, n => by
    unfold ORep at h ⊢
    obtain ⟨l, xs, A, ev, rfl, e, nl, d, r⟩ := h
    exact ⟨l, xs, A, ev, rfl, (k l List.mem_cons_self).trans e, n l List.mem_cons_self, d, O.stabT os r s (fun a m => k a (List.mem_cons_of_mem _ m)) fun a m => n a (List.mem_cons_of_mem _ m)⟩
  | .ins c os, v, ft, h, s, k, n => by
    unfold ORep at h ⊢
    obtain ⟨l, C, dx, xs, A, ev, rfl, nc, e, e2, nl, n2, ne, d1, d2, r⟩ := h
    exact ⟨l, C, dx, xs, A, ev, rfl, nc, (k l List.mem_cons_self).trans e, (k dx (List.mem_cons_of_mem _ List.mem_cons_self)).trans e2, n l List.mem_cons_self, n dx (List.mem_cons_of_mem _ List.mem_cons_self), ne, d1, d2,
      O.stabF os r s (fun a m => k a (List.mem_cons_of_mem _ (List.mem_cons_of_mem _ m))) fun a m => n a (List.mem_cons_of_mem _ (List.mem_cons_of_mem _ m))⟩
theorem O.stabL : ∀ (os : List O) {vs : List V} {ft : List Addr}, ORepL K F H os vs ft → Sub F F' → (∀ a ∈ ft, H' a = H a) → (∀ a ∈ ft, F' a = none) → ORepL K F' H' os vs ft
  | [], vs, ft, h, s, k, n => by
    unfold ORepL at h ⊢
    exact h
  | o :: os, vs, ft, h, s, k, n => by
    unfold ORepL at h ⊢
    obtain ⟨v, ws, A1, A2, e1, rfl, dj, r1, r2⟩ := h
    exact ⟨v, ws, A1, A2, e1, rfl, dj, O.stab o r1 s (fun a m => k a (List.mem_append_left _ m)) (fun a m => n a (List.mem_append_left _ m)), O.stabL os r2 s (fun a m => k a (List.mem_append_right _ m)) fun a m => n a (List.mem_append_right _ m)⟩
theorem O.stabK : ∀ (os : List (Key × O)) {vs : List (Key × V)} {ft : List Addr}, ORepK K F H os vs ft → Sub F F' → (∀ a ∈ ft, H' a = H a) → (∀ a ∈ ft, F' a = none) → ORepK K F' H' os vs ft
  | [], vs, ft, h, s, k, n => by
    unfold ORepK at h ⊢
    exact h
  | (_, o) :: os, vs, ft, h, s, k, n => by
    unfold ORepK at h ⊢
    obtain ⟨v, ws, A1, A2, e1, rfl, dj, r1, r2⟩ := h
    exact ⟨v, ws, A1, A2, e1, rfl, dj, O.stab o r1 s (fun a m => k a (List.mem_append_left _ m)) (fun a m => n a (List.mem_append_left _ m)), O.stabK os r2 s (fun a m => k a (List.mem_append_right _ m)) fun a m => n a (List.mem_append_right _ m)⟩
theorem O.stabT : ∀ (os : List (List Key × O)) {vs : List (List Key × V)} {ft : List Addr}, ORepT K F H os vs ft → Sub F F' → (∀ a ∈ ft, H' a = H a) → (∀ a ∈ ft, F' a = none) → ORepT K F' H' os vs ft
  | [], vs, ft, h, s, k, n => by
    unfold ORepT at h ⊢
    exact h
  | (_, o) :: os, vs, ft, h, s, k, n => by
    unfold ORepT at h ⊢
    obtain ⟨v, ws, A1, A2, e1, rfl, dj, r1, r2⟩ := h
    exact ⟨v, ws, A1, A2, e1, rfl, dj, O.stab o r1 s (fun a m => k a (List.mem_append_left _ m)) (fun a m => n a (List.mem_append_left _ m)), O.stabT os r2 s (fun a m => k a (List.mem_append_right _ m)) fun a m => n a (List.mem_append_right _ m)⟩
theorem O.stabF : ∀ (os : List (Str × O)) {vs : List (Str × V)} {ft : List Addr}, ORepF K F H os vs ft → Sub F F' → (∀ a ∈ ft, H' a = H a) → (∀ a ∈ ft, F' a = none) → ORepF K F' H' os vs ft
  | [], vs, ft, h, s, k, n => by
    unfold ORepF at h ⊢
    exact h
  | (_, o) :: os, vs, ft, h, s, k, n => by
    unfold ORepF at h ⊢
    obtain ⟨v, ws, A1, A2, e1, rfl, dj, r1, r2⟩ := h
    exact ⟨v, ws, A1, A2, e1, rfl, dj, O.stab o r1 s (fun a m => k a (List.mem_append_left _ m)) (fun a m => n a (List.mem_append_left _ m)), O.stabF os r2 s (fun a m => k a (List.mem_append_right _ m)) fun a m => n a (List.mem_append_right _ m)⟩
end
/-! given up -/
mutual
def frzO : O → D
  | .fz d => d
  | .lst os => .lst (frzL os)
  | .dk os => .dk (frzK os)
  | .dt os => .dt (frzT os)
  | .ins c os => .ins c (frzF os)
def frzL : List O → List D
  | [] => []
  | o :: os => frzO o :: frzL os
def frzK : List (Key × O) → List (Key × D)
  | [] => []
  | (k, o) :: os => (k, frzO o) :: frzK os
def frzT : List (List Key × O) → List (List Key × D)
  | [] => []
  | (k, o) :: os => (k, frzO o) :: frzT os
def frzF : List (Str × O) → List (Str × D)
  | [] => []
  | (k, o) :: os => (k, frzO o) :: frzF os
end
mutual
theorem O.frz (s : Sub F F') : ∀ (o : O) {v : V} {ft : List Addr}, ORep K F H o v ft → (∀ a ∈ ft, F' a = H a) → Rp K F' (frzO o) v
  | .fz d, v, ft, h, k => by
    unfold ORep at h
    unfold frzO
    exact Rp.mono s d h.2
  | .lst os, v, ft, h, k => by
    unfold ORep at h
    obtain ⟨l, xs, A, ev, rfl, e, nl, d, r⟩ := h
    unfold frzO Rp
    exact ⟨l, xs, ev, (k l List.mem_cons_self).trans e, O.frzsL s os r fun a m => k a (List.mem_cons_of_mem _ m)⟩
  | .dk os, v, ft, h, k => by
    unfold ORep at h
    obtain ⟨l, xs, A, ev, rfl, e, nl, d, r⟩ := h
    unfold frzO Rp
    exact ⟨l, xs, ev, (k l List.mem_cons_self).trans e, O.frzsK s os r fun a m => k a (List.mem_cons_of_mem _ m)⟩
  | .dt os, v, ft, h, k => by
    unfold ORep at h
    obtain ⟨l, xs, A, ev, rfl, e, nl, d, r⟩ := h
    unfold frzO Rp
    exact ⟨l, xs, ev, (k l List.mem_cons_self).trans e, O.frzsT s os r fun a m => k a (List.mem_cons_of_mem _ m)⟩
  | .ins c os, v, ft, h, k => by
    unfold ORep at h
    obtain ⟨l, C, dx, xs, A, ev, rfl, nc, e, e2, nl, n2, ne, d1, d2, r⟩ := h
    unfold frzO Rp
    exact ⟨l, C, dx, xs, ev, nc, (k l List.mem_cons_self).trans e, (k dx (List.mem_cons_of_mem _ List.mem_cons_self)).trans e2, O.frzsF s os r fun a m => k a (List.mem_cons_of_mem _ (List.mem_cons_of_mem _ m))⟩
theorem O.frzsL (s : Sub F F') : ∀ (os : List O) {vs : List V} {ft : List Addr}, ORepL K F H os vs ft → (∀ a ∈ ft, F' a = H a) → RpL K F' (frzL os) vs
  | [], vs, ft, h, k => by
    unfold ORepL at h
    unfold frzL RpL
    exact h.1
  | o :: os, vs, ft, h, k => by
    unfold ORepL at h
    obtain ⟨v, ws, A1, A2, e1, rfl, dj, r1, r2⟩ := h
    unfold frzL RpL
    exact ⟨v, ws, e1, O.frz s o r1 fun a m => k a (List.mem_append_left _ m), O.frzsL s os r2 fun a m => k a (List.mem_append_right _ m)⟩
theorem O.frzsK (s : Sub F F') : ∀ (os : List (Key × O)) {vs : List (Key × V)} {ft : List Addr}, ORepK K F H os vs ft → (∀ a ∈ ft, F' a = H a) → RpK K F' (frzK os) vs
  | [], vs, ft, h, k => by
    unfold ORepK at h
    unfold frzK RpK
    exact h.1
  | (_, o) :: os, vs, ft, h, k => by
    unfold ORepK at h
    obtain ⟨v, ws, A1, A2, e1, rfl, dj, r1, r2⟩ := h
    unfold frzK RpK
    exact ⟨v, ws, e1, O.frz s o r1 fun a m => k a (List.mem_append_left _ m), O.frzsK s os r2 fun a m => k a (List.mem_append_right _ m)⟩
theorem O.frzsT (s : Sub F F') : ∀ (os : List (List Key × O)) {vs : List (List Key × V)} {ft : List Addr}, ORepT K F H os vs ft → (∀ a ∈ ft, F' a = H a) → RpT K F' (frzT os) vs
  | [], vs, ft, h, k => by
    unfold ORepT at h
    unfold frzT RpT
    exact h.1
  | (_, o) :: os, vs, ft, h, k => by
    unfold ORepT at h
    obtain ⟨v, ws, A1, A2, e1, rfl, dj, r1, r2⟩ := h
    unfold frzT RpT
    exact ⟨v, ws, e1, O.frz s o r1 fun a m => k a (List.mem_append_left _ m), O.frzsT s os r2 fun a m => k a (List.mem_append_right _ m)⟩
theorem O.frzsF (s : Sub F F') : ∀ (os : List (Str × O)) {vs : List (Str × V)} {ft : List Addr}, ORepF K F H os vs ft → (∀ a ∈ ft, F' a = H a) → RpF K F' (frzF os) vs
  | [], vs, ft, h, k => by
    unfold ORepF at h
    unfold frzF RpF
    exact h.1
  | (_, o) :: os, vs, ft, h, k => by
    unfold ORepF at h
    obtain ⟨v, ws, A1, A2, e1, rfl, dj, r1, r2⟩ := h
    unfold frzF RpF
    exact ⟨v, ws, e1, O.frz s o r1 fun a m => k a (List.mem_append_left _ m), O.frzsF s os r2 fun a m => k a (List.mem_append_right _ m)⟩
end
end
end Dl

set_option Elab.async false
set_option linter.all false
set_option maxRecDepth 100000
namespace Dl
open PySem PySem.Spec L2
open PyProof.Rows hiding St

/-! ## the state -/
/-- what a name holds -/
inductive B where
  | un
  | dat (d : D)
  | own (ds : List D)
  | odk (kvs : List (Key × D))
  | odt (kvs : List (List Key × D))
  | ext (e : O)
abbrev Ev := List B

def BRep (K : PySem.W.Frag) (F H : Hp) : B → Option V → List Addr → Prop
  | .un, _, ft => ft = []
  | .dat d, sv, ft => ft = [] ∧ ∃ v, sv = some v ∧ Rp K F d v
  | .own ds, sv, ft => ∃ l xs, sv = some (.ref l) ∧ ft = [l] ∧ H l = some (.lst xs) ∧ F l = none ∧ RpL K F ds xs
  | .odk ds, sv, ft => ∃ l xs, sv = some (.ref l) ∧ ft = [l] ∧ H l = some (.dK xs) ∧ F l = none ∧ RpK K F ds xs
  | .odt ds, sv, ft => ∃ l xs, sv = some (.ref l) ∧ ft = [l] ∧ H l = some (.dT xs) ∧ F l = none ∧ RpT K F ds xs
  | .ext e, sv, ft => ∃ v, sv = some v ∧ ORep K F H e v ft

inductive RepS (K : PySem.W.Frag) (F H : Hp) : Ev → St → List Addr → Prop
  | nil : RepS K F H [] [] []
  | cons {b : B} {sv : Option V} {ft : List Addr} {ρ : Ev} {σ : St} {A : List Addr} (h : BRep K F H b sv ft) (t : RepS K F H ρ σ A) (dj : ∀ a ∈ ft, a ∉ A) : RepS K F H (b :: ρ) (sv :: σ) (ft ++ A)

/-- no table is frozen, and no tuple of those that the kit holds frozen -/
def NoTb (F : Hp) : Prop := (∀ a ps, F a ≠ some (.tbl ps)) ∧ ∀ a o xs, F a ≠ some (.frz o (.tup xs))
theorem NoTb.upd {F : Hp} {p : Addr} {o : HO} (h : NoTb F) (n1 : ∀ ps, o ≠ .tbl ps) (n2 : ∀ o' xs, o ≠ .frz o' (.tup xs)) : NoTb (upd F p o) := by
  refine ⟨fun a ps z => ?_, fun a o' xs z => ?_⟩
  · by_cases e : a = p
    · rw [e, upd_same] at z
      exact n1 ps (Option.some.inj z)
    · rw [upd_ne e] at z
      exact h.1 a ps z
  · by_cases e : a = p
    · rw [e, upd_same] at z
      exact n2 o' xs (Option.some.inj z)
    · rw [upd_ne e] at z
      exact h.2 a o' xs z
/-- nothing but a table stands there -/
def Nw (H : Hp) (a : Addr) : Prop := ∀ o, H a = some o → ∃ ps, o = .tbl ps
theorem Nw.of {H : Hp} {a : Addr} (h : H a = none) : Nw H a := fun o e => by
  rw [h] at e
  cases e
/-- a step of the world: what may change stands at A -/
structure Go (T : List (Addr × Str)) (A : List Addr) (F H : Hp) (A' : List Addr) (F' H' : Hp) : Prop where
  kH : ∀ a o, H a = some o → a ∉ A → (∀ ps, o ≠ .tbl ps) → H' a = some o
  ex : ∀ a o, H a = some o → (∀ ps, o ≠ .tbl ps) → ∃ o', H' a = some o' ∧ ∀ ps, o' ≠ .tbl ps
  kF : Sub F F'
  sub : Sub F' H'
  nF : ∀ a o, F' a = some o → F a = some o ∨ Nw H a ∨ a ∈ A ∨ ∃ xs, H a = some (.tup xs)
  sA : ∀ a ∈ A', a ∈ A ∨ Nw H a
  tab : LamX.Tabs T H → LamX.Tabs T H'
  ntb : NoTb F → NoTb F'

section
variable {K : PySem.W.Frag} {T : List (Addr × Str)} {F H F' H' F1 H1 F2 H2 : Hp} {A A' A1 A2 ft : List Addr} {b : B} {sv : Option V} {ρ : Ev} {σ : St}
theorem Go.refl (h : Sub F H) : Go T A F H A F H := ⟨fun _ _ e _ _ => e, fun _ o e n => ⟨o, e, n⟩, Sub.refl F, h, fun _ _ e => .inl e, fun _ h => .inl h, fun h => h, fun h => h⟩
theorem Go.trans (g : Go T A F H A1 F1 H1) (k : Go T A1 F1 H1 A2 F2 H2) : Go T A F H A2 F2 H2 := by
  have back : ∀ a, Nw H1 a → Nw H a := fun a z o q => by
    by_cases hn : ∃ ps, o = .tbl ps
    · exact hn
    · obtain ⟨o', e', n'⟩ := g.ex a o q (fun ps h => hn ⟨ps, h⟩)
      obtain ⟨ps, h⟩ := z o' e'
      exact absurd h (n' ps)
  refine ⟨fun a o e n nt => ?_, fun a o e nt => ?_, g.kF.trans k.kF, k.sub, fun a o e => ?_, fun a h => ?_, fun t => k.tab (g.tab t), fun n => k.ntb (g.ntb n)⟩
  · refine k.kH a o (g.kH a o e n nt) (fun h => ?_) nt
    rcases g.sA a h with z | z
    · exact n z
    · obtain ⟨ps, h⟩ := z o e
      exact nt ps h
  · obtain ⟨o', e', n'⟩ := g.ex a o e nt
    exact k.ex a o' e' n'
  · rcases k.nF a o e with z | z | z | ⟨xs, z⟩
    · exact g.nF a o z
    · exact .inr (.inl (back a z))
    · exact .inr ((g.sA a z).elim (fun y => .inr (.inl y)) .inl)
    · by_cases hA : a ∈ A
      · exact .inr (.inr (.inl hA))
      · cases q : H a with
        | none => exact .inr (.inl (Nw.of q))
        | some u =>
          by_cases hn : ∃ ps, u = .tbl ps
          · exact .inr (.inl fun o' e' => by
              rw [q] at e'
              cases e'
              exact hn)
          · have e2 := g.kH a u q hA fun ps y => hn ⟨ps, y⟩
            rw [e2] at z
            cases z
            exact .inr (.inr (.inr ⟨xs, rfl⟩))
  · rcases k.sA a h with z | z
    · exact g.sA a z
    · exact .inr (back a z)
/-- fewer addresses are watched behind -/
theorem Go.less (g : Go T A F H A1 F1 H1) (h : ∀ a ∈ A2, a ∈ A1) : Go T A F H A2 F1 H1 :=
  ⟨g.kH, g.ex, g.kF, g.sub, g.nF, fun a m => g.sA a (h a m), g.tab, g.ntb⟩
/-- more might have changed -/
theorem Go.more (g : Go T A F H A1 F1 H1) (h : ∀ a ∈ A, a ∈ A2) : Go T A2 F H A1 F1 H1 :=
  ⟨fun a o e n nt => g.kH a o e (fun z => n (h a z)) nt, g.ex, g.kF, g.sub, fun a o e => (g.nF a o e).imp id (Or.imp id (Or.imp (h a) id)), fun a m => (g.sA a m).imp (h a) id, g.tab, g.ntb⟩
/-- more stays beside -/
theorem Go.beside (g : Go T A F H A1 F1 H1) : Go T (A2 ++ A) F H (A2 ++ A1) F1 H1 :=
  ⟨fun a o e n nt => g.kH a o e (fun z => n (List.mem_append_right _ z)) nt, g.ex, g.kF, g.sub, fun a o e => (g.nF a o e).imp id (Or.imp id (Or.imp (List.mem_append_right _) id)), fun a m => by
    rcases List.mem_append.mp m with z | z
    · exact .inl (List.mem_append_left _ z)
    · exact (g.sA a z).imp (List.mem_append_right _) id, g.tab, g.ntb⟩

theorem BRep.live (h : BRep K F H b sv ft) : ∀ a ∈ ft, (∃ o, H a = some o ∧ ∀ ps, o ≠ .tbl ps) ∧ F a = none := by
  cases b with
  | un =>
    cases (show ft = [] from h)
    intro a m
    cases m
  | dat d =>
    obtain ⟨rfl, _⟩ := h
    intro a m
    cases m
  | own ds =>
    obtain ⟨l, xs, _, rfl, e, n, _⟩ := h
    intro a m
    rw [List.mem_singleton] at m
    subst m
    exact ⟨⟨_, e, fun ps z => by cases z⟩, n⟩
  | odk ds =>
    obtain ⟨l, xs, _, rfl, e, n, _⟩ := h
    intro a m
    rw [List.mem_singleton] at m
    subst m
    exact ⟨⟨_, e, fun ps z => by cases z⟩, n⟩
  | odt ds =>
    obtain ⟨l, xs, _, rfl, e, n, _⟩ := h
    intro a m
    rw [List.mem_singleton] at m
    subst m
    exact ⟨⟨_, e, fun ps z => by cases z⟩, n⟩
  | ext e =>
    obtain ⟨v, _, h⟩ := h
    exact e.live h
theorem BRep.ntup (h : BRep K F H b sv ft) : ∀ a ∈ ft, ∀ ys, H a ≠ some (.tup ys) := by
  cases b with
  | un =>
    cases (show ft = [] from h)
    intro a m
    cases m
  | dat d =>
    obtain ⟨rfl, _⟩ := h
    intro a m
    cases m
  | own ds =>
    obtain ⟨l, xs, _, rfl, e, _⟩ := h
    intro a m ys z
    rw [List.mem_singleton.mp m, e] at z
    cases z
  | odk ds =>
    obtain ⟨l, xs, _, rfl, e, _⟩ := h
    intro a m ys z
    rw [List.mem_singleton.mp m, e] at z
    cases z
  | odt ds =>
    obtain ⟨l, xs, _, rfl, e, _⟩ := h
    intro a m ys z
    rw [List.mem_singleton.mp m, e] at z
    cases z
  | ext e =>
    obtain ⟨v, _, h⟩ := h
    exact e.ntup h
theorem BRep.stab (h : BRep K F H b sv ft) (s : Sub F F') (k : ∀ a ∈ ft, H' a = H a) (n : ∀ a ∈ ft, F' a = none) : BRep K F' H' b sv ft := by
  cases b with
  | un => exact h
  | dat d =>
    obtain ⟨e, v, ev, r⟩ := h
    exact ⟨e, v, ev, r.mono s⟩
  | own ds =>
    obtain ⟨l, xs, e1, rfl, e, z, r⟩ := h
    exact ⟨l, xs, e1, rfl, by rw [k l (List.mem_singleton_self _)]; exact e, n l (List.mem_singleton_self _), r.mono s⟩
  | odk ds =>
    obtain ⟨l, xs, e1, rfl, e, z, r⟩ := h
    exact ⟨l, xs, e1, rfl, by rw [k l (List.mem_singleton_self _)]; exact e, n l (List.mem_singleton_self _), r.mono s⟩
  | odt ds =>
    obtain ⟨l, xs, e1, rfl, e, z, r⟩ := h
    exact ⟨l, xs, e1, rfl, by rw [k l (List.mem_singleton_self _)]; exact e, n l (List.mem_singleton_self _), r.mono s⟩
  | ext e =>
    obtain ⟨v, ev, h⟩ := h
    exact ⟨v, ev, e.stab h s k n⟩
theorem RepS.live (h : RepS K F H ρ σ A) : ∀ a ∈ A, (∃ o, H a = some o ∧ ∀ ps, o ≠ .tbl ps) ∧ F a = none := by
  induction h with
  | nil =>
    intro a m
    cases m
  | cons h _ _ ih =>
    intro a m
    rcases List.mem_append.mp m with z | z
    · exact h.live a z
    · exact ih a z
theorem RepS.ntup (h : RepS K F H ρ σ A) : ∀ a ∈ A, ∀ ys, H a ≠ some (.tup ys) := by
  induction h with
  | nil =>
    intro a m
    cases m
  | cons h _ _ ih =>
    intro a m
    rcases List.mem_append.mp m with z | z
    · exact h.ntup a z
    · exact ih a z
theorem RepS.stab (h : RepS K F H ρ σ A) (s : Sub F F') (k : ∀ a ∈ A, H' a = H a) (n : ∀ a ∈ A, F' a = none) : RepS K F' H' ρ σ A := by
  induction h with
  | nil => exact .nil
  | cons h _ dj ih => exact .cons (h.stab s (fun a m => k a (List.mem_append_left _ m)) (fun a m => n a (List.mem_append_left _ m))) (ih (fun a m => k a (List.mem_append_right _ m)) (fun a m => n a (List.mem_append_right _ m))) dj
theorem RepS.length (h : RepS K F H ρ σ A) : ρ.length = σ.length := by
  induction h with
  | nil => rfl
  | cons _ _ _ ih => rw [List.length_cons, List.length_cons, ih]
/-- what stands apart from the changed part stays -/
theorem Go.keepB (g : Go T A F H A' F' H') (h : BRep K F H b sv ft) (dj : ∀ a ∈ ft, a ∉ A) : BRep K F' H' b sv ft ∧ ∀ a ∈ ft, a ∉ A' := by
  have lv := h.live
  refine ⟨h.stab g.kF (fun a m => ?_) (fun a m => ?_), fun a m z => ?_⟩
  · obtain ⟨⟨o, e, nt⟩, _⟩ := lv a m
    rw [e]
    exact g.kH a o e (dj a m) nt
  · obtain ⟨⟨o, e, nt⟩, n⟩ := lv a m
    cases q : F' a with
    | none => rfl
    | some u =>
      rcases g.nF a u q with z | z | z | ⟨ys, z⟩
      · rw [n] at z
        cases z
      · obtain ⟨ps, h⟩ := z o e
        exact absurd h (nt ps)
      · exact absurd z (dj a m)
      · exact absurd z (h.ntup a m ys)
  · obtain ⟨⟨o, e, nt⟩, _⟩ := lv a m
    rcases g.sA a z with y | y
    · exact dj a m y
    · obtain ⟨ps, h⟩ := y o e
      exact nt ps h
theorem Go.keepS (g : Go T A F H A' F' H') (h : RepS K F H ρ σ A2) (dj : ∀ a ∈ A2, a ∉ A) : RepS K F' H' ρ σ A2 ∧ ∀ a ∈ A2, a ∉ A' := by
  induction h with
  | nil => exact ⟨.nil, fun a m => by cases m⟩
  | cons h _ d ih =>
    obtain ⟨i1, i2⟩ := ih fun a m => dj a (List.mem_append_right _ m)
    obtain ⟨j1, j2⟩ := g.keepB h fun a m => dj a (List.mem_append_left _ m)
    refine ⟨.cons j1 i1 d, fun a m => ?_⟩
    rcases List.mem_append.mp m with z | z
    · exact j2 a z
    · exact i2 a z
theorem RepS.head (h : RepS K F H (b :: ρ) (sv :: σ) A) : ∃ ft A1, A = ft ++ A1 ∧ BRep K F H b sv ft ∧ RepS K F H ρ σ A1 ∧ ∀ a ∈ ft, a ∉ A1 := by
  cases h with
  | cons h t dj => exact ⟨_, _, rfl, h, t, dj⟩
theorem RepS.tail (h : RepS K F H (b :: ρ) (sv :: σ) A) : ∃ A1, RepS K F H ρ σ A1 ∧ ∀ a ∈ A1, a ∈ A := by
  obtain ⟨ft, A1, rfl, _, t, _⟩ := h.head
  exact ⟨A1, t, fun a m => List.mem_append_right _ m⟩
theorem RepS.dat {d : D} {v : V} (h : RepS K F H ρ σ A) (r : Rp K F d v) : RepS K F H (.dat d :: ρ) (some v :: σ) A := by
  have q : RepS K F H (.dat d :: ρ) (some v :: σ) ([] ++ A) := .cons ⟨rfl, v, rfl, r⟩ h (fun a m => by cases m)
  exact q
theorem RepS.un (h : RepS K F H ρ σ A) : RepS K F H (.un :: ρ) (sv :: σ) A := by
  have q : RepS K F H (.un :: ρ) (sv :: σ) ([] ++ A) := .cons rfl h (fun a m => by cases m)
  exact q
theorem RepS.dat_inv {d : D} (h : RepS K F H (.dat d :: ρ) (sv :: σ) A) : ∃ v, sv = some v ∧ Rp K F d v ∧ RepS K F H ρ σ A := by
  obtain ⟨ft, A1, rfl, ⟨rfl, v, rfl, r⟩, t, _⟩ := h.head
  exact ⟨v, rfl, r, t⟩
theorem RepS.get {i : Nat} (h : RepS K F H ρ σ A) (e : ρ[i]? = some b) : ∃ sv ft, σ[i]? = some sv ∧ BRep K F H b sv ft ∧ ∀ a ∈ ft, a ∈ A := by
  induction h generalizing i with
  | nil => simp at e
  | @cons b' sv' ft' _ _ _ h _ _ ih =>
    cases i with
    | zero =>
      simp at e
      subst e
      exact ⟨sv', ft', rfl, h, fun a m => List.mem_append_left _ m⟩
    | succ i =>
      obtain ⟨sv, ft, e1, e2, e3⟩ := ih (i := i) (by simpa using e)
      exact ⟨sv, ft, by simpa using e1, e2, fun a m => List.mem_append_right _ (e3 a m)⟩
/-- a name is stored -/
theorem RepS.set {i : Nat} {b' : B} {sv' : Option V} {ft' : List Addr} (h : RepS K F H ρ σ A) (k : BRep K F H b' sv' ft') (dj : ∀ a ∈ ft', a ∉ A) : ∃ A', RepS K F H (ρ.set i b') (σ.set i sv') A' ∧ ∀ a ∈ A', a ∈ A ∨ a ∈ ft' := by
  induction h generalizing i with
  | nil => exact ⟨[], .nil, fun a m => by cases m⟩
  | @cons b0 sv0 ft0 ρ0 σ0 A0 h t d ih =>
    cases i with
    | zero =>
      refine ⟨ft' ++ A0, .cons k t fun a m z => dj a m (List.mem_append_right _ z), fun a m => ?_⟩
      rcases List.mem_append.mp m with z | z
      · exact .inr z
      · exact .inl (List.mem_append_right _ z)
    | succ i =>
      obtain ⟨A', r, m'⟩ := ih (i := i) fun a m z => dj a m (List.mem_append_right _ z)
      refine ⟨ft0 ++ A', .cons h r fun a m z => ?_, fun a m => ?_⟩
      · rcases m' a z with y | y
        · exact d a m y
        · exact dj a y (List.mem_append_left _ m)
      · rcases List.mem_append.mp m with z | z
        · exact .inl (List.mem_append_left _ z)
        · rcases m' a z with y | y
          · exact .inl (List.mem_append_right _ y)
          · exact .inr y
/-- what stands ahead is put into a slot -/
theorem RepS.store {i : Nat} (h : RepS K F H (b :: ρ) (sv :: σ) A) : ∃ A', RepS K F H (ρ.set i b) (σ.set i sv) A' ∧ ∀ a ∈ A', a ∈ A := by
  obtain ⟨ft, A1, rfl, k, t, dj⟩ := h.head
  obtain ⟨A', r, m⟩ := t.set (i := i) k dj
  exact ⟨A', r, fun a z => by
    rcases m a z with y | y
    · exact List.mem_append_right _ y
    · exact List.mem_append_left _ y⟩
/-- a slot's content is taken out -/
theorem RepS.takeOut {i : Nat} (h : RepS K F H ρ σ A) (e : ρ[i]? = some b) (es : σ[i]? = some sv) : ∃ A', RepS K F H (b :: ρ.set i .un) (sv :: σ) A' ∧ (∀ a ∈ A', a ∈ A) ∧ ∀ a ∈ A, a ∈ A' := by
  have go : ∃ ft A1, BRep K F H b sv ft ∧ RepS K F H (ρ.set i .un) σ A1 ∧ (∀ a ∈ ft, a ∉ A1) ∧ (∀ a ∈ ft, a ∈ A) ∧ (∀ a ∈ A1, a ∈ A) ∧ ∀ a ∈ A, a ∈ ft ∨ a ∈ A1 := by
    induction h generalizing i with
    | nil => simp at e
    | @cons b0 sv0 ft0 ρ0 σ0 A0 h t d ih =>
      cases i with
      | zero =>
        simp at e es
        subst e es
        exact ⟨ft0, A0, h, t.un, d, fun a m => List.mem_append_left _ m, fun a m => List.mem_append_right _ m, fun a m => List.mem_append.mp m⟩
      | succ i =>
        obtain ⟨ft, A1, r, q, dj, m1, m2, m3⟩ := ih (i := i) (by simpa using e) (by simpa using es)
        refine ⟨ft, ft0 ++ A1, r, .cons h q fun a m z => d a m (m2 a z), fun a m z => ?_, fun a m => List.mem_append_right _ (m1 a m), fun a m => ?_, fun a m => ?_⟩
        · rcases List.mem_append.mp z with y | y
          · exact d a y (m1 a m)
          · exact dj a m y
        · rcases List.mem_append.mp m with y | y
          · exact List.mem_append_left _ y
          · exact List.mem_append_right _ (m2 a y)
        · rcases List.mem_append.mp m with y | y
          · exact .inr (List.mem_append_left _ y)
          · rcases m3 a y with z | z
            · exact .inl z
            · exact .inr (List.mem_append_right _ z)
  obtain ⟨ft, A1, r, q, dj, m1, m2, m3⟩ := go
  refine ⟨ft ++ A1, .cons r q dj, fun a m => ?_, fun a m => List.mem_append.mpr (m3 a m)⟩
  rcases List.mem_append.mp m with z | z
  · exact m1 a z
  · exact m2 a z
/-- and put back -/
theorem RepS.putBack {i : Nat} (h : RepS K F H (b :: ρ) (sv :: σ) A) (es : σ[i]? = some sv) : ∃ A', RepS K F H (ρ.set i b) σ A' ∧ ∀ a ∈ A', a ∈ A := by
  obtain ⟨A', r, m⟩ := h.store (i := i)
  have e : σ.set i sv = σ := by
    obtain ⟨hl, he⟩ := List.getElem?_eq_some_iff.mp es
    rw [← he]
    exact List.set_getElem_self hl
  rw [e] at r
  exact ⟨A', r, m⟩
/-- the list at a name, changed in its place -/
theorem RepS.ownAt {i : Nat} {ds : List D} (h : RepS K F H ρ σ A) (e : ρ[i]? = some (.own ds)) : ∃ l xs, σ[i]? = some (some (.ref l)) ∧ l ∈ A ∧ H l = some (.lst xs) ∧ F l = none ∧ RpL K F ds xs ∧
    ∀ ds' xs', RpL K F ds' xs' → RepS K F (upd H l (.lst xs')) (ρ.set i (.own ds')) σ A := by
  induction h generalizing i with
  | nil => simp at e
  | @cons b0 sv0 ft0 ρ0 σ0 A0 h t d ih =>
    cases i with
    | zero =>
      simp at e
      subst e
      obtain ⟨l, xs, rfl, rfl, e1, e2, r⟩ := h
      refine ⟨l, xs, rfl, by simp, e1, e2, r, fun ds' xs' r' => ?_⟩
      refine .cons (ft := [l]) ⟨l, xs', rfl, rfl, upd_same, e2, r'⟩ (t.stab (Sub.refl F) (fun a m => ?_) (fun a m => (t.live a m).2)) d
      exact upd_ne fun z => d l (by simp) (z ▸ m)
    | succ i =>
      obtain ⟨l, xs, e1, e2, e3, e4, r, k⟩ := ih (i := i) (by simpa using e)
      refine ⟨l, xs, by simpa using e1, List.mem_append_right _ e2, e3, e4, r, fun ds' xs' r' => ?_⟩
      refine .cons (h.stab (Sub.refl F) (fun a m => ?_) (fun a m => (h.live a m).2)) (k ds' xs' r') d
      exact upd_ne fun z => d a m (z ▸ e2)
theorem RepS.odkAt {i : Nat} {ds : List (Key × D)} (h : RepS K F H ρ σ A) (e : ρ[i]? = some (.odk ds)) : ∃ l xs, σ[i]? = some (some (.ref l)) ∧ l ∈ A ∧ H l = some (.dK xs) ∧ F l = none ∧ RpK K F ds xs ∧
    ∀ ds' xs', RpK K F ds' xs' → RepS K F (upd H l (.dK xs')) (ρ.set i (.odk ds')) σ A := by
  induction h generalizing i with
  | nil => simp at e
  | @cons b0 sv0 ft0 ρ0 σ0 A0 h t d ih =>
    cases i with
    | zero =>
      simp at e
      subst e
      obtain ⟨l, xs, rfl, rfl, e1, e2, r⟩ := h
      refine ⟨l, xs, rfl, by simp, e1, e2, r, fun ds' xs' r' => ?_⟩
      refine .cons (ft := [l]) ⟨l, xs', rfl, rfl, upd_same, e2, r'⟩ (t.stab (Sub.refl F) (fun a m => ?_) (fun a m => (t.live a m).2)) d
      exact upd_ne fun z => d l (by simp) (z ▸ m)
    | succ i =>
      obtain ⟨l, xs, e1, e2, e3, e4, r, k⟩ := ih (i := i) (by simpa using e)
      refine ⟨l, xs, by simpa using e1, List.mem_append_right _ e2, e3, e4, r, fun ds' xs' r' => ?_⟩
      refine .cons (h.stab (Sub.refl F) (fun a m => ?_) (fun a m => (h.live a m).2)) (k ds' xs' r') d
      exact upd_ne fun z => d a m (z ▸ e2)
theorem RepS.odtAt {i : Nat} {ds : List (List Key × D)} (h : RepS K F H ρ σ A) (e : ρ[i]? = some (.odt ds)) : ∃ l xs, σ[i]? = some (some (.ref l)) ∧ l ∈ A ∧ H l = some (.dT xs) ∧ F l = none ∧ RpT K F ds xs ∧
    ∀ ds' xs', RpT K F ds' xs' → RepS K F (upd H l (.dT xs')) (ρ.set i (.odt ds')) σ A := by
  induction h generalizing i with
  | nil => simp at e
  | @cons b0 sv0 ft0 ρ0 σ0 A0 h t d ih =>
    cases i with
    | zero =>
      simp at e
      subst e
      obtain ⟨l, xs, rfl, rfl, e1, e2, r⟩ := h
      refine ⟨l, xs, rfl, by simp, e1, e2, r, fun ds' xs' r' => ?_⟩
      refine .cons (ft := [l]) ⟨l, xs', rfl, rfl, upd_same, e2, r'⟩ (t.stab (Sub.refl F) (fun a m => ?_) (fun a m => (t.live a m).2)) d
      exact upd_ne fun z => d l (by simp) (z ▸ m)
    | succ i =>
      obtain ⟨l, xs, e1, e2, e3, e4, r, k⟩ := ih (i := i) (by simpa using e)
      refine ⟨l, xs, by simpa using e1, List.mem_append_right _ e2, e3, e4, r, fun ds' xs' r' => ?_⟩
      refine .cons (h.stab (Sub.refl F) (fun a m => ?_) (fun a m => (h.live a m).2)) (k ds' xs' r') d
      exact upd_ne fun z => d a m (z ▸ e2)

/-! ### the tables behind a change of another object -/
theorem tabs_upd {a : Addr} {o o' : HO} (e : H a = some o) (n1 : ∀ ps, o ≠ .tbl ps) (n2 : ∀ φ, o ≠ .ext φ) (t : LamX.Tabs T H) : LamX.Tabs T (upd H a o') := fun p hp => by
  obtain ⟨ps, h1, h2, h3⟩ := t p hp
  refine ⟨ps, ?_, h2, fun pos cv hc => ?_⟩
  · rw [upd_ne]
    · exact h1
    · intro z
      rw [z, e] at h1
      exact n1 ps (Option.some.inj h1)
  · obtain ⟨c, e1, e2⟩ := h3 pos cv hc
    refine ⟨c, e1, ?_⟩
    rw [upd_ne]
    · exact e2
    · intro z
      rw [z, e] at e2
      exact n2 _ (Option.some.inj e2)
/-- an owned object is changed -/
theorem Go.write {a : Addr} {o o' : HO} (s : Sub F H) (hA : a ∈ A) (hF : F a = none) (e : H a = some o) (n1 : ∀ ps, o ≠ .tbl ps) (n2 : ∀ φ, o ≠ .ext φ) (n3 : ∀ ps, o' ≠ .tbl ps := by intro _ z; cases z) : Go T A F H A F (upd H a o') := by
  refine ⟨fun b u eb nb _ => ?_, fun b u eb nu => ?_, Sub.refl F, fun b u eb => ?_, fun b u eb => .inl eb, fun b m => .inl m, tabs_upd e n1 n2, fun h => h⟩
  · rw [upd_ne (fun z => nb (by rw [z]; exact hA))]
    exact eb
  · by_cases z : b = a
    · exact ⟨o', by rw [z, upd_same], n3⟩
    · exact ⟨u, by rw [upd_ne z]; exact eb, nu⟩
  · rw [upd_ne fun z => ?_]
    · exact s b u eb
    · rw [z, hF] at eb
      cases eb
/-- a new frozen object -/
theorem Go.laid {p : Addr} {o : HO} (s : Sub F H) (n : H p = none) (nt : ∀ ps, o ≠ .tbl ps := by intro _ h; cases h) (ntf : ∀ o' xs, o ≠ .frz o' (.tup xs) := by intro _ _ h; cases h) : Go T A F H A (upd F p o) (upd H p o) := by
  have nF : F p = none := by
    cases q : F p with
    | none => rfl
    | some u =>
      have := s p u q
      rw [n] at this
      cases this
  refine ⟨fun b u eb _ _ => ?_, fun b u eb nu => ⟨u, ?_, nu⟩, fun b u eb => ?_, fun b u eb => ?_, fun b u eb => ?_, fun b m => .inl m, fun t => t.ext fun b u eb => ?_, fun h => h.upd nt ntf⟩
  · rw [upd_ne (ne_of_none eb n)]
    exact eb
  · rw [upd_ne (ne_of_none eb n)]
    exact eb
  · rw [upd_ne (ne_of_none eb nF)]
    exact eb
  · by_cases z : b = p
    · subst z
      rw [upd_same] at eb ⊢
      exact eb
    · rw [upd_ne z] at eb ⊢
      exact s b u eb
  · by_cases z : b = p
    · exact .inr (.inl (.of (z ▸ n)))
    · rw [upd_ne z] at eb
      exact .inl eb
  · rw [upd_ne (ne_of_none eb n)]
    exact eb
/-- a new owned object -/
theorem Go.fresh {p : Addr} {o : HO} (s : Sub F H) (n : H p = none) : Go T A F H ([p] ++ A) F (upd H p o) := by
  have nF : F p = none := by
    cases q : F p with
    | none => rfl
    | some u =>
      have := s p u q
      rw [n] at this
      cases this
  refine ⟨fun b u eb _ _ => ?_, fun b u eb nu => ⟨u, ?_, nu⟩, Sub.refl F, fun b u eb => ?_, fun b u eb => .inl eb, fun b m => ?_, fun t => t.ext fun b u eb => ?_, fun h => h⟩
  · rw [upd_ne (ne_of_none eb n)]
    exact eb
  · rw [upd_ne (ne_of_none eb n)]
    exact eb
  · rw [upd_ne (ne_of_none eb nF)]
    exact s b u eb
  · rcases List.mem_append.mp m with z | z
    · rw [List.mem_singleton] at z
      exact .inr (.of (z ▸ n))
    · exact .inl z
  · rw [upd_ne (ne_of_none eb n)]
    exact eb
theorem fresh_F {p : Addr} (s : Sub F H) (n : H p = none) : F p = none := by
  cases q : F p with
  | none => rfl
  | some u =>
    have := s p u q
    rw [n] at this
    cases this
theorem RepS.laid {p : Addr} {o : HO} (h : RepS K F H ρ σ A) (s : Sub F H) (n : H p = none) : RepS K (upd F p o) (upd H p o) ρ σ A := by
  have nF := fresh_F s n
  have ne : ∀ a ∈ A, a ≠ p := fun a m z => by
    obtain ⟨⟨o, e, _⟩, _⟩ := h.live a m
    rw [z, n] at e
    cases e
  refine h.stab (fun b u eb => ?_) (fun a m => upd_ne (ne a m)) (fun a m => ?_)
  · rw [upd_ne (ne_of_none eb nF)]
    exact eb
  · rw [upd_ne (ne a m)]
    exact (h.live a m).2
theorem RepS.fresh {p : Addr} {o : HO} (h : RepS K F H ρ σ A) (n : H p = none) : RepS K F (upd H p o) ρ σ A ∧ p ∉ A := by
  have ne : ∀ a ∈ A, a ≠ p := fun a m z => by
    obtain ⟨⟨o, e, _⟩, _⟩ := h.live a m
    rw [z, n] at e
    cases e
  exact ⟨h.stab (Sub.refl F) (fun a m => upd_ne (ne a m)) (fun a m => (h.live a m).2), fun m => ne p m rfl⟩
/-- what is owned at ft is given up -/
def gvn (F H : Hp) (ft : List Addr) : Hp := fun a => if a ∈ ft then H a else F a
/-- what is owned is given up: from now on it stays as it is -/
def frz : B → Option D
  | .dat d => some d
  | .own ds => some (.lst ds)
  | .odk ds => some (.dk ds)
  | .odt ds => some (.dt ds)
  | .ext o => some (frzO o)
  | .un => none
theorem freeze {d : D} (h : RepS K F H (b :: ρ) (sv :: σ) A) (s : Sub F H) (e : frz b = some d) :
    ∃ v F' A', sv = some v ∧ Go T A F H A' F' H ∧ RepS K F' H ρ σ A' ∧ Rp K F' d v := by
  obtain ⟨ft, A1, rfl, k, t, dj⟩ := h.head
  have fz : ∀ (l : Addr) (o : HO), (∀ ps, o ≠ .tbl ps) → (∀ o' xs, o ≠ .frz o' (.tup xs)) → ft = [l] → H l = some o → F l = none → Go T (ft ++ A1) F H A1 (upd F l o) H ∧ RepS K (upd F l o) H ρ σ A1 ∧ Sub F (upd F l o) := fun l o nt ntf ef el nl => by
    subst ef
    have su : Sub F (upd F l o) := fun b u eb => by
      rw [upd_ne (ne_of_none eb nl)]
      exact eb
    refine ⟨⟨fun b u eb _ _ => eb, fun b u eb nu => ⟨u, eb, nu⟩, su, fun b u eb => ?_, fun b u eb => ?_, fun b m => .inl (List.mem_append_right _ m), fun h => h, fun h => h.upd nt ntf⟩, t.stab su (fun a m => rfl) (fun a m => ?_), su⟩
    · by_cases z : b = l
      · subst z
        rw [upd_same] at eb
        rw [el]
        exact eb
      · rw [upd_ne z] at eb
        exact s b u eb
    · by_cases z : b = l
      · exact .inr (.inr (.inl (z ▸ by simp)))
      · rw [upd_ne z] at eb
        exact .inl eb
    · rw [upd_ne (fun z => dj l (by simp) (by rw [← z]; exact m))]
      exact (t.live a m).2
  cases b with
  | un => cases e
  | ext o =>
    cases e
    obtain ⟨v, rfl, r⟩ := k
    have lv := O.lv o r
    have inF : ∀ a ∈ ft, gvn F H ft a = H a := fun a m => by
      unfold gvn
      rw [if_pos m]
    have outF : ∀ a, a ∉ ft → gvn F H ft a = F a := fun a m => by
      unfold gvn
      rw [if_neg m]
    have su : Sub F (gvn F H ft) := fun b u eb => by
      by_cases m : b ∈ ft
      · rw [(lv b m).2] at eb
        cases eb
      · rw [outF b m]
        exact eb
    refine ⟨v, gvn F H ft, A1, rfl, ⟨fun b u eb _ _ => eb, fun b u eb nu => ⟨u, eb, nu⟩, su, fun b u eb => ?_, fun b u eb => ?_, fun b m => .inl (List.mem_append_right _ m), fun h => h, fun h => ⟨fun a ps z => ?_, fun a o' xs z => ?_⟩⟩, t.stab su (fun a m => rfl) (fun a m => ?_), O.frz su o r inF⟩
    · by_cases m : b ∈ ft
      · rw [inF b m] at eb
        exact eb
      · rw [outF b m] at eb
        exact s b u eb
    · by_cases m : b ∈ ft
      · exact .inr (.inr (.inl (List.mem_append_left _ m)))
      · rw [outF b m] at eb
        exact .inl eb
    · by_cases m : a ∈ ft
      · rw [inF a m] at z
        obtain ⟨⟨u, e1, n1, _⟩, _⟩ := lv a m
        rw [e1] at z
        exact n1 ps (Option.some.inj z)
      · rw [outF a m] at z
        exact h.1 a ps z
    · by_cases m : a ∈ ft
      · rw [inF a m] at z
        obtain ⟨⟨u, e1, _, _, n3⟩, _⟩ := lv a m
        rw [e1] at z
        exact n3 o' xs (Option.some.inj z)
      · rw [outF a m] at z
        exact h.2 a o' xs z
    · rw [outF a fun z => dj a z m]
      exact (t.live a m).2
  | dat d' =>
    cases e
    obtain ⟨rfl, v, rfl, r⟩ := k
    exact ⟨v, F, A1, rfl, Go.refl s, t, r⟩
  | own ds =>
    cases e
    obtain ⟨l, xs, rfl, ef, el, nl, r⟩ := k
    obtain ⟨g, q, su⟩ := fz l _ (fun _ z => by cases z) (fun _ _ z => by cases z) ef el nl
    refine ⟨_, _, A1, rfl, g, q, ?_⟩
    unfold Rp
    exact ⟨l, xs, rfl, upd_same, r.mono su⟩
  | odk ds =>
    cases e
    obtain ⟨l, xs, rfl, ef, el, nl, r⟩ := k
    obtain ⟨g, q, su⟩ := fz l _ (fun _ z => by cases z) (fun _ _ z => by cases z) ef el nl
    refine ⟨_, _, A1, rfl, g, q, ?_⟩
    unfold Rp
    exact ⟨l, xs, rfl, upd_same, r.mono su⟩
  | odt ds =>
    cases e
    obtain ⟨l, xs, rfl, ef, el, nl, r⟩ := k
    obtain ⟨g, q, su⟩ := fz l _ (fun _ z => by cases z) (fun _ _ z => by cases z) ef el nl
    refine ⟨_, _, A1, rfl, g, q, ?_⟩
    unfold Rp
    exact ⟨l, xs, rfl, upd_same, r.mono su⟩
end
end Dl

set_option Elab.async false
set_option linter.all false
set_option maxRecDepth 100000
namespace Dl
open PySem PySem.Spec L2
open PyProof.Rows hiding St

/-! ## results -/
structure Exc where
  cls : Str
  fs : Option (List (Str × D))
inductive R (α : Type) where
  | ok (a : α)
  | err (x : Exc) (ρ : Ev)
  | stuck
def R.bind {α β : Type} (r : R α) (f : α → R β) : R β := match r with
  | .ok a => f a
  | .err x ρ => .err x ρ
  | .stuck => .stuck
instance : Monad R := { pure := fun a => .ok a, bind := fun r f => R.bind r f }
@[simp] theorem ok_bind {α β : Type} (a : α) (f : α → R β) : (R.ok a >>= f) = f a := rfl
@[simp] theorem err_bind {α β : Type} (x : Exc) (ρ : Ev) (f : α → R β) : ((R.err x ρ : R α) >>= f) = .err x ρ := rfl
@[simp] theorem stuck_bind {α β : Type} (f : α → R β) : ((R.stuck : R α) >>= f) = .stuck := rfl
@[simp] theorem pure_ok {α : Type} (a : α) : (pure a : R α) = .ok a := rfl
def ofO {α : Type} : Option α → R α
  | some a => .ok a
  | none => .stuck
@[simp] theorem ofO_some {α : Type} (a : α) : ofO (some a) = .ok a := rfl
@[simp] theorem ofO_none {α : Type} : (ofO none : R α) = .stuck := rfl

def RepX (K : PySem.W.Frag) (F : Hp) (x : Exc) (cls : Value) (dd : Option Addr) : Prop :=
  (∃ a, cls = .ref a ∧ ClsN K x.cls a) ∧ match x.fs with
    | none => dd = none
    | some fs => ∃ d ys, dd = some d ∧ F d = some (.xd ys) ∧ RpF K F fs ys

/-- a family of contexts over the same written part; what holds of some slots and of what is frozen there -/
structure Fam where
  Ix : Type
  at_ : Ix → Cx
  K : PySem.W.Frag
  hK : ∀ i, (at_ i).K = K
  inv : St → Hp → Prop
  ps : List Nat
  mono : ∀ {σ σ' : St} {F F' : Hp}, inv σ F → Sub F F' → (∀ j ∈ ps, σ'[j]? = σ[j]?) → inv σ' F'
structure At (X : Fam) (T : List (Addr × Str)) (F H : Hp) (ρ : Ev) (σ : St) (A : List Addr) : Prop where
  sub : Sub F H
  tab : LamX.Tabs T H
  rep : RepS X.K F H ρ σ A
  inv : X.inv σ F
  ntb : NoTb F

def Post {α : Type} (K : PySem.W.Frag) (T : List (Addr × Str)) (W : WX) (σ : St) (F H : Hp) (A : List Addr) (r : R (α × Ev)) (k : α → Ev → Hp → Hp → List Addr → Prop) : Prop := match r with
  | .ok (a, ρ') => ∀ F' H' A', Go T A F H A' F' H' → k a ρ' F' H' A'
  | .err x ρ' => ∀ F' H' A' cls dd, Go T A F H A' F' H' → RepS K F' H' ρ' σ A' → RepX K F' x cls dd → W cls dd σ H'
  | .stuck => False
section
variable {K : PySem.W.Frag} {T : List (Addr × Str)} {W : WX} {σ : St} {F H : Hp} {A : List Addr}
theorem Post.imp {α : Type} {r : R (α × Ev)} {k k' : α → Ev → Hp → Hp → List Addr → Prop} (p : Post K T W σ F H A r k) (h : ∀ a ρ' F' H' A', Go T A F H A' F' H' → k a ρ' F' H' A' → k' a ρ' F' H' A') : Post K T W σ F H A r k' := by
  cases r with
  | ok a =>
    obtain ⟨a, ρ'⟩ := a
    exact fun F' H' A' g => h a ρ' F' H' A' g (p F' H' A' g)
  | err x ρ' => exact p
  | stuck => exact p
theorem Post.after {α : Type} {r : R (α × Ev)} {k : α → Ev → Hp → Hp → List Addr → Prop} {A1 : List Addr} {F1 H1 : Hp} (p : Post K T W σ F H A r k) (g : Go T A F H A1 F1 H1) : Post K T W σ F1 H1 A1 r k := by
  cases r with
  | ok a =>
    obtain ⟨a, ρ'⟩ := a
    exact fun F' H' A' g' => p F' H' A' (g.trans g')
  | err x ρ' => exact fun F' H' A' cls dd g' => p F' H' A' cls dd (g.trans g')
  | stuck => exact p
theorem Post.bind {α β : Type} {r : R (α × Ev)} {f : α × Ev → R (β × Ev)} {k : β → Ev → Hp → Hp → List Addr → Prop} (p : Post K T W σ F H A (r >>= f) k) :
    Post K T W σ F H A r fun a ρ1 F1 H1 A1 => Post K T W σ F1 H1 A1 (f (a, ρ1)) k := by
  cases r with
  | ok a =>
    obtain ⟨a, ρ1⟩ := a
    exact fun F1 H1 A1 g => p.after g
  | err x ρ' => exact p
  | stuck => exact p
theorem Post.now {α : Type} {a : α} {ρ' : Ev} {k : α → Ev → Hp → Hp → List Addr → Prop} (p : Post K T W σ F H A (.ok (a, ρ')) k) {F' H' : Hp} {A' : List Addr} (g : Go T A F H A' F' H') : k a ρ' F' H' A' := p F' H' A' g
theorem At.next {X : Fam} {ρ ρ' : Ev} {F' H' : Hp} {A' : List Addr} (a : At X T F H ρ σ A) (g : Go T A F H A' F' H') (r : RepS X.K F' H' ρ' σ A') : At X T F' H' ρ' σ A' := ⟨g.sub, g.tab a.tab, r, X.mono a.inv g.kF fun _ _ => rfl, g.ntb a.ntb⟩
theorem At.nextK {X : Fam} {ρ ρ' : Ev} {σ' : St} {F' H' : Hp} {A' : List Addr} (a : At X T F H ρ σ A) (g : Go T A F H A' F' H') (r : RepS X.K F' H' ρ' σ' A') (k : ∀ j ∈ X.ps, σ'[j]? = σ[j]?) : At X T F' H' ρ' σ' A' := ⟨g.sub, g.tab a.tab, r, X.mono a.inv g.kF k, g.ntb a.ntb⟩
end

/-! ## the judgements -/
/-- an operand: a frozen datum, or what an owning name holds -/
inductive Opd where
  | val (d : D)
  | var (i : Nat)
def OpdR (K : PySem.W.Frag) (F : Hp) (σ : St) : Opd → V → Prop
  | .val d, v => Rp K F d v
  | .var i, v => σ[i]? = some (some v)
theorem OpdR.mono {K : PySem.W.Frag} {F F' : Hp} {σ : St} {o : Opd} {v : V} (h : OpdR K F σ o v) (s : Sub F F') : OpdR K F' σ o v := by
  cases o with
  | val d => exact Rp.mono s d h
  | var i => exact h
def rdB : B → Option D
  | .dat d => some d
  | .own ds => some (.lst ds)
  | .odk ds => some (.dk ds)
  | .odt ds => some (.dt ds)
  | _ => none
def rd (ρ : Ev) : Opd → Option D
  | .val d => some d
  | .var i => match ρ[i]? with
    | some b => rdB b
    | none => none
/-- readable at the top, what is within is frozen -/
def RpTop (K : PySem.W.Frag) (F H : Hp) : D → V → Prop
  | .lst ds, v => ∃ a xs, v = .ref a ∧ H a = some (.lst xs) ∧ RpL K F ds xs
  | .dk ds, v => ∃ a xs, v = .ref a ∧ H a = some (.dK xs) ∧ RpK K F ds xs
  | .dt ds, v => ∃ a xs, v = .ref a ∧ H a = some (.dT xs) ∧ RpT K F ds xs
  | d, v => Rp K F d v
theorem RpTop.of {K : PySem.W.Frag} {F H : Hp} {d : D} {v : V} (s : Sub F H) (h : Rp K F d v) : RpTop K F H d v := by
  cases d <;> first
    | exact h
    | (unfold Rp at h
       obtain ⟨a, xs, e, h1, h2⟩ := h
       exact ⟨a, xs, e, s _ _ h1, h2⟩)
theorem RpTop.rp {K : PySem.W.Frag} {F H : Hp} {d : D} {v : V} (s : Sub F H) (h : RpTop K F H d v) : Rp K H d v := by
  cases d <;> first
    | exact Rp.mono s _ h
    | (obtain ⟨a, xs, e, h1, h2⟩ := h
       unfold Rp
       first
        | exact ⟨a, xs, e, h1, h2.mono s _⟩
        | exact ⟨a, xs, e, h1, RpL.mono s _ h2⟩
        | exact ⟨a, xs, e, h1, RpK.mono s _ h2⟩
        | exact ⟨a, xs, e, h1, RpT.mono s _ h2⟩)
theorem rd_top {K : PySem.W.Frag} {F H : Hp} {ρ : Ev} {σ : St} {A : List Addr} {o : Opd} {v : V} {d : D} (s : Sub F H) (r : RepS K F H ρ σ A) (h : OpdR K F σ o v) (e : rd ρ o = some d) : RpTop K F H d v := by
  cases o with
  | val d' =>
    cases e
    exact .of s h
  | var i =>
    have h : σ[i]? = some (some v) := h
    simp only [rd] at e
    cases q : ρ[i]? with
    | none =>
      rw [q] at e
      cases e
    | some b =>
      rw [q] at e
      obtain ⟨sv, ft, e1, k, _⟩ := r.get q
      rw [h] at e1
      cases e1
      cases b with
      | un => cases e
      | ext _ => cases e
      | dat d' =>
        cases e
        obtain ⟨_, v', e2, z⟩ := k
        cases e2
        exact .of s z
      | own ds =>
        cases e
        obtain ⟨l, xs, e2, _, e3, _, z⟩ := k
        cases e2
        exact ⟨l, xs, rfl, e3, z⟩
      | odk ds =>
        cases e
        obtain ⟨l, xs, e2, _, e3, _, z⟩ := k
        cases e2
        exact ⟨l, xs, rfl, e3, z⟩
      | odt ds =>
        cases e
        obtain ⟨l, xs, e2, _, e3, _, z⟩ := k
        cases e2
        exact ⟨l, xs, rfl, e3, z⟩

abbrev FE := Ev → R (B × Ev)
abbrev FO := Ev → R (Opd × Ev)
abbrev FT := Ev → R (Bool × Ev)
abbrev FA := Ev → R (List Opd × Ev)
section
variable (X : Fam) (T : List (Addr × Str)) (W : WX)
def DE (e : Expr) (f : FE) : Prop := ∃ t, (∀ i, PE (X.at_ i) e t) ∧ ∀ σ F H A ρ Q, At X T F H ρ σ A →
  Post X.K T W σ F H A (f ρ) (fun b ρ' F' H' A' => ∀ v, RepS X.K F' H' (b :: ρ') (some v :: σ) A' → Q v H') → t σ H Q
def DO (e : Expr) (f : FO) : Prop := ∃ t, (∀ i, PE (X.at_ i) e t) ∧ ∀ σ F H A ρ Q, At X T F H ρ σ A →
  Post X.K T W σ F H A (f ρ) (fun o ρ' F' H' A' => ∀ v, RepS X.K F' H' ρ' σ A' → OpdR X.K F' σ o v → Q v H') → t σ H Q
def DT (e : Expr) (f : FT) : Prop := ∃ t, (∀ i, PT (X.at_ i) e t) ∧ ∀ σ F H A ρ Q, At X T F H ρ σ A →
  Post X.K T W σ F H A (f ρ) (fun c ρ' F' H' A' => RepS X.K F' H' ρ' σ A' → Q c H') → t σ H Q
/-- a test within and, or -/
def DW (e : Expr) (f : FT) : Prop := ∃ t, (∀ i, PW (X.at_ i) e t) ∧ ∀ σ F H A ρ Q, At X T F H ρ σ A →
  Post X.K T W σ F H A (f ρ) (fun c ρ' F' H' A' => RepS X.K F' H' ρ' σ A' → Q c H') → t σ H Q
def DA (es : List Expr) (f : FA) : Prop := ∃ t, (∀ i, PA (X.at_ i) es t) ∧ ∀ σ F H A ρ Q, At X T F H ρ σ A →
  Post X.K T W σ F H A (f ρ) (fun os ρ' F' H' A' => ∀ vs, RepS X.K F' H' ρ' σ A' → Paired (OpdR X.K F' σ) os vs → Q vs H') → t σ H Q
end

/-! ## plain rules -/
section
variable {X : Fam} {T : List (Addr × Str)} {W : WX}

def cC (d : D) : FE := fun ρ => .ok (.dat d, ρ)
theorem de_const {e : Expr} {v : V} {d : D} (h : ∀ i, PE (X.at_ i) e (tC v)) (r : ∀ H, Rp X.K H d v) : DE X T W e (cC d) :=
  ⟨_, h, fun σ F H A ρ Q a p => p.now (Go.refl a.sub) v (a.rep.dat (r F))⟩
theorem rp_int {K : PySem.W.Frag} {H : Hp} {i : Int} : Rp K H (.int i) (.int i) := by unfold Rp; rfl
theorem rp_str {K : PySem.W.Frag} {H : Hp} {i : Str} : Rp K H (.str i) (.str i) := by unfold Rp; rfl
theorem rp_bl {K : PySem.W.Frag} {H : Hp} {i : Bool} : Rp K H (.bl i) (.bl i) := by unfold Rp; rfl
theorem rp_non {K : PySem.W.Frag} {H : Hp} : Rp K H .non .non := by unfold Rp; rfl
theorem rp_opq {K : PySem.W.Frag} {H : Hp} {v : V} : Rp K H (.opq v) v := by unfold Rp; rfl
theorem de_int {i : Int} {j pos} : DE X T W (.Constant (.int i) j pos) (cC (.int i)) := de_const (fun _ => pe_int) fun _ => rp_int
theorem de_str {i : Str} {j pos} : DE X T W (.Constant (.str i) j pos) (cC (.str i)) := de_const (fun _ => pe_str) fun _ => rp_str
theorem de_bl {i : Bool} {j pos} : DE X T W (.Constant (.bool i) j pos) (cC (.bl i)) := de_const (fun _ => pe_bl) fun _ => rp_bl
theorem de_non {j pos} : DE X T W (.Constant .none j pos) (cC .non) := de_const (fun _ => pe_non) fun _ => rp_non
theorem de_glob {x : Str} {v : V} {d : D} {u : Value} {pos : Pos} (hg : ∀ i, Gl (X.at_ i) x) (hm : ∀ i, (X.at_ i).mg x = some u) (r : RelV v u) (h : ∀ H, Rp X.K H d v) (hd : (x == ("__debug__" : Str)) = false := by decide) : DE X T W (.Name x pos) (cC d) :=
  de_const (fun i => pe_glob (hg i) (hm i) r hd) h
theorem de_bltn {x : Str} {v : V} {u : Value} {pos : Pos} (hg : ∀ i, Gl (X.at_ i) x) (hm : ∀ i, (X.at_ i).mg x = none) (hv : bootBuiltins x = some u) (r : RelV v u) (hn : x ≠ "__name__" := by decide) (hd : (x == ("__debug__" : Str)) = false := by decide) : DE X T W (.Name x pos) (cC (.opq v)) :=
  de_const (fun i => pe_bltn (hg i) (hm i) hv r hn hd) fun _ => rp_opq

/-- a name: its datum, or what it owns goes over -/
def cN (i : Nat) : FE := fun ρ => match ρ[i]? with
  | some (.dat d) => .ok (.dat d, ρ)
  | some (.own ds) => .ok (.own ds, ρ.set i .un)
  | some (.odk ds) => .ok (.odk ds, ρ.set i .un)
  | some (.odt ds) => .ok (.odt ds, ρ.set i .un)
  | some (.ext e) => .ok (.ext e, ρ.set i .un)
  | _ => .stuck
theorem un_of {K : PySem.W.Frag} {F H : Hp} {b : B} {sv : Option V} {ft : List Addr} (h : BRep K F H b sv ft) (n : b ≠ .un) : ∃ v, sv = some v := by
  cases b with
  | un => exact absurd rfl n
  | dat d =>
    obtain ⟨_, v, e, _⟩ := h
    exact ⟨v, e⟩
  | own ds =>
    obtain ⟨l, _, e, _⟩ := h
    exact ⟨_, e⟩
  | odk ds =>
    obtain ⟨l, _, e, _⟩ := h
    exact ⟨_, e⟩
  | odt ds =>
    obtain ⟨l, _, e, _⟩ := h
    exact ⟨_, e⟩
  | ext _ =>
    obtain ⟨v, e, _⟩ := h
    exact ⟨v, e⟩
theorem de_n (i : Nat) {x : Str} {pos : Pos} (hN : ∀ j, (X.at_ j).N[i]? = some x := by intro _; rfl) (hv : ∀ j, Vis (X.at_ j).env.scope x := by intro _; first | exact Or.inl rfl | exact Or.inr (Or.inl rfl) | exact Or.inr (Or.inr rfl)) (hd : (x == ("__debug__" : Str)) = false := by decide)
    (hcd : (x == ("__classdict__" : Str)) = false := by decide) : DE X T W (.Name x pos) (cN i) := by
  refine ⟨_, fun j => pe_var (hN j) (hv j) hd hcd, fun σ F H A ρ Q a p => ?_⟩
  unfold cN at p
  cases q : ρ[i]? with
  | none =>
    rw [q] at p
    exact False.elim p
  | some b =>
    rw [q] at p
    obtain ⟨sv, ft, e1, k, m⟩ := a.rep.get q
    have mv : ∀ (b' : B), b = b' → b' ≠ .un → Post X.K T W σ F H A (.ok (b', ρ.set i .un)) (fun b ρ' F' H' A' => ∀ v, RepS X.K F' H' (b :: ρ') (some v :: σ) A' → Q v H') → tVar i σ H Q := fun b' eb nb p => by
      subst eb
      obtain ⟨v, rfl⟩ := un_of k nb
      obtain ⟨A', r, m1, m2⟩ := a.rep.takeOut q e1
      exact ⟨v, e1, p.now ((Go.refl a.sub).less m1) v r⟩
    cases b with
    | un => exact False.elim p
    | dat d =>
      obtain ⟨rfl, v, rfl, r⟩ := k
      exact ⟨v, e1, p.now (Go.refl a.sub) v (a.rep.dat r)⟩
    | own ds => exact mv _ rfl (fun z => by cases z) p
    | odk ds => exact mv _ rfl (fun z => by cases z) p
    | odt ds => exact mv _ rfl (fun z => by cases z) p
    | ext e => exact mv _ rfl (fun z => by cases z) p
/-- a name, to be read at once -/
def cNO (i : Nat) : FO := fun ρ => match ρ[i]? with
  | some (.dat d) => .ok (.val d, ρ)
  | some (.un) => .stuck
  | some _ => .ok (.var i, ρ)
  | none => .stuck
theorem do_n (i : Nat) {x : Str} {pos : Pos} (hN : ∀ j, (X.at_ j).N[i]? = some x := by intro _; rfl) (hv : ∀ j, Vis (X.at_ j).env.scope x := by intro _; first | exact Or.inl rfl | exact Or.inr (Or.inl rfl) | exact Or.inr (Or.inr rfl)) (hd : (x == ("__debug__" : Str)) = false := by decide)
    (hcd : (x == ("__classdict__" : Str)) = false := by decide) : DO X T W (.Name x pos) (cNO i) := by
  refine ⟨_, fun j => pe_var (hN j) (hv j) hd hcd, fun σ F H A ρ Q a p => ?_⟩
  unfold cNO at p
  cases q : ρ[i]? with
  | none =>
    rw [q] at p
    exact False.elim p
  | some b =>
    rw [q] at p
    obtain ⟨sv, ft, e1, k, m⟩ := a.rep.get q
    have mv : ∀ (b' : B), b = b' → b' ≠ .un → Post X.K T W σ F H A (.ok (Opd.var i, ρ)) (fun o ρ' F' H' A' => ∀ v, RepS X.K F' H' ρ' σ A' → OpdR X.K F' σ o v → Q v H') → tVar i σ H Q := fun b' eb nb p => by
      subst eb
      obtain ⟨v, rfl⟩ := un_of k nb
      exact ⟨v, e1, p.now (Go.refl a.sub) v a.rep e1⟩
    cases b with
    | un => exact False.elim p
    | dat d =>
      obtain ⟨rfl, v, rfl, r⟩ := k
      exact ⟨v, e1, p.now (Go.refl a.sub) v a.rep r⟩
    | own ds => exact mv _ rfl (fun z => by cases z) p
    | odk ds => exact mv _ rfl (fun z => by cases z) p
    | odt ds => exact mv _ rfl (fun z => by cases z) p
    | ext e => exact mv _ rfl (fun z => by cases z) p
/-- any expression as an operand: what it owns is given up -/
def cO (f : FE) : FO := fun ρ => f ρ >>= fun p => ofO (frz p.1) >>= fun d => .ok (.val d, p.2)
theorem do_e {e : Expr} {f : FE} (h : DE X T W e f) : DO X T W e (cO f) := by
  obtain ⟨t, pe, s⟩ := h
  refine ⟨t, pe, fun σ F H A ρ Q a p => s σ F H A ρ Q a ?_⟩
  refine p.bind.imp fun b ρ1 F1 H1 A1 g p1 v r => ?_
  simp only at p1
  cases q : frz b with
  | none =>
    rw [q] at p1
    exact False.elim p1
  | some d =>
    rw [q] at p1
    obtain ⟨v', F2, A2, e1, g2, r2, z⟩ := freeze (T := T) r g.sub q
    cases e1
    exact p1.now g2 v r2 z
/-- an operand's value, read as a new datum: only for what stays (no owned thing) -/
theorem de_as {e : Expr} {f g : FE} (h : DE X T W e f) (q : ∀ ρ, f ρ = g ρ) : DE X T W e g := by
  obtain ⟨t, pe, s⟩ := h
  exact ⟨t, pe, fun σ F H A ρ Q a p => s σ F H A ρ Q a (by rw [q]; exact p)⟩

/-! ### arguments -/
def aNil : FA := fun ρ => .ok ([], ρ)
def aCons (f : FO) (g : FA) : FA := fun ρ => f ρ >>= fun p => g p.2 >>= fun q => .ok (p.1 :: q.1, q.2)
theorem da_nil : DA X T W [] aNil := ⟨_, fun _ => pa_nil, fun σ F H A ρ Q a p => p.now (Go.refl a.sub) [] a.rep .nil⟩
theorem da_cons {e : Expr} {es : List Expr} {f : FO} {g : FA} (h : DO X T W e f) (k : DA X T W es g) (hs : ∀ i, starEach (e :: es) (X.at_ i).env = (false, eval e (X.at_ i).env) :: starEach es (X.at_ i).env := by intro _; rfl) : DA X T W (e :: es) (aCons f g) := by
  obtain ⟨t, pe, s⟩ := h
  obtain ⟨u, pa, s2⟩ := k
  refine ⟨_, fun i => pa_cons (pe i) (pa i) (hs i), fun σ F H A ρ Q a p => s σ F H A ρ _ a ?_⟩
  refine p.bind.imp fun o ρ1 F1 H1 A1 g1 p1 v r o1 => ?_
  refine s2 σ F1 H1 A1 ρ1 _ (a.next g1 r) ?_
  refine p1.bind.imp fun os ρ2 F2 H2 A2 g2 p2 vs r2 o2 => ?_
  exact p2.now (Go.refl g2.sub) (v :: vs) r2 (.cons (o1.mono g2.kF) o2)
/-- the arguments' data -/
def rds (ρ : Ev) : List Opd → Option (List D)
  | [] => some []
  | o :: os => match rd ρ o, rds ρ os with
    | some d, some ds => some (d :: ds)
    | _, _ => none
theorem rds_top {K : PySem.W.Frag} {F H : Hp} {ρ : Ev} {σ : St} {A : List Addr} (s : Sub F H) (r : RepS K F H ρ σ A) : ∀ {os : List Opd} {vs : List V} {ds : List D}, Paired (OpdR K F σ) os vs → rds ρ os = some ds → Paired (RpTop K F H) ds vs
  | [], _, _, h, e => by
    cases h
    cases e
    exact .nil
  | o :: os, _, _, h, e => by
    cases h with
    | cons h1 h2 =>
      unfold rds at e
      cases q1 : rd ρ o with
      | none =>
        rw [q1] at e
        cases e
      | some d =>
        cases q2 : rds ρ os with
        | none =>
          rw [q1, q2] at e
          cases e
        | some ds =>
          rw [q1, q2] at e
          cases e
          exact .cons (rd_top s r h1 q1) (rds_top s r h2 q2)

/-! ### operators by values -/
/-- what an operation by values gives -/
def Fin (K : PySem.W.Frag) (T : List (Addr × Str)) (F H : Hp) (A : List Addr) (ρ : Ev) (σ : St) (b : B) (Q : VK) : Prop :=
  ∀ v F' H' A', Go T A F H A' F' H' → RepS K F' H' (b :: ρ) (some v :: σ) A' → Q v H'
def V1 (K : PySem.W.Frag) (T : List (Addr × Str)) (r : V → Hp → VK → Prop) (g : D → Option B) : Prop :=
  ∀ F H A ρ σ d v b Q, Sub F H → RepS K F H ρ σ A → RpTop K F H d v → g d = some b → Fin K T F H A ρ σ b Q → r v H Q
def V2 (K : PySem.W.Frag) (T : List (Addr × Str)) (r : R2) (g : D → D → Option B) : Prop :=
  ∀ F H A ρ σ d d' v v' b Q, Sub F H → RepS K F H ρ σ A → RpTop K F H d v → RpTop K F H d' v' → g d d' = some b → Fin K T F H A ρ σ b Q → r v v' H Q
def VL (K : PySem.W.Frag) (T : List (Addr × Str)) (r : List V → Hp → VK → Prop) (g : List D → Option B) : Prop :=
  ∀ F H A ρ σ ds vs b Q, Sub F H → RepS K F H ρ σ A → Paired (RpTop K F H) ds vs → g ds = some b → Fin K T F H A ρ σ b Q → r vs H Q
section
variable {K : PySem.W.Frag} {F H : Hp} {A : List Addr} {ρ : Ev} {σ : St} {Q : VK}
theorem Fin.dat {d : D} {v : V} (f : Fin K T F H A ρ σ (.dat d) Q) (s : Sub F H) (r : RepS K F H ρ σ A) (h : Rp K F d v) : Q v H := f v F H A (Go.refl s) (r.dat h)
theorem Fin.tup {ds : List D} {xs : List V} (f : Fin K T F H A ρ σ (.dat (.tup ds)) Q) (s : Sub F H) (r : RepS K F H ρ σ A) (h : RpL K F ds xs) : ∀ p, H p = none → Q (.ref p) (upd H p (.tup xs)) := fun p n => by
  refine f _ _ _ A (Go.laid s n) ((r.laid s n).dat ?_)
  unfold Rp
  exact ⟨p, xs, rfl, SqT.of upd_same, h.mono (Go.laid (T := T) (A := A) s n).kF _⟩
theorem Fin.lst {ds : List D} {xs : List V} (f : Fin K T F H A ρ σ (.own ds) Q) (s : Sub F H) (r : RepS K F H ρ σ A) (h : RpL K F ds xs) : ∀ p, H p = none → Q (.ref p) (upd H p (.lst xs)) := fun p n => by
  obtain ⟨r', nA⟩ := r.fresh (o := .lst xs) n
  exact f _ _ _ _ (Go.fresh s n) (.cons (ft := [p]) ⟨p, xs, rfl, rfl, upd_same, fresh_F s n, h⟩ r' (fun a m z => by
    rw [List.mem_singleton] at m
    exact nA (m ▸ z)))
theorem Fin.dk {ds : List (Key × D)} {xs : List (Key × V)} (f : Fin K T F H A ρ σ (.odk ds) Q) (s : Sub F H) (r : RepS K F H ρ σ A) (h : RpK K F ds xs) : ∀ p, H p = none → Q (.ref p) (upd H p (.dK xs)) := fun p n => by
  obtain ⟨r', nA⟩ := r.fresh (o := .dK xs) n
  exact f _ _ _ _ (Go.fresh s n) (.cons (ft := [p]) ⟨p, xs, rfl, rfl, upd_same, fresh_F s n, h⟩ r' (fun a m z => by
    rw [List.mem_singleton] at m
    exact nA (m ▸ z)))
theorem Fin.dt {ds : List (List Key × D)} {xs : List (List Key × V)} (f : Fin K T F H A ρ σ (.odt ds) Q) (s : Sub F H) (r : RepS K F H ρ σ A) (h : RpT K F ds xs) : ∀ p, H p = none → Q (.ref p) (upd H p (.dT xs)) := fun p n => by
  obtain ⟨r', nA⟩ := r.fresh (o := .dT xs) n
  exact f _ _ _ _ (Go.fresh s n) (.cons (ft := [p]) ⟨p, xs, rfl, rfl, upd_same, fresh_F s n, h⟩ r' (fun a m z => by
    rw [List.mem_singleton] at m
    exact nA (m ▸ z)))
end
/-- two operands -/
def c2 (g : D → D → Option B) (fa fb : FO) : FE := fun ρ => fa ρ >>= fun p => fb p.2 >>= fun q => ofO (rd q.2 p.1) >>= fun d => ofO (rd q.2 q.1) >>= fun d' => ofO (g d d') >>= fun b => .ok (b, q.2)
theorem run2 {r : R2} {g : D → D → Option B} (hv : V2 X.K T r g) {ta tb : TE} {fa fb : FO} {σ : St} {F H : Hp} {A : List Addr} {ρ : Ev} {Q : VK}
    (sa : ∀ σ F H A ρ Q, At X T F H ρ σ A → Post X.K T W σ F H A (fa ρ) (fun o ρ' F' H' A' => ∀ v, RepS X.K F' H' ρ' σ A' → OpdR X.K F' σ o v → Q v H') → ta σ H Q)
    (sb : ∀ σ F H A ρ Q, At X T F H ρ σ A → Post X.K T W σ F H A (fb ρ) (fun o ρ' F' H' A' => ∀ v, RepS X.K F' H' ρ' σ A' → OpdR X.K F' σ o v → Q v H') → tb σ H Q)
    (a : At X T F H ρ σ A) (p : Post X.K T W σ F H A (c2 g fa fb ρ) (fun b ρ' F' H' A' => ∀ v, RepS X.K F' H' (b :: ρ') (some v :: σ) A' → Q v H')) : tOp r ta tb σ H Q := by
  refine sa σ F H A ρ _ a ?_
  refine p.bind.imp fun o ρ1 F1 H1 A1 g1 p1 v r1 o1 => ?_
  refine sb σ F1 H1 A1 ρ1 _ (a.next g1 r1) ?_
  refine p1.bind.imp fun o' ρ2 F2 H2 A2 g2 p2 v' r2 o2 => ?_
  simp only at p2
  cases q1 : rd ρ2 o with
  | none =>
    rw [q1] at p2
    exact False.elim p2
  | some d =>
    rw [q1] at p2
    simp only [ofO_some, ok_bind] at p2
    cases q2 : rd ρ2 o' with
    | none =>
      rw [q2] at p2
      exact False.elim p2
    | some d' =>
      rw [q2] at p2
      simp only [ofO_some, ok_bind] at p2
      cases q3 : g d d' with
      | none =>
        rw [q3] at p2
        exact False.elim p2
      | some b =>
        rw [q3] at p2
        exact hv F2 H2 A2 ρ2 σ d d' v v' b Q g2.sub r2 (rd_top g2.sub r2 (o1.mono g2.kF) q1) (rd_top g2.sub r2 o2 q2) q3 fun w F3 H3 A3 g3 r3 => p2.now g3 w r3
theorem de_op {op : Operator} {r : R2} {g : D → D → Option B} {a b : Expr} {fa fb : FO} {pos : Pos} (ho : ∀ i, OpR (X.at_ i) (binaryOp op) r) (hv : V2 X.K T r g) (ha : DO X T W a fa) (hb : DO X T W b fb) : DE X T W (.BinOp a op b pos) (c2 g fa fb) := by
  obtain ⟨ta, pa, sa⟩ := ha
  obtain ⟨tb, pb, sb⟩ := hb
  exact ⟨_, fun i => pe_op (ho i) (pa i) (pb i), fun σ F H A ρ Q at_ p => run2 hv sa sb at_ p⟩
theorem de_cmp {op : CmpOp} {r : R2} {g : D → D → Option B} {a b : Expr} {fa fb : FO} {pos : Pos} (ho : ∀ i, OpR (X.at_ i) (compareOp op) r) (hv : V2 X.K T r g) (ha : DO X T W a fa) (hb : DO X T W b fb) (hm : behindInMarks op b = false := by rfl) :
    DE X T W (.Compare a [op] [b] pos) (c2 g fa fb) := by
  obtain ⟨ta, pa, sa⟩ := ha
  obtain ⟨tb, pb, sb⟩ := hb
  exact ⟨_, fun i => pe_cmpR (ho i) (pa i) (pb i) hm, fun σ F H A ρ Q at_ p => run2 hv sa sb at_ p⟩
/-- a truth -/
def isB : B → Option Bool
  | .dat (.bl c) => some c
  | _ => none
def cT (f : FE) : FT := fun ρ => f ρ >>= fun p => ofO (isB p.1) >>= fun c => .ok (c, p.2)
theorem test_of {t : TE} {f : FE} {σ : St} {F H : Hp} {A : List Addr} {ρ : Ev} {Q : Bool → Hp → Prop} (s : ∀ σ F H A ρ Q, At X T F H ρ σ A → Post X.K T W σ F H A (f ρ) (fun b ρ' F' H' A' => ∀ v, RepS X.K F' H' (b :: ρ') (some v :: σ) A' → Q v H') → t σ H Q)
    (a : At X T F H ρ σ A) (p : Post X.K T W σ F H A (cT f ρ) (fun c ρ' F' H' A' => RepS X.K F' H' ρ' σ A' → Q c H')) : t σ H fun x H1 => ∃ c, x = .bl c ∧ Q c H1 := by
  refine s σ F H A ρ _ a ?_
  refine p.bind.imp fun b ρ1 F1 H1 A1 g p1 v r => ?_
  simp only at p1
  cases q : isB b with
  | none =>
    rw [q] at p1
    exact False.elim p1
  | some c =>
    rw [q] at p1
    have eb : b = .dat (.bl c) := by
      unfold isB at q
      split at q
      · cases q
        rfl
      · cases q
    subst eb
    obtain ⟨v', e1, z, r'⟩ := r.dat_inv
    cases e1
    unfold Rp at z
    exact ⟨c, z, p1.now (Go.refl g.sub) r'⟩
theorem dt_cmp {op : CmpOp} {r : R2} {g : D → D → Option B} {a b : Expr} {fa fb : FO} {pos : Pos} (ho : ∀ i, OpR (X.at_ i) (compareOp op) r) (hv : V2 X.K T r g) (ha : DO X T W a fa) (hb : DO X T W b fb) (hm : behindInMarks op b = false := by rfl) :
    DT X T W (.Compare a [op] [b] pos) (cT (c2 g fa fb)) := by
  obtain ⟨ta, pa, sa⟩ := ha
  obtain ⟨tb, pb, sb⟩ := hb
  exact ⟨_, fun i => pt_cmpR (ho i) (pa i) (pb i) hm, fun σ F H A ρ Q at_ p => test_of (fun σ F H A ρ Q at_ p => run2 hv sa sb at_ p) at_ p⟩
/-- a value that is a truth, as a test -/
theorem dt_val {e : Expr} {f : FE} (h : DE X T W e f) (he : ∀ i whole, isTrue e (X.at_ i).env whole = (do let v ← whole; standAt e.pos; holding [v] (truthy v)) := by intro _ _; rfl) : DT X T W e (cT f) := by
  obtain ⟨t, pe, s⟩ := h
  exact ⟨_, fun i => pt_val (pe i) (he i), fun σ F H A ρ Q at_ p => test_of s at_ p⟩
def cNotT (f : FT) : FT := fun ρ => f ρ >>= fun p => .ok (!p.1, p.2)
theorem dt_not {e : Expr} {f : FT} {pos : Pos} (h : DT X T W e f) : DT X T W (.UnaryOp .Not e pos) (cNotT f) := by
  obtain ⟨t, pt, s⟩ := h
  refine ⟨_, fun i => pt_not (pt i), fun σ F H A ρ Q a p => s σ F H A ρ _ a ?_⟩
  exact p.bind.imp fun c ρ1 F1 H1 A1 g p1 r => p1.now (Go.refl g.sub) r
def cAndT (f g : FT) : FT := fun ρ => f ρ >>= fun p => if p.1 = true then g p.2 else .ok (false, p.2)
def cOrT (f g : FT) : FT := fun ρ => f ρ >>= fun p => if p.1 = true then .ok (true, p.2) else g p.2
theorem dw_and1 {e : Expr} {f : FT} {pos : Pos} (h : DT X T W e f) : DW X T W (.BoolOp .And [e] pos) f := by
  obtain ⟨t, pt, s⟩ := h
  exact ⟨_, fun i => pw_and1 (pt i), s⟩
theorem dw_or1 {e : Expr} {f : FT} {pos : Pos} (h : DT X T W e f) : DW X T W (.BoolOp .Or [e] pos) f := by
  obtain ⟨t, pt, s⟩ := h
  exact ⟨_, fun i => pw_or1 (pt i), s⟩
theorem dw_and {a b : Expr} {es : List Expr} {f g : FT} {pos : Pos} (h : DT X T W a f) (k : DW X T W (.BoolOp .And (b :: es) pos) g) : DW X T W (.BoolOp .And (a :: b :: es) pos) (cAndT f g) := by
  obtain ⟨t, pt, s⟩ := h
  obtain ⟨u, pu, s2⟩ := k
  refine ⟨_, fun i => pw_and (pt i) (pu i), fun σ F H A ρ Q a p => s σ F H A ρ _ a ?_⟩
  refine p.bind.imp fun c ρ1 F1 H1 A1 g1 p1 r => ?_
  cases c with
  | true => exact iteT (s2 σ F1 H1 A1 ρ1 Q (a.next g1 r) p1)
  | false => exact iteF (p1.now (Go.refl g1.sub) r)
theorem dw_or {a b : Expr} {es : List Expr} {f g : FT} {pos : Pos} (h : DT X T W a f) (k : DW X T W (.BoolOp .Or (b :: es) pos) g) : DW X T W (.BoolOp .Or (a :: b :: es) pos) (cOrT f g) := by
  obtain ⟨t, pt, s⟩ := h
  obtain ⟨u, pu, s2⟩ := k
  refine ⟨_, fun i => pw_or (pt i) (pu i), fun σ F H A ρ Q a p => s σ F H A ρ _ a ?_⟩
  refine p.bind.imp fun c ρ1 F1 H1 A1 g1 p1 r => ?_
  cases c with
  | true => exact iteT (p1.now (Go.refl g1.sub) r)
  | false => exact iteF (s2 σ F1 H1 A1 ρ1 Q (a.next g1 r) p1)
theorem dt_w {e : Expr} {f : FT} (h : DW X T W e f) : DT X T W e f := by
  obtain ⟨t, pt, s⟩ := h
  exact ⟨_, fun i => (pt i).pt, s⟩
/-- and, or, not as values -/
def cAndV (f g : FE) : FE := fun ρ => f ρ >>= fun p => ofO (isB p.1) >>= fun c => if c = true then g p.2 else .ok (.dat (.bl false), p.2)
def cOrV (f g : FE) : FE := fun ρ => f ρ >>= fun p => ofO (isB p.1) >>= fun c => if c = true then .ok (.dat (.bl true), p.2) else g p.2
def cNotV (f : FE) : FE := fun ρ => f ρ >>= fun p => ofO (isB p.1) >>= fun c => .ok (.dat (.bl (!c)), p.2)
theorem isB_of {b : B} {c : Bool} (q : isB b = some c) : b = .dat (.bl c) := by
  unfold isB at q
  split at q
  · cases q
    rfl
  · cases q
theorem de_one {op : BoolOp} {e : Expr} {f : FE} {pos : Pos} (h : DE X T W e f) : DE X T W (.BoolOp op [e] pos) f := by
  obtain ⟨t, pe, s⟩ := h
  exact ⟨_, fun i => pe_one (pe i), s⟩
theorem de_and {a b : Expr} {es : List Expr} {f g : FE} {pos : Pos} (h : DE X T W a f) (k : DE X T W (.BoolOp .And (b :: es) pos) g) : DE X T W (.BoolOp .And (a :: b :: es) pos) (cAndV f g) := by
  obtain ⟨t, pt, s⟩ := h
  obtain ⟨u, pu, s2⟩ := k
  refine ⟨_, fun i => pe_and (pt i) (pu i), fun σ F H A ρ Q a p => s σ F H A ρ _ a ?_⟩
  refine p.bind.imp fun b ρ1 F1 H1 A1 g1 p1 v r => ?_
  simp only at p1
  cases q : isB b with
  | none =>
    rw [q] at p1
    exact False.elim p1
  | some c =>
    rw [q] at p1
    cases isB_of q
    obtain ⟨v', e1, z, r'⟩ := r.dat_inv
    cases e1
    unfold Rp at z
    refine ⟨c, z, ?_⟩
    cases c with
    | true => exact iteT (s2 σ F1 H1 A1 ρ1 Q (a.next g1 r') p1)
    | false => exact iteF (p1.now (Go.refl g1.sub) (.bl false) (r'.dat rp_bl))
theorem de_or {a b : Expr} {es : List Expr} {f g : FE} {pos : Pos} (h : DE X T W a f) (k : DE X T W (.BoolOp .Or (b :: es) pos) g) : DE X T W (.BoolOp .Or (a :: b :: es) pos) (cOrV f g) := by
  obtain ⟨t, pt, s⟩ := h
  obtain ⟨u, pu, s2⟩ := k
  refine ⟨_, fun i => pe_or (pt i) (pu i), fun σ F H A ρ Q a p => s σ F H A ρ _ a ?_⟩
  refine p.bind.imp fun b ρ1 F1 H1 A1 g1 p1 v r => ?_
  simp only at p1
  cases q : isB b with
  | none =>
    rw [q] at p1
    exact False.elim p1
  | some c =>
    rw [q] at p1
    cases isB_of q
    obtain ⟨v', e1, z, r'⟩ := r.dat_inv
    cases e1
    unfold Rp at z
    refine ⟨c, z, ?_⟩
    cases c with
    | true => exact iteT (p1.now (Go.refl g1.sub) (.bl true) (r'.dat rp_bl))
    | false => exact iteF (s2 σ F1 H1 A1 ρ1 Q (a.next g1 r') p1)
theorem de_not {a : Expr} {f : FE} {pos : Pos} (h : DE X T W a f) : DE X T W (.UnaryOp .Not a pos) (cNotV f) := by
  obtain ⟨t, pt, s⟩ := h
  refine ⟨_, fun i => pe_not (pt i), fun σ F H A ρ Q a p => s σ F H A ρ _ a ?_⟩
  refine p.bind.imp fun b ρ1 F1 H1 A1 g1 p1 v r => ?_
  simp only at p1
  cases q : isB b with
  | none =>
    rw [q] at p1
    exact False.elim p1
  | some c =>
    rw [q] at p1
    cases isB_of q
    obtain ⟨v', e1, z, r'⟩ := r.dat_inv
    cases e1
    unfold Rp at z
    exact ⟨c, z, p1.now (Go.refl g1.sub) (.bl (!c)) (r'.dat rp_bl)⟩
def cIfE (c : FT) (f g : FE) : FE := fun ρ => c ρ >>= fun p => if p.1 = true then f p.2 else g p.2
theorem de_if {c a b : Expr} {fc : FT} {f g : FE} {pos : Pos} (h : DT X T W c fc) (ha : DE X T W a f) (hb : DE X T W b g) : DE X T W (.IfExp c a b pos) (cIfE fc f g) := by
  obtain ⟨t, pt, s⟩ := h
  obtain ⟨u, pu, s2⟩ := ha
  obtain ⟨w, pw, s3⟩ := hb
  refine ⟨_, fun i => pe_ifExp (pt i) (pu i) (pw i), fun σ F H A ρ Q a p => s σ F H A ρ _ a ?_⟩
  refine p.bind.imp fun c ρ1 F1 H1 A1 g1 p1 r => ?_
  cases c with
  | true => exact iteT (s2 σ F1 H1 A1 ρ1 Q (a.next g1 r) p1)
  | false => exact iteF (s3 σ F1 H1 A1 ρ1 Q (a.next g1 r) p1)
/-- a < b < c -/
def cChain (g g' : D → D → Option B) (fa fb fc : FO) : FE := fun ρ => fa ρ >>= fun p => fb p.2 >>= fun q => ofO (rd q.2 p.1) >>= fun d => ofO (rd q.2 q.1) >>= fun d' => ofO (g d d') >>= fun b => ofO (isB b) >>= fun c =>
  if c = true then fc q.2 >>= fun u => ofO (rd u.2 q.1) >>= fun e => ofO (rd u.2 u.1) >>= fun e' => ofO (g' e e') >>= fun b => .ok (b, u.2) else .ok (.dat (.bl false), q.2)
end
end Dl

set_option Elab.async false
set_option linter.all false
set_option maxRecDepth 100000
set_option maxHeartbeats 1000000
namespace Dl
open PySem PySem.Spec L2
open PyProof.Rows hiding St

/-! ## lists whose items are alike, empty dicts among them -/
section
variable {P : Program} {w : World} {h : Heap} {a : Addr}
theorem dictOf_none {P' : Program} {w' : World} (q : h.DictOf (mixKind P w) a []) : h.DictOf (mixKind P' w') a [] := by
  obtain ⟨o, es, ep, ho, hx, hd, hk, hp, hn⟩ := q
  have hl : es.toList = [] := by
    have := Pairs.length hp
    exact List.length_eq_zero_iff.mp this
  have he : es = #[] := by
    apply Array.ext'
    rw [hl]
  subst he
  exact ⟨o, #[], ep, ho, hx, hd, fun e m => by simp at m, .nil, hn⟩
end
/-- two items that are alike -/
def ElE (K : PySem.W.Frag) (H : Hp) (x y : V) : Prop := (∃ d e, Dp K H x d ∧ Dp K H y e ∧ SeqAt.shaped d = true ∧ SeqAt.shaped e = true ∧ PyData.eqv d e = true) ∨ ∃ a b, x = .ref a ∧ y = .ref b ∧ H a = some (.dK []) ∧ H b = some (.dK [])
section
variable {X : Cx} {pins : List (Addr × Obj)} {σ : L2.St} {H : Hp} {s : Shared}
theorem elE_run (I : Inv X pins σ H s) {A : Around} (hu : A.units + 64 < cLine) {x y : V} {v u : Value} (h : ElE X.K H x y) (rx : RelV x v) (ry : RelV y u) : SeqAt.EqAt A s v u true := by
  rcases h with ⟨d, e, h1, h2, s1, s2, q⟩ | ⟨a, b, rfl, rfl, ha, hb⟩
  · obtain ⟨as, r1⟩ := Dp.reads I d x v h1 rx
    obtain ⟨bs, r2⟩ := Dp.reads I e y u h2 ry
    have := SeqAt.eqAt_reads d e A s v u as bs r1 r2 (SeqAt.canLay_of_shaped s1) (SeqAt.canLay_of_shaped s2) (SeqAt.room_of_shaped s1 hu)
    rw [q] at this
    exact this
  · cases (show v = Value.ref a from rx)
    cases (show u = Value.ref b from ry)
    by_cases e : a = b
    · subst e
      exact SeqAt.EqAt.same _
    · obtain ⟨_, ya, va, ra, da⟩ := (show ObjOk X.prog X.w H s.heap a (.dK []) from I.hok a _ ha)
      obtain ⟨_, yb, vb, rb, db⟩ := (show ObjOk X.prog X.w H s.heap b (.dK []) from I.hok b _ hb)
      have la := ra.length
      have lb := rb.length
      have ea : va = [] := List.length_eq_zero_iff.mp la.symm
      have eb : vb = [] := List.length_eq_zero_iff.mp lb.symm
      subst ea eb
      exact fun prog w E Q hq => SeqAt.eqP_refs (k := true) e (fun E' Q' q => PySem.W.rcP_dicts (knd := mixKind prog w) (r := true) ya yb (dictOf_none da) (dictOf_none db) (by omega) (fun _ => .nil) E' Q' (by simpa using q)) E Q hq
def rEqE (K : PySem.W.Frag) (k : Bool) : R2 := fun x y H Q => ∃ a b xs ys, x = .ref a ∧ y = .ref b ∧ SqL K H a xs ∧ SqL K H b ys ∧ Paired (ElE K H) xs ys ∧ Q (.bl k) H
theorem elE_all (I : Inv X pins σ H s) {A : Around} (hu : A.units + 64 < cLine) {xs ys : List V} (hp : Paired (ElE X.K H) xs ys) :
    ∀ {us ws : List Value}, Vals xs us → Vals ys ws → ∀ j (h1 : j < us.length) (h2 : j < ws.length), SeqAt.EqAt A s us[j] ws[j] true := by
  induction hp with
  | nil =>
    intro us ws r1 r2 j h1 h2
    cases r1
    exact absurd h1 (Nat.not_lt_zero j)
  | cons q _ ih =>
    intro us ws r1 r2 j h1 h2
    cases r1 with
    | cons a1 b1 =>
      cases r2 with
      | cons a2 b2 =>
        cases j with
        | zero => exact elE_run I hu q a1 a2
        | succ j => exact ih b1 b2 j (Nat.lt_of_succ_lt_succ h1) (Nat.lt_of_succ_lt_succ h2)
theorem op_eqE (hu : X.A.units + 65 < cLine) : OpR X (compareOp .Eq) (rEqE X.K true) := by
  intro pins s σ H x y v u Q I rx ry h
  obtain ⟨a, b, xs, ys, rfl, rfl, ha, hb, hp, q⟩ := h
  cases (show v = Value.ref a from rx)
  cases (show u = Value.ref b from ry)
  obtain ⟨us, r1, p1, _⟩ := I.list ha
  obtain ⟨ws, r2, p2, _⟩ := I.list hb
  have hsz : us.toArray.size = ws.toArray.size := by
    rw [List.size_toArray, List.size_toArray, ← r1.length, ← r2.length]
    exact Paired.length hp
  refine SeqAt.RcAt.lists (e := fun _ => true) p1.isList p2.isList hsz (by omega) (fun j h1 h2 => ?_) X.prog X.w _ _ ?_
  · have k := elE_all I (A := X.A.in1) (by show X.A.units + 1 + 64 < cLine; omega) hp r1 r2 j (by simpa using h1) (by simpa using h2)
    simpa using k
  · rw [show ((List.range us.toArray.size).all fun _ => true) = true from List.all_eq_true.mpr fun _ _ => rfl]
    exact ⟨.bl true, H, I, rfl, q⟩
theorem op_neE (hu : X.A.units + 65 < cLine) : OpR X (compareOp .NotEq) (rEqE X.K false) := by
  intro pins s σ H x y v u Q I rx ry h
  obtain ⟨a, b, xs, ys, rfl, rfl, ha, hb, hp, q⟩ := h
  cases (show v = Value.ref a from rx)
  cases (show u = Value.ref b from ry)
  obtain ⟨us, r1, p1, _⟩ := I.list ha
  obtain ⟨ws, r2, p2, _⟩ := I.list hb
  have hsz : us.toArray.size = ws.toArray.size := by
    rw [List.size_toArray, List.size_toArray, ← r1.length, ← r2.length]
    exact Paired.length hp
  refine SeqAt.RcNeAt.lists (e := fun _ => true) p1.isList p2.isList hsz (by omega) (fun j h1 h2 => ?_) X.prog X.w _ _ ?_
  · have k := elE_all I (A := X.A.in1) (by show X.A.units + 1 + 64 < cLine; omega) hp r1 r2 j (by simpa using h1) (by simpa using h2)
    simpa using k
  · rw [show ((List.range us.toArray.size).all fun _ => true) = true from List.all_eq_true.mpr fun _ _ => rfl]
    exact ⟨.bl false, H, I, rfl, q⟩
/-- two lists of unlike lengths -/
def rLenNe (K : PySem.W.Frag) : R2 := fun x y H Q => ∃ a b xs ys, x = .ref a ∧ y = .ref b ∧ SqL K H a xs ∧ SqL K H b ys ∧ xs.length ≠ ys.length ∧ Q (.bl true) H
theorem op_neLen (hu : X.A.units + 65 < cLine) : OpR X (compareOp .NotEq) (rLenNe X.K) := by
  intro pins s σ H x y v u Q I rx ry h
  obtain ⟨a, b, xs, ys, rfl, rfl, ha, hb, hn, q⟩ := h
  cases (show v = Value.ref a from rx)
  cases (show u = Value.ref b from ry)
  obtain ⟨us, r1, p1, _⟩ := I.list ha
  obtain ⟨ws, r2, p2, _⟩ := I.list hb
  refine SeqAt.RcNeAt.lists_lengths p1.isList p2.isList ?_ (by omega) X.prog X.w _ _ ⟨.bl true, H, I, rfl, q⟩
  rw [List.size_toArray, List.size_toArray, ← r1.length, ← r2.length]
  simpa using hn
end
/-! ## a dict and a text -/
theorem str_eq_dict (b : Str) (u : Tok) (l : Addr) (es : Array DictEntry) (n : Nat) (dd : Option Addr) (sl : Array (Option Value)) :
    Meets (Builtin.«str.__eq__» ⟨[.str b u, .ref l], []⟩) (fun _ R s => s.heap.get? l = some { cls := .type "dict", dict := dd, data := .dict es n, slots := sl } ∧ R (.ok (.ret .notImplemented)) s) :=
  .of_wp fun prog w A R s h => by obtain ⟨hp, g, d, tk, os⟩ := s; obtain ⟨hl, h⟩ := h; wp_walk using wpAny_loadPart' hl, wpAny_load hl; exact ⟨_, rfl, h⟩
theorem str_ne_dict (b : Str) (u : Tok) (l : Addr) (es : Array DictEntry) (n : Nat) (dd : Option Addr) (sl : Array (Option Value)) :
    Meets (Builtin.«str.__ne__» ⟨[.str b u, .ref l], []⟩) (fun _ R s => s.heap.get? l = some { cls := .type "dict", dict := dd, data := .dict es n, slots := sl } ∧ R (.ok (.ret .notImplemented)) s) :=
  .of_wp fun prog w A R s h => by obtain ⟨hp, g, d, tk, os⟩ := s; obtain ⟨hl, h⟩ := h; wp_walk using wpAny_loadPart' hl, wpAny_load hl; exact ⟨_, rfl, h⟩
theorem dict_eq_str (b : Str) (u : Tok) (l : Addr) (es : Array DictEntry) (n : Nat) (dd : Option Addr) (sl : Array (Option Value)) :
    Meets (Builtin.«dict.__eq__» ⟨[.ref l, .str b u], []⟩) (fun _ R s => s.heap.get? l = some { cls := .type "dict", dict := dd, data := .dict es n, slots := sl } ∧ R (.ok (.ret .notImplemented)) s) :=
  .of_wp fun prog w A R s h => by
    obtain ⟨hl, h⟩ := h
    have ht : s.TypeIs (.ref l) "dict" := ⟨_, hl, rfl⟩
    show wpAny _ _ (Builtin.Dict.dictSlotArgs "__eq__" ⟨[.ref l, .str b u], []⟩ >>= _) _ _ s
    refine wpAny_bind ?_
    unfold Builtin.Dict.dictSlotArgs
    refine wpAny_bind (wpAny_notOrdered_dict ht ?_)
    show wpAny _ _ (pure (Value.ref l, Value.str b u)) _ _ s
    refine wpAny_pure ?_
    refine wpAny_bind (wpAny_isInstance (T := "str") (typeIs_str s b u) PySem.F.sub_str_dict ?_)
    simp only [Bool.not_false, if_true]
    refine wpAny_bind (wpAny_bind (wpAny_rule (wpAny_bind (wpAny_pure (wpAny_pure ?_)))))
    exact wpAny_pure ⟨_, rfl, h⟩
theorem dict_ne_str (b : Str) (u : Tok) (l : Addr) (es : Array DictEntry) (n : Nat) (dd : Option Addr) (sl : Array (Option Value)) :
    Meets (Builtin.«dict.__ne__» ⟨[.ref l, .str b u], []⟩) (fun _ R s => s.heap.get? l = some { cls := .type "dict", dict := dd, data := .dict es n, slots := sl } ∧ R (.ok (.ret .notImplemented)) s) :=
  .of_wp fun prog w A R s h => by
    obtain ⟨hl, h⟩ := h
    have ht : s.TypeIs (.ref l) "dict" := ⟨_, hl, rfl⟩
    show wpAny _ _ (Builtin.Dict.dictSlotArgs "__ne__" ⟨[.ref l, .str b u], []⟩ >>= _) _ _ s
    refine wpAny_bind ?_
    unfold Builtin.Dict.dictSlotArgs
    refine wpAny_bind (wpAny_notOrdered_dict ht ?_)
    show wpAny _ _ (pure (Value.ref l, Value.str b u)) _ _ s
    refine wpAny_pure ?_
    refine wpAny_bind (wpAny_isInstance (T := "str") (typeIs_str s b u) PySem.F.sub_str_dict ?_)
    simp only [Bool.not_false, if_true]
    refine wpAny_bind (wpAny_bind (wpAny_rule (wpAny_bind (wpAny_pure (wpAny_pure ?_)))))
    exact wpAny_pure ⟨_, rfl, h⟩
def rDS (k : Bool) : R2 := fun x y H Q => ∃ a kvs t, x = .ref a ∧ H a = some (.dK kvs) ∧ y = .str t ∧ Q (.bl k) H
theorem op_eqDS {X : Cx} (hu : X.A.units < cLine) : OpR X (compareOp .Eq) (rDS false) := by
  intro pins s σ H x y v u Q I rx ry h
  obtain ⟨a, kvs, t, rfl, ha, rfl, q⟩ := h
  cases (show v = Value.ref a from rx)
  obtain ⟨tk, rfl⟩ : ∃ tk, u = .str t tk := ry
  obtain ⟨_, _, vs, _, o, es, ep, ho, hx, hd, _⟩ := dk_of I.hok ha
  obtain ⟨cls, dd, data, sl⟩ := o
  have hc : cls = .type "dict" := hx.1
  have hd : data = .dict es ep := hd
  subst hc hd
  show wpAny _ _ (richCompare .Eq (.ref a) (.str t tk)) _ _ _
  exact SeqAt.rc_eq_decline_or (k := false) ⟨_, ho, rfl⟩ (typeIs_str s t tk) (by decide) F.sub_str_dict F.slot_dict_eq F.slot_str_eq_refl
    (fun _ hq => call_meets F.slot_dict_eq ⟨_, ho, rfl⟩ F.entry_dict_eq (F.args_dict_eq_2 _ _) (dict_eq_str t tk a es ep dd sl) ⟨ho, hq⟩)
    (fun _ hq => call_meets F.slot_str_eq_refl (typeIs_str s t tk) F.entry_str_eq (F.args_str_eq_2 _ _) (str_eq_dict t tk a es ep dd sl) ⟨ho, hq⟩)
    (fun _ hq => wpAny_of_eq (rfl : isSame (.ref a) (.str t tk) = pure false) hq) (.inr hu) ⟨.bl false, H, I, rfl, q⟩
theorem op_neDS {X : Cx} (hu : X.A.units < cLine) : OpR X (compareOp .NotEq) (rDS true) := by
  intro pins s σ H x y v u Q I rx ry h
  obtain ⟨a, kvs, t, rfl, ha, rfl, q⟩ := h
  cases (show v = Value.ref a from rx)
  obtain ⟨tk, rfl⟩ : ∃ tk, u = .str t tk := ry
  obtain ⟨_, _, vs, _, o, es, ep, ho, hx, hd, _⟩ := dk_of I.hok ha
  obtain ⟨cls, dd, data, sl⟩ := o
  have hc : cls = .type "dict" := hx.1
  have hd : data = .dict es ep := hd
  subst hc hd
  show wpAny _ _ (richCompare .NotEq (.ref a) (.str t tk)) _ _ _
  exact SeqAt.rc_ne_decline_or (k := false) ⟨_, ho, rfl⟩ (typeIs_str s t tk) (by decide) F.sub_str_dict F.slot_dict_ne F.slot_str_ne_refl
    (fun _ hq => call_meets F.slot_dict_ne ⟨_, ho, rfl⟩ F.entry_dict_ne (F.args_dict_ne_2 _ _) (dict_ne_str t tk a es ep dd sl) ⟨ho, hq⟩)
    (fun _ hq => call_meets F.slot_str_ne_refl (typeIs_str s t tk) F.entry_str_ne (F.args_str_ne_2 _ _) (str_ne_dict t tk a es ep dd sl) ⟨ho, hq⟩)
    (fun _ hq => wpAny_of_eq (rfl : isSame (.ref a) (.str t tk) = pure false) hq) (.inr hu) ⟨.bl true, H, I, rfl, q⟩
/-! ## two texts, of any signs -/
def rSS (ne : Bool) : R2 := fun x y H Q => ∃ a b : Str, x = .str a ∧ y = .str b ∧ Q (.bl (if ne = true then !(a == b) else (a == b))) H
theorem op_eqSS {X : Cx} : OpR X (compareOp .Eq) (rSS false) := by
  intro pins s σ H x y v u Q I rx ry h
  obtain ⟨a, b, rfl, rfl, q⟩ := h
  obtain ⟨t, rfl⟩ : ∃ t, v = .str a t := rx
  obtain ⟨t', rfl⟩ : ∃ t, u = .str b t := ry
  exact SeqAt.RcAt.str_str a t b t' X.prog X.w _ _ ⟨.bl (a == b), H, I, rfl, q⟩
theorem op_neSS {X : Cx} : OpR X (compareOp .NotEq) (rSS true) := by
  intro pins s σ H x y v u Q I rx ry h
  obtain ⟨a, b, rfl, rfl, q⟩ := h
  obtain ⟨t, rfl⟩ : ∃ t, v = .str a t := rx
  obtain ⟨t', rfl⟩ : ∃ t, u = .str b t := ry
  exact SeqAt.RcNeAt.str_str a t b t' X.prog X.w _ _ ⟨.bl (!(a == b)), H, I, rfl, q⟩
end Dl

set_option Elab.async false
set_option linter.all false
set_option maxRecDepth 100000
namespace Dl
open PySem PySem.Spec L2
open PyProof.Rows hiding St

/-! ## what data are at the top -/
section
variable {K : PySem.W.Frag} {F H : Hp} {v : V}
theorem top_int {i : Int} (h : RpTop K F H (.int i) v) : v = .int i := by
  unfold RpTop at h
  unfold Rp at h
  exact h
theorem top_str {i : Str} (h : RpTop K F H (.str i) v) : v = .str i := by
  unfold RpTop at h
  unfold Rp at h
  exact h
theorem top_bl {i : Bool} (h : RpTop K F H (.bl i) v) : v = .bl i := by
  unfold RpTop at h
  unfold Rp at h
  exact h
theorem top_non (h : RpTop K F H .non v) : v = .non := by
  unfold RpTop at h
  unfold Rp at h
  exact h
theorem top_opq {w : V} (h : RpTop K F H (.opq w) v) : v = w := by
  unfold RpTop at h
  unfold Rp at h
  exact h
theorem top_lst {ds : List D} (h : RpTop K F H (.lst ds) v) : ∃ a xs, v = .ref a ∧ H a = some (.lst xs) ∧ RpL K F ds xs := h
theorem top_tup {ds : List D} (s : Sub F H) (h : RpTop K F H (.tup ds) v) : ∃ a xs, v = .ref a ∧ SqT K H a xs ∧ RpL K F ds xs := by
  unfold RpTop at h
  unfold Rp at h
  obtain ⟨a, xs, e, h1, h2⟩ := h
  exact ⟨a, xs, e, sqT_mono s h1, h2⟩
theorem top_tupF {ds : List D} (h : RpTop K F H (.tup ds) v) : Rp K F (.tup ds) v := h
theorem top_scr {ds : List D} (s : Sub F H) (h : RpTop K F H (.scr ds) v) : ∃ a xs, v = .ref a ∧ SqL K H a xs ∧ RpL K F ds xs := by
  unfold RpTop at h
  unfold Rp at h
  obtain ⟨a, xs, e, h1, h2⟩ := h
  exact ⟨a, xs, e, sqL_mono s h1, h2⟩
end
/-- the items of a list or a tuple -/
def seqOf : D → Option (List D)
  | .lst ds => some ds
  | .tup ds => some ds
  | .scr ds => some ds
  | _ => none
theorem top_seq {K : PySem.W.Frag} {F H : Hp} {v : V} {d : D} {ds : List D} (s : Sub F H) (h : RpTop K F H d v) (e : seqOf d = some ds) : ∃ a xs, v = .ref a ∧ (SqL K H a xs ∨ SqT K H a xs) ∧ RpL K F ds xs := by
  cases d <;> simp only [seqOf] at e <;> first
    | (cases e; obtain ⟨a, xs, e1, h1, h2⟩ := top_lst h; exact ⟨a, xs, e1, .inl (SqL.of h1), h2⟩)
    | (cases e; obtain ⟨a, xs, e1, h1, h2⟩ := top_tup s h; exact ⟨a, xs, e1, .inr h1, h2⟩)
    | (cases e; obtain ⟨a, xs, e1, h1, h2⟩ := top_scr s h; exact ⟨a, xs, e1, .inl h1, h2⟩)
    | cases e
def lstOf : D → Option (List D)
  | .lst ds => some ds
  | .scr ds => some ds
  | _ => none
theorem top_lstOf {K : PySem.W.Frag} {F H : Hp} {v : V} {d : D} {ds : List D} (s : Sub F H) (h : RpTop K F H d v) (e : lstOf d = some ds) : ∃ a xs, v = .ref a ∧ SqL K H a xs ∧ RpL K F ds xs := by
  cases d <;> simp only [lstOf] at e <;> first
    | (cases e; obtain ⟨a, xs, e1, h1, h2⟩ := top_lst h; exact ⟨a, xs, e1, SqL.of h1, h2⟩)
    | (cases e; obtain ⟨a, xs, e1, h1, h2⟩ := top_scr s h; exact ⟨a, xs, e1, h1, h2⟩)
    | cases e

/-! ## arithmetic -/
def rAddX (K : PySem.W.Frag) : R2 := fun x y H Q => (rI0 fun i j => .int (i + j)) x y H Q ∨ (∃ i j, x = .str i ∧ y = .str j ∧ i.length + j.length ≤ sizeLine ∧ Q (.str (i ++ j)) H) ∨ rCat x y H Q ∨ rCatA K x y H Q
def gAdd : D → D → Option B
  | .int i, .int j => some (.dat (.int (i + j)))
  | .str i, .str j => if i.length + j.length ≤ sizeLine then some (.dat (.str (i ++ j))) else none
  | .lst xs, .lst ys => if xs.length + ys.length ≤ sizeLine then some (.own (xs ++ ys)) else none
  | .tup xs, .tup ys => if xs.length + ys.length ≤ sizeLine then some (.dat (.tup (xs ++ ys))) else none
  | _, _ => none
section
variable {X : Fam} {K : PySem.W.Frag} {T : List (Addr × Str)}
theorem or_addX : ∀ i, OpR (X.at_ i) (binaryOp .Add) (rAddX X.K) := fun i => by
  rw [← X.hK i]
  exact op_add.or (op_add_str.or (op_cat.or op_catA))
theorem v2_add : V2 K T (rAddX K) gAdd := by
  intro F H A ρ σ d d' v v' b Q s r h h' e f
  unfold gAdd at e
  split at e
  · cases e
    exact .inl ⟨_, _, top_int h, top_int h', f.dat s r rp_int⟩
  · split at e
    · cases e
      rename_i hl
      exact .inr (.inl ⟨_, _, top_str h, top_str h', hl, f.dat s r rp_str⟩)
    · cases e
  · split at e
    · cases e
      rename_i hl
      obtain ⟨a, us, e1, h1, h2⟩ := top_lst h
      obtain ⟨a', us', e1', h1', h2'⟩ := top_lst h'
      exact .inr (.inr (.inl ⟨a, a', us, us', e1, e1', h1, h1', by rw [← h2.length, ← h2'.length]; exact hl, f.lst s r (h2.append h2')⟩))
    · cases e
  · split at e
    · cases e
      rename_i xs ys hl
      obtain ⟨a, us, e1, h1, h2⟩ := top_tup s h
      obtain ⟨a', us', e1', h1', h2'⟩ := top_tup s h'
      subst e1 e1'
      refine .inr (.inr (.inr ⟨a, a', us, us', rfl, rfl, h1, h1', by rw [← h2.length, ← h2'.length]; exact hl, fun z => ?_, fun z z' => ?_, fun _ _ => f.tup s r (h2.append h2')⟩))
      · subst z
        have q : xs = [] := List.length_eq_zero_iff.mp (by rw [h2.length]; rfl)
        subst q
        exact f.dat s r (top_tupF h')
      · subst z'
        have q : ys = [] := List.length_eq_zero_iff.mp (by rw [h2'.length]; rfl)
        subst q
        rw [List.append_nil] at f
        exact f.dat s r (top_tupF h)
    · cases e
  · cases e
def gSub : D → D → Option B
  | .int i, .int j => some (.dat (.int (i - j)))
  | _, _ => none
theorem v2_sub : V2 K T (rI0 fun i j => .int (i - j)) gSub := by
  intro F H A ρ σ d d' v v' b Q s r h h' e f
  unfold gSub at e
  split at e
  · cases e
    exact ⟨_, _, top_int h, top_int h', f.dat s r rp_int⟩
  · cases e
/-- a small factor -/
def small64 (i : Int) : Bool := decide (-(2 ^ 64) < i) && decide (i < 2 ^ 64)
theorem small64_iff {i : Int} (h : small64 i = true) : -(2 ^ 64) < i ∧ i < 2 ^ 64 := by
  unfold small64 at h
  rw [Bool.and_eq_true] at h
  exact ⟨of_decide_eq_true h.1, of_decide_eq_true h.2⟩
def rMulX : R2 := fun x y H Q => (rI CMul fun i j => .int (i * j)) x y H Q ∨ (rI CMulW fun i j => .int (i * j)) x y H Q ∨ rRep x y H Q
theorem or_mulX : ∀ i, OpR (X.at_ i) (binaryOp .Mult) rMulX := fun i => op_mul.or (op_mulW.or op_rep)
def gMul : D → D → Option B
  | .int i, .int j => if (small64 i || small64 j || decide (i.natAbs.log2 + j.natAbs.log2 < 1000000)) = true then some (.dat (.int (i * j))) else none
  | .lst xs, .int k => if (decide (k < 2 ^ 30) && decide (-(2 ^ 30) < k) && decide (xs.length * k.toNat ≤ sizeLine)) = true then some (.own (List.replicate k.toNat xs).flatten) else none
  | _, _ => none
theorem v2_mul : V2 K T rMulX gMul := by
  intro F H A ρ σ d d' v v' b Q s r h h' e f
  unfold gMul at e
  split at e
  · split at e
    · cases e
      rename_i i j c
      rw [Bool.or_eq_true, Bool.or_eq_true] at c
      rcases c with (c | c) | c
      · exact .inl ⟨_, _, top_int h, top_int h', .inl (small64_iff c), f.dat s r rp_int⟩
      · exact .inl ⟨_, _, top_int h, top_int h', .inr (small64_iff c), f.dat s r rp_int⟩
      · exact .inr (.inl ⟨_, _, top_int h, top_int h', (by unfold CMulW; exact of_decide_eq_true c), f.dat s r rp_int⟩)
    · cases e
  · split at e
    · cases e
      rename_i xs k c
      rw [Bool.and_eq_true, Bool.and_eq_true] at c
      obtain ⟨⟨c1, c2⟩, c3⟩ := c
      have c1 := of_decide_eq_true c1
      have c2 := of_decide_eq_true c2
      have c3 := of_decide_eq_true c3
      obtain ⟨a, us, e1, h1, h2⟩ := top_lst h
      exact .inr (.inr ⟨a, k, us, e1, top_int h', h1, by omega, by omega, by rw [← h2.length]; exact c3, f.lst s r (h2.replicate _)⟩)
    · cases e
  · cases e
def rDivX : R2 := fun x y H Q => (rI CDiv fun i j => .int (i / j)) x y H Q ∨ (rI CDivW fun i j => .int (i / j)) x y H Q
theorem or_divX : ∀ i, OpR (X.at_ i) (binaryOp .FloorDiv) rDivX := fun i => op_fdiv.or op_fdivW
def gDiv : D → D → Option B
  | .int i, .int j => if 0 < j ∧ (j < 1073741824 ∨ j.natAbs.log2 < 9000) then some (.dat (.int (i / j))) else none
  | _, _ => none
theorem v2_div : V2 K T rDivX gDiv := by
  intro F H A ρ σ d d' v v' b Q s r h h' e f
  unfold gDiv at e
  split at e
  · split at e
    · cases e
      rename_i c
      rcases c.2 with c2 | c2
      · exact .inl ⟨_, _, top_int h, top_int h', ⟨c.1, c2⟩, f.dat s r rp_int⟩
      · exact .inr ⟨_, _, top_int h, top_int h', ⟨c.1, c2⟩, f.dat s r rp_int⟩
    · cases e
  · cases e
def gMod : D → D → Option B
  | .int i, .int j => if 0 < j then some (.dat (.int (i % j))) else none
  | _, _ => none
theorem v2_mod : V2 K T (rI (fun _ j => 0 < j) fun i j => .int (i % j)) gMod := by
  intro F H A ρ σ d d' v v' b Q s r h h' e f
  unfold gMod at e
  split at e
  · split at e
    · cases e
      rename_i c
      exact ⟨_, _, top_int h, top_int h', c, f.dat s r rp_int⟩
    · cases e
  · cases e
def gPow : D → D → Option B
  | .int i, .int j => if 0 ≤ j ∧ j ≤ 1000000 ∧ i.natAbs < 2 ^ 64 then some (.dat (.int (i ^ j.toNat))) else none
  | _, _ => none
theorem v2_pow : V2 K T (rI CPow fun i j => .int (i ^ j.toNat)) gPow := by
  intro F H A ρ σ d d' v v' b Q s r h h' e f
  unfold gPow at e
  split at e
  · split at e
    · cases e
      rename_i c
      exact ⟨_, _, top_int h, top_int h', c, f.dat s r rp_int⟩
    · cases e
  · cases e
/-! comparisons of ints -/
def gCmp (p : Int → Int → Bool) : D → D → Option B
  | .int i, .int j => some (.dat (.bl (p i j)))
  | _, _ => none
theorem v2_cmp (p : Int → Int → Bool) : V2 K T (rI0 fun i j => .bl (p i j)) (gCmp p) := by
  intro F H A ρ σ d d' v v' b Q s r h h' e f
  unfold gCmp at e
  split at e
  · cases e
    exact ⟨_, _, top_int h, top_int h', f.dat s r rp_bl⟩
  · cases e
abbrev gLt := gCmp fun i j => decide (i < j)
abbrev gLe := gCmp fun i j => decide (i ≤ j)
abbrev gGt := gCmp fun i j => decide (j < i)
abbrev gGe := gCmp fun i j => decide (j ≤ i)

/-! ## equality -/
mutual
def py : D → PyData
  | .non => .none
  | .bl b => .bool b
  | .int i => .int i
  | .str s => .str s
  | .lst ds => .list (pyL ds)
  | .tup ds => .tuple (pyL ds)
  | .scr ds => .list (pyL ds)
  | _ => .dict []
def pyL : List D → List PyData
  | [] => []
  | d :: ds => py d :: pyL ds
end
mutual
theorem dp_of : ∀ (d : D) {v : V}, Rp K H d v → PyData.canLay0 (py d) = true → Dp K H v (py d)
  | .non, _, h, _ => by unfold Rp at h; subst h; unfold py; exact .non
  | .bl b, _, h, _ => by unfold Rp at h; subst h; unfold py; exact .bl b
  | .int b, _, h, _ => by unfold Rp at h; subst h; unfold py; exact .int b
  | .str b, _, h, _ => by unfold Rp at h; subst h; unfold py; exact .str b
  | .lst ds, _, h, c => by
    unfold Rp at h
    obtain ⟨a, xs, rfl, h1, h2⟩ := h
    unfold py at c ⊢
    exact .lst (SqL.of h1) (dpL_of ds h2 (by unfold PyData.canLay0 at c; exact c))
  | .tup ds, _, h, c => by
    unfold Rp at h
    obtain ⟨a, xs, rfl, h1, h2⟩ := h
    unfold py at c ⊢
    exact .tup h1 (dpL_of ds h2 (by unfold PyData.canLay0 at c; exact c))
  | .scr ds, _, h, c => by
    unfold Rp at h
    obtain ⟨a, xs, rfl, h1, h2⟩ := h
    unfold py at c ⊢
    exact .lst h1 (dpL_of ds h2 (by unfold PyData.canLay0 at c; exact c))
  | .dk _, _, _, c => by unfold py at c; unfold PyData.canLay0 at c; cases c
  | .dt _, _, _, c => by unfold py at c; unfold PyData.canLay0 at c; cases c
  | .ins _ _, _, _, c => by unfold py at c; unfold PyData.canLay0 at c; cases c
  | .opq _, _, _, c => by unfold py at c; unfold PyData.canLay0 at c; cases c
theorem dpL_of : ∀ (ds : List D) {vs : List V}, RpL K H ds vs → PyData.canLayAll0 (pyL ds) = true → DpAll K H vs (pyL ds)
  | [], _, h, _ => by rw [h.inv0]; unfold pyL; exact .nil
  | d :: ds, _, h, c => by
    obtain ⟨v, ws, rfl, h1, h2⟩ := h.inv
    unfold pyL at c ⊢
    unfold PyData.canLayAll0 at c
    rw [Bool.and_eq_true] at c
    exact .cons (dp_of d h1 c.1) (dpL_of ds h2 c.2)
end
def shp (d : D) : Bool := SeqAt.shaped (py d)
def eqD (d e : D) : Bool := PyData.eqv (py d) (py e)
theorem shp_dp {d : D} {v : V} (h : Rp K H d v) (c : shp d = true) : Dp K H v (py d) := dp_of d h (SeqAt.canLay_of_shaped c)
/-- two lists of unlike lengths, whatever they hold -/
def rEqLen (K : PySem.W.Frag) (k : Bool) : R2 := fun x y H Q => ∃ a b xs ys, x = .ref a ∧ y = .ref b ∧ SqL K H a xs ∧ SqL K H b ys ∧ xs.length ≠ ys.length ∧ Q (.bl k) H
theorem op_eqLen {X : Cx} (hu : X.A.units + 65 < cLine) : OpR X (compareOp .Eq) (rEqLen X.K false) := by
  intro pins s σ H x y v u Q I rx ry h
  obtain ⟨a, b, xs, ys, rfl, rfl, ha, hb, hn, q⟩ := h
  cases (show v = Value.ref a from rx)
  cases (show u = Value.ref b from ry)
  obtain ⟨us, r1, p1, _⟩ := I.list ha
  obtain ⟨ws, r2, p2, _⟩ := I.list hb
  refine SeqAt.eq_list_lengthsAt p1.isList p2.isList ?_ (by omega) ⟨.bl _, H, I, rfl, q⟩
  rw [List.size_toArray, List.size_toArray, ← r1.length, ← r2.length]
  simpa using hn
def rEqX (K : PySem.W.Frag) : R2 := fun x y H Q => rEqD K x y H Q ∨ (rEqLen K false x y H Q ∨ (rEqE K true x y H Q ∨ (rDS false x y H Q ∨ rSS false x y H Q)))
def rNeX (K : PySem.W.Frag) : R2 := fun x y H Q => rNeD K x y H Q ∨ (rLenNe K x y H Q ∨ (rEqE K false x y H Q ∨ (rDS true x y H Q ∨ rSS true x y H Q)))
def dk0 : D → Bool
  | .dk [] => true
  | _ => false
/-- two items that are alike -/
def eqEl (d e : D) : Bool := (dk0 d && dk0 e) || (shp d && shp e && eqD d e)
def eqEls : List D → List D → Bool
  | [], [] => true
  | d :: ds, e :: es => eqEl d e && eqEls ds es
  | _, _ => false
theorem dk0_rp {K : PySem.W.Frag} {F H : Hp} {d : D} {v : V} (s : Sub F H) (h : Rp K F d v) (c : dk0 d = true) : ∃ a, v = .ref a ∧ H a = some (.dK []) := by
  cases d with
  | dk kvs =>
    cases kvs with
    | nil =>
      unfold Rp at h
      obtain ⟨a, ys, rfl, e, r⟩ := h
      unfold RpK at r
      rw [r] at e
      exact ⟨a, rfl, s _ _ e⟩
    | cons _ _ => cases c
  | _ => cases c
theorem eqEls_paired {K : PySem.W.Frag} {F H : Hp} (s : Sub F H) : ∀ {ds es : List D} {xs ys : List V}, RpL K F ds xs → RpL K F es ys → eqEls ds es = true → Paired (ElE K H) xs ys
  | [], [], xs, ys, h, k, _ => by
    rw [h.inv0, k.inv0]
    exact .nil
  | [], _ :: _, _, _, _, _, c => by cases c
  | _ :: _, [], _, _, _, _, c => by cases c
  | d :: ds, e :: es, xs, ys, h, k, c => by
    obtain ⟨v, vs, rfl, h1, h2⟩ := h.inv
    obtain ⟨u, us, rfl, k1, k2⟩ := k.inv
    unfold eqEls at c
    rw [Bool.and_eq_true] at c
    refine .cons ?_ (eqEls_paired s h2 k2 c.2)
    have c1 := c.1
    unfold eqEl at c1
    rw [Bool.or_eq_true] at c1
    rcases c1 with q | q
    · rw [Bool.and_eq_true] at q
      obtain ⟨a, e1, e2⟩ := dk0_rp s h1 q.1
      obtain ⟨b, e3, e4⟩ := dk0_rp s k1 q.2
      exact .inr ⟨a, b, e1, e3, e2, e4⟩
    · rw [Bool.and_eq_true, Bool.and_eq_true] at q
      exact .inl ⟨_, _, shp_dp (Rp.mono s d h1) q.1.1, shp_dp (Rp.mono s e k1) q.1.2, q.1.1, q.1.2, q.2⟩
/-- a dict and a text -/
def dkStr : D → D → Bool
  | .dk _, .str _ => true
  | _, _ => false
def strStr : D → D → Option Bool
  | .str a, .str b => some (a == b)
  | _, _ => none
theorem strStr_top {K : PySem.W.Frag} {F H : Hp} {d e : D} {v u : V} {c : Bool} (h : RpTop K F H d v) (h' : RpTop K F H e u) (q : strStr d e = some c) : ∃ a b : Str, v = .str a ∧ u = .str b ∧ c = (a == b) := by
  cases d with
  | str a =>
    cases e with
    | str b =>
      cases q
      have q1 : Rp K F (.str a) v := h
      have q2 : Rp K F (.str b) u := h'
      unfold Rp at q1 q2
      exact ⟨a, b, q1, q2, rfl⟩
    | _ => cases q
  | _ => cases q
theorem dkStr_top {K : PySem.W.Frag} {F H : Hp} {d e : D} {v u : V} (h : RpTop K F H d v) (h' : RpTop K F H e u) (c : dkStr d e = true) : ∃ a kvs t, v = .ref a ∧ H a = some (.dK kvs) ∧ u = .str t := by
  cases d with
  | dk ds =>
    cases e with
    | str t =>
      obtain ⟨a, xs, rfl, h1, _⟩ := h
      have q : Rp K F (.str t) u := h'
      unfold Rp at q
      exact ⟨a, xs, t, rfl, h1, q⟩
    | _ => cases c
  | _ => cases c
def gEq (d e : D) : Option B := if (shp d && shp e) = true then some (.dat (.bl (eqD d e))) else match lstOf d, lstOf e with
  | some xs, some ys => if xs.length = ys.length then (if eqEls xs ys = true then some (.dat (.bl true)) else none) else some (.dat (.bl false))
  | _, _ => if dkStr d e = true then some (.dat (.bl false)) else (strStr d e).map fun c => .dat (.bl c)
def gNe (d e : D) : Option B := if (shp d && shp e) = true then some (.dat (.bl (!eqD d e))) else match lstOf d, lstOf e with
  | some xs, some ys => if xs.length = ys.length then (if eqEls xs ys = true then some (.dat (.bl false)) else none) else some (.dat (.bl true))
  | _, _ => if dkStr d e = true then some (.dat (.bl true)) else (strStr d e).map fun c => .dat (.bl (!c))
theorem v2_eq : V2 K T (rEqX K) gEq := by
  intro F H A ρ σ d d' v v' b Q s r h h' e f
  unfold gEq at e
  split at e
  · cases e
    rename_i c
    rw [Bool.and_eq_true] at c
    exact .inl ⟨_, _, shp_dp (h.rp s) c.1, shp_dp (h'.rp s) c.2, c.1, c.2, f.dat s r rp_bl⟩
  · split at e
    · rename_i xs ys q1 q2
      obtain ⟨a, us, rfl, h1, h2⟩ := top_lstOf s h q1
      obtain ⟨a', us', rfl, h3, h4⟩ := top_lstOf s h' q2
      split at e
      · split at e
        · rename_i hc
          cases e
          exact .inr (.inr (.inl ⟨a, a', us, us', rfl, rfl, h1, h3, eqEls_paired s h2 h4 hc, f.dat s r rp_bl⟩))
        · cases e
      · rename_i hn
        cases e
        exact .inr (.inl ⟨a, a', us, us', rfl, rfl, h1, h3, by rw [← h2.length, ← h4.length]; exact hn, f.dat s r rp_bl⟩)
    · split at e
      · rename_i hc
        cases e
        obtain ⟨a, kvs, t, rfl, h1, rfl⟩ := dkStr_top h h' hc
        exact .inr (.inr (.inr (.inl ⟨a, kvs, t, rfl, h1, rfl, f.dat s r rp_bl⟩)))
      · cases q : strStr d d' with
        | none =>
          rw [q] at e
          cases e
        | some c =>
          rw [q] at e
          cases e
          obtain ⟨a, b, rfl, rfl, rfl⟩ := strStr_top h h' q
          exact .inr (.inr (.inr (.inr ⟨a, b, rfl, rfl, f.dat s r rp_bl⟩)))
theorem v2_ne : V2 K T (rNeX K) gNe := by
  intro F H A ρ σ d d' v v' b Q s r h h' e f
  unfold gNe at e
  split at e
  · cases e
    rename_i c
    rw [Bool.and_eq_true] at c
    exact .inl ⟨_, _, shp_dp (h.rp s) c.1, shp_dp (h'.rp s) c.2, c.1, c.2, f.dat s r rp_bl⟩
  · split at e
    · rename_i xs ys q1 q2
      obtain ⟨a, us, rfl, h1, h2⟩ := top_lstOf s h q1
      obtain ⟨a', us', rfl, h3, h4⟩ := top_lstOf s h' q2
      split at e
      · split at e
        · rename_i hc
          cases e
          exact .inr (.inr (.inl ⟨a, a', us, us', rfl, rfl, h1, h3, eqEls_paired s h2 h4 hc, f.dat s r rp_bl⟩))
        · cases e
      · rename_i hn
        cases e
        exact .inr (.inl ⟨a, a', us, us', rfl, rfl, h1, h3, by rw [← h2.length, ← h4.length]; exact hn, f.dat s r rp_bl⟩)
    · split at e
      · rename_i hc
        cases e
        obtain ⟨a, kvs, t, rfl, h1, rfl⟩ := dkStr_top h h' hc
        exact .inr (.inr (.inr (.inl ⟨a, kvs, t, rfl, h1, rfl, f.dat s r rp_bl⟩)))
      · cases q : strStr d d' with
        | none =>
          rw [q] at e
          cases e
        | some c =>
          rw [q] at e
          cases e
          obtain ⟨a, b, rfl, rfl, rfl⟩ := strStr_top h h' q
          exact .inr (.inr (.inr (.inr ⟨a, b, rfl, rfl, f.dat s r rp_bl⟩)))
/-! in a list, in a tuple -/
def rInTD (K : PySem.W.Frag) : R2 := fun x y H Q => ∃ d ds, Dp K H x d ∧ Dp K H y (.tuple ds) ∧ SeqAt.shaped d = true ∧ SeqAt.shaped (.tuple ds) = true ∧ Q (.bl (ds.any fun z => PyData.eqv z d)) H
def rNotInTD (K : PySem.W.Frag) : R2 := fun x y H Q => ∃ d ds, Dp K H x d ∧ Dp K H y (.tuple ds) ∧ SeqAt.shaped d = true ∧ SeqAt.shaped (.tuple ds) = true ∧ Q (.bl (!ds.any fun z => PyData.eqv z d)) H
theorem room_inT {A : Around} {d : PyData} {ds : List PyData} (sd : SeqAt.shaped d = true) (hu : A.units + 65 < cLine) : A.units + 1 + min (PyData.depthAll ds) d.depth < cLine := by
  have h1 := SeqAt.depth_of_shaped sd
  have h2 : min (PyData.depthAll ds) d.depth ≤ d.depth := Nat.min_le_right _ _
  omega
theorem op_inTD {X : Cx} (hu : X.A.units + 65 < cLine) : OpR X (compareOp .In) (rInTD X.K) := by
  intro pins s σ H x y v u Q I rx ry h
  obtain ⟨d, ds, hd, he, sd, se, q⟩ := h
  obtain ⟨as, r1⟩ := Dp.reads I d x v hd rx
  obtain ⟨bs, r2⟩ := Dp.reads I (.tuple ds) y u he ry
  exact SeqAt.in_tuple_reads r2 r1 (SeqAt.canLay_of_shaped se) (SeqAt.canLay_of_shaped sd) (room_inT sd hu) ⟨.bl _, H, I, rfl, q⟩
theorem op_notInTD {X : Cx} (hu : X.A.units + 65 < cLine) : OpR X (compareOp .NotIn) (rNotInTD X.K) := by
  intro pins s σ H x y v u Q I rx ry h
  obtain ⟨d, ds, hd, he, sd, se, q⟩ := h
  obtain ⟨as, r1⟩ := Dp.reads I d x v hd rx
  obtain ⟨bs, r2⟩ := Dp.reads I (.tuple ds) y u he ry
  exact SeqAt.notIn_tuple_reads r2 r1 (SeqAt.canLay_of_shaped se) (SeqAt.canLay_of_shaped sd) (room_inT sd hu) ⟨.bl _, H, I, rfl, q⟩
def inD (d : D) (ds : List D) : Bool := ds.any fun z => eqD z d
theorem any_py (d : D) : ∀ ds : List D, ((pyL ds).any fun z => PyData.eqv z (py d)) = inD d ds
  | [] => by unfold pyL; rfl
  | e :: ds => by
    unfold pyL inD
    rw [List.any_cons, List.any_cons, any_py d ds]
    rfl
def rInX (K : PySem.W.Frag) : R2 := fun x y H Q => rInD K x y H Q ∨ rInTD K x y H Q
def rNotInX (K : PySem.W.Frag) : R2 := fun x y H Q => rNotInD K x y H Q ∨ rNotInTD K x y H Q
theorem or_inX (hu : ∀ i, (X.at_ i).A.units + 65 < cLine) : ∀ i, OpR (X.at_ i) (compareOp .In) (rInX X.K) := fun i => by
  rw [← X.hK i]
  exact (op_inD (hu i)).or (op_inTD (hu i))
theorem or_notInX (hu : ∀ i, (X.at_ i).A.units + 65 < cLine) : ∀ i, OpR (X.at_ i) (compareOp .NotIn) (rNotInX X.K) := fun i => by
  rw [← X.hK i]
  exact (op_notInD (hu i)).or (op_notInTD (hu i))
theorem or_eq (hu : ∀ i, (X.at_ i).A.units + 65 < cLine) : ∀ i, OpR (X.at_ i) (compareOp .Eq) (rEqX X.K) := fun i => by
  rw [← X.hK i]
  exact (op_eqD (Nat.lt_of_succ_lt (hu i))).or ((op_eqLen (hu i)).or ((op_eqE (hu i)).or ((op_eqDS (by have := hu i; omega)).or op_eqSS)))
theorem or_ne (hu : ∀ i, (X.at_ i).A.units + 65 < cLine) : ∀ i, OpR (X.at_ i) (compareOp .NotEq) (rNeX X.K) := fun i => by
  rw [← X.hK i]
  exact (op_neD (Nat.lt_of_succ_lt (hu i))).or ((op_neLen (hu i)).or ((op_neE (hu i)).or ((op_neDS (by have := hu i; omega)).or op_neSS)))
def gIn (d c : D) : Option B := match seqOf c with
  | some ds => if (shp d && shp c) = true then some (.dat (.bl (inD d ds))) else none
  | none => none
def gNotIn (d c : D) : Option B := match seqOf c with
  | some ds => if (shp d && shp c) = true then some (.dat (.bl (!inD d ds))) else none
  | none => none
theorem v2_in : V2 K T (rInX K) gIn := by
  intro F H A ρ σ d d' v v' b Q s r h h' e f
  unfold gIn at e
  cases q : seqOf d' with
  | none => rw [q] at e; cases e
  | some ds =>
    rw [q] at e
    simp only at e
    split at e
    · cases e
      rename_i c
      rw [Bool.and_eq_true] at c
      have k := shp_dp (h'.rp s) c.2
      have c2 := c.2
      unfold shp at c2
      have q1 := f.dat s r rp_bl
      rw [← any_py] at q1
      cases d' <;> simp only [seqOf] at q <;> first
        | (cases q; unfold py at k c2; exact .inl ⟨_, _, shp_dp (h.rp s) c.1, k, c.1, c2, q1⟩)
        | (cases q; unfold py at k c2; exact .inr ⟨_, _, shp_dp (h.rp s) c.1, k, c.1, c2, q1⟩)
        | cases q
    · cases e
theorem v2_notIn : V2 K T (rNotInX K) gNotIn := by
  intro F H A ρ σ d d' v v' b Q s r h h' e f
  unfold gNotIn at e
  cases q : seqOf d' with
  | none => rw [q] at e; cases e
  | some ds =>
    rw [q] at e
    simp only at e
    split at e
    · cases e
      rename_i c
      rw [Bool.and_eq_true] at c
      have k := shp_dp (h'.rp s) c.2
      have c2 := c.2
      unfold shp at c2
      have q1 := f.dat s r rp_bl
      rw [← any_py] at q1
      cases d' <;> simp only [seqOf] at q <;> first
        | (cases q; unfold py at k c2; exact .inl ⟨_, _, shp_dp (h.rp s) c.1, k, c.1, c2, q1⟩)
        | (cases q; unfold py at k c2; exact .inr ⟨_, _, shp_dp (h.rp s) c.1, k, c.1, c2, q1⟩)
        | cases q
    · cases e
/-! is None -/
def c1 (g : D → Option B) (f : FO) : FE := fun ρ => f ρ >>= fun p => ofO (rd p.2 p.1) >>= fun d => ofO (g d) >>= fun b => .ok (b, p.2)
theorem run1 {W : WX} {r : V → Hp → VK → Prop} {g : D → Option B} (hv : V1 X.K T r g) {ta : TE} {fa : FO} {σ : St} {F H : Hp} {A : List Addr} {ρ : Ev} {Q : VK}
    (sa : ∀ σ F H A ρ Q, At X T F H ρ σ A → Post X.K T W σ F H A (fa ρ) (fun o ρ' F' H' A' => ∀ v, RepS X.K F' H' ρ' σ A' → OpdR X.K F' σ o v → Q v H') → ta σ H Q)
    (a : At X T F H ρ σ A) (p : Post X.K T W σ F H A (c1 g fa ρ) (fun b ρ' F' H' A' => ∀ v, RepS X.K F' H' (b :: ρ') (some v :: σ) A' → Q v H')) : ta σ H fun x H1 => r x H1 Q := by
  refine sa σ F H A ρ _ a ?_
  refine p.bind.imp fun o ρ1 F1 H1 A1 g1 p1 v r1 o1 => ?_
  simp only at p1
  cases q1 : rd ρ1 o with
  | none =>
    rw [q1] at p1
    exact False.elim p1
  | some d =>
    rw [q1] at p1
    simp only [ofO_some, ok_bind] at p1
    cases q3 : g d with
    | none =>
      rw [q3] at p1
      exact False.elim p1
    | some b =>
      rw [q3] at p1
      exact hv F1 H1 A1 ρ1 σ d v b Q g1.sub r1 (rd_top g1.sub r1 o1 q1) q3 fun w F3 H3 A3 g3 r3 => p1.now g3 w r3
def isNon : D → Bool
  | .non => true
  | _ => false
def gIsN (n : Bool) : D → Option B
  | .opq _ => none
  | d => some (.dat (.bl (if n then !isNon d else isNon d)))
theorem isNon_of {F H : Hp} {d : D} {v : V} (s : Sub F H) (h : RpTop K F H d v) (n : ∀ w, d ≠ .opq w) : decide (v = V.non) = isNon d := by
  have h2 := h.rp s
  cases d with
  | opq w => exact absurd rfl (n w)
  | non => unfold Rp at h2; subst h2; rfl
  | bl b => unfold Rp at h2; subst h2; rfl
  | int b => unfold Rp at h2; subst h2; rfl
  | str b => unfold Rp at h2; subst h2; rfl
  | lst ds => unfold Rp at h2; obtain ⟨a, _, rfl, _⟩ := h2; rfl
  | tup ds => unfold Rp at h2; obtain ⟨a, _, rfl, _⟩ := h2; rfl
  | scr ds => unfold Rp at h2; obtain ⟨a, _, rfl, _⟩ := h2; rfl
  | dk ds => unfold Rp at h2; obtain ⟨a, _, rfl, _⟩ := h2; rfl
  | dt ds => unfold Rp at h2; obtain ⟨a, _, rfl, _⟩ := h2; rfl
  | ins C ds => unfold Rp at h2; obtain ⟨a, _, _, _, rfl, _⟩ := h2; rfl
theorem v1_isN (n : Bool) : V1 K T (fun x H Q => Q (.bl (if n then !decide (x = .non) else decide (x = .non))) H) (gIsN n) := by
  intro F H A ρ σ d v b Q s r h e f
  have no : ∀ w, d ≠ .opq w := fun w z => by
    subst z
    cases e
  have e' : b = .dat (.bl (if n then !isNon d else isNon d)) := by
    unfold gIsN at e
    cases d <;> first
      | exact absurd rfl (no _)
      | exact (Option.some.inj e).symm
  subst e'
  show Q (.bl (if n then !decide (v = .non) else decide (v = .non))) H
  rw [isNon_of s h no]
  exact f.dat s r rp_bl
end
section
variable {X : Fam} {T : List (Addr × Str)} {W : WX}
theorem de_isN {e : Expr} {f : FO} {j pos pos'} (h : DO X T W e f) : DE X T W (.Compare e [.Is] [.Constant .none j pos'] pos) (c1 (gIsN false) f) := by
  obtain ⟨t, pe, s⟩ := h
  exact ⟨_, fun i => pe_cmp (pc_isN (pe i)) rfl, fun σ F H A ρ Q a p => run1 (v1_isN false) s a p⟩
theorem de_notN {e : Expr} {f : FO} {j pos pos'} (h : DO X T W e f) : DE X T W (.Compare e [.IsNot] [.Constant .none j pos'] pos) (c1 (gIsN true) f) := by
  obtain ⟨t, pe, s⟩ := h
  exact ⟨_, fun i => pe_cmp (pc_notN (pe i)) rfl, fun σ F H A ρ Q a p => run1 (v1_isN true) s a p⟩
theorem dt_isN {e : Expr} {f : FO} {j pos pos'} (h : DO X T W e f) : DT X T W (.Compare e [.Is] [.Constant .none j pos'] pos) (cT (c1 (gIsN false) f)) := by
  obtain ⟨t, pe, s⟩ := h
  exact ⟨_, fun i => pt_cmp (pc_isN (pe i)) rfl, fun σ F H A ρ Q a p => test_of (fun σ F H A ρ Q a p => run1 (v1_isN false) s a p) a p⟩
theorem dt_notN {e : Expr} {f : FO} {j pos pos'} (h : DO X T W e f) : DT X T W (.Compare e [.IsNot] [.Constant .none j pos'] pos) (cT (c1 (gIsN true) f)) := by
  obtain ⟨t, pe, s⟩ := h
  exact ⟨_, fun i => pt_cmp (pc_notN (pe i)) rfl, fun σ F H A ρ Q a p => test_of (fun σ F H A ρ Q a p => run1 (v1_isN true) s a p) a p⟩
def gNeg : D → Option B
  | .int i => some (.dat (.int (-i)))
  | _ => none
theorem de_neg {e : Expr} {f : FO} {pos} (h : DO X T W e f) : DE X T W (.UnaryOp .USub e pos) (c1 gNeg f) := by
  obtain ⟨t, pe, s⟩ := h
  refine ⟨_, fun i => pe_un un_neg (pe i), fun σ F H A ρ Q a p => run1 (r := rU fun i => .int (-i)) ?_ s a p⟩
  intro F H A ρ σ d v b Q s r h e f
  unfold gNeg at e
  split at e
  · cases e
    exact ⟨_, top_int h, f.dat s r rp_int⟩
  · cases e

/-! ## a < b < c -/
theorem runChain {r r' : R2} {g g' : D → D → Option B} (hv : V2 X.K T r g) (hv' : V2 X.K T r' g') {ta tb tc : TE} {fa fb fc : FO} {σ : St} {F H : Hp} {A : List Addr} {ρ : Ev} {Q : VK}
    (sa : ∀ σ F H A ρ Q, At X T F H ρ σ A → Post X.K T W σ F H A (fa ρ) (fun o ρ' F' H' A' => ∀ v, RepS X.K F' H' ρ' σ A' → OpdR X.K F' σ o v → Q v H') → ta σ H Q)
    (sb : ∀ σ F H A ρ Q, At X T F H ρ σ A → Post X.K T W σ F H A (fb ρ) (fun o ρ' F' H' A' => ∀ v, RepS X.K F' H' ρ' σ A' → OpdR X.K F' σ o v → Q v H') → tb σ H Q)
    (sc : ∀ σ F H A ρ Q, At X T F H ρ σ A → Post X.K T W σ F H A (fc ρ) (fun o ρ' F' H' A' => ∀ v, RepS X.K F' H' ρ' σ A' → OpdR X.K F' σ o v → Q v H') → tc σ H Q)
    (a : At X T F H ρ σ A) (p : Post X.K T W σ F H A (cChain g g' fa fb fc ρ) (fun b ρ' F' H' A' => ∀ v, RepS X.K F' H' (b :: ρ') (some v :: σ) A' → Q v H')) : tChain r r' ta tb tc σ H Q := by
  refine sa σ F H A ρ _ a ?_
  refine p.bind.imp fun o ρ1 F1 H1 A1 g1 p1 v r1 o1 => ?_
  refine sb σ F1 H1 A1 ρ1 _ (a.next g1 r1) ?_
  refine p1.bind.imp fun o' ρ2 F2 H2 A2 g2 p2 v' r2 o2 => ?_
  have at2 : At X T F2 H2 ρ2 σ A2 := (a.next g1 r1).next g2 r2
  simp only at p2
  cases q1 : rd ρ2 o with
  | none =>
    rw [q1] at p2
    exact False.elim p2
  | some d =>
    rw [q1] at p2
    simp only [ofO_some, ok_bind] at p2
    cases q2 : rd ρ2 o' with
    | none =>
      rw [q2] at p2
      exact False.elim p2
    | some d' =>
      rw [q2] at p2
      simp only [ofO_some, ok_bind] at p2
      cases q3 : g d d' with
      | none =>
        rw [q3] at p2
        exact False.elim p2
      | some b =>
        rw [q3] at p2
        simp only [ofO_some, ok_bind] at p2
        refine hv F2 H2 A2 ρ2 σ d d' v v' b _ g2.sub r2 (rd_top g2.sub r2 (o1.mono g2.kF) q1) (rd_top g2.sub r2 o2 q2) q3 fun w F3 H3 A3 g3 r3 => ?_
        have p3 := p2.after g3
        clear p2
        cases qb : isB b with
        | none =>
          rw [qb] at p3
          exact False.elim p3
        | some c =>
          rw [qb] at p3
          simp only [ofO_some, ok_bind] at p3
          cases isB_of qb
          obtain ⟨w', e1, z, r4⟩ := r3.dat_inv
          cases e1
          unfold Rp at z
          refine ⟨c, z, ?_⟩
          cases c with
          | false => exact iteF (p3.now (Go.refl g3.sub) (.bl false) (r4.dat rp_bl))
          | true =>
            refine iteT ?_
            simp only [if_true] at p3
            refine sc σ F3 H3 A3 ρ2 _ (at2.next g3 r4) ?_
            refine p3.bind.imp fun o'' ρ5 F5 H5 A5 g5 p5 v'' r5 o5 => ?_
            simp only at p5
            cases q5 : rd ρ5 o' with
            | none =>
              rw [q5] at p5
              exact False.elim p5
            | some e =>
              rw [q5] at p5
              simp only [ofO_some, ok_bind] at p5
              cases q6 : rd ρ5 o'' with
              | none =>
                rw [q6] at p5
                exact False.elim p5
              | some e' =>
                rw [q6] at p5
                simp only [ofO_some, ok_bind] at p5
                cases q7 : g' e e' with
                | none =>
                  rw [q7] at p5
                  exact False.elim p5
                | some b' =>
                  rw [q7] at p5
                  exact hv' F5 H5 A5 ρ5 σ e e' v' v'' b' Q g5.sub r5 (rd_top g5.sub r5 (o2.mono (g3.kF.trans g5.kF)) q5) (rd_top g5.sub r5 o5 q6) q7 fun w F6 H6 A6 g6 r6 => p5.now g6 w r6
theorem de_chain {op op' : CmpOp} {r r' : R2} {g g' : D → D → Option B} {a b c : Expr} {fa fb fc : FO} {pos : Pos} (ho : ∀ i, OpR (X.at_ i) (compareOp op) r) (hv : V2 X.K T r g) (ho' : ∀ i, OpR (X.at_ i) (compareOp op') r') (hv' : V2 X.K T r' g') (ha : DO X T W a fa) (hb : DO X T W b fb) (hc : DO X T W c fc)
    (hm : lastMarks [op, op'] [b, c] = false := by with_unfolding_all rfl) : DE X T W (.Compare a [op, op'] [b, c] pos) (cChain g g' fa fb fc) := by
  obtain ⟨ta, pa, sa⟩ := ha
  obtain ⟨tb, pb, sb⟩ := hb
  obtain ⟨tc, pc, sc⟩ := hc
  exact ⟨_, fun i => pe_chain (ho i) (ho' i) (pa i) (pb i) (pc i) hm, fun σ F H A ρ Q a p => runChain hv hv' sa sb sc a p⟩
theorem dt_chain {op op' : CmpOp} {r r' : R2} {g g' : D → D → Option B} {a b c : Expr} {fa fb fc : FO} {pos : Pos} (ho : ∀ i, OpR (X.at_ i) (compareOp op) r) (hv : V2 X.K T r g) (ho' : ∀ i, OpR (X.at_ i) (compareOp op') r') (hv' : V2 X.K T r' g') (ha : DO X T W a fa) (hb : DO X T W b fb) (hc : DO X T W c fc)
    (hm : lastMarks [op, op'] [b, c] = false := by with_unfolding_all rfl) : DT X T W (.Compare a [op, op'] [b, c] pos) (cT (cChain g g' fa fb fc)) := by
  obtain ⟨ta, pa, sa⟩ := ha
  obtain ⟨tb, pb, sb⟩ := hb
  obtain ⟨tc, pc, sc⟩ := hc
  exact ⟨_, fun i => pt_chain (ho i) (ho' i) (pa i) (pb i) (pc i) hm, fun σ F H A ρ Q a p => test_of (fun σ F H A ρ Q a p => runChain hv hv' sa sb sc a p) a p⟩

/-! ## displays, subscripts, slices -/
def cTup (f : FA) : FE := fun ρ => f ρ >>= fun p => ofO (vals p.1) >>= fun ds => if ds.length ≤ sizeLine then .ok (.dat (.tup ds), p.2) else .stuck
where
  vals : List Opd → Option (List D)
    | [] => some []
    | .val d :: os => (vals os).map (d :: ·)
    | .var _ :: _ => none
abbrev vals := cTup.vals
theorem vals_rp {K : PySem.W.Frag} {F : Hp} {σ : St} : ∀ {os : List Opd} {vs : List V} {ds : List D}, Paired (OpdR K F σ) os vs → vals os = some ds → RpL K F ds vs
  | [], _, _, h, e => by
    cases h
    cases e
    exact .nil
  | .val d :: os, _, _, h, e => by
    cases h with
    | cons h1 h2 =>
      simp only [vals, cTup.vals] at e
      cases q : cTup.vals os with
      | none =>
        rw [q] at e
        cases e
      | some ds =>
        rw [q] at e
        cases e
        exact .cons h1 (vals_rp h2 q)
  | .var _ :: _, _, _, _, e => by cases e
theorem de_tup {es : List Expr} {f : FA} {k pos} (h : DA X T W es f) : DE X T W (.Tuple es k pos) (cTup f) := by
  obtain ⟨t, pa, s⟩ := h
  refine ⟨_, fun i => pe_tup (pa i), fun σ F H A ρ Q a p => s σ F H A ρ _ a ?_⟩
  refine p.bind.imp fun os ρ1 F1 H1 A1 g1 p1 vs r1 o1 => ?_
  simp only at p1
  cases q : cTup.vals os with
  | none =>
    rw [q] at p1
    exact False.elim p1
  | some ds =>
    rw [q] at p1
    simp only [ofO_some, ok_bind] at p1
    split at p1
    · rename_i hl
      have rl := vals_rp o1 q
      refine ⟨by rw [← rl.length]; exact hl, Fin.tup (K := X.K) (T := T) (A := A1) (ρ := ρ1) (σ := σ) (fun w F3 H3 A3 g3 r3 => p1.now g3 w r3) g1.sub r1 rl⟩
    · exact False.elim p1
def cLst (f : FA) : FE := fun ρ => f ρ >>= fun p => ofO (vals p.1) >>= fun ds => if ds.length ≤ sizeLine then .ok (.own ds, p.2) else .stuck
theorem de_lst {es : List Expr} {f : FA} {pos} (h : DA X T W es f) : DE X T W (.List es pos) (cLst f) := by
  obtain ⟨t, pa, s⟩ := h
  refine ⟨_, fun i => pe_lst (pa i), fun σ F H A ρ Q a p => s σ F H A ρ _ a ?_⟩
  refine p.bind.imp fun os ρ1 F1 H1 A1 g1 p1 vs r1 o1 => ?_
  simp only at p1
  cases q : cTup.vals os with
  | none =>
    rw [show vals os = cTup.vals os from rfl, q] at p1
    exact False.elim p1
  | some ds =>
    rw [show vals os = cTup.vals os from rfl, q] at p1
    simp only [ofO_some, ok_bind] at p1
    split at p1
    · rename_i hl
      have rl := vals_rp o1 q
      refine ⟨by rw [← rl.length]; exact hl, Fin.lst (K := X.K) (T := T) (A := A1) (ρ := ρ1) (σ := σ) (fun w F3 H3 A3 g3 r3 => p1.now g3 w r3) g1.sub r1 rl⟩
    · exact False.elim p1
/-- a[b] by a place -/
def gIx (d i : D) : Option B := match d, i with
  | .str z, .int k => if z.length ≤ sizeLine then (atI z.cps.toList k).map fun c => .dat (.str ⟨#[c]⟩) else none
  | d, .int k => match seqOf d with
    | some ds => (atI ds k).map .dat
    | none => none
  | _, _ => none
theorem atI_rp {K : PySem.W.Frag} {F : Hp} {ds : List D} {vs : List V} {k : Int} {d : D} (h : RpL K F ds vs) (e : atI ds k = some d) : ∃ v, atI vs k = some v ∧ Rp K F d v := by
  unfold atI at e ⊢
  rw [← h.length]
  cases q : ixN ds.length k with
  | none =>
    rw [q] at e
    cases e
  | some j =>
    rw [q] at e
    exact h.get e
abbrev rIxX (K : PySem.W.Frag) : R2 := fun x y H Q => rIxL K x y H Q ∨ rIxT K x y H Q ∨ rIxS x y H Q
theorem v2_ix {K : PySem.W.Frag} : V2 K T (rIxX K) gIx := by
  intro F H A ρ σ d d' v v' b Q s r h h' e f
  unfold gIx at e
  split at e
  · split at e
    · rename_i z k hl
      cases q : atI z.cps.toList k with
      | none =>
        rw [q] at e
        cases e
      | some c =>
        rw [q] at e
        cases e
        exact .inr (.inr ⟨z, k, c, top_str h, top_int h', hl, q, f.dat s r rp_str⟩)
    · cases e
  · rename_i k _
    cases q : seqOf d with
    | none =>
      rw [q] at e
      cases e
    | some ds =>
      rw [q] at e
      simp only at e
      obtain ⟨a, xs, e1, h1, h2⟩ := top_seq s h q
      cases q2 : atI ds k with
      | none =>
        rw [q2] at e
        cases e
      | some x =>
        rw [q2] at e
        cases e
        obtain ⟨u, e2, e3⟩ := atI_rp h2 q2
        rcases h1 with h1 | h1
        · exact .inl ⟨a, xs, k, u, e1, top_int h', h1, e2, f.dat s r e3⟩
        · exact .inr (.inl ⟨a, xs, k, u, e1, top_int h', h1, e2, f.dat s r e3⟩)
  · cases e
theorem or_ix : ∀ i, IxR (X.at_ i) (rIxX X.K) := fun i => by
  rw [← X.hK i]
  exact ix_list.or (ix_tup.or ix_str)
theorem de_ix {a b : Expr} {fa fb : FO} {pos : Pos} (ha : DO X T W a fa) (hb : DO X T W b fb) (hs : PlainIx b := by exact fun _ _ => rfl) : DE X T W (.Subscript a b pos) (c2 gIx fa fb) := by
  obtain ⟨ta, pa, sa⟩ := ha
  obtain ⟨tb, pb, sb⟩ := hb
  exact ⟨_, fun i => pe_ix (or_ix i) (pa i) (pb i) hs, fun σ F H A ρ Q at_ p => run2 v2_ix sa sb at_ p⟩
/-- a part of a slice -/
abbrev FP := Ev → R (Option Int × Ev)
def DP (X : Fam) (T : List (Addr × Str)) (W : WX) (e : Option Expr) (f : FP) : Prop := ∃ t, (∀ i, PO (X.at_ i) e t) ∧ ∀ σ F H A ρ Q, At X T F H ρ σ A →
  Post X.K T W σ F H A (f ρ) (fun o ρ' F' H' A' => RepS X.K F' H' ρ' σ A' → Q o H') → t σ H Q
def pNo : FP := fun ρ => .ok (none, ρ)
def intOf : D → Option Int
  | .int i => some i
  | _ => none
def pSo (f : FO) : FP := fun ρ => f ρ >>= fun p => ofO (rd p.2 p.1) >>= fun d => ofO (intOf d) >>= fun i => .ok (some i, p.2)
theorem dp_no : DP X T W none pNo := ⟨_, fun _ => po_none, fun σ F H A ρ Q a p => p.now (Go.refl a.sub) a.rep⟩
theorem intOf_some {d : D} {i : Int} (e : intOf d = some i) : d = .int i := by
  unfold intOf at e
  split at e
  · cases e
    rfl
  · cases e
theorem dp_so {e : Expr} {f : FO} (h : DO X T W e f) : DP X T W (some e) (pSo f) := by
  obtain ⟨t, pe, s⟩ := h
  refine ⟨_, fun i => po_some (pe i), fun σ F H A ρ Q a p => s σ F H A ρ _ a ?_⟩
  refine p.bind.imp fun o ρ1 F1 H1 A1 g1 p1 v r1 o1 => ?_
  simp only at p1
  cases q1 : rd ρ1 o with
  | none =>
    rw [q1] at p1
    exact False.elim p1
  | some d =>
    rw [q1] at p1
    simp only [ofO_some, ok_bind] at p1
    cases q2 : intOf d with
    | none =>
      rw [q2] at p1
      exact False.elim p1
    | some i =>
      rw [q2] at p1
      cases intOf_some q2
      exact ⟨i, top_int (rd_top g1.sub r1 o1 q1), p1.now (Go.refl g1.sub) r1⟩
def cutD (xs : List D) (lo hi : Option Int) : List D := (xs.drop (HT.sIx xs.length 0 lo)).take (HT.sIx xs.length xs.length hi - HT.sIx xs.length 0 lo)
theorem cut_rp {K : PySem.W.Frag} {F : Hp} {ds : List D} {vs : List V} (h : RpL K F ds vs) (lo hi : Option Int) : RpL K F (cutD ds lo hi) (cutV vs lo hi) := by
  unfold cutD cutV
  rw [h.length]
  exact (h.drop _).take _
def gSl (d : D) (lo hi : Option Int) : Option B := match d with
  | .lst ds => some (.own (cutD ds lo hi))
  | .scr ds => some (.own (cutD ds lo hi))
  | .tup ds => some (.dat (.tup (cutD ds lo hi)))
  | .str z => if z.length ≤ sizeLine then some (.dat (.str (cutS z lo hi))) else none
  | _ => none
abbrev rSlX (K : PySem.W.Frag) : V → Option Int → Option Int → Hp → VK → Prop := fun x lo hi H Q => rSlL K x lo hi H Q ∨ rSlA K x lo hi H Q ∨ rSlS x lo hi H Q
theorem or_sl : ∀ i, SlR (X.at_ i) (rSlX X.K) := fun i => by
  rw [← X.hK i]
  exact sl_list.or (sl_tupA.or sl_str)
def cSl (f : FO) (l u : FP) : FE := fun ρ => f ρ >>= fun p => l p.2 >>= fun q => u q.2 >>= fun w => ofO (rd w.2 p.1) >>= fun d => ofO (gSl d q.1 w.1) >>= fun b => .ok (b, w.2)
theorem cut_whole {α : Type} (xs : List α) (lo hi : Option Int) (h : HT.sIx xs.length 0 lo = 0 ∧ HT.sIx xs.length xs.length hi = xs.length) : (xs.drop (HT.sIx xs.length 0 lo)).take (HT.sIx xs.length xs.length hi - HT.sIx xs.length 0 lo) = xs := by
  rw [h.1, h.2]
  simp
theorem de_sl {e : Expr} {lo hi : Option Expr} {f : FO} {l u : FP} {pos p2 : Pos} (he : DO X T W e f) (hl : DP X T W lo l) (hu : DP X T W hi u) : DE X T W (.Subscript e (.Slice lo hi none p2) pos) (cSl f l u) := by
  obtain ⟨t, pe, s⟩ := he
  obtain ⟨tl, pl, sl⟩ := hl
  obtain ⟨tu, pu, su⟩ := hu
  refine ⟨_, fun i => pe_slice (or_sl i) (pe i) (pl i) (pu i), fun σ F H A ρ Q a p => s σ F H A ρ _ a ?_⟩
  refine p.bind.imp fun o ρ1 F1 H1 A1 g1 p1 v r1 o1 => ?_
  have at1 := a.next g1 r1
  refine sl σ F1 H1 A1 ρ1 _ at1 ?_
  refine p1.bind.imp fun lo' ρ2 F2 H2 A2 g2 p2 r2 => ?_
  have at2 := at1.next g2 r2
  refine su σ F2 H2 A2 ρ2 _ at2 ?_
  refine p2.bind.imp fun hi' ρ3 F3 H3 A3 g3 p3 r3 => ?_
  simp only at p3
  cases q1 : rd ρ3 o with
  | none =>
    rw [q1] at p3
    exact False.elim p3
  | some d =>
    rw [q1] at p3
    simp only [ofO_some, ok_bind] at p3
    have top := rd_top g3.sub r3 (o1.mono (g2.kF.trans g3.kF)) q1
    cases q3 : gSl d lo' hi' with
    | none =>
      rw [q3] at p3
      exact False.elim p3
    | some b =>
      rw [q3] at p3
      have fin : Fin X.K T F3 H3 A3 ρ3 σ b Q := fun w F6 H6 A6 g6 r6 => p3.now g6 w r6
      unfold gSl at q3
      split at q3
      · cases q3
        obtain ⟨x, xs, e1, h1, h2⟩ := top_lst top
        exact .inl ⟨x, xs, e1, SqL.of h1, fin.lst g3.sub r3 (cut_rp h2 _ _)⟩
      · cases q3
        obtain ⟨x, xs, e1, h1, h2⟩ := top_scr g3.sub top
        exact .inl ⟨x, xs, e1, h1, fin.lst g3.sub r3 (cut_rp h2 _ _)⟩
      · cases q3
        rename_i ds
        obtain ⟨x, xs, e1, h1, h2⟩ := top_tup g3.sub top
        subst e1
        refine .inr (.inl ⟨x, xs, rfl, h1, fun w => ?_, fun _ => fin.tup g3.sub r3 (cut_rp h2 _ _)⟩)
        have ew : cutD ds lo' hi' = ds := by
          unfold cutD
          exact cut_whole ds lo' hi' (by rw [h2.length]; exact w)
        rw [ew] at fin
        exact fin.dat g3.sub r3 (top_tupF top)
      · split at q3
        · cases q3
          rename_i z hl
          exact .inr (.inr ⟨z, top_str top, hl, fin.dat g3.sub r3 rp_str⟩)
        · cases q3
      · cases q3
end
end Dl

set_option Elab.async false
set_option linter.all false
set_option maxRecDepth 100000
namespace Dl
open PySem PySem.Spec L2
open PyProof.Rows hiding St

/-! ## statements -/
inductive Out where
  | nx (ρ : Ev)
  | rt (b : B) (ρ : Ev)
  | bk (ρ : Ev)
  | ct (ρ : Ev)
  | er (x : Exc) (ρ : Ev)
  | stuck
abbrev FS := Ev → Out
def R.out {α : Type} (r : R α) (f : α → Out) : Out := match r with
  | .ok a => f a
  | .err x ρ => .er x ρ
  | .stuck => .stuck
@[simp] theorem out_ok {α : Type} (a : α) (f : α → Out) : (R.ok a).out f = f a := rfl
@[simp] theorem out_err {α : Type} (x : Exc) (ρ : Ev) (f : α → Out) : (R.err x ρ : R α).out f = .er x ρ := rfl
@[simp] theorem out_stuck {α : Type} (f : α → Out) : (R.stuck : R α).out f = .stuck := rfl
def Out.then (o : Out) (g : FS) : Out := match o with
  | .nx ρ => g ρ
  | o => o
@[simp] theorem then_nx (ρ : Ev) (g : FS) : (Out.nx ρ).then g = g ρ := rfl
@[simp] theorem then_rt (b : B) (ρ : Ev) (g : FS) : (Out.rt b ρ).then g = .rt b ρ := rfl
@[simp] theorem then_bk (ρ : Ev) (g : FS) : (Out.bk ρ).then g = .bk ρ := rfl
@[simp] theorem then_ct (ρ : Ev) (g : FS) : (Out.ct ρ).then g = .ct ρ := rfl
@[simp] theorem then_er (x : Exc) (ρ : Ev) (g : FS) : (Out.er x ρ).then g = .er x ρ := rfl
@[simp] theorem then_stuck (g : FS) : Out.stuck.then g = .stuck := rfl

def Keep (P : List Nat) (σ σ' : St) : Prop := ∀ j ∈ P, σ'[j]? = σ[j]?
theorem Keep.refl (P : List Nat) (σ : St) : Keep P σ σ := fun _ _ => rfl
theorem Keep.trans {P : List Nat} {σ σ1 σ2 : St} (a : Keep P σ σ1) (b : Keep P σ1 σ2) : Keep P σ σ2 := fun j m => (b j m).trans (a j m)
theorem Keep.set {P : List Nat} {σ : St} {i : Nat} {sv : Option V} (h : i ∉ P) : Keep P σ (σ.set i sv) := fun j m => List.getElem?_set_ne (fun z => h (by rw [z]; exact m))

def PostS (K : PySem.W.Frag) (T : List (Addr × Str)) (W : WX) (P : List Nat) (σ : St) (F H : Hp) (A : List Addr) (o : Out) (D : Ends) : Prop := match o with
  | .nx ρ' => ∀ σ' F' H' A', Go T A F H A' F' H' → RepS K F' H' ρ' σ' A' → Keep P σ σ' → D.nx σ' H'
  | .rt b ρ' => ∀ v σ' F' H' A', Go T A F H A' F' H' → RepS K F' H' (b :: ρ') (some v :: σ') A' → Keep P σ σ' → D.rt v H'
  | .bk ρ' => ∀ σ' F' H' A', Go T A F H A' F' H' → RepS K F' H' ρ' σ' A' → Keep P σ σ' → D.bk σ' H'
  | .ct ρ' => ∀ σ' F' H' A', Go T A F H A' F' H' → RepS K F' H' ρ' σ' A' → Keep P σ σ' → D.ct σ' H'
  | .er x ρ' => ∀ σ' F' H' A' cls dd, Go T A F H A' F' H' → RepS K F' H' ρ' σ' A' → Keep P σ σ' → RepX K F' x cls dd → W cls dd σ' H'
  | .stuck => False
section
variable {K : PySem.W.Frag} {T : List (Addr × Str)} {W : WX} {P : List Nat} {σ σ1 : St} {F H F1 H1 : Hp} {A A1 : List Addr} {o : Out} {D D' : Ends}
theorem PostS.after (p : PostS K T W P σ F H A o D) (g : Go T A F H A1 F1 H1) (k : Keep P σ σ1) : PostS K T W P σ1 F1 H1 A1 o D := by
  cases o with
  | nx ρ' => exact fun σ' F' H' A' g' r k' => p σ' F' H' A' (g.trans g') r (k.trans k')
  | rt b ρ' => exact fun v σ' F' H' A' g' r k' => p v σ' F' H' A' (g.trans g') r (k.trans k')
  | bk ρ' => exact fun σ' F' H' A' g' r k' => p σ' F' H' A' (g.trans g') r (k.trans k')
  | ct ρ' => exact fun σ' F' H' A' g' r k' => p σ' F' H' A' (g.trans g') r (k.trans k')
  | er x ρ' => exact fun σ' F' H' A' cls dd g' r k' => p σ' F' H' A' cls dd (g.trans g') r (k.trans k')
  | stuck => exact p
theorem PostS.out {α : Type} {r : R (α × Ev)} {f : α × Ev → Out} (p : PostS K T W P σ F H A (r.out f) D) : Post K T W σ F H A r fun a ρ1 F1 H1 A1 => PostS K T W P σ F1 H1 A1 (f (a, ρ1)) D := by
  cases r with
  | ok a =>
    obtain ⟨a, ρ1⟩ := a
    exact fun F1 H1 A1 g => p.after g (Keep.refl P σ)
  | err x ρ' => exact fun F' H' A' cls dd g r => p σ F' H' A' cls dd g r (Keep.refl P σ)
  | stuck => exact p
theorem PostS.then' {g : FS} (p : PostS K T W P σ F H A (o.then g) D) {nx : St → Hp → Prop} (h : ∀ ρ' σ' F' H' A', o = .nx ρ' → Go T A F H A' F' H' → RepS K F' H' ρ' σ' A' → Keep P σ σ' → PostS K T W P σ' F' H' A' (g ρ') D → nx σ' H') : PostS K T W P σ F H A o { D with nx := nx } := by
  cases o with
  | nx ρ' => exact fun σ' F' H' A' g' r k' => h ρ' σ' F' H' A' rfl g' r k' (p.after g' k')
  | rt b ρ' => exact p
  | bk ρ' => exact p
  | ct ρ' => exact p
  | er x ρ' => exact p
  | stuck => exact p
theorem PostS.nowN {ρ' : Ev} (p : PostS K T W P σ F H A (.nx ρ') D) {σ' : St} {F' H' : Hp} {A' : List Addr} (g : Go T A F H A' F' H') (r : RepS K F' H' ρ' σ' A') (k : Keep P σ σ') : D.nx σ' H' := p σ' F' H' A' g r k
end
section
variable (X : Fam) (T : List (Addr × Str)) (W : WX) (P : List Nat)
def DS (s : Stmt) (g : FS) : Prop := ∃ t, (∀ i, PS (X.at_ i) s t) ∧ ((∀ i ∈ X.ps, i ∈ P) → ∀ σ F H A ρ D, At X T F H ρ σ A → PostS X.K T W P σ F H A (g ρ) D → t D σ H)
def DSs (s : List Stmt) (g : FS) : Prop := ∃ t, (∀ i, PSs (X.at_ i) s t) ∧ ((∀ i ∈ X.ps, i ∈ P) → ∀ σ F H A ρ D, At X T F H ρ σ A → PostS X.K T W P σ F H A (g ρ) D → t D σ H)
end
section
variable {X : Fam} {T : List (Addr × Str)} {W : WX} {P : List Nat}
def sNil : FS := fun ρ => .nx ρ
theorem dss_nil : DSs X T W P [] sNil := ⟨_, fun _ => pss_nil, fun hps σ F H A ρ D a p => p.nowN (Go.refl a.sub) a.rep (Keep.refl P σ)⟩
def sSeq (f g : FS) : FS := fun ρ => (f ρ).then g
theorem dss_cons {s : Stmt} {ss : List Stmt} {f g : FS} (h : DS X T W P s f) (k : DSs X T W P ss g) : DSs X T W P (s :: ss) (sSeq f g) := by
  obtain ⟨t, ps, s1⟩ := h
  obtain ⟨u, pss, s2⟩ := k
  refine ⟨_, fun i => pss_cons (ps i) (pss i), fun hps σ F H A ρ D a p => s1 hps σ F H A ρ _ a ?_⟩
  exact p.then' fun ρ' σ' F' H' A' _ g' r k' p' => s2 hps σ' F' H' A' ρ' D (a.nextK g' r fun j m => k' j (hps j m)) p'
theorem dss_one {s : Stmt} {f : FS} (h : DS X T W P s f) : DSs X T W P [s] f := by
  obtain ⟨t, ps, s1⟩ := h
  exact ⟨_, fun i => pss_one (ps i), s1⟩
theorem ds_pass {pos : Pos} : DS X T W P (.Pass pos) sNil := ⟨_, fun _ => ps_pass, fun hps σ F H A ρ D a p => p.nowN (Go.refl a.sub) a.rep (Keep.refl P σ)⟩
def sBk : FS := fun ρ => .bk ρ
theorem ds_break {pos : Pos} : DS X T W P (.Break pos) sBk := ⟨_, fun _ => ps_break, fun hps σ F H A ρ D a p => p σ F H A (Go.refl a.sub) a.rep (Keep.refl P σ)⟩
def sCt : FS := fun ρ => .ct ρ
theorem ds_continue {pos : Pos} : DS X T W P (.Continue pos) sCt := ⟨_, fun _ => ps_continue, fun hps σ F H A ρ D a p => p σ F H A (Go.refl a.sub) a.rep (Keep.refl P σ)⟩
/-- an expression alone -/
def sE (f : FE) : FS := fun ρ => (f ρ).out fun p => .nx p.2
theorem ds_expr {e : Expr} {f : FE} {pos : Pos} (h : DE X T W e f) (hs : ∀ i, swapsWith e none pos.line (X.at_ i).env = pure false := by intro _; rfl) : DS X T W P (.Expr e pos) (sE f) := by
  obtain ⟨t, pe, s⟩ := h
  refine ⟨_, fun i => ps_expr (pe i) (hs i), fun hps σ F H A ρ D a p => s σ F H A ρ _ a ?_⟩
  refine p.out.imp fun b ρ1 F1 H1 A1 g p1 v r => ?_
  obtain ⟨A2, r2, m⟩ := r.tail
  exact p1.nowN ((Go.refl g.sub).less m) r2 (Keep.refl P σ)
def sRet (f : FE) : FS := fun ρ => (f ρ).out fun p => .rt p.1 p.2
theorem ds_ret {e : Expr} {f : FE} {pos : Pos} (h : DE X T W e f) : DS X T W P (.Return (some e) pos) (sRet f) := by
  obtain ⟨t, pe, s⟩ := h
  refine ⟨_, fun i => ps_ret (pe i), fun hps σ F H A ρ D a p => s σ F H A ρ _ a ?_⟩
  refine p.out.imp fun b ρ1 F1 H1 A1 g p1 v r => ?_
  exact p1 v σ F1 H1 A1 (Go.refl g.sub) r (Keep.refl P σ)
def sRetN : FS := fun ρ => .rt (.dat .non) ρ
theorem ds_retN {pos : Pos} : DS X T W P (.Return none pos) sRetN := ⟨_, fun _ => ps_retN, fun hps σ F H A ρ D a p => p .non σ F H A (Go.refl a.sub) (a.rep.dat rp_non) (Keep.refl P σ)⟩
def sIf (c : FT) (f g : FS) : FS := fun ρ => (c ρ).out fun p => if p.1 = true then f p.2 else g p.2
theorem ds_if {c : Expr} {a b : List Stmt} {fc : FT} {f g : FS} {pos : Pos} (h : DT X T W c fc) (ha : DSs X T W P a f) (hb : DSs X T W P b g) : DS X T W P (.If c a b pos) (sIf fc f g) := by
  obtain ⟨t, pt, s⟩ := h
  obtain ⟨u, pu, s2⟩ := ha
  obtain ⟨w, pw, s3⟩ := hb
  refine ⟨_, fun i => ps_if (pt i) (pu i) (pw i), fun hps σ F H A ρ D a p => s σ F H A ρ _ a ?_⟩
  refine p.out.imp fun c ρ1 F1 H1 A1 g1 p1 r => ?_
  cases c with
  | true => exact iteT (s2 hps σ F1 H1 A1 ρ1 D (a.next g1 r) p1)
  | false => exact iteF (s3 hps σ F1 H1 A1 ρ1 D (a.next g1 r) p1)

/-! ### names stored -/
/-- a datum for good -/
def cD (f : FE) : FE := fun ρ => f ρ >>= fun p => ofO (frz p.1) >>= fun d => .ok (.dat d, p.2)
theorem de_d {e : Expr} {f : FE} (h : DE X T W e f) : DE X T W e (cD f) := by
  obtain ⟨t, pe, s⟩ := do_e h
  refine ⟨t, pe, fun σ F H A ρ Q a p => s σ F H A ρ Q a ?_⟩
  unfold cO
  unfold cD at p
  cases q : f ρ with
  | ok x =>
    rw [q] at p
    obtain ⟨b, ρ1⟩ := x
    simp only [ok_bind] at p ⊢
    cases q2 : frz b with
    | none =>
      rw [q2] at p
      exact p
    | some d =>
      rw [q2] at p
      exact fun F' H' A' g v r o => p F' H' A' g v (r.dat o)
  | err x ρ1 =>
    rw [q] at p
    exact p
  | stuck =>
    rw [q] at p
    exact p
abbrev LocN (X : Fam) (x : Str) : Prop := ∀ j, Loc (X.at_ j).env.scope x
abbrev FnN (X : Fam) (x : Str) : Prop := ∀ j, (X.at_ j).fn x = true ∨ (X.at_ j).env.scope.names.lookup x = some .local
def sSet (i : Nat) (f : FE) : FS := fun ρ => (f ρ).out fun p => .nx (p.2.set i p.1)
theorem ds_set (i : Nat) {x : Str} {e : Expr} {f : FE} {pos pos' : Pos} (hN : ∀ j, (X.at_ j).N.Nodup) (hP : i ∉ P) (h : DE X T W e f) (hi : ∀ j, (X.at_ j).N[i]? = some x := by intro _; rfl) (hx : LocN X x := by intro _; first | exact Or.inl rfl | exact Or.inr rfl)
    (hs : ∀ j, swapsWith e (some (.Name x pos')) pos.line (X.at_ j).env = pure false := by intro _; rfl) (hf : FnN X x := by intro _; first | exact .inl rfl | exact .inr rfl) : DS X T W P (.Assign [.Name x pos'] e pos) (sSet i f) := by
  obtain ⟨t, pe, s⟩ := h
  refine ⟨_, fun j => ps_set (hN j) (hi j) (hx j) (pe j) (hs j) (hf j), fun hps σ F H A ρ D a p => s σ F H A ρ _ a ?_⟩
  refine p.out.imp fun b ρ1 F1 H1 A1 g p1 v r => ?_
  obtain ⟨A2, r2, m⟩ := r.store (i := i)
  exact p1.nowN ((Go.refl g.sub).less m) r2 (Keep.set hP)
/-- x op= e, whole numbers -/
def sAug (i : Nat) (g : Int → Int → Int) (f : FO) : FS := fun ρ => match ρ[i]? with
  | some (.dat (.int a)) => (f ρ).out fun p => match rd p.2 p.1 with
    | some (.int b) => .nx (p.2.set i (.dat (.int (g a b))))
    | _ => .stuck
  | _ => .stuck
theorem ds_aug (i : Nat) {x : Str} {op : Operator} {e : Expr} {f : FO} {pos pos' : Pos} {gI : Int → Int → Int} (hp : ∀ j, PIp (X.at_ j) op (ipI gI)) (hN : ∀ j, (X.at_ j).N.Nodup) (hP : i ∉ P) (h : DO X T W e f) (hi : ∀ j, (X.at_ j).N[i]? = some x := by intro _; rfl) (hx : LocN X x := by intro _; first | exact Or.inl rfl | exact Or.inr rfl)
    (hf : FnN X x := by intro _; first | exact .inl rfl | exact .inr rfl) : DS X T W P (.AugAssign (.Name x pos') op e pos) (sAug i gI f) := by
  obtain ⟨t, pe, s⟩ := h
  refine ⟨_, fun j => ps_aug (hN j) (hi j) (hx j) (pe j) (hp j) (hf j), fun hps σ F H A ρ D a p => ?_⟩
  unfold sAug at p
  split at p
  · rename_i n q
    obtain ⟨sv, ft, e1, ⟨_, v, rfl, k⟩, _⟩ := a.rep.get q
    unfold Rp at k
    subst k
    refine ⟨_, e1, s σ F H A ρ _ a ?_⟩
    refine p.out.imp fun o ρ1 F1 H1 A1 g p1 v r o1 => ?_
    simp only at p1
    split at p1
    · rename_i m q1
      refine ⟨n, m, rfl, top_int (rd_top g.sub r o1 q1), ?_⟩
      obtain ⟨A2, r2, mm⟩ := (r.dat (rp_int (i := gI n m))).store (i := i)
      exact p1.nowN ((Go.refl g.sub).less mm) r2 (Keep.set hP)
    · exact p1.elim
  · exact p.elim
/-- does the name own a list -/
def ownL (ρ : Ev) (i : Nat) : Option (List D) := match ρ[i]? with
  | some (.own ds) => some ds
  | _ => none
theorem ownL_some {ρ : Ev} {i : Nat} {ds : List D} (e : ownL ρ i = some ds) : ρ[i]? = some (.own ds) := by
  unfold ownL at e
  split at e
  · rename_i q
    cases e
    exact q
  · cases e
/-- x[j] = e, x an owned list -/
def putL (ds : List D) (d : D) : D → Option (List D)
  | .int k => (ixN ds.length k).map fun j => ds.set j d
  | _ => none
def sPut (i : Nat) (f : FE) (fj : FO) : FS := fun ρ => (cO f ρ).out fun p => (ofO (ownL p.2 i)).out fun _ => (fj p.2).out fun q => (ofO (ownL q.2 i)).out fun ds => (ofO (rd q.2 q.1)).out fun k => match p.1 with
  | .val d => (ofO (putL ds d k)).out fun ds' => .nx (q.2.set i (.own ds'))
  | .var _ => .stuck
@[simp] theorem out_ofO_some {α : Type} (a : α) (f : α → Out) : (ofO (some a) : R α).out f = f a := rfl
@[simp] theorem out_ofO_none {α : Type} (f : α → Out) : (ofO none : R α).out f = .stuck := rfl
/-- an option that must be there -/
theorem PostS.opt {K : PySem.W.Frag} {σ : St} {F H : Hp} {A : List Addr} {α : Type} {o : Option α} {f : α → Out} {E : Ends} (p : PostS K T W P σ F H A ((ofO o).out f) E) : ∃ a, o = some a ∧ PostS K T W P σ F H A (f a) E := by
  cases o with
  | none => exact p.elim
  | some a => exact ⟨a, rfl, p⟩
theorem Post.opt {K : PySem.W.Frag} {σ : St} {F H : Hp} {A : List Addr} {α β : Type} {o : Option α} {f : α → R (β × Ev)} {k : β → Ev → Hp → Hp → List Addr → Prop} (p : Post K T W σ F H A (ofO o >>= f) k) : ∃ a, o = some a ∧ Post K T W σ F H A (f a) k := by
  cases o with
  | none => exact p.elim
  | some a => exact ⟨a, rfl, p⟩
theorem ds_put (i : Nat) {x : Str} {e ej : Expr} {f : FE} {fj : FO} {pos p1 p2 : Pos} (h : DE X T W e f) (hj : DO X T W ej fj) (hN : ∀ j, (X.at_ j).N[i]? = some x := by intro _; rfl) (hv : ∀ j, Vis (X.at_ j).env.scope x := by intro _; first | exact Or.inl rfl | exact Or.inr (Or.inl rfl) | exact Or.inr (Or.inr rfl))
    (hd : (x == ("__debug__" : Str)) = false := by decide) (hcd : (x == ("__classdict__" : Str)) = false := by decide)
    (hs : ∀ j, swapsWithSole [.Subscript (.Name x p1) ej p2] e pos.line (X.at_ j).env = pure false := by intro _; rfl) (hw : ∀ j, swappedStores [.Subscript (.Name x p1) ej p2] e (X.at_ j).env = pure none := by intro _; rfl)
    (h1 : ∀ j, (assignEach [.Subscript (.Name x p1) ej p2] (X.at_ j).env).map (·.2) = [assign (.Subscript (.Name x p1) ej p2) (X.at_ j).env] := by intro _; rfl)
    (ha : ∀ j v, assign (.Subscript (.Name x p1) ej p2) (X.at_ j).env v = (do
      let ov ← holding [v] (eval (.Name x p1) (X.at_ j).env)
      let iv ← holding [v, ov] (eval ej (X.at_ j).env)
      standAt p2
      holding [v, ov, iv] (setItem ov iv v)
      release [v, ov, iv] []) := by intro _ _; rfl) : DS X T W P (.Assign [.Subscript (.Name x p1) ej p2] e pos) (sPut i f fj) := by
  obtain ⟨t, pe, s⟩ := do_e h
  obtain ⟨tj, pj, sj⟩ := hj
  refine ⟨_, fun j => ps_asg (pe j) (pg_sub (pe_var (hN j) (hv j) hd hcd) (pj j) set_list (ha j)) (hs j) (hw j) (h1 j), fun hps σ F H A ρ E a p => s σ F H A ρ _ a ?_⟩
  refine p.out.imp fun o ρ1 F1 H1 A1 g1 p1 v r1 o1 => ?_
  have at1 := a.next g1 r1
  obtain ⟨ds0, e0, p1⟩ := p1.opt
  obtain ⟨l0, _, es, _⟩ := r1.ownAt (ownL_some e0)
  refine ⟨_, es, sj σ F1 H1 A1 ρ1 _ at1 ?_⟩
  refine p1.out.imp fun oj ρ2 F2 H2 A2 g2 p2 vj r2 o2 => ?_
  obtain ⟨ds, e2, p2⟩ := p2.opt
  obtain ⟨k, e3, p2⟩ := p2.opt
  cases o with
  | var _ => exact p2.elim
  | val d =>
    obtain ⟨ds', e4, p2⟩ := p2.opt
    obtain ⟨l, xs, es', lA, el, nl, rl, k2⟩ := r2.ownAt (ownL_some e2)
    rw [es] at es'
    cases es'
    cases k <;> simp only [putL] at e4 <;> first | cases e4 | skip
    rename_i n
    cases q : ixN ds.length n with
    | none =>
      rw [q] at e4
      cases e4
    | some j =>
      rw [q] at e4
      cases e4
      have ev := top_int (rd_top g2.sub r2 o2 e3)
      refine ⟨l0, xs, n, j, rfl, ev, el, by rw [← rl.length]; exact q, ?_⟩
      have od : Rp X.K F2 d v := Rp.mono g2.kF d o1
      exact p2.nowN (Go.write g2.sub lA nl el (fun _ z => by cases z) (fun _ z => by cases z)) (k2 _ _ (rl.set od j)) (Keep.refl P σ)
/-! ## a method that changes what a name owns -/
/-- x.m(args) -/
def cMut (i : Nat) (g : List D → List D → Option (D × List D)) (f : FA) : FE := fun ρ => ofO (ownL ρ i) >>= fun _ => f ρ >>= fun p => ofO (ownL p.2 i) >>= fun ds => ofO (rds p.2 p.1) >>= fun as => ofO (g ds as) >>= fun q => .ok (.dat q.1, p.2.set i (.own q.2))
/-- the rule of a method r is that g -/
def VM (K : PySem.W.Frag) (r : V → List V → Hp → VK → Prop) (g : List D → List D → Option (D × List D)) : Prop :=
  ∀ F H ds xs l as vs d ds' (Q : VK), Sub F H → H l = some (.lst xs) → RpL K F ds xs → Paired (RpTop K F H) as vs → g ds as = some (d, ds') → (∀ v xs', Rp K F d v → RpL K F ds' xs' → Q v (upd H l (.lst xs'))) → r (.ref l) vs H Q
theorem runMut {r : V → List V → Hp → VK → Prop} {g : List D → List D → Option (D × List D)} (hv : VM X.K r g) {i : Nat} {t : TA} {f : FA} {σ : St} {F H : Hp} {A : List Addr} {ρ : Ev} {Q : VK}
    (s : ∀ σ F H A ρ Q, At X T F H ρ σ A → Post X.K T W σ F H A (f ρ) (fun os ρ' F' H' A' => ∀ vs, RepS X.K F' H' ρ' σ A' → Paired (OpdR X.K F' σ) os vs → Q vs H') → t σ H Q)
    (a : At X T F H ρ σ A) (p : Post X.K T W σ F H A (cMut i g f ρ) (fun b ρ' F' H' A' => ∀ v, RepS X.K F' H' (b :: ρ') (some v :: σ) A' → Q v H')) : tBM X.K "list" r (tVar i) t σ H Q := by
  obtain ⟨ds0, e0, p⟩ := p.opt
  obtain ⟨l0, xs0, es, _, el0, _⟩ := a.rep.ownAt (ownL_some e0)
  refine ⟨_, es, .inl ⟨rfl, _, SqL.of el0⟩, s σ F H A ρ _ a ?_⟩
  refine p.bind.imp fun os ρ1 F1 H1 A1 g1 p1 vs r1 o1 => ?_
  obtain ⟨ds, e1, p1⟩ := p1.opt
  obtain ⟨as, e2, p1⟩ := p1.opt
  obtain ⟨⟨d, ds'⟩, e3, p1⟩ := p1.opt
  obtain ⟨l, xs, es', lA, el, nl, rl, k⟩ := r1.ownAt (ownL_some e1)
  rw [es] at es'
  cases es'
  refine hv F1 H1 ds xs l0 as vs d ds' Q g1.sub el rl (rds_top g1.sub r1 o1 e2) e3 fun v xs' rv rl' => ?_
  have gw : Go T A1 F1 H1 A1 F1 (upd H1 l0 (.lst xs')) := Go.write g1.sub lA nl el (fun _ z => by cases z) (fun _ z => by cases z)
  exact p1.now gw v ((k _ _ rl').dat rv)
theorem de_mut (i : Nat) {x name : Str} {id : String} {r : V → List V → Hp → VK → Prop} {g : List D → List D → Option (D × List D)} {e : Expr} {es : List Expr} {f : FA} {p0 apos cpos : Pos} (slot : Slot "list" name id) (hty : typeOf (.builtin id) = pure (.type "method_descriptor")) (hm : ∀ j, MtR (X.at_ j) id r) (hv : VM X.K r g)
    (h : DA X T W (e :: es) f) (hN : ∀ j, (X.at_ j).N[i]? = some x := by intro _; rfl) (hvis : ∀ j, Vis (X.at_ j).env.scope x := by intro _; first | exact Or.inl rfl | exact Or.inr (Or.inl rfl) | exact Or.inr (Or.inr rfl))
    (hd : (x == ("__debug__" : Str)) = false := by decide) (hcd : (x == ("__classdict__" : Str)) = false := by decide)
    (hbase : ∀ j, attributeBase (.Name x p0) name (X.at_ j).env (eval (.Name x p0) (X.at_ j).env) = eval (.Name x p0) (X.at_ j).env := by intro _; rfl)
    (hfew : ∀ j, ((backTo cpos (starEach (e :: es) (X.at_ j).env)).all (fun x => !x.1) && (backToKw cpos (keywordEach [] (X.at_ j).env)).all (fun x => x.1.isSome)
      && decide ((e :: es).length + ([] : List Keyword).length + (if ([] : List Keyword).isEmpty then 0 else 1) < 30)) = true := by intro _; rfl)
    (hline : (apos.endLine == cpos.line) = true := by rfl) (hs : ∀ j, starEach (e :: es) (X.at_ j).env = (false, eval e (X.at_ j).env) :: starEach es (X.at_ j).env := by intro _; rfl) (hplain : ∀ j, (backTo cpos (starEach es (X.at_ j).env)).any (·.1) = false := by intro _; rfl) :
    DE X T W (.Call (.Attribute (.Name x p0) name apos) (e :: es) [] cpos) (cMut i g f) := by
  obtain ⟨t, pa, s⟩ := h
  refine ⟨_, fun j => ?_, fun σ F H A ρ Q a p => runMut hv s a p⟩
  rw [← X.hK j]
  exact pe_bm PySem.F.plainAttrs_list slot hty (hm j) (pe_var (hN j) (hvis j) hd hcd) (pa j) (hbase j) (hfew j) hline (hs j) (hplain j)
theorem runMut0 {r : V → List V → Hp → VK → Prop} {g : List D → List D → Option (D × List D)} (hv : VM X.K r g) {i : Nat} {σ : St} {F H : Hp} {A : List Addr} {ρ : Ev} {Q : VK}
    (a : At X T F H ρ σ A) (p : Post X.K T W σ F H A (cMut i g aNil ρ) (fun b ρ' F' H' A' => ∀ v, RepS X.K F' H' (b :: ρ') (some v :: σ) A' → Q v H')) : tBM0 X.K "list" r (tVar i) σ H Q := by
  obtain ⟨ds, e0, p⟩ := p.opt
  obtain ⟨l0, xs0, es, lA, el0, nl, rl, k⟩ := a.rep.ownAt (ownL_some e0)
  refine ⟨_, es, .inl ⟨rfl, _, SqL.of el0⟩, ?_⟩
  change Post _ _ _ _ _ _ _ (ofO (ownL ρ i) >>= fun ds => ofO (rds ρ []) >>= fun as => ofO (g ds as) >>= fun q => R.ok (B.dat q.1, ρ.set i (.own q.2))) _ at p
  obtain ⟨ds1, e1, p⟩ := p.opt
  rw [e0] at e1
  cases e1
  obtain ⟨as, e2, p1⟩ := p.opt
  obtain ⟨⟨d, ds'⟩, e3, p2⟩ := p1.opt
  clear p1
  cases (show some [] = some as from e2)
  refine hv F H ds xs0 l0 [] [] d ds' Q a.sub el0 rl .nil e3 fun v xs' rv rl' => ?_
  have gw : Go T A F H A F (upd H l0 (.lst xs')) := Go.write a.sub lA nl el0 (fun _ z => by cases z) (fun _ z => by cases z)
  exact p2.now gw v ((k _ _ rl').dat rv)
theorem de_mut0 (i : Nat) {x name : Str} {id : String} {r : V → List V → Hp → VK → Prop} {g : List D → List D → Option (D × List D)} {p0 apos cpos : Pos} (slot : Slot "list" name id) (hty : typeOf (.builtin id) = pure (.type "method_descriptor")) (hm : ∀ j, MtR (X.at_ j) id r) (hv : VM X.K r g)
    (hN : ∀ j, (X.at_ j).N[i]? = some x := by intro _; rfl) (hvis : ∀ j, Vis (X.at_ j).env.scope x := by intro _; first | exact Or.inl rfl | exact Or.inr (Or.inl rfl) | exact Or.inr (Or.inr rfl))
    (hd : (x == ("__debug__" : Str)) = false := by decide) (hcd : (x == ("__classdict__" : Str)) = false := by decide)
    (hbase : ∀ j, attributeBase (.Name x p0) name (X.at_ j).env (eval (.Name x p0) (X.at_ j).env) = eval (.Name x p0) (X.at_ j).env := by intro _; rfl) (hline : (apos.endLine == cpos.line) = true := by rfl) :
    DE X T W (.Call (.Attribute (.Name x p0) name apos) [] [] cpos) (cMut i g aNil) := by
  refine ⟨_, fun j => ?_, fun σ F H A ρ Q a p => runMut0 hv a p⟩
  rw [← X.hK j]
  exact pe_bm0 PySem.F.plainAttrs_list slot hty (hm j) (pe_var (hN j) (hvis j) hd hcd) (hbase j) hline
/-! the methods -/
theorem Paired.one {α β : Type} {F : α → β → Prop} {a : α} {vs : List β} (h : Paired F [a] vs) : ∃ v, vs = [v] ∧ F a v := by
  cases h with
  | cons h1 h2 =>
    cases h2
    exact ⟨_, rfl, h1⟩
theorem Paired.two {α β : Type} {F : α → β → Prop} {a b : α} {vs : List β} (h : Paired F [a, b] vs) : ∃ v w, vs = [v, w] ∧ F a v ∧ F b w := by
  cases h with
  | cons h1 h2 =>
    obtain ⟨w, rfl, h3⟩ := Paired.one h2
    exact ⟨_, w, rfl, h1, h3⟩
/-- a datum that is frozen through and through (an owned list may not be put into another one) -/
def gAppend : List D → List D → Option (D × List D)
  | ds, [d] => if ds.length < sizeLine then some (.non, ds ++ [d]) else none
  | _, _ => none
end
section
variable {K : PySem.W.Frag}
def gClear : List D → List D → Option (D × List D)
  | _, [] => some (.non, [])
  | _, _ => none
theorem vm_clear : VM K rClear gClear := by
  intro F H ds xs l as vs d ds' Q s el rl pa e k
  unfold gClear at e
  split at e
  · cases e
    cases pa
    exact ⟨l, xs, rfl, rfl, el, k _ _ rp_non .nil⟩
  · cases e
def gReverse : List D → List D → Option (D × List D)
  | ds, [] => some (.non, ds.reverse)
  | _, _ => none
theorem vm_reverse : VM K rReverse gReverse := by
  intro F H ds xs l as vs d ds' Q s el rl pa e k
  unfold gReverse at e
  split at e
  · cases e
    cases pa
    exact ⟨l, xs, rfl, rfl, el, k _ _ rp_non rl.reverse⟩
  · cases e
def gPop : List D → List D → Option (D × List D)
  | ds, [] => match ds[ds.length - 1]? with
    | some d => some (d, ds.dropLast)
    | none => none
  | ds, [.int i] => if -(2 ^ 63) ≤ i ∧ i < 2 ^ 63 then match seqIndex? i ds.length with
    | some k => match ds[k]? with
      | some d => some (d, ds.eraseIdx k)
      | none => none
    | none => none
    else none
  | _, _ => none
theorem vm_pop : VM K (fun x xs H Q => rPop x xs H Q ∨ rPopAt x xs H Q) gPop := by
  intro F H ds xs l as vs d ds' Q s el rl pa e k
  unfold gPop at e
  split at e
  · cases pa
    split at e
    · rename_i q
      cases e
      obtain ⟨v, e1, e2⟩ := rl.get q
      exact .inl ⟨l, xs, v, rfl, rfl, el, by rw [← rl.length]; exact e1, k _ _ e2 rl.dropLast⟩
    · cases e
  · obtain ⟨v, rfl, hv⟩ := Paired.one pa
    split at e
    · rename_i c
      split at e
      · rename_i j q
        split at e
        · rename_i q2
          cases e
          obtain ⟨w, e1, e2⟩ := rl.get q2
          exact .inr ⟨l, xs, _, j, w, rfl, by rw [top_int hv], el, c.1, c.2, by rw [← rl.length]; exact q, e1, k _ _ e2 (rl.eraseIdx j)⟩
        · cases e
      · cases e
    · cases e
  · cases e
def gExtend : List D → List D → Option (D × List D)
  | ds, [.lst es] => if ds.length + es.length ≤ sizeLine then some (.non, ds ++ es) else none
  | _, _ => none
theorem vm_extend : VM K rExtend gExtend := by
  intro F H ds xs l as vs d ds' Q s el rl pa e k
  unfold gExtend at e
  split at e
  · obtain ⟨v, rfl, hv⟩ := Paired.one pa
    split at e
    · rename_i c
      cases e
      obtain ⟨b, zs, rfl, eb, rb⟩ := top_lst hv
      exact ⟨l, b, xs, zs, rfl, rfl, el, eb, by rw [← rl.length, ← rb.length]; exact c, k _ _ rp_non (rl.append rb)⟩
    · cases e
  · cases e
end
section
variable {X : Fam} {T : List (Addr × Str)} {W : WX} {P : List Nat}
/-- x.append(e): what is put in is given up -/
def cAppend (i : Nat) (f : FE) : FE := fun ρ => ofO (ownL ρ i) >>= fun _ => cD f ρ >>= fun p => ofO (frz p.1) >>= fun d => ofO (ownL p.2 i) >>= fun ds => if ds.length < sizeLine then .ok (.dat .non, p.2.set i (.own (ds ++ [d]))) else .stuck
theorem de_append (i : Nat) {x : Str} {e : Expr} {f : FE} {p0 apos cpos : Pos}
    (h : DE X T W e f) (hN : ∀ j, (X.at_ j).N[i]? = some x := by intro _; rfl) (hvis : ∀ j, Vis (X.at_ j).env.scope x := by intro _; first | exact Or.inl rfl | exact Or.inr (Or.inl rfl) | exact Or.inr (Or.inr rfl))
    (hd : (x == ("__debug__" : Str)) = false := by decide) (hcd : (x == ("__classdict__" : Str)) = false := by decide)
    (hbase : ∀ j, attributeBase (.Name x p0) "append" (X.at_ j).env (eval (.Name x p0) (X.at_ j).env) = eval (.Name x p0) (X.at_ j).env := by intro _; rfl)
    (hfew : ∀ j, ((backTo cpos (starEach [e] (X.at_ j).env)).all (fun x => !x.1) && (backToKw cpos (keywordEach [] (X.at_ j).env)).all (fun x => x.1.isSome)
      && decide ([e].length + ([] : List Keyword).length + (if ([] : List Keyword).isEmpty then 0 else 1) < 30)) = true := by intro _; rfl)
    (hline : (apos.endLine == cpos.line) = true := by rfl) (hs : ∀ j, starEach [e] (X.at_ j).env = (false, eval e (X.at_ j).env) :: starEach [] (X.at_ j).env := by intro _; rfl) (hplain : ∀ j, (backTo cpos (starEach [] (X.at_ j).env)).any (·.1) = false := by intro _; rfl) :
    DE X T W (.Call (.Attribute (.Name x p0) "append" apos) [e] [] cpos) (cAppend i f) := by
  obtain ⟨t, pe, s⟩ := de_d h
  refine ⟨tBM X.K "list" rAppend (tVar i) (tCons t tNil), fun j => ?_, fun σ F H A ρ Q a p => ?_⟩
  · rw [← X.hK j]
    exact pe_bm PySem.F.plainAttrs_list PySem.F.slot_list_append PySem.F.type_list_append mt_append (pe_var (hN j) (hvis j) hd hcd) (pa_cons (pe j) pa_nil (hs j)) (hbase j) (hfew j) hline (hs j) (hplain j)
  · obtain ⟨ds0, e0, p⟩ := p.opt
    obtain ⟨l0, xs0, es, _, el0, _⟩ := a.rep.ownAt (ownL_some e0)
    refine ⟨_, es, .inl ⟨rfl, _, SqL.of el0⟩, s σ F H A ρ _ a ?_⟩
    refine p.bind.imp fun b ρ1 F1 H1 A1 g1 p1 v r1 => ?_
    obtain ⟨d, e2, p1⟩ := p1.opt
    obtain ⟨ds, e1, p1⟩ := p1.opt
    obtain ⟨v', F2, A2, e4, g2, r2, z⟩ := freeze (T := T) r1 g1.sub e2
    cases e4
    obtain ⟨l, xs, es', lA, el, nl, rl, k⟩ := r2.ownAt (ownL_some e1)
    rw [es] at es'
    cases es'
    split at p1
    · rename_i c
      refine ⟨l0, xs, v, rfl, rfl, el, by rw [← rl.length]; exact c, ?_⟩
      have gw : Go T A2 F2 H1 A2 F2 (upd H1 l0 (.lst (xs ++ [v]))) := Go.write g2.sub lA nl el (fun _ z => by cases z) (fun _ z => by cases z)
      exact p1.now (g2.trans gw) .non ((k _ _ (rl.append (.cons z .nil))).dat rp_non)
    · exact p1.elim
end
end Dl

set_option Elab.async false
set_option linter.all false
set_option maxRecDepth 100000
/-! enumerate over a tuple -/
namespace DlE
open PySem PySem.Spec PyProof.Rows
open Sem (wp)
open AutoSeq1 (wpAny_loadPart')
set_option maxHeartbeats 1000000 in
theorem meets_newT (l : Addr) (items : Array Value) (n : Nat) (dct : Option Addr) (sl : Array (Option Value)) :
    Meets (Builtin.«enumerate.__new__» ⟨[.type "enumerate", .ref l], []⟩) (fun _ R s => s.heap.get? l = some { cls := .type "tuple", dict := dct, data := .seq items n, slots := sl } ∧
      R (.ok (.ret (.ref (s.heap.push { cls := .type "tuple_iterator", data := .fields #[.ref l, .int 0 0] }).objs.size)))
        { s with heap := (s.heap.push { cls := .type "tuple_iterator", data := .fields #[.ref l, .int 0 0] }).push { cls := .type "enumerate", data := .fields #[.none, .bool false, .ref s.heap.objs.size, rawInt 0, .none, .none] } }) :=
  .of_wp fun prog w A R s h => by
    obtain ⟨hp, g, d, tk, os⟩ := s; obtain ⟨hl, h⟩ := h
    have hsub := sub_enumerate
    have hL : Heap.IsTuple (Shared.heap ⟨hp, g, d, tk, os⟩) l items := ⟨_, hl, rfl, n, rfl⟩
    wp_walk using wpAny_loadPart' hl
    refine wpAny_stack_any fun st => wpAny_pure ?_
    split
    · rename_i c _ _ _ _ _
      cases (c == Value.type "enumerate")
      · wp_walk using wpAny_loadPart' hl, wpAny_pyIter_tuple hL
        exact ⟨_, rfl, h⟩
      · wp_walk using wpAny_loadPart' hl, wpAny_pyIter_tuple hL
        exact ⟨_, rfl, h⟩
    · wp_walk using wpAny_loadPart' hl, wpAny_pyIter_tuple hL
      exact ⟨_, rfl, h⟩
section
variable {prog : Program} {w : World} {A : Around} {E : Value → Shared → Prop} {s : Shared}
theorem call_enumT {l : Addr} {items : Array Value} {Q : Value → Shared → Prop} (hL : s.heap.IsTuple l items)
    (h : ∀ h', IsEnum h' (s.heap.objs.size + 1) s.heap.objs.size 0 .none → h'.IsTupleIter s.heap.objs.size l 0 → h'.objs.size = s.heap.objs.size + 2 →
      (∀ b o, s.heap.get? b = some o → h'.get? b = some o) → Q (.ref (s.heap.objs.size + 1)) { s with heap := h' }) :
    wpAny (model prog w) A (call (.type "enumerate") [.ref l]) Q E s := by
  obtain ⟨⟨c, dct, dt, sl⟩, hl, hc, n, hd⟩ := hL
  replace hc : c = .type "tuple" := hc
  replace hd : dt = .seq items n := hd
  subst hc hd
  refine callType_new F.called_enumerate (by decide) (F.typeCall_enumerate_1 _) (F.newCall_enumerate_1 _) (fun obj => F.args_object_init_2 obj _) F.entry_enumerate_new
    (meets_newT l items n dct sl) ⟨hl, ?_⟩
  have hz : (s.heap.push { cls := .type "tuple_iterator", data := .fields #[.ref l, .int 0 0] }).objs.size = s.heap.objs.size + 1 := Heap.size_push ..
  show _ ∧ _
  rw [hz]
  have he : IsEnum ((s.heap.push { cls := .type "tuple_iterator", data := .fields #[.ref l, .int 0 0] }).push
      { cls := .type "enumerate", data := .fields #[.none, .bool false, .ref s.heap.objs.size, rawInt 0, .none, .none] }) (s.heap.objs.size + 1) s.heap.objs.size 0 .none := by
    have := Heap.get?_push_size (s.heap.push { cls := .type "tuple_iterator", data := .fields #[.ref l, .int 0 0] })
      (o := { cls := .type "enumerate", data := .fields #[.none, .bool false, .ref s.heap.objs.size, rawInt 0, .none, .none] }) rfl
    rw [hz] at this; exact this
  refine ⟨⟨_, he, rfl⟩, h _ he ⟨_, Heap.get?_push_of_some _ (Heap.get?_push_size _ rfl), rfl, rfl⟩ (by rw [Heap.size_push, hz]) fun b o x => Heap.get?_push_of_some _ (Heap.get?_push_of_some _ x)⟩
end
end DlE
namespace L2
open PySem PySem.Spec PyProof.Rows
/-- enumerate(tuple): each item in a new pair -/
def IteT (K : PySem.W.Frag) (a : Addr) : It :=
  ⟨fun i H => ∃ (xs : List V) (x : V), SqT K H a xs ∧ xs[i]? = some x, fun i H v H' => ∃ T x, v = .ref T ∧ H T = none ∧ H' = upd H T (.tup [.int (i : Nat), x]) ∧ ∀ xs, SqT K H a xs → xs[i]? = some x, fun i H => ∃ xs : List V, SqT K H a xs ∧ xs.length ≤ i⟩
theorem turn_enumT {P : Program} {w : World} {K : PySem.W.Frag} {elts : List Expr} {kk : Nat} {tpos : Pos} (a e it : Addr) :
    Turn P w K (.Tuple elts kk tpos) (IteT K a) [e, it] e (fun i h => (∃ old, IsEnum h e it ((i : Nat) : Int) old) ∧ h.IsTupleIter it a i ∧ e ≠ it ∧ e ≠ a ∧ a ≠ it) where
  mem := by simp
  obj := fun i h st b hb => by
    obtain ⟨⟨old, he⟩, ⟨o, ho, hc, hd⟩, _⟩ := st
    have e' : b = e ∨ b = it := by simpa using hb
    rcases e' with z | z
    · rw [z]; exact ⟨_, he, fun v q => nomatch q⟩
    · rw [z]; exact ⟨o, ho, fun v q => by rw [hd] at q; cases q⟩
  keep := fun i h h' st k => let ⟨⟨old, he⟩, hi, hne⟩ := st; ⟨⟨old, k e (by simp) _ he⟩, hi.at fun o q => k it (by simp) o q, hne⟩
  item := by
    intro X hP hw hK hc i pins s σ H E I hf st hg
    subst hP hw hK
    obtain ⟨⟨old, he⟩, hit, hne, hea, hai⟩ := st
    obtain ⟨xs, x, hq, hx⟩ := hg
    obtain ⟨its, rv, p, hz⟩ := I.tuple hq
    obtain ⟨u, hu, ru⟩ := rv.get hx
    have hel : e < s.heap.objs.size := Heap.lt_size he
    have hil : it < s.heap.objs.size := by obtain ⟨_, q, _⟩ := hit; exact Heap.lt_size q
    have hlen : i < its.toArray.size := by
      have q := (List.getElem?_eq_some_iff.mp hu).1
      simpa using q
    refine wpAny_pyNext_enum_itemD (Draws.tuple (prog := X.prog) (w := X.w) (A := X.A.in1) (I.ok.hd hc) it a hai its.toArray) he ⟨hit, show s.heap.IsTuple a its.toArray from p⟩ hlen hne (by simp [hne, hea]) fun u' h' tk hu' ho st' hT hsz hk => ?_
    obtain ⟨hit', _⟩ := st'
    have eu : u' = u := by
      have q : its[i]? = some u' := by simpa using hu'
      rw [hu] at q
      exact (Option.some.inj q).symm
    subst eu
    refine ⟨_, rfl, wpAny_letOwnedTupleGo_enum (s := { s with heap := h', toks := tk + 1 }) ho fun h'' he' sb => ?_⟩
    have hT2 : h''.get? s.heap.objs.size = some { cls := .type "tuple", data := .seq #[.int i tk, u'] } := (sb.2 _ (Nat.ne_of_gt hel)).trans hT
    have new : ObjOk X.prog X.w (upd H s.heap.objs.size (.tup [.int (i : Nat), x])) h'' s.heap.objs.size (.tup [.int (i : Nat), x]) :=
      ⟨by show 2 ≤ sizeLine; decide, [.int i tk, u'], .cons ⟨_, rfl⟩ (.cons ru .nil), ⟨_, hT2, rfl, _, rfl⟩⟩
    have I1 : Inv X pins σ (upd H s.heap.objs.size (.tup [.int (i : Nat), x])) { s with heap := h'', toks := tk + 1 } :=
      I.turnedNew (ch := [e, it]) (fun b ob hb q => (sb.2 b (fun z => hb (by simp [z]))).trans (hk b ob (fun z => hb (by simp [z])) (fun z => hb (by simp [z])) q)) hf (Nat.le_refl _) new
    refine ⟨.ref s.heap.objs.size, _, I1, rfl, ⟨_, x, rfl, I.hok.fresh (Nat.le_refl _), rfl, fun ys hy => by rw [I.tuple_inj hy hq]; exact hx⟩, ⟨⟨u', ?_⟩, hit'.at fun o q => (sb.2 it (Ne.symm hne)).trans q, hne, hea, hai⟩, fun b hb => ?_⟩
    · have e1 : ((i + 1 : Nat) : Int) = (i : Int) + 1 := by omega
      rw [e1]; exact he'
    · have hb' : b < s.heap.objs.size := by
        have e' : b = e ∨ b = it := by simpa using hb
        rcases e' with z | z
        · rw [z]; exact hel
        · rw [z]; exact hil
      rw [upd_ne (Nat.ne_of_lt hb')]
      exact (hf b hb).1
  done := by
    intro X hP hw hK hc i pins s σ H E I hf st hg
    subst hP hw hK
    obtain ⟨⟨old, he⟩, hit, hne, hea, hai⟩ := st
    obtain ⟨xs, hq, hx⟩ := hg
    obtain ⟨its, rv, p, hz⟩ := I.tuple hq
    obtain ⟨f0, f1, f2, f3, f4, f5⟩ := hf it (by simp)
    have hl := rv.length
    have D := Draws.tuple (prog := X.prog) (w := X.w) (A := X.A.in1) (I.ok.hd hc) it a hai its.toArray
    have hT : s.TypeIs (.ref e) "enumerate" := ⟨_, he, rfl⟩
    unfold pyNext
    refine wpAny_bind (wpAny_attempt (wpAny_callSpecial?_slot (name := Str.ofString "__next__") hT F.slot_enumerate_next
      (wpAny_call_entry F.slot_enumerate_next hT F.entry_enumerate_next ?_ (F.args_enumerate_next_1 _))))
    show wpAny _ _ (field (.ref e) 2 >>= _) _ _ _
    refine wpAny_bind (wpAny_field he rfl (x := .ref it) rfl ?_)
    refine wpAny_bind (wpAny_nextOf_tuple_end (I.ok.hd hc) hit (show s.heap.IsTuple a its.toArray from p) (by simp; omega) fun h' x he' hx' => ?_)
    obtain ⟨o, ho, hcl⟩ := hx'
    refine wpAny_bind (wpAny_isInstance (T := "StopIteration") (b := true) ⟨o, ho, hcl⟩ isSubtype_stop ?_)
    exact wpAny_pure ⟨rfl, I.turned (t' := s.toks) (fun b o hb q => he' b o hb q) f0 f1 f3 f4 f5⟩
  self := fun A i s Q E st h => let ⟨⟨_, he⟩, _⟩ := st; wpAny_pyIter_enum he h
/-- over a list or a tuple -/
def iEnumX (K : PySem.W.Frag) (ta : TA) : TI := fun σ H R => ta σ H fun vs H1 => ∃ a xs, vs = [.ref a] ∧ ((SqL K H1 a xs ∧ R (Ite K a) H1) ∨ (SqT K H1 a xs ∧ R (IteT K a) H1))
theorem pi_enumX {X : Cx} {e : Expr} {ta : TA} {p pos tpos : Pos} {elts : List Expr} {kk : Nat} (hg : Gl X "enumerate") (hm : X.mg "enumerate" = none) (ha : PA X [e] ta) (hs : starEach [e] X.env = [(false, eval e X.env)] := by rfl) :
    PI X (.Tuple elts kk tpos) (.Call (.Name "enumerate" p) [e] [] pos) (iEnumX X.K ta) := by
  refine ⟨fun pins s σ H R I h => ?_⟩
  refine Call_ (ld_blt I hg hm boot_enumerate (PyProof.Rows.callWith_type1 (thn (ha.run pos pins s σ H _ I h) fun us s1 ⟨vs, H1, I1, r1, q1⟩ => ?_) hs rfl))
  obtain ⟨a, xs, ex, q⟩ := q1
  subst ex
  cases r1 with
  | cons r rr =>
    cases rr
    cases r
    rcases q with ⟨hq, q⟩ | ⟨hq, q⟩
    · obtain ⟨its, rv, p', hz⟩ := I1.list hq
      refine call_enumerate_list p'.isList fun h' he hit hsz hk => wpAny_pyIter_enum he ?_
      have I2 : Inv X pins σ H1 { s1 with heap := h' } := I1.kept (t' := s1.toks) hk
      refine ⟨s1.heap.objs.size + 1, [s1.heap.objs.size + 1, s1.heap.objs.size], _, _, H1, rfl, I2, turn_enum a (s1.heap.objs.size + 1) s1.heap.objs.size, ⟨⟨.none, he⟩, hit, Nat.succ_ne_self _⟩, fun b hb => ?_, q⟩
      have e' : b = s1.heap.objs.size + 1 ∨ b = s1.heap.objs.size := by simpa using hb
      have hle : s1.heap.objs.size ≤ b := by
        rcases e' with z | z
        · rw [z]; exact Nat.le_add_right _ _
        · rw [z]; exact Nat.le_refl _
      exact I1.fpOk hle (I1.hok.fresh hle)
    · obtain ⟨its, rv, p', hz⟩ := I1.tuple hq
      have la : a < s1.heap.objs.size := p'.lt
      refine DlE.call_enumT (show s1.heap.IsTuple a its.toArray from p') fun h' he hit hsz hk => wpAny_pyIter_enum he ?_
      have I2 : Inv X pins σ H1 { s1 with heap := h' } := I1.kept (t' := s1.toks) hk
      refine ⟨s1.heap.objs.size + 1, [s1.heap.objs.size + 1, s1.heap.objs.size], _, _, H1, rfl, I2, turn_enumT a (s1.heap.objs.size + 1) s1.heap.objs.size, ⟨⟨.none, he⟩, hit, Nat.succ_ne_self _, Nat.ne_of_gt (Nat.lt_succ_of_lt la), Nat.ne_of_lt la⟩, fun b hb => ?_, q⟩
      have e' : b = s1.heap.objs.size + 1 ∨ b = s1.heap.objs.size := by simpa using hb
      have hle : s1.heap.objs.size ≤ b := by
        rcases e' with z | z
        · rw [z]; exact Nat.le_add_right _ _
        · rw [z]; exact Nat.le_refl _
      exact I1.fpOk hle (I1.hok.fresh hle)
end L2

set_option Elab.async false
set_option linter.all false
set_option maxRecDepth 100000
namespace Dl
open PySem PySem.Spec L2
open PyProof.Rows hiding St

/-! ## targets -/
abbrev Pat := D → Ev → Option Ev
/-- the slots but those at ws stay -/
def Kept (ws : List Nat) (σ σ' : St) : Prop := σ'.length = σ.length ∧ ∀ j, j ∉ ws → σ'[j]? = σ[j]?
theorem Kept.keep {ws P : List Nat} {σ σ' : St} (h : Kept ws σ σ') (d : ∀ i ∈ ws, i ∉ P) : Keep P σ σ' := fun j m => h.2 j fun z => d j z m
section
variable {X : Fam} {T : List (Addr × Str)} {W : WX} {P : List Nat}
/-- the pattern's outcome in the frame -/
def PatOk (K : PySem.W.Frag) (ws : List Nat) (p : D → Ev → Option Ev) (g : TG) : Prop := ∀ σ F H A ρ d v ρ' (Q : St → Hp → Prop), Sub F H → RepS K F H ρ σ A → Rp K F d v → p d ρ = some ρ' →
  (∀ σ' A', RepS K F H ρ' σ' A' → Kept ws σ σ' → (∀ a ∈ A', a ∈ A) → Q σ' H) → g v σ H Q
def DG (X : Fam) (ws : List Nat) (tg : Expr) (p : Pat) : Prop := ∃ g, (∀ i, PG (X.at_ i) tg g) ∧ PatOk X.K ws p g
def pName (i : Nat) : Pat := fun d ρ => some (ρ.set i (.dat d))
theorem dg_name (i : Nat) {x : Str} {pos : Pos} (hN : ∀ j, (X.at_ j).N.Nodup) (hi : ∀ j, (X.at_ j).N[i]? = some x := by intro _; rfl) (hx : LocN X x := by intro _; first | exact Or.inl rfl | exact Or.inr rfl) (hf : FnN X x := by intro _; first | exact .inl rfl | exact .inr rfl) : DG X [i] (.Name x pos) (pName i) := by
  refine ⟨_, fun j => pg_name (hN j) (hi j) (hx j) (hf j), fun σ F H A ρ d v ρ' Q s r h e k => ?_⟩
  cases e
  obtain ⟨A2, r2, m⟩ := (r.dat h).store (i := i)
  exact k _ A2 r2 ⟨List.length_set, fun j hj => List.getElem?_set_ne (fun z => hj (by rw [z]; exact List.mem_singleton_self _))⟩ m
/-- several in a row -/
def pList : List Pat → List D → Ev → Option Ev
  | [], [], ρ => some ρ
  | p :: ps, d :: ds, ρ => (p d ρ).bind fun ρ1 => pList ps ds ρ1
  | _, _, _ => none
def PatsOk (K : PySem.W.Frag) (ws : List Nat) (p : List D → Ev → Option Ev) (g : TGs) : Prop := ∀ σ F H A ρ ds vs ρ' (Q : St → Hp → Prop), Sub F H → RepS K F H ρ σ A → RpL K F ds vs → p ds ρ = some ρ' →
  (∀ σ' A', RepS K F H ρ' σ' A' → Kept ws σ σ' → (∀ a ∈ A', a ∈ A) → Q σ' H) → g vs σ H Q
def DGs (X : Fam) (ws : List Nat) (tgs : List Expr) (ps : List Pat) : Prop := ∃ g, (∀ i, PGs (X.at_ i) tgs g) ∧ PatsOk X.K ws (pList ps) g
theorem dgs_nil : DGs X [] [] [] := by
  refine ⟨_, fun _ => pgs_nil, fun σ F H A ρ ds vs ρ' Q s r h e k => ?_⟩
  cases ds with
  | nil =>
    cases e
    exact ⟨h.inv0, k σ A r ⟨rfl, fun _ _ => rfl⟩ fun _ m => m⟩
  | cons _ _ => cases e
theorem dgs_cons {e : Expr} {es : List Expr} {p : Pat} {ps : List Pat} {ws us : List Nat} (h : DG X ws e p) (t : DGs X us es ps) (hs : ∀ j, (assignEach (e :: es) (X.at_ j).env).map (·.2) = assign e (X.at_ j).env :: (assignEach es (X.at_ j).env).map (·.2) := by intro _; rfl) : DGs X (ws ++ us) (e :: es) (p :: ps) := by
  obtain ⟨g, pg, s1⟩ := h
  obtain ⟨gs, pgs, s2⟩ := t
  refine ⟨_, fun j => pgs_cons (pg j) (pgs j) (hs j), fun σ F H A ρ ds vs ρ' Q s r h e k => ?_⟩
  cases ds with
  | nil => cases e
  | cons d ds =>
    obtain ⟨v, ws, rfl, h1, h2⟩ := h.inv
    unfold pList at e
    cases q : p d ρ with
    | none =>
      rw [q] at e
      cases e
    | some ρ1 =>
      rw [q] at e
      refine ⟨v, ws, rfl, s1 σ F H A ρ d v ρ1 _ s r h1 q fun σ1 A1 r1 k1 m1 => ?_⟩
      refine s2 σ1 F H A1 ρ1 ds ws ρ' Q s r1 h2 e fun σ2 A2 r2 k2 m2 => k σ2 A2 r2 ⟨k2.1.trans k1.1, fun j hj => ?_⟩ fun a z => m1 a (m2 a z)
      rw [List.mem_append, not_or] at hj
      exact (k2.2 j hj.2).trans (k1.2 j hj.1)
def pTup (ps : List Pat) : Pat := fun d ρ => match d with
  | .tup ds => if ds.length = ps.length then pList ps ds ρ else none
  | .lst ds => if ds.length = ps.length then pList ps ds ρ else none
  | _ => none
/-- a, b = a tuple or a list -/
theorem pg_seq {X : Cx} {es : List Expr} {k : Nat} {t : TGs} {n : Nat} {pos : Pos} (hc : X.calm = true) (h : PGs X es t)
    (hn : (assignEach es X.env).length = n) (hst : (assignEach es X.env).findIdx? (·.1) = none) : PG X (.Tuple es k pos) (fun v σ H Q => gTup X.K n t v σ H Q ∨ gLst X.K n t v σ H Q) := by
  refine ⟨fun pins s σ H v u Q I r hw => ?_⟩
  rcases hw with hw | hw
  · exact (pg_tup hc h hn hst).run pins s σ H v u Q I r hw
  · exact (pg_lst hc h hn hst).run pins s σ H v u Q I r hw
theorem dg_tup {es : List Expr} {ps : List Pat} {ws : List Nat} {k : Nat} {pos : Pos} (hc : ∀ j, (X.at_ j).calm = true) (h : DGs X ws es ps) (hn : ∀ j, (assignEach es (X.at_ j).env).length = ps.length := by intro _; rfl) (hst : ∀ j, (assignEach es (X.at_ j).env).findIdx? (·.1) = none := by intro _; rfl) : DG X ws (.Tuple es k pos) (pTup ps) := by
  obtain ⟨g, pg, s1⟩ := h
  refine ⟨fun v σ H Q => gTup X.K ps.length g v σ H Q ∨ gLst X.K ps.length g v σ H Q, fun j => ?_, fun σ F H A ρ d v ρ' Q s r h e k => ?_⟩
  · rw [← X.hK j]
    exact pg_seq (hc j) (pg j) (hn j) (hst j)
  · unfold pTup at e
    split at e
    · split at e
      · rename_i ds hl
        unfold Rp at h
        obtain ⟨a, xs, rfl, h1, h2⟩ := h
        exact .inl ⟨a, xs, rfl, sqT_mono s h1, by rw [← h2.length]; exact hl, s1 σ F H A ρ ds xs ρ' Q s r h2 e k⟩
      · cases e
    · split at e
      · rename_i ds hl
        unfold Rp at h
        obtain ⟨a, xs, rfl, h1, h2⟩ := h
        exact .inr ⟨a, xs, rfl, SqL.of (s _ _ h1), by rw [← h2.length]; exact hl, s1 σ F H A ρ ds xs ρ' Q s r h2 e k⟩
      · cases e
    · cases e
/-- a, b = e -/
def sUnp (p : Pat) (f : FE) : FS := fun ρ => (cD f ρ).out fun q => (ofO (frz q.1)).out fun d => (ofO (p d q.2)).out fun ρ' => .nx ρ'
theorem ds_unp {tg e : Expr} {p : Pat} {ws : List Nat} {f : FE} {pos : Pos} (hg : DG X ws tg p) (h : DE X T W e f) (hP : ∀ i ∈ ws, i ∉ P := by decide) (hs : ∀ j, swapsWithSole [tg] e pos.line (X.at_ j).env = pure false := by intro _; rfl) (hw : ∀ j, swappedStores [tg] e (X.at_ j).env = pure none := by intro _; rfl)
    (h1 : ∀ j, (assignEach [tg] (X.at_ j).env).map (·.2) = [assign tg (X.at_ j).env] := by intro _; rfl) : DS X T W P (.Assign [tg] e pos) (sUnp p f) := by
  obtain ⟨t, pe, s⟩ := de_d h
  obtain ⟨g, pg, s1⟩ := hg
  refine ⟨_, fun j => ps_asg (pe j) (pg j) (hs j) (hw j) (h1 j), fun hps σ F H A ρ E a pp => s σ F H A ρ _ a ?_⟩
  refine pp.out.imp fun b ρ1 F1 H1 A1 g1 p1 v r => ?_
  obtain ⟨d, e1, p1⟩ := p1.opt
  obtain ⟨v', F2, A2, e4, g2, r2, z⟩ := freeze (T := T) r g1.sub e1
  cases e4
  obtain ⟨ρ', e2, p1⟩ := p1.opt
  exact s1 σ F2 H1 A2 ρ1 d v ρ' _ g2.sub r2 z e2 fun σ' A' r' k m => p1.nowN (g2.less m) r' (k.keep hP)
end

/-! ## what is walked -/
/-- J yields the data ds, one after another, as long as F0 stands -/
def Srv (K : PySem.W.Frag) (T : List (Addr × Str)) (J : It) (F0 : Hp) (ds : List D) : Prop := ∀ i F H, Sub F0 F → Sub F H →
  (∀ d, ds[i]? = some d → J.go i H ∧ ∀ x H', J.yld i H x H' → ∃ F', Rp K F' d x ∧ ∀ A ρ σ, RepS K F H ρ σ A → Go T A F H A F' H' ∧ RepS K F' H' ρ σ A) ∧ (ds.length ≤ i → J.stop i H)
abbrev FI := Ev → R (List D × Ev)
def DI (X : Fam) (T : List (Addr × Str)) (W : WX) (tg iter : Expr) (f : FI) : Prop := ∃ wi, (∀ i, PI (X.at_ i) tg iter wi) ∧ ∀ σ F H A ρ R, At X T F H ρ σ A →
  Post X.K T W σ F H A (f ρ) (fun ds ρ' F' H' A' => ∀ J, RepS X.K F' H' ρ' σ A' → Srv X.K T J F' ds → R J H') → wi σ H R
section
variable {X : Fam} {T : List (Addr × Str)} {W : WX} {P : List Nat} {K : PySem.W.Frag}
theorem srv_list {F : Hp} {a : Addr} {ds : List D} {xs : List V} (h : SqL K F a xs) (r : RpL K F ds xs) : Srv K T (Itl K a) F ds := by
  intro i F' H' s1 s2
  refine ⟨fun d e => ?_, fun hl => ⟨xs, sqL_mono (s1.trans s2) h, by rw [← r.length]; exact hl⟩⟩
  obtain ⟨v, e1, e2⟩ := r.get e
  refine ⟨⟨xs, v, sqL_mono (s1.trans s2) h, e1⟩, fun x H'' y => ?_⟩
  obtain ⟨rfl, y⟩ := y
  have e3 := y xs (sqL_mono (s1.trans s2) h)
  rw [e1] at e3
  cases e3
  exact ⟨F', Rp.mono s1 d e2, fun A ρ σ rs => ⟨Go.refl s2, rs⟩⟩
theorem srv_tup {F : Hp} {a : Addr} {ds : List D} {xs : List V} (h : SqT K F a xs) (r : RpL K F ds xs) : Srv K T (Itt K a) F ds := by
  intro i F' H' s1 s2
  refine ⟨fun d e => ?_, fun hl => ⟨xs, sqT_mono (s1.trans s2) h, by rw [← r.length]; exact hl⟩⟩
  obtain ⟨v, e1, e2⟩ := r.get e
  refine ⟨⟨xs, v, sqT_mono (s1.trans s2) h, e1⟩, fun x H'' y => ?_⟩
  obtain ⟨rfl, y⟩ := y
  have e3 := y xs (sqT_mono (s1.trans s2) h)
  rw [e1] at e3
  cases e3
  exact ⟨F', Rp.mono s1 d e2, fun A ρ σ rs => ⟨Go.refl s2, rs⟩⟩
/-- a list or a tuple -/
def iSeq (f : FO) : FI := fun ρ => f ρ >>= fun p => match p.1 with
  | .val d => ofO (seqOf d) >>= fun ds => .ok (ds, p.2)
  | .var _ => .stuck
def iX (K : PySem.W.Frag) (tl : TE) : TI := fun σ H R => tl σ H fun x H1 => ∃ a, x = .ref a ∧ (((∃ xs, SqL K H1 a xs) ∧ R (Itl K a) H1) ∨ ((∃ xs, SqT K H1 a xs) ∧ R (Itt K a) H1))
theorem pi_seq {X : Cx} {tg l : Expr} {tl : TE} (hl : PE X l tl) : PI X tg l (iX X.K tl) := by
  refine ⟨fun pins s σ H R I h => ?_⟩
  refine thn (hl.run pins s σ H _ I h) fun v s1 ⟨x, H1, I1, r1, q1⟩ => ?_
  obtain ⟨a, e, q⟩ := q1
  subst e
  cases r1
  rcases q with ⟨⟨xs, hq⟩, q⟩ | ⟨⟨xs, hq⟩, q⟩
  · obtain ⟨its, rv, p, hz⟩ := I1.list hq
    refine wpAny_pyIter_list p.isList ?_
    refine ⟨s1.heap.objs.size, [s1.heap.objs.size], _, _, H1, rfl, I1.kept (t' := s1.toks) fun b o e => Heap.get?_push_of_some _ e, turn_list a _, ⟨_, Heap.get?_push_size _ rfl, rfl, rfl⟩, fun b hb => ?_, q⟩
    have e : b = s1.heap.objs.size := by simpa using hb
    subst e
    exact I1.fpOk (Nat.le_refl _) (I1.hok.fresh (Nat.le_refl _))
  · obtain ⟨its, rv, p, hz⟩ := I1.tuple hq
    refine wpAny_pyIter_tuple (show s1.heap.IsTuple a its.toArray from p) ?_
    refine ⟨s1.heap.objs.size, [s1.heap.objs.size], _, _, H1, rfl, I1.kept (t' := s1.toks) fun b o e => Heap.get?_push_of_some _ e, turn_tuple a _, ⟨_, Heap.get?_push_size _ rfl, rfl, rfl⟩, fun b hb => ?_, q⟩
    have e : b = s1.heap.objs.size := by simpa using hb
    subst e
    exact I1.fpOk (Nat.le_refl _) (I1.hok.fresh (Nat.le_refl _))
theorem rp_seq {F : Hp} {d : D} {v : V} {ds : List D} (h : Rp K F d v) (e : seqOf d = some ds) : ∃ a xs, v = .ref a ∧ (SqL K F a xs ∨ SqT K F a xs) ∧ RpL K F ds xs := by
  cases d <;> simp only [seqOf] at e <;> first
    | (cases e; unfold Rp at h; obtain ⟨a, xs, e1, h1, h2⟩ := h; exact ⟨a, xs, e1, .inl (SqL.of h1), h2⟩)
    | (cases e; unfold Rp at h; obtain ⟨a, xs, e1, h1, h2⟩ := h; exact ⟨a, xs, e1, .inr h1, h2⟩)
    | (cases e; unfold Rp at h; obtain ⟨a, xs, e1, h1, h2⟩ := h; exact ⟨a, xs, e1, .inl h1, h2⟩)
    | cases e
theorem di_seq {tg e : Expr} {f : FO} (h : DO X T W e f) : DI X T W tg e (iSeq f) := by
  obtain ⟨t, pe, s⟩ := h
  refine ⟨iX X.K t, fun i => ?_, fun σ F H A ρ R a p => s σ F H A ρ _ a ?_⟩
  · rw [← X.hK i]
    exact pi_seq (pe i)
  · refine p.bind.imp fun o ρ1 F1 H1 A1 g p1 v r o1 => ?_
    cases o with
    | var _ => exact p1.elim
    | val d =>
      obtain ⟨ds, e1, p1⟩ := p1.opt
      obtain ⟨x, xs, rfl, h1, h2⟩ := rp_seq (show Rp X.K F1 d v from o1) e1
      rcases h1 with h1 | h1
      · exact ⟨x, rfl, .inl ⟨⟨xs, sqL_mono g.sub h1⟩, p1.now (Go.refl g.sub) _ r (srv_list h1 h2)⟩⟩
      · exact ⟨x, rfl, .inr ⟨⟨xs, sqT_mono g.sub h1⟩, p1.now (Go.refl g.sub) _ r (srv_tup h1 h2)⟩⟩
/-- range -/
def rngD (lo : Int) (n : Nat) : List D := (List.range n).map fun i => .int (lo + (i : Nat))
theorem srv_rng {F : Hp} (lo : Int) (n : Nat) : Srv K T (Itr lo n) F (rngD lo n) := by
  intro i F' H' s1 s2
  refine ⟨fun d e => ?_, fun hl => by
    unfold rngD at hl
    rw [List.length_map, List.length_range] at hl
    exact hl⟩
  unfold rngD at e
  rw [List.getElem?_map] at e
  cases q : (List.range n)[i]? with
  | none =>
    rw [q] at e
    cases e
  | some j =>
    rw [q] at e
    cases e
    obtain ⟨hi, hj⟩ := List.getElem?_eq_some_iff.mp q
    rw [List.getElem_range] at hj
    subst hj
    rw [List.length_range] at hi
    refine ⟨hi, fun x H'' y => ?_⟩
    obtain ⟨rfl, rfl⟩ := y
    exact ⟨F', rp_int, fun A ρ σ rs => ⟨Go.refl s2, rs⟩⟩
def rngOk (j : Int) : Bool := decide (-(2 ^ 62) ≤ j) && decide (j < 2 ^ 62)
theorem rngOk_iff {j : Int} (h : rngOk j = true) : -(2 ^ 62) ≤ j ∧ j < 2 ^ 62 := by
  unfold rngOk at h
  rw [Bool.and_eq_true] at h
  exact ⟨of_decide_eq_true h.1, of_decide_eq_true h.2⟩
def rng1 : List D → Option (List D)
  | [.int j] => if rngOk j = true then some (rngD 0 j.toNat) else none
  | _ => none
def rng2 : List D → Option (List D)
  | [.int i, .int j] => if (rngOk i && rngOk j) = true then some (rngD i (j - i).toNat) else none
  | _ => none
def iRng (g : List D → Option (List D)) (f : FA) : FI := fun ρ => f ρ >>= fun p => ofO (rds p.2 p.1) >>= fun ds => ofO (g ds) >>= fun xs => .ok (xs, p.2)
theorem di_range1 {tg a : Expr} {f : FA} {p pos : Pos} (hg : ∀ i, Gl (X.at_ i) "range") (hm : ∀ i, (X.at_ i).mg "range" = none) (h : DA X T W [a] f) (hs : ∀ i, starEach [a] (X.at_ i).env = [(false, eval a (X.at_ i).env)] := by intro _; rfl) : DI X T W tg (.Call (.Name "range" p) [a] [] pos) (iRng rng1 f) := by
  obtain ⟨t, pa, s⟩ := h
  refine ⟨_, fun i => pi_range1 (hg i) (hm i) (pa i) (hs i), fun σ F H A ρ R a p => s σ F H A ρ _ a ?_⟩
  refine p.bind.imp fun os ρ1 F1 H1 A1 g p1 vs r o1 => ?_
  obtain ⟨ds, e1, p1⟩ := p1.opt
  obtain ⟨xs, e2, p1⟩ := p1.opt
  have top := rds_top g.sub r o1 e1
  unfold rng1 at e2
  split at e2
  · obtain ⟨v, rfl, hv⟩ := Paired.one top
    split at e2
    · rename_i c
      cases e2
      exact ⟨_, by rw [top_int hv], (rngOk_iff c).1, (rngOk_iff c).2, p1.now (Go.refl g.sub) _ r (srv_rng _ _)⟩
    · cases e2
  · cases e2
theorem di_range2 {tg a b : Expr} {f : FA} {p pos : Pos} (hg : ∀ i, Gl (X.at_ i) "range") (hm : ∀ i, (X.at_ i).mg "range" = none) (h : DA X T W [a, b] f) (hs : ∀ i, starEach [a, b] (X.at_ i).env = [(false, eval a (X.at_ i).env), (false, eval b (X.at_ i).env)] := by intro _; rfl)
    (hs2 : ∀ i, starEach [b] (X.at_ i).env = [(false, eval b (X.at_ i).env)] := by intro _; rfl) : DI X T W tg (.Call (.Name "range" p) [a, b] [] pos) (iRng rng2 f) := by
  obtain ⟨t, pa, s⟩ := h
  refine ⟨_, fun i => pi_range2 (hg i) (hm i) (pa i) (hs i) (hs2 i), fun σ F H A ρ R a p => s σ F H A ρ _ a ?_⟩
  refine p.bind.imp fun os ρ1 F1 H1 A1 g p1 vs r o1 => ?_
  obtain ⟨ds, e1, p1⟩ := p1.opt
  obtain ⟨xs, e2, p1⟩ := p1.opt
  have top := rds_top g.sub r o1 e1
  unfold rng2 at e2
  split at e2
  · obtain ⟨v, w, rfl, hv, hw⟩ := Paired.two top
    split at e2
    · rename_i c
      rw [Bool.and_eq_true] at c
      cases e2
      exact ⟨_, _, by rw [top_int hv, top_int hw], ⟨(rngOk_iff c.1).1, (rngOk_iff c.1).2, (rngOk_iff c.2).1, (rngOk_iff c.2).2⟩, p1.now (Go.refl g.sub) _ r (srv_rng _ _)⟩
    · cases e2
  · cases e2
/-- enumerate of a list or a tuple -/
def enumD (ds : List D) : List D := ds.mapIdx fun i d => .tup [.int (i : Nat), d]
theorem enumD_get {ds : List D} {i : Nat} : (enumD ds)[i]? = (ds[i]?).map fun d => .tup [.int (i : Nat), d] := by
  unfold enumD
  rw [List.getElem?_mapIdx]
theorem enum_step {F' H' : Hp} {Tp : Addr} {i : Nat} {d : D} {v : V} (s : Sub F' H') (n : H' Tp = none) (h : Rp K F' d v) : Rp K (upd F' Tp (.tup [.int (i : Nat), v])) (.tup [.int (i : Nat), d]) (.ref Tp) ∧ ∀ A ρ σ, RepS K F' H' ρ σ A → Go T A F' H' A (upd F' Tp (.tup [.int (i : Nat), v])) (upd H' Tp (.tup [.int (i : Nat), v])) ∧ RepS K (upd F' Tp (.tup [.int (i : Nat), v])) (upd H' Tp (.tup [.int (i : Nat), v])) ρ σ A := by
  refine ⟨?_, fun A ρ σ rs => ⟨Go.laid s n, rs.laid s n⟩⟩
  have g : Go T [] F' H' [] (upd F' Tp (.tup [.int (i : Nat), v])) (upd H' Tp (.tup [.int (i : Nat), v])) := Go.laid s n
  unfold Rp
  exact ⟨Tp, _, rfl, SqT.of upd_same, .cons rp_int (.cons (Rp.mono g.kF d h) .nil)⟩
theorem srv_enum {F : Hp} {a : Addr} {ds : List D} {xs : List V} (h : SqL K F a xs) (r : RpL K F ds xs) : Srv K T (Ite K a) F (enumD ds) := by
  intro i F' H' s1 s2
  refine ⟨fun d e => ?_, fun hl => ⟨xs, sqL_mono (s1.trans s2) h, by
    unfold enumD at hl
    rw [List.length_mapIdx] at hl
    rw [← r.length]
    exact hl⟩⟩
  rw [enumD_get] at e
  cases q : ds[i]? with
  | none =>
    rw [q] at e
    cases e
  | some d' =>
    rw [q] at e
    cases e
    obtain ⟨v, e1, e2⟩ := r.get q
    refine ⟨⟨xs, v, sqL_mono (s1.trans s2) h, e1⟩, fun x H'' y => ?_⟩
    obtain ⟨Tp, v', rfl, n, rfl, y⟩ := y
    have e3 := y xs (sqL_mono (s1.trans s2) h)
    rw [e1] at e3
    cases e3
    exact ⟨_, enum_step s2 n (Rp.mono s1 d' e2)⟩
theorem srv_enumT {F : Hp} {a : Addr} {ds : List D} {xs : List V} (h : SqT K F a xs) (r : RpL K F ds xs) : Srv K T (IteT K a) F (enumD ds) := by
  intro i F' H' s1 s2
  refine ⟨fun d e => ?_, fun hl => ⟨xs, sqT_mono (s1.trans s2) h, by
    unfold enumD at hl
    rw [List.length_mapIdx] at hl
    rw [← r.length]
    exact hl⟩⟩
  rw [enumD_get] at e
  cases q : ds[i]? with
  | none =>
    rw [q] at e
    cases e
  | some d' =>
    rw [q] at e
    cases e
    obtain ⟨v, e1, e2⟩ := r.get q
    refine ⟨⟨xs, v, sqT_mono (s1.trans s2) h, e1⟩, fun x H'' y => ?_⟩
    obtain ⟨Tp, v', rfl, n, rfl, y⟩ := y
    have e3 := y xs (sqT_mono (s1.trans s2) h)
    rw [e1] at e3
    cases e3
    exact ⟨_, enum_step s2 n (Rp.mono s1 d' e2)⟩
def iEnm (f : FO) : FI := fun ρ => f ρ >>= fun p => match p.1 with
  | .val d => ofO (seqOf d) >>= fun ds => .ok (enumD ds, p.2)
  | .var _ => .stuck
theorem di_enum {e : Expr} {f : FO} {p pos tpos : Pos} {elts : List Expr} {kk : Nat} (hg : ∀ i, Gl (X.at_ i) "enumerate") (hm : ∀ i, (X.at_ i).mg "enumerate" = none) (h : DO X T W e f) (hs : ∀ i, starEach [e] (X.at_ i).env = [(false, eval e (X.at_ i).env)] := by intro _; rfl) :
    DI X T W (.Tuple elts kk tpos) (.Call (.Name "enumerate" p) [e] [] pos) (iEnm f) := by
  obtain ⟨t, pe, s⟩ := h
  refine ⟨iEnumX X.K (tCons t tNil), fun i => ?_, fun σ F H A ρ R a p => s σ F H A ρ _ a ?_⟩
  · rw [← X.hK i]
    exact pi_enumX (hg i) (hm i) (pa_cons (pe i) pa_nil (hs i)) (hs i)
  · refine p.bind.imp fun o ρ1 F1 H1 A1 g p1 v r o1 => ?_
    cases o with
    | var _ => exact p1.elim
    | val d =>
      obtain ⟨ds, e1, p1⟩ := p1.opt
      obtain ⟨x, xs, rfl, h1, h2⟩ := rp_seq (show Rp X.K F1 d v from o1) e1
      rcases h1 with h1 | h1
      · exact ⟨x, xs, rfl, .inl ⟨sqL_mono g.sub h1, p1.now (Go.refl g.sub) _ r (srv_enum h1 h2)⟩⟩
      · exact ⟨x, xs, rfl, .inr ⟨sqT_mono g.sub h1, p1.now (Go.refl g.sub) _ r (srv_enumT h1 h2)⟩⟩

/-! ## for, while -/
def forD (p : Pat) (body : FS) : List D → FS
  | [], ρ => .nx ρ
  | d :: ds, ρ => match p d ρ with
    | none => .stuck
    | some ρ1 => match body ρ1 with
      | .nx ρ2 => forD p body ds ρ2
      | .ct ρ2 => forD p body ds ρ2
      | .bk ρ2 => .nx ρ2
      | .rt b ρ2 => .rt b ρ2
      | .er x ρ2 => .er x ρ2
      | .stuck => .stuck
def sFor (p : Pat) (f : FI) (body : FS) : FS := fun ρ => (f ρ).out fun q => forD p body q.1 q.2
theorem ds_for {tg iter : Expr} {b : List Stmt} {p : Pat} {ws : List Nat} {f : FI} {body : FS} {pos : Pos} (hp : ∀ i, PassesOwn (model (X.at_ i).prog (X.at_ i).w) (X.at_ i).A (X.at_ i).env (X.at_ i).xe) (hc : ∀ i, (X.at_ i).calm = true) (hi : DI X T W tg iter f) (hg : DG X ws tg p) (hb : DSs X T W P b body) (hP : ∀ i ∈ ws, i ∉ P := by decide)
    (hs : ∀ i x, foldedSetIterable iter (X.at_ i).env x = pure x := by intro _ _; rfl) : DS X T W P (.For tg iter b [] pos) (sFor p f body) := by
  obtain ⟨wi, pi, s1⟩ := hi
  obtain ⟨g, pg, s2⟩ := hg
  obtain ⟨tb, pb, s3⟩ := hb
  refine ⟨_, fun i => ps_for (hp i) (hc i) (pi i) (pg i) (pb i) (hs i), fun hps σ F H A ρ E a pp => s1 σ F H A ρ _ a ?_⟩
  refine pp.out.imp fun ds ρ1 F1 H1 A1 g1 p1 J r1 sv => ?_
  have at1 : At X T F1 H1 ρ1 σ A1 := a.next g1 r1
  clear pp
  refine ⟨fun i m σ' H' => m = ds.length - i ∧ ∃ F' A' ρ', Go T A1 F1 H1 A' F' H' ∧ RepS X.K F' H' ρ' σ' A' ∧ Keep P σ σ' ∧ PostS X.K T W P σ' F' H' A' (forD p body (ds.drop i) ρ') E, ⟨ds.length, by simp, F1, A1, ρ1, Go.refl g1.sub, r1, Keep.refl P σ, by simpa using p1⟩, ?_⟩
  rintro i m σ' H' ⟨rfl, F', A', ρ', g', r', k', p'⟩
  obtain ⟨v1, v2⟩ := sv i F' H' g'.kF g'.sub
  cases q : ds[i]? with
  | none =>
    have hl : ds.length ≤ i := List.getElem?_eq_none_iff.mp q
    rw [List.drop_eq_nil_of_le hl] at p'
    exact .inl ⟨v2 hl, p'.nowN (Go.refl g'.sub) r' (Keep.refl P σ')⟩
  | some d =>
    obtain ⟨w1, w2⟩ := v1 d q
    obtain ⟨hi', he'⟩ := List.getElem?_eq_some_iff.mp q
    have ed : ds.drop i = d :: ds.drop (i + 1) := by
      rw [← he']
      exact List.drop_eq_getElem_cons hi'
    rw [ed] at p'
    refine .inr ⟨w1, fun σ2 H2 => ∃ F2 A2 ρ2, Go T A1 F1 H1 A2 F2 H2 ∧ RepS X.K F2 H2 ρ2 σ2 A2 ∧ Keep P σ σ2 ∧ PostS X.K T W P σ2 F2 H2 A2 (forD p body (ds.drop (i + 1)) ρ2) E, fun σ2 H2 n => ⟨ds.length - (i + 1), by omega, rfl, n⟩, fun x H2 y => ?_⟩
    obtain ⟨F2, e2, e3⟩ := w2 x H2 y
    obtain ⟨g2, r2⟩ := e3 A' ρ' σ' r'
    simp only [forD] at p'
    cases qp : p d ρ' with
    | none =>
      rw [qp] at p'
      exact p'.elim
    | some ρ3 =>
      rw [qp] at p'
      refine s2 σ' F2 H2 A' ρ' d x ρ3 _ g2.sub r2 e2 qp fun σ3 A3 r3 kk3 m3 => ?_
      have k3 := kk3.keep hP
      have g3 : Go T A1 F1 H1 A3 F2 H2 := (g'.trans g2).less m3
      have p'' := p'.after (g2.less m3) k3
      simp only at p''
      refine s3 hps σ3 F2 H2 A3 ρ3 _ (at1.nextK g3 r3 fun j m => (k'.trans k3) j (hps j m)) ?_
      cases qb : body ρ3 with
      | nx ρ4 =>
        rw [qb] at p''
        exact fun σ4 F4 H4 A4 g4 r4 k4 => ⟨F4, A4, ρ4, g3.trans g4, r4, (k'.trans k3).trans k4, p''.after g4 k4⟩
      | ct ρ4 =>
        rw [qb] at p''
        exact fun σ4 F4 H4 A4 g4 r4 k4 => ⟨F4, A4, ρ4, g3.trans g4, r4, (k'.trans k3).trans k4, p''.after g4 k4⟩
      | bk ρ4 =>
        rw [qb] at p''
        exact fun σ4 F4 H4 A4 g4 r4 k4 => p''.nowN g4 r4 k4
      | rt b ρ4 =>
        rw [qb] at p''
        exact p''
      | er x ρ4 =>
        rw [qb] at p''
        exact p''
      | stuck =>
        rw [qb] at p''
        exact p''.elim
/-- n turns at most -/
def whileD (c : FT) (body : FS) : Nat → FS
  | 0, _ => .stuck
  | n + 1, ρ => (c ρ).out fun q => if q.1 = true then match body q.2 with
      | .nx ρ2 => whileD c body n ρ2
      | .ct ρ2 => whileD c body n ρ2
      | .bk ρ2 => .nx ρ2
      | .rt b ρ2 => .rt b ρ2
      | .er x ρ2 => .er x ρ2
      | .stuck => .stuck
    else .nx q.2
theorem ds_while {c : Expr} {b : List Stmt} {fc : FT} {body : FS} {pos : Pos} (n : Ev → Nat) (hp : ∀ i, PassesOwn (model (X.at_ i).prog (X.at_ i).w) (X.at_ i).A (X.at_ i).env (X.at_ i).xe) (hc : DT X T W c fc) (hb : DSs X T W P b body) : DS X T W P (.While c b [] pos) (fun ρ => whileD fc body (n ρ) ρ) := by
  obtain ⟨tc, pc, s1⟩ := hc
  obtain ⟨tb, pb, s3⟩ := hb
  refine ⟨_, fun i => ps_while (hp i) (pc i) (pb i), fun hps σ F H A ρ E a pp => ?_⟩
  refine ⟨fun m σ' H' => ∃ F' A' ρ', Go T A F H A' F' H' ∧ RepS X.K F' H' ρ' σ' A' ∧ Keep P σ σ' ∧ PostS X.K T W P σ' F' H' A' (whileD fc body m ρ') E, ⟨n ρ, F, A, ρ, Go.refl a.sub, a.rep, Keep.refl P σ, pp⟩, ?_⟩
  rintro m σ' H' ⟨F', A', ρ', g', r', k', p'⟩
  cases m with
  | zero => exact p'.elim
  | succ m =>
    simp only [whileD] at p'
    refine s1 σ' F' H' A' ρ' _ (a.nextK g' r' fun j m => k' j (hps j m)) ?_
    refine p'.out.imp fun c ρ1 F1 H1 A1 g1 p1 r1 => ?_
    cases c with
    | false => exact iteF (p1.nowN (Go.refl g1.sub) r1 (Keep.refl P σ'))
    | true =>
      refine iteT ⟨fun σ2 H2 => ∃ F2 A2 ρ2, Go T A F H A2 F2 H2 ∧ RepS X.K F2 H2 ρ2 σ2 A2 ∧ Keep P σ σ2 ∧ PostS X.K T W P σ2 F2 H2 A2 (whileD fc body m ρ2) E, fun σ2 H2 n => ⟨m, by omega, n⟩, ?_⟩
      simp only [if_true] at p1
      have g3 := g'.trans g1
      refine s3 hps σ' F1 H1 A1 ρ1 _ (a.nextK g3 r1 fun j m => k' j (hps j m)) ?_
      cases qb : body ρ1 with
      | nx ρ4 =>
        rw [qb] at p1
        exact fun σ4 F4 H4 A4 g4 r4 k4 => ⟨F4, A4, ρ4, g3.trans g4, r4, k'.trans k4, p1.after g4 k4⟩
      | ct ρ4 =>
        rw [qb] at p1
        exact fun σ4 F4 H4 A4 g4 r4 k4 => ⟨F4, A4, ρ4, g3.trans g4, r4, k'.trans k4, p1.after g4 k4⟩
      | bk ρ4 =>
        rw [qb] at p1
        exact fun σ4 F4 H4 A4 g4 r4 k4 => p1.nowN g4 r4 k4
      | rt b ρ4 =>
        rw [qb] at p1
        exact p1
      | er x ρ4 =>
        rw [qb] at p1
        exact p1
      | stuck =>
        rw [qb] at p1
        exact p1.elim
end
end Dl

set_option Elab.async false
set_option linter.all false
set_option maxRecDepth 100000
namespace Dl
open PySem PySem.Spec L2
open PyProof.Rows hiding St

/-! ## comprehensions -/
def W0 : WX := fun _ _ _ _ => False
abbrev BlkI := Shared × Hp × Addr × List (Str × Addr) × List Addr
/-- the blocks of a comprehension -/
def blkF (X : Fam) (scope : Scope) : Fam where
  Ix := X.Ix × BlkI
  at_ := fun j => (X.at_ j.1).blk j.2.1 j.2.2.1 scope (compEnvC scope j.2.2.2.2.1 j.2.2.2.1 (X.at_ j.1).env) j.2.2.2.2.2
  K := X.K
  hK := fun j => X.hK j.1
  inv := fun _ _ => True
  ps := []
  mono := fun _ _ _ => trivial
def wipeE (ρ : Ev) : List Nat → Ev
  | [] => ρ
  | v :: vs => (wipeE ρ vs).set v .un
def restE (ρ0 : Ev) : Ev → List Nat → Ev
  | ρ, [] => ρ
  | ρ, v :: vs => restE ρ0 (ρ.set v (match ρ0[v]? with | some (.dat d) => .dat d | _ => .un)) vs
section
variable {K : PySem.W.Frag} {F H : Hp} {ρ : Ev} {σ : St} {A : List Addr}
theorem RepS.wiped (h : RepS K F H ρ σ A) : ∀ vs, ∃ A', RepS K F H (wipeE ρ vs) (wipe σ vs) A' ∧ ∀ a ∈ A', a ∈ A
  | [] => ⟨A, h, fun _ m => m⟩
  | v :: vs => by
    obtain ⟨A1, r, m⟩ := h.wiped vs
    obtain ⟨A2, r2, m2⟩ := r.set (i := v) (b' := .un) (sv' := none) (ft' := []) rfl (fun a z => by cases z)
    exact ⟨A2, r2, fun a z => by
      rcases m2 a z with y | y
      · exact m a y
      · cases y⟩
theorem wipe_get (σ : St) : ∀ (vs : List Nat) (j : Nat), j ∉ vs → (wipe σ vs)[j]? = σ[j]?
  | [], _, _ => rfl
  | v :: vs, j, h => by
    unfold wipe
    rw [List.mem_cons, not_or] at h
    rw [List.getElem?_set_ne (fun z => h.1 z.symm), wipe_get σ vs j h.2]
theorem wipe_in (σ : St) : ∀ (vs : List Nat) (j : Nat), j ∈ vs → j < σ.length → (wipe σ vs)[j]? = some none
  | v :: vs, j, h, hl => by
    unfold wipe
    by_cases e : v = j
    · subst e
      rw [List.getElem?_set_self (by rw [wipe_length]; exact hl)]
    · rw [List.getElem?_set_ne e]
      exact wipe_in σ vs j ((List.mem_cons.mp h).resolve_left fun z => e z.symm) hl
theorem wipe_eq {σ σ' : St} {vs ws : List Nat} (k : Kept ws σ σ') (h : ∀ i ∈ ws, i ∈ vs) : wipe σ' vs = wipe σ vs := by
  refine List.ext_getElem? fun j => ?_
  by_cases m : j ∈ vs
  · by_cases hl : j < σ.length
    · rw [wipe_in σ vs j m hl, wipe_in σ' vs j m (by rw [k.1]; exact hl)]
    · rw [List.getElem?_eq_none (by rw [wipe_length, k.1]; omega), List.getElem?_eq_none (by rw [wipe_length]; omega)]
  · rw [wipe_get σ vs j m, wipe_get σ' vs j m]
    exact k.2 j fun z => m (h j z)
theorem wipe_wipe (σ : St) (vs : List Nat) : wipe (wipe σ vs) vs = wipe σ vs := by
  refine List.ext_getElem? fun j => ?_
  by_cases m : j ∈ vs
  · by_cases hl : j < σ.length
    · rw [wipe_in σ vs j m hl, wipe_in _ vs j m (by rw [wipe_length]; exact hl)]
    · rw [List.getElem?_eq_none (by rw [wipe_length, wipe_length]; omega), List.getElem?_eq_none (by rw [wipe_length]; omega)]
  · rw [wipe_get _ vs j m]
/-- what stood in the wiped slots ahead comes back, if it was a datum -/
theorem RepS.restore {ρ0 : Ev} {σ : St} {F0 H0 : Hp} {A0 : List Addr} (h0 : RepS K F0 H0 ρ0 σ A0) (s : Sub F0 F) : ∀ (vs : List Nat) {ρ : Ev} {A : List Addr}, vs.Nodup → RepS K F H ρ (L2.wipe σ vs) A → ∃ A', RepS K F H (restE ρ0 ρ vs) σ A' ∧ ∀ a ∈ A', a ∈ A
  | [], _, A, _, h => ⟨A, h, fun _ m => m⟩
  | v :: vs, ρ, A, nd, h => by
    rw [List.nodup_cons] at nd
    have hb : BRep K F H (match ρ0[v]? with | some (.dat d) => .dat d | _ => .un) ((σ[v]?).getD none) [] := by
      cases q : ρ0[v]? with
      | none => exact rfl
      | some b =>
        cases b with
        | dat d =>
          obtain ⟨sv, ft, e1, ⟨_, v', rfl, r⟩, _⟩ := h0.get q
          exact ⟨rfl, v', by rw [e1]; rfl, Rp.mono s d r⟩
        | un => exact rfl
        | own _ => exact rfl
        | odk _ => exact rfl
        | odt _ => exact rfl
        | ext _ => exact rfl
    obtain ⟨A1, r1, m1⟩ := h.set (i := v) hb (fun a z => by cases z)
    have e : (L2.wipe σ (v :: vs)).set v ((σ[v]?).getD none) = L2.wipe σ vs := by
      show ((L2.wipe σ vs).set v none).set v ((σ[v]?).getD none) = L2.wipe σ vs
      rw [List.set_set]
      refine List.ext_getElem? fun j => ?_
      by_cases hj : v = j
      · subst hj
        by_cases hl : v < σ.length
        · rw [List.getElem?_set_self (by rw [wipe_length]; exact hl), wipe_get σ vs v nd.1, List.getElem?_eq_getElem hl]
          rfl
        · rw [List.getElem?_eq_none (by rw [List.length_set, wipe_length]; omega), List.getElem?_eq_none (by rw [wipe_length]; omega)]
      · rw [List.getElem?_set_ne hj]
    rw [e] at r1
    obtain ⟨A2, r2, m2⟩ := RepS.restore h0 s vs nd.2 r1
    exact ⟨A2, r2, fun a z => by
      rcases m1 a (m2 a z) with y | y
      · exact y
      · cases y⟩
end
/-- the turns of a comprehension -/
def lcD (p : Pat) (c : FT) (e : FE) (vs : List Nat) : List D → List D → Ev → R (List D × Ev)
  | [], acc, ρ => .ok (acc, ρ)
  | d :: ds, acc, ρ => match p d ρ with
    | none => .stuck
    | some ρ1 => match c ρ1 with
      | .ok (true, ρ2) => match cO e ρ2 with
        | .ok (.val d', ρ3) => if acc.length < sizeLine then lcD p c e vs ds (acc ++ [d']) (wipeE ρ3 vs) else .stuck
        | _ => .stuck
      | .ok (false, ρ2) => lcD p c e vs ds acc (wipeE ρ2 vs)
      | _ => .stuck
def cLc (p : Pat) (fi : FI) (c : FT) (e : FE) (vs : List Nat) : FE := fun ρ => fi ρ >>= fun q => lcD p c e vs q.1 [] (wipeE q.2 vs) >>= fun r => .ok (.own r.1, restE q.2 r.2 vs)
def DTs (X : Fam) (T : List (Addr × Str)) (W : WX) (es : List Expr) (f : FT) : Prop := ∃ t, (∀ i, PTs (X.at_ i) es t) ∧ ∀ σ F H A ρ Q, At X T F H ρ σ A →
  Post X.K T W σ F H A (f ρ) (fun c ρ' F' H' A' => RepS X.K F' H' ρ' σ A' → Q c H') → t σ H Q
section
variable {X : Fam} {T : List (Addr × Str)} {W : WX}
def tYs : FT := fun ρ => .ok (true, ρ)
theorem dts_nil : DTs X T W [] tYs := ⟨_, fun _ => pts_nil, fun σ F H A ρ Q a p => p.now (Go.refl a.sub) a.rep⟩
theorem dts_one {e : Expr} {f : FT} (h : DT X T W e f) : DTs X T W [e] f := by
  obtain ⟨t, pt, s⟩ := h
  exact ⟨_, fun i => pts_one (pt i), s⟩
theorem lc_run {scope : Scope} {p : Pat} {fi : FI} {fc : FT} {fe : FE} {vs ws : List Nat} {wi : TI} {g : TG} {tt : TT} {te : TE} {σ : St} {F H : Hp} {A : List Addr} {ρ : Ev} {Q : VK} (hws : ∀ i ∈ ws, i ∈ vs) (hnd : vs.Nodup)
    (si : ∀ σ F H A ρ R, At X T F H ρ σ A → Post X.K T W σ F H A (fi ρ) (fun ds ρ' F' H' A' => ∀ J, RepS X.K F' H' ρ' σ A' → Srv X.K T J F' ds → R J H') → wi σ H R)
    (sg : PatOk X.K ws p g)
    (st : ∀ σ F H A ρ Q, At (blkF X scope) T F H ρ σ A → Post X.K T W0 σ F H A (fc ρ) (fun c ρ' F' H' A' => RepS X.K F' H' ρ' σ A' → Q c H') → tt σ H Q)
    (se : ∀ σ F H A ρ Q, At (blkF X scope) T F H ρ σ A → Post X.K T W0 σ F H A (cO fe ρ) (fun o ρ' F' H' A' => ∀ v, RepS X.K F' H' ρ' σ A' → OpdR X.K F' σ o v → Q v H') → te σ H Q)
    (a : At X T F H ρ σ A) (pp : Post X.K T W σ F H A (cLc p fi fc fe vs ρ) (fun b ρ' F' H' A' => ∀ v, RepS X.K F' H' (b :: ρ') (some v :: σ) A' → Q v H')) : tLc wi g tt te vs σ H Q := by
  refine si σ F H A ρ _ a ?_
  refine pp.bind.imp fun ds ρ1 F1 H1 A1 g1 p1 J r1 sv Dd nD => ?_
  have at1 : At X T F1 H1 ρ1 σ A1 := a.next g1 r1
  simp only at p1
  obtain ⟨Aw, rw_, mw⟩ := r1.wiped vs
  obtain ⟨rw1, nDA⟩ := rw_.fresh (o := .lst []) nD
  have g0 : Go T A1 F1 H1 ([Dd] ++ Aw) F1 (upd H1 Dd (.lst [])) := (Go.fresh g1.sub nD).less fun a m => by
    rcases List.mem_append.mp m with z | z
    · exact List.mem_append_left _ z
    · exact List.mem_append_right _ (mw a z)
  refine ⟨fun i m H' => m = ds.length - i ∧ ∃ F' A' ρ' acc xs, Go T A1 F1 H1 ([Dd] ++ A') F' H' ∧ RepS X.K F' H' ρ' (wipe σ vs) A' ∧ Dd ∉ A' ∧ H' Dd = some (.lst xs) ∧ F' Dd = none ∧ RpL X.K F' acc xs ∧
    Post X.K T W σ F' H' ([Dd] ++ A') (lcD p fc fe vs (ds.drop i) acc ρ' >>= fun r => R.ok (B.own r.1, restE ρ1 r.2 vs)) (fun b ρ' F' H' A' => ∀ v, RepS X.K F' H' (b :: ρ') (some v :: σ) A' → Q v H'),
    ⟨ds.length, by simp, F1, Aw, wipeE ρ1 vs, [], [], g0, rw1, nDA, upd_same, fresh_F g1.sub nD, .nil, by simpa using p1.after g0⟩, ?_⟩
  rintro i m H' ⟨rfl, F', A', ρ', acc, xs, g', r', nA, eD, nF, ra, p'⟩
  obtain ⟨v1, v2⟩ := sv i F' H' g'.kF g'.sub
  cases q : ds[i]? with
  | none =>
    have hl : ds.length ≤ i := List.getElem?_eq_none_iff.mp q
    rw [List.drop_eq_nil_of_le hl] at p'
    simp only [lcD, ok_bind] at p'
    refine .inl ⟨v2 hl, ?_⟩
    obtain ⟨A2, r2, m2⟩ := RepS.restore r1 g'.kF vs hnd r'
    have rr : RepS X.K F' H' (B.own acc :: restE ρ1 ρ' vs) (some (V.ref Dd) :: σ) ([Dd] ++ A2) := .cons (ft := [Dd]) ⟨Dd, xs, rfl, rfl, eD, nF, ra⟩ r2 fun a m z => by
      rw [List.mem_singleton] at m
      exact nA (m ▸ m2 a z)
    exact p'.now ((Go.refl g'.sub).less fun a m => by
      rcases List.mem_append.mp m with z | z
      · exact List.mem_append_left _ z
      · exact List.mem_append_right _ (m2 a z)) _ rr
  | some d =>
    obtain ⟨w1, w2⟩ := v1 d q
    obtain ⟨hi', he'⟩ := List.getElem?_eq_some_iff.mp q
    have ed : ds.drop i = d :: ds.drop (i + 1) := by
      rw [← he']
      exact List.drop_eq_getElem_cons hi'
    rw [ed] at p'
    refine .inr ⟨w1, fun H2 => ∃ F2 A2 ρ2 acc xs, Go T A1 F1 H1 ([Dd] ++ A2) F2 H2 ∧ RepS X.K F2 H2 ρ2 (wipe σ vs) A2 ∧ Dd ∉ A2 ∧ H2 Dd = some (.lst xs) ∧ F2 Dd = none ∧ RpL X.K F2 acc xs ∧
      Post X.K T W σ F2 H2 ([Dd] ++ A2) (lcD p fc fe vs (ds.drop (i + 1)) acc ρ2 >>= fun r => R.ok (B.own r.1, restE ρ1 r.2 vs)) (fun b ρ' F' H' A' => ∀ v, RepS X.K F' H' (b :: ρ') (some v :: σ) A' → Q v H'), fun H2 n => ⟨ds.length - (i + 1), by omega, rfl, n⟩, fun x H2 y => ?_⟩
    obtain ⟨F2, e2, e3⟩ := w2 x H2 y
    obtain ⟨g2, r2⟩ := e3 A' ρ' (wipe σ vs) r'
    have rD : BRep X.K F' H' (B.own acc) (some (V.ref Dd)) [Dd] := ⟨Dd, xs, rfl, rfl, eD, nF, ra⟩
    have dj : ∀ a ∈ [Dd], a ∉ A' := fun a m z => by
      rw [List.mem_singleton] at m
      exact nA (m ▸ z)
    obtain ⟨rD2, dj2⟩ := g2.keepB rD dj
    simp only [lcD] at p'
    cases qp : p d ρ' with
    | none =>
      rw [qp] at p'
      exact p'.elim
    | some ρ3 =>
      rw [qp] at p'
      simp only at p'
      refine sg (wipe σ vs) F2 H2 A' ρ' d x ρ3 _ g2.sub r2 e2 qp fun σ3 A3 r3 k3 m3 => ?_
      have ew : wipe σ3 vs = wipe σ vs := (wipe_eq k3 hws).trans (wipe_wipe σ vs)
      refine ⟨ew, ?_⟩
      have g3 : Go T A' F' H' A3 F2 H2 := g2.less m3
      have dj3 : ∀ a ∈ [Dd], a ∉ A3 := fun a m z => dj2 a m (m3 a z)
      have G3 : Go T A1 F1 H1 ([Dd] ++ A3) F2 H2 := g'.trans g3.beside
      refine st σ3 F2 H2 A3 ρ3 _ ⟨g3.sub, (G3.tab at1.tab), r3, trivial, G3.ntb at1.ntb⟩ ?_
      cases qc : fc ρ3 with
      | stuck =>
        rw [qc] at p'
        exact p'.elim
      | err z ρ4 =>
        rw [qc] at p'
        exact p'.elim
      | ok z =>
        obtain ⟨c, ρ4⟩ := z
        rw [qc] at p'
        intro F4 H4 A4 g4 r4
        obtain ⟨rD4, dj4⟩ := g4.keepB rD2 dj3
        have G4 : Go T A1 F1 H1 ([Dd] ++ A4) F4 H4 := G3.trans g4.beside
        have g34 : Go T ([Dd] ++ A') F' H' ([Dd] ++ A4) F4 H4 := (g3.trans g4).beside
        cases c with
        | false =>
          refine iteF ?_
          simp only at p'
          obtain ⟨A5, r5, m5⟩ := r4.wiped vs
          rw [ew] at r5
          obtain ⟨l4, xs4, e4, ef4, el4, nl4, rl4⟩ := rD4
          cases e4
          refine ⟨F4, A5, wipeE ρ4 vs, acc, xs4, G4.less ?_, r5, fun z => dj4 Dd (by simp) (m5 _ z), el4, nl4, rl4, (p'.after (g34.less ?_))⟩ <;>
          · intro b m
            rcases List.mem_append.mp m with z | z
            · exact List.mem_append_left _ z
            · exact List.mem_append_right _ (m5 b z)
        | true =>
          refine iteT ?_
          simp only at p'
          refine se σ3 F4 H4 A4 ρ4 _ ⟨g4.sub, G4.tab at1.tab, r4, trivial, G4.ntb at1.ntb⟩ ?_
          cases qe : cO fe ρ4 with
          | stuck =>
            rw [qe] at p'
            exact p'.elim
          | err z ρ5 =>
            rw [qe] at p'
            exact p'.elim
          | ok z =>
            obtain ⟨o, ρ5⟩ := z
            rw [qe] at p'
            cases o with
            | var _ => exact p'.elim
            | val d' =>
              simp only at p'
              intro F5 H5 A5 g5 v r5 o5
              obtain ⟨rD5, dj5⟩ := g5.keepB rD4 dj4
              obtain ⟨l5, xs5, e5, ef5, el5, nl5, rl5⟩ := rD5
              cases e5
              split at p'
              · rename_i hsz
                refine ⟨xs5, el5, by rw [← rl5.length]; exact hsz, ?_⟩
                obtain ⟨A6, r6, m6⟩ := r5.wiped vs
                rw [ew] at r6
                have nD6 : Dd ∉ A6 := fun z => dj5 Dd (by simp) (m6 _ z)
                have gw : Go T ([Dd] ++ A5) F5 H5 ([Dd] ++ A5) F5 (upd H5 Dd (.lst (xs5 ++ [v]))) := Go.write g5.sub (by simp) nl5 el5 (fun _ z => by cases z) (fun _ z => by cases z)
                have G6 : Go T A1 F1 H1 ([Dd] ++ A5) F5 (upd H5 Dd (.lst (xs5 ++ [v]))) := (G4.trans g5.beside).trans gw
                have g6 : Go T ([Dd] ++ A') F' H' ([Dd] ++ A5) F5 (upd H5 Dd (.lst (xs5 ++ [v]))) := (g34.trans g5.beside).trans gw
                have r7 : RepS X.K F5 (upd H5 Dd (.lst (xs5 ++ [v]))) (wipeE ρ5 vs) (wipe σ vs) A6 := r6.stab (Sub.refl F5) (fun a m => upd_ne fun z => nD6 (by rw [← z]; exact m)) (fun a m => (r6.live a m).2)
                refine ⟨F5, A6, wipeE ρ5 vs, acc ++ [d'], xs5 ++ [v], G6.less ?_, r7, nD6, upd_same, nl5, rl5.append (.cons o5 .nil), (p'.after (g6.less ?_))⟩ <;>
                · intro b m
                  rcases List.mem_append.mp m with z | z
                  · exact List.mem_append_left _ z
                  · exact List.mem_append_right _ (m6 b z)
              · exact p'.elim
theorem de_lc {elt tg iter : Expr} {ifs : List Expr} {scope : Scope} {p : Pat} {fi : FI} {fc : FT} {fe : FE} {ws : List Nat} {pos : Pos} (own : List (Str × Nat)) (hc : ∀ i, (X.at_ i).calm = true) (hN : ∀ i, (X.at_ i).N.Nodup) (hi : DI X T W tg iter fi) (ok : ∀ i, BlkOk (X.at_ i).N (X.at_ i).env.scope scope own)
    (hg : DG (blkF X scope) ws tg p) (ht : DTs (blkF X scope) T W0 ifs fc) (he : DE (blkF X scope) T W0 elt fe) (hws : ∀ i ∈ ws, i ∈ own.map (·.2) := by decide) (hnd : (own.map (·.2)).Nodup := by decide) (hs : ∀ i x, foldedSetIterable iter (X.at_ i).env x = pure x := by intro _ _; rfl) :
    DE X T W (.ListComp elt [⟨tg, iter, ifs, 0⟩] scope pos) (cLc p fi fc fe (own.map (·.2))) := by
  obtain ⟨wi, pi, si⟩ := hi
  obtain ⟨g, pg, sg⟩ := hg
  obtain ⟨tt, pt, st⟩ := ht
  obtain ⟨te, pe, se⟩ := do_e he
  exact ⟨_, fun i => pe_lc (hc i) (hN i) (pi i) (ok i) (fun s H C cl fp => pg (i, s, H, C, cl, fp)) (fun s H C cl fp => pt (i, s, H, C, cl, fp)) (fun s H C cl fp => pe (i, s, H, C, cl, fp)) (hs i), fun σ F H A ρ Q a p => lc_run hws hnd si sg st se a p⟩
/-- y = [..] -/
theorem ds_setLc (i : Nat) {P : List Nat} {y : Str} {py : Pos} {elt tg iter : Expr} {ifs : List Expr} {scope : Scope} {p : Pat} {fi : FI} {fc : FT} {fe : FE} {ws : List Nat} {pos spos : Pos} (own : List (Str × Nat)) (hP : i ∉ P) (hc : ∀ i, (X.at_ i).calm = true) (hN : ∀ i, (X.at_ i).N.Nodup) (hi : DI X T W tg iter fi) (ok : ∀ i, BlkOk (X.at_ i).N (X.at_ i).env.scope scope own)
    (hg : DG (blkF X scope) ws tg p) (ht : DTs (blkF X scope) T W0 ifs fc) (he : DE (blkF X scope) T W0 elt fe) (hy : ∀ j, (X.at_ j).N[i]? = some y := by intro _; rfl) (hyl : ∀ j, (X.at_ j).env.scope.names.lookup y = some .local := by intro _; rfl)
    (hsw : ∀ j, swapsWith (.ListComp elt [⟨tg, iter, ifs, 0⟩] scope pos) (some (.Name y py)) spos.line (X.at_ j).env = pure true := by intro _; exact sw_true rfl rfl rfl (by decide +kernel))
    (hws : ∀ i ∈ ws, i ∈ own.map (·.2) := by decide) (hnd : (own.map (·.2)).Nodup := by decide) (hs : ∀ i x, foldedSetIterable iter (X.at_ i).env x = pure x := by intro _ _; rfl) :
    DS X T W P (.Assign [.Name y py] (.ListComp elt [⟨tg, iter, ifs, 0⟩] scope pos) spos) (sSet i (cLc p fi fc fe (own.map (·.2)))) := by
  obtain ⟨wi, pi, si⟩ := hi
  obtain ⟨g, pg, sg⟩ := hg
  obtain ⟨tt, pt, st⟩ := ht
  obtain ⟨te, pe, se⟩ := do_e he
  refine ⟨_, fun j => ps_setLc (hc j) (hN j) (hy j) (hyl j) (hsw j) (pi j) (ok j) (fun s H C cl fp => pg (j, s, H, C, cl, fp)) (fun s H C cl fp => pt (j, s, H, C, cl, fp)) (fun s H C cl fp => pe (j, s, H, C, cl, fp)) (hs j), fun hps σ F H A ρ E a pp => ?_⟩
  refine lc_run (Q := fun x H1 => gName i x σ H1 E.nx) hws hnd si sg st se a ?_
  refine pp.out.imp fun b ρ1 F1 H1 A1 g1 p1 v r => ?_
  obtain ⟨A2, r2, m⟩ := r.store (i := i)
  exact p1.nowN ((Go.refl g1.sub).less m) r2 (Keep.set hP)
/-- y = [..], its list given up at once -/
def sSetD (i : Nat) (f : FE) : FS := fun ρ => (f ρ).out fun p => (ofO (frz p.1)).out fun d => .nx (p.2.set i (.dat d))
theorem ds_frz {P : List Nat} {i : Nat} {s : Stmt} {f : FE} (h : DS X T W P s (sSet i f)) : DS X T W P s (sSetD i f) := by
  obtain ⟨t, ps, s1⟩ := h
  refine ⟨t, ps, fun hps σ F H A ρ E a p => s1 hps σ F H A ρ E a ?_⟩
  unfold sSetD at p
  unfold sSet
  cases q : f ρ with
  | stuck =>
    rw [q] at p
    exact p
  | err x ρ1 =>
    rw [q] at p
    exact p
  | ok z =>
    obtain ⟨b, ρ1⟩ := z
    rw [q] at p
    simp only [out_ok] at p ⊢
    obtain ⟨d, e1, p⟩ := p.opt
    intro σ' F' H' A' g r k
    -- the slot's own list is given up behind the store
    by_cases hl : i < ρ1.length
    · have gi : (ρ1.set i b)[i]? = some b := List.getElem?_set_self hl
      obtain ⟨sv, ft, e2, k2, m2⟩ := r.get gi
      obtain ⟨A2, r2, m3, _⟩ := r.takeOut gi e2
      obtain ⟨v, F3, A3, e3, g3, r3, z⟩ := freeze (T := T) r2 g.sub e1
      subst e3
      have r4 := r3.dat z
      obtain ⟨A4, r5, m5⟩ := r4.putBack e2
      rw [List.set_set, List.set_set] at r5
      have g4 : Go T A' F' H' A4 F3 H' := ((Go.refl g.sub).less m3).trans (g3.less m5)
      exact p.nowN (g.trans g4) r5 k
    · have e2 : ρ1.set i b = ρ1 := List.set_eq_of_length_le (by omega)
      have e3 : ρ1.set i (.dat d) = ρ1 := List.set_eq_of_length_le (by omega)
      rw [e2] at r
      rw [e3] at p
      exact p.nowN g r k
end
end Dl

set_option Elab.async false
set_option linter.all false
set_option maxRecDepth 100000
namespace Dl
open PySem PySem.Spec L2
open PyProof.Rows hiding St

/-! ## defs -/
inductive FR where
  | ok (ret : B) (outs : List B)
  | er (x : Exc) (outs : List B)
  | stuck
abbrev FG := List B → FR
def PostF (K : PySem.W.Frag) (T : List (Addr × Str)) (vs : List V) (F H : Hp) (A : List Addr) (o : FR) (Q : VK) (E : XK) : Prop := match o with
  | .ok ret outs => ∀ v F' H' A', Go T A F H A' F' H' → RepS K F' H' (ret :: outs) (some v :: vs.map some) A' → Q v H'
  | .er x outs => ∀ F' H' A' cls dd, Go T A F H A' F' H' → RepS K F' H' outs (vs.map some) A' → RepX K F' x cls dd → E cls dd H'
  | .stuck => False
/-- the promise: the def is the function G -/
def spD (K : PySem.W.Frag) (T : List (Addr × Str)) (n : Nat) (G : FG) : Sp := fun vs H Q E => vs.length = n ∧ ∃ F A bs, Sub F H ∧ NoTb F ∧ LamX.Tabs T H ∧ RepS K F H bs (vs.map some) A ∧ PostF K T vs F H A (G bs) Q E
section
variable {K : PySem.W.Frag} {F H : Hp} {A : List Addr}
theorem RepS.split : ∀ {ρ1 ρ2 : Ev} {σ1 σ2 : St} {A : List Addr}, ρ1.length = σ1.length → RepS K F H (ρ1 ++ ρ2) (σ1 ++ σ2) A → ∃ A1 A2, RepS K F H ρ1 σ1 A1 ∧ RepS K F H ρ2 σ2 A2 ∧ A = A1 ++ A2 ∧ ∀ a ∈ A1, a ∉ A2
  | [], _, [], _, A, _, h => ⟨[], A, .nil, h, rfl, fun a m => by cases m⟩
  | b :: ρ1, ρ2, sv :: σ1, σ2, A, e, h => by
    obtain ⟨ft, A0, rfl, k, t, dj⟩ := RepS.head (ρ := ρ1 ++ ρ2) (σ := σ1 ++ σ2) h
    obtain ⟨A1, A2, r1, r2, rfl, d2⟩ := RepS.split (Nat.succ.inj e) t
    refine ⟨ft ++ A1, A2, .cons k r1 fun a m z => dj a m (List.mem_append_left _ z), r2, (List.append_assoc ..).symm, fun a m z => ?_⟩
    rcases List.mem_append.mp m with y | y
    · exact dj a y (List.mem_append_right _ z)
    · exact d2 a y z
theorem RepS.join : ∀ {ρ1 ρ2 : Ev} {σ1 σ2 : St} {A1 A2 : List Addr}, RepS K F H ρ1 σ1 A1 → RepS K F H ρ2 σ2 A2 → (∀ a ∈ A1, a ∉ A2) → RepS K F H (ρ1 ++ ρ2) (σ1 ++ σ2) (A1 ++ A2) := by
  intro ρ1 ρ2 σ1 σ2 A1 A2 h k
  induction h with
  | nil => exact fun _ => k
  | @cons b sv ft ρ σ A0 hb _ dj ih =>
    intro d
    have q : RepS K F H (b :: (ρ ++ ρ2)) (sv :: (σ ++ σ2)) (ft ++ (A0 ++ A2)) := .cons hb (ih fun a m => d a (List.mem_append_right _ m)) fun a m z => by
      rcases List.mem_append.mp z with y | y
      · exact dj a m y
      · exact d a (List.mem_append_left _ m) y
    rw [List.append_assoc]
    exact q
def takeArgs : List Opd → Ev → Option (List B × Ev)
  | [], ρ => some ([], ρ)
  | .val d :: os, ρ => (takeArgs os ρ).map fun p => (.dat d :: p.1, p.2)
  | .var i :: os, ρ => (ρ[i]?).bind fun b => (takeArgs os (ρ.set i .un)).map fun p => (b :: p.1, p.2)
def putArgs : List Opd → List B → Ev → Option Ev
  | [], [], ρ => some ρ
  | .val _ :: os, _ :: bs, ρ => putArgs os bs ρ
  | .var i :: os, b :: bs, ρ => (putArgs os bs ρ).map fun ρ' => ρ'.set i b
  | _, _, _ => none
theorem take_ok {σ : St} : ∀ {os : List Opd} {vs : List V} {ρ ρ' : Ev} {bs : List B} {A : List Addr}, RepS K F H ρ σ A → Paired (OpdR K F σ) os vs → takeArgs os ρ = some (bs, ρ') → ∃ A', RepS K F H (bs ++ ρ') (vs.map some ++ σ) A' ∧ (∀ a ∈ A', a ∈ A) ∧ bs.length = vs.length
  | [], _, ρ, ρ', bs, A, r, p, e => by
    cases p
    cases e
    exact ⟨A, r, fun _ m => m, rfl⟩
  | .val d :: os, _, ρ, ρ', bs, A, r, p, e => by
    cases p with
    | cons h1 h2 =>
      simp only [takeArgs] at e
      cases q : takeArgs os ρ with
      | none =>
        rw [q] at e
        cases e
      | some z =>
        rw [q] at e
        cases e
        obtain ⟨A', r', m, l⟩ := take_ok (bs := z.1) (ρ' := z.2) r h2 q
        exact ⟨A', r'.dat h1, m, by rw [List.length_cons, List.length_cons, l]⟩
  | .var i :: os, _, ρ, ρ', bs, A, r, p, e => by
    cases p with
    | @cons _ v _ ws h1 h2 =>
      simp only [takeArgs] at e
      cases qb : ρ[i]? with
      | none =>
        rw [qb] at e
        cases e
      | some b =>
        rw [qb] at e
        simp only [Option.bind_some] at e
        cases q : takeArgs os (ρ.set i .un) with
        | none =>
          rw [q] at e
          cases e
        | some z =>
          rw [q] at e
          cases e
          obtain ⟨A1, r1, m1, _⟩ := r.takeOut qb (show σ[i]? = some (some v) from h1)
          obtain ⟨ft, A2, rfl, k, t, dj⟩ := r1.head
          obtain ⟨A', r', m, l⟩ := take_ok (bs := z.1) (ρ' := z.2) t h2 q
          refine ⟨ft ++ A', .cons k r' fun a x y => dj a x (m a y), fun a x => ?_, by rw [List.length_cons, List.length_cons, l]⟩
          rcases List.mem_append.mp x with y | y
          · exact m1 a (List.mem_append_left _ y)
          · exact m1 a (List.mem_append_right _ (m a y))
theorem put_ok {σ : St} {F0 : Hp} : ∀ {os : List Opd} {vs : List V} {bs : List B} {ρ ρ' : Ev} {A : List Addr}, RepS K F H (bs ++ ρ) (vs.map some ++ σ) A → Paired (OpdR K F0 σ) os vs → putArgs os bs ρ = some ρ' → ∃ A', RepS K F H ρ' σ A' ∧ ∀ a ∈ A', a ∈ A
  | [], _, [], ρ, ρ', A, r, p, e => by
    cases p
    cases e
    exact ⟨A, r, fun _ m => m⟩
  | [], _, _ :: _, ρ, ρ', A, r, p, e => by cases e
  | .val _ :: os, _, [], ρ, ρ', A, r, p, e => by cases e
  | .var _ :: os, _, [], ρ, ρ', A, r, p, e => by cases e
  | .val d :: os, _, b :: bs, ρ, ρ', A, r, p, e => by
    cases p with
    | cons h1 h2 =>
      simp only [putArgs] at e
      obtain ⟨A1, r1, m1⟩ := RepS.tail (ρ := bs ++ ρ) r
      obtain ⟨A2, r2, m2⟩ := put_ok r1 h2 e
      exact ⟨A2, r2, fun a m => m1 a (m2 a m)⟩
  | .var i :: os, _, b :: bs, ρ, ρ', A, r, p, e => by
    cases p with
    | @cons _ v _ ws h1 h2 =>
      simp only [putArgs] at e
      cases q : putArgs os bs ρ with
      | none =>
        rw [q] at e
        cases e
      | some ρ1 =>
        rw [q] at e
        cases e
        obtain ⟨ft, A1, rfl, k, t, dj⟩ := RepS.head (ρ := bs ++ ρ) r
        obtain ⟨A2, r2, m2⟩ := put_ok t h2 q
        have rc : RepS K F H (b :: ρ1) (some v :: σ) (ft ++ A2) := .cons k r2 fun a x y => dj a x (m2 a y)
        obtain ⟨A3, r3, m3⟩ := rc.putBack (show σ[i]? = some (some v) from h1)
        refine ⟨A3, r3, fun a m => ?_⟩
        rcases List.mem_append.mp (m3 a m) with y | y
        · exact List.mem_append_left _ y
        · exact List.mem_append_right _ (m2 a y)
end
def cCall (G : FG) (f : FA) : FE := fun ρ => f ρ >>= fun p => ofO (takeArgs p.1 p.2) >>= fun q => match G q.1 with
  | .ok ret outs => ofO (putArgs p.1 outs q.2) >>= fun ρ' => .ok (ret, ρ')
  | .er x outs => match putArgs p.1 outs q.2 with
    | some ρ' => .err x ρ'
    | none => .stuck
  | .stuck => .stuck
/-- the def x is there, and is the function G -/
structure Callee (X : Fam) (T : List (Addr × Str)) (x : Str) (n : Nat) (G : FG) : Prop where
  get : ∀ i, ∃ k f fd ps, FnOk (X.at_ i).prog (X.at_ i).w (X.at_ i).K (X.at_ i).mg (X.at_ i).base (L2.CX (X.at_ i).prog (X.at_ i).w) k f fd ps (spD X.K T n G) ∧ Room k (X.at_ i).A ∧ Gl (X.at_ i) x ∧ (X.at_ i).mg x = some (.ref f) ∧ PySem.W.keepIn (X.at_ i).K (.ref f) = true ∧ Binds (X.at_ i).K fd ps []
section
variable {X : Fam} {T : List (Addr × Str)} {W : WX}
theorem run_call {n : Nat} {G : FG} {os : List Opd} {vs : List V} {σ : St} {F H : Hp} {A : List Addr} {ρ : Ev} {Q : VK} (hn : vs.length = n) (sub : Sub F H) (ntb : NoTb F) (tab : LamX.Tabs T H) (r : RepS X.K F H ρ σ A) (o : Paired (OpdR X.K F σ) os vs)
    (p : Post X.K T W σ F H A (ofO (takeArgs os ρ) >>= fun q => match G q.1 with
      | .ok ret outs => ofO (putArgs os outs q.2) >>= fun ρ' => .ok (ret, ρ')
      | .er x outs => match putArgs os outs q.2 with
        | some ρ' => .err x ρ'
        | none => .stuck
      | .stuck => .stuck) (fun b ρ' F' H' A' => ∀ v, RepS X.K F' H' (b :: ρ') (some v :: σ) A' → Q v H')) : spD X.K T n G vs H Q (WE W σ) := by
  obtain ⟨⟨bs, ρ2⟩, e1, p⟩ := p.opt
  obtain ⟨A1, r1, m1, l1⟩ := take_ok r o e1
  obtain ⟨Aa, Ar, ra, rr, rfl, dj⟩ := RepS.split (by rw [List.length_map, l1]) r1
  refine ⟨hn, F, Aa, bs, sub, ntb, tab, ra, ?_⟩
  simp only at p
  cases q : G bs with
  | stuck =>
    rw [q] at p
    exact p.elim
  | er x outs =>
    rw [q] at p
    simp only at p
    cases qp : putArgs os outs ρ2 with
    | none =>
      rw [qp] at p
      exact p.elim
    | some ρ3 =>
      rw [qp] at p
      intro F' H' A' cls dd g r' rx
      obtain ⟨rr', djr⟩ := g.keepS rr fun a m z => dj a z m
      have rj := RepS.join r' rr' fun a m z => djr a z m
      obtain ⟨A3, r3, m3⟩ := put_ok rj o qp
      have g' : Go T A F H A3 F' H' := ((g.beside (A2 := Ar)).more fun a m => by
        rcases List.mem_append.mp m with z | z
        · exact m1 a (List.mem_append_right _ z)
        · exact m1 a (List.mem_append_left _ z)).less fun a m => by
          rcases List.mem_append.mp (m3 a m) with z | z
          · exact List.mem_append_right _ z
          · exact List.mem_append_left _ z
      exact p F' H' A3 cls dd g' r3 rx
  | ok ret outs =>
    rw [q] at p
    simp only at p
    obtain ⟨ρ3, qp, p⟩ := p.opt
    intro v F' H' A' g r'
    obtain ⟨rr', djr⟩ := g.keepS rr fun a m z => dj a z m
    obtain ⟨ft, Ao, rfl, k, t, dj2⟩ := r'.head
    have rj := RepS.join t rr' fun a m z => djr a z (List.mem_append_right _ m)
    obtain ⟨A3, r3, m3⟩ := put_ok rj o qp
    have rc : RepS X.K F' H' (ret :: ρ3) (some v :: σ) (ft ++ A3) := .cons k r3 fun a m z => by
      rcases List.mem_append.mp (m3 a z) with y | y
      · exact dj2 a m y
      · exact djr a y (List.mem_append_left _ m)
    have g' : Go T A F H (ft ++ A3) F' H' := ((g.beside (A2 := Ar)).more fun a m => by
      rcases List.mem_append.mp m with z | z
      · exact m1 a (List.mem_append_right _ z)
      · exact m1 a (List.mem_append_left _ z)).less fun a m => by
        rcases List.mem_append.mp m with z | z
        · exact List.mem_append_right _ (List.mem_append_left _ z)
        · rcases List.mem_append.mp (m3 a z) with y | y
          · exact List.mem_append_right _ (List.mem_append_right _ y)
          · exact List.mem_append_left _ y
    exact p.now g' v rc
theorem Paired.lengthOf {α β : Type} {R : α → β → Prop} : ∀ {as : List α} {bs : List β}, Paired R as bs → as.length = bs.length
  | _, _, .nil => rfl
  | _, _, .cons _ t => by rw [List.length_cons, List.length_cons, Paired.lengthOf t]
def LenA (f : FA) (n : Nat) : Prop := ∀ ρ, match f ρ with | .ok z => z.1.length = n | _ => True
theorem de_call {x : Str} {n : Nat} {G : FG} {e : Expr} {es : List Expr} {f : FA} {p pos : Pos} (c : Callee X T x n G) (tk : ∀ i, Takes (X.at_ i) W) (h : DA X T W (e :: es) f) (hn : LenA f n) (hdb : (x == ("__debug__" : Str)) = false := by decide)
    (he : ∀ i, starEach (e :: es) (X.at_ i).env = (false, eval e (X.at_ i).env) :: starEach es (X.at_ i).env := by intro _; rfl) (hpl : ∀ i, (backTo pos (starEach es (X.at_ i).env)).any (·.1) = false := by intro _; rfl) : DE X T W (.Call (.Name x p) (e :: es) [] pos) (cCall G f) := by
  obtain ⟨t, pa, s⟩ := h
  refine ⟨tCallS (spD X.K T n G) (WE W) t, fun i => ?_, fun σ F H A ρ Q a p => s σ F H A ρ _ a ?_⟩
  · obtain ⟨k, fa, fd, ps, F, hr, hg, hm, hk, hb⟩ := c.get i
    exact pe_callS F hr hg hm hk hb (fun σ => passAt (tk i) σ) (pa i) hdb (he i) (hpl i)
  · have hn' := hn ρ
    have pb := p.bind
    cases q : f ρ with
    | stuck =>
      rw [q] at pb
      exact pb.elim
    | err x ρ1 =>
      rw [q] at pb
      exact pb
    | ok z =>
      obtain ⟨os, ρ1⟩ := z
      rw [q] at pb hn'
      intro F1 H1 A1 g1 vs r1 o1
      exact run_call (by rw [← Paired.lengthOf o1]; exact hn') g1.sub (g1.ntb a.ntb) (g1.tab a.tab) r1 o1 (pb F1 H1 A1 g1)
/-- how many arguments -/
theorem lenA_nil : LenA aNil 0 := fun _ => rfl
theorem lenA_cons {f : FO} {g : FA} (n : Nat) (h : LenA g n) : LenA (aCons f g) (n + 1) := fun ρ => by
  unfold aCons
  cases f ρ with
  | stuck => exact True.intro
  | err x ρ1 => exact True.intro
  | ok p =>
    have q := h p.2
    simp only [ok_bind]
    cases e : g p.2 with
    | stuck => exact True.intro
    | err x ρ1 => exact True.intro
    | ok z =>
      rw [e] at q
      exact congrArg Nat.succ q
end

/-! ## a def's body -/
def outsD (Pr : List Nat) : Nat → Nat → Ev → List B
  | _, 0, _ => []
  | j, n + 1, [] => .un :: outsD Pr (j + 1) n []
  | j, n + 1, b :: ρ => (if Pr.contains j = true then b else .un) :: outsD Pr (j + 1) n ρ
section
variable {K : PySem.W.Frag} {F H : Hp}
theorem outs_ok (Pr : List Nat) : ∀ (n j : Nat) {ρ : Ev} {σ svs : St} {A : List Addr}, RepS K F H ρ σ A → svs.length = n → (∀ i, i < n → Pr.contains (j + i) = true → i < ρ.length → σ[i]? = svs[i]?) → ∃ A', RepS K F H (outsD Pr j n ρ) svs A' ∧ ∀ a ∈ A', a ∈ A
  | 0, j, ρ, σ, svs, A, r, hl, k => by
    cases List.length_eq_zero_iff.mp hl
    exact ⟨[], .nil, fun a m => by cases m⟩
  | n + 1, j, [], σ, sv :: svs, A, r, hl, k => by
    obtain ⟨A', r', m⟩ := outs_ok Pr n (j + 1) (ρ := []) (σ := []) (svs := svs) (A := []) .nil (Nat.succ.inj hl) fun i _ _ h => absurd h (Nat.not_lt_zero _)
    exact ⟨A', r'.un, fun a z => absurd (m a z) (by simp)⟩
  | n + 1, j, b :: ρ, s0 :: σ, sv :: svs, A, r, hl, k => by
    obtain ⟨ft, A1, rfl, kb, t, dj⟩ := r.head
    obtain ⟨A', r', m⟩ := outs_ok Pr n (j + 1) t (Nat.succ.inj hl) fun i hi hp hlt => by
      have q := k (i + 1) (Nat.succ_lt_succ hi) (by rw [show j + (i + 1) = j + 1 + i by omega]; exact hp) (Nat.succ_lt_succ hlt)
      simpa using q
    unfold outsD
    by_cases hc : Pr.contains j = true
    · rw [if_pos hc]
      have q := k 0 (Nat.zero_lt_succ _) (by simpa using hc) (Nat.zero_lt_succ _)
      simp at q
      subst q
      refine ⟨ft ++ A', .cons kb r' fun a x y => dj a x (m a y), fun a x => ?_⟩
      rcases List.mem_append.mp x with y | y
      · exact List.mem_append_left _ y
      · exact List.mem_append_right _ (m a y)
    · rw [if_neg hc]
      exact ⟨A', r'.un, fun a x => List.mem_append_right _ (m a x)⟩
end
/-- a body as a def's function -/
def toF (Pr : List Nat) (n nN : Nat) (g : FS) : FG := fun bs => match g (bs ++ List.replicate (nN - n) .un) with
  | .rt b ρ => .ok b (outsD Pr 0 n ρ)
  | .nx ρ => .ok (.dat .non) (outsD Pr 0 n ρ)
  | .er x ρ => .er x (outsD Pr 0 n ρ)
  | _ => .stuck
/-- one context alone -/
def oneF (X : Cx) : Fam := ⟨Unit, fun _ => X, X.K, fun _ => rfl, fun _ _ => True, [], fun _ _ _ => trivial⟩
theorem rep_uns {K : PySem.W.Frag} {F H : Hp} : ∀ n, RepS K F H (List.replicate n .un) (List.replicate n none) []
  | 0 => .nil
  | n + 1 => (rep_uns n).un
section
variable {P : Program} {w : World} {K : PySem.W.Frag} {mg : Str → Option Value} {base : Heap}
/-- THE RULE for a def, its code object told -/
theorem fn_dC {x qual : Str} {st : Stmt} {f : Addr} {N ps : List Str} {k : Nat} {T : List (Addr × Str)} {g : FS} {kV doc pm cdv ct oc : Value} {an od : Option Addr} {osl : Array (Option Value)} (Pr : List Nat) (lk : K.lookup f = some ⟨oc, od, .func (PySem.W.fnOf x qual (defArgs st) (defBody st) (defScope st) .none kV doc pm an cdv ct), osl⟩) (hcd : PySem.W.codeIn K cdv qual = true) (S : FnScope N ps (defScope st)) (hPr : ∀ j ∈ Pr, j < ps.length)
    (hbody : ∀ (A : Around) (outer : List Env) (s : Shared) (H : Hp) (E : XK), Room k (A.deeper (envOfC qual (defScope st) s.heap.objs.size f cdv)) →
      DSs (oneF (cxOf (L2.CX P w) P w K mg base N qual (defScope st) f cdv A outer s H E)) T (fun cls d _ H => E cls d H) Pr (defBody st) g) : FnOk P w K mg base (L2.CX P w) (k + 1) f (PySem.W.fnOf x qual (defArgs st) (defBody st) (defScope st) .none kV doc pm an cdv ct) ps (spD K T ps.length (toF Pr ps.length N.length g)) := by
  refine fn_of lk hcd S (fun vs H Q E h => h.1) (fun A outer s H vs Q E hr h => ?_)
  obtain ⟨hl, F0, A0, bs, sub, ntb, tab, rep, p⟩ := h
  obtain ⟨t, pss, sound⟩ := hbody A outer s H E hr
  refine ⟨t, pss (), sound (fun i h => nomatch (show i ∈ ([] : List Nat) from h)) _ F0 H A0 (bs ++ List.replicate (N.length - ps.length) .un) _ ⟨sub, tab, ?_, trivial, ntb⟩ ?_⟩
  · have q := RepS.join rep (rep_uns (K := K) (F := F0) (H := H) (N.length - ps.length)) fun a m z => by cases z
    rw [List.append_nil] at q
    unfold L2.start
    rw [hl]
    exact q
  · have keep : ∀ {σ' : St}, Keep Pr (L2.start N vs) σ' → ∀ i, i < ps.length → Pr.contains (0 + i) = true → σ'[i]? = (vs.map some)[i]? := fun k i hi hc => by
      rw [Nat.zero_add] at hc
      rw [k i (by simpa using hc)]
      unfold L2.start
      rw [List.getElem?_append_left (by rw [List.length_map, hl]; exact hi)]
    unfold toF at p
    cases q : g (bs ++ List.replicate (N.length - ps.length) .un) with
    | stuck =>
      rw [q] at p
      exact p.elim
    | bk ρ =>
      rw [q] at p
      exact p.elim
    | ct ρ =>
      rw [q] at p
      exact p.elim
    | nx ρ =>
      rw [q] at p
      intro σ' F' H' A' g' r' k'
      obtain ⟨A2, r2, m2⟩ := outs_ok Pr ps.length 0 r' (svs := vs.map some) (by rw [List.length_map]; exact hl) fun i hi hc _ => keep k' i hi hc
      exact p .non F' H' A2 (g'.less m2) (r2.dat rp_non)
    | rt b ρ =>
      rw [q] at p
      intro v σ' F' H' A' g' r' k'
      obtain ⟨ft, A1, rfl, kb, t', dj⟩ := r'.head
      obtain ⟨A2, r2, m2⟩ := outs_ok Pr ps.length 0 t' (svs := vs.map some) (by rw [List.length_map]; exact hl) fun i hi hc _ => keep k' i hi hc
      exact p v F' H' (ft ++ A2) (g'.less fun a m => by
        rcases List.mem_append.mp m with z | z
        · exact List.mem_append_left _ z
        · exact List.mem_append_right _ (m2 a z)) (.cons kb r2 fun a m z => dj a m (m2 a z))
    | er x ρ =>
      rw [q] at p
      intro σ' F' H' A' cls dd g' r' k' rx
      obtain ⟨A2, r2, m2⟩ := outs_ok Pr ps.length 0 r' (svs := vs.map some) (by rw [List.length_map]; exact hl) fun i hi hc _ => keep k' i hi hc
      exact p F' H' A2 cls dd (g'.less m2) r2 rx
/-- THE RULE for a def -/
theorem fn_d {x qual : Str} {st : Stmt} {f : Addr} {fd : FuncData} {N ps : List Str} {k : Nat} {T : List (Addr × Str)} {g : FS} (Pr : List Nat) (F : Fun K x qual st f fd) (S : FnScope N ps (defScope st)) (hPr : ∀ j ∈ Pr, j < ps.length)
    (hbody : ∀ (cdv : Value) (A : Around) (outer : List Env) (s : Shared) (H : Hp) (E : XK), Room k (A.deeper (envOfC qual (defScope st) s.heap.objs.size f cdv)) →
      DSs (oneF (cxOf (L2.CX P w) P w K mg base N qual (defScope st) f cdv A outer s H E)) T (fun cls d _ H => E cls d H) Pr (defBody st) g) : FnOk P w K mg base (L2.CX P w) (k + 1) f fd ps (spD K T ps.length (toF Pr ps.length N.length g)) := by
  obtain ⟨oc, od, kV, doc, pm, an, cdv, ct, osl, rfl, lk, hcd⟩ := F.ex
  exact fn_dC Pr lk hcd S hPr fun A outer s H E hr => hbody cdv A outer s H E hr
end
end Dl

set_option Elab.async false
set_option linter.all false
set_option maxRecDepth 100000
namespace Dl
open PySem PySem.Spec L2
open PyProof.Rows hiding St

/-! ## built-in functions and classes, called -/
def cCB (g : List D → Option B) (f : FA) : FE := fun ρ => f ρ >>= fun p => ofO (rds p.2 p.1) >>= fun ds => ofO (g ds) >>= fun b => .ok (b, p.2)
section
variable {X : Fam} {T : List (Addr × Str)} {W : WX}
theorem runCB {r : List V → Hp → VK → Prop} {g : List D → Option B} (hv : VL X.K T r g) {t : TA} {f : FA} {σ : St} {F H : Hp} {A : List Addr} {ρ : Ev} {Q : VK}
    (s : ∀ σ F H A ρ Q, At X T F H ρ σ A → Post X.K T W σ F H A (f ρ) (fun os ρ' F' H' A' => ∀ vs, RepS X.K F' H' ρ' σ A' → Paired (OpdR X.K F' σ) os vs → Q vs H') → t σ H Q)
    (a : At X T F H ρ σ A) (p : Post X.K T W σ F H A (cCB g f ρ) (fun b ρ' F' H' A' => ∀ v, RepS X.K F' H' (b :: ρ') (some v :: σ) A' → Q v H')) : tCB r t σ H Q := by
  refine s σ F H A ρ _ a ?_
  refine p.bind.imp fun os ρ1 F1 H1 A1 g1 p1 vs r1 o1 => ?_
  obtain ⟨ds, e1, p1⟩ := p1.opt
  obtain ⟨b, e2, p1⟩ := p1.opt
  exact hv F1 H1 A1 ρ1 σ ds vs b Q g1.sub r1 (rds_top g1.sub r1 o1 e1) e2 fun w F3 H3 A3 g3 r3 => p1.now g3 w r3
theorem de_cb {x : Str} {id : String} {r : List V → Hp → VK → Prop} {g : List D → Option B} {e : Expr} {es : List Expr} {f : FA} {p pos : Pos} (hc : ∀ i, CallR (X.at_ i) (.builtin id) r) (hvl : VL X.K T r g) (hm : ∀ i, (X.at_ i).mg x = none) (hv : bootBuiltins x = some (.builtin id)) (h : DA X T W (e :: es) f) (hg : ∀ i, Gl (X.at_ i) x := by intro _; rfl)
    (hn : x ≠ "__name__" := by decide) (hdb : (x == ("__debug__" : Str)) = false := by decide)
    (he : ∀ i, starEach (e :: es) (X.at_ i).env = (false, eval e (X.at_ i).env) :: starEach es (X.at_ i).env := by intro _; rfl) (hpl : ∀ i, (backTo pos (starEach es (X.at_ i).env)).any (·.1) = false := by intro _; rfl) : DE X T W (.Call (.Name x p) (e :: es) [] pos) (cCB g f) := by
  obtain ⟨t, pa, s⟩ := h
  exact ⟨_, fun i => pe_callB (hc i) (hg i) (hm i) hv (pa i) hn hdb (he i) (hpl i), fun σ F H A ρ Q a p => runCB hvl s a p⟩
theorem de_ct {x : Str} {id : String} {r : List V → Hp → VK → Prop} {g : List D → Option B} {e : Expr} {es : List Expr} {f : FA} {p pos : Pos} (hc : ∀ i, CallR (X.at_ i) (.type id) r) (hvl : VL X.K T r g) (hm : ∀ i, (X.at_ i).mg x = none) (hv : bootBuiltins x = some (.type id)) (h : DA X T W (e :: es) f) (hg : ∀ i, Gl (X.at_ i) x := by intro _; rfl)
    (hn : x ≠ "__name__" := by decide) (hdb : (x == ("__debug__" : Str)) = false := by decide)
    (he : ∀ i, starEach (e :: es) (X.at_ i).env = (false, eval e (X.at_ i).env) :: starEach es (X.at_ i).env := by intro _; rfl) (hpl : ∀ i, (backTo pos (starEach es (X.at_ i).env)).any (·.1) = false := by intro _; rfl) : DE X T W (.Call (.Name x p) (e :: es) [] pos) (cCB g f) := by
  obtain ⟨t, pa, s⟩ := h
  exact ⟨_, fun i => pe_callTy (hc i) (hg i) (hm i) hv (pa i) hn hdb (he i) (hpl i), fun σ F H A ρ Q a p => runCB hvl s a p⟩
variable {K : PySem.W.Frag}
/-! len -/
def gLen : List D → Option B
  | [.str z] => if z.length ≤ sizeLine then some (.dat (.int (z.length : Nat))) else none
  | [d] => (seqOf d).map fun ds => .dat (.int (ds.length : Nat))
  | _ => none
abbrev rLen (K : PySem.W.Frag) : List V → Hp → VK → Prop := fun xs H Q => ∃ x n, xs = [x] ∧ LenV K x H n ∧ Q (.int n) H
theorem cr_lenX : ∀ i, CallR (X.at_ i) (.builtin "len") (rLen X.K) := fun i => by
  rw [← X.hK i]
  exact call_len
theorem vl_len : VL K T (rLen K) gLen := by
  intro F H A ρ σ ds vs b Q s r p e f
  unfold gLen at e
  split at e
  · obtain ⟨v, rfl, hv⟩ := Paired.one p
    split at e
    · rename_i c
      cases e
      exact ⟨_, _, rfl, by rw [top_str hv]; exact ⟨c, rfl⟩, f.dat s r rp_int⟩
    · cases e
  · rename_i d _
    obtain ⟨v, rfl, hv⟩ := Paired.one p
    cases q : seqOf d with
    | none =>
      rw [q] at e
      cases e
    | some es =>
      rw [q] at e
      cases e
      obtain ⟨a, xs, rfl, h1, h2⟩ := top_seq s hv q
      refine ⟨_, es.length, rfl, ?_, f.dat s r rp_int⟩
      rcases h1 with h1 | h1
      · exact .inl ⟨xs, h1, h2.length⟩
      · exact .inr ⟨xs, h1, h2.length⟩
  · cases e
/-! isinstance with a built-in class -/
def tyN : D → Option String
  | .non => some "NoneType"
  | .bl _ => some "bool"
  | .int _ => some "int"
  | .str _ => some "str"
  | .lst _ => some "list"
  | .scr _ => some "list"
  | .tup _ => some "tuple"
  | .dk _ => some "dict"
  | .dt _ => some "dict"
  | _ => none
theorem tyX_of {F H : Hp} {d : D} {v : V} {n : String} (s : Sub F H) (h : RpTop K F H d v) (e : tyN d = some n) : TyX K H v (.type n) := by
  have h2 := h.rp s
  cases d <;> simp only [tyN] at e <;> first
    | cases e; done
    | (cases e; unfold Rp at h2; subst h2; first | exact .base .non | exact .base (.bl _) | exact .base (.int _) | exact .base (.str _))
    | skip
  · cases e
    obtain ⟨a, xs, rfl, h1, _⟩ := top_lst h
    exact .base (.lst h1)
  · cases e
    obtain ⟨a, xs, rfl, h1, _⟩ := top_tup s h
    rcases h1 with (h1 | ⟨o, h1⟩) | ⟨o, its, n, h1, h3, _⟩
    · exact .base (.tup h1)
    · exact .fTuple h1
    · exact .kTuple h1 h3
  · cases e
    obtain ⟨a, xs, rfl, h1, _⟩ := top_scr s h
    rcases h1 with (h1 | ⟨o, h1⟩) | ⟨o, its, n, h1, h3, _⟩
    · exact .base (.lst h1)
    · exact .base (.frz h1)
    · exact .kList h1 h3
  · cases e
    unfold Rp at h2
    obtain ⟨a, ys, rfl, h1, _⟩ := h2
    exact .base (.dK h1)
  · cases e
    unfold Rp at h2
    obtain ⟨a, ys, rfl, h1, _⟩ := h2
    exact .base (.dT h1)
/-- the answers, by the names -/
def isTy (a b : String) : Bool := a == b || (a == "bool" && b == "int")
def isTys : List String := ["NoneType", "bool", "int", "str", "list", "tuple", "dict"]
theorem kit_all : (isTys.all fun a => ["bool", "int", "str", "list", "tuple", "dict"].all fun b => kitB a b == some (isTy a b)) = true := by decide +kernel
def gIsi : List D → Option B
  | [d, .opq (.ty b)] => match tyN d with
    | some a => if ["bool", "int", "str", "list", "tuple", "dict"].contains b = true then some (.dat (.bl (isTy a b))) else none
    | none => none
  | _ => none
theorem tyN_mem {d : D} {a : String} (e : tyN d = some a) : a ∈ isTys := by
  cases d <;> simp only [tyN] at e <;> cases e <;> decide
theorem cr_isi : ∀ i, CallR (X.at_ i) (.builtin "isinstance") (rIsi X.K) := fun i => by
  rw [← X.hK i]
  exact call_isi
theorem vl_isi : VL K T (rIsi K) gIsi := by
  intro F H A ρ σ ds vs b Q s r p e f
  unfold gIsi at e
  split at e
  · rename_i d n
    obtain ⟨v, w, rfl, hv, hw⟩ := Paired.two p
    cases q : tyN d with
    | none =>
      rw [q] at e
      cases e
    | some a =>
      rw [q] at e
      simp only at e
      split at e
      · rename_i c
        cases e
        rw [top_opq hw]
        refine ⟨v, .ty n, .type a, .type n, isTy a n, rfl, .ty n, tyX_of s hv q, kit_ty ?_, f.dat s r rp_bl⟩
        have k := List.all_eq_true.mp kit_all a (tyN_mem q)
        have k2 := List.all_eq_true.mp k n (by simpa using c)
        exact eq_of_beq k2
      · cases e
  · cases e
/-! int, str, max, min of two -/
def gInt : List D → Option B
  | [.int i] => some (.dat (.int i))
  | [.bl k] => some (.dat (.int (if k = true then 1 else 0)))
  | _ => none
abbrev rInt : List V → Hp → VK → Prop := fun xs H Q => (∃ i, xs = [.int i] ∧ Q (.int i) H) ∨ ∃ k, xs = [.bl k] ∧ Q (.int (if k then 1 else 0)) H
theorem cr_int : ∀ i, CallR (X.at_ i) (.type "int") rInt := fun i => call_int1
theorem vl_int : VL K T rInt gInt := by
  intro F H A ρ σ ds vs b Q s r p e f
  unfold gInt at e
  split at e
  · cases e
    obtain ⟨v, rfl, hv⟩ := Paired.one p
    exact .inl ⟨_, by rw [top_int hv], f.dat s r rp_int⟩
  · cases e
    obtain ⟨v, rfl, hv⟩ := Paired.one p
    exact .inr ⟨_, by rw [top_bl hv], f.dat s r rp_int⟩
  · cases e
def gStrI : List D → Option B
  | [.int i] => if i.natAbs.log2 < 1920 then some (.dat (.str (toString i))) else none
  | _ => none
abbrev rStrI : List V → Hp → VK → Prop := fun xs H Q => ∃ i, xs = [.int i] ∧ i.natAbs.log2 < 1920 ∧ Q (.str (toString i)) H
theorem cr_strI : ∀ i, CallR (X.at_ i) (.type "str") rStrI := fun i => call_str_int
theorem vl_strI : VL K T rStrI gStrI := by
  intro F H A ρ σ ds vs b Q s r p e f
  unfold gStrI at e
  split at e
  · split at e
    · rename_i c
      cases e
      obtain ⟨v, rfl, hv⟩ := Paired.one p
      exact ⟨_, by rw [top_int hv], c, f.dat s r rp_str⟩
    · cases e
  · cases e
def gMax2 : List D → Option B
  | [.int i, .int j] => some (.dat (.int (if j > i then j else i)))
  | _ => none
def gMin2 : List D → Option B
  | [.int i, .int j] => some (.dat (.int (if j < i then j else i)))
  | _ => none
theorem cr_max2 (hc : ∀ i, (X.at_ i).calm = true) : ∀ i, CallR (X.at_ i) (.builtin "max") (fun xs H Q => ∃ i j, xs = [.int i, .int j] ∧ Q (.int (if j > i then j else i)) H) := fun i => call_max2 (hc i)
theorem cr_min2 (hc : ∀ i, (X.at_ i).calm = true) : ∀ i, CallR (X.at_ i) (.builtin "min") (fun xs H Q => ∃ i j, xs = [.int i, .int j] ∧ Q (.int (if j < i then j else i)) H) := fun i => call_min2 (hc i)
theorem vl_max2 : VL K T (fun xs H Q => ∃ i j, xs = [.int i, .int j] ∧ Q (.int (if j > i then j else i)) H) gMax2 := by
  intro F H A ρ σ ds vs b Q s r p e f
  unfold gMax2 at e
  split at e
  · cases e
    obtain ⟨v, w, rfl, hv, hw⟩ := Paired.two p
    exact ⟨_, _, by rw [top_int hv, top_int hw], f.dat s r rp_int⟩
  · cases e
theorem vl_min2 : VL K T (fun xs H Q => ∃ i j, xs = [.int i, .int j] ∧ Q (.int (if j < i then j else i)) H) gMin2 := by
  intro F H A ρ σ ds vs b Q s r p e f
  unfold gMin2 at e
  split at e
  · cases e
    obtain ⟨v, w, rfl, hv, hw⟩ := Paired.two p
    exact ⟨_, _, by rw [top_int hv, top_int hw], f.dat s r rp_int⟩
  · cases e
/-! list, tuple -/
def gList : List D → Option B
  | [d] => (seqOf d).map .own
  | _ => none
abbrev rList (K : PySem.W.Frag) : List V → Hp → VK → Prop := fun xs H Q => ∃ p ys, xs = [.ref p] ∧ (SqL K H p ys ∨ SqT K H p ys) ∧ ∀ l, H l = none → Q (.ref l) (upd H l (.lst ys))
theorem cr_list : ∀ i, CallR (X.at_ i) (.type "list") (rList X.K) := fun i => by
  rw [← X.hK i]
  exact call_list_of
theorem vl_list : VL K T (rList K) gList := by
  intro F H A ρ σ ds vs b Q s r p e f
  unfold gList at e
  split at e
  · rename_i d
    obtain ⟨v, rfl, hv⟩ := Paired.one p
    cases q : seqOf d with
    | none =>
      rw [q] at e
      cases e
    | some es =>
      rw [q] at e
      cases e
      obtain ⟨a, xs, rfl, h1, h2⟩ := top_seq s hv q
      exact ⟨a, xs, rfl, h1, f.lst s r h2⟩
  · cases e
def gTuple : List D → Option B
  | [.tup ds] => some (.dat (.tup ds))
  | [d] => (lstOf d).map fun ds => .dat (.tup ds)
  | _ => none
abbrev rTuple (K : PySem.W.Frag) : List V → Hp → VK → Prop := fun xs H Q => ∃ p ys, xs = [.ref p] ∧ ((SqL K H p ys ∧ ∀ l, H l = none → Q (.ref l) (upd H l (.tup ys))) ∨ (SqT K H p ys ∧ Q (.ref p) H))
theorem cr_tuple : ∀ i, CallR (X.at_ i) (.type "tuple") (rTuple X.K) := fun i => by
  rw [← X.hK i]
  exact call_tuple_of
theorem vl_tuple : VL K T (rTuple K) gTuple := by
  intro F H A ρ σ ds vs b Q s r p e f
  unfold gTuple at e
  split at e
  · cases e
    obtain ⟨v, rfl, hv⟩ := Paired.one p
    obtain ⟨a, xs, rfl, h1, h2⟩ := top_tup s hv
    exact ⟨a, xs, rfl, .inr ⟨h1, f.dat s r (top_tupF hv)⟩⟩
  · rename_i d _
    obtain ⟨v, rfl, hv⟩ := Paired.one p
    cases q : lstOf d with
    | none =>
      rw [q] at e
      cases e
    | some es =>
      rw [q] at e
      cases e
      obtain ⟨a, xs, rfl, h1, h2⟩ := top_lstOf s hv q
      exact ⟨a, xs, rfl, .inl ⟨h1, f.tup s r h2⟩⟩
  · cases e
/-! all, any, sum, sorted -/
def blsOf : List D → Option (List Bool)
  | [] => some []
  | .bl b :: ds => (blsOf ds).map (b :: ·)
  | _ => none
def intsOf : List D → Option (List Int)
  | [] => some []
  | .int b :: ds => (intsOf ds).map (b :: ·)
  | _ => none
theorem blsOf_some : ∀ {ds : List D} {bs : List Bool}, blsOf ds = some bs → ds = bs.map D.bl
  | [], _, e => by cases e; rfl
  | d :: ds, bs, e => by
    cases d <;> simp only [blsOf] at e <;> first | cases e; done | skip
    cases q : blsOf ds with
    | none =>
      rw [q] at e
      cases e
    | some cs =>
      rw [q] at e
      cases e
      rw [blsOf_some q]
      rfl
theorem intsOf_some : ∀ {ds : List D} {bs : List Int}, intsOf ds = some bs → ds = bs.map D.int
  | [], _, e => by cases e; rfl
  | d :: ds, bs, e => by
    cases d <;> simp only [intsOf] at e <;> first | cases e; done | skip
    cases q : intsOf ds with
    | none =>
      rw [q] at e
      cases e
    | some cs =>
      rw [q] at e
      cases e
      rw [intsOf_some q]
      rfl
@[simp] theorem blsOf_map : ∀ bs : List Bool, blsOf (bs.map D.bl) = some bs
  | [] => rfl
  | b :: bs => by rw [List.map_cons, blsOf, blsOf_map bs]; rfl
@[simp] theorem intsOf_map : ∀ bs : List Int, intsOf (bs.map D.int) = some bs
  | [] => rfl
  | b :: bs => by rw [List.map_cons, intsOf, intsOf_map bs]; rfl
def gAll : List D → Option B
  | [d] => ((lstOf d).bind blsOf).map fun bs => .dat (.bl (bs.all id))
  | _ => none
def gAny : List D → Option B
  | [d] => ((lstOf d).bind blsOf).map fun bs => .dat (.bl (bs.any id))
  | _ => none
def gSum : List D → Option B
  | [d] => ((lstOf d).bind intsOf).map fun ns => .dat (.int ns.sum)
  | _ => none
theorem cr_allX (hc : ∀ i, (X.at_ i).calm = true) : ∀ i, CallR (X.at_ i) (.builtin "all") (rAll X.K) := fun i => by
  rw [← X.hK i]
  exact cr_all (hc i)
theorem cr_anyX (hc : ∀ i, (X.at_ i).calm = true) : ∀ i, CallR (X.at_ i) (.builtin "any") (rAny X.K) := fun i => by
  rw [← X.hK i]
  exact cr_any (hc i)
theorem cr_sumX (hc : ∀ i, (X.at_ i).calm = true) : ∀ i, CallR (X.at_ i) (.builtin "sum") (rSum X.K) := fun i => by
  rw [← X.hK i]
  exact cr_sum (hc i)
theorem top_bls {F H : Hp} {d : D} {v : V} {bs : List Bool} (s : Sub F H) (h : RpTop K F H d v) (e : (lstOf d).bind blsOf = some bs) : ∃ a, v = .ref a ∧ SqL K H a (bs.map V.bl) := by
  cases q : lstOf d with
  | none =>
    rw [q] at e
    cases e
  | some ds =>
    rw [q] at e
    obtain ⟨a, xs, e1, h1, h2⟩ := top_lstOf s h q
    rw [blsOf_some e] at h2
    exact ⟨a, e1, by rw [← RpL.bls_inv h2]; exact h1⟩
theorem top_ints {F H : Hp} {d : D} {v : V} {bs : List Int} (s : Sub F H) (h : RpTop K F H d v) (e : (lstOf d).bind intsOf = some bs) : ∃ a, v = .ref a ∧ SqL K H a (bs.map V.int) := by
  cases q : lstOf d with
  | none =>
    rw [q] at e
    cases e
  | some ds =>
    rw [q] at e
    obtain ⟨a, xs, e1, h1, h2⟩ := top_lstOf s h q
    rw [intsOf_some e] at h2
    exact ⟨a, e1, by rw [← RpL.ints_inv h2]; exact h1⟩
theorem vl_all : VL K T (rAll K) gAll := by
  intro F H A ρ σ ds vs b Q s r p e f
  unfold gAll at e
  split at e
  · rename_i d
    obtain ⟨v, rfl, hv⟩ := Paired.one p
    cases q : (lstOf d).bind blsOf with
    | none =>
      rw [q] at e
      cases e
    | some bs =>
      rw [q] at e
      cases e
      obtain ⟨a, rfl, h1⟩ := top_bls s hv q
      exact ⟨a, bs, rfl, h1, f.dat s r rp_bl⟩
  · cases e
theorem vl_any : VL K T (rAny K) gAny := by
  intro F H A ρ σ ds vs b Q s r p e f
  unfold gAny at e
  split at e
  · rename_i d
    obtain ⟨v, rfl, hv⟩ := Paired.one p
    cases q : (lstOf d).bind blsOf with
    | none =>
      rw [q] at e
      cases e
    | some bs =>
      rw [q] at e
      cases e
      obtain ⟨a, rfl, h1⟩ := top_bls s hv q
      exact ⟨a, bs, rfl, h1, f.dat s r rp_bl⟩
  · cases e
theorem vl_sum : VL K T (rSum K) gSum := by
  intro F H A ρ σ ds vs b Q s r p e f
  unfold gSum at e
  split at e
  · rename_i d
    obtain ⟨v, rfl, hv⟩ := Paired.one p
    cases q : (lstOf d).bind intsOf with
    | none =>
      rw [q] at e
      cases e
    | some bs =>
      rw [q] at e
      cases e
      obtain ⟨a, rfl, h1⟩ := top_ints s hv q
      exact ⟨a, bs, rfl, h1, f.dat s r rp_int⟩
  · cases e
/-- the one sorted arrangement -/
def sortI (ns : List Int) : List Int := ns.mergeSort (fun a b => decide (a ≤ b))
theorem sorted_one : ∀ {xs ys : List Int}, xs.Perm ys → xs.Pairwise (· ≤ ·) → ys.Pairwise (· ≤ ·) → xs = ys
  | [], ys, p, _, _ => (List.nil_perm.mp p).symm
  | x :: xs, [], p, _, _ => by
    have := p.length_eq
    simp at this
  | x :: xs, y :: ys, p, hx, hy => by
    rw [List.pairwise_cons] at hx hy
    have e : x = y := by
      have m1 : x ∈ y :: ys := p.mem_iff.mp List.mem_cons_self
      have m2 : y ∈ x :: xs := p.mem_iff.mpr List.mem_cons_self
      rcases List.mem_cons.mp m1 with z | z
      · exact z
      · rcases List.mem_cons.mp m2 with w | w
        · exact w.symm
        · have a := hx.1 y w
          have b := hy.1 x z
          omega
    subst e
    rw [sorted_one (List.perm_cons x |>.mp p) hx.2 hy.2]
theorem sortI_perm (ns : List Int) : (sortI ns).Perm ns := List.mergeSort_perm ..
theorem sortI_sorted (ns : List Int) : (sortI ns).Pairwise (· ≤ ·) := by
  have h := List.pairwise_mergeSort (le := fun a b : Int => decide (a ≤ b)) (fun a b c h1 h2 => by simp at *; omega) (fun a b => by simp; omega) ns
  exact h.imp fun h => by simpa using h
theorem sortI_of {ms ns : List Int} (p : ms.Perm ns) (h : ms.Pairwise (· ≤ ·)) : ms = sortI ns := sorted_one (p.trans (sortI_perm ns).symm) h (sortI_sorted ns)
def gSorted : List D → Option B
  | [d] => ((lstOf d).bind intsOf).map fun ns => .own ((sortI ns).map .int)
  | _ => none
theorem cr_sortedX : ∀ i, CallR (X.at_ i) (.builtin "sorted") (rSortedI X.K) := fun i => by
  rw [← X.hK i]
  exact cr_sortedI
theorem vl_sorted : VL K T (rSortedI K) gSorted := by
  intro F H A ρ σ ds vs b Q s r p e f
  unfold gSorted at e
  split at e
  · rename_i d
    obtain ⟨v, rfl, hv⟩ := Paired.one p
    cases q : (lstOf d).bind intsOf with
    | none =>
      rw [q] at e
      cases e
    | some bs =>
      rw [q] at e
      cases e
      obtain ⟨a, rfl, h1⟩ := top_ints s hv q
      refine ⟨a, bs, rfl, h1, fun ns' p' hp hs n => ?_⟩
      rw [sortI_of hp hs]
      exact f.lst s r RpL.ints p' n
  · cases e
end
end Dl

set_option Elab.async false
set_option linter.all false
set_option maxRecDepth 100000
namespace Dl
open PySem PySem.Spec L2
open PyProof.Rows hiding St

/-! ## the law's end -/
/-- a def of the module that is there -/
structure FnAt (P : Program) (w : World) (K : PySem.W.Frag) (mg : Str → Option Value) (base : Heap) (T : List (Addr × Str)) (x : Str) (n k : Nat) (G : FG) : Prop where
  ex : ∃ f fd ps, FnOk P w K mg base (L2.CX P w) k f fd ps (spD K T n G) ∧ mg x = some (.ref f) ∧ PySem.W.keepIn K (.ref f) = true ∧ Binds K fd ps []
theorem callee_of {P : Program} {w : World} {K : PySem.W.Frag} {mg : Str → Option Value} {base : Heap} {T : List (Addr × Str)} {x : Str} {n k : Nat} {G : FG} {X : Fam} (h : FnAt P w K mg base T x n k G) (eK : X.K = K)
    (e : ∀ i, (X.at_ i).prog = P ∧ (X.at_ i).w = w ∧ (X.at_ i).mg = mg ∧ (X.at_ i).base = base) (hr : ∀ i, Room k (X.at_ i).A) (hg : ∀ i, Gl (X.at_ i) x) : Callee X T x n G := by
  refine ⟨fun i => ?_⟩
  obtain ⟨f, fd, ps, F, hm, hk, hb⟩ := h.ex
  obtain ⟨e1, e2, e3, e4⟩ := e i
  have e5 := X.hK i
  rw [eK] at e5
  refine ⟨k, f, fd, ps, ?_, hr i, hg i, by rw [e3]; exact hm, by rw [e5]; exact hk, by rw [e5]; exact hb⟩
  rw [e1, e2, e3, e4, e5, eK]
  exact F
/-- what the top has left of a def -/
structure DefAt (K : PySem.W.Frag) (mg : Str → Option Value) (x : Str) (st : Stmt) (ps : List Str) (f : Addr) (fd : FuncData) : Prop where
  fn : Fun K x x st f fd
  g : mg x = some (.ref f)
  b : Binds K fd ps []
theorem DefAt.at {P : Program} {w : World} {K : PySem.W.Frag} {mg : Str → Option Value} {base : Heap} {T : List (Addr × Str)} {x : Str} {st : Stmt} {ps : List Str} {f : Addr} {fd : FuncData} {n k : Nat} {G : FG} (d : DefAt K mg x st ps f fd) (F : FnOk P w K mg base (L2.CX P w) k f fd ps (spD K T n G)) : FnAt P w K mg base T x n k G :=
  ⟨f, fd, ps, F, d.g, d.fn.kp, d.b⟩
def spLawB (K : PySem.W.Frag) (T : List (Addr × Str)) : Sp := fun vs H Q _ => LamX.Tabs T H ∧ ∃ (a : Addr) (ns : List Int), vs = [.ref a] ∧ SqL K H a (ns.map V.int) ∧ ns.length ≤ 63 ∧ (∀ z ∈ ns, Builtin.Int.intBits z ≤ 1048576) ∧ ∀ H', Q (.bl true) H'
theorem law_end {T : List (Addr × Str)} {P : Program} {w : World} {K : PySem.W.Frag} {mg : Str → Option Value} {base : Heap} {k : Nat} {f : Addr} {fd : FuncData} {ps : List Str} {G : FG} (F : FnOk P w K mg base (L2.CX P w) k f fd ps (spD K T 1 G))
    (hG : ∀ ns : List Int, ns.length ≤ 63 → (∀ z ∈ ns, Builtin.Int.intBits z ≤ 1048576) → ∃ outs, G [.dat (.scr (ns.map .int))] = .ok (.dat (.bl true)) outs) : FnOk P w K mg base (L2.CX P w) k f fd ps (spLawB K T) := by
  refine F.imp fun vs H Q E h => ?_
  obtain ⟨hT, a, ns, rfl, hS, hl, hb, q⟩ := h
  obtain ⟨outs, e⟩ := hG ns hl hb
  obtain ⟨F0, sub, ntb, hS'⟩ : ∃ F0 : Hp, Sub F0 H ∧ NoTb F0 ∧ SqL K F0 a (ns.map V.int) := by
    rcases hS with hS | hS
    · refine ⟨fun b => if b = a then H a else none, fun b o e => ?_, ⟨fun b ps e => ?_, fun b o xs e => ?_⟩, ?_⟩
      · by_cases z : b = a
        · subst z
          simpa using e
        · simp [z] at e
      · by_cases z : b = a
        · subst z
          simp at e
          rcases hS with hS | ⟨o, hS⟩ <;> rw [hS] at e <;> cases e
        · simp [z] at e
      · by_cases z : b = a
        · subst z
          simp at e
          rcases hS with hS | ⟨o, hS⟩ <;> rw [hS] at e <;> cases e
        · simp [z] at e
      · rcases hS with hS | ⟨o, hS⟩
        · exact .inl (.inl (by simpa using hS))
        · exact .inl (.inr ⟨o, by simpa using hS⟩)
    · exact ⟨fun _ => none, (fun b o e => by cases e), ⟨(fun b ps e => by cases e), (fun b o xs e => by cases e)⟩, .inr hS⟩
  have r0 : RepS K F0 H [] [] [] := .nil
  refine ⟨rfl, F0, [], [.dat (.scr (ns.map .int))], sub, ntb, hT, ?_, ?_⟩
  · refine r0.dat ?_
    unfold Rp
    exact ⟨a, ns.map V.int, rfl, hS', RpL.ints⟩
  · rw [e]
    intro v F' H' A' g r
    obtain ⟨v', e1, z, _⟩ := r.dat_inv
    cases e1
    unfold Rp at z
    subst z
    exact q H'
theorem walk_law {l : PySem.W.OpenLaw} {q : Program} {loose : List Str} {XP : (Str → Option Value) → Heap → Prop} {YP : World → Heap → Prop} {d : DefRec} {K : Params → PySem.W.Frag} {k : Nat} {x : Str} (hn : l.most = some 63) (hdf : d.params.defaults = []) (hk : Room k callerA)
    (hY : ∀ (w : World) (h : Heap), YP w h → (K w.params).In h)
    (F : ∀ (w : World) (mg : Str → Option Value) (fa : Addr) (h : Heap), (K w.params).In h → h.Ns mainGlobals mg → mg d.name = some (.ref fa) →
      ∃ fd : FuncData, (∀ (s : Shared) (u : Value), BindsTo s fd ⟨[u], []⟩ [(x, u)]) ∧ ∀ base : Heap, (K w.params).In base → base.Ns mainGlobals mg → FnOk l.prog w (K w.params) mg base (L2.CX l.prog w) k fa fd [x] (spLawB (K w.params) [])) :
    PySem.W.WalkO q loose XP YP l.row.toRowW d [] (fun f vs => PySem.call f vs) :=
  L2.walk_ofB (n := 63) (k := k) (x := x) (CX := fun w => L2.CX l.prog w) (sp := fun w => spLawB (K w.params) []) hn (by decide) hdf hk hY F (fun _ _ a ns hl hb _ hS => ⟨(fun _ m => nomatch m), a, ns, rfl, hS, hl, hb, fun _ => rfl⟩) fun _ _ _ _ _ z => by
    obtain ⟨_, _, _, _, _, _, _, _, _, _, _, _, e⟩ := z
    exact e
theorem rp_wtup {K : PySem.W.Frag} {H : Hp} {a : Addr} {o : Obj} {its : Array Value} {n : Nat} {xs : List V} {ds : List D} (l : K.lookup a = some o) (c : o.cls = .type "tuple") (d : o.data = .seq its n) (z : its.size ≤ sizeLine) (v : Vals xs its.toList) (r : RpL K H ds xs) : Rp K H (.tup ds) (.ref a) := by
  unfold Rp
  exact ⟨a, xs, rfl, .inr ⟨o, its, n, l, c, d, z, v⟩, r⟩
end Dl

set_option Elab.async false
set_option linter.all false
set_option maxRecDepth 100000
namespace HT
open PySem PySem.Spec PyProof.Rows
section
variable {prog : Program} {w : World} {A : Around} {E : Value → Shared → Prop} {s : Shared}
theorem adjust_rev (n : Nat) : Builtin.Slice.sliceAdjust none none (-1) (n : Int) = ((n : Int) - 1, -1) := by
  unfold Builtin.Slice.sliceAdjust
  have h1 : ((-1 : Int) < 0) := by omega
  simp only [h1, if_true]
theorem places_rev (n : Nat) : Builtin.Slice.slicePlaces ((n : Int) - 1) (-1) (-1) = n := by
  unfold Builtin.Slice.slicePlaces
  have h1 : ¬ ((-1 : Int) > 0) := by omega
  have h2 : (-(-1 : Int)) = 1 := by omega
  simp only [h1, if_false, h2, Int.ediv_one]
  split <;> omega
theorem sliceApplied_rev {sl : Addr} {vl vu vs : Value} {n : Nat} {Q : Int × Int × Nat → Shared → Prop} (hs : s.heap.IsSliceOf sl vl vu vs) (pl : IsPart vl none) (pu : IsPart vu none) (ps : IsPart vs (some (-1)))
    (h : Q ((n : Int) - 1, -1, n) s) : wpAny (model prog w) A (Builtin.Slice.sliceApplied (.ref sl) (pure (n : Int))) Q E s := by
  obtain ⟨os, hos, hcs, hds⟩ := id hs
  unfold Builtin.Slice.sliceApplied Builtin.Slice.sliceFields
  refine wpAny_bind (wpAny_bind (wpAny_field hos hds (x := vl) rfl (wpAny_bind (wpAny_field hos hds (x := vu) rfl (wpAny_bind (wpAny_field hos hds (x := vs) rfl (wpAny_pure ?_)))))))
  refine wpAny_bind (slicePart_ ps ?_)
  show wpAny _ _ (if ((-1 : Int) == 0) = true then _ else _) _ _ s
  rw [if_neg (by decide)]
  refine wpAny_bind (slicePart_ pl (wpAny_bind (slicePart_ pu (wpAny_bind (wpAny_pure ?_)))))
  show wpAny _ _ (match Builtin.Slice.sliceAdjust none none (-1) (n : Int) with | (lo, hi) => pure (lo, (-1 : Int), Builtin.Slice.slicePlaces lo hi (-1))) _ _ s
  rw [adjust_rev n]
  show wpAny _ _ (pure ((n : Int) - 1, (-1 : Int), Builtin.Slice.slicePlaces ((n : Int) - 1) (-1) (-1))) _ _ s
  rw [places_rev]
  exact wpAny_pure h
theorem filterMap_same {α β : Type} {f g : α → Option β} : ∀ {l : List α}, (∀ a ∈ l, f a = g a) → l.filterMap f = l.filterMap g
  | [], _ => rfl
  | a :: l, h => by
    rw [List.filterMap_cons, List.filterMap_cons, h a List.mem_cons_self, filterMap_same fun b m => h b (List.mem_cons_of_mem _ m)]
theorem pick_rev (xs : List Value) : (List.range xs.length).filterMap (fun (m : Nat) => xs.toArray[((xs.length : Int) - 1 + (m : Int) * (-1)).toNat]?) = xs.reverse := by
  have e : (List.range xs.length).filterMap (fun (m : Nat) => xs.toArray[((xs.length : Int) - 1 + (m : Int) * (-1)).toNat]?) = (List.range xs.length).filterMap (fun m => xs.reverse.toArray[m]?) := by
    refine filterMap_same fun m hm => ?_
    have hl : m < xs.length := List.mem_range.mp hm
    have e1 : ((xs.length : Int) - 1 + (m : Int) * (-1)).toNat = xs.length - 1 - m := by omega
    rw [e1, List.getElem?_toArray, List.getElem?_toArray, List.getElem?_reverse hl]
  rw [e]
  have h := PySem.W.krv_all xs.reverse.toArray
  simpa using h
theorem getItem_tuple_rev {t sl : Addr} {its : List Value} {vl vu vs : Value} {Q : Value → Shared → Prop} (ht : IsTup s.heap t its.toArray) (hs : s.heap.IsSliceOf sl vl vu vs) (pl : IsPart vl none) (pu : IsPart vu none) (ps : IsPart vs (some (-1)))
    (h : Q (.ref s.heap.objs.size) { s with heap := s.heap.push { cls := .type "tuple", data := .seq its.reverse.toArray } })
    (hsz : its.length ≤ sizeLine) : wpAny (model prog w) A (getItem (.ref t) (.ref sl)) Q E s := by
  have htake : sizeOk (.seq its.reverse.toArray) := by
    show its.reverse.toArray.size ≤ sizeLine
    rw [List.size_toArray, List.length_reverse]
    exact hsz
  obtain ⟨os, hos, hcs, hds⟩ := id hs
  have hTs : s.TypeIs (.ref sl) "slice" := ⟨os, hos, hcs⟩
  unfold getItem
  try with_reducible refine wpAny_holding ?_
  first | refine wpAny_bind (wpAny_pure ?_) | skip
  refine wpAny_bind (wpAny_sequenceKey ht.typeIs (by decide) ?_)
  refine wpAny_bind (wpAny_callSpecial?_slot (name := Str.ofString "__getitem__") ht.typeIs PyProof.Rows.slot_tuple_getitem
    (wpAny_call_entry PyProof.Rows.slot_tuple_getitem ht.typeIs entry_tuple_getitem ?_ (args_tuple_getitem _ _)))
  show wpAny _ _ (Builtin.Tuple.tupleItemsOf (.ref t) >>= _) _ _ s
  refine wpAny_bind (tupleItemsOf_ ht ?_)
  refine wpAny_bind (wpAny_typeOf hTs ?_)
  rw [if_pos (by decide)]
  have e0 : ((its.toArray.size : Nat) : Int) = ((its.length : Nat) : Int) := by rw [List.size_toArray]
  refine wpAny_bind (sliceApplied_rev hs pl pu ps ?_)
  have hno : ¬ ((((its.toArray.size : Nat) : Int) - 1 == 0 && (-1 : Int) == 1 && its.toArray.size == its.toArray.size) = true) := by
    intro q
    rw [Bool.and_eq_true, Bool.and_eq_true] at q
    exact absurd (eq_of_beq q.1.2) (by decide)
  show wpAny _ _ (if (((its.toArray.size : Nat) : Int) - 1 == 0 && (-1 : Int) == 1 && its.toArray.size == its.toArray.size) = true then _ else _) _ _ s
  rw [if_neg hno, List.size_toArray, pick_rev]
  first
    | exact wpAny_bind (m := Builtin.Tuple.tupleExact _) (wpAny_newObj_type (wpAny_pure ⟨_, rfl, wpAny_pure h⟩) htake)
    | exact wpAny_bind (m := Builtin.Tuple.tupleExact _) (wpAny_newObj_type (wpAny_bind (wpAny_pure (wpAny_pure ⟨_, rfl, wpAny_pure h⟩))) htake)
    | exact wpAny_bind (wpAny_bind (m := Builtin.Tuple.tupleExact _) (wpAny_newObj_type (wpAny_pure (wpAny_pure ⟨_, rfl, wpAny_pure h⟩)) htake))
    | exact wpAny_bind (wpAny_bind (m := Builtin.Tuple.tupleExact _) (wpAny_newObj_type (wpAny_pure ⟨_, rfl, wpAny_pure h⟩) htake))
end
end HT
namespace Dl
open PySem PySem.Spec L2
open PyProof.Rows hiding St
/-- xs[::-1] of a list, of a tuple -/
def tRevX (K : PySem.W.Frag) (te : TE) : TE := fun σ H Q => te σ H fun x H1 => ∃ a xs, x = .ref a ∧ ((SqL K H1 a xs ∧ ∀ p, H1 p = none → Q (.ref p) (upd H1 p (.lst xs.reverse))) ∨ (SqT K H1 a xs ∧ ∀ p, H1 p = none → Q (.ref p) (upd H1 p (.tup xs.reverse))))
theorem pe_revX {X : Cx} {e : Expr} {te : TE} {k : Nat} {p1 p2 p3 pos : Pos} (he : PE X e te) : PE X (.Subscript e (.Slice none none (some (.UnaryOp .USub (.Constant (.int 1) k p1) p2)) p3) pos) (tRevX X.K te) := by
  refine ⟨fun pins s σ H Q I h => ?_⟩
  refine Subscript_ (thn (he.run pins s σ H _ I h) fun v s1 ⟨x, H1, I1, r1, q1⟩ => ?_)
  obtain ⟨a, xs, ex, q⟩ := q1
  subst ex
  cases r1
  have hst : PO X (some (.UnaryOp .USub (.Constant (.int 1) k p1) p2)) (tPart (tUn (rU fun i => .int (-i)) (tC (.int 1)))) := po_some (pe_un un_neg pe_int)
  refine wpAny_Slice (thn (po_none.run pins s1 σ H1 (fun o H2 => o = none ∧ H2 = H1) I1 ⟨rfl, rfl⟩) fun vl s2 ⟨l, H2, I2, pl, el, e2⟩ => ?_)
  subst el e2
  refine thn (po_none.run pins s2 σ H2 (fun o H3 => o = none ∧ H3 = H2) I2 ⟨rfl, rfl⟩) fun vu s3 ⟨u, H3, I3, pu, eu, e3⟩ => ?_
  subst eu e3
  refine thn (hst.run pins s3 σ H3 (fun o H4 => o = some (-1) ∧ H4 = H3) I3 ⟨1, rfl, -1, rfl, rfl, rfl⟩) fun vs s4 ⟨o, H4, I4, ps, eo, e4⟩ => ?_
  subst eo e4
  have I5 : Inv X pins σ H4 { s4 with heap := s4.heap.push { cls := .type "slice", data := .fields #[vl, vu, vs] } } := I4.kept (t' := s4.toks) fun b ob q => Heap.get?_push_of_some _ q
  rcases q with ⟨hx, q⟩ | ⟨hx, q⟩
  · obtain ⟨its, r, ht, hz⟩ := I5.list hx
    have hlen := r.length
    show wpAny (model X.prog X.w) X.A (subscriptTail e (.Slice none none (some (.UnaryOp .USub (.Constant (.int 1) k p1) p2)) p3) (.ref a) (.ref s4.heap.objs.size)) (EP X pins σ Q) X.xe { s4 with heap := s4.heap.push { cls := .type "slice", data := .fields #[vl, vu, vs] } }
    refine tail_any (ops := [.ref a, .ref s4.heap.objs.size]) ht.isList.typeIs (PySem.slot_list_getitem.lookup) ?_ (by with_unfolding_all rfl)
    refine wpAny_getItem_list_slice ht.isList (Heap.IsSliceOf.new _ vl vu vs) pl pu ps (by decide) ?_ (by rw [List.size_toArray]; omega)
    rw [PySem.W.krv_pick]
    refine ⟨.ref _, _, I5.laid (t' := s4.toks) (o := .lst xs.reverse) (fun b ob q => Heap.get?_push_of_some _ q) (Nat.le_refl _) ?_, rfl, q _ (I5.hok.fresh (Nat.le_refl _))⟩
    exact ⟨by rw [List.length_reverse]; exact hz, _, 0, r.reverse, Heap.get?_push_size _ rfl⟩
  · obtain ⟨its, r, ht, hz⟩ := I5.tuple hx
    have hlen := r.length
    show wpAny (model X.prog X.w) X.A (subscriptTail e (.Slice none none (some (.UnaryOp .USub (.Constant (.int 1) k p1) p2)) p3) (.ref a) (.ref s4.heap.objs.size)) (EP X pins σ Q) X.xe { s4 with heap := s4.heap.push { cls := .type "slice", data := .fields #[vl, vu, vs] } }
    refine tail_any (ops := [.ref a, .ref s4.heap.objs.size]) ht.typeIs (PyProof.Rows.slot_tuple_getitem.lookup) ?_ (by with_unfolding_all rfl)
    refine HT.getItem_tuple_rev ht (Heap.IsSliceOf.new _ vl vu vs) pl pu ps ?_ (by rw [← hlen]; exact hz)
    refine ⟨.ref _, _, I5.laid (t' := s4.toks) (o := .tup xs.reverse) (fun b ob q => Heap.get?_push_of_some _ q) (Nat.le_refl _) ?_, rfl, q _ (I5.hok.fresh (Nat.le_refl _))⟩
    exact ⟨by rw [List.length_reverse]; exact hz, _, r.reverse, ⟨_, Heap.get?_push_size _ rfl, rfl, _, rfl⟩⟩
def gRev : D → Option B
  | .lst ds => some (.own ds.reverse)
  | .scr ds => some (.own ds.reverse)
  | .tup ds => some (.dat (.tup ds.reverse))
  | _ => none
section
variable {X : Fam} {T : List (Addr × Str)} {W : WX}
theorem de_rev {e : Expr} {f : FO} {k : Nat} {p1 p2 p3 pos : Pos} (h : DO X T W e f) : DE X T W (.Subscript e (.Slice none none (some (.UnaryOp .USub (.Constant (.int 1) k p1) p2)) p3) pos) (c1 gRev f) := by
  obtain ⟨t, pe, s⟩ := h
  refine ⟨tRevX X.K t, fun i => ?_, fun σ F H A ρ Q a p => ?_⟩
  · rw [← X.hK i]
    exact pe_revX (pe i)
  · refine run1 (r := fun x H1 Q => ∃ a xs, x = .ref a ∧ ((SqL X.K H1 a xs ∧ ∀ p, H1 p = none → Q (.ref p) (upd H1 p (.lst xs.reverse))) ∨ (SqT X.K H1 a xs ∧ ∀ p, H1 p = none → Q (.ref p) (upd H1 p (.tup xs.reverse))))) ?_ s a p
    intro F H A ρ σ d v b Q s r h e f
    unfold gRev at e
    split at e
    · cases e
      obtain ⟨a, xs, rfl, h1, h2⟩ := top_lst h
      exact ⟨a, xs, rfl, .inl ⟨SqL.of h1, f.lst s r h2.reverse⟩⟩
    · cases e
      obtain ⟨a, xs, rfl, h1, h2⟩ := top_scr s h
      exact ⟨a, xs, rfl, .inl ⟨h1, f.lst s r h2.reverse⟩⟩
    · cases e
      obtain ⟨a, xs, rfl, h1, h2⟩ := top_tup s h
      exact ⟨a, xs, rfl, .inr ⟨h1, f.tup s r h2.reverse⟩⟩
    · cases e
/-- {} (its keys ints and texts) -/
def cDnew : FE := fun ρ => .ok (.odk [], ρ)
theorem de_dnew {pos : Pos} : DE X T W (.Dict [] [] pos) cDnew := by
  refine ⟨_, fun _ => pe_dnewK, fun σ F H A ρ Q a p => ?_⟩
  intro d hd
  have f : Fin X.K T F H A ρ σ (.odk []) Q := fun v F' H' A' g r => p.now g v r
  exact f.dk a.sub a.rep (by unfold RpK; rfl) d hd
end
end Dl

set_option Elab.async false
set_option linter.all false
set_option maxRecDepth 100000
set_option maxHeartbeats 4000000
namespace Dl
open PySem PySem.Spec L2
open PyProof.Rows hiding St

/-! ## isinstance of an exception that may have a dict of its own -/
section
open PySem.W PySem.Calls
variable {prog : Program} {w : World} {A : Around} {E : Value → Shared → Prop} {s : Shared} {K : Frag} {x D : Addr} {ox : Obj} {od : Option Obj}
theorem cls_found (T : ExcC K D) : findObj K D od "__class__" = some (.bind (.builtin "getset_descriptor.__get__") (.builtin "object.__class__")) := by
  obtain ⟨cd, hc, _⟩ := any_some T.hd
  unfold findObj
  rw [hc, Option.bind_some, T.ha, Option.bind_some]
  simp [T.hn, T.ht]
theorem cls_asked {Q : Option Value → Shared → Prop} (T : ExcC K D) (X : K.In s.heap) (I : InstAt s.heap x ox D od)
    (q : Q (some (.ref D)) { s with toks := s.toks + 1 }) : wpAny (model prog w) A (getAttr? (.ref x) "__class__") Q E s := by
  have fo := cls_found (od := od) T
  obtain ⟨hp, gs, dr, tk, os⟩ := s
  have a0 := I.type (M := model prog w)
  have a3 := looks_find (M := model prog w) X I fo
  have ib : Looks (model prog w) hp (isInstance (.ref x) (.type "BaseException")) true := a0.andThen (looks_subIn X T.hs)
  have no : (onTheHeap (Value.ref D) && Value.builtin "BaseException.__getattribute__" == Value.builtin "object.__getattribute__") = false := by
    have : (Value.builtin "BaseException.__getattribute__" == Value.builtin "object.__getattribute__") = false := by decide +kernel
    rw [this, Bool.and_false]
  unfold getAttr? getAttrBy? getAttrBy
  refine wpAny_bind (wpAny_mkText (wpAny_bind (wpAny_attempt (wpAny_holding (wpAny_bind (a0.at (wpAny_bind ((looks_findIn (M := model prog w) X T.hg).at ?_))))))))
  show wpAny _ _ (if (onTheHeap (Value.ref D) && Value.builtin "BaseException.__getattribute__" ==
    Value.builtin "object.__getattribute__") = true then _ else _) _ _ _
  rw [no, if_neg (by decide)]
  unfold getAttrByItsOwn hookBefore
  refine wpAny_bind ?_
  rw [if_pos (by rfl : onTheHeap (Value.ref D) = true)]
  refine (looks_findIn (M := model prog w) X T.hk).at (wpAny_bind (wpAny_attempt (wpAny_holding ?_)))
  unfold callGetattribute
  rw [if_neg (by decide)]
  unfold boundAndCalled
  rw [PySem.F.excAttr_ValueError.ga.bind (.ref x)]
  refine wpAny_bind (wpAny_pure ?_)
  show wpAny _ _ (call (.builtin "BaseException.__getattribute__") [.ref x, .str "__class__" tk]) _ _ _
  refine wpAny_call (codeAny_call_builtin PySem.F.excAttr_ValueError.ga.plain PySem.F.entry_bexc_ga (@check_slot (model prog w) _ _
    ⟨hp, gs, dr, tk + 1, os⟩ "BaseException.__getattribute__" "BaseException" "__getattribute__" (.ref x) [.str "__class__" tk] [] _
    (by decide +kernel) (by decide +kernel) ib (PySem.F.args_bexc_ga (.ref x) (.str "__class__" tk)) ?_))
  unfold Builtin.«object.__getattribute__»
  refine wpAny_bind (wpAny_of_eq (a := (Value.ref x, [Value.str "__class__" tk]))
    (by first | rfl | (simp only [slotArgs]; rfl)) (wpAny_bind (wpAny_pure (wpAny_bind (a0.at (wpAny_bind (a3.at ?_)))))))
  show wpAny _ _ (holding [Value.builtin "object.__class__"] (call (.builtin "getset_descriptor.__get__")
    [.builtin "object.__class__", .ref x, .ref D]) >>= ret) _ _ _
  refine wpAny_bind (wpAny_holding (wpAny_call (class_get (s := ⟨hp, gs, dr, tk + 1, os⟩) X I T.hm (wpAny_pure ?_))))
  show wpAny _ _ (handedOut (.ref D)) _ _ _
  rw [handedOut_of (by rfl : handedIn (.ref D) = true)]
  first
    | exact wpAny_pure (wpAny_pure q)
    | exact wpAny_pure q
    | exact wpAny_pure (wpAny_bind (wpAny_pure (wpAny_pure q)))
theorem cls_not {h : Heap} (T : ExcC K D) (X : K.In h) : ∃ o cd, h.get? D = some o ∧ o.data = .cls cd := by
  obtain ⟨c0, hc, _⟩ := any_some T.hd
  unfold clsIn at hc
  split at hc
  · rename_i c d cd sl ho
    exact ⟨_, _, X _ _ ho, rfl⟩
  · cases hc
theorem kitx_of (T : ExcC K D) : KitX K (.ref x) (.ref D) (fun h => InstAt h x ox D od) where
  ty := fun _ _ _ I => I.type
  ca := fun X I q => cls_asked T X I q
  ne := fun h tp dd its n sl X tq => Bool.eq_false_iff.mpr fun z => by
    have e := Value.ref.inj (beq_iff_eq.mp z)
    subst e
    obtain ⟨o, cd, ho, hd⟩ := cls_not T X
    rw [tq] at ho
    cases ho
    cases hd
  it := fun M h X _ => by
    obtain ⟨o, cd, ho, hd⟩ := cls_not T X
    intro A' Q' E' s' k q
    unfold isType loadHead
    refine wpAny_bind (wpAny_loadPart (k _ _ ho) ?_)
    obtain ⟨oc, odi, oda, osl⟩ := o
    dsimp only at hd
    subst hd
    exact wpAny_pure q
end
/-- what the fields of the exception are: its dict at d -/
def XfI (K : PySem.W.Frag) (F : Hp) (o : Option (List (Str × D))) (d : Option Addr) : Prop := match o with
  | none => d = none
  | some fs => ∃ dd ys, d = some dd ∧ F dd = some (.xd ys) ∧ RpF K F fs ys
theorem XfI.mono {K : PySem.W.Frag} {F F' : Hp} {o : Option (List (Str × D))} {d : Option Addr} (h : XfI K F o d) (s : Sub F F') : XfI K F' o d := by
  cases o with
  | none => exact h
  | some fs =>
    obtain ⟨dd, ys, e, h1, h2⟩ := h
    exact ⟨dd, ys, e, s _ _ h1, RpF.mono s _ h2⟩
/-- isinstance(e, c), e the exception that the suite holds, its dict at d -/
def rIsF (K : PySem.W.Frag) (D a : Addr) (d : Option Addr) : List V → Hp → VK → Prop := fun xs H Q => ∃ (c : V) (cv : Value) (b : Bool), xs = [.ref a, c] ∧ (∀ u, RelV c u → u = cv) ∧ PySem.W.kitOne K (.ref D) cv = some b ∧ (∀ dd, d = some dd → ∃ ys, H dd = some (.xd ys)) ∧ Q (.bl b) H
theorem call_isF {X : Cx} {a D : Addr} {d : Option Addr} {oe : Obj} {pn : List (Addr × Obj)} (T : ExcC X.K D) (hz : Zc (.ref D) d oe) (hf : ∃ vs, oe.data = .fields vs) : CallR (X.suite a ((a, oe) :: pn)) (.builtin "isinstance") (rIsF X.K D a d) := by
  intro pins s σ H xs us Q I r h
  obtain ⟨c, cv, b, rfl, hcv, e, hx, q⟩ := h
  cases r with
  | cons r1 r2 =>
    cases r2 with
    | cons r3 r4 =>
      cases r4
      cases r1
      have ec := hcv _ r3
      subst ec
      have hget := (I.pin (a, oe) (List.mem_append_left _ List.mem_cons_self)).1
      obtain ⟨vs, hv⟩ := hf
      obtain ⟨oc, od, oda, osl⟩ := oe
      obtain ⟨h1, h2⟩ := hz
      dsimp only at h1 h2 hv
      subst h1 h2 hv
      have J : ∃ od', PySem.W.InstAt s.heap a ⟨.ref D, od, .fields vs, osl⟩ D od' := by
        cases od with
        | none => exact ⟨none, hget, rfl, rfl, trivial⟩
        | some dd =>
          obtain ⟨ys, hd⟩ := hx dd rfl
          have ho : ObjOk X.prog X.w H s.heap dd (.xd ys) := I.hok dd _ hd
          obtain ⟨mA, hns, _⟩ := ho
          obtain ⟨o, _, _, e', _⟩ := hns
          exact ⟨some o, hget, rfl, rfl, e'⟩
      obtain ⟨od', J⟩ := J
      exact PySem.W.kia_one (kitx_of T) I.kIn J e (fun z => nomatch z) fun tk => ⟨.bl b, H, I.kept (t' := tk) fun _ _ z => z, rfl, q⟩
end Dl

set_option Elab.async false
set_option linter.all false
set_option maxRecDepth 100000
namespace Dl
open PySem PySem.Spec L2
open PyProof.Rows hiding St

/-! ## what is never reached -/
section
variable {X : Fam} {T : List (Addr × Str)} {W : WX} {P : List Nat}
def eDead : FE := fun _ => .stuck
theorem de_dead {e : Expr} : DE X T W e eDead := ⟨fun _ _ _ => False, fun i => ⟨fun _ _ _ _ _ _ h => h.elim⟩, fun σ F H A ρ Q a p => p.elim⟩
def sDead : FS := fun _ => .stuck
theorem ds_dead {s : Stmt} : DS X T W P s sDead := ⟨fun _ _ _ => False, fun i => ⟨fun _ _ _ _ _ _ h => h.elim⟩, fun hps σ F H A ρ E a p => p.elim⟩

/-! ## an own exception, raised -/
/-- an own class over ValueError without an __init__ of its own -/
structure XAt (K : PySem.W.Frag) (mg : Str → Option Value) (x : Str) : Prop where
  ex : ∃ C, mg x = some (.ref C) ∧ ClsN K x C ∧ PySem.W.excIn K C [.type "ValueError", .type "Exception", .type "BaseException", .type "object"] "ValueError.__new__" = true ∧ PySem.W.keepIn K (.ref C) = true ∧
    PySem.W.subIn K (.ref C) (.type "BaseException") = some true ∧ PySem.W.typeIn K (.ref C) = some (.type "type")
def sRaise (x : Str) : FS := fun ρ => .er ⟨x, none⟩ ρ
theorem ds_raise {K : PySem.W.Frag} {mg : Str → Option Value} {x m : Str} {j : Nat} {p p2 pos pos2 : Pos} (h : XAt K mg x) (eK : X.K = K) (em : ∀ i, (X.at_ i).mg = mg) (hc : ∀ i, (X.at_ i).calm = true) (tk : ∀ i, Takes (X.at_ i) W) (hg : ∀ i, Gl (X.at_ i) x) (hd : (x == ("__debug__" : Str)) = false := by decide) :
    DS X T W P (.Raise (some (.Call (.Name x p) [.Constant (.str m) j p2] [] pos)) none pos2) (sRaise x) := by
  subst eK
  obtain ⟨C, gC, nC, xC, kC, sC, tC⟩ := h.ex
  refine ⟨fun _ σ H => W (.ref C) none σ H, fun i => ?_, fun hps σ F H A ρ E a p => p σ F H A (.ref C) none (Go.refl a.sub) a.rep (Keep.refl P σ) ⟨⟨C, rfl, nC⟩, rfl⟩⟩
  have eK := X.hK i
  refine ps_raise (hc i) (tk i) (pmk_own PySem.F.excBase_ValueError (by rw [eK]; exact xC) (by rw [em i]; exact gC) (by rw [eK]; exact kC) (raises_own (by rw [eK]; exact sC) (by rw [eK]; exact tC)) (hg i) hd)

/-! ## try .. except X as e -/
/-- below another one, by the names -/
def subX (R : List (Str × List Str)) (x c : Str) : Option Bool := match R.lookup x with
  | some ts => some (ts.contains c)
  | none => none
/-- what the written part says of the classes in R: each with those above it that are asked for -/
structure ExcsAt (K : PySem.W.Frag) (R : List (Str × List Str)) (c : Str) (C : Addr) : Prop where
  at_ : ClsN K c C
  sub : ∀ x b, subX R x c = some b → ∀ a, ClsN K x a → PySem.W.exmOne K (.ref a) (.ref C) = some b
/-- the body of a try -/
def trF (X : Fam) (W : WX) : Fam where
  Ix := (i : X.Ix) × (pn : List (Addr × Obj)) × (xe : Value → Shared → Prop) ×' (Takes ((X.at_ i).tr pn xe) W ∧ PassesOwn (model (X.at_ i).prog (X.at_ i).w) (X.at_ i).A (X.at_ i).env xe)
  at_ := fun j => (X.at_ j.1).tr j.2.1 j.2.2.1
  K := X.K
  hK := fun j => X.hK j.1
  inv := X.inv
  ps := X.ps
  mono := X.mono
/-- the suite of an except clause: e at slot i holds the exception at a -/
def suF (X : Fam) (x : Exc) (i : Nat) (a : Addr) (cls : Value) (d : Option Addr) : Fam where
  Ix := (j : X.Ix) × (oe : Obj) × (pn : List (Addr × Obj)) ×' (Zc cls d oe ∧ ∃ vs, oe.data = .fields vs)
  at_ := fun j => (X.at_ j.1).suite a ((a, j.2.1) :: j.2.2.1)
  K := X.K
  hK := fun j => X.hK j.1
  inv := fun σ F => X.inv σ F ∧ σ[i]? = some (some (.ref a)) ∧ XfI X.K F x.fs d
  ps := i :: X.ps
  mono := fun h s k => ⟨X.mono h.1 s fun j m => k j (List.mem_cons_of_mem _ m), (k i List.mem_cons_self).trans h.2.1, h.2.2.mono s⟩
def wipeO (i : Nat) : Out → Out
  | .nx ρ => .nx (ρ.set i .un)
  | .bk ρ => .bk (ρ.set i .un)
  | .ct ρ => .ct (ρ.set i .un)
  | .rt b ρ => .rt b (ρ.set i .un)
  | _ => .stuck
def sTry (R : List (Str × List Str)) (c : Str) (i : Nat) (bd : FS) (su : Exc → FS) : FS := fun ρ => match bd ρ with
  | .er x ρ' => match subX R x.cls c with
    | some true => if i < ρ'.length then wipeO i (su x (ρ'.set i .un)) else .stuck
    | some false => .er x ρ'
    | none => .stuck
  | o => o
/-- any reading of the suite that is right -/
def tU (X : Fam) (ss : List Stmt) : TS := fun D σ H => ∃ t, (∀ j, PSs (X.at_ j) ss t) ∧ t D σ H
theorem pss_U {X : Fam} {ss : List Stmt} (j : X.Ix) : PSs (X.at_ j) ss (tU X ss) := by
  refine ⟨fun pins s σ H D I h => ?_⟩
  obtain ⟨t, ht, q⟩ := h
  exact (ht j).run pins s σ H D I q
theorem ds_try {c n : Str} {i : Nat} {R : List (Str × List Str)} {C : Addr} {body suite : List Stmt} {b0 : Stmt} {np pos pos' : Pos} {bd : FS} {su : Exc → FS} (xa : ExcsAt X.K R c C) (hs : ∀ j, (X.at_ j).stack = (X.at_ j).env :: (X.at_ j).outer) (hf : ∀ j, (X.at_ j).env.frame = some (X.at_ j).env.locals)
    (hN : ∀ j, (X.at_ j).N.Nodup) (hi : ∀ j, (X.at_ j).N[i]? = some n) (hl : ∀ j, (X.at_ j).env.kindOf n = some .local) (hc : ∀ j, Names (X.at_ j) c (.ref C)) (tk : ∀ j, Takes (X.at_ j) W) (hP : i ∉ P)
    (hb : ∀ W', DSs (trF X W') T W' P body bd) (hsu : ∀ (x : Exc) (a : Addr) (cls : Value) (d : Option Addr), (∃ C', cls = .ref C' ∧ ClsN X.K x.cls C') → DSs (suF X x i a cls d) T W0 (i :: P) (b0 :: suite) (su x)) :
    DS X T W P (.Try body [.ExceptHandler (some (.Name c np)) (some n) (b0 :: suite) pos'] [] [] pos) (sTry R c i bd su) := by
  refine ⟨fun E σ H => Classical.choose (hb (wAs X.K (.ref C) i (fun a cls d => tU (suF X ⟨"", none⟩ i a cls d) (b0 :: suite)) W E)) E σ H, fun j => ?_, fun hps σ F H A ρ E at_ p => ?_⟩
  · rw [← X.hK j]
    exact ps_try_as (X := X.at_ j) (tb := fun W' => Classical.choose (hb W')) (ts := fun a cls d => tU (suF X ⟨"", none⟩ i a cls d) (b0 :: suite)) (hs j) (hf j) (hN j) (hi j) (hl j) (hc j) (tk j)
      (fun W' pn xe t po => (Classical.choose_spec (hb W')).1 ⟨j, pn, xe, t, po⟩) (fun a oe cls d pn hz hv => pss_U (X := suF X ⟨"", none⟩ i a cls d) ⟨j, oe, pn, hz, hv⟩)
  · refine (Classical.choose_spec (hb (wAs X.K (.ref C) i (fun a cls d => tU (suF X ⟨"", none⟩ i a cls d) (b0 :: suite)) W E))).2 hps σ F H A ρ E ⟨at_.sub, at_.tab, at_.rep, at_.inv, at_.ntb⟩ ?_
    unfold sTry at p
    cases q : bd ρ with
    | nx ρ' =>
      rw [q] at p
      exact p
    | rt b ρ' =>
      rw [q] at p
      exact p
    | bk ρ' =>
      rw [q] at p
      exact p
    | ct ρ' =>
      rw [q] at p
      exact p
    | stuck =>
      rw [q] at p
      exact p
    | er x ρ' =>
      rw [q] at p
      simp only at p
      intro σ' F' H' A' cls dd g r k rx
      obtain ⟨⟨C', rfl, nC'⟩, hfs⟩ := id rx
      cases qs : subX R x.cls c with
      | none =>
        rw [qs] at p
        exact p.elim
      | some b =>
        rw [qs] at p
        have hm := xa.sub x.cls b qs C' nC'
        cases b with
        | false => exact ⟨false, hm, fun z => Bool.noConfusion z, fun _ => p σ' F' H' A' _ dd g r k rx⟩
        | true =>
          refine ⟨true, hm, fun _ a na => ?_, fun z => Bool.noConfusion z⟩
          simp only at p
          split at p
          · rename_i hlt
            have hlt' : i < σ'.length := by rw [← r.length]; exact hlt
            obtain ⟨t, ht, sound⟩ := hsu x a (.ref C') dd ⟨C', rfl, nC'⟩
            refine ⟨t, ht, ?_⟩
            obtain ⟨A2, r2, m2⟩ := r.set (i := i) (b' := .un) (sv' := some (.ref a)) (ft' := []) rfl (fun a z => by cases z)
            have m2' : ∀ z ∈ A2, z ∈ A' := fun z hz => (m2 z hz).elim id fun h => by cases h
            have g2 : Go T A F H A2 F' H' := g.less m2'
            have hgi : (σ'.set i (some (.ref a)))[i]? = some (some (.ref a)) := List.getElem?_set_self hlt'
            have nps : i ∉ X.ps := fun h => hP (hps i h)
            have iv : X.inv (σ'.set i (some (.ref a))) F' := X.mono at_.inv g.kF fun j m => by
              rw [List.getElem?_set_ne fun z => nps (by rw [z]; exact m)]
              exact k j (hps j m)
            refine sound (fun j hj => ?_) (σ'.set i (some (.ref a))) F' H' A2 (ρ'.set i .un) _ ⟨g2.sub, g2.tab at_.tab, r2, ⟨iv, hgi, hfs⟩, g2.ntb at_.ntb⟩ ?_
            · rcases List.mem_cons.mp hj with z | z
              · rw [z]
                exact List.mem_cons_self
              · exact List.mem_cons_of_mem _ (hps j z)
            · have kk : ∀ {σ2 : St}, Keep (i :: P) (σ'.set i (some (.ref a))) σ2 → Keep P σ σ2 := fun {σ2} h j hj => by
                rw [h j (List.mem_cons_of_mem _ hj), List.getElem?_set_ne fun z => hP (by rw [z]; exact hj)]
                exact k j hj
              have wipeS : ∀ {ρ2 : Ev} {σ2 : St} {F2 H2 : Hp} {A2' : List Addr}, RepS X.K F2 H2 ρ2 σ2 A2' → ∃ A3, RepS X.K F2 H2 (ρ2.set i .un) (σ2.set i none) A3 ∧ ∀ z ∈ A3, z ∈ A2' := fun {ρ2 σ2 F2 H2 A2'} h => by
                obtain ⟨A3, r3, m3⟩ := h.set (i := i) (b' := .un) (sv' := none) (ft' := []) rfl (fun a z => by cases z)
                exact ⟨A3, r3, fun z hz => (m3 z hz).elim id fun h => by cases h⟩
              have keepW : ∀ {σ2 : St}, Keep P σ σ2 → Keep P σ (σ2.set i none) := fun {σ2} h j hj => by
                rw [List.getElem?_set_ne fun z => hP (by rw [z]; exact hj)]
                exact h j hj
              cases qu : su x (ρ'.set i .un) with
              | nx ρ2 =>
                rw [qu] at p
                intro σ3 F3 H3 A3 g3 r3 k3
                obtain ⟨A4, r4, m4⟩ := wipeS r3
                exact p (σ3.set i none) F3 H3 A4 ((g2.trans g3).less m4) r4 (keepW (kk k3))
              | bk ρ2 =>
                rw [qu] at p
                intro σ3 F3 H3 A3 g3 r3 k3
                obtain ⟨A4, r4, m4⟩ := wipeS r3
                exact p (σ3.set i none) F3 H3 A4 ((g2.trans g3).less m4) r4 (keepW (kk k3))
              | ct ρ2 =>
                rw [qu] at p
                intro σ3 F3 H3 A3 g3 r3 k3
                obtain ⟨A4, r4, m4⟩ := wipeS r3
                exact p (σ3.set i none) F3 H3 A4 ((g2.trans g3).less m4) r4 (keepW (kk k3))
              | rt b ρ2 =>
                rw [qu] at p
                intro v σ3 F3 H3 A3 g3 r3 k3
                obtain ⟨ft, A1, rfl, kb, t3, dj⟩ := r3.head
                obtain ⟨A4, r4, m4⟩ := wipeS t3
                exact p v (σ3.set i none) F3 H3 (ft ++ A4) ((g2.trans g3).less fun z hz => by
                  rcases List.mem_append.mp hz with y | y
                  · exact List.mem_append_left _ y
                  · exact List.mem_append_right _ (m4 z y)) (.cons kb r4 fun z hz hy => dj z hz (m4 z hy)) (keepW (kk k3))
              | er x2 ρ2 =>
                rw [qu] at p
                exact p.elim
              | stuck =>
                rw [qu] at p
                exact p.elim
          · exact p.elim
end
end Dl

set_option Elab.async false
set_option linter.all false
set_option maxRecDepth 100000
set_option maxHeartbeats 1000000
namespace Dl
open PySem PySem.Spec L2
open PyProof.Rows hiding St

/-! ## isinstance(e, c), e the exception in its suite -/
/-- what isinstance tells of the classes in R, asked for the class c -/
structure IsAt (K : PySem.W.Frag) (R : List (Str × List Str)) (c : Str) (cv : Value) : Prop where
  sub : ∀ x b, subX R x c = some b → ∀ a, ClsN K x a → ExcC K a ∧ PySem.W.kitOne K (.ref a) cv = some b
def cIsE (R : List (Str × List Str)) (c : Str) (x : Exc) : FE := fun ρ => match subX R x.cls c with
  | some b => .ok (.dat (.bl b), ρ)
  | none => .stuck
section
variable {X : Fam} {T : List (Addr × Str)} {W : WX} {P : List Nat}
theorem de_isE {i : Nat} {a : Addr} {cls : Value} {d : Option Addr} {x : Exc} {R : List (Str × List Str)} {c n : Str} {cv : V} {cV : Value} {ec : Expr} {p p1 pos : Pos} (hcl : ∃ C', cls = .ref C' ∧ ClsN X.K x.cls C') (h : IsAt X.K R c cV) (hrv : ∀ u, RelV cv u → u = cV)
    (hC : ∀ j, PE ((suF X x i a cls d).at_ j) ec (tC cv)) (hg : ∀ j, Gl (X.at_ j) "isinstance") (hm : ∀ j, (X.at_ j).mg "isinstance" = none) (hv : bootBuiltins "isinstance" = some (.builtin "isinstance")) (hN : ∀ j, (X.at_ j).N[i]? = some n) (hvis : ∀ j, Vis (X.at_ j).env.scope n)
    (hdb : (n == ("__debug__" : Str)) = false := by decide) (hcd : (n == ("__classdict__" : Str)) = false := by decide)
    (he : ∀ j, starEach [.Name n p1, ec] (X.at_ j).env = (false, eval (.Name n p1) (X.at_ j).env) :: starEach [ec] (X.at_ j).env := by intro _; rfl) (he2 : ∀ j, starEach [ec] (X.at_ j).env = (false, eval ec (X.at_ j).env) :: starEach [] (X.at_ j).env := by intro _; rfl)
    (hpl : ∀ j, (backTo pos (starEach [ec] (X.at_ j).env)).any (·.1) = false := by intro _; rfl) :
    DE (suF X x i a cls d) T W (.Call (.Name "isinstance" p) [.Name n p1, ec] [] pos) (cIsE R c x) := by
  cases q2 : subX R x.cls c with
  | none =>
    refine de_as de_dead fun ρ => ?_
    unfold cIsE
    rw [q2]
    rfl
  | some b =>
    obtain ⟨C', rfl, nC'⟩ := hcl
    obtain ⟨xc, kit⟩ := h.sub x.cls b q2 C' nC'
    refine ⟨tCB (rIsF X.K C' a d) (tCons (tVar i) (tCons (tC cv) tNil)), fun j => ?_, fun σ F H A ρ Q at_ p => ?_⟩
    · have eK : ((suF X x i a (.ref C') d).at_ j).K = X.K := (suF X x i a (.ref C') d).hK j
      rw [← eK] at xc ⊢
      exact pe_callB (call_isF xc j.2.2.2.1 j.2.2.2.2) (hg j.1) (hm j.1) hv (pa_cons (pe_var (hN j.1) (hvis j.1) hdb hcd) (pa_cons (hC j) pa_nil (he2 j.1)) (he j.1)) (by decide) (by decide) (he j.1) (hpl j.1)
    · unfold cIsE at p
      rw [q2] at p
      refine ⟨_, at_.inv.2.1, cv, cV, b, rfl, hrv, kit, fun dd ed => ?_, p.now (Go.refl at_.sub) (.bl b) (at_.rep.dat rp_bl)⟩
      have xf := at_.inv.2.2
      subst ed
      cases q1 : x.fs with
      | none =>
        rw [q1] at xf
        cases xf
      | some fs =>
        rw [q1] at xf
        obtain ⟨d2, ys, e, h1, _⟩ := xf
        cases e
        exact ⟨ys, at_.sub _ _ h1⟩
end

/-! ## a lambda without parameters, handed to a def that asks it once, in a try -/
def mask : Ev → Ev
  | [] => []
  | b :: ρ => (match b with | .dat d => .dat d | _ => .un) :: mask ρ
theorem RepS.mask {K : PySem.W.Frag} {F H F' H' : Hp} {ρ : Ev} {σ : St} {A : List Addr} (h : RepS K F H ρ σ A) (s : Sub F F') : RepS K F' H' (Dl.mask ρ) σ [] := by
  induction h with
  | nil => exact .nil
  | @cons b sv ft ρ σ A0 hb _ _ ih =>
    cases b with
    | dat d =>
      obtain ⟨_, v, rfl, r⟩ := hb
      exact ih.dat (Rp.mono s d r)
    | un => exact ih.un
    | own _ => exact ih.un
    | odk _ => exact ih.un
    | odt _ => exact ih.un
    | ext _ => exact ih.un
/-- the thunk's outcome in the maker's frame -/
def thunk (f : FE) (ρ : Ev) : R D := match cD f (mask ρ) with
  | .ok (.dat d, _) => .ok d
  | .err x _ => .err x []
  | _ => .stuck
/-- tl does what r says, wherever the frozen part F stands -/
def Rz (K : PySem.W.Frag) (T : List (Addr × Str)) (tl : XK → Hp → VK → Prop) (F : Hp) (r : R D) : Prop := ∀ F' H' E Q, Sub F F' → Sub F' H' → NoTb F' → LamX.Tabs T H' → (match r with
  | .ok d => ∀ v F2 H2, Go T [] F' H' [] F2 H2 → Rp K F2 d v → Q v H2
  | .err x _ => ∀ F2 H2 cls dd, Go T [] F' H' [] F2 H2 → RepX K F2 x cls dd → E cls dd H2
  | .stuck => False) → tl E H' Q
/-- the contexts of the lambda's body -/
def lamF (X : Cx) (k : Nat) (E : XK) (scope : Scope) : Fam where
  Ix := (A : Around) × (outer : List Env) × (s : Shared) × (H : Hp) × (f : Addr) × (c' : Addr) ×' Room k (A.deeper (LamX.lamEnv X scope s.heap.objs.size f c'))
  at_ := fun j => LamX.lamCx X j.1 j.2.1 j.2.2.1 j.2.2.2.1 E scope j.2.2.2.2.1 j.2.2.2.2.2.1
  K := X.K
  hK := fun _ => rfl
  inv := fun _ _ => True
  ps := []
  mono := fun _ _ _ => trivial
section
variable {X : Cx} {T : List (Addr × Str)}
theorem rz_of {k : Nat} {scope : Scope} {body : Expr} {fb : FE} {σ : St} {F H : Hp} {A : List Addr} {ρ : Ev} (hb : ∀ E, DE (lamF X k E scope) T (fun cls d _ H => E cls d H) body (cD fb)) (r : RepS X.K F H ρ σ A) :
    Rz X.K T (fun E H' Q' => Classical.choose (hb E) σ H' Q') F (thunk fb ρ) := by
  intro F' H' E Q s1 s2 nt tb p
  have wide : ∀ {A2 : List Addr} {F2 H2 : Hp}, Go T [] F' H' A2 F2 H2 → Go T [] F' H' [] F2 H2 := fun {A2 F2 H2} g => g.less fun a m => nomatch m
  refine (Classical.choose_spec (hb E)).2 σ F' H' [] (mask ρ) Q ⟨s2, tb, r.mask s1, trivial, nt⟩ ?_
  unfold thunk at p
  cases q : cD fb (mask ρ) with
  | stuck =>
    rw [q] at p
    exact p.elim
  | err x ρ' =>
    rw [q] at p
    exact fun F2 H2 A2 cls dd g _ rx => p F2 H2 cls dd (wide g) rx
  | ok z =>
    obtain ⟨b, ρ'⟩ := z
    rw [q] at p
    cases b with
    | dat d =>
      intro F2 H2 A2 g v rv
      obtain ⟨v', e, rd, _⟩ := rv.dat_inv
      cases e
      exact p v F2 H2 (wide g) rd
    | un => exact p.elim
    | own _ => exact p.elim
    | odk _ => exact p.elim
    | odt _ => exact p.elim
    | ext _ => exact p.elim
end
/-- how the def asks: return (w, a()), return a(), x = (w, a()), a() -/
inductive AskK where
  | ret (w : Str) | retP | set (k : Nat) (w : Str) | drop
def askRes (kd : AskK) (d : D) (ρ : Ev) : Out := match kd with
  | .ret w => .rt (.dat (.tup [.str w, d])) ρ
  | .retP => .rt (.dat d) ρ
  | .set k w => .nx (ρ.set k (.dat (.tup [.str w, d])))
  | .drop => .nx ρ
def wrA (kd : AskK) (te : TE) : TS := fun D σ H => te σ H fun v H1 => match kd with
  | .ret w => ∀ p, H1 p = none → D.rt (.ref p) (upd H1 p (.tup [.str w, v]))
  | .retP => D.rt v H1
  | .set k w => ∀ p, H1 p = none → D.nx (σ.set k (some (.ref p))) (upd H1 p (.tup [.str w, v]))
  | .drop => D.nx σ H1
/-- the statement that asks -/
structure AskS (Y : Cx) (kd : AskK) (a : Str) (S : Stmt) : Prop where
  run : ∀ (pn : List (Addr × Obj)) (xe : Value → Shared → Prop) (te : TE), (∀ p1 p2, PE (Y.tr pn xe) (.Call (.Name a p1) [] [] p2) te) → PS (Y.tr pn xe) S (wrA kd te)
def sAsk (kd : AskK) (Rc : List (Str × List Str)) (c : Str) (i : Nat) (su : Exc → FS) (r : R D) : FS := fun ρ => match r with
  | .ok d => askRes kd d ρ
  | .err x _ => match subX Rc x.cls c with
    | some true => if i < ρ.length then wipeO i (su x (List.replicate ρ.length .un)) else .stuck
    | _ => .stuck
  | .stuck => .stuck
theorem rep_unsOf {K : PySem.W.Frag} {F H : Hp} : ∀ (σ : St), RepS K F H (List.replicate σ.length .un) σ []
  | [] => .nil
  | sv :: σ => (rep_unsOf σ).un
theorem takes_len {X : Cx} {W : WX} (tk : Takes X W) : Takes X (fun c d σ H => σ.length = X.N.length → W c d σ H) := fun u s' ⟨a, B, sI, pins, σ, H, cls, d, e, I, nb, up, sky, na, os, ag, w⟩ =>
  tk u s' ⟨a, B, sI, pins, σ, H, cls, d, e, I, nb, up, sky, na, os, ag, w I.len⟩
def EchW (n : Nat) (W : WX) : XK := fun cls d H' => ∀ σ' : St, σ'.length = n → W cls d σ' H'
/-- what asking asks for -/
def tAct (f c' : Addr) (q : Str) (tl : XK → Hp → VK → Prop) (E : XK) : TE := fun σZ HZ Q => σZ[0]? = some (some (.ref f)) ∧ HZ c' = some (LamX.CodeO c' q) ∧ tl E HZ Q
def tTryA (Y : Cx) (f c' : Addr) (q : Str) (tl : XK → Hp → VK → Prop) (kd : AskK) (C : Addr) (i : Nat) (ss : List Stmt) : TS := fun E σ H =>
  wrA kd (tAct f c' q tl (EchW Y.N.length (wAs Y.K (.ref C) i (fun a cls d => tU (suF (oneF Y) ⟨"", none⟩ i a cls d) ss) W0 E))) E σ H
section
variable {Y : Cx} {T : List (Addr × Str)}
theorem ps_tryA {f c' : Addr} {q a c n : Str} {i : Nat} {C : Addr} {kd : AskK} {S b0 : Stmt} {suite : List Stmt} {tl : XK → Hp → VK → Prop} {np pos pos' : Pos} (hS : AskS Y kd a S)
    (act : ∀ (W : WX) (pn : List (Addr × Obj)) (xe : Value → Shared → Prop) (E : XK) (p1 p2 : Pos), Takes (Y.tr pn xe) W → (∀ cls d σ' H', E cls d H' → W cls d σ' H') → PE (Y.tr pn xe) (.Call (.Name a p1) [] [] p2) (tAct f c' q tl E))
    (hs : Y.stack = Y.env :: Y.outer) (hf : Y.env.frame = some Y.env.locals) (hN : Y.N.Nodup) (hi : Y.N[i]? = some n) (hl : Y.env.kindOf n = some .local) (hc : Names Y c (.ref C)) :
    PS Y (.Try [S] [.ExceptHandler (some (.Name c np)) (some n) (b0 :: suite) pos'] [] [] pos) (tTryA Y f c' q tl kd C i (b0 :: suite)) :=
  ps_try_as (tb := fun W => wrA kd (tAct f c' q tl (EchW Y.N.length W))) (ts := fun a cls d => tU (suF (oneF Y) ⟨"", none⟩ i a cls d) (b0 :: suite)) hs hf hN hi hl hc LamX.takes0
    (fun W pn xe tk _ => pss_one (hS.run pn xe _ fun p1 p2 => act _ pn xe _ p1 p2 (takes_len tk) fun cls d σ' H' h hn => h σ' hn)) (fun a oe cls d pn hz hv => pss_U (X := suF (oneF Y) ⟨"", none⟩ i a cls d) ⟨(), oe, pn, hz, hv⟩)
theorem tryA_sound {f c' : Addr} {q c : Str} {i : Nat} {C : Addr} {kd : AskK} {ss : List Stmt} {tl : XK → Hp → VK → Prop} {Rc : List (Str × List Str)} {su : Exc → FS} {r : R D} {σ : St} {F H : Hp} {A : List Addr} {ρ : Ev} {E : Ends} (xa : ExcsAt Y.K Rc c C) (hn : σ.length = Y.N.length)
    (hsu : ∀ (x : Exc) (a : Addr) (cls : Value) (d : Option Addr), (∃ C', cls = .ref C' ∧ ClsN Y.K x.cls C') → DSs (suF (oneF Y) x i a cls d) T W0 [i] ss (su x))
    (sub : Sub F H) (nt : NoTb F) (tab : LamX.Tabs T H) (rep : RepS Y.K F H ρ σ A) (h0 : σ[0]? = some (some (.ref f))) (hc' : H c' = some (LamX.CodeO c' q)) (rz : Rz Y.K T tl F r)
    (p : PostS Y.K T W0 [] σ F H A (sAsk kd Rc c i su r ρ) E) : tTryA Y f c' q tl kd C i ss E σ H := by
  have wide : ∀ {F2 H2 : Hp}, Go T [] F H [] F2 H2 → Go T A F H A F2 H2 := fun {F2 H2} g => ((g.beside (A2 := A)).more fun a m => by simpa using m).less fun a m => List.mem_append_left _ m
  refine ⟨h0, hc', rz F H _ _ (Sub.refl F) sub nt tab ?_⟩
  unfold sAsk at p
  cases r with
  | stuck => exact p.elim
  | ok d =>
    intro v F2 H2 g rd
    have rep2 := (g.keepS rep fun a _ z => nomatch z).1
    have gl : ∀ (w : Str) (pt : Addr), H2 pt = none → Go T A F H A (upd F2 pt (.tup [.str w, v])) (upd H2 pt (.tup [.str w, v])) ∧ RepS Y.K (upd F2 pt (.tup [.str w, v])) (upd H2 pt (.tup [.str w, v])) ρ σ A ∧ Rp Y.K (upd F2 pt (.tup [.str w, v])) (.tup [.str w, d]) (.ref pt) := fun w pt np => by
      have g2 : Go T A F2 H2 A (upd F2 pt (.tup [.str w, v])) (upd H2 pt (.tup [.str w, v])) := Go.laid g.sub np
      refine ⟨(wide g).trans g2, rep2.laid g.sub np, ?_⟩
      unfold Rp
      exact ⟨pt, _, rfl, SqT.of upd_same, .cons rp_str (.cons (Rp.mono g2.kF d rd) .nil)⟩
    cases kd with
    | ret w =>
      intro pt np
      obtain ⟨g1, r1, r2⟩ := gl w pt np
      exact p _ σ _ _ A g1 (r1.dat r2) (Keep.refl _ _)
    | retP => exact p v σ F2 H2 A (wide g) (rep2.dat rd) (Keep.refl _ _)
    | set k w =>
      intro pt np
      obtain ⟨g1, r1, r2⟩ := gl w pt np
      obtain ⟨A2, r3, m3⟩ := (r1.dat r2).store (i := k)
      exact p _ _ _ A2 (g1.less m3) r3 fun j m => nomatch m
    | drop => exact p σ F2 H2 A (wide g) rep2 (Keep.refl _ _)
  | err x _ =>
    intro F2 H2 cls dd g rx σ' hl
    obtain ⟨⟨C', rfl, nC'⟩, hfs⟩ := id rx
    simp only at p
    cases qs : subX Rc x.cls c with
    | none =>
      rw [qs] at p
      exact p.elim
    | some b =>
      rw [qs] at p
      have hm := xa.sub x.cls b qs C' nC'
      cases b with
      | false => exact p.elim
      | true =>
        refine ⟨true, hm, fun _ a na => ?_, fun z => Bool.noConfusion z⟩
        simp only at p
        split at p
        · rename_i hlt
          have hρ : ρ.length = σ'.length := by rw [rep.length, hn, hl]
          have hlt' : i < σ'.length := by rw [← hρ]; exact hlt
          obtain ⟨t, ht, sound⟩ := hsu x a (.ref C') dd ⟨C', rfl, nC'⟩
          refine ⟨t, ht, ?_⟩
          have r2 : RepS Y.K F2 H2 (List.replicate ρ.length .un) (σ'.set i (some (.ref a))) [] := by
            have := rep_unsOf (K := Y.K) (F := F2) (H := H2) (σ'.set i (some (.ref a)))
            rw [List.length_set, ← hρ] at this
            exact this
          have g2 : Go T A F H [] F2 H2 := (wide g).less fun a m => nomatch m
          have hgi : (σ'.set i (some (.ref a)))[i]? = some (some (.ref a)) := List.getElem?_set_self hlt'
          refine sound (fun j hj => hj) (σ'.set i (some (.ref a))) F2 H2 [] (List.replicate ρ.length .un) _ ⟨g2.sub, g2.tab tab, r2, ⟨trivial, hgi, hfs⟩, g2.ntb nt⟩ ?_
          have wipeS : ∀ {ρ2 : Ev} {σ2 : St} {F2 H2 : Hp} {A2' : List Addr}, RepS Y.K F2 H2 ρ2 σ2 A2' → ∃ A3, RepS Y.K F2 H2 (ρ2.set i .un) (σ2.set i none) A3 ∧ ∀ z ∈ A3, z ∈ A2' := fun {ρ2 σ2 F2 H2 A2'} h => by
            obtain ⟨A3, r3, m3⟩ := h.set (i := i) (b' := .un) (sv' := none) (ft' := []) rfl (fun a z => by cases z)
            exact ⟨A3, r3, fun z hz => (m3 z hz).elim id fun h => by cases h⟩
          cases qu : su x (List.replicate ρ.length .un) with
          | nx ρ2 =>
            rw [qu] at p
            intro σ3 F3 H3 A3 g3 r3 k3
            obtain ⟨A4, r4, m4⟩ := wipeS r3
            exact p (σ3.set i none) F3 H3 A4 ((g2.trans g3).less m4) r4 fun j m => nomatch m
          | bk ρ2 =>
            rw [qu] at p
            intro σ3 F3 H3 A3 g3 r3 k3
            obtain ⟨A4, r4, m4⟩ := wipeS r3
            exact p (σ3.set i none) F3 H3 A4 ((g2.trans g3).less m4) r4 fun j m => nomatch m
          | ct ρ2 =>
            rw [qu] at p
            intro σ3 F3 H3 A3 g3 r3 k3
            obtain ⟨A4, r4, m4⟩ := wipeS r3
            exact p (σ3.set i none) F3 H3 A4 ((g2.trans g3).less m4) r4 fun j m => nomatch m
          | rt b ρ2 =>
            rw [qu] at p
            intro v σ3 F3 H3 A3 g3 r3 k3
            obtain ⟨ft, A1, rfl, kb, t3, dj⟩ := r3.head
            obtain ⟨A4, r4, m4⟩ := wipeS t3
            exact p v (σ3.set i none) F3 H3 (ft ++ A4) ((g2.trans g3).less fun z hz => by
              rcases List.mem_append.mp hz with y | y
              · exact List.mem_append_left _ y
              · exact List.mem_append_right _ (m4 z y)) (.cons kb r4 fun z hz hy => dj z hz (m4 z hy)) fun j m => nomatch m
          | er x2 ρ2 =>
            rw [qu] at p
            exact p.elim
          | stuck =>
            rw [qu] at p
            exact p.elim
        · exact p.elim
end
/-! the def that asks -/
def PostT (K : PySem.W.Frag) (T : List (Addr × Str)) (F H : Hp) (o : Out) (Q : VK) : Prop := match o with
  | .rt b ρ' => ∀ v σ' F' H' A', Go T [] F H A' F' H' → RepS K F' H' (b :: ρ') (some v :: σ') A' → Q v H'
  | .nx _ => ∀ F' H' A', Go T [] F H A' F' H' → Q .non H'
  | _ => False
/-- m: the def as a function of the thunk's outcome -/
def TD (K : PySem.W.Frag) (T : List (Addr × Str)) (n : Nat) (m : R D → FS) : (XK → Hp → VK → Prop) → Hp → VK → Prop := fun tl H Q => ∃ r F, Sub F H ∧ NoTb F ∧ LamX.Tabs T H ∧ Rz K T tl F r ∧ PostT K T F H (m r (List.replicate n .un)) Q
theorem postS_of {K : PySem.W.Frag} {T : List (Addr × Str)} {W : WX} {P : List Nat} {σ : St} {F H F1 H1 : Hp} {A1 : List Addr} {o : Out} {Q : VK} (p : PostT K T F H o Q) (g1 : Go T [] F H A1 F1 H1) : PostS K T W P σ F1 H1 A1 o { nx := fun _ H' => Q .non H', rt := Q, bk := fun _ _ => False, ct := fun _ _ => False } := by
  cases o with
  | nx ρ => exact fun σ' F' H' A' g _ _ => p F' H' A' (g1.trans g)
  | rt b ρ => exact fun v σ' F' H' A' g r _ => p v σ' F' H' A' (g1.trans g) r
  | bk ρ => exact p.elim
  | ct ρ => exact p.elim
  | er x ρ => exact p.elim
  | stuck => exact p.elim
def sLen (n : Nat) (g : FS) : FS := fun ρ => if ρ.length = n then g ρ else .stuck
section
variable {X : Cx} {T : List (Addr × Str)}
/-- the context in which the def is entered -/
abbrev cxA (X : Cx) (Ng : List Str) (x : Str) (sg : Scope) (g : Addr) (cdg : Value) (s : Shared) (H : Hp) : Cx := (cxOf C8.CX0 X.prog X.w X.K X.mg X.base Ng x sg g cdg X.A X.stack s H C8.E0).nox
theorem gives1 {Ng : List Str} {x a q c n : Str} {sg : Scope} {g C : Addr} {cdg : Value} {i : Nat} {kd : AskK} {S b0 : Stmt} {suite : List Stmt} {np pos pos' : Pos} {Rc : List (Str × List Str)} {su : Exc → FS} (xa : ExcsAt X.K Rc c C) (hS : ∀ s H, AskS (cxA X Ng x sg g cdg s H) kd a S)
    (hN : Ng.Nodup) (hi : Ng[i]? = some n) (hl : ∀ s H, (cxA X Ng x sg g cdg s H).env.kindOf n = some .local) (hc : ∀ s H, Names (cxA X Ng x sg g cdg s H) c (.ref C)) (h0 : 0 < Ng.length)
    (hsu : ∀ s H (x' : Exc) (a : Addr) (cls : Value) (d : Option Addr), (∃ C', cls = .ref C' ∧ ClsN X.K x'.cls C') → DSs (suF (oneF (cxA X Ng x sg g cdg s H)) x' i a cls d) T W0 [i] (b0 :: suite) (su x')) :
    LamX.GivesTo X Ng x sg g cdg [.Try [S] [.ExceptHandler (some (.Name c np)) (some n) (b0 :: suite) pos'] [] [] pos] a q (TD X.K T Ng.length fun r => sAsk kd Rc c i su r) := by
  intro f c' s H Q tl act hc' h
  obtain ⟨r, F, sub, nt, tab, rz, p⟩ := h
  refine ⟨_, pss_one (ps_tryA (Y := cxA X Ng x sg g cdg s H) (hS s H) act rfl rfl hN hi (hl s H) (hc s H)), ?_⟩
  have hlen : (L2.start Ng [V.ref f]).length = Ng.length := by
    unfold L2.start
    rw [List.length_append, List.length_map, List.length_replicate, List.length_singleton]
    omega
  have rep : RepS X.K F H (List.replicate Ng.length .un) (L2.start Ng [V.ref f]) [] := by
    have := rep_unsOf (K := X.K) (F := F) (H := H) (L2.start Ng [V.ref f])
    rw [hlen] at this
    exact this
  exact tryA_sound (Y := cxA X Ng x sg g cdg s H) (σ := L2.start Ng [.ref f]) (A := []) xa hlen (hsu s H) sub nt tab rep (by unfold L2.start; rfl) hc' rz (postS_of p (Go.refl sub))
/-- a statement ahead, one behind -/
theorem gives3 {Ng : List Str} {x a q c n : Str} {sg : Scope} {g C : Addr} {cdg : Value} {i : Nat} {kd : AskK} {S b0 S1 S2 : Stmt} {suite : List Stmt} {np pos pos' : Pos} {Rc : List (Str × List Str)} {su : Exc → FS} {f1 f2 : FS} (xa : ExcsAt X.K Rc c C) (hS : ∀ s H, AskS (cxA X Ng x sg g cdg s H) kd a S)
    (hN : Ng.Nodup) (hi : Ng[i]? = some n) (hl : ∀ s H, (cxA X Ng x sg g cdg s H).env.kindOf n = some .local) (hc : ∀ s H, Names (cxA X Ng x sg g cdg s H) c (.ref C)) (h0 : 0 < Ng.length)
    (hsu : ∀ s H (x' : Exc) (a : Addr) (cls : Value) (d : Option Addr), (∃ C', cls = .ref C' ∧ ClsN X.K x'.cls C') → DSs (suF (oneF (cxA X Ng x sg g cdg s H)) x' i a cls d) T W0 [i] (b0 :: suite) (su x'))
    (h1 : ∀ s H, DS (oneF (cxA X Ng x sg g cdg s H)) T W0 [0] S1 f1) (h2 : ∀ s H, DS (oneF (cxA X Ng x sg g cdg s H)) T W0 [] S2 f2) :
    LamX.GivesTo X Ng x sg g cdg [S1, .Try [S] [.ExceptHandler (some (.Name c np)) (some n) (b0 :: suite) pos'] [] [] pos, S2] a q (TD X.K T Ng.length fun r => sSeq f1 (sLen Ng.length (sSeq (sAsk kd Rc c i su r) f2))) := by
  intro f c' s H Q tl act hc' h
  obtain ⟨r, F, sub, nt, tab, rz, p⟩ := h
  obtain ⟨t1, ps1, so1⟩ := h1 s H
  obtain ⟨t2, ps2, so2⟩ := h2 s H
  refine ⟨_, pss_cons (ps1 ()) (pss_cons (ps_tryA (Y := cxA X Ng x sg g cdg s H) (hS s H) act rfl rfl hN hi (hl s H) (hc s H)) (pss_one (ps2 ()))), ?_⟩
  have hlen : (L2.start Ng [V.ref f]).length = Ng.length := by
    unfold L2.start
    rw [List.length_append, List.length_map, List.length_replicate, List.length_singleton]
    omega
  have rep : RepS X.K F H (List.replicate Ng.length .un) (L2.start Ng [V.ref f]) [] := by
    have := rep_unsOf (K := X.K) (F := F) (H := H) (L2.start Ng [V.ref f])
    rw [hlen] at this
    exact this
  refine so1 (fun j m => nomatch (show j ∈ ([] : List Nat) from m)) _ F H [] _ _ ⟨sub, tab, rep, trivial, nt⟩ ?_
  have p0 := postS_of (W := W0) (P := [0]) (σ := L2.start Ng [V.ref f]) p (Go.refl sub)
  refine PostS.then' (g := sLen Ng.length (sSeq (sAsk kd Rc c i su r) f2)) p0 fun ρ1 σ1 F1 H1 A1 e1 g1 r1 k1 _ => ?_
  have pT : PostT X.K T F H (sLen Ng.length (sSeq (sAsk kd Rc c i su r) f2) ρ1) Q := by
    have q : (f1 (List.replicate Ng.length .un)).then (sLen Ng.length (sSeq (sAsk kd Rc c i su r) f2)) = sLen Ng.length (sSeq (sAsk kd Rc c i su r) f2) ρ1 := by rw [e1]; rfl
    rw [← q]
    exact p
  have hσ0 : σ1[0]? = some (some (V.ref f)) := by
    rw [k1 0 (by simp)]
    unfold L2.start
    rfl
  unfold sLen at pT
  split at pT
  · rename_i hl1
    have hl1' : σ1.length = Ng.length := by rw [← r1.length]; exact hl1
    have hcc : H1 c' = some (LamX.CodeO c' q) := g1.kH c' _ hc' (fun z => nomatch z) LamX.codeO_ne
    have rz1 : Rz X.K T tl F1 r := fun F' H' E Q s1 => rz F' H' E Q (g1.kF.trans s1)
    refine tryA_sound (Y := cxA X Ng x sg g cdg s H) (r := r) xa hl1' (hsu s H) g1.sub (g1.ntb nt) (g1.tab tab) r1 hσ0 hcc rz1 ?_
    have p2 := postS_of (W := W0) (P := []) (σ := σ1) pT g1
    exact PostS.then' (g := f2) p2 fun ρ2 σ2 F2 H2 A2 e2 g2 r2 k2 p3 => so2 (fun j m => nomatch (show j ∈ ([] : List Nat) from m)) σ2 F2 H2 A2 ρ2 _ ⟨g2.sub, (g1.trans g2).tab tab, r2, trivial, (g1.trans g2).ntb nt⟩ p3
  · exact pT.elim
end
end Dl

set_option Elab.async false
set_option linter.all false
set_option maxRecDepth 100000
set_option maxHeartbeats 1000000
namespace Dl
open PySem PySem.Spec L2
open PyProof.Rows hiding St

/-! ## a lambda handed to a def -/
/-- x(lambda: body): m the def x as a function of the thunk's outcome, n its slots -/
def cLam (n : Nat) (m : R D → FS) (fb : FE) : FE := fun ρ => match m (thunk fb ρ) (List.replicate n .un) with
  | .rt b _ => fin2 ρ (frz b)
  | .nx _ => .ok (.dat .non, ρ)
  | _ => .stuck
where
  fin2 (ρ : Ev) : Option D → R (B × Ev)
    | some d => .ok (.dat d, ρ)
    | none => .stuck
/-- what is asked of the def that gets the lambda -/
structure AskAt (X : Cx) (T : List (Addr × Str)) (x a : Str) (q : Str) (n : Nat) (m : R D → FS) : Prop where
  ex : ∃ (g : Addr) (oc : Value) (od : Option Addr) (pg : Arguments) (bg : List Stmt) (sg : Scope) (dV kV doc pm : Value) (an : Option Addr) (cdv ct : Value) (osl : Array (Option Value)) (Ng : List Str),
    X.mg x = some (.ref g) ∧ PySem.W.keepIn X.K (.ref g) = true ∧ X.K.lookup g = some ⟨oc, od, .func (PySem.W.fnOf x x pg bg sg dV kV doc pm an cdv ct), osl⟩ ∧ PySem.W.codeIn X.K cdv x = true ∧ L2.Binds X.K (PySem.W.fnOf x x pg bg sg dV kV doc pm an cdv ct) [a] [] ∧
      FnScope Ng [a] sg ∧ Ng[0]? = some a ∧ Vis sg a ∧ LamX.GivesTo X Ng x sg g cdv bg a q (TD X.K T n m)
section
variable {X : Cx} {T : List (Addr × Str)} {W : WX}
theorem Rz.mono {K : PySem.W.Frag} {tl : XK → Hp → VK → Prop} {F F1 : Hp} {r : R D} (h : Rz K T tl F r) (s : Sub F F1) : Rz K T tl F1 r := fun F' H' E Q s1 => h F' H' E Q (s.trans s1)
theorem go_ext {F H H1 : Hp} {A : List Addr} (s : Sub F H) (nt : NoTb F) (e : LamX.ExtN H H1) (t1 : LamX.Tabs T H1) : Go T A F H A F H1 :=
  ⟨fun a o h _ n => e a o h n, fun a o h n => ⟨o, e a o h n, n⟩, Sub.refl F, fun a o h => e a o (s a o h) fun ps z => nt.1 a ps (by rw [h, z]), fun a o h => .inl h, fun a m => .inl m, fun _ => t1, fun h => h⟩
theorem de_lam {x a : Str} {k n : Nat} {c P : Addr} {m : R D → FS} {params : Arguments} {body : Expr} {scope : Scope} {fb : FE} {p lpos pos : Pos} (ask : AskAt X T x a (X.env.qual ++ "<lambda>") n m) (hg : Gl X x) (TB : LamX.TabB X.base X.mg c P) (hcode : X.env.code = .ref c) (hmT : (P, X.env.qual ++ "<lambda>") ∈ T)
    (hu : ∀ p ∈ T, p.1 = P → p.2 = X.env.qual ++ "<lambda>") (hr : Room (k + 2) X.A) (L : LamX.LamS X.env.scope scope) (hdef : defaultsOf params X.env = ([], []))
    (hbind : ∀ (q : Str) (cl : List (Str × Addr)) (pm cv ctv : Value), bindArgs (PySem.W.kla_fn "<lambda>" q params body scope cl pm cv ctv) ⟨[], []⟩ = pure [])
    (hb : ∀ E, DE (lamF X k E scope) T (fun cls d _ H => E cls d H) body fb) (hdb : (x == ("__debug__" : Str)) = false := by decide) (hd : (a == ("__debug__" : Str)) = false := by decide) (hcd : (a == ("__classdict__" : Str)) = false := by decide) :
    DE (oneF X) T W (.Call (.Name x p) [.Lambda params body scope lpos] [] pos) (cLam n m fb) := by
  obtain ⟨g, oc, od, pg, bg, sg, dV, kV, doc, pm, an, cdv, ct, osl, Ng, hm, hk, lk, hcg, hbd, Sg, hNg, hva, hG⟩ := ask.ex
  have hb' : ∀ E, DE (lamF X k E scope) T (fun cls d _ H => E cls d H) body (cD fb) := fun E => de_d (hb E)
  refine ⟨LamX.tLam T (TD X.K T n m) (fun E => Classical.choose (hb' E)), fun _ => ?_, fun σ F H A ρ Q at_ p => ?_⟩
  · exact LamX.pe_lamcall hg hm hk lk hcg hbd Sg hNg hva hG TB hcode hmT hu hr L hdef hbind (fun A outer s H E f c' hrr => (Classical.choose_spec (hb' E)).1 ⟨A, outer, s, H, f, c', hrr⟩) hdb hd hcd
  · refine ⟨at_.tab, fun H1 eN t1 => ?_⟩
    have g0 : Go T A F H A F H1 := go_ext at_.sub at_.ntb eN t1
    have rep1 : RepS X.K F H1 ρ σ A := at_.rep.stab (Sub.refl F) (fun b mb => by
      obtain ⟨⟨o, e, nt⟩, _⟩ := at_.rep.live b mb
      rw [e]
      exact eN b o e nt) fun b mb => (at_.rep.live b mb).2
    refine ⟨thunk fb ρ, F, g0.sub, at_.ntb, t1, rz_of hb' at_.rep, ?_⟩
    unfold cLam at p
    cases q : m (thunk fb ρ) (List.replicate n .un) with
    | nx ρ' =>
      rw [q] at p
      intro F' H' A' g
      have gw : Go T A F H1 A F' H' := (((g.beside (A2 := A)).more fun a m => by simpa using m).less fun a m => List.mem_append_left _ m)
      have rep2 := (g.keepS rep1 fun a _ z => nomatch z).1
      exact p.now (g0.trans gw) .non (rep2.dat rp_non)
    | rt b ρ' =>
      rw [q] at p
      simp only at p
      cases qf : frz b with
      | none =>
        rw [qf] at p
        exact p.elim
      | some d =>
        rw [qf] at p
        intro v σ' F' H' A' g r
        obtain ⟨v', F2, A2, e, g2, _, rd⟩ := freeze (T := T) r g.sub qf
        cases e
        have gg : Go T [] F H1 [] F2 H' := (g.trans g2).less fun a m => nomatch m
        have gw : Go T A F H1 A F2 H' := (((gg.beside (A2 := A)).more fun a m => by simpa using m).less fun a m => List.mem_append_left _ m)
        have rep2 := (gg.keepS rep1 fun a _ z => nomatch z).1
        exact p.now (g0.trans gw) v (rep2.dat rd)
    | bk ρ' =>
      rw [q] at p
      exact p.elim
    | ct ρ' =>
      rw [q] at p
      exact p.elim
    | er x ρ' =>
      rw [q] at p
      exact p.elim
    | stuck =>
      rw [q] at p
      exact p.elim
end
end Dl

set_option Elab.async false
set_option linter.all false
set_option maxRecDepth 100000
set_option maxHeartbeats 1000000
namespace Dl
open PySem PySem.Spec L2
open PyProof.Rows hiding St

/-! ## the end of a law whose defs make lambdas; what the end tells of classes -/
/-- a def that makes lambdas: its code object at c -/
structure LamDef (K : PySem.W.Frag) (mg : Str → Option Value) (x : Str) (st : Stmt) (ps : List Str) (f : Addr) (fd : FuncData) (c : Addr) : Prop where
  ex : ∃ (oc : Value) (od : Option Addr) (kV doc pm : Value) (an : Option Addr) (ct : Value) (osl : Array (Option Value)), fd = PySem.W.fnOf x x (defArgs st) (defBody st) (defScope st) .none kV doc pm an (.ref c) ct ∧ K.lookup f = some ⟨oc, od, .func fd, osl⟩ ∧ PySem.W.codeIn K (.ref c) x = true
  g : mg x = some (.ref f)
  b : Binds K fd ps []
  kp : PySem.W.keepIn K (.ref f) = true
section
variable {P : Program} {w : World} {K : PySem.W.Frag} {mg : Str → Option Value} {base : Heap}
theorem LamDef.ok {x : Str} {st : Stmt} {f c : Addr} {fd : FuncData} {N ps : List Str} {k : Nat} {T : List (Addr × Str)} {g : FS} (D : LamDef K mg x st ps f fd c) (Pr : List Nat) (S : FnScope N ps (defScope st)) (hPr : ∀ j ∈ Pr, j < ps.length)
    (hbody : ∀ (A : Around) (outer : List Env) (s : Shared) (H : Hp) (E : XK), Room k (A.deeper (envOfC x (defScope st) s.heap.objs.size f (.ref c))) →
      DSs (oneF (cxOf (L2.CX P w) P w K mg base N x (defScope st) f (.ref c) A outer s H E)) T (fun cls d _ H => E cls d H) Pr (defBody st) g) : FnOk P w K mg base (L2.CX P w) (k + 1) f fd ps (spD K T ps.length (toF Pr ps.length N.length g)) := by
  obtain ⟨oc, od, kV, doc, pm, an, ct, osl, rfl, lk, hcd⟩ := D.ex
  exact fn_dC Pr lk hcd S hPr hbody
theorem LamDef.at {x : Str} {st : Stmt} {ps : List Str} {f c : Addr} {fd : FuncData} {n k : Nat} {T : List (Addr × Str)} {G : FG} (d : LamDef K mg x st ps f fd c) (F : FnOk P w K mg base (L2.CX P w) k f fd ps (spD K T n G)) : FnAt P w K mg base T x n k G :=
  ⟨f, fd, ps, F, d.g, d.kp, d.b⟩
end
theorem walk_lawT {l : PySem.W.OpenLaw} {q : Program} {loose : List Str} {XP : (Str → Option Value) → Heap → Prop} {YP : World → Heap → Prop} {d : DefRec} {K : Params → PySem.W.Frag} {k : Nat} {x : Str} (hn : l.most = some 63) (hdf : d.params.defaults = []) (hk : Room k callerA)
    (hY : ∀ (w : World) (h : Heap), YP w h → (K w.params).In h)
    (F : ∀ (w : World) (mg : Str → Option Value) (fa : Addr) (h : Heap), YP w h → (K w.params).In h → h.Ns mainGlobals mg → mg d.name = some (.ref fa) →
      ∃ (fd : FuncData) (c Pt : Addr) (qn : Str), h.get? Pt = some { cls := .none, data := .fields #[] } ∧ (K w.params).lookup Pt = none ∧ PySem.W.CodeHd h c Pt ∧ (∀ (s : Shared) (u : Value), BindsTo s fd ⟨[u], []⟩ [(x, u)]) ∧
        ∀ base : Heap, (K w.params).In base → base.Ns mainGlobals mg → LamX.TabB base mg c Pt → FnOk l.prog w (K w.params) mg base (L2.CX l.prog w) k fa fd [x] (spLawB (K w.params) [(Pt, qn)])) :
    PySem.W.WalkO q loose XP YP l.row.toRowW d [] (fun f vs => PySem.call f vs) := by
  refine LamX.walk_ofTs (n := 63) (k := k) (x := x) (CX := fun w => L2.CX l.prog w) hn (by decide) hdf hk hY (fun w mg fa h Y KX G hmg => ?_) fun _ _ _ _ _ z => ?_
  · obtain ⟨fd, c, Pt, qn, h1, h2, h3, h4, h5⟩ := F w mg fa h Y KX G hmg
    refine ⟨fd, [(c, Pt)], spLawB (K w.params) [(Pt, qn)], fun p m => ?_, fun p m => ?_, fun p m => ?_, h4, fun H a ns hl hb hT hS => ⟨fun p m => ?_, a, ns, rfl, hS, hl, hb, fun _ => rfl⟩, fun base b1 b2 b3 => h5 base b1 b2 (b3 (c, Pt) List.mem_cons_self)⟩
    · rw [List.mem_singleton] at m
      rw [m]
      exact h1
    · rw [List.mem_singleton] at m
      rw [m]
      exact h2
    · rw [List.mem_singleton] at m
      rw [m]
      exact h3
    · rw [List.mem_singleton] at m
      rw [m]
      exact LamX.TabS.nil (hT (c, Pt) List.mem_cons_self)
  · obtain ⟨_, _, _, _, _, _, _, _, _, _, _, _, e⟩ := z
    exact e
/-! ### the classes' facts -/
theorem clsN_one {K : PySem.W.Frag} {x : Str} {a b : Addr} (h : ClsN K x a) (k : ClsN K x b) : a = b := by
  unfold ClsN at h k
  rw [h] at k
  cases k
  rfl
/-- the facts of the classes in a row -/
inductive SubR (K : PySem.W.Frag) (C : Addr) (c : Str) : List (Str × List Str) → Prop
  | nil : SubR K C c []
  | cons {x : Str} {ts : List Str} {r : List (Str × List Str)} {a : Addr} (n : ClsN K x a) (e : PySem.W.exmOne K (.ref a) (.ref C) = some (ts.contains c)) (t : SubR K C c r) : SubR K C c ((x, ts) :: r)
theorem SubR.at {K : PySem.W.Frag} {C : Addr} {c : Str} : ∀ {R : List (Str × List Str)}, SubR K C c R → ∀ x b, subX R x c = some b → ∀ a, ClsN K x a → PySem.W.exmOne K (.ref a) (.ref C) = some b
  | [], _, x, b, e, a, n => by cases e
  | (y, ts) :: r, h, x, b, e, a, n => by
    cases h with
    | cons n' e' t =>
      unfold subX at e
      rw [List.lookup_cons] at e
      by_cases q : (x == y) = true
      · rw [q] at e
        cases e
        rw [eq_of_beq q] at n
        rw [clsN_one n n']
        exact e'
      · have q' : (x == y) = false := by simpa using q
        rw [q'] at e
        exact t.at x b (by unfold subX; exact e) a n
theorem excsAt_of {K : PySem.W.Frag} {R : List (Str × List Str)} {c : Str} {C : Addr} (n : ClsN K c C) (h : SubR K C c R) : ExcsAt K R c C := ⟨n, h.at⟩
inductive KitR (K : PySem.W.Frag) (cv : Value) (c : Str) : List (Str × List Str) → Prop
  | nil : KitR K cv c []
  | cons {x : Str} {ts : List Str} {r : List (Str × List Str)} {a : Addr} (n : ClsN K x a) (xc : ExcC K a) (e : PySem.W.kitOne K (.ref a) cv = some (ts.contains c)) (t : KitR K cv c r) : KitR K cv c ((x, ts) :: r)
theorem KitR.at {K : PySem.W.Frag} {cv : Value} {c : Str} : ∀ {R : List (Str × List Str)}, KitR K cv c R → ∀ x b, subX R x c = some b → ∀ a, ClsN K x a → ExcC K a ∧ PySem.W.kitOne K (.ref a) cv = some b
  | [], _, x, b, e, a, n => by cases e
  | (y, ts) :: r, h, x, b, e, a, n => by
    cases h with
    | cons n' xc e' t =>
      unfold subX at e
      rw [List.lookup_cons] at e
      by_cases q : (x == y) = true
      · rw [q] at e
        cases e
        rw [eq_of_beq q] at n
        rw [clsN_one n n']
        exact ⟨xc, e'⟩
      · have q' : (x == y) = false := by simpa using q
        rw [q'] at e
        exact t.at x b (by unfold subX; exact e) a n
theorem isAt_of {K : PySem.W.Frag} {R : List (Str × List Str)} {c : Str} {cv : Value} (h : KitR K cv c R) : IsAt K R c cv := ⟨h.at⟩
end Dl

set_option Elab.async false
set_option linter.all false
set_option maxRecDepth 100000
set_option maxHeartbeats 4000000
namespace DlS
open PySem PySem.Spec PyProof.Rows L2
def fset (w : World) : Obj := { cls := .type "set", dict := none, data := .set #[] 0 (.fresh 0 0 (!w.params.followText "set-order")) }
section
variable {P : Program} {w : World} {A : Around} {E : Value → Shared → Prop} {s : Shared}
/-- what stands behind set(l): the set at its new place, the rest as it was -/
def After (w : World) (h : Heap) (n : Addr) (ns : List Int) (h' : Heap) (c : Nat) : Prop := SetR w h' n (fun j => decide (j ∈ ns)) c ∧ c ≤ ns.length ∧ ∀ b o, h.get? b = some o → h'.get? b = some o
theorem init_list {l : Addr} {items : Array Value} {ns : List Int} {Ab : Around} {R : Value → Shared → Prop} (hh : Ab.handled = none) (hl : s.heap.IsList l items) (hit : IntsAre items.toList ns) (hb : ns.length + 1 < scanBound)
    (hR : ∀ h' tk c, After w s.heap s.heap.objs.size ns h' c → R .none { s with heap := h', toks := tk }) :
    codeAny (model P w) Ab (.call (.builtin "set.__init__") ⟨[.ref s.heap.objs.size, .ref l], []⟩) (wants R E) { s with heap := s.heap.push (fset w) } := by
  have sz : items.size = ns.length := (Array.length_toList ▸ IntsAre.length hit :)
  have at0 : (s.heap.push (fset w)).get? s.heap.objs.size = some (fset w) := Heap.get?_push_size _ rfl
  have ty : Shared.TypeIs { s with heap := s.heap.push (fset w) } (.ref s.heap.objs.size) "set" := ⟨_, at0, rfl⟩
  refine codeAny_call_builtin F.called_set.init.plain F.entry_set_init (check_set_init_1 ty ?_)
  obtain ⟨ol, hol, hcl, nl, hdl⟩ := hl
  obtain ⟨ocls, odict, odata, oslots⟩ := ol
  simp only at hcl hdl
  subst hcl; subst hdl
  have keep1 : (s.heap.push (fset w)).get? l = some { cls := .type "list", dict := odict, data := .seq items nl, slots := oslots } := Heap.get?_push_of_some _ hol
  have b1 := F.sub_list_set
  have b2 := F.sub_list_frozenset
  have b3 : (Value.type "list" == Value.type "dict") = false := by decide
  have isL : (s.heap.push (fset w)).IsList l items := ⟨_, keep1, rfl, nl, rfl⟩
  have lt : l < s.heap.objs.size := Heap.lt_size hol
  have ss : (s.heap.push (fset w)).objs.size = s.heap.objs.size + 1 := Heap.size_push ..
  have apart : l ≠ (s.heap.push (fset w)).objs.size := by rw [ss]; exact Nat.ne_of_lt (Nat.lt_succ_of_lt lt)
  have notIn : s.heap.objs.size ∉ [(s.heap.push (fset w)).objs.size, l] := by
    rw [ss]
    intro z
    rcases List.mem_cons.mp z with z | z
    · exact absurd z (Nat.ne_of_lt (Nat.lt_succ_self _))
    · exact absurd (List.mem_singleton.mp z) (Nat.ne_of_gt lt)
  have each : ∀ (i : Nat) (v : Value), items[i]? = some v → ∃ k t, ns[i]? = some k ∧ v = .int k t := fun i v hv => by
    have hi : i < ns.length := by rw [← sz]; exact (Array.getElem?_eq_some_iff.mp hv).1
    obtain ⟨t, e⟩ := IntsAre.int_at hit i v (by rw [Array.getElem?_toList]; exact hv)
    exact ⟨ns[i], t, List.getElem?_eq_getElem hi, by rw [e, List.getD_eq_getElem?_getD, List.getElem?_eq_getElem hi]; rfl⟩
  unfold Builtin.«set.__init__» noKeywords Builtin.Frozenset.updateFrom
  generalize hPI : pyIter = PI
  wp_walk
  subst hPI
  refine wpAny_pyIter_list isL (wpAny_bind (wpAny_runValue ?_))
  refine set_update_ints ((Walks.list (by simp [hh]) _ l apart items).toS) s.heap.objs.size notIn ns sz hb each (items.size - 0) 0 _ (by omega) (Nat.zero_le _) ⟨⟨_, Heap.get?_push_size _ rfl, rfl, rfl⟩, isL.push _⟩ ⟨0, Nat.le_refl 0, setR_new_at (Heap.get?_push_of_some _ at0)⟩ ?_
  intro s' c' mv hc' sr
  obtain ⟨h', g2, d', tk', os'⟩ := s'
  obtain rfl : g2 = s.gens := mv.gens
  obtain rfl : d' = s.drawn := mv.drawn
  obtain rfl : os' = s.os := mv.os
  show wpAny _ _ _ _ _ _
  refine wpAny_pure ?_
  show wpAny _ _ (ret Value.none) _ _ _
  refine wpAny_pure (hR h' tk' c' ⟨sr, by rw [← sz]; exact hc', fun b o e => ?_⟩)
  have q := Heap.lt_size e
  refine mv.heap b o (fun z => ?_) (Heap.get?_push_of_some _ (Heap.get?_push_of_some _ e))
  rcases List.mem_cons.mp z with z | z
  · exact absurd z (Nat.ne_of_lt q)
  · have z := List.mem_singleton.mp z
    rw [ss] at z
    exact absurd z (Nat.ne_of_lt (Nat.lt_succ_of_lt q))
theorem set_list {l : Addr} {items : Array Value} {ns : List Int} {Q : Value → Shared → Prop} (hh : A.handled = none) (hl : s.heap.IsList l items) (hit : IntsAre items.toList ns) (hb : ns.length + 1 < scanBound)
    (hQ : ∀ h' tk c, After w s.heap s.heap.objs.size ns h' c → Q (.ref s.heap.objs.size) { s with heap := h', toks := tk }) : wpAny (model P w) A (call (.type "set") [.ref l]) Q E s := by
  obtain ⟨c, tl, hmro⟩ := F.called_set.mro
  have q1 := F.called_set.made
  have q2 := F.called_set.sub
  refine wpAny_call (codeAny_of_tree ?_)
  show wpAny _ _ (callAny (.type "set") _) _ _ _
  refine wpAny_pure ⟨Code.quiet_builtin _ (by decide +kernel), codeAny_builtin F.entry_type_call ?_⟩
  rw [Around.under_plain (weight_type_call_type "set" [.ref l] []) rfl]
  have q3 := F.called_set.notType
  have q4 := F.called_set.canCreate
  have q5 := F.typeCall_set_1 (.ref l)
  repeat (any_goals (first | assumption | wp_step))
  refine codeAny_mono (code_set_led1 (.ref l) (E := E) (Q₁ := fun obj s₁ => obj = .ref s.heap.objs.size ∧ s₁ = { s with heap := s.heap.push (fset w) }) ⟨rfl, rfl⟩) fun r s₁ hr => ?_
  cases r with
  | error e => exact hr
  | ok fl =>
    cases fl with
    | ret obj =>
      obtain ⟨rfl, rfl⟩ := hr
      have at0 : (s.heap.push (fset w)).get? s.heap.objs.size = some (fset w) := Heap.get?_push_size _ rfl
      have ty : Shared.TypeIs { s with heap := s.heap.push (fset w) } (.ref s.heap.objs.size) "set" := ⟨_, at0, rfl⟩
      have q6 := F.called_set.init.lookup
      have q7 := F.called_set.init.bind (.ref s.heap.objs.size)
      repeat (any_goals (first | assumption | wp_step))
      refine codeAny_mono (init_list (E := E) (R := fun r s₂ => r = .none ∧ ∃ h' tk c, s₂ = { s with heap := h', toks := tk } ∧ After w s.heap s.heap.objs.size ns h' c) (by simp [hh]) hl hit hb fun h' tk c a => ⟨rfl, h', tk, c, rfl, a⟩) fun r₂ s₂ hr₂ => ?_
      cases r₂ with
      | error e => exact hr₂
      | ok fl₂ =>
        cases fl₂ with
        | ret r =>
          obtain ⟨rfl, h', tk, c, rfl, a⟩ := hr₂
          repeat (any_goals (first | assumption | wp_step))
          exact hQ _ _ _ a
        | _ => exact hr₂.elim
    | _ => exact hr.elim
end
end DlS
namespace Dl
open PySem PySem.Spec L2
open PyProof.Rows hiding St
/-- set(xs) of a list of ints, then sorted -/
def rSetI (K : PySem.W.Frag) (w : World) : List V → Hp → VK → Prop := fun xs H Q => ∃ (a : Addr) (ns : List Int), xs = [.ref a] ∧ SqL K H a (ns.map V.int) ∧ ns.length < 63 ∧ ∀ p c, H p = none → c ≤ ns.length → Q (.ref p) (upd H p (SetO w p (fun j => decide (j ∈ ns)) c))
theorem cr_setI {X : Cx} (hc : X.calm = true) : CallR X (.type "set") (rSetI X.K X.w) := by
  intro pins s σ H xs us Q I r h
  obtain ⟨a, ns, rfl, hS, hl, q⟩ := h
  rw [Vals.ref1 r]
  obtain ⟨its, rv, p, hz⟩ := I.list hS
  have hb : ns.length + 1 < scanBound := Nat.lt_of_lt_of_le (Nat.succ_lt_succ hl) (by decide)
  refine DlS.set_list (I.ok.hd hc) p.isList (ints_of_vals rv) hb fun h' tk c ⟨sr, hcl, keep⟩ => ?_
  have hn : H s.heap.objs.size = none := I.hok.fresh (Nat.le_refl _)
  exact ⟨.ref _, upd H s.heap.objs.size (SetO X.w s.heap.objs.size (fun j => decide (j ∈ ns)) c), I.laid (t' := tk) keep (Nat.le_refl _) (setO_new sr), rfl, q _ c hn hcl⟩
end Dl

set_option Elab.async false
set_option linter.all false
set_option maxRecDepth 100000
set_option maxHeartbeats 1000000
namespace Dl
open PySem PySem.Spec L2
open PyProof.Rows hiding St

/-! ## sorted(set(xs)) -/
def insU (k : Int) : List Int → List Int
  | [] => [k]
  | x :: xs => if k < x then k :: x :: xs else if k = x then x :: xs else x :: insU k xs
def sortU (ns : List Int) : List Int := ns.foldr insU []
theorem insU_mem (k j : Int) : ∀ xs : List Int, j ∈ insU k xs ↔ j = k ∨ j ∈ xs
  | [] => by simp [insU]
  | x :: xs => by
    unfold insU
    split
    · simp
    · split
      · rename_i h
        subst h
        simp
      · rw [List.mem_cons, insU_mem k j xs, List.mem_cons]
        constructor
        · rintro (h | h | h)
          · exact .inr (.inl h)
          · exact .inl h
          · exact .inr (.inr h)
        · rintro (h | h | h)
          · exact .inr (.inl h)
          · exact .inl h
          · exact .inr (.inr h)
theorem insU_up (k : Int) : ∀ xs : List Int, xs.Pairwise (· < ·) → (insU k xs).Pairwise (· < ·)
  | [], _ => by simp [insU]
  | x :: xs, h => by
    rw [List.pairwise_cons] at h
    unfold insU
    split
    · rename_i hk
      rw [List.pairwise_cons]
      refine ⟨fun y hy => ?_, List.pairwise_cons.mpr h⟩
      rcases List.mem_cons.mp hy with e | e
      · rw [e]; exact hk
      · have := h.1 y e
        omega
    · split
      · exact List.pairwise_cons.mpr h
      · rename_i h1 h2
        rw [List.pairwise_cons]
        refine ⟨fun y hy => ?_, insU_up k xs h.2⟩
        rcases (insU_mem k y xs).mp hy with e | e
        · rw [e]; omega
        · exact h.1 y e
theorem sortU_mem (j : Int) : ∀ ns : List Int, j ∈ sortU ns ↔ j ∈ ns
  | [] => by simp [sortU]
  | n :: ns => by
    show j ∈ insU n (sortU ns) ↔ _
    rw [insU_mem, sortU_mem j ns, List.mem_cons]
theorem sortU_up : ∀ ns : List Int, (sortU ns).Pairwise (· < ·)
  | [] => .nil
  | n :: ns => insU_up n _ (sortU_up ns)
theorem up_one : ∀ {xs ys : List Int}, xs.Pairwise (· < ·) → ys.Pairwise (· < ·) → (∀ k, k ∈ xs ↔ k ∈ ys) → xs = ys
  | [], [], _, _, _ => rfl
  | [], y :: ys, _, _, h => by
    have := (h y).mpr List.mem_cons_self
    cases this
  | x :: xs, [], _, _, h => by
    have := (h x).mp List.mem_cons_self
    cases this
  | x :: xs, y :: ys, hx, hy, h => by
    rw [List.pairwise_cons] at hx hy
    have e : x = y := by
      have m1 := (h x).mp List.mem_cons_self
      have m2 := (h y).mpr List.mem_cons_self
      rcases List.mem_cons.mp m1 with z | z
      · exact z
      · rcases List.mem_cons.mp m2 with u | u
        · exact u.symm
        · have a := hx.1 y u
          have b := hy.1 x z
          omega
    subst e
    rw [up_one hx.2 hy.2 fun k => ?_]
    constructor
    · intro m
      rcases List.mem_cons.mp ((h k).mp (List.mem_cons_of_mem _ m)) with z | z
      · have := hx.1 k m
        omega
      · exact z
    · intro m
      rcases List.mem_cons.mp ((h k).mpr (List.mem_cons_of_mem _ m)) with z | z
      · have := hy.1 k m
        omega
      · exact z
def gSetS (d : D) : Option B := ((lstOf d).bind intsOf).bind fun ns => if ns.length < 63 then some (.own ((sortU ns).map .int)) else none
section
variable {X : Fam} {T : List (Addr × Str)} {W : WX} {P : List Nat}
theorem de_setS {w0 : World} {e : Expr} {f : FO} {p1 p2 pos1 pos2 : Pos} (h : DO X T W e f) (hc : ∀ i, (X.at_ i).calm = true) (hw : ∀ i, (X.at_ i).w = w0) (hgs : ∀ i, Gl (X.at_ i) "set") (hms : ∀ i, (X.at_ i).mg "set" = none) (hgo : ∀ i, Gl (X.at_ i) "sorted") (hmo : ∀ i, (X.at_ i).mg "sorted" = none)
    (he : ∀ i, starEach [e] (X.at_ i).env = (false, eval e (X.at_ i).env) :: starEach [] (X.at_ i).env := by intro _; rfl) (he2 : ∀ i, starEach [.Call (.Name "set" p1) [e] [] pos1] (X.at_ i).env = (false, eval (.Call (.Name "set" p1) [e] [] pos1) (X.at_ i).env) :: starEach [] (X.at_ i).env := by intro _; rfl)
    (hpl : ∀ i, (backTo pos1 (starEach [] (X.at_ i).env)).any (·.1) = false := by intro _; rfl) (hpl2 : ∀ i, (backTo pos2 (starEach [] (X.at_ i).env)).any (·.1) = false := by intro _; rfl)
    (bs : bootBuiltins "set" = some (.type "set") := by decide +kernel) (bo : bootBuiltins "sorted" = some (.builtin "sorted") := by decide +kernel) :
    DE X T W (.Call (.Name "sorted" p2) [.Call (.Name "set" p1) [e] [] pos1] [] pos2) (c1 gSetS f) := by
  obtain ⟨t, pe, s⟩ := h
  refine ⟨tCB (rSortedSet w0) (tCons (tCB (rSetI X.K w0) (tCons t tNil)) tNil), fun i => ?_, fun σ F H A ρ Q a p => ?_⟩
  · rw [← X.hK i, ← hw i]
    exact pe_callB (cr_sortedSet (hc i)) (hgo i) (hmo i) bo (pa_cons (pe_callTy (cr_setI (hc i)) (hgs i) (hms i) bs (pa_cons (pe i) pa_nil (he i)) (by decide) (by decide) (he i) (hpl i)) pa_nil (he2 i)) (by decide) (by decide) (he2 i) (hpl2 i)
  · refine run1 (r := fun x H1 Q => tCB (rSetI X.K w0) (fun _ _ R => R [x] H1) σ H1 fun y H2 => rSortedSet w0 [y] H2 Q) ?_ s a p
    intro F H A ρ σ d v b Q s r h e f
    unfold gSetS at e
    cases q : (lstOf d).bind intsOf with
    | none =>
      rw [q] at e
      cases e
    | some ns =>
      rw [q] at e
      simp only [Option.bind_some] at e
      split at e
      · rename_i hl
        cases e
        obtain ⟨x, rfl, h1⟩ := top_ints s h q
        refine ⟨x, ns, rfl, h1, hl, fun p c np hc => ⟨p, _, c, rfl, upd_same, by omega, fun ms p2 up mem hlen np2 => ?_⟩⟩
        have eq : ms = sortU ns := up_one up (sortU_up ns) fun k => by
          rw [mem k, sortU_mem]
          simp
        rw [eq]
        have g : Go T A F H A F (upd H p (SetO w0 p (fun j => decide (j ∈ ns)) c)) := (Go.fresh s np).less fun a m => List.mem_append_right _ m
        have r2 := (r.fresh (o := SetO w0 p (fun j => decide (j ∈ ns)) c) np).1
        have f2 : Fin X.K T F (upd H p (SetO w0 p (fun j => decide (j ∈ ns)) c)) A ρ σ (.own ((sortU ns).map .int)) Q := fun v F' H' A' g' r' => f v F' H' A' (g.trans g') r'
        exact f2.lst g.sub r2 RpL.ints p2 np2
      · cases e
/-! ## list(range(..)) -/
def gRgL (ds : List D) : Option (List D) := match ds with
  | [.int j] => if (rngOk j && decide (j ≤ 16777216)) = true then some (rngD 0 j.toNat) else none
  | [.int i, .int j] => if (rngOk i && rngOk j && decide (j - i ≤ 16777216)) = true then some (rngD i (j - i).toNat) else none
  | _ => none
def gRgLB (ds : List D) : Option B := (gRgL ds).map .own
theorem rgV_rp {K : PySem.W.Frag} {F : Hp} (i j : Int) : RpL K F (rngD i (j - i).toNat) (rgV i j) := by
  unfold rngD rgV
  generalize List.range (j - i).toNat = l
  induction l with
  | nil => exact .nil
  | cons a l ih => exact .cons rp_int ih
def gRg1 (d : D) : Option B := gRgLB [d]
def gRg2 (d e : D) : Option B := gRgLB [d, e]
theorem de_listRg1 {a : Expr} {f : FO} {p1 p2 pos1 pos2 : Pos} (h : DO X T W a f) (hc : ∀ i, (X.at_ i).calm = true) (hgl : ∀ i, Gl (X.at_ i) "list") (hml : ∀ i, (X.at_ i).mg "list" = none) (hgr : ∀ i, Gl (X.at_ i) "range") (hmr : ∀ i, (X.at_ i).mg "range" = none)
    (he : ∀ i, starEach [a] (X.at_ i).env = (false, eval a (X.at_ i).env) :: starEach [] (X.at_ i).env := by intro _; rfl) (he2 : ∀ i, starEach [.Call (.Name "range" p1) [a] [] pos1] (X.at_ i).env = (false, eval (.Call (.Name "range" p1) [a] [] pos1) (X.at_ i).env) :: starEach [] (X.at_ i).env := by intro _; rfl) :
    DE X T W (.Call (.Name "list" p2) [.Call (.Name "range" p1) [a] [] pos1] [] pos2) (c1 gRg1 f) := by
  obtain ⟨t, pe, s⟩ := h
  refine ⟨_, fun i => pe_listRg (hc i) (hgl i) (hml i) (prg_1 (hgr i) (hmr i) (pe i) (he i)) (he2 i), fun σ F H A ρ Q a p => ?_⟩
  refine run1 (r := fun x H1 Q => tLstRg (tRg1 (fun _ H R => R x H1)) σ H1 Q) ?_ s a p
  intro F H A ρ σ d v b Q s r h e f
  unfold gRg1 gRgLB gRgL at e
  split at e
  · split at e
    · rename_i n hn c
      cases e
      cases hn
      rw [Bool.and_eq_true] at c
      obtain ⟨c1, c2⟩ := c
      have c2 := of_decide_eq_true c2
      obtain ⟨c3, c4⟩ := rngOk_iff c1
      refine ⟨_, top_int h, ⟨by decide, by decide, c3, c4, by omega⟩, ?_⟩
      have hz : (n - 0).toNat = n.toNat := by omega
      have := rgV_rp (K := X.K) (F := F) 0 n
      rw [hz] at this
      exact f.lst s r this
    · cases e
  · rename_i h1
    cases h1
  · cases e
theorem de_listRg2 {a b : Expr} {f g : FO} {p1 p2 pos1 pos2 : Pos} (h : DO X T W a f) (k : DO X T W b g) (hc : ∀ i, (X.at_ i).calm = true) (hgl : ∀ i, Gl (X.at_ i) "list") (hml : ∀ i, (X.at_ i).mg "list" = none) (hgr : ∀ i, Gl (X.at_ i) "range") (hmr : ∀ i, (X.at_ i).mg "range" = none)
    (he : ∀ i, starEach [a, b] (X.at_ i).env = (false, eval a (X.at_ i).env) :: starEach [b] (X.at_ i).env := by intro _; rfl) (he1 : ∀ i, starEach [b] (X.at_ i).env = (false, eval b (X.at_ i).env) :: starEach [] (X.at_ i).env := by intro _; rfl) (he2 : ∀ i, starEach [.Call (.Name "range" p1) [a, b] [] pos1] (X.at_ i).env = (false, eval (.Call (.Name "range" p1) [a, b] [] pos1) (X.at_ i).env) :: starEach [] (X.at_ i).env := by intro _; rfl) (he3 : ∀ i, (backTo pos1 (starEach [b] (X.at_ i).env)).any (·.1) = false := by intro _; rfl) :
    DE X T W (.Call (.Name "list" p2) [.Call (.Name "range" p1) [a, b] [] pos1] [] pos2) (c2 gRg2 f g) := by
  obtain ⟨ta, pa, sa⟩ := h
  obtain ⟨tb, pb, sb⟩ := k
  refine ⟨_, fun i => pe_listRg (hc i) (hgl i) (hml i) (prg_2 (hgr i) (hmr i) (pa i) (pb i) (he i) (he1 i) (hp := he3 i)) (he2 i), fun σ F H A ρ Q a p => ?_⟩
  refine run2 (r := fun x y H1 Q => tLstRg (tRg2 (fun _ H R => R x H1) (fun _ H R => R y H)) σ H1 Q) ?_ sa sb a p
  intro F H A ρ σ d d' v v' b Q s r h h' e f
  unfold gRg2 gRgLB gRgL at e
  split at e
  · rename_i h1
    cases h1
  · split at e
    · rename_i m n hn c
      cases e
      cases hn
      rw [Bool.and_eq_true, Bool.and_eq_true] at c
      obtain ⟨⟨c1, c2⟩, c5⟩ := c
      have c5 := of_decide_eq_true c5
      obtain ⟨c3, c4⟩ := rngOk_iff c1
      obtain ⟨c6, c7⟩ := rngOk_iff c2
      exact ⟨_, _, top_int h, top_int h', ⟨c3, c4, c6, c7, by omega⟩, f.lst s r (rgV_rp m n)⟩
    · cases e
  · cases e
/-! ## x[j] op= e, x an owned list of ints -/
theorem pget_list {Y : Cx} : PGet Y (rIxL Y.K) := by
  intro pins s σ H o i ov iv Q I rx ry h
  obtain ⟨p, xs, k, z, rfl, rfl, hq, he, q⟩ := h
  cases rx
  obtain ⟨t, rfl⟩ := ry
  obtain ⟨its, r, pl, hz⟩ := I.list hq
  obtain ⟨j, h1, h2, h3, h4, h5⟩ := atI_get he
  obtain ⟨w, ew, rw'⟩ := r.get h2
  have hl := r.length
  have hn := line63
  by_cases h0 : 0 ≤ k
  · have hj : k.toNat = j := Option.some.inj ((seqIndex_of h0 h5).symm.trans h1)
    exact wpAny_getItem_list pl.isList h0 (by omega) (by rw [hj]; simpa using ew) ⟨z, H, I, rw', q⟩
  · have hj : (k + (its.toArray.size : Int)).toNat = j := by
      rw [List.size_toArray, ← hl]
      exact Option.some.inj ((seqIndex_neg (by omega) h4).symm.trans h1)
    exact wpAny_getItem_list_neg pl.isList (by omega) (by rw [List.size_toArray]; omega) (by omega) (by rw [hj]; simpa using ew) ⟨z, H, I, rw', q⟩
/-- the int at a place of the list that a name owns -/
def ownInt (ρ : Ev) (k : Nat) (n : Nat) : Option Int := match ownL ρ k with
  | some ds => (ds[n]?).bind intOf
  | none => none
def ownIx (ρ : Ev) (k : Nat) (d : D) : Option Nat := match ownL ρ k, d with
  | some ds, .int j => ixN ds.length j
  | _, _ => none
def sAugX (k : Nat) (g : Int → Int → Int) (fj f : FO) : FS := fun ρ => (ofO (ownL ρ k)).out fun _ => (fj ρ).out fun q => (ofO (rd q.2 q.1)).out fun dj => (ofO (ownIx q.2 k dj)).out fun n => (ofO (ownInt q.2 k n)).out fun a =>
  (f q.2).out fun p => (ofO (rd p.2 p.1)).out fun d => (ofO (intOf d)).out fun b => (ofO (ownIx p.2 k dj)).out fun n' => (ofO (ownL p.2 k)).out fun ds => .nx (p.2.set k (.own (ds.set n' (.int (g a b)))))
theorem ds_augX (k : Nat) {x : Str} {op : Operator} {e ej : Expr} {fj f : FO} {gI : Int → Int → Int} {pos p1 p2 : Pos} (hp : ∀ j, PIp (X.at_ j) op (ipI gI)) (hj : DO X T W ej fj) (he : DO X T W e f) (hN : ∀ j, (X.at_ j).N[k]? = some x := by intro _; rfl) (hv : ∀ j, Vis (X.at_ j).env.scope x := by intro _; first | exact Or.inl rfl | exact Or.inr (Or.inl rfl) | exact Or.inr (Or.inr rfl))
    (hd : (x == ("__debug__" : Str)) = false := by decide) (hcd : (x == ("__classdict__" : Str)) = false := by decide)
    (ha : ∀ ov iv new, augStore ej ov iv new = (do holding [new, ov, iv] (setItem ov iv new); release [new, ov, iv] []; pure .next) := by intros; rfl) : DS X T W P (.AugAssign (.Subscript (.Name x p1) ej p2) op e pos) (sAugX k gI fj f) := by
  obtain ⟨tj, pj, sj⟩ := hj
  obtain ⟨te, pe, se⟩ := he
  refine ⟨tAugS (tVar k) tj te (rIxL X.K) (ipI gI) rSetL, fun j => ?_, fun hps σ F H A ρ E a p => ?_⟩
  · rw [← X.hK j]
    exact ps_augS (pe_var (hN j) (hv j) hd hcd) (pj j) pget_list (pe j) (hp j) set_list ha
  · obtain ⟨ds0, e0, p⟩ := p.opt
    obtain ⟨l0, xs0, es, _⟩ := a.rep.ownAt (ownL_some e0)
    refine ⟨_, es, sj σ F H A ρ _ a ?_⟩
    refine p.out.imp fun oj ρ1 F1 H1 A1 g1 p1 vj r1 o1 => ?_
    have at1 := a.next g1 r1
    obtain ⟨dj, e1, p1⟩ := p1.opt
    obtain ⟨n, e2, p1⟩ := p1.opt
    obtain ⟨ai, e3, p1⟩ := p1.opt
    have vj' := rd_top g1.sub r1 o1 e1
    unfold ownIx at e2
    cases qo : ownL ρ1 k with
    | none =>
      rw [qo] at e2
      cases e2
    | some ds1 =>
      rw [qo] at e2
      cases dj with
      | int jj =>
        simp only at e2
        unfold ownInt at e3
        rw [qo] at e3
        simp only at e3
        cases qd : ds1[n]? with
        | none =>
          rw [qd] at e3
          cases e3
        | some dd =>
          rw [qd] at e3
          simp only [Option.bind_some] at e3
          have edd := intOf_some e3
          subst edd
          obtain ⟨l, xs, es', lA, el, nl, rl, kk⟩ := r1.ownAt (ownL_some qo)
          rw [es] at es'
          cases es'
          obtain ⟨z, ez, rz⟩ := rl.get qd
          unfold Rp at rz
          subst rz
          refine ⟨l0, xs, jj, .int ai, rfl, top_int vj', SqL.of el, ?_, ?_⟩
          · unfold atI
            rw [← rl.length, e2]
            exact ez
          · refine se σ F1 H1 A1 ρ1 _ at1 ?_
            refine p1.out.imp fun o ρ2 F2 H2 A2 g2 p2 v r2 o2 => ?_
            obtain ⟨d, e4, p3⟩ := p2.opt
            obtain ⟨bi, e5, p4⟩ := p3.opt
            have ed := intOf_some e5
            subst ed
            obtain ⟨n', e6, p5⟩ := p4.opt
            obtain ⟨ds2, e7, p6⟩ := p5.opt
            refine ⟨ai, bi, rfl, top_int (rd_top g2.sub r2 o2 e4), ?_⟩
            obtain ⟨l2, xs2, es2, lA2, el2, nl2, rl2, kk2⟩ := r2.ownAt (ownL_some e7)
            rw [es] at es2
            cases es2
            unfold ownIx at e6
            rw [e7] at e6
            simp only at e6
            refine ⟨l0, xs2, jj, n', rfl, top_int vj', el2, by rw [← rl2.length]; exact e6, ?_⟩
            exact p6.nowN (Go.write g2.sub lA2 nl2 el2 (fun _ z => by cases z) (fun _ z => by cases z)) (kk2 _ _ (rl2.set rp_int n')) (Keep.refl P σ)
      | _ => cases e2
/-! ## methods that read -/
def tyD : D → Option String
  | .str _ => some "str"
  | .lst _ => some "list"
  | .scr _ => some "list"
  | .dk _ => some "dict"
  | .dt _ => some "dict"
  | _ => none
theorem tyV_of {K : PySem.W.Frag} {F H : Hp} {d : D} {v : V} {t : String} (s : Sub F H) (h : RpTop K F H d v) (e : tyD d = some t) : tyV K t v H := by
  cases d <;> simp only [tyD] at e <;> first
    | (cases e; done)
    | (cases e; rw [top_str h]; exact rfl)
    | (cases e; obtain ⟨a, xs, rfl, h1, _⟩ := top_lst h; exact .inl ⟨rfl, _, SqL.of h1⟩)
    | (cases e; obtain ⟨a, xs, rfl, h1, _⟩ := top_scr s h; exact .inl ⟨rfl, _, h1⟩)
    | (cases e; have h2 := h.rp s; unfold Rp at h2; obtain ⟨a, ys, rfl, h1, _⟩ := h2; exact .inr (.inr (.inl ⟨rfl, .inl ⟨_, h1⟩⟩)))
    | (cases e; have h2 := h.rp s; unfold Rp at h2; obtain ⟨a, ys, rfl, h1, _⟩ := h2; exact .inr (.inr (.inl ⟨rfl, .inr ⟨_, h1⟩⟩)))
/-- the rule of a method r is that g -/
def VRM (K : PySem.W.Frag) (T : List (Addr × Str)) (r : V → List V → Hp → VK → Prop) (g : D → List D → Option B) : Prop :=
  ∀ F H A ρ σ d as v vs b Q, Sub F H → RepS K F H ρ σ A → RpTop K F H d v → Paired (RpTop K F H) as vs → g d as = some b → Fin K T F H A ρ σ b Q → r v vs H Q
def cRM (t : String) (g : D → List D → Option B) (fo : FO) (f : FA) : FE := fun ρ => fo ρ >>= fun o => ofO (rd o.2 o.1) >>= fun d0 => ofO (tyOk t d0) >>= fun _ => f o.2 >>= fun p => ofO (rd p.2 o.1) >>= fun d => ofO (rds p.2 p.1) >>= fun as => ofO (g d as) >>= fun b => .ok (b, p.2)
where
  tyOk (t : String) (d : D) : Option Unit := if tyD d = some t then some () else none
theorem de_rm {t : String} {name : Str} {id : String} {r : V → List V → Hp → VK → Prop} {g : D → List D → Option B} {o e : Expr} {es : List Expr} {fo : FO} {f : FA} {apos cpos : Pos} (pa : PlainAttrs t) (slot : Slot t name id) (hty : typeOf (.builtin id) = pure (.type "method_descriptor")) (hm : ∀ j, MtR (X.at_ j) id r) (hv : VRM X.K T r g)
    (ho : DO X T W o fo) (h : DA X T W (e :: es) f)
    (hbase : ∀ j, attributeBase o name (X.at_ j).env (eval o (X.at_ j).env) = eval o (X.at_ j).env := by intro _; rfl)
    (hfew : ∀ j, ((backTo cpos (starEach (e :: es) (X.at_ j).env)).all (fun x => !x.1) && (backToKw cpos (keywordEach [] (X.at_ j).env)).all (fun x => x.1.isSome)
      && decide ((e :: es).length + ([] : List Keyword).length + (if ([] : List Keyword).isEmpty then 0 else 1) < 30)) = true := by intro _; rfl)
    (hline : (apos.endLine == cpos.line) = true := by rfl) (hs : ∀ j, starEach (e :: es) (X.at_ j).env = (false, eval e (X.at_ j).env) :: starEach es (X.at_ j).env := by intro _; rfl) (hplain : ∀ j, (backTo cpos (starEach es (X.at_ j).env)).any (·.1) = false := by intro _; rfl) :
    DE X T W (.Call (.Attribute o name apos) (e :: es) [] cpos) (cRM t g fo f) := by
  obtain ⟨to, po, so⟩ := ho
  obtain ⟨ta, pa2, sa⟩ := h
  refine ⟨tBM X.K t r to ta, fun j => ?_, fun σ F H A ρ Q a p => so σ F H A ρ _ a ?_⟩
  · rw [← X.hK j]
    exact pe_bm pa slot hty (hm j) (po j) (pa2 j) (hbase j) (hfew j) hline (hs j) (hplain j)
  · refine p.bind.imp fun oo ρ1 F1 H1 A1 g1 p1 v r1 o1 => ?_
    obtain ⟨d0, e0, p1⟩ := p1.opt
    obtain ⟨_, e1, p1⟩ := p1.opt
    unfold cRM.tyOk at e1
    split at e1
    · rename_i ht
      refine ⟨tyV_of g1.sub (rd_top g1.sub r1 o1 e0) ht, sa σ F1 H1 A1 ρ1 _ (a.next g1 r1) ?_⟩
      refine p1.bind.imp fun os ρ2 F2 H2 A2 g2 p2 vs r2 o2 => ?_
      obtain ⟨d, e3, p2⟩ := p2.opt
      obtain ⟨as, e4, p2⟩ := p2.opt
      obtain ⟨b, e5, p2⟩ := p2.opt
      exact hv F2 H2 A2 ρ2 σ d as v vs b Q g2.sub r2 (rd_top g2.sub r2 (o1.mono g2.kF) e3) (rds_top g2.sub r2 o2 e4) e5 fun w F3 H3 A3 g3 r3 => p2.now g3 w r3
    · cases e1
end
end Dl

set_option Elab.async false
set_option linter.all false
set_option maxRecDepth 100000
namespace Dl
open PySem PySem.Spec L2
open PyProof.Rows hiding St

/-! ## evaluation, stage by stage -/
section
variable {ρ : Ev} {b b' : B} {d d' : D} {i j : Int}
def fin (ρ : Ev) : Option B → R (B × Ev)
  | some b => .ok (b, ρ)
  | none => .stuck
@[simp] theorem fin_some : fin ρ (some b) = .ok (b, ρ) := rfl
@[simp] theorem fin_none : fin ρ none = .stuck := rfl
/-! names -/
def cN1 (k : Nat) (ρ : Ev) : Option B → R (B × Ev)
  | some (.dat d) => .ok (.dat d, ρ)
  | some (.own ds) => .ok (.own ds, ρ.set k .un)
  | some (.odk ds) => .ok (.odk ds, ρ.set k .un)
  | some (.odt ds) => .ok (.odt ds, ρ.set k .un)
  | some (.ext e) => .ok (.ext e, ρ.set k .un)
  | _ => .stuck
@[simp] theorem e_cN (k : Nat) : cN k ρ = cN1 k ρ ρ[k]? := rfl
@[simp] theorem e_cN1d (k : Nat) : cN1 k ρ (some (.dat d)) = .ok (.dat d, ρ) := rfl
@[simp] theorem e_cN1o (k : Nat) (ds : List D) : cN1 k ρ (some (.own ds)) = .ok (.own ds, ρ.set k .un) := rfl
@[simp] theorem e_cN1k (k : Nat) (ds : List (Key × D)) : cN1 k ρ (some (.odk ds)) = .ok (.odk ds, ρ.set k .un) := rfl
@[simp] theorem e_cN1t (k : Nat) (ds : List (List Key × D)) : cN1 k ρ (some (.odt ds)) = .ok (.odt ds, ρ.set k .un) := rfl
@[simp] theorem e_cN1e (k : Nat) (x : O) : cN1 k ρ (some (.ext x)) = .ok (.ext x, ρ.set k .un) := rfl
def cNO1 (k : Nat) (ρ : Ev) : Option B → R (Opd × Ev)
  | some (.dat d) => .ok (.val d, ρ)
  | some (.un) => .stuck
  | some _ => .ok (.var k, ρ)
  | none => .stuck
@[simp] theorem e_cNO (k : Nat) : cNO k ρ = cNO1 k ρ ρ[k]? := rfl
@[simp] theorem e_cNO1d (k : Nat) : cNO1 k ρ (some (.dat d)) = .ok (.val d, ρ) := rfl
@[simp] theorem e_cNO1o (k : Nat) (ds : List D) : cNO1 k ρ (some (.own ds)) = .ok (.var k, ρ) := rfl
@[simp] theorem e_cNO1k (k : Nat) (ds : List (Key × D)) : cNO1 k ρ (some (.odk ds)) = .ok (.var k, ρ) := rfl
@[simp] theorem e_cNO1t (k : Nat) (ds : List (List Key × D)) : cNO1 k ρ (some (.odt ds)) = .ok (.var k, ρ) := rfl
@[simp] theorem e_cNO1e (k : Nat) (x : O) : cNO1 k ρ (some (.ext x)) = .ok (.var k, ρ) := rfl
@[simp] theorem e_cC : cC d ρ = .ok (.dat d, ρ) := rfl
def ob1 : Option B → Option D
  | some b => rdB b
  | none => none
@[simp] theorem e_ob1 : ob1 (some b) = rdB b := rfl
@[simp] theorem e_rd_val : rd ρ (.val d) = some d := rfl
@[simp] theorem e_rd_var (k : Nat) : rd ρ (.var k) = ob1 ρ[k]? := rfl
@[simp] theorem e_rdB_dat : rdB (.dat d) = some d := rfl
@[simp] theorem e_rdB_own (ds : List D) : rdB (.own ds) = some (.lst ds) := rfl
@[simp] theorem e_rdB_odk (ds : List (Key × D)) : rdB (.odk ds) = some (.dk ds) := rfl
@[simp] theorem e_rdB_odt (ds : List (List Key × D)) : rdB (.odt ds) = some (.dt ds) := rfl
def ow1 : Option B → Option (List D)
  | some (.own ds) => some ds
  | _ => none
@[simp] theorem e_ow1 (ds : List D) : ow1 (some (.own ds)) = some ds := rfl
@[simp] theorem e_ownL (k : Nat) : ownL ρ k = ow1 ρ[k]? := by
  unfold ownL
  cases ρ[k]? with
  | none => rfl
  | some b => cases b <;> rfl
@[simp] theorem e_frz_dat : frz (.dat d) = some d := rfl
@[simp] theorem e_frz_own (ds : List D) : frz (.own ds) = some (.lst ds) := rfl
@[simp] theorem e_frz_odk (ds : List (Key × D)) : frz (.odk ds) = some (.dk ds) := rfl
@[simp] theorem e_frz_odt (ds : List (List Key × D)) : frz (.odt ds) = some (.dt ds) := rfl
@[simp] theorem e_isB (c : Bool) : isB (.dat (.bl c)) = some c := rfl
/-! operands, data -/
def cO2 (ρ : Ev) : Option D → R (Opd × Ev)
  | some d => .ok (.val d, ρ)
  | none => .stuck
@[simp] theorem e_cO2 : cO2 ρ (some d) = .ok (.val d, ρ) := rfl
def cO1 : R (B × Ev) → R (Opd × Ev)
  | .ok p => cO2 p.2 (frz p.1)
  | .err x ρ => .err x ρ
  | .stuck => .stuck
@[simp] theorem e_cO1 : cO1 (.ok (b, ρ)) = cO2 ρ (frz b) := rfl
@[simp] theorem e_cO1e (x : Exc) : cO1 (.err x ρ) = .err x ρ := rfl
@[simp] theorem e_cO1s : cO1 .stuck = .stuck := rfl
@[simp] theorem e_cO (f : FE) : cO f ρ = cO1 (f ρ) := by
  unfold cO cO1
  cases f ρ with
  | ok p =>
    obtain ⟨b, ρ'⟩ := p
    simp only [ok_bind]
    cases frz b <;> rfl
  | err x ρ' => rfl
  | stuck => rfl
def cD2 (ρ : Ev) : Option D → R (B × Ev)
  | some d => .ok (.dat d, ρ)
  | none => .stuck
@[simp] theorem e_cD2 : cD2 ρ (some d) = .ok (.dat d, ρ) := rfl
def cD1 : R (B × Ev) → R (B × Ev)
  | .ok p => cD2 p.2 (frz p.1)
  | .err x ρ => .err x ρ
  | .stuck => .stuck
@[simp] theorem e_cD1 : cD1 (.ok (b, ρ)) = cD2 ρ (frz b) := rfl
@[simp] theorem e_cD1e (x : Exc) : cD1 (.err x ρ) = .err x ρ := rfl
@[simp] theorem e_cD1s : cD1 .stuck = .stuck := rfl
@[simp] theorem e_cD (f : FE) : cD f ρ = cD1 (f ρ) := by
  unfold cD cD1
  cases f ρ with
  | ok p =>
    obtain ⟨b, ρ'⟩ := p
    simp only [ok_bind]
    cases frz b <;> rfl
  | err x ρ' => rfl
  | stuck => rfl
/-! operators -/
def c1b (g : D → Option B) (ρ : Ev) : Option D → R (B × Ev)
  | some d => fin ρ (g d)
  | none => .stuck
@[simp] theorem e_c1b (g : D → Option B) : c1b g ρ (some d) = fin ρ (g d) := rfl
def c1a (g : D → Option B) : R (Opd × Ev) → R (B × Ev)
  | .ok p => c1b g p.2 (rd p.2 p.1)
  | .err x ρ => .err x ρ
  | .stuck => .stuck
@[simp] theorem e_c1a (g : D → Option B) (o : Opd) : c1a g (.ok (o, ρ)) = c1b g ρ (rd ρ o) := rfl
@[simp] theorem e_c1ae (g : D → Option B) (x : Exc) : c1a g (.err x ρ) = .err x ρ := rfl
@[simp] theorem e_c1 (g : D → Option B) (f : FO) : c1 g f ρ = c1a g (f ρ) := by
  unfold c1 c1a
  cases f ρ with
  | ok p =>
    obtain ⟨o, ρ'⟩ := p
    simp only [ok_bind]
    cases rd ρ' o with
    | none => rfl
    | some d =>
      simp only [ofO_some, ok_bind, e_c1b]
      cases g d <;> rfl
  | err x ρ' => rfl
  | stuck => rfl
def c2c (g : D → D → Option B) (ρ : Ev) : Option D → Option D → R (B × Ev)
  | some d, some d' => fin ρ (g d d')
  | _, _ => .stuck
@[simp] theorem e_c2c (g : D → D → Option B) : c2c g ρ (some d) (some d') = fin ρ (g d d') := rfl
def c2b (g : D → D → Option B) (o : Opd) : R (Opd × Ev) → R (B × Ev)
  | .ok p => c2c g p.2 (rd p.2 o) (rd p.2 p.1)
  | .err x ρ => .err x ρ
  | .stuck => .stuck
@[simp] theorem e_c2b (g : D → D → Option B) (o o' : Opd) : c2b g o (.ok (o', ρ)) = c2c g ρ (rd ρ o) (rd ρ o') := rfl
@[simp] theorem e_c2be (g : D → D → Option B) (o : Opd) (x : Exc) : c2b g o (.err x ρ) = .err x ρ := rfl
def c2a (g : D → D → Option B) (fb : FO) : R (Opd × Ev) → R (B × Ev)
  | .ok p => c2b g p.1 (fb p.2)
  | .err x ρ => .err x ρ
  | .stuck => .stuck
@[simp] theorem e_c2a (g : D → D → Option B) (fb : FO) (o : Opd) : c2a g fb (.ok (o, ρ)) = c2b g o (fb ρ) := rfl
@[simp] theorem e_c2ae (g : D → D → Option B) (fb : FO) (x : Exc) : c2a g fb (.err x ρ) = .err x ρ := rfl
@[simp] theorem e_c2 (g : D → D → Option B) (fa fb : FO) : c2 g fa fb ρ = c2a g fb (fa ρ) := by
  unfold c2 c2a
  cases fa ρ with
  | ok p =>
    obtain ⟨o, ρ'⟩ := p
    simp only [ok_bind]
    unfold c2b
    cases fb ρ' with
    | ok q =>
      obtain ⟨o', ρ2⟩ := q
      simp only [ok_bind]
      cases rd ρ2 o with
      | none => rfl
      | some d =>
        cases rd ρ2 o' with
        | none => rfl
        | some d' =>
          simp only [ofO_some, ok_bind, e_c2c]
          cases g d d' <;> rfl
    | err x ρ2 => rfl
    | stuck => rfl
  | err x ρ' => rfl
  | stuck => rfl
/-- a < b < c -/
def ch5 (g' : D → D → Option B) (o' : Opd) : R (Opd × Ev) → R (B × Ev)
  | .ok p => c2c g' p.2 (rd p.2 o') (rd p.2 p.1)
  | .err x ρ => .err x ρ
  | .stuck => .stuck
@[simp] theorem e_ch5 (g' : D → D → Option B) (o o' : Opd) : ch5 g' o' (.ok (o, ρ)) = c2c g' ρ (rd ρ o') (rd ρ o) := rfl
def ch4 (g' : D → D → Option B) (fc : FO) (o' : Opd) (ρ : Ev) : Option Bool → R (B × Ev)
  | some c => if c = true then ch5 g' o' (fc ρ) else .ok (.dat (.bl false), ρ)
  | none => .stuck
@[simp] theorem e_ch4 (g' : D → D → Option B) (fc : FO) (o' : Opd) (c : Bool) : ch4 g' fc o' ρ (some c) = if c = true then ch5 g' o' (fc ρ) else .ok (.dat (.bl false), ρ) := rfl
def ch3b (g' : D → D → Option B) (fc : FO) (o' : Opd) (ρ : Ev) : Option B → R (B × Ev)
  | some b => ch4 g' fc o' ρ (isB b)
  | none => .stuck
@[simp] theorem e_ch3b (g' : D → D → Option B) (fc : FO) (o' : Opd) : ch3b g' fc o' ρ (some b) = ch4 g' fc o' ρ (isB b) := rfl
def ch3 (g g' : D → D → Option B) (fc : FO) (o' : Opd) (ρ : Ev) : Option D → Option D → R (B × Ev)
  | some d, some d' => ch3b g' fc o' ρ (g d d')
  | _, _ => .stuck
@[simp] theorem e_ch3 (g g' : D → D → Option B) (fc : FO) (o' : Opd) : ch3 g g' fc o' ρ (some d) (some d') = ch3b g' fc o' ρ (g d d') := rfl
def ch2 (g g' : D → D → Option B) (fc : FO) (o : Opd) : R (Opd × Ev) → R (B × Ev)
  | .ok p => ch3 g g' fc p.1 p.2 (rd p.2 o) (rd p.2 p.1)
  | .err x ρ => .err x ρ
  | .stuck => .stuck
@[simp] theorem e_ch2 (g g' : D → D → Option B) (fc : FO) (o o' : Opd) : ch2 g g' fc o (.ok (o', ρ)) = ch3 g g' fc o' ρ (rd ρ o) (rd ρ o') := rfl
def ch1 (g g' : D → D → Option B) (fb fc : FO) : R (Opd × Ev) → R (B × Ev)
  | .ok p => ch2 g g' fc p.1 (fb p.2)
  | .err x ρ => .err x ρ
  | .stuck => .stuck
@[simp] theorem e_ch1 (g g' : D → D → Option B) (fb fc : FO) (o : Opd) : ch1 g g' fb fc (.ok (o, ρ)) = ch2 g g' fc o (fb ρ) := rfl
@[simp] theorem e_cChain (g g' : D → D → Option B) (fa fb fc : FO) : cChain g g' fa fb fc ρ = ch1 g g' fb fc (fa ρ) := by
  unfold cChain ch1
  cases fa ρ with
  | ok p =>
    obtain ⟨o, ρ'⟩ := p
    simp only [ok_bind]
    unfold ch2
    cases fb ρ' with
    | ok q =>
      obtain ⟨o', ρ2⟩ := q
      simp only [ok_bind]
      cases rd ρ2 o with
      | none => rfl
      | some d =>
        cases rd ρ2 o' with
        | none => rfl
        | some d' =>
          simp only [ofO_some, ok_bind, e_ch3]
          cases g d d' with
          | none => rfl
          | some b =>
            simp only [ofO_some, ok_bind, e_ch3b]
            cases isB b with
            | none => rfl
            | some c =>
              simp only [ofO_some, ok_bind, e_ch4]
              split
              · unfold ch5
                cases fc ρ2 with
                | ok u =>
                  obtain ⟨o3, ρ3⟩ := u
                  simp only [ok_bind]
                  cases rd ρ3 o' with
                  | none => rfl
                  | some e =>
                    cases rd ρ3 o3 with
                    | none => rfl
                    | some e' =>
                      simp only [ofO_some, ok_bind, e_c2c]
                      cases g' e e' <;> rfl
                | err x ρ3 => rfl
                | stuck => rfl
              · rfl
    | err x ρ2 => rfl
    | stuck => rfl
  | err x ρ' => rfl
  | stuck => rfl
/-! truth -/
def cT2 (ρ : Ev) : Option Bool → R (Bool × Ev)
  | some c => .ok (c, ρ)
  | none => .stuck
@[simp] theorem e_cT2 (c : Bool) : cT2 ρ (some c) = .ok (c, ρ) := rfl
def cT1 : R (B × Ev) → R (Bool × Ev)
  | .ok p => cT2 p.2 (isB p.1)
  | .err x ρ => .err x ρ
  | .stuck => .stuck
@[simp] theorem e_cT1 : cT1 (.ok (b, ρ)) = cT2 ρ (isB b) := rfl
@[simp] theorem e_cT1e (x : Exc) : cT1 (.err x ρ) = .err x ρ := rfl
@[simp] theorem e_cT (f : FE) : cT f ρ = cT1 (f ρ) := by
  unfold cT cT1
  cases f ρ with
  | ok p =>
    obtain ⟨b, ρ'⟩ := p
    simp only [ok_bind]
    cases isB b <;> rfl
  | err x ρ' => rfl
  | stuck => rfl
def nT1 : R (Bool × Ev) → R (Bool × Ev)
  | .ok p => .ok (!p.1, p.2)
  | .err x ρ => .err x ρ
  | .stuck => .stuck
@[simp] theorem e_nT1 (c : Bool) : nT1 (.ok (c, ρ)) = .ok (!c, ρ) := rfl
@[simp] theorem e_cNotT (f : FT) : cNotT f ρ = nT1 (f ρ) := by
  unfold cNotT nT1
  cases f ρ <;> rfl
def anT1 (g : FT) : R (Bool × Ev) → R (Bool × Ev)
  | .ok p => if p.1 = true then g p.2 else .ok (false, p.2)
  | .err x ρ => .err x ρ
  | .stuck => .stuck
@[simp] theorem e_anT1 (g : FT) (c : Bool) : anT1 g (.ok (c, ρ)) = if c = true then g ρ else .ok (false, ρ) := rfl
@[simp] theorem e_cAndT (f g : FT) : cAndT f g ρ = anT1 g (f ρ) := by
  unfold cAndT anT1
  cases f ρ <;> rfl
def orT1 (g : FT) : R (Bool × Ev) → R (Bool × Ev)
  | .ok p => if p.1 = true then .ok (true, p.2) else g p.2
  | .err x ρ => .err x ρ
  | .stuck => .stuck
@[simp] theorem e_orT1 (g : FT) (c : Bool) : orT1 g (.ok (c, ρ)) = if c = true then .ok (true, ρ) else g ρ := rfl
@[simp] theorem e_cOrT (f g : FT) : cOrT f g ρ = orT1 g (f ρ) := by
  unfold cOrT orT1
  cases f ρ <;> rfl
def anV2 (g : FE) (ρ : Ev) : Option Bool → R (B × Ev)
  | some c => if c = true then g ρ else .ok (.dat (.bl false), ρ)
  | none => .stuck
@[simp] theorem e_anV2 (g : FE) (c : Bool) : anV2 g ρ (some c) = if c = true then g ρ else .ok (.dat (.bl false), ρ) := rfl
def anV1 (g : FE) : R (B × Ev) → R (B × Ev)
  | .ok p => anV2 g p.2 (isB p.1)
  | .err x ρ => .err x ρ
  | .stuck => .stuck
@[simp] theorem e_anV1 (g : FE) : anV1 g (.ok (b, ρ)) = anV2 g ρ (isB b) := rfl
@[simp] theorem e_cAndV (f g : FE) : cAndV f g ρ = anV1 g (f ρ) := by
  unfold cAndV anV1
  cases f ρ with
  | ok p =>
    obtain ⟨b, ρ'⟩ := p
    simp only [ok_bind]
    cases isB b <;> rfl
  | err x ρ' => rfl
  | stuck => rfl
def orV2 (g : FE) (ρ : Ev) : Option Bool → R (B × Ev)
  | some c => if c = true then .ok (.dat (.bl true), ρ) else g ρ
  | none => .stuck
@[simp] theorem e_orV2 (g : FE) (c : Bool) : orV2 g ρ (some c) = if c = true then .ok (.dat (.bl true), ρ) else g ρ := rfl
def orV1 (g : FE) : R (B × Ev) → R (B × Ev)
  | .ok p => orV2 g p.2 (isB p.1)
  | .err x ρ => .err x ρ
  | .stuck => .stuck
@[simp] theorem e_orV1 (g : FE) : orV1 g (.ok (b, ρ)) = orV2 g ρ (isB b) := rfl
@[simp] theorem e_cOrV (f g : FE) : cOrV f g ρ = orV1 g (f ρ) := by
  unfold cOrV orV1
  cases f ρ with
  | ok p =>
    obtain ⟨b, ρ'⟩ := p
    simp only [ok_bind]
    cases isB b <;> rfl
  | err x ρ' => rfl
  | stuck => rfl
def nV1 : R (B × Ev) → R (B × Ev)
  | .ok p => fin p.2 ((isB p.1).map fun c => .dat (.bl (!c)))
  | .err x ρ => .err x ρ
  | .stuck => .stuck
@[simp] theorem e_nV1 (c : Bool) : nV1 (.ok (.dat (.bl c), ρ)) = .ok (.dat (.bl (!c)), ρ) := rfl
@[simp] theorem e_cNotV (f : FE) : cNotV f ρ = nV1 (f ρ) := by
  unfold cNotV nV1
  cases f ρ with
  | ok p =>
    obtain ⟨b, ρ'⟩ := p
    simp only [ok_bind]
    cases isB b <;> rfl
  | err x ρ' => rfl
  | stuck => rfl
def ifE1 (f g : FE) : R (Bool × Ev) → R (B × Ev)
  | .ok p => if p.1 = true then f p.2 else g p.2
  | .err x ρ => .err x ρ
  | .stuck => .stuck
@[simp] theorem e_ifE1 (f g : FE) (c : Bool) : ifE1 f g (.ok (c, ρ)) = if c = true then f ρ else g ρ := rfl
@[simp] theorem e_cIfE (c : FT) (f g : FE) : cIfE c f g ρ = ifE1 f g (c ρ) := by
  unfold cIfE ifE1
  cases c ρ <;> rfl
/-! arguments, displays, calls -/
@[simp] theorem e_aNil : aNil ρ = .ok ([], ρ) := rfl
def ac2 (o : Opd) : R (List Opd × Ev) → R (List Opd × Ev)
  | .ok q => .ok (o :: q.1, q.2)
  | .err x ρ => .err x ρ
  | .stuck => .stuck
@[simp] theorem e_ac2 (o : Opd) (os : List Opd) : ac2 o (.ok (os, ρ)) = .ok (o :: os, ρ) := rfl
@[simp] theorem e_ac2e (o : Opd) (x : Exc) : ac2 o (.err x ρ) = .err x ρ := rfl
def ac1 (g : FA) : R (Opd × Ev) → R (List Opd × Ev)
  | .ok p => ac2 p.1 (g p.2)
  | .err x ρ => .err x ρ
  | .stuck => .stuck
@[simp] theorem e_ac1 (g : FA) (o : Opd) : ac1 g (.ok (o, ρ)) = ac2 o (g ρ) := rfl
@[simp] theorem e_ac1e (g : FA) (x : Exc) : ac1 g (.err x ρ) = .err x ρ := rfl
@[simp] theorem e_aCons (f : FO) (g : FA) : aCons f g ρ = ac1 g (f ρ) := by
  unfold aCons ac1
  cases f ρ with
  | ok p =>
    simp only [ok_bind]
    unfold ac2
    cases g p.2 <;> rfl
  | err x ρ' => rfl
  | stuck => rfl
@[simp] theorem e_vals_nil : vals [] = some [] := rfl
@[simp] theorem e_vals_cons (os : List Opd) : vals (.val d :: os) = (vals os).map (d :: ·) := rfl
def tu2 (ρ : Ev) : Option (List D) → R (B × Ev)
  | some ds => if ds.length ≤ sizeLine then .ok (.dat (.tup ds), ρ) else .stuck
  | none => .stuck
@[simp] theorem e_tu2 (ds : List D) : tu2 ρ (some ds) = if ds.length ≤ sizeLine then .ok (.dat (.tup ds), ρ) else .stuck := rfl
def tu1 : R (List Opd × Ev) → R (B × Ev)
  | .ok p => tu2 p.2 (vals p.1)
  | .err x ρ => .err x ρ
  | .stuck => .stuck
@[simp] theorem e_tu1 (os : List Opd) : tu1 (.ok (os, ρ)) = tu2 ρ (vals os) := rfl
@[simp] theorem e_tu1e (x : Exc) : tu1 (.err x ρ) = .err x ρ := rfl
@[simp] theorem e_cTup (f : FA) : cTup f ρ = tu1 (f ρ) := by
  unfold cTup tu1
  cases f ρ with
  | ok p =>
    simp only [ok_bind]
    show (ofO (vals p.1) >>= fun ds => if ds.length ≤ sizeLine then R.ok (B.dat (.tup ds), p.2) else .stuck) = _
    cases vals p.1 <;> rfl
  | err x ρ' => rfl
  | stuck => rfl
def li2 (ρ : Ev) : Option (List D) → R (B × Ev)
  | some ds => if ds.length ≤ sizeLine then .ok (.own ds, ρ) else .stuck
  | none => .stuck
@[simp] theorem e_li2 (ds : List D) : li2 ρ (some ds) = if ds.length ≤ sizeLine then .ok (.own ds, ρ) else .stuck := rfl
def li1 : R (List Opd × Ev) → R (B × Ev)
  | .ok p => li2 p.2 (vals p.1)
  | .err x ρ => .err x ρ
  | .stuck => .stuck
@[simp] theorem e_li1 (os : List Opd) : li1 (.ok (os, ρ)) = li2 ρ (vals os) := rfl
@[simp] theorem e_li1e (x : Exc) : li1 (.err x ρ) = .err x ρ := rfl
@[simp] theorem e_cLst (f : FA) : cLst f ρ = li1 (f ρ) := by
  unfold cLst li1
  cases f ρ with
  | ok p =>
    simp only [ok_bind]
    cases vals p.1 <;> rfl
  | err x ρ' => rfl
  | stuck => rfl
@[simp] theorem e_rds_nil : rds ρ [] = some [] := rfl
def rd2 : Option D → Option (List D) → Option (List D)
  | some d, some ds => some (d :: ds)
  | _, _ => none
@[simp] theorem e_rd2 (ds : List D) : rd2 (some d) (some ds) = some (d :: ds) := rfl
@[simp] theorem e_rds_cons (o : Opd) (os : List Opd) : rds ρ (o :: os) = rd2 (rd ρ o) (rds ρ os) := by
  show (match rd ρ o, rds ρ os with
    | some d, some ds => some (d :: ds)
    | _, _ => none) = _
  cases rd ρ o <;> cases rds ρ os <;> rfl
def cb2 (g : List D → Option B) (ρ : Ev) : Option (List D) → R (B × Ev)
  | some ds => fin ρ (g ds)
  | none => .stuck
@[simp] theorem e_cb2 (g : List D → Option B) (ds : List D) : cb2 g ρ (some ds) = fin ρ (g ds) := rfl
def cb1 (g : List D → Option B) : R (List Opd × Ev) → R (B × Ev)
  | .ok p => cb2 g p.2 (rds p.2 p.1)
  | .err x ρ => .err x ρ
  | .stuck => .stuck
@[simp] theorem e_cb1 (g : List D → Option B) (os : List Opd) : cb1 g (.ok (os, ρ)) = cb2 g ρ (rds ρ os) := rfl
@[simp] theorem e_cb1e (g : List D → Option B) (x : Exc) : cb1 g (.err x ρ) = .err x ρ := rfl
@[simp] theorem e_cCB (g : List D → Option B) (f : FA) : cCB g f ρ = cb1 g (f ρ) := by
  unfold cCB cb1
  cases f ρ with
  | ok p =>
    simp only [ok_bind]
    cases rds p.2 p.1 with
    | none => rfl
    | some ds =>
      simp only [ofO_some, ok_bind, e_cb2]
      cases g ds <;> rfl
  | err x ρ' => rfl
  | stuck => rfl
def mu4 (k : Nat) (ρ : Ev) : Option (D × List D) → R (B × Ev)
  | some q => .ok (.dat q.1, ρ.set k (.own q.2))
  | none => .stuck
@[simp] theorem e_mu4 (k : Nat) (ds : List D) : mu4 k ρ (some (d, ds)) = .ok (.dat d, ρ.set k (.own ds)) := rfl
def mu3 (k : Nat) (g : List D → List D → Option (D × List D)) (ρ : Ev) : Option (List D) → Option (List D) → R (B × Ev)
  | some ds, some as => mu4 k ρ (g ds as)
  | _, _ => .stuck
@[simp] theorem e_mu3 (k : Nat) (g : List D → List D → Option (D × List D)) (ds as : List D) : mu3 k g ρ (some ds) (some as) = mu4 k ρ (g ds as) := rfl
def mu2 (k : Nat) (g : List D → List D → Option (D × List D)) : R (List Opd × Ev) → R (B × Ev)
  | .ok p => mu3 k g p.2 (ownL p.2 k) (rds p.2 p.1)
  | .err x ρ => .err x ρ
  | .stuck => .stuck
@[simp] theorem e_mu2 (k : Nat) (g : List D → List D → Option (D × List D)) (os : List Opd) : mu2 k g (.ok (os, ρ)) = mu3 k g ρ (ownL ρ k) (rds ρ os) := rfl
def mu1 (k : Nat) (g : List D → List D → Option (D × List D)) (f : FA) (ρ : Ev) : Option (List D) → R (B × Ev)
  | some _ => mu2 k g (f ρ)
  | none => .stuck
@[simp] theorem e_mu1 (k : Nat) (g : List D → List D → Option (D × List D)) (f : FA) (ds : List D) : mu1 k g f ρ (some ds) = mu2 k g (f ρ) := rfl
@[simp] theorem e_cMut (k : Nat) (g : List D → List D → Option (D × List D)) (f : FA) : cMut k g f ρ = mu1 k g f ρ (ownL ρ k) := by
  unfold cMut mu1
  cases ownL ρ k with
  | none => rfl
  | some ds0 =>
    simp only [ofO_some, ok_bind]
    unfold mu2
    cases f ρ with
    | ok p =>
      simp only [ok_bind]
      cases ownL p.2 k with
      | none => rfl
      | some ds =>
        cases rds p.2 p.1 with
        | none => rfl
        | some as =>
          simp only [ofO_some, ok_bind, e_mu3]
          cases g ds as <;> rfl
    | err x ρ' => rfl
    | stuck => rfl
def ap3 (k : Nat) (ρ : Ev) : Option D → Option (List D) → R (B × Ev)
  | some d, some ds => if ds.length < sizeLine then .ok (.dat .non, ρ.set k (.own (ds ++ [d]))) else .stuck
  | _, _ => .stuck
@[simp] theorem e_ap3 (k : Nat) (ds : List D) : ap3 k ρ (some d) (some ds) = if ds.length < sizeLine then .ok (.dat .non, ρ.set k (.own (ds ++ [d]))) else .stuck := rfl
def ap2 (k : Nat) : R (B × Ev) → R (B × Ev)
  | .ok p => ap3 k p.2 (frz p.1) (ownL p.2 k)
  | .err x ρ => .err x ρ
  | .stuck => .stuck
@[simp] theorem e_ap2 (k : Nat) : ap2 k (.ok (b, ρ)) = ap3 k ρ (frz b) (ownL ρ k) := rfl
def ap1 (k : Nat) (f : FE) (ρ : Ev) : Option (List D) → R (B × Ev)
  | some _ => ap2 k (f ρ)
  | none => .stuck
@[simp] theorem e_ap1 (k : Nat) (f : FE) (ds : List D) : ap1 k f ρ (some ds) = ap2 k (f ρ) := rfl
@[simp] theorem e_cAppend (k : Nat) (f : FE) : cAppend k f ρ = ap1 k f ρ (ownL ρ k) := by
  unfold cAppend ap1
  cases ownL ρ k with
  | none => rfl
  | some ds0 =>
    simp only [ofO_some, ok_bind]
    rw [e_cD]
    unfold ap2
    cases f ρ with
    | ok p =>
      obtain ⟨b, ρ'⟩ := p
      rw [e_cD1]
      show _ = ap3 k ρ' (frz b) (ownL ρ' k)
      cases frz b with
      | none => rfl
      | some d =>
        simp only [e_cD2, ok_bind, e_frz_dat, ofO_some]
        cases ownL ρ' k <;> rfl
    | err x ρ' => rfl
    | stuck => rfl
@[simp] theorem e_cDnew : cDnew ρ = .ok (.odk [], ρ) := rfl
@[simp] theorem e_pNo : pNo ρ = .ok (none, ρ) := rfl
def ps3 (ρ : Ev) : Option Int → R (Option Int × Ev)
  | some i => .ok (some i, ρ)
  | none => .stuck
@[simp] theorem e_ps3 : ps3 ρ (some i) = .ok (some i, ρ) := rfl
def ps2 (ρ : Ev) : Option D → R (Option Int × Ev)
  | some d => ps3 ρ (intOf d)
  | none => .stuck
@[simp] theorem e_ps2 : ps2 ρ (some d) = ps3 ρ (intOf d) := rfl
def ps1 : R (Opd × Ev) → R (Option Int × Ev)
  | .ok p => ps2 p.2 (rd p.2 p.1)
  | .err x ρ => .err x ρ
  | .stuck => .stuck
@[simp] theorem e_ps1 (o : Opd) : ps1 (.ok (o, ρ)) = ps2 ρ (rd ρ o) := rfl
@[simp] theorem e_pSo (f : FO) : pSo f ρ = ps1 (f ρ) := by
  unfold pSo ps1
  cases f ρ with
  | ok p =>
    simp only [ok_bind]
    cases rd p.2 p.1 with
    | none => rfl
    | some d =>
      simp only [ofO_some, ok_bind, e_ps2]
      cases intOf d <;> rfl
  | err x ρ' => rfl
  | stuck => rfl
def sl3 (o : Opd) (l : Option Int) : R (Option Int × Ev) → R (B × Ev)
  | .ok w => c1b (fun d => gSl d l w.1) w.2 (rd w.2 o)
  | .err x ρ => .err x ρ
  | .stuck => .stuck
@[simp] theorem e_sl3 (o : Opd) (l u : Option Int) : sl3 o l (.ok (u, ρ)) = c1b (fun d => gSl d l u) ρ (rd ρ o) := rfl
def sl2 (o : Opd) (u : FP) : R (Option Int × Ev) → R (B × Ev)
  | .ok q => sl3 o q.1 (u q.2)
  | .err x ρ => .err x ρ
  | .stuck => .stuck
@[simp] theorem e_sl2 (o : Opd) (l : Option Int) (u : FP) : sl2 o u (.ok (l, ρ)) = sl3 o l (u ρ) := rfl
def sl1 (l u : FP) : R (Opd × Ev) → R (B × Ev)
  | .ok p => sl2 p.1 u (l p.2)
  | .err x ρ => .err x ρ
  | .stuck => .stuck
@[simp] theorem e_sl1 (o : Opd) (l u : FP) : sl1 l u (.ok (o, ρ)) = sl2 o u (l ρ) := rfl
@[simp] theorem e_cSl (f : FO) (l u : FP) : cSl f l u ρ = sl1 l u (f ρ) := by
  unfold cSl sl1
  cases f ρ with
  | ok p =>
    simp only [ok_bind]
    unfold sl2
    cases l p.2 with
    | ok q =>
      simp only [ok_bind]
      unfold sl3
      cases u q.2 with
      | ok w =>
        simp only [ok_bind]
        cases rd w.2 p.1 with
        | none => rfl
        | some d =>
          simp only [ofO_some, ok_bind, e_c1b]
          cases gSl d q.1 w.1 <;> rfl
      | err x ρ' => rfl
      | stuck => rfl
    | err x ρ' => rfl
    | stuck => rfl
  | err x ρ' => rfl
  | stuck => rfl
def lc2 (ρ0 : Ev) (vs : List Nat) : R (List D × Ev) → R (B × Ev)
  | .ok r => .ok (.own r.1, restE ρ0 r.2 vs)
  | .err x ρ => .err x ρ
  | .stuck => .stuck
@[simp] theorem e_lc2 (ρ0 : Ev) (vs : List Nat) (ds : List D) : lc2 ρ0 vs (.ok (ds, ρ)) = .ok (.own ds, restE ρ0 ρ vs) := rfl
def lc1 (p : Pat) (c : FT) (e : FE) (vs : List Nat) : R (List D × Ev) → R (B × Ev)
  | .ok q => lc2 q.2 vs (lcD p c e vs q.1 [] (wipeE q.2 vs))
  | .err x ρ => .err x ρ
  | .stuck => .stuck
@[simp] theorem e_lc1 (p : Pat) (c : FT) (e : FE) (vs : List Nat) (ds : List D) : lc1 p c e vs (.ok (ds, ρ)) = lc2 ρ vs (lcD p c e vs ds [] (wipeE ρ vs)) := rfl
@[simp] theorem e_cLc (p : Pat) (fi : FI) (c : FT) (e : FE) (vs : List Nat) : cLc p fi c e vs ρ = lc1 p c e vs (fi ρ) := by
  unfold cLc lc1
  cases fi ρ with
  | ok q =>
    simp only [ok_bind]
    unfold lc2
    cases lcD p c e vs q.1 [] (wipeE q.2 vs) <;> rfl
  | err x ρ' => rfl
  | stuck => rfl
@[simp] theorem e_wipe_nil : wipeE ρ [] = ρ := rfl
@[simp] theorem e_wipe_cons (v : Nat) (vs : List Nat) : wipeE ρ (v :: vs) = (wipeE ρ vs).set v .un := rfl
def kd1 : Option B → B
  | some (.dat d) => .dat d
  | _ => .un
@[simp] theorem e_kd1d : kd1 (some (.dat d)) = .dat d := rfl
@[simp] theorem e_kd1u : kd1 (some .un) = .un := rfl
@[simp] theorem e_kd1o (ds : List D) : kd1 (some (.own ds)) = .un := rfl
@[simp] theorem e_rest_nil (ρ0 : Ev) : restE ρ0 ρ [] = ρ := rfl
@[simp] theorem e_rest_cons (ρ0 : Ev) (v : Nat) (vs : List Nat) : restE ρ0 ρ (v :: vs) = restE ρ0 (ρ.set v (kd1 ρ0[v]?)) vs := by
  show restE ρ0 (ρ.set v (match ρ0[v]? with | some (.dat d) => .dat d | _ => .un)) vs = _
  congr 2
@[simp] theorem e_tYs : tYs ρ = .ok (true, ρ) := rfl
/-! calls of defs -/
def tk1 (b : B) : Option (List B × Ev) → Option (List B × Ev)
  | some p => some (b :: p.1, p.2)
  | none => none
@[simp] theorem e_tk1 (bs : List B) : tk1 b (some (bs, ρ)) = some (b :: bs, ρ) := rfl
def tk2 (k : Nat) (os : List Opd) (ρ : Ev) : Option B → Option (List B × Ev)
  | some b => tk1 b (takeArgs os (ρ.set k .un))
  | none => none
@[simp] theorem e_tk2 (k : Nat) (os : List Opd) : tk2 k os ρ (some b) = tk1 b (takeArgs os (ρ.set k .un)) := rfl
@[simp] theorem e_take_nil : takeArgs [] ρ = some ([], ρ) := rfl
@[simp] theorem e_take_val (os : List Opd) : takeArgs (.val d :: os) ρ = tk1 (.dat d) (takeArgs os ρ) := by
  show (takeArgs os ρ).map (fun p => (.dat d :: p.1, p.2)) = _
  cases takeArgs os ρ <;> rfl
@[simp] theorem e_take_var (os : List Opd) (k : Nat) : takeArgs (.var k :: os) ρ = tk2 k os ρ ρ[k]? := by
  show (ρ[k]?).bind (fun b => (takeArgs os (ρ.set k .un)).map fun p => (b :: p.1, p.2)) = _
  cases ρ[k]? with
  | none => rfl
  | some b =>
    show (takeArgs os (ρ.set k .un)).map (fun p => (b :: p.1, p.2)) = tk1 b (takeArgs os (ρ.set k .un))
    cases takeArgs os (ρ.set k .un) <;> rfl
def pu1 (k : Nat) (b : B) : Option Ev → Option Ev
  | some ρ => some (ρ.set k b)
  | none => none
@[simp] theorem e_pu1 (k : Nat) : pu1 k b (some ρ) = some (ρ.set k b) := rfl
@[simp] theorem e_put_nil : putArgs [] [] ρ = some ρ := rfl
@[simp] theorem e_put_val (os : List Opd) (bs : List B) : putArgs (.val d :: os) (b :: bs) ρ = putArgs os bs ρ := rfl
@[simp] theorem e_put_var (os : List Opd) (bs : List B) (k : Nat) : putArgs (.var k :: os) (b :: bs) ρ = pu1 k b (putArgs os bs ρ) := by
  show (putArgs os bs ρ).map (fun ρ' => ρ'.set k b) = _
  cases putArgs os bs ρ <;> rfl
def ca4 (ret : B) : Option Ev → R (B × Ev)
  | some ρ => .ok (ret, ρ)
  | none => .stuck
@[simp] theorem e_ca4 : ca4 b (some ρ) = .ok (b, ρ) := rfl
def ca5 (x : Exc) : Option Ev → R (B × Ev)
  | some ρ => .err x ρ
  | none => .stuck
@[simp] theorem e_ca5 (x : Exc) : ca5 x (some ρ) = .err x ρ := rfl
def ca3 (os : List Opd) (ρ : Ev) : FR → R (B × Ev)
  | .ok ret outs => ca4 ret (putArgs os outs ρ)
  | .er x outs => ca5 x (putArgs os outs ρ)
  | .stuck => .stuck
@[simp] theorem e_ca3 (os : List Opd) (outs : List B) : ca3 os ρ (.ok b outs) = ca4 b (putArgs os outs ρ) := rfl
@[simp] theorem e_ca3e (os : List Opd) (x : Exc) (outs : List B) : ca3 os ρ (.er x outs) = ca5 x (putArgs os outs ρ) := rfl
def ca2 (G : FG) (os : List Opd) : Option (List B × Ev) → R (B × Ev)
  | some q => ca3 os q.2 (G q.1)
  | none => .stuck
@[simp] theorem e_ca2 (G : FG) (os : List Opd) (bs : List B) : ca2 G os (some (bs, ρ)) = ca3 os ρ (G bs) := rfl
def ca1 (G : FG) : R (List Opd × Ev) → R (B × Ev)
  | .ok p => ca2 G p.1 (takeArgs p.1 p.2)
  | .err x ρ => .err x ρ
  | .stuck => .stuck
@[simp] theorem e_ca1 (G : FG) (os : List Opd) : ca1 G (.ok (os, ρ)) = ca2 G os (takeArgs os ρ) := rfl
@[simp] theorem e_ca1e (G : FG) (x : Exc) : ca1 G (.err x ρ) = .err x ρ := rfl
@[simp] theorem e_cCall (G : FG) (f : FA) : cCall G f ρ = ca1 G (f ρ) := by
  unfold cCall ca1
  cases f ρ with
  | ok p =>
    obtain ⟨os, ρ'⟩ := p
    simp only [ok_bind]
    cases takeArgs os ρ' with
    | none => rfl
    | some q =>
      simp only [ofO_some, ok_bind]
      show _ = ca3 os q.2 (G q.1)
      cases G q.1 with
      | ok ret outs =>
        show (ofO (putArgs os outs q.2) >>= fun ρ' => R.ok (ret, ρ')) = ca4 ret (putArgs os outs q.2)
        cases putArgs os outs q.2 <;> rfl
      | er x outs =>
        show (match putArgs os outs q.2 with | some ρ' => R.err x ρ' | none => .stuck) = ca5 x (putArgs os outs q.2)
        cases putArgs os outs q.2 <;> rfl
      | stuck => rfl
  | err x ρ' => rfl
  | stuck => rfl
/-! what is walked -/
def is2 (ρ : Ev) : Option (List D) → R (List D × Ev)
  | some ds => .ok (ds, ρ)
  | none => .stuck
@[simp] theorem e_is2 (ds : List D) : is2 ρ (some ds) = .ok (ds, ρ) := rfl
def is1 : R (Opd × Ev) → R (List D × Ev)
  | .ok (.val d, ρ) => is2 ρ (seqOf d)
  | .ok (.var _, _) => .stuck
  | .err x ρ => .err x ρ
  | .stuck => .stuck
@[simp] theorem e_is1 : is1 (.ok (.val d, ρ)) = is2 ρ (seqOf d) := rfl
@[simp] theorem e_iSeq (f : FO) : iSeq f ρ = is1 (f ρ) := by
  unfold iSeq
  cases f ρ with
  | ok p =>
    obtain ⟨o, ρ'⟩ := p
    cases o with
    | val d =>
      simp only [ok_bind, e_is1]
      cases seqOf d <;> rfl
    | var k => rfl
  | err x ρ' => rfl
  | stuck => rfl
def en2 (ρ : Ev) : Option (List D) → R (List D × Ev)
  | some ds => .ok (enumD ds, ρ)
  | none => .stuck
@[simp] theorem e_en2 (ds : List D) : en2 ρ (some ds) = .ok (enumD ds, ρ) := rfl
def en1 : R (Opd × Ev) → R (List D × Ev)
  | .ok (.val d, ρ) => en2 ρ (seqOf d)
  | .ok (.var _, _) => .stuck
  | .err x ρ => .err x ρ
  | .stuck => .stuck
@[simp] theorem e_en1 : en1 (.ok (.val d, ρ)) = en2 ρ (seqOf d) := rfl
@[simp] theorem e_iEnm (f : FO) : iEnm f ρ = en1 (f ρ) := by
  unfold iEnm
  cases f ρ with
  | ok p =>
    obtain ⟨o, ρ'⟩ := p
    cases o with
    | val d =>
      simp only [ok_bind, e_en1]
      cases seqOf d <;> rfl
    | var k => rfl
  | err x ρ' => rfl
  | stuck => rfl
def ir2 (g : List D → Option (List D)) (ρ : Ev) : Option (List D) → R (List D × Ev)
  | some ds => is2 ρ (g ds)
  | none => .stuck
@[simp] theorem e_ir2 (g : List D → Option (List D)) (ds : List D) : ir2 g ρ (some ds) = is2 ρ (g ds) := rfl
def ir1 (g : List D → Option (List D)) : R (List Opd × Ev) → R (List D × Ev)
  | .ok p => ir2 g p.2 (rds p.2 p.1)
  | .err x ρ => .err x ρ
  | .stuck => .stuck
@[simp] theorem e_ir1 (g : List D → Option (List D)) (os : List Opd) : ir1 g (.ok (os, ρ)) = ir2 g ρ (rds ρ os) := rfl
@[simp] theorem e_iRng (g : List D → Option (List D)) (f : FA) : iRng g f ρ = ir1 g (f ρ) := by
  unfold iRng ir1
  cases f ρ with
  | ok p =>
    simp only [ok_bind]
    cases rds p.2 p.1 with
    | none => rfl
    | some ds =>
      simp only [ofO_some, ok_bind, e_ir2]
      cases g ds <;> rfl
  | err x ρ' => rfl
  | stuck => rfl
@[simp] theorem e_pName (k : Nat) : pName k d ρ = some (ρ.set k (.dat d)) := rfl
def pl1 (ps : List Pat) (ds : List D) : Option Ev → Option Ev
  | some ρ => pList ps ds ρ
  | none => none
@[simp] theorem e_pl1 (ps : List Pat) (ds : List D) : pl1 ps ds (some ρ) = pList ps ds ρ := rfl
@[simp] theorem e_pTup_tup (ps : List Pat) (ds : List D) : pTup ps (.tup ds) ρ = if ds.length = ps.length then pList ps ds ρ else none := rfl
@[simp] theorem e_pTup_lst (ps : List Pat) (ds : List D) : pTup ps (.lst ds) ρ = if ds.length = ps.length then pList ps ds ρ else none := rfl
@[simp] theorem e_pList_nil : pList [] [] ρ = some ρ := rfl
@[simp] theorem e_pList_cons (p : Pat) (ps : List Pat) (ds : List D) : pList (p :: ps) (d :: ds) ρ = pl1 ps ds (p d ρ) := by
  show (p d ρ).bind (fun ρ1 => pList ps ds ρ1) = _
  cases p d ρ <;> rfl
/-! statements -/
@[simp] theorem e_sSeq (f g : FS) : sSeq f g ρ = (f ρ).then g := rfl
@[simp] theorem e_sNil : sNil ρ = .nx ρ := rfl
@[simp] theorem e_sBk : sBk ρ = .bk ρ := rfl
@[simp] theorem e_sCt : sCt ρ = .ct ρ := rfl
def sE1 : R (B × Ev) → Out
  | .ok p => .nx p.2
  | .err x ρ => .er x ρ
  | .stuck => .stuck
@[simp] theorem e_sE1 : sE1 (.ok (b, ρ)) = .nx ρ := rfl
@[simp] theorem e_sE1e (x : Exc) : sE1 (.err x ρ) = .er x ρ := rfl
@[simp] theorem e_sE (f : FE) : sE f ρ = sE1 (f ρ) := by
  unfold sE sE1
  cases f ρ <;> rfl
def sR1 : R (B × Ev) → Out
  | .ok p => .rt p.1 p.2
  | .err x ρ => .er x ρ
  | .stuck => .stuck
@[simp] theorem e_sR1 : sR1 (.ok (b, ρ)) = .rt b ρ := rfl
@[simp] theorem e_sR1e (x : Exc) : sR1 (.err x ρ) = .er x ρ := rfl
@[simp] theorem e_sRet (f : FE) : sRet f ρ = sR1 (f ρ) := by
  unfold sRet sR1
  cases f ρ <;> rfl
@[simp] theorem e_sRetN : sRetN ρ = .rt (.dat .non) ρ := rfl
def sI1 (f g : FS) : R (Bool × Ev) → Out
  | .ok p => if p.1 = true then f p.2 else g p.2
  | .err x ρ => .er x ρ
  | .stuck => .stuck
@[simp] theorem e_sI1 (f g : FS) (c : Bool) : sI1 f g (.ok (c, ρ)) = if c = true then f ρ else g ρ := rfl
@[simp] theorem e_sI1e (f g : FS) (x : Exc) : sI1 f g (.err x ρ) = .er x ρ := rfl
@[simp] theorem e_sIf (c : FT) (f g : FS) : sIf c f g ρ = sI1 f g (c ρ) := by
  unfold sIf sI1
  cases c ρ <;> rfl
def sS1 (k : Nat) : R (B × Ev) → Out
  | .ok p => .nx (p.2.set k p.1)
  | .err x ρ => .er x ρ
  | .stuck => .stuck
@[simp] theorem e_sS1 (k : Nat) : sS1 k (.ok (b, ρ)) = .nx (ρ.set k b) := rfl
@[simp] theorem e_sS1e (k : Nat) (x : Exc) : sS1 k (.err x ρ) = .er x ρ := rfl
@[simp] theorem e_sSet (k : Nat) (f : FE) : sSet k f ρ = sS1 k (f ρ) := by
  unfold sSet sS1
  cases f ρ <;> rfl
@[simp] theorem e_sSetD (k : Nat) (f : FE) : sSetD k f ρ = sS1 k (cD1 (f ρ)) := by
  unfold sSetD sS1 cD1
  cases f ρ with
  | ok p =>
    obtain ⟨b, ρ'⟩ := p
    simp only [out_ok]
    cases frz b <;> rfl
  | err x ρ' => rfl
  | stuck => rfl
def un3 : Option Ev → Out
  | some ρ => .nx ρ
  | none => .stuck
@[simp] theorem e_un3 : un3 (some ρ) = .nx ρ := rfl
def un2 (p : Pat) (ρ : Ev) : Option D → Out
  | some d => un3 (p d ρ)
  | none => .stuck
@[simp] theorem e_un2 (p : Pat) : un2 p ρ (some d) = un3 (p d ρ) := rfl
def un1 (p : Pat) : R (B × Ev) → Out
  | .ok q => un2 p q.2 (frz q.1)
  | .err x ρ => .er x ρ
  | .stuck => .stuck
@[simp] theorem e_un1 (p : Pat) : un1 p (.ok (b, ρ)) = un2 p ρ (frz b) := rfl
@[simp] theorem e_un1e (p : Pat) (x : Exc) : un1 p (.err x ρ) = .er x ρ := rfl
@[simp] theorem e_sUnp (p : Pat) (f : FE) : sUnp p f ρ = un1 p (f ρ) := by
  unfold sUnp un1
  rw [e_cD]
  cases f ρ with
  | ok q =>
    obtain ⟨b, ρ'⟩ := q
    rw [e_cD1]
    show _ = un2 p ρ' (frz b)
    cases frz b with
    | none => rfl
    | some d =>
      simp only [e_cD2, out_ok, e_frz_dat, out_ofO_some, e_un2]
      cases p d ρ' <;> rfl
  | err x ρ' => rfl
  | stuck => rfl
def fo1 (p : Pat) (body : FS) : R (List D × Ev) → Out
  | .ok q => forD p body q.1 q.2
  | .err x ρ => .er x ρ
  | .stuck => .stuck
@[simp] theorem e_fo1 (p : Pat) (body : FS) (ds : List D) : fo1 p body (.ok (ds, ρ)) = forD p body ds ρ := rfl
@[simp] theorem e_fo1e (p : Pat) (body : FS) (x : Exc) : fo1 p body (.err x ρ) = .er x ρ := rfl
@[simp] theorem e_sFor (p : Pat) (f : FI) (body : FS) : sFor p f body ρ = fo1 p body (f ρ) := by
  unfold sFor fo1
  cases f ρ <;> rfl
@[simp] theorem e_forD_nil (p : Pat) (body : FS) : forD p body [] ρ = .nx ρ := rfl
def fd2 (p : Pat) (body : FS) (ds : List D) : Out → Out
  | .nx ρ => forD p body ds ρ
  | .ct ρ => forD p body ds ρ
  | .bk ρ => .nx ρ
  | .rt b ρ => .rt b ρ
  | .er x ρ => .er x ρ
  | .stuck => .stuck
@[simp] theorem e_fd2n (p : Pat) (body : FS) (ds : List D) : fd2 p body ds (.nx ρ) = forD p body ds ρ := rfl
@[simp] theorem e_fd2c (p : Pat) (body : FS) (ds : List D) : fd2 p body ds (.ct ρ) = forD p body ds ρ := rfl
@[simp] theorem e_fd2b (p : Pat) (body : FS) (ds : List D) : fd2 p body ds (.bk ρ) = .nx ρ := rfl
@[simp] theorem e_fd2r (p : Pat) (body : FS) (ds : List D) : fd2 p body ds (.rt b ρ) = .rt b ρ := rfl
@[simp] theorem e_fd2e (p : Pat) (body : FS) (ds : List D) (x : Exc) : fd2 p body ds (.er x ρ) = .er x ρ := rfl
@[simp] theorem e_fd2i (p : Pat) (body : FS) (ds : List D) (c : Prop) [Decidable c] (o o' : Out) : fd2 p body ds (if c then o else o') = if c then fd2 p body ds o else fd2 p body ds o' := by split <;> rfl
def fd1 (p : Pat) (body : FS) (ds : List D) : Option Ev → Out
  | some ρ => fd2 p body ds (body ρ)
  | none => .stuck
@[simp] theorem e_fd1 (p : Pat) (body : FS) (ds : List D) : fd1 p body ds (some ρ) = fd2 p body ds (body ρ) := rfl
/-- one turn (not by simp: a body written out in full) -/
theorem forD_cons (p : Pat) (body : FS) (ds : List D) : forD p body (d :: ds) ρ = fd1 p body ds (p d ρ) := by
  unfold fd1
  simp only [forD]
  cases p d ρ with
  | none => rfl
  | some ρ1 =>
    simp only
    unfold fd2
    cases body ρ1 <;> rfl
def lt4 (p : Pat) (c : FT) (e : FE) (vs : List Nat) (ds acc : List D) : R (Opd × Ev) → R (List D × Ev)
  | .ok (.val d', ρ) => if acc.length < sizeLine then lcD p c e vs ds (acc ++ [d']) (wipeE ρ vs) else .stuck
  | _ => .stuck
@[simp] theorem e_lt4 (p : Pat) (c : FT) (e : FE) (vs : List Nat) (ds acc : List D) : lt4 p c e vs ds acc (.ok (.val d, ρ)) = if acc.length < sizeLine then lcD p c e vs ds (acc ++ [d]) (wipeE ρ vs) else .stuck := rfl
def lt3 (p : Pat) (c : FT) (e : FE) (vs : List Nat) (ds acc : List D) : R (Bool × Ev) → R (List D × Ev)
  | .ok (true, ρ) => lt4 p c e vs ds acc (cO e ρ)
  | .ok (false, ρ) => lcD p c e vs ds acc (wipeE ρ vs)
  | _ => .stuck
@[simp] theorem e_lt3t (p : Pat) (c : FT) (e : FE) (vs : List Nat) (ds acc : List D) : lt3 p c e vs ds acc (.ok (true, ρ)) = lt4 p c e vs ds acc (cO e ρ) := rfl
@[simp] theorem e_lt3f (p : Pat) (c : FT) (e : FE) (vs : List Nat) (ds acc : List D) : lt3 p c e vs ds acc (.ok (false, ρ)) = lcD p c e vs ds acc (wipeE ρ vs) := rfl
def lt1 (p : Pat) (c : FT) (e : FE) (vs : List Nat) (ds acc : List D) : Option Ev → R (List D × Ev)
  | some ρ => lt3 p c e vs ds acc (c ρ)
  | none => .stuck
@[simp] theorem e_lt1 (p : Pat) (c : FT) (e : FE) (vs : List Nat) (ds acc : List D) : lt1 p c e vs ds acc (some ρ) = lt3 p c e vs ds acc (c ρ) := rfl
@[simp] theorem e_lcD_nil (p : Pat) (c : FT) (e : FE) (vs : List Nat) (acc : List D) : lcD p c e vs [] acc ρ = .ok (acc, ρ) := rfl
theorem lcD_cons (p : Pat) (c : FT) (e : FE) (vs : List Nat) (ds acc : List D) : lcD p c e vs (d :: ds) acc ρ = lt1 p c e vs ds acc (p d ρ) := by
  unfold lt1
  simp only [lcD]
  cases p d ρ with
  | none => rfl
  | some ρ1 =>
    simp only
    unfold lt3
    cases c ρ1 with
    | ok q =>
      obtain ⟨t, ρ2⟩ := q
      cases t with
      | false => rfl
      | true =>
        simp only
        unfold lt4
        cases cO e ρ2 with
        | ok z =>
          obtain ⟨o, ρ3⟩ := z
          cases o <;> rfl
        | err x ρ3 => rfl
        | stuck => rfl
    | err x ρ2 => rfl
    | stuck => rfl
def pu5 (k : Nat) (ρ : Ev) : Option (List D) → Out
  | some ds => .nx (ρ.set k (.own ds))
  | none => .stuck
@[simp] theorem e_pu5 (k : Nat) (ds : List D) : pu5 k ρ (some ds) = .nx (ρ.set k (.own ds)) := rfl
def pu4 (k : Nat) (ρ : Ev) : Opd → Option (List D) → Option D → Out
  | .val d, some ds, some x => pu5 k ρ (putL ds d x)
  | _, _, _ => .stuck
@[simp] theorem e_pu4 (k : Nat) (ds : List D) : pu4 k ρ (.val d) (some ds) (some d') = pu5 k ρ (putL ds d d') := rfl
def pu3 (k : Nat) (o : Opd) : R (Opd × Ev) → Out
  | .ok q => pu4 k q.2 o (ownL q.2 k) (rd q.2 q.1)
  | .err x ρ => .er x ρ
  | .stuck => .stuck
@[simp] theorem e_pu3 (k : Nat) (o o' : Opd) : pu3 k o (.ok (o', ρ)) = pu4 k ρ o (ownL ρ k) (rd ρ o') := rfl
def pu2 (k : Nat) (fj : FO) (o : Opd) (ρ : Ev) : Option (List D) → Out
  | some _ => pu3 k o (fj ρ)
  | none => .stuck
@[simp] theorem e_pu2 (k : Nat) (fj : FO) (o : Opd) (ds : List D) : pu2 k fj o ρ (some ds) = pu3 k o (fj ρ) := rfl
def pp1 (k : Nat) (fj : FO) : R (Opd × Ev) → Out
  | .ok p => pu2 k fj p.1 p.2 (ownL p.2 k)
  | .err x ρ => .er x ρ
  | .stuck => .stuck
@[simp] theorem e_pp1 (k : Nat) (fj : FO) (o : Opd) : pp1 k fj (.ok (o, ρ)) = pu2 k fj o ρ (ownL ρ k) := rfl
@[simp] theorem e_sPut (k : Nat) (f : FE) (fj : FO) : sPut k f fj ρ = pp1 k fj (cO f ρ) := by
  unfold sPut pp1
  cases cO f ρ with
  | ok p =>
    obtain ⟨o, ρ'⟩ := p
    simp only [out_ok]
    cases ownL ρ' k with
    | none => rfl
    | some ds0 =>
      simp only [out_ofO_some]
      show _ = pu3 k o (fj ρ')
      unfold pu3
      cases fj ρ' with
      | ok q =>
        obtain ⟨o', ρ2⟩ := q
        simp only [out_ok]
        cases ownL ρ2 k with
        | none => cases o <;> rfl
        | some ds =>
          cases rd ρ2 o' with
          | none => cases o <;> rfl
          | some x =>
            cases o with
            | val d =>
              simp only [out_ofO_some, e_pu4]
              cases putL ds d x <;> rfl
            | var _ => rfl
      | err x ρ2 => rfl
      | stuck => rfl
  | err x ρ' => rfl
  | stuck => rfl
def au3 (k : Nat) (g : Int → Int → Int) (i : Int) (ρ : Ev) : Option D → Out
  | some (.int j) => .nx (ρ.set k (.dat (.int (g i j))))
  | _ => .stuck
@[simp] theorem e_au3 (k : Nat) (g : Int → Int → Int) : au3 k g i ρ (some (.int j)) = .nx (ρ.set k (.dat (.int (g i j)))) := rfl
def au2 (k : Nat) (g : Int → Int → Int) (i : Int) : R (Opd × Ev) → Out
  | .ok p => au3 k g i p.2 (rd p.2 p.1)
  | .err x ρ => .er x ρ
  | .stuck => .stuck
@[simp] theorem e_au2 (k : Nat) (g : Int → Int → Int) (o : Opd) : au2 k g i (.ok (o, ρ)) = au3 k g i ρ (rd ρ o) := rfl
def au1 (k : Nat) (g : Int → Int → Int) (f : FO) (ρ : Ev) : Option B → Out
  | some (.dat (.int i)) => au2 k g i (f ρ)
  | _ => .stuck
@[simp] theorem e_au1 (k : Nat) (g : Int → Int → Int) (f : FO) : au1 k g f ρ (some (.dat (.int i))) = au2 k g i (f ρ) := rfl
@[simp] theorem e_sAug (k : Nat) (g : Int → Int → Int) (f : FO) : sAug k g f ρ = au1 k g f ρ ρ[k]? := by
  unfold sAug
  cases ρ[k]? with
  | none => rfl
  | some b =>
    cases b with
    | dat d =>
      cases d with
      | int a =>
        simp only [e_au1]
        unfold au2
        cases f ρ with
        | ok p =>
          simp only [out_ok]
          unfold au3
          cases rd p.2 p.1 with
          | none => rfl
          | some d => cases d <;> rfl
        | err x ρ' => rfl
        | stuck => rfl
      | _ => rfl
    | _ => rfl
/-! a turn of a while -/
def wh2 (c : FT) (body : FS) (n : Nat) : Out → Out
  | .nx ρ => whileD c body n ρ
  | .ct ρ => whileD c body n ρ
  | .bk ρ => .nx ρ
  | .rt b ρ => .rt b ρ
  | .er x ρ => .er x ρ
  | .stuck => .stuck
@[simp] theorem e_wh2n (c : FT) (body : FS) (n : Nat) : wh2 c body n (.nx ρ) = whileD c body n ρ := rfl
@[simp] theorem e_wh2c (c : FT) (body : FS) (n : Nat) : wh2 c body n (.ct ρ) = whileD c body n ρ := rfl
@[simp] theorem e_wh2b (c : FT) (body : FS) (n : Nat) : wh2 c body n (.bk ρ) = .nx ρ := rfl
@[simp] theorem e_wh2r (c : FT) (body : FS) (n : Nat) : wh2 c body n (.rt b ρ) = .rt b ρ := rfl
@[simp] theorem e_wh2e (c : FT) (body : FS) (n : Nat) (x : Exc) : wh2 c body n (.er x ρ) = .er x ρ := rfl
def wh1 (c : FT) (body : FS) (n : Nat) : R (Bool × Ev) → Out
  | .ok p => if p.1 = true then wh2 c body n (body p.2) else .nx p.2
  | .err x ρ => .er x ρ
  | .stuck => .stuck
@[simp] theorem e_wh1 (c : FT) (body : FS) (n : Nat) (t : Bool) : wh1 c body n (.ok (t, ρ)) = if t = true then wh2 c body n (body ρ) else .nx ρ := rfl
theorem whileD_succ (c : FT) (body : FS) (n : Nat) : whileD c body (n + 1) ρ = wh1 c body n (c ρ) := by
  simp only [whileD]
  unfold wh1
  cases c ρ with
  | ok p =>
    simp only [out_ok]
    split
    · unfold wh2
      cases body p.2 <;> rfl
    · rfl
  | err x ρ' => rfl
  | stuck => rfl
/-! the operators -/
@[simp] theorem e_gAdd : gAdd (.int i) (.int j) = some (.dat (.int (i + j))) := rfl
@[simp] theorem e_gSub : gSub (.int i) (.int j) = some (.dat (.int (i - j))) := rfl
@[simp] theorem e_gMod : gMod (.int i) (.int j) = if 0 < j then some (.dat (.int (i % j))) else none := rfl
@[simp] theorem e_gDiv : gDiv (.int i) (.int j) = if 0 < j ∧ (j < 1073741824 ∨ j.natAbs.log2 < 9000) then some (.dat (.int (i / j))) else none := rfl
@[simp] theorem e_gCmp (p : Int → Int → Bool) : gCmp p (.int i) (.int j) = some (.dat (.bl (p i j))) := rfl
@[simp] theorem e_gPow : gPow (.int i) (.int j) = if 0 ≤ j ∧ j ≤ 1000000 ∧ i.natAbs < 2 ^ 64 then some (.dat (.int (i ^ j.toNat))) else none := rfl
@[simp] theorem e_gNeg : gNeg (.int i) = some (.dat (.int (-i))) := rfl
@[simp] theorem e_seq_lst (ds : List D) : seqOf (.lst ds) = some ds := rfl
@[simp] theorem e_seq_tup (ds : List D) : seqOf (.tup ds) = some ds := rfl
@[simp] theorem e_seq_scr (ds : List D) : seqOf (.scr ds) = some ds := rfl
@[simp] theorem e_lst_lst (ds : List D) : lstOf (.lst ds) = some ds := rfl
@[simp] theorem e_lst_scr (ds : List D) : lstOf (.scr ds) = some ds := rfl
@[simp] theorem e_len_lst (ds : List D) : gLen [.lst ds] = some (.dat (.int (ds.length : Nat))) := rfl
@[simp] theorem e_len_tup (ds : List D) : gLen [.tup ds] = some (.dat (.int (ds.length : Nat))) := rfl
@[simp] theorem e_len_scr (ds : List D) : gLen [.scr ds] = some (.dat (.int (ds.length : Nat))) := rfl
@[simp] theorem e_list_lst (ds : List D) : gList [.lst ds] = some (.own ds) := rfl
@[simp] theorem e_list_tup (ds : List D) : gList [.tup ds] = some (.own ds) := rfl
@[simp] theorem e_list_scr (ds : List D) : gList [.scr ds] = some (.own ds) := rfl
@[simp] theorem e_tuple_tup (ds : List D) : gTuple [.tup ds] = some (.dat (.tup ds)) := rfl
@[simp] theorem e_tuple_lst (ds : List D) : gTuple [.lst ds] = some (.dat (.tup ds)) := rfl
@[simp] theorem e_int_int : gInt [.int i] = some (.dat (.int i)) := rfl
@[simp] theorem e_int_bl (c : Bool) : gInt [.bl c] = some (.dat (.int (if c = true then 1 else 0))) := rfl
@[simp] theorem e_max2 : gMax2 [.int i, .int j] = some (.dat (.int (if j > i then j else i))) := rfl
@[simp] theorem e_min2 : gMin2 [.int i, .int j] = some (.dat (.int (if j < i then j else i))) := rfl
@[simp] theorem e_intOf : intOf (.int i) = some i := rfl
def is_r (s : String) (o : Option String) : Option B := match o with
  | some a => if ["bool", "int", "str", "list", "tuple", "dict"].contains s = true then some (B.dat (.bl (isTy a s))) else none
  | none => none
@[simp] theorem e_isi (s : String) : gIsi [d, .opq (.ty s)] = is_r s (tyN d) := by
  rfl
theorem is_r_some {a s : String} (h : ["bool", "int", "str", "list", "tuple", "dict"].contains s = true) : is_r s (some a) = some (.dat (.bl (isTy a s))) := if_pos h
@[simp] theorem is_r_bool {a : String} : is_r "bool" (some a) = some (.dat (.bl (isTy a "bool"))) := is_r_some (by decide)
@[simp] theorem is_r_int {a : String} : is_r "int" (some a) = some (.dat (.bl (isTy a "int"))) := is_r_some (by decide)
@[simp] theorem is_r_str {a : String} : is_r "str" (some a) = some (.dat (.bl (isTy a "str"))) := is_r_some (by decide)
@[simp] theorem is_r_list {a : String} : is_r "list" (some a) = some (.dat (.bl (isTy a "list"))) := is_r_some (by decide)
@[simp] theorem is_r_tuple {a : String} : is_r "tuple" (some a) = some (.dat (.bl (isTy a "tuple"))) := is_r_some (by decide)
@[simp] theorem is_r_dict {a : String} : is_r "dict" (some a) = some (.dat (.bl (isTy a "dict"))) := is_r_some (by decide)
@[simp] theorem e_sl_tup (ds : List D) (lo hi : Option Int) : gSl (.tup ds) lo hi = some (.dat (.tup (cutD ds lo hi))) := rfl
@[simp] theorem e_sl_lst (ds : List D) (lo hi : Option Int) : gSl (.lst ds) lo hi = some (.own (cutD ds lo hi)) := rfl
@[simp] theorem e_rev_tup (ds : List D) : gRev (.tup ds) = some (.dat (.tup ds.reverse)) := rfl
@[simp] theorem e_rev_lst (ds : List D) : gRev (.lst ds) = some (.own ds.reverse) := rfl
theorem outs_nil (Pr : List Nat) (k : Nat) : outsD Pr k 0 ρ = [] := by cases ρ <;> rfl
theorem outs_cons (Pr : List Nat) (k n : Nat) : outsD Pr k (n + 1) (b :: ρ) = (if Pr.contains k = true then b else .un) :: outsD Pr (k + 1) n ρ := rfl
end
/-- a def's end -/
def toR (Pr : List Nat) (n : Nat) : Out → FR
  | .rt b ρ => .ok b (outsD Pr 0 n ρ)
  | .nx ρ => .ok (.dat .non) (outsD Pr 0 n ρ)
  | .er x ρ => .er x (outsD Pr 0 n ρ)
  | _ => .stuck
theorem toF_at (Pr : List Nat) (n nN : Nat) (g : FS) (bs : List B) : toF Pr n nN g bs = toR Pr n (g (bs ++ List.replicate (nN - n) .un)) := by
  unfold toF toR
  cases g (bs ++ List.replicate (nN - n) .un) <;> rfl
@[simp] theorem e_toR_rt (Pr : List Nat) (n : Nat) (b : B) (ρ : Ev) : toR Pr n (.rt b ρ) = .ok b (outsD Pr 0 n ρ) := rfl
@[simp] theorem e_toR_nx (Pr : List Nat) (n : Nat) (ρ : Ev) : toR Pr n (.nx ρ) = .ok (.dat .non) (outsD Pr 0 n ρ) := rfl
@[simp] theorem e_toR_er (Pr : List Nat) (n : Nat) (x : Exc) (ρ : Ev) : toR Pr n (.er x ρ) = .er x (outsD Pr 0 n ρ) := rfl
@[simp] theorem e_toR_ite (Pr : List Nat) (n : Nat) (c : Prop) [Decidable c] (a b : Out) : toR Pr n (if c then a else b) = if c then toR Pr n a else toR Pr n b := by split <;> rfl
@[simp] theorem e_then_ite (c : Prop) [Decidable c] (a b : Out) (g : FS) : (if c then a else b).then g = if c then a.then g else b.then g := by split <;> rfl
/-! equality -/
theorem gEq_of {d e : D} (h : shp d = true) (h' : shp e = true) : gEq d e = some (.dat (.bl (eqD d e))) := by
  unfold gEq
  rw [h, h']
  rfl
theorem gNe_of {d e : D} (h : shp d = true) (h' : shp e = true) : gNe d e = some (.dat (.bl (!eqD d e))) := by
  unfold gNe
  rw [h, h']
  rfl
@[simp] theorem shp_int (i : Int) : shp (.int i) = true := by
  simp [shp, SeqAt.shaped, py, PyData.canLay0, PyData.depth]
@[simp] theorem shp_bl (i : Bool) : shp (.bl i) = true := by
  simp [shp, SeqAt.shaped, py, PyData.canLay0, PyData.depth]
@[simp] theorem shp_non : shp .non = true := by
  simp [shp, SeqAt.shaped, py, PyData.canLay0, PyData.depth]
theorem strOk_of (s : String) : PyData.strOk (Str.ofString s) = true := by
  unfold PyData.strOk
  rw [Str.ofString_eq_toList]
  simp only [List.all_toArray, List.all_map, List.all_eq_true, Function.comp, decide_eq_true_eq]
  intro c _
  have := c.valid
  unfold Char.toNat UInt32.isValidChar Nat.isValidChar at *
  omega
@[simp] theorem shp_str (s : String) : shp (.str (Str.ofString s)) = true := by
  simp [shp, SeqAt.shaped, py, PyData.canLay0, PyData.depth, strOk_of]
theorem ofString_inj {a b : String} : Str.ofString a = Str.ofString b ↔ a = b := by
  constructor
  · intro h
    rw [Str.ofString_eq_toList, Str.ofString_eq_toList] at h
    have h2 := congrArg Str.cps h
    simp only at h2
    have h3 : a.toList.map Char.toNat = b.toList.map Char.toNat := by simpa using h2
    have inj : Function.Injective Char.toNat := fun x y e => Char.toNat_inj.mp e
    have h4 : a.toList = b.toList := by
      refine List.map_inj_right (fun x y e => inj e) |>.mp h3
    exact String.toList_inj.mp h4
  · intro h
    rw [h]
@[simp] theorem eqD_int (i j : Int) : eqD (.int i) (.int j) = (i == j) := by simp [eqD, py, PyData.eqv]
@[simp] theorem eqD_bl (i j : Bool) : eqD (.bl i) (.bl j) = (i == j) := by simp [eqD, py, PyData.eqv]
@[simp] theorem eqD_str (i j : Str) : eqD (.str i) (.str j) = (i == j) := by simp [eqD, py, PyData.eqv]
@[simp] theorem gEq_int (i j : Int) : gEq (.int i) (.int j) = some (.dat (.bl (i == j))) := by rw [gEq_of (by simp) (by simp), eqD_int]
@[simp] theorem gEq_bl (i j : Bool) : gEq (.bl i) (.bl j) = some (.dat (.bl (i == j))) := by rw [gEq_of (by simp) (by simp), eqD_bl]
@[simp] theorem gNe_int (i j : Int) : gNe (.int i) (.int j) = some (.dat (.bl (!(i == j)))) := by rw [gNe_of (by simp) (by simp), eqD_int]
@[simp] theorem gEq_str (i j : String) : gEq (.str (Str.ofString i)) (.str (Str.ofString j)) = some (.dat (.bl (decide (i = j)))) := by
  rw [gEq_of (by simp) (by simp), eqD_str]
  congr 3
  rw [Bool.eq_iff_iff]
  simp [ofString_inj]
@[simp] theorem gNe_str (i j : String) : gNe (.str (Str.ofString i)) (.str (Str.ofString j)) = some (.dat (.bl (!decide (i = j)))) := by
  rw [gNe_of (by simp) (by simp), eqD_str]
  congr 4
  rw [Bool.eq_iff_iff]
  simp [ofString_inj]
/-! places -/
theorem atI_nat' {α : Type} (ds : List α) (k : Nat) : atI ds (k : Int) = ds[k]? := by
  unfold atI ixN
  rw [if_pos (by omega)]
  by_cases h : (k : Int) < ds.length
  · rw [if_pos h]
    simp
  · rw [if_neg h]
    rw [List.getElem?_eq_none (by omega)]
    rfl
@[simp] theorem atI_lit {α : Type} (ds : List α) (k : Nat) : atI ds (no_index (OfNat.ofNat k)) = ds[k]? := atI_nat' ds k
@[simp] theorem ixN_lit (n k : Nat) : ixN n (no_index (OfNat.ofNat k)) = if k < n then some k else none := by
  show ixN n (k : Int) = _
  unfold ixN
  rw [if_pos (by omega)]
  by_cases h : k < n
  · rw [if_pos (by omega), if_pos h]
    simp
  · rw [if_neg (by omega), if_neg h]
theorem ixN_nat (n k : Nat) : ixN n (k : Int) = if k < n then some k else none := ixN_lit n k
@[simp] theorem gIx_lst (ds : List D) (k : Int) : gIx (.lst ds) (.int k) = (atI ds k).map .dat := rfl
@[simp] theorem gIx_tup (ds : List D) (k : Int) : gIx (.tup ds) (.int k) = (atI ds k).map .dat := rfl
@[simp] theorem gIx_scr (ds : List D) (k : Int) : gIx (.scr ds) (.int k) = (atI ds k).map .dat := rfl
@[simp] theorem putL_int (ds : List D) (d : D) (k : Int) : putL ds d (.int k) = (ixN ds.length k).map fun j => ds.set j d := rfl
@[simp] theorem gExtend_lst (ds es : List D) : gExtend ds [.lst es] = if ds.length + es.length ≤ sizeLine then some (.non, ds ++ es) else none := rfl
@[simp] theorem le_sizeLine (k : Nat) : (no_index (OfNat.ofNat k) ≤ sizeLine) = decide (k ≤ 16777216) := by
  simp [sizeLine_eq, OfNat.ofNat]
theorem gMul_l {i j : Int} (h : small64 i = true) : gMul (.int i) (.int j) = some (.dat (.int (i * j))) := by
  unfold gMul
  simp only [h, Bool.true_or, if_true]
theorem gMul_r {i j : Int} (h : small64 j = true) : gMul (.int i) (.int j) = some (.dat (.int (i * j))) := by
  unfold gMul
  simp only [h, Bool.true_or, Bool.or_true, if_true]
theorem small_of {i : Int} (h0 : -18446744073709551616 < i) (h1 : i < 18446744073709551616) : small64 i = true := by
  unfold small64
  simp
  omega
@[simp] theorem small_lit (k : Nat) : small64 (no_index (OfNat.ofNat k)) = decide (k < 18446744073709551616) := by
  show small64 (k : Int) = _
  unfold small64
  rw [Bool.eq_iff_iff]
  simp
  omega
@[simp] theorem small_mod1 (x : Int) : small64 (x % 2147483647) = true := small_of (by have := Int.emod_nonneg x (show (2147483647 : Int) ≠ 0 by decide); omega) (by have := Int.emod_lt_of_pos x (show (0 : Int) < 2147483647 by decide); omega)
theorem ix_menu {α : Type} {ds : List α} {r : Int} (h0 : 0 ≤ r) (h1 : r < ds.length) : ∃ d ∈ ds, atI ds r = some d := by
  obtain ⟨k, rfl⟩ := Int.eq_ofNat_of_zero_le h0
  rw [atI_nat']
  have hk : k < ds.length := by omega
  exact ⟨ds[k], List.getElem_mem hk, List.getElem?_eq_getElem hk⟩
/-! shapes -/
def shn (n : Nat) (d : D) : Bool := PyData.canLay0 (py d) && decide (PyData.depth (py d) ≤ n)
theorem shp_shn (d : D) : shp d = shn 64 d := rfl
theorem shn_mono {n m : Nat} {d : D} (h : shn n d = true) (l : n ≤ m) : shn m d = true := by
  unfold shn at h ⊢
  rw [Bool.and_eq_true, decide_eq_true_eq] at h ⊢
  exact ⟨h.1, Nat.le_trans h.2 l⟩
@[simp] theorem shn_int (n : Nat) (i : Int) : shn n (.int i) = true := by
  simp [shn, py, PyData.canLay0, PyData.depth]
@[simp] theorem shn_bl (n : Nat) (i : Bool) : shn n (.bl i) = true := by
  simp [shn, py, PyData.canLay0, PyData.depth]
@[simp] theorem shn_non (n : Nat) : shn n .non = true := by
  simp [shn, py, PyData.canLay0, PyData.depth]
theorem shn_strOk (n : Nat) (s : Str) : shn n (.str s) = PyData.strOk s := by
  simp [shn, py, PyData.canLay0, PyData.depth]
@[simp] theorem shn_str (n : Nat) (s : String) : shn n (.str (Str.ofString s)) = true := by
  rw [shn_strOk, strOk_of]
theorem shnL (n : Nat) : ∀ ds : List D, (PyData.canLayAll0 (pyL ds) && decide (PyData.depthAll (pyL ds) ≤ n)) = ds.all (shn n)
  | [] => by simp [pyL, PyData.canLayAll0, PyData.depthAll]
  | d :: ds => by
    rw [List.all_cons, ← shnL n ds]
    simp only [pyL, PyData.canLayAll0, PyData.depthAll, shn]
    rw [Bool.eq_iff_iff]
    simp only [Bool.and_eq_true, decide_eq_true_eq, Nat.max_le]
    constructor
    · rintro ⟨⟨a, b⟩, c, d⟩
      exact ⟨⟨a, c⟩, b, d⟩
    · rintro ⟨⟨a, c⟩, b, d⟩
      exact ⟨⟨a, b⟩, c, d⟩
@[simp] theorem shn_tup (n : Nat) (ds : List D) : shn (n + 1) (.tup ds) = ds.all (shn n) := by
  rw [← shnL]
  simp [shn, py, PyData.canLay0, PyData.depth]
@[simp] theorem shn_lst (n : Nat) (ds : List D) : shn (n + 1) (.lst ds) = ds.all (shn n) := by
  rw [← shnL]
  simp [shn, py, PyData.canLay0, PyData.depth]
@[simp] theorem shn_scr (n : Nat) (ds : List D) : shn (n + 1) (.scr ds) = ds.all (shn n) := by
  rw [← shnL]
  simp [shn, py, PyData.canLay0, PyData.depth]
@[simp] theorem shp_tup (ds : List D) : shp (.tup ds) = ds.all (shn 63) := shn_tup 63 ds
@[simp] theorem shp_lst (ds : List D) : shp (.lst ds) = ds.all (shn 63) := shn_lst 63 ds
@[simp] theorem shp_scr (ds : List D) : shp (.scr ds) = ds.all (shn 63) := shn_scr 63 ds
theorem shp_of {n : Nat} {d : D} (h : shn n d = true) (l : n ≤ 64 := by omega) : shp d = true := shn_mono h l
theorem all_shn {n m : Nat} {ds : List D} (h : ∀ d ∈ ds, shn n d = true) (l : n ≤ m) : ds.all (shn m) = true := by
  rw [List.all_eq_true]
  exact fun d hd => shn_mono (h d hd) l
theorem gIn_tup {d : D} {ds : List D} (h : shp d = true) (h' : shp (.tup ds) = true) : gIn d (.tup ds) = some (.dat (.bl (inD d ds))) := by
  show (if (shp d && shp (.tup ds)) = true then some (B.dat (.bl (inD d ds))) else none) = _
  rw [h, h']
  rfl
theorem gIn_lst {d : D} {ds : List D} (h : shp d = true) (h' : shp (.lst ds) = true) : gIn d (.lst ds) = some (.dat (.bl (inD d ds))) := by
  show (if (shp d && shp (.lst ds)) = true then some (B.dat (.bl (inD d ds))) else none) = _
  rw [h, h']
  rfl
theorem gNotIn_tup {d : D} {ds : List D} (h : shp d = true) (h' : shp (.tup ds) = true) : gNotIn d (.tup ds) = some (.dat (.bl (!inD d ds))) := by
  show (if (shp d && shp (.tup ds)) = true then some (B.dat (.bl (!inD d ds))) else none) = _
  rw [h, h']
  rfl
theorem gNotIn_lst {d : D} {ds : List D} (h : shp d = true) (h' : shp (.lst ds) = true) : gNotIn d (.lst ds) = some (.dat (.bl (!inD d ds))) := by
  show (if (shp d && shp (.lst ds)) = true then some (B.dat (.bl (!inD d ds))) else none) = _
  rw [h, h']
  rfl
/-! classes -/
@[simp] theorem ty_non : tyN .non = some "NoneType" := rfl
@[simp] theorem ty_bl (b : Bool) : tyN (.bl b) = some "bool" := rfl
@[simp] theorem ty_int (b : Int) : tyN (.int b) = some "int" := rfl
@[simp] theorem ty_str (b : Str) : tyN (.str b) = some "str" := rfl
@[simp] theorem ty_lst (b : List D) : tyN (.lst b) = some "list" := rfl
@[simp] theorem ty_scr (b : List D) : tyN (.scr b) = some "list" := rfl
@[simp] theorem ty_tup (b : List D) : tyN (.tup b) = some "tuple" := rfl
@[simp] theorem ty_dk (b : List (Key × D)) : tyN (.dk b) = some "dict" := rfl
@[simp] theorem ty_dt (b : List (List Key × D)) : tyN (.dt b) = some "dict" := rfl
mutual
/-- what can be asked for its class, through and through -/
def niceB : D → Bool
  | .non => true
  | .bl _ => true
  | .int _ => true
  | .str s => PyData.strOk s
  | .lst ds => niceL ds
  | .tup ds => niceL ds
  | .scr ds => niceL ds
  | .dk _ => true
  | .dt _ => true
  | .ins _ _ => false
  | .opq _ => false
def niceL : List D → Bool
  | [] => true
  | d :: ds => niceB d && niceL ds
end
theorem niceL_all : ∀ ds : List D, niceL ds = ds.all niceB
  | [] => rfl
  | d :: ds => by rw [niceL, List.all_cons, niceL_all ds]
@[simp] theorem nice_non : niceB .non = true := by simp [niceB]
@[simp] theorem nice_bl (b : Bool) : niceB (.bl b) = true := by simp [niceB]
@[simp] theorem nice_int (b : Int) : niceB (.int b) = true := by simp [niceB]
@[simp] theorem nice_str (s : String) : niceB (.str (Str.ofString s)) = true := by simp [niceB, strOk_of]
@[simp] theorem nice_lst (ds : List D) : niceB (.lst ds) = ds.all niceB := by simp [niceB, niceL_all]
@[simp] theorem nice_tup (ds : List D) : niceB (.tup ds) = ds.all niceB := by simp [niceB, niceL_all]
@[simp] theorem nice_dk (ds : List (Key × D)) : niceB (.dk ds) = true := by simp [niceB]
theorem nice_ty {d : D} (h : niceB d = true) : ∃ a, tyN d = some a := by
  cases d <;> first | exact ⟨_, rfl⟩ | simp [niceB] at h
/-! cuts -/
@[simp] theorem cut_lo (ds : List D) (k : Nat) : cutD ds none (some (k : Int)) = ds.take k := by
  unfold cutD
  rw [HT.sIx_nat, HT.sIx_none]
  simp only [List.drop_zero, Nat.sub_zero]
  by_cases h : k ≤ ds.length
  · rw [Nat.min_eq_left h]
  · rw [Nat.min_eq_right (by omega), List.take_of_length_le (by omega), List.take_of_length_le (by omega)]
@[simp] theorem cut_hi (ds : List D) (k : Nat) : cutD ds (some (k : Int)) none = ds.drop k := by
  unfold cutD
  rw [HT.sIx_nat, HT.sIx_none]
  by_cases h : k ≤ ds.length
  · rw [Nat.min_eq_left h, List.take_of_length_le (by rw [List.length_drop]; omega)]
  · rw [Nat.min_eq_right (by omega), List.drop_eq_nil_of_le (by omega), List.drop_eq_nil_of_le (by omega)]
    simp
theorem cut_sub {ds : List D} {lo hi : Option Int} {d : D} (h : d ∈ cutD ds lo hi) : d ∈ ds := List.mem_of_mem_drop (List.mem_of_mem_take h)
/-! ranges -/
@[simp] theorem rng1_ok (n : Int) (h : rngOk n = true) : rng1 [.int n] = some (rngD 0 n.toNat) := by
  simp [rng1, h]
theorem rngOk_of {n : Int} (h0 : -4611686018427387904 ≤ n) (h1 : n < 4611686018427387904) : rngOk n = true := by
  unfold rngOk
  simp
  omega
theorem rngD_length (lo : Int) (n : Nat) : (rngD lo n).length = n := by simp [rngD]
/-! enumerate -/
def enumK : Nat → List D → List D
  | _, [] => []
  | k, d :: ds => .tup [.int (k : Int), d] :: enumK (k + 1) ds
theorem enumK_eq : ∀ (ds : List D) (k : Nat), (ds.mapIdx fun i d => D.tup [.int ((k + i : Nat) : Int), d]) = enumK k ds
  | [], k => rfl
  | d :: ds, k => by
    rw [List.mapIdx_cons, enumK, ← enumK_eq ds (k + 1)]
    simp only [Nat.add_zero, Nat.add_assoc, Nat.add_comm 1]
theorem enumD_eq (ds : List D) : enumD ds = enumK 0 ds := by
  rw [← enumK_eq ds 0]
  simp only [Nat.zero_add]
  rfl
theorem gEq_len {xs ys : List D} (h : xs.length ≠ ys.length) : gEq (.lst xs) (.lst ys) = some (.dat (.bl false)) := by
  unfold gEq
  split
  · have e : eqD (.lst xs) (.lst ys) = false := by
      have hl : ∀ zs : List D, (pyL zs).length = zs.length := fun zs => by
        induction zs with
        | nil => rfl
        | cons z zs ih => simp [pyL, ih]
      have hh : ∀ us vs : List PyData, us.length ≠ vs.length → PyData.eqvAll us vs = false := by
        intro us
        induction us with
        | nil =>
          intro vs h
          cases vs with
          | nil => exact absurd rfl h
          | cons v vs => simp [PyData.eqvAll]
        | cons u us ih =>
          intro vs h
          cases vs with
          | nil => simp [PyData.eqvAll]
          | cons v vs =>
            simp only [PyData.eqvAll]
            rw [ih vs (by simpa using h)]
            simp
      simp only [eqD, py, PyData.eqv]
      exact hh _ _ (by rw [hl, hl]; exact h)
    rw [e]
  · show (if xs.length = ys.length then (if eqEls xs ys = true then some (B.dat (.bl true)) else none) else some (B.dat (.bl false))) = _
    rw [if_neg h]
/-- xs == [] -/
theorem gEq_nil (xs : List D) : gEq (.lst xs) (.lst []) = some (.dat (.bl xs.isEmpty)) := by
  cases xs with
  | nil => rw [gEq_of (by simp) (by simp)]; rfl
  | cons x xs => rw [gEq_len (by simp)]; rfl
/-! comprehensions of data -/
theorem lc_fm {k : Nat} {c : FT} {e : FE} {g : D → D} {t : D → Bool} {ρ : Ev} (hk : ρ.set k .un = ρ) : ∀ (ds acc : List D), (∀ d ∈ ds, c (ρ.set k (.dat d)) = .ok (t d, ρ.set k (.dat d))) → (∀ d ∈ ds, t d = true → cO e (ρ.set k (.dat d)) = .ok (.val (g d), ρ.set k (.dat d))) → acc.length + ds.length ≤ sizeLine →
    lcD (pName k) c e [k] ds acc ρ = .ok (acc ++ (ds.filter t).map g, ρ)
  | [], acc, _, _, _ => by simp
  | d :: ds, acc, hc, he, hl => by
    have w : wipeE (ρ.set k (.dat d)) [k] = ρ := by
      show (ρ.set k (.dat d)).set k .un = ρ
      rw [List.set_set, hk]
    rw [lcD_cons, e_pName, e_lt1, hc d List.mem_cons_self]
    rw [List.length_cons] at hl
    cases q : t d with
    | false =>
      rw [e_lt3f, w, lc_fm hk ds acc (fun d m => hc d (List.mem_cons_of_mem _ m)) (fun d m => he d (List.mem_cons_of_mem _ m)) (by omega)]
      simp [q]
    | true =>
      rw [e_lt3t, he d List.mem_cons_self q, e_lt4, if_pos (by omega), w, lc_fm hk ds _ (fun d m => hc d (List.mem_cons_of_mem _ m)) (fun d m => he d (List.mem_cons_of_mem _ m)) (by rw [List.length_append, List.length_singleton]; omega)]
      simp [q]
theorem lc_map {k : Nat} {e : FE} {g : D → D} {ρ : Ev} (hk : ρ.set k .un = ρ) (ds : List D) (he : ∀ d ∈ ds, cO e (ρ.set k (.dat d)) = .ok (.val (g d), ρ.set k (.dat d))) (hl : ds.length ≤ sizeLine) : lcD (pName k) tYs e [k] ds [] ρ = .ok (ds.map g, ρ) := by
  rw [lc_fm (t := fun _ => true) (g := g) hk ds [] (fun d m => rfl) (fun d m _ => he d m) (by simpa using hl), List.filter_eq_self.mpr (fun _ _ => rfl)]
  rfl
theorem bls_map (p : D → Bool) : ∀ ds : List D, blsOf (ds.map fun d => .bl (p d)) = some (ds.map p)
  | [] => rfl
  | d :: ds => by
    rw [List.map_cons, blsOf, bls_map p ds]
    rfl
theorem gAll_map (p : D → Bool) (ds : List D) : gAll [.lst (ds.map fun d => .bl (p d))] = some (.dat (.bl (ds.all p))) := by
  show ((lstOf (.lst (ds.map fun d => .bl (p d)))).bind blsOf).map (fun bs => B.dat (.bl (bs.all id))) = _
  rw [e_lst_lst, Option.bind_some, bls_map]
  simp [List.all_map]
theorem gAny_map (p : D → Bool) (ds : List D) : gAny [.lst (ds.map fun d => .bl (p d))] = some (.dat (.bl (ds.any p))) := by
  show ((lstOf (.lst (ds.map fun d => .bl (p d)))).bind blsOf).map (fun bs => B.dat (.bl (bs.any id))) = _
  rw [e_lst_lst, Option.bind_some, bls_map]
  simp [List.any_map]
theorem filter_empty {p : D → Bool} : ∀ ds : List D, (ds.filter fun d => !p d).isEmpty = ds.all p
  | [] => rfl
  | d :: ds => by
    rw [List.all_cons, List.filter_cons]
    cases q : p d
    · simp
    · simp only [Bool.not_true, Bool.true_and]
      exact filter_empty ds
theorem gAdd_tup {xs ys : List D} (h : xs.length + ys.length ≤ 16777216) : gAdd (.tup xs) (.tup ys) = some (.dat (.tup (xs ++ ys))) := by
  show (if xs.length + ys.length ≤ sizeLine then some (B.dat (.tup (xs ++ ys))) else none) = _
  rw [if_pos (by rw [sizeLine_eq]; exact h)]
theorem gAdd_lst {xs ys : List D} (h : xs.length + ys.length ≤ 16777216) : gAdd (.lst xs) (.lst ys) = some (.own (xs ++ ys)) := by
  show (if xs.length + ys.length ≤ sizeLine then some (B.own (xs ++ ys)) else none) = _
  rw [if_pos (by rw [sizeLine_eq]; exact h)]
theorem cut_len (ds : List D) (lo hi : Option Int) : (cutD ds lo hi).length ≤ ds.length := by
  unfold Dl.cutD
  rw [List.length_take, List.length_drop]
  omega
theorem cut_nice {ds : List D} (h : ds.all niceB = true) (lo hi : Option Int) : (cutD ds lo hi).all niceB = true := List.all_eq_true.mpr fun d m => List.all_eq_true.mp h d (cut_sub m)
theorem gMul_rep {xs : List D} {k : Int} (h0 : 0 ≤ k) (h1 : k ≤ 1000) (h2 : xs.length ≤ 1000) : gMul (.lst xs) (.int k) = some (.own (List.replicate k.toNat xs).flatten) := by
  show (if (decide (k < 2 ^ 30) && decide (-(2 ^ 30) < k) && decide (xs.length * k.toNat ≤ sizeLine)) = true then some (B.own (List.replicate k.toNat xs).flatten) else none) = _
  rw [if_pos]
  simp only [Bool.and_eq_true, decide_eq_true_eq]
  refine ⟨⟨by omega, by omega⟩, ?_⟩
  rw [sizeLine_eq]
  have : xs.length * k.toNat ≤ 1000 * 1000 := Nat.mul_le_mul h2 (by omega)
  omega
theorem rep_len (k : Nat) (x : D) : (List.replicate k [x]).flatten = List.replicate k x := by
  induction k with
  | zero => rfl
  | succ k ih => rw [List.replicate_succ, List.flatten_cons, ih, List.replicate_succ]; rfl
theorem rng_cap (c L : Int) (h0 : 0 ≤ L) (h1 : 1 ≤ c) (h2 : c ≤ 1000) : ∃ n : Nat, rng1 [.int (if 1 < (if L < c then L else c) then (if L < c then L else c) else 1)] = some (rngD 0 n) ∧ (n : Int) ≤ c := by
  by_cases a : L < c
  · rw [if_pos a]
    by_cases b : 1 < L
    · rw [if_pos b]
      exact ⟨L.toNat, rng1_ok _ (rngOk_of (by omega) (by omega)), by omega⟩
    · rw [if_neg b]
      exact ⟨1, rfl, by omega⟩
  · rw [if_neg a]
    by_cases b : 1 < c
    · rw [if_pos b]
      exact ⟨c.toNat, rng1_ok _ (rngOk_of (by omega) (by omega)), by omega⟩
    · rw [if_neg b]
      exact ⟨1, rfl, by omega⟩
@[simp] theorem cut_lo_lit (ds : List D) (k : Nat) : cutD ds none (some (no_index (OfNat.ofNat k))) = ds.take k := cut_lo ds k
@[simp] theorem cut_hi_lit (ds : List D) (k : Nat) : cutD ds (some (no_index (OfNat.ofNat k))) none = ds.drop k := cut_hi ds k
end Dl

set_option Elab.async false
set_option linter.all false
set_option maxRecDepth 100000
namespace Dl
open PySem PySem.Spec L2
open PyProof.Rows hiding St

/-! ## the well: digits drawn -/
def m_digit : FS := (sSeq (sIf (cT (c2 gEq (cO (cCB gLen (aCons (cNO 0) aNil))) (cO (cC (.int 1)))))
  (sSeq (sSet 2 (c2 gIx (cNO 0) (cO (cC (.int 0))))) (sSeq (sPut 0 (c2 gIx (cO (cLst (aCons (cO (cC (.int 0))) (aCons (cNO 2) aNil)))) (cO (cCB gInt (aCons (cO (c2 gGe (cNO 2) (cO (c2 gPow (cO (cC (.int 10))) (cO (cC (.int 18))))))) aNil)))) (cO (cC (.int 0)))) (sE (cMut 0 gExtend (aCons (cO (cLst (aCons (cO (c2 gMod (cNO 2) (cO (cC (.int 2147483647))))) (aCons (cO (cC (.int 0))) aNil)))) aNil)))))
  sNil) (sSeq (sIf (cT (c2 gGt (cO (c2 gIx (cNO 0) (cO (cC (.int 0))))) (cO (cC (.int 0)))))
  (sSeq (sSet 3 (c2 gMod (cO (c2 gIx (cNO 0) (cO (cC (.int 0))))) (cNO 1))) (sSeq (sPut 0 (c2 gDiv (cO (c2 gIx (cNO 0) (cO (cC (.int 0))))) (cNO 1)) (cO (cC (.int 0)))) (sRet (cN 3))))
  sNil) (sSeq (sPut 0 (c2 gAdd (cO (c2 gIx (cNO 0) (cO (cC (.int 2))))) (cO (cC (.int 1)))) (cO (cC (.int 2)))) (sSeq (sSet 4 (c2 gMod (cO (c2 gMul (cO (c2 gAdd (cO (c2 gAdd (cO (c2 gIx (cNO 0) (cO (cC (.int 1))))) (cO (c2 gMul (cO (cC (.int 7919))) (cO (c2 gIx (cNO 0) (cO (cC (.int 2))))))))) (cO (cC (.int 1))))) (cO (cC (.int 48271))))) (cO (cC (.int 2147483647))))) (sSeq (sSet 4 (c2 gMod (cO (c2 gMul (cNO 4) (cO (c2 gAdd (cO (c2 gDiv (cNO 4) (cO (cC (.int 1009))))) (cO (cC (.int 69621))))))) (cO (cC (.int 2147483647))))) (sRet (c2 gMod (cO (c2 gMod (cO (c2 gMul (cNO 4) (cO (c2 gAdd (cO (c2 gDiv (cNO 4) (cO (cC (.int 2003))))) (cO (cC (.int 40692))))))) (cO (cC (.int 2147483399))))) (cNO 1))))))))
def f_digit : FG := toF [0] 2 5 m_digit
inductive Well where
  | raw (c : Int)
  | run (a s n : Int)
def Well.ds : Well → List D
  | .raw c => [.int c]
  | .run a s n => [.int a, .int s, .int n]
def Well.pre : Well → Int × Int × Int
  | .raw c => (if 1000000000000000000 ≤ c then c else 0, c % 2147483647, 0)
  | .run a s n => (a, s, n)
def mixA (s n : Int) : Int := (s + 7919 * n + 1) * 48271 % 2147483647
def mixB (m : Int) : Int := m * (m / 1009 + 69621) % 2147483647
def mixC (m : Int) : Int := m * (m / 2003 + 40692) % 2147483399
def Well.fig (w : Well) (b : Int) : Int := if 0 < w.pre.1 then w.pre.1 % b else mixC (mixB (mixA w.pre.2.1 (w.pre.2.2 + 1))) % b
def Well.aft (w : Well) (b : Int) : Well := if 0 < w.pre.1 then .run (w.pre.1 / b) w.pre.2.1 w.pre.2.2 else .run w.pre.1 w.pre.2.1 (w.pre.2.2 + 1)
theorem Well.lo (w : Well) {b : Int} (h : 0 < b) : 0 ≤ w.fig b := by
  unfold Well.fig
  split <;> exact Int.emod_nonneg _ (by omega)
theorem Well.hi (w : Well) {b : Int} (h : 0 < b) : w.fig b < b := by
  unfold Well.fig
  split <;> exact Int.emod_lt_of_pos _ h
theorem digit_eq (w : Well) {b : Int} (h0 : 0 < b) (h1 : b < 1073741824) : f_digit [.own w.ds, .dat (.int b)] = .ok (.dat (.int (w.fig b))) [.own (w.aft b).ds, .un] := by
  cases w with
  | raw c =>
    by_cases hc : 1000000000000000000 ≤ c
    · have hp : 0 < c := by omega
      simp [f_digit, toF_at, m_digit, outs_cons, outs_nil, gMul_l, gMul_r, mixA, mixB, mixC, h0, h1, Well.ds, Well.fig, Well.aft, Well.pre, hc, hp]
    · simp [f_digit, toF_at, m_digit, outs_cons, outs_nil, gMul_l, gMul_r, mixA, mixB, mixC, h0, h1, Well.ds, Well.fig, Well.aft, Well.pre, hc]
  | run a s n =>
    by_cases hc : 0 < a
    · simp [f_digit, toF_at, m_digit, outs_cons, outs_nil, gMul_l, gMul_r, mixA, mixB, mixC, h0, h1, Well.ds, Well.fig, Well.aft, Well.pre, hc]
    · simp [f_digit, toF_at, m_digit, outs_cons, outs_nil, gMul_l, gMul_r, mixA, mixB, mixC, h0, h1, Well.ds, Well.fig, Well.aft, Well.pre, hc]
theorem menu (w : Well) {ds : List D} {n : Int} (hn : n = (ds.length : Int)) (h0 : 0 < n) : ∃ d ∈ ds, gIx (.lst ds) (.int (w.fig n)) = some (.dat d) := by
  obtain ⟨d, hd, e⟩ := ix_menu (ds := ds) (w.lo h0) (by rw [← hn]; exact w.hi h0)
  exact ⟨d, hd, by rw [gIx_lst, e]; rfl⟩
end Dl

set_option Elab.async false
set_option linter.all false
set_option maxRecDepth 100000
set_option maxHeartbeats 1000000
namespace Dl
open PySem PySem.Spec L2
open PyProof.Rows hiding St

/-! ## what the printed derivations of asking defs lean on -/
theorem askAt_of {K : PySem.W.Frag} {mg : Str → Option Value} {X : Cx} {T : List (Addr × Str)} {x a q : Str} {st : Stmt} {f : Addr} {fd : FuncData} {Ng : List Str} {n : Nat} {m : R D → FS} (eK : X.K = K) (em : X.mg = mg) (A : DefAt K mg x st [a] f fd)
    (S : FnScope Ng [a] (defScope st)) (h0 : Ng[0]? = some a) (hv : Vis (defScope st) a) (hG : ∀ cdg, LamX.GivesTo X Ng x (defScope st) f cdg (defBody st) a q (TD X.K T n m)) : AskAt X T x a q n m := by
  subst eK em
  obtain ⟨oc, od, kV, doc, pm, an, cdv, ct, osl, rfl, lk, hcd⟩ := A.fn.ex
  exact ⟨f, oc, od, _, _, _, .none, kV, doc, pm, an, cdv, ct, osl, Ng, A.g, A.fn.kp, lk, hcd, A.b, S, h0, hv, hG cdv⟩
section
variable {Y : Cx} {a : Str} {p1 p2 p3 p4 p5 pos : Pos}
theorem ask_drop : AskS Y .drop a (.Expr (.Call (.Name a p1) [] [] p2) pos) := ⟨fun pn xe te h => ps_expr (h p1 p2)⟩
theorem ask_retP : AskS Y .retP a (.Return (some (.Call (.Name a p1) [] [] p2)) pos) := ⟨fun pn xe te h => ps_ret (h p1 p2)⟩
def tMono (te : TE) : TE := fun σ H Q => ∃ Q', te σ H Q' ∧ ∀ v H1, Q' v H1 → Q v H1
theorem pe_mono {X : Cx} {e : Expr} {te : TE} (h : PE X e te) : PE X e (tMono te) := by
  refine ⟨fun pins s σ H Q I ⟨Q', h1, h2⟩ => thn (h.run pins s σ H Q' I h1) fun v s1 ⟨x, H1, I1, r1, q1⟩ => ⟨x, H1, I1, r1, h2 x H1 q1⟩⟩
theorem ask_ret {w : Str} {j c : Nat} : AskS Y (.ret w) a (.Return (some (.Tuple [.Constant (.str w) j p3, .Call (.Name a p1) [] [] p2] c p4)) pos) := by
  refine ⟨fun pn xe te h => ?_⟩
  have hp := ps_ret (pos := pos) (pe_tup (x1 := c) (pos := p4) (pa_cons (pe_str (x := w) (j := j) (pos := p3)) (pa_cons (pe_mono (h p1 p2)) pa_nil)))
  exact ⟨fun pins s σ H D I q => hp.run pins s σ H D I ⟨_, q, fun v H1 z => ⟨(by decide : 2 ≤ sizeLine), z⟩⟩⟩
theorem ask_set {w x : Str} {j c k : Nat} (hN : Y.N.Nodup) (hi : Y.N[k]? = some x) (hx : Loc Y.env.scope x) (hl : Y.env.scope.names.lookup x = some .local) : AskS Y (.set k w) a (.Assign [.Name x p5] (.Tuple [.Constant (.str w) j p3, .Call (.Name a p1) [] [] p2] c p4) pos) := by
  refine ⟨fun pn xe te h => ?_⟩
  have hp := ps_set (X := Y.tr pn xe) (i := k) (x := x) (pos := pos) (pos' := p5) hN hi hx (pe_tup (x1 := c) (pos := p4) (pa_cons (pe_str (x := w) (j := j) (pos := p3)) (pa_cons (pe_mono (h p1 p2)) pa_nil))) (hf := .inr hl)
  exact ⟨fun pins s σ H D I q => hp.run pins s σ H D I ⟨_, q, fun v H1 z => ⟨(by decide : 2 ≤ sizeLine), z⟩⟩⟩
end
section
variable {X : Cx} {k : Nat} {E : XK} {scope : Scope}
theorem lam_room : ∀ j : (lamF X k E scope).Ix, Room k ((lamF X k E scope).at_ j).A := fun j => j.2.2.2.2.2.2
theorem lam_hu : ∀ j : (lamF X k E scope).Ix, ((lamF X k E scope).at_ j).A.units + 65 < cLine := fun j => by
  have := (lam_room j).un
  omega
theorem lam_tk : ∀ j : (lamF X k E scope).Ix, Takes ((lamF X k E scope).at_ j) (fun cls d _ H => E cls d H) := fun _ => takes_of rfl rfl rfl rfl
end
theorem blk_hu {X : Fam} {scope : Scope} (h : ∀ i, (X.at_ i).A.units + 65 < cLine) : ∀ i : (blkF X scope).Ix, ((blkF X scope).at_ i).A.units + 65 < cLine := fun i => h i.1
/-! ## evaluation of the new mirrors -/
section
variable {ρ : Ev} {b : B} {d : D}
@[simp] theorem e_sRaise (x : Str) : sRaise x ρ = .er ⟨x, none⟩ ρ := rfl
@[simp] theorem e_mask_nil : mask [] = [] := rfl
@[simp] theorem e_mask_dat : mask (.dat d :: ρ) = .dat d :: mask ρ := rfl
@[simp] theorem e_mask_un : mask (.un :: ρ) = .un :: mask ρ := rfl
@[simp] theorem e_mask_own (ds : List D) : mask (.own ds :: ρ) = .un :: mask ρ := rfl
@[simp] theorem e_mask_odk (ds : List (Key × D)) : mask (.odk ds :: ρ) = .un :: mask ρ := rfl
@[simp] theorem e_mask_odt (ds : List (List Key × D)) : mask (.odt ds :: ρ) = .un :: mask ρ := rfl
def th1 : R (B × Ev) → R D
  | .ok (.dat d, _) => .ok d
  | .err x _ => .err x []
  | _ => .stuck
@[simp] theorem e_th1 : th1 (.ok (.dat d, ρ)) = .ok d := rfl
@[simp] theorem e_th1e (x : Exc) : th1 (.err x ρ) = .err x [] := rfl
@[simp] theorem e_thunk (f : FE) : thunk f ρ = th1 (cD f (mask ρ)) := by
  unfold thunk th1
  cases cD f (mask ρ) with
  | ok p =>
    obtain ⟨b, ρ'⟩ := p
    cases b <;> rfl
  | err x ρ' => rfl
  | stuck => rfl
def la1 (ρ : Ev) : Out → R (B × Ev)
  | .rt b _ => cLam.fin2 ρ (frz b)
  | .nx _ => .ok (.dat .non, ρ)
  | _ => .stuck
@[simp] theorem e_la1 (ρ' : Ev) : la1 ρ (.rt b ρ') = cLam.fin2 ρ (frz b) := rfl
@[simp] theorem e_la1n (ρ' : Ev) : la1 ρ (.nx ρ') = .ok (.dat .non, ρ) := rfl
@[simp] theorem e_fin2 : cLam.fin2 ρ (some d) = .ok (.dat d, ρ) := rfl
@[simp] theorem e_cLam (n : Nat) (m : R D → FS) (fb : FE) : cLam n m fb ρ = la1 ρ (m (thunk fb ρ) (List.replicate n .un)) := by
  unfold cLam la1
  cases m (thunk fb ρ) (List.replicate n .un) <;> rfl
@[simp] theorem e_wO_nx (i : Nat) : wipeO i (.nx ρ) = .nx (ρ.set i .un) := rfl
@[simp] theorem e_wO_rt (i : Nat) : wipeO i (.rt b ρ) = .rt b (ρ.set i .un) := rfl
@[simp] theorem e_sLen (n : Nat) (g : FS) : sLen n g ρ = if ρ.length = n then g ρ else .stuck := rfl
def ak2 (i : Nat) (su : Exc → FS) (x : Exc) (ρ : Ev) : Option Bool → Out
  | some true => if i < ρ.length then wipeO i (su x (List.replicate ρ.length .un)) else .stuck
  | _ => .stuck
@[simp] theorem e_ak2 (i : Nat) (su : Exc → FS) (x : Exc) : ak2 i su x ρ (some true) = if i < ρ.length then wipeO i (su x (List.replicate ρ.length .un)) else .stuck := rfl
def ak1 (kd : AskK) (Rc : List (Str × List Str)) (c : Str) (i : Nat) (su : Exc → FS) (ρ : Ev) : R D → Out
  | .ok d => askRes kd d ρ
  | .err x _ => ak2 i su x ρ (subX Rc x.cls c)
  | .stuck => .stuck
@[simp] theorem e_ak1 (kd : AskK) (Rc : List (Str × List Str)) (c : Str) (i : Nat) (su : Exc → FS) : ak1 kd Rc c i su ρ (.ok d) = askRes kd d ρ := rfl
@[simp] theorem e_ak1e (kd : AskK) (Rc : List (Str × List Str)) (c : Str) (i : Nat) (su : Exc → FS) (x : Exc) (ρ' : Ev) : ak1 kd Rc c i su ρ (.err x ρ') = ak2 i su x ρ (subX Rc x.cls c) := rfl
@[simp] theorem e_sAsk (kd : AskK) (Rc : List (Str × List Str)) (c : Str) (i : Nat) (su : Exc → FS) (r : R D) : sAsk kd Rc c i su r ρ = ak1 kd Rc c i su ρ r := by
  unfold sAsk ak1
  cases r with
  | ok d => rfl
  | stuck => rfl
  | err x ρ' =>
    simp only
    unfold ak2
    cases subX Rc x.cls c with
    | none => rfl
    | some v => cases v <;> rfl
@[simp] theorem e_askRes1 (w : Str) : askRes (.ret w) d ρ = .rt (.dat (.tup [.str w, d])) ρ := rfl
@[simp] theorem e_askRes2 : askRes .retP d ρ = .rt (.dat d) ρ := rfl
@[simp] theorem e_askRes3 (k : Nat) (w : Str) : askRes (.set k w) d ρ = .nx (ρ.set k (.dat (.tup [.str w, d]))) := rfl
@[simp] theorem e_askRes4 : askRes .drop d ρ = .nx ρ := rfl
def ixe1 (ρ : Ev) : Option Bool → R (B × Ev)
  | some b => .ok (.dat (.bl b), ρ)
  | none => .stuck
@[simp] theorem e_cIsE (Rc : List (Str × List Str)) (c : Str) (x : Exc) : cIsE Rc c x ρ = ixe1 ρ (subX Rc x.cls c) := by
  unfold cIsE ixe1
  cases subX Rc x.cls c <;> rfl
@[simp] theorem e_ixe1 (v : Bool) : ixe1 ρ (some v) = .ok (.dat (.bl v), ρ) := rfl
theorem gSetS_lst {ds : List D} {ns : List Int} (h : intsOf ds = some ns) (l : ns.length < 63) : gSetS (.lst ds) = some (.own ((sortU ns).map .int)) := by
  show ((intsOf ds).bind fun ns => if ns.length < 63 then some (B.own ((sortU ns).map D.int)) else none) = _
  rw [h, Option.bind_some, if_pos l]
end
end Dl

set_option Elab.async false
set_option linter.all false
set_option maxRecDepth 100000
set_option maxHeartbeats 1000000
namespace Dl
open PySem PySem.Spec L2
open PyProof.Rows hiding St

/-! ## an expression that only reads: while it runs, all that is owned stands still -/
def frzB : B → B
  | .dat d => .dat d
  | .own ds => .dat (.lst ds)
  | .odk ds => .dat (.dk ds)
  | .odt ds => .dat (.dt ds)
  | .ext o => .dat (frzO o)
  | .un => .un
theorem frzB_some {b : B} {d : D} (h : frz b = some d) : frzB b = .dat d := by
  cases b <;> simp only [frz] at h <;> first | (cases h; rfl) | cases h
theorem frzB_none {b : B} (h : frz b = none) : frzB b = .un := by
  cases b <;> simp only [frz] at h <;> first | rfl | cases h
theorem freezeAll {K : PySem.W.Frag} {T : List (Addr × Str)} {H : Hp} : ∀ {ρ : Ev} {σ : St} {F : Hp} {A : List Addr}, RepS K F H ρ σ A → Sub F H → ∃ F2, Go T A F H [] F2 H ∧ RepS K F2 H (ρ.map frzB) σ []
  | [], _, F, _, h, s => by
    cases h
    exact ⟨F, Go.refl s, .nil⟩
  | b :: ρ, [], F, A, h, s => nomatch h
  | b :: ρ, sv :: σ, F, A, h, s => by
    cases q : frz b with
    | some d =>
      obtain ⟨v, F1, A1, rfl, g1, r1, z⟩ := freeze (T := T) h s q
      obtain ⟨F2, g2, r2⟩ := freezeAll (T := T) r1 g1.sub
      refine ⟨F2, g1.trans g2, ?_⟩
      rw [List.map_cons, frzB_some q]
      exact r2.dat (Rp.mono g2.kF d z)
    | none =>
      obtain ⟨A1, r1, m1⟩ := RepS.tail h
      obtain ⟨F2, g2, r2⟩ := freezeAll (T := T) r1 s
      refine ⟨F2, g2.more m1, ?_⟩
      rw [List.map_cons, frzB_none q]
      exact r2.un
def flatD : D → Bool
  | .non => true
  | .bl _ => true
  | .int _ => true
  | .str _ => true
  | _ => false
theorem flat_any {K : PySem.W.Frag} {F F' : Hp} {d : D} {v : V} (h : flatD d = true) (r : Rp K F d v) : Rp K F' d v := by
  cases d <;> first
    | (simp [flatD] at h; done)
    | (unfold Rp at r ⊢; exact r)
def pur1 (ρ : Ev) : R (B × Ev) → R (B × Ev)
  | .ok (.dat d, _) => if flatD d = true then .ok (.dat d, ρ) else .stuck
  | .err x _ => match x.fs with
    | none => .err x ρ
    | some _ => .stuck
  | _ => .stuck
def cPure (f : FE) : FE := fun ρ => pur1 ρ (f (ρ.map frzB))
section
variable {X : Fam} {T : List (Addr × Str)} {W : WX}
theorem de_pure {e : Expr} {f : FE} (h : DE X T W e f) : DE X T W e (cPure f) := by
  obtain ⟨t, pe, s⟩ := h
  refine ⟨t, pe, fun σ F H A ρ Q at_ p => ?_⟩
  obtain ⟨F2, g0, r0⟩ := freezeAll (T := T) at_.rep at_.sub
  refine s σ F2 H [] (ρ.map frzB) Q ⟨g0.sub, g0.tab at_.tab, r0, X.mono at_.inv g0.kF fun _ _ => rfl, g0.ntb at_.ntb⟩ ?_
  have ext : ∀ {A' : List Addr} {F' H' : Hp}, Go T [] F2 H A' F' H' → Go T A F H A F H' ∧ RepS X.K F H' ρ σ A := fun {A' F' H'} g => by
    have eN : LamX.ExtN H H' := fun b o e nt => g.kH b o e (fun z => nomatch z) nt
    refine ⟨go_ext at_.sub at_.ntb eN (g.tab at_.tab), at_.rep.stab (Sub.refl F) (fun b mb => ?_) fun b mb => (at_.rep.live b mb).2⟩
    obtain ⟨⟨o, e, nt⟩, _⟩ := at_.rep.live b mb
    rw [e]
    exact eN b o e nt
  unfold cPure at p
  cases q : f (ρ.map frzB) with
  | stuck =>
    rw [q] at p
    exact p.elim
  | err x ρ' =>
    rw [q] at p
    unfold pur1 at p
    cases qx : x.fs with
    | some _ =>
      simp only [qx] at p
      exact p.elim
    | none =>
      simp only [qx] at p
      intro F' H' A' cls dd g _ rx
      obtain ⟨g1, r1⟩ := ext g
      refine p F H' A cls dd g1 r1 ?_
      unfold RepX at rx ⊢
      rw [qx] at rx ⊢
      exact rx
  | ok z =>
    obtain ⟨b, ρ'⟩ := z
    rw [q] at p
    cases b with
    | dat d =>
      unfold pur1 at p
      simp only at p
      split at p
      · rename_i hf
        intro F' H' A' g v r
        obtain ⟨v', e, rd, _⟩ := r.dat_inv
        cases e
        obtain ⟨g1, r1⟩ := ext g
        exact p F H' A g1 v (r1.dat (flat_any hf rd))
      · exact p.elim
    | un => exact p.elim
    | own _ => exact p.elim
    | odk _ => exact p.elim
    | odt _ => exact p.elim
    | ext _ => exact p.elim
end
theorem seq_nx {f g : FS} {ρ ρ' : Ev} {o : Out} (h : f ρ = .nx ρ') (k : g ρ' = o) : sSeq f g ρ = o := by
  rw [← k]
  show (f ρ).then g = _
  rw [h]
  rfl
theorem seq_rt {f g : FS} {ρ ρ' : Ev} {b : B} (h : f ρ = .rt b ρ') : sSeq f g ρ = .rt b ρ' := by
  show (f ρ).then g = _
  rw [h]
  rfl
theorem szl {k : Nat} (h : k < 16777216) : k < sizeLine := by
  rw [sizeLine_eq]
  exact h
section
variable {ρ : Ev} {b : B} {d : D}
@[simp] theorem e_cPure (f : FE) : cPure f ρ = pur1 ρ (f (ρ.map frzB)) := rfl
@[simp] theorem e_frzB1 : frzB (.dat d) = .dat d := rfl
@[simp] theorem e_frzB2 (ds : List D) : frzB (.own ds) = .dat (.lst ds) := rfl
@[simp] theorem e_frzB3 (ds : List (Key × D)) : frzB (.odk ds) = .dat (.dk ds) := rfl
@[simp] theorem e_frzB4 (ds : List (List Key × D)) : frzB (.odt ds) = .dat (.dt ds) := rfl
@[simp] theorem e_frzB5 : frzB .un = .un := rfl
@[simp] theorem e_pur1n (ρ' : Ev) : pur1 ρ (.ok (.dat .non, ρ')) = .ok (.dat .non, ρ) := rfl
@[simp] theorem e_pur1b (ρ' : Ev) (c : Bool) : pur1 ρ (.ok (.dat (.bl c), ρ')) = .ok (.dat (.bl c), ρ) := rfl
@[simp] theorem e_pur1i (ρ' : Ev) (c : Int) : pur1 ρ (.ok (.dat (.int c), ρ')) = .ok (.dat (.int c), ρ) := rfl
@[simp] theorem e_pur1s (ρ' : Ev) (c : Str) : pur1 ρ (.ok (.dat (.str c), ρ')) = .ok (.dat (.str c), ρ) := rfl
@[simp] theorem e_pur1e (ρ' : Ev) (x : Str) : pur1 ρ (.err ⟨x, none⟩ ρ') = .err ⟨x, none⟩ ρ := rfl
end
end Dl

set_option Elab.async false
set_option linter.all false
set_option maxRecDepth 100000
set_option maxHeartbeats 1000000
namespace Dl
open PySem PySem.Spec L2
open PyProof.Rows hiding St

/-! ## bools in a list: how many, and where -/
def rCntB (K : PySem.W.Frag) : V → List V → Hp → VK → Prop := fun x xs H Q => ∃ (p : Addr) (bs : List Bool) (k : Bool), x = .ref p ∧ xs = [.bl k] ∧ SqL K H p (bs.map V.bl) ∧ Q (.int (bs.count k : Nat)) H
theorem bls_count {k : Bool} : ∀ {us : List Value} {bs : List Bool}, Vals (bs.map V.bl) us → us.countP (eqU (.bl k)) = bs.count k
  | us, [], h => by
    cases h
    rfl
  | _, b :: bs, h => by
    cases h with
    | cons r t =>
      have ih := bls_count (k := k) t
      rw [List.countP_cons, List.count_cons, ih, eqU_of r rfl]
      rfl
theorem flat_bls : ∀ bs : List Bool, (bs.map V.bl).all flatV = true
  | [] => rfl
  | b :: bs => by rw [List.map_cons, List.all_cons, flat_bls bs]; rfl
theorem mt_cntB {X : Cx} : MtR X "list.count" (rCntB X.K) := by
  intro pins s σ H x xs v us Q I rx rxs h
  obtain ⟨p, bs, k, rfl, rfl, hs, q⟩ := h
  cases rx
  cases rxs with
  | cons ry rt =>
    rename_i uy ut
    cases rt
    obtain ⟨its, rv, ⟨⟨cls, dd, data, sl⟩, n, ho, hc, hdn, hd⟩, hlen⟩ := I.list hs
    simp only at hc hd
    subst hc hd
    refine call_meets PySem.F.slot_list_count ⟨_, ho, rfl⟩ PySem.F.entry_list_count (PySem.F.args_list_count_2 _ _)
      (SeqAt.list_countAt p its.toArray n dd sl uy (eqU (.bl k))) ⟨ho, fun u' hu' => mem_eqAt ry rfl rv (flat_bls bs) u' (by simpa using hu'), ?_⟩
    have ec : its.toArray.toList.countP (eqU (.bl k)) = bs.count k := bls_count rv
    refine ⟨.int (bs.count k : Nat), H, I.tok _, ⟨s.toks, ?_⟩, q⟩
    show Value.int ((its.toArray.toList.countP (eqU (.bl k)) : Nat) : Int) s.toks = Value.int ((bs.count k : Nat) : Int) s.toks
    rw [ec]
def gCnt (d : D) (as : List D) : Option B := match as with
  | [.bl k] => ((lstOf d).bind blsOf).map fun bs => .dat (.int (bs.count k : Nat))
  | _ => none
def gIdx (d : D) (as : List D) : Option B := match as with
  | [.bl k] => ((lstOf d).bind blsOf).bind fun bs => if k ∈ bs then some (.dat (.int (bs.idxOf k : Nat))) else none
  | _ => none
section
variable {K : PySem.W.Frag} {T : List (Addr × Str)}
theorem vrm_cnt : VRM K T (rCntB K) gCnt := by
  intro F H A ρ σ d as v vs b Q s r hv p e f
  unfold gCnt at e
  split at e
  · rename_i k
    obtain ⟨w, rfl, hw⟩ := Paired.one p
    cases q : (lstOf d).bind blsOf with
    | none =>
      rw [q] at e
      cases e
    | some bs =>
      rw [q] at e
      cases e
      obtain ⟨a, rfl, h1⟩ := top_bls s hv q
      refine ⟨a, bs, k, rfl, ?_, h1, f.dat s r rp_int⟩
      rw [top_bl hw]
  · cases e
theorem vrm_idx : VRM K T (rIndex K) gIdx := by
  intro F H A ρ σ d as v vs b Q s r hv p e f
  unfold gIdx at e
  split at e
  · rename_i k
    obtain ⟨w, rfl, hw⟩ := Paired.one p
    cases q : (lstOf d).bind blsOf with
    | none =>
      rw [q] at e
      cases e
    | some bs =>
      rw [q] at e
      simp only [Option.bind_some] at e
      split at e
      · rename_i hm
        cases e
        obtain ⟨a, rfl, h1⟩ := top_bls s hv q
        have hl : bs.idxOf k < bs.length := List.idxOf_lt_length_iff.mpr hm
        refine ⟨a, bs.map V.bl, .bl k, bs.idxOf k, .bl k, rfl, by rw [top_bl hw], h1, rfl, flat_bls bs, ?_, by simp [eqV], fun m z' lt hz => ?_, f.dat s r rp_int⟩
        · rw [List.getElem?_map, List.getElem?_eq_getElem hl, List.getElem_idxOf hl]
          rfl
        · rw [List.getElem?_map] at hz
          cases qm : bs[m]? with
          | none =>
            rw [qm] at hz
            cases hz
          | some bm =>
            rw [qm] at hz
            cases hz
            obtain ⟨hml, e2⟩ := List.getElem?_eq_some_iff.mp qm
            have : bs[m] ≠ k := fun z => by
              have h9 := List.not_of_lt_findIdx (p := fun x => x == k) (xs := bs) (i := m) lt
              simp [z] at h9
            rw [e2] at this
            simpa [eqV] using this
      · cases e
  · cases e
end
section
variable {ρ : Ev} {b : B} {d : D}
def rm4 (ρ : Ev) : Option B → R (B × Ev)
  | some b => .ok (b, ρ)
  | none => .stuck
@[simp] theorem e_rm4 : rm4 ρ (some b) = .ok (b, ρ) := rfl
def rm3 (g : D → List D → Option B) (ρ : Ev) : Option D → Option (List D) → R (B × Ev)
  | some d, some as => rm4 ρ (g d as)
  | _, _ => .stuck
@[simp] theorem e_rm3 (g : D → List D → Option B) (as : List D) : rm3 g ρ (some d) (some as) = rm4 ρ (g d as) := rfl
def rm2 (g : D → List D → Option B) (o : Opd) : R (List Opd × Ev) → R (B × Ev)
  | .ok p => rm3 g p.2 (rd p.2 o) (rds p.2 p.1)
  | .err x ρ => .err x ρ
  | .stuck => .stuck
@[simp] theorem e_rm2 (g : D → List D → Option B) (o : Opd) (os : List Opd) : rm2 g o (.ok (os, ρ)) = rm3 g ρ (rd ρ o) (rds ρ os) := rfl
def rm1b (t : String) (g : D → List D → Option B) (f : FA) (o : Opd) (ρ : Ev) : Option D → R (B × Ev)
  | some d => if tyD d = some t then rm2 g o (f ρ) else .stuck
  | none => .stuck
@[simp] theorem e_rm1b (t : String) (g : D → List D → Option B) (f : FA) (o : Opd) : rm1b t g f o ρ (some d) = if tyD d = some t then rm2 g o (f ρ) else .stuck := rfl
def rm1 (t : String) (g : D → List D → Option B) (f : FA) : R (Opd × Ev) → R (B × Ev)
  | .ok p => rm1b t g f p.1 p.2 (rd p.2 p.1)
  | .err x ρ => .err x ρ
  | .stuck => .stuck
@[simp] theorem e_rm1 (t : String) (g : D → List D → Option B) (f : FA) (o : Opd) : rm1 t g f (.ok (o, ρ)) = rm1b t g f o ρ (rd ρ o) := rfl
@[simp] theorem e_cRM (t : String) (g : D → List D → Option B) (fo : FO) (f : FA) : cRM t g fo f ρ = rm1 t g f (fo ρ) := by
  unfold cRM rm1
  cases fo ρ with
  | ok p =>
    obtain ⟨o, ρ1⟩ := p
    simp only [ok_bind]
    cases rd ρ1 o with
    | none => rfl
    | some d0 =>
      simp only [ofO_some, ok_bind, e_rm1b]
      unfold cRM.tyOk
      split
      · simp only [ofO_some, ok_bind]
        unfold rm2
        cases f ρ1 with
        | ok q =>
          obtain ⟨os, ρ2⟩ := q
          simp only [ok_bind]
          cases rd ρ2 o with
          | none => rfl
          | some d =>
            simp only [ofO_some, ok_bind]
            cases rds ρ2 os with
            | none => rfl
            | some as =>
              simp only [ofO_some, ok_bind, e_rm3]
              cases g d as <;> rfl
        | err x ρ2 => rfl
        | stuck => rfl
      · rfl
  | err x ρ1 => rfl
  | stuck => rfl
@[simp] theorem ty_lstD (ds : List D) : tyD (.lst ds) = some "list" := rfl
end
theorem ask_hu {X : Cx} {Ng : List Str} {x : Str} {sg : Scope} {g : Addr} {cdg : Value} {s : Shared} {H : Hp} {x0 : Exc} {i : Nat} {a : Addr} {cls : Value} {d : Option Addr} {k : Nat} (hr : Room (k + 1) X.A) :
    ∀ j, ((suF (oneF (cxA X Ng x sg g cdg s H)) x0 i a cls d).at_ j).A.units + 65 < cLine := fun j => by
  have h := (hr.deeper (envOfC x sg s.heap.objs.size g cdg)).un
  have e : ((suF (oneF (cxA X Ng x sg g cdg s H)) x0 i a cls d).at_ j).A.units = (X.A.deeper (envOfC x sg s.heap.objs.size g cdg)).units := rfl
  omega
/-! ## a call whose one argument goes over, whole -/
def cCall1 (G : FG) (f : FE) : FE := fun ρ => f ρ >>= fun z => match G [z.1] with
  | .ok ret _ => .ok (ret, z.2)
  | .er x _ => .err x z.2
  | .stuck => .stuck
section
variable {X : Fam} {T : List (Addr × Str)} {W : WX}
theorem de_call1 {x : Str} {G : FG} {e : Expr} {f : FE} {p pos : Pos} (c : Callee X T x 1 G) (tk : ∀ i, Takes (X.at_ i) W) (h : DE X T W e f) (hdb : (x == ("__debug__" : Str)) = false := by decide)
    (he : ∀ i, starEach [e] (X.at_ i).env = (false, eval e (X.at_ i).env) :: starEach [] (X.at_ i).env := by intro _; rfl) (hpl : ∀ i, (backTo pos (starEach [] (X.at_ i).env)).any (·.1) = false := by intro _; rfl) : DE X T W (.Call (.Name x p) [e] [] pos) (cCall1 G f) := by
  obtain ⟨te, pe, s⟩ := h
  refine ⟨tCallS (spD X.K T 1 G) (WE W) (tCons te tNil), fun i => ?_, fun σ F H A ρ Q a p => s σ F H A ρ _ a ?_⟩
  · obtain ⟨k, fa, fd, ps, F, hr, hg, hm, hk, hb⟩ := c.get i
    exact pe_callS F hr hg hm hk hb (fun σ => passAt (tk i) σ) (pa_cons (pe i) pa_nil (he i)) hdb (he i) (hpl i)
  · have pb := p.bind
    cases q : f ρ with
    | stuck =>
      rw [q] at pb
      exact pb.elim
    | err x ρ1 =>
      rw [q] at pb
      exact pb
    | ok z =>
      obtain ⟨b, ρ1⟩ := z
      rw [q] at pb
      intro F1 H1 A1 g1 v r1
      obtain ⟨ft, A2, rfl, kb, t, dj⟩ := r1.head
      have pb := pb F1 H1 _ g1
      simp only at pb
      have rb : RepS X.K F1 H1 [b] ([v].map some) ft := by
        have := RepS.cons kb (RepS.nil (K := X.K) (F := F1) (H := H1)) fun a m z => nomatch z
        rw [List.append_nil] at this
        exact this
      refine ⟨rfl, F1, ft, [b], g1.sub, g1.ntb a.ntb, g1.tab a.tab, rb, ?_⟩
      cases qg : G [b] with
      | stuck =>
        rw [qg] at pb
        exact pb.elim
      | er x outs =>
        rw [qg] at pb
        intro F' H' A' cls dd g r' rx
        obtain ⟨rr', djr⟩ := g.keepS t fun a m z => dj a z m
        have g' : Go T (ft ++ A2) F1 H1 A2 F' H' := ((g.beside (A2 := A2)).more fun a m => (List.mem_append.mp m).elim (fun z => List.mem_append_right _ z) fun z => List.mem_append_left _ z).less fun a m => List.mem_append_left _ m
        exact pb F' H' A2 cls dd g' rr' rx
      | ok ret outs =>
        rw [qg] at pb
        intro v' F' H' A' g r'
        obtain ⟨rr', djr⟩ := g.keepS t fun a m z => dj a z m
        obtain ⟨ft2, Ao, rfl, k2, t2, dj2⟩ := r'.head
        have rc : RepS X.K F' H' (ret :: ρ1) (some v' :: σ) (ft2 ++ A2) := .cons k2 rr' fun a m z => djr a z (List.mem_append_left _ m)
        have g' : Go T (ft ++ A2) F1 H1 (ft2 ++ A2) F' H' := ((g.beside (A2 := A2)).more fun a m => (List.mem_append.mp m).elim (fun z => List.mem_append_right _ z) fun z => List.mem_append_left _ z).less fun a m => by
          rcases List.mem_append.mp m with y | y
          · exact List.mem_append_right _ (List.mem_append_left _ y)
          · exact List.mem_append_left _ y
        exact pb F' H' _ g' v' rc
end
section
variable {ρ : Ev} {b : B}
def cal2 (ρ : Ev) : FR → R (B × Ev)
  | .ok ret _ => .ok (ret, ρ)
  | .er x _ => .err x ρ
  | .stuck => .stuck
@[simp] theorem e_cal2 (outs : List B) : cal2 ρ (.ok b outs) = .ok (b, ρ) := rfl
@[simp] theorem e_cal2e (x : Exc) (outs : List B) : cal2 ρ (.er x outs) = .err x ρ := rfl
def cal1 (G : FG) : R (B × Ev) → R (B × Ev)
  | .ok z => cal2 z.2 (G [z.1])
  | .err x ρ => .err x ρ
  | .stuck => .stuck
@[simp] theorem e_cal1 (G : FG) : cal1 G (.ok (b, ρ)) = cal2 ρ (G [b]) := rfl
@[simp] theorem e_cCall1 (G : FG) (f : FE) : cCall1 G f ρ = cal1 G (f ρ) := by
  unfold cCall1 cal1
  cases f ρ with
  | ok z =>
    obtain ⟨b, ρ1⟩ := z
    simp only [ok_bind]
    unfold cal2
    cases G [b] <;> rfl
  | err x ρ1 => rfl
  | stuck => rfl
end
end Dl

set_option Elab.async false
set_option linter.all false
set_option maxRecDepth 100000
set_option maxHeartbeats 2000000
namespace Dl
open PySem PySem.Spec L2
open PyProof.Rows hiding St

/-! ## a dict that a name owns: put, read, read with a default, the greatest value -/
def valD (kvs : List (Key × D)) (k : Key) : Option D := (kvs.find? fun kv => decide (kv.1 = k)).map (·.2)
def putD (kvs : List (Key × D)) (k : Key) (d : D) : List (Key × D) :=
  if (kvs.any fun kv => decide (kv.1 = k)) = true then kvs.map (fun kv => if kv.1 = k then (kv.1, d) else kv) else kvs ++ [(k, d)]
section
variable {K : PySem.W.Frag} {F : Hp}
theorem rpK_nil {ys : List (Key × V)} (h : RpK K F [] ys) : ys = [] := by
  unfold RpK at h
  exact h
theorem rpK_cons {k : Key} {d : D} {kvs : List (Key × D)} {ys : List (Key × V)} (h : RpK K F ((k, d) :: kvs) ys) : ∃ v ws, ys = (k, v) :: ws ∧ Rp K F d v ∧ RpK K F kvs ws := by
  unfold RpK at h
  exact h
theorem RpK.mk {k : Key} {d : D} {v : V} {kvs : List (Key × D)} {ys : List (Key × V)} (r : Rp K F d v) (h : RpK K F kvs ys) : RpK K F ((k, d) :: kvs) ((k, v) :: ys) := by
  unfold RpK
  exact ⟨v, ys, rfl, r, h⟩
theorem RpK.emp : RpK K F [] [] := by
  unfold RpK
  rfl
theorem RpK.len : ∀ {kvs : List (Key × D)} {ys : List (Key × V)}, RpK K F kvs ys → ys.length = kvs.length
  | [], ys, h => by rw [rpK_nil h]; rfl
  | (k, d) :: kvs, ys, h => by
    obtain ⟨v, ws, rfl, _, t⟩ := rpK_cons h
    rw [List.length_cons, List.length_cons, t.len]
theorem RpK.val (k : Key) : ∀ {kvs : List (Key × D)} {ys : List (Key × V)}, RpK K F kvs ys → (valD kvs k = none ∧ valV ys k = none) ∨ ∃ d v, valD kvs k = some d ∧ valV ys k = some v ∧ Rp K F d v
  | [], ys, h => by
    rw [rpK_nil h]
    exact .inl ⟨rfl, rfl⟩
  | (k', d) :: kvs, ys, h => by
    obtain ⟨v, ws, rfl, r, t⟩ := rpK_cons h
    by_cases e : k' = k
    · exact .inr ⟨d, v, by simp [valD, e], by simp [valV, e], r⟩
    · have e1 : valD ((k', d) :: kvs) k = valD kvs k := by simp [valD, e]
      have e2 : valV ((k', v) :: ws) k = valV ws k := by simp [valV, e]
      rw [e1, e2]
      exact t.val k
theorem RpK.app {k : Key} {d : D} {v : V} (r : Rp K F d v) : ∀ {kvs : List (Key × D)} {ys : List (Key × V)}, RpK K F kvs ys → RpK K F (kvs ++ [(k, d)]) (ys ++ [(k, v)])
  | [], ys, h => by
    rw [rpK_nil h]
    exact .mk r .emp
  | (k', d') :: kvs, ys, h => by
    obtain ⟨v', ws, rfl, r', t⟩ := rpK_cons h
    exact .mk r' (t.app r)
theorem RpK.upd {k : Key} {d : D} {v : V} (r : Rp K F d v) : ∀ {kvs : List (Key × D)} {ys : List (Key × V)}, RpK K F kvs ys → RpK K F (kvs.map fun kv => if kv.1 = k then (kv.1, d) else kv) (ys.map fun kv => if kv.1 = k then (kv.1, v) else kv) ∧ (kvs.any fun kv => decide (kv.1 = k)) = (ys.any fun kv => decide (kv.1 = k))
  | [], ys, h => by
    rw [rpK_nil h]
    exact ⟨.emp, rfl⟩
  | (k', d') :: kvs, ys, h => by
    obtain ⟨v', ws, rfl, r', t⟩ := rpK_cons h
    obtain ⟨u1, u2⟩ := t.upd (k := k) r
    refine ⟨?_, by rw [List.any_cons, List.any_cons, u2]⟩
    rw [List.map_cons, List.map_cons]
    by_cases e : k' = k
    · rw [if_pos e, if_pos e]
      exact .mk r u1
    · rw [if_neg e, if_neg e]
      exact .mk r' u1
theorem RpK.put {k : Key} {d : D} {v : V} {kvs : List (Key × D)} {ys : List (Key × V)} (h : RpK K F kvs ys) (r : Rp K F d v) : RpK K F (putD kvs k d) (putK ys k v) := by
  obtain ⟨u1, u2⟩ := h.upd (k := k) r
  unfold putD putK
  rw [u2]
  split
  · exact u1
  · exact h.app r
end
def odkOf (ρ : Ev) (i : Nat) : Option (List (Key × D)) := match ρ[i]? with
  | some (.odk kvs) => some kvs
  | _ => none
theorem odkOf_some {ρ : Ev} {i : Nat} {kvs : List (Key × D)} (h : odkOf ρ i = some kvs) : ρ[i]? = some (.odk kvs) := by
  unfold odkOf at h
  split at h
  · rename_i e
    cases h
    exact e
  · cases h
def keyD : D → Option Key
  | .int j => some (.inl j)
  | .str s => some (.inr s)
  | _ => none
theorem keyD_top {K : PySem.W.Frag} {F H : Hp} {d : D} {v : V} {k : Key} (h : RpTop K F H d v) (e : keyD d = some k) : v = kV k := by
  cases d <;> simp only [keyD] at e <;> first
    | (cases e; exact top_int h)
    | (cases e; exact top_str h)
    | cases e
def sDk (i : Nat) (f : FE) (fj : FO) : FS := fun ρ => (cO f ρ).out fun p => (ofO (odkOf p.2 i)).out fun _ => (fj p.2).out fun q => (ofO (odkOf q.2 i)).out fun kvs => (ofO ((rd q.2 q.1).bind keyD)).out fun k => match p.1 with
  | .val d => if kvs.length < 1000 then .nx (q.2.set i (.odk (putD kvs k d))) else .stuck
  | .var _ => .stuck
section
variable {X : Fam} {T : List (Addr × Str)} {W : WX} {P : List Nat}
theorem ds_dk (i : Nat) {x : Str} {e ej : Expr} {f : FE} {fj : FO} {pos p1 p2 : Pos} (hu : ∀ j, (X.at_ j).A.units + 65 < cLine) (h : DE X T W e f) (hj : DO X T W ej fj) (hN : ∀ j, (X.at_ j).N[i]? = some x := by intro _; rfl) (hv : ∀ j, Vis (X.at_ j).env.scope x := by intro _; first | exact Or.inl rfl | exact Or.inr (Or.inl rfl) | exact Or.inr (Or.inr rfl))
    (hd : (x == ("__debug__" : Str)) = false := by decide) (hcd : (x == ("__classdict__" : Str)) = false := by decide)
    (hs : ∀ j, swapsWith e (some (.Subscript (.Name x p1) ej p2)) pos.line (X.at_ j).env = pure false := by intro _; rfl) : DS X T W P (.Assign [.Subscript (.Name x p1) ej p2] e pos) (sDk i f fj) := by
  obtain ⟨t, pe, s⟩ := do_e h
  obtain ⟨tj, pj, sj⟩ := hj
  refine ⟨sDPut (tVar i) tj t, fun j => ps_dput (by have := hu j; omega) (pe_var (hN j) (hv j) hd hcd) (pj j) (pe j) (hs j), fun hps σ F H A ρ E a p => s σ F H A ρ _ a ?_⟩
  refine p.out.imp fun o ρ1 F1 H1 A1 g1 p1 v r1 o1 => ?_
  have at1 := a.next g1 r1
  obtain ⟨ds0, e0, p1⟩ := p1.opt
  obtain ⟨l0, _, es, _⟩ := r1.odkAt (odkOf_some e0)
  refine ⟨_, es, sj σ F1 H1 A1 ρ1 _ at1 ?_⟩
  refine p1.out.imp fun oj ρ2 F2 H2 A2 g2 p2 vj r2 o2 => ?_
  obtain ⟨kvs, e2, p3⟩ := p2.opt
  obtain ⟨k, e3, p4⟩ := p3.opt
  cases o with
  | var _ => exact p4.elim
  | val d =>
    simp only at p4
    split at p4
    · rename_i hlt
      obtain ⟨l, xs, es', lA, el, nl, rl, k2⟩ := r2.odkAt (odkOf_some e2)
      rw [es] at es'
      cases es'
      obtain ⟨kd, e4, e5⟩ := Option.bind_eq_some_iff.mp e3
      have ev := keyD_top (rd_top g2.sub r2 o2 e4) e5
      subst ev
      have od : Rp X.K F2 d v := Rp.mono g2.kF d o1
      refine ⟨l0, _, rfl, DPut.k el (by rw [rl.len, sizeLine_eq]; omega), ?_⟩
      exact p4.nowN (Go.write g2.sub lA nl el (fun _ z => by cases z) (fun _ z => by cases z)) (k2 _ _ (rl.put od)) (Keep.refl P σ)
    · exact p4.elim
/-- d[k] -/
def cDIx (i : Nat) (fj : FO) : FE := fun ρ => ofO (odkOf ρ i) >>= fun _ => fj ρ >>= fun q => ofO (odkOf q.2 i) >>= fun kvs => ofO ((rd q.2 q.1).bind keyD) >>= fun k => ofO (valD kvs k) >>= fun d => .ok (.dat d, q.2)
theorem de_dix (i : Nat) {x : Str} {ej : Expr} {fj : FO} {pos p1 : Pos} (hu : ∀ j, (X.at_ j).A.units + 65 < cLine) (hj : DO X T W ej fj) (hN : ∀ j, (X.at_ j).N[i]? = some x := by intro _; rfl) (hv : ∀ j, Vis (X.at_ j).env.scope x := by intro _; first | exact Or.inl rfl | exact Or.inr (Or.inl rfl) | exact Or.inr (Or.inr rfl))
    (hd : (x == ("__debug__" : Str)) = false := by decide) (hcd : (x == ("__classdict__" : Str)) = false := by decide) (hs : NoSl ej := by intro _ _; rfl) : DE X T W (.Subscript (.Name x p1) ej pos) (cDIx i fj) := by
  obtain ⟨tj, pj, sj⟩ := hj
  refine ⟨tDGet (tVar i) tj, fun j => pe_dget (by have := hu j; omega) (pe_var (hN j) (hv j) hd hcd) (pj j) hs, fun σ F H A ρ Q a p => ?_⟩
  obtain ⟨ds0, e0, p⟩ := p.opt
  obtain ⟨l0, _, es, _⟩ := a.rep.odkAt (odkOf_some e0)
  refine ⟨_, es, sj σ F H A ρ _ a ?_⟩
  refine p.bind.imp fun oj ρ2 F2 H2 A2 g2 p2 vj r2 o2 => ?_
  obtain ⟨kvs, e2, p3⟩ := p2.opt
  obtain ⟨k, e3, p4⟩ := p3.opt
  obtain ⟨d, e6, p5⟩ := p4.opt
  obtain ⟨l, xs, es', lA, el, nl, rl, k2⟩ := r2.odkAt (odkOf_some e2)
  rw [es] at es'
  cases es'
  obtain ⟨kd, e4, e5⟩ := Option.bind_eq_some_iff.mp e3
  have ev := keyD_top (rd_top g2.sub r2 o2 e4) e5
  subst ev
  rcases rl.val k with ⟨z, _⟩ | ⟨d', v, z1, z2, z3⟩
  · rw [z] at e6
    cases e6
  · rw [z1] at e6
    cases e6
    refine ⟨l0, v, rfl, ?_, p5.now (Go.refl g2.sub) v (r2.dat z3)⟩
    have := DGet.k (k := k) el
    rw [z2] at this
    exact this
/-- d.get(k, z) -/
def cDGt (i : Nat) (fj fz : FO) : FE := fun ρ => ofO (odkOf ρ i) >>= fun _ => fj ρ >>= fun q => fz q.2 >>= fun u => ofO (odkOf u.2 i) >>= fun kvs => ofO ((rd u.2 q.1).bind keyD) >>= fun k => match u.1 with
  | .val z => .ok (.dat ((valD kvs k).getD z), u.2)
  | .var _ => .stuck
theorem de_dgt (i : Nat) {x : Str} {ej ez : Expr} {fj fz : FO} {apos cpos p1 : Pos} (hu : ∀ j, (X.at_ j).A.units + 65 < cLine) (hj : DO X T W ej fj) (hz : DO X T W ez fz) (hN : ∀ j, (X.at_ j).N[i]? = some x := by intro _; rfl) (hv : ∀ j, Vis (X.at_ j).env.scope x := by intro _; first | exact Or.inl rfl | exact Or.inr (Or.inl rfl) | exact Or.inr (Or.inr rfl))
    (hd : (x == ("__debug__" : Str)) = false := by decide) (hcd : (x == ("__classdict__" : Str)) = false := by decide) (hm : ∀ j, M2 (X.at_ j) (.Name x p1) "get" apos ej ez cpos := by intro _; exact ⟨rfl, rfl, rfl, rfl⟩) : DE X T W (.Call (.Attribute (.Name x p1) "get" apos) [ej, ez] [] cpos) (cDGt i fj fz) := by
  obtain ⟨tj, pj, sj⟩ := hj
  obtain ⟨tz, pz, sz⟩ := hz
  refine ⟨tDGet2 (tVar i) tj tz, fun j => pe_dget2 (by have := hu j; omega) (pe_var (hN j) (hv j) hd hcd) (pj j) (pz j) (hm j), fun σ F H A ρ Q a p => ?_⟩
  obtain ⟨ds0, e0, p⟩ := p.opt
  obtain ⟨l0, xs0, es, _, el0, _⟩ := a.rep.odkAt (odkOf_some e0)
  refine ⟨_, es, l0, rfl, .inl ⟨_, .inl el0⟩, sj σ F H A ρ _ a ?_⟩
  refine p.bind.imp fun oj ρ1 F1 H1 A1 g1 p1 vj r1 o1 => ?_
  refine sz σ F1 H1 A1 ρ1 _ (a.next g1 r1) ?_
  refine p1.bind.imp fun oz ρ2 F2 H2 A2 g2 p2 vz r2 o2 => ?_
  obtain ⟨kvs, e2, p3⟩ := p2.opt
  obtain ⟨k, e3, p4⟩ := p3.opt
  cases oz with
  | var _ => exact p4.elim
  | val z =>
    obtain ⟨l, xs, es', lA, el, nl, rl, k2⟩ := r2.odkAt (odkOf_some e2)
    rw [es] at es'
    cases es'
    obtain ⟨kd, e4, e5⟩ := Option.bind_eq_some_iff.mp e3
    have ev := keyD_top (rd_top g2.sub r2 (o1.mono g2.kF) e4) e5
    subst ev
    refine ⟨_, DGet.k el, ?_⟩
    rcases rl.val k with ⟨z1, z2⟩ | ⟨d', v, z1, z2, z3⟩
    · rw [z1] at p4
      rw [z2]
      exact p4.now (Go.refl g2.sub) vz (r2.dat o2)
    · rw [z1] at p4
      rw [z2]
      exact p4.now (Go.refl g2.sub) v (r2.dat z3)
end
/-! ## max(d.values()) -/
/-- the reading of max(o.values()): values are ints, there is one at least -/
def tGr (td : TE) : TE := fun σ H Q => td σ H fun x H1 => ∃ a kvs ns, x = V.ref a ∧ H1 a = some (.dK kvs) ∧ kvs.map Prod.snd = ns.map V.int ∧ ns ≠ [] ∧ ∀ g, g ∈ ns → (∀ j ∈ ns, j ≤ g) → Q (.int g) H1
theorem pe_gr {X : Cx} {o : Expr} {p pos apos mpos : Pos} {td : TE} (calm : X.calm = true) (gl : Gl X "max") (ng : X.mg "max" = none) (po : PE X o td) (hb : attributeBase o "values" X.env (eval o X.env) = eval o X.env) (hl : (apos.endLine == mpos.line) = true)
    (st : starEach [Expr.Call (.Attribute o "values" apos) [] [] mpos] X.env = [(false, eval (Expr.Call (.Attribute o "values" apos) [] [] mpos) X.env)]) :
    PE X (.Call (.Name "max" p) [.Call (.Attribute o "values" apos) [] [] mpos] [] pos) (tGr td) := by
  constructor
  intro pins s σ H Q I h
  refine wpAny_Call_Name_kw (ld_blt I gl ng (u := .builtin "max") (by decide +kernel) ?_ (by decide +kernel) (by decide +kernel))
  rw [st]
  refine PySem.callWith_builtin1 (wpAny_Call_method0_late hb hl (thn (po.run pins s σ H _ I h) fun dv s1 hq => ?_))
  obtain ⟨x, H1, J, rx, a, kvs, ns, ex, hk, hn, n0, q⟩ := hq
  subst ex
  cases (show dv = Value.ref a from rx)
  obtain ⟨_, nsys, vs, rel, dof⟩ := dk_of J.hok hk
  obtain ⟨ep, dat⟩ := dof.dictAt
  obtain ⟨ob, es, ho, ex, _⟩ := id dat
  refine ⟨"dict", "dict.values", F.plainAttrs_dict, F.slot_dict_values, F.type_dict_values, ⟨ob, ho, ex.1⟩, ?_, Calls.callWith_builtin rfl (PySem.evalArgs_none ?_)⟩
  · rintro b ⟨⟩
    exact ⟨ob, ho, ex.2.1⟩
  refine call_meetsIn F.slot_dict_values ⟨ob, ho, ex.1⟩ F.entry_dict_values (F.args_dict_values_1 _) (meets_dict_values (mixKind X.prog X.w) a nsys) ⟨⟨vs, dof⟩, ?_⟩
  have grow : ∀ b u, s1.heap.get? b = some u → Heap.get? (s1.heap.push { cls := .type "dict_values", data := .fields #[.ref a] }) b = some u := fun b u => Heap.get?_push_of_some _
  have datV : Heap.DictAt (mixKind X.prog X.w) (s1.heap.push { cls := .type "dict_values", data := .fields #[.ref a] }) a vs ep := dat.keep grow
  have same : vs.length = ns.length := by
    have e1 := congrArg List.length hn
    simp only [List.length_map] at e1
    exact (KV.length rel).symm.trans e1
  have some1 : 0 < vs.length := by
    have := List.length_pos_iff.mpr n0
    omega
  have num : ∀ (i : Nat) (v : Value), (∃ k, vs[i]? = some (k, v)) → ∃ t, v = Value.int (ns.getD i 0) t := by
    rintro i v ⟨k, hi⟩
    obtain ⟨x, x1, x2⟩ := KV.at' rel hi
    have e1 : (ns.map V.int)[i]? = some x := by rw [← hn, List.getElem?_map, x1]; rfl
    rw [List.getElem?_map] at e1
    cases qn : ns[i]? with
    | none => rw [qn] at e1; cases e1
    | some j =>
      rw [qn] at e1
      cases e1
      obtain ⟨t, e3⟩ := x2
      exact ⟨t, by rw [e3, List.getD_eq_getElem?_getD, qn]; rfl⟩
  have old : a < s1.heap.objs.size := Heap.lt_size ho
  have big : Array.size (Heap.objs (s1.heap.push { cls := .type "dict_values", data := .fields #[.ref a] })) = s1.heap.objs.size + 1 := Heap.size_push _ _
  refine call_max_walk (wpAny_pyIter_values (v := s1.heap.objs.size) (d := a) ⟨_, Heap.get?_push_size _ rfl, rfl, rfl⟩ datV ?_)
  have wk := Walks.dictValues (prog := X.prog) (w := X.w) (knd := mixKind X.prog X.w) (A := X.A.in1) (J.ok.hd calm) (Array.size (Heap.objs (s1.heap.push { cls := .type "dict_values", data := .fields #[.ref a] }))) a (fun z => Nat.ne_of_lt (Nat.lt_succ_of_lt old) (z.trans big)) vs ep
  refine ⟨_, _, _, _, _, _, _, rfl, wk, ⟨⟨_, Heap.get?_push_size _ rfl, rfl, rfl⟩, datV.keep fun b u => Heap.get?_push_of_some _⟩, ?_, some1, CmpOf.ints_gt (fun i => ns.getD i 0) num, ?_⟩
  · intro b hb
    show b < Array.size (Heap.objs (Heap.push _ _))
    rw [Heap.size_push, big]
    rw [big] at hb
    rcases List.mem_cons.mp hb with e | hb
    · rw [e]; exact Nat.lt_succ_self _
    · rw [List.mem_singleton.mp hb]; exact Nat.lt_succ_of_lt (Nat.lt_succ_of_lt old)
  · intro v h' tk hP hk'
    obtain ⟨t, rfl⟩ := num _ v hP
    obtain ⟨g1, g2⟩ := argBest_gt (fun i => ns.getD i 0) (vs.length - 1)
    have lt : argBest (fun i j => decide (ns.getD i 0 > ns.getD j 0)) (vs.length - 1) < ns.length := by omega
    refine ⟨.int _, H1, J.kept (t' := tk) fun b u e => hk' b u (fun m => ?_) (Heap.get?_push_of_some _ (grow b u e)), ⟨t, rfl⟩, q _ ?_ ?_⟩
    · have e1 := List.mem_singleton.mp m
      have e2 := Heap.lt_size e
      rw [big] at e1
      rw [e1] at e2
      exact absurd e2 (Nat.not_lt.mpr (Nat.le_succ (Array.size s1.heap.objs)))
    · rw [List.getD_eq_getElem?_getD, List.getElem?_eq_getElem lt]
      exact List.getElem_mem lt
    · intro j hj
      obtain ⟨i, hi, e⟩ := List.mem_iff_getElem.mp hj
      have e2 : ns.getD i 0 = j := by rw [List.getD_eq_getElem?_getD, List.getElem?_eq_getElem hi, ← e]; rfl
      have := g2 i (by omega)
      rw [e2] at this
      exact this
/-! the mirror -/
def maxI : List Int → Int
  | [] => 0
  | [n] => n
  | n :: m :: ns => if n ≤ maxI (m :: ns) then maxI (m :: ns) else n
theorem maxI_max : ∀ (ns : List Int), ns ≠ [] → maxI ns ∈ ns ∧ ∀ j ∈ ns, j ≤ maxI ns
  | [], h => absurd rfl h
  | [n], _ => ⟨by simp [maxI], by simp [maxI]⟩
  | n :: m :: ns, _ => by
    obtain ⟨h1, h2⟩ := maxI_max (m :: ns) (by simp)
    unfold maxI
    split
    · rename_i c
      refine ⟨List.mem_cons_of_mem _ h1, fun j hj => ?_⟩
      rcases List.mem_cons.mp hj with rfl | hj
      · exact c
      · exact h2 j hj
    · rename_i c
      refine ⟨List.mem_cons_self, fun j hj => ?_⟩
      rcases List.mem_cons.mp hj with rfl | hj
      · exact Int.le_refl _
      · have := h2 j hj
        omega
def cGr (i : Nat) : FE := fun ρ => ofO (odkOf ρ i) >>= fun kvs => ofO (intsOf (kvs.map Prod.snd)) >>= fun ns => if ns = [] then .stuck else .ok (.dat (.int (maxI ns)), ρ)
theorem rpK_ints {K : PySem.W.Frag} {F : Hp} : ∀ {kvs : List (Key × D)} {ys : List (Key × V)} {ns : List Int}, RpK K F kvs ys → intsOf (kvs.map Prod.snd) = some ns → ys.map Prod.snd = ns.map V.int
  | [], ys, ns, h, e => by
    rw [rpK_nil h]
    cases e
    rfl
  | (k, d) :: kvs, ys, ns, h, e => by
    obtain ⟨v, ws, rfl, r, t⟩ := rpK_cons h
    rw [List.map_cons] at e
    cases d <;> simp only [intsOf] at e <;> first | cases e | skip
    rename_i j
    cases q : intsOf (kvs.map Prod.snd) with
    | none =>
      rw [q] at e
      cases e
    | some ms =>
      rw [q] at e
      cases e
      unfold Rp at r
      subst r
      rw [List.map_cons, List.map_cons, rpK_ints t q]
section
variable {X : Fam} {T : List (Addr × Str)} {W : WX}
theorem de_gr (i : Nat) {x : Str} {p pos apos mpos p1 : Pos} (hc : ∀ j, (X.at_ j).calm = true) (hg : ∀ j, Gl (X.at_ j) "max") (hm : ∀ j, (X.at_ j).mg "max" = none) (hN : ∀ j, (X.at_ j).N[i]? = some x := by intro _; rfl) (hv : ∀ j, Vis (X.at_ j).env.scope x := by intro _; first | exact Or.inl rfl | exact Or.inr (Or.inl rfl) | exact Or.inr (Or.inr rfl))
    (hd : (x == ("__debug__" : Str)) = false := by decide) (hcd : (x == ("__classdict__" : Str)) = false := by decide) (hb : ∀ j, attributeBase (.Name x p1) "values" (X.at_ j).env (eval (.Name x p1) (X.at_ j).env) = eval (.Name x p1) (X.at_ j).env := by intro _; rfl) (hl : (apos.endLine == mpos.line) = true := by rfl)
    (st : ∀ j, starEach [Expr.Call (.Attribute (.Name x p1) "values" apos) [] [] mpos] (X.at_ j).env = [(false, eval (Expr.Call (.Attribute (.Name x p1) "values" apos) [] [] mpos) (X.at_ j).env)] := by intro _; rfl) :
    DE X T W (.Call (.Name "max" p) [.Call (.Attribute (.Name x p1) "values" apos) [] [] mpos] [] pos) (cGr i) := by
  refine ⟨tGr (tVar i), fun j => pe_gr (hc j) (hg j) (hm j) (pe_var (hN j) (hv j) hd hcd) (hb j) hl (st j), fun σ F H A ρ Q a pp => ?_⟩
  obtain ⟨kvs, e0, p2⟩ := pp.opt
  obtain ⟨ns, e1, p3⟩ := p2.opt
  split at p3
  · exact p3.elim
  · rename_i hne
    obtain ⟨l0, xs0, es, _, el0, _, rl, _⟩ := a.rep.odkAt (odkOf_some e0)
    obtain ⟨m1, m2⟩ := maxI_max ns hne
    refine ⟨_, es, l0, xs0, ns, rfl, el0, rpK_ints rl e1, hne, fun g h1 h2 => ?_⟩
    have : g = maxI ns := Int.le_antisymm (m2 g h1) (h2 _ m1)
    subst this
    exact p3.now (Go.refl a.sub) _ (a.rep.dat rp_int)
end
/-! evaluation -/
section
variable {ρ : Ev} {b : B} {d : D}
def okd : Option B → Option (List (Key × D))
  | some (.odk kvs) => some kvs
  | _ => none
@[simp] theorem e_okd (kvs : List (Key × D)) : okd (some (.odk kvs)) = some kvs := rfl
@[simp] theorem e_odkOf (i : Nat) : odkOf ρ i = okd ρ[i]? := by
  unfold odkOf okd
  cases ρ[i]? with
  | none => rfl
  | some b => cases b <;> rfl
@[simp] theorem e_keyI (j : Int) : keyD (.int j) = some (.inl j) := rfl
@[simp] theorem e_keyS (j : Str) : keyD (.str j) = some (.inr j) := rfl
def dk3 (i : Nat) (d : D) (ρ : Ev) : Option (List (Key × D)) → Option Key → Out
  | some kvs, some k => if kvs.length < 1000 then .nx (ρ.set i (.odk (putD kvs k d))) else .stuck
  | _, _ => .stuck
@[simp] theorem e_dk3 (i : Nat) (kvs : List (Key × D)) (k : Key) : dk3 i d ρ (some kvs) (some k) = if kvs.length < 1000 then .nx (ρ.set i (.odk (putD kvs k d))) else .stuck := rfl
def dk2 (i : Nat) (o : Opd) : R (Opd × Ev) → Out
  | .ok q => match o with
    | .val d => dk3 i d q.2 (odkOf q.2 i) ((rd q.2 q.1).bind keyD)
    | .var _ => .stuck
  | .err x ρ => .er x ρ
  | .stuck => .stuck
@[simp] theorem e_dk2 (i : Nat) (o : Opd) : dk2 i (.val d) (.ok (o, ρ)) = dk3 i d ρ (odkOf ρ i) ((rd ρ o).bind keyD) := rfl
def dk1b (i : Nat) (fj : FO) (o : Opd) (ρ : Ev) : Option (List (Key × D)) → Out
  | some _ => dk2 i o (fj ρ)
  | none => .stuck
@[simp] theorem e_dk1b (i : Nat) (fj : FO) (o : Opd) (kvs : List (Key × D)) : dk1b i fj o ρ (some kvs) = dk2 i o (fj ρ) := rfl
def dk1 (i : Nat) (fj : FO) : R (Opd × Ev) → Out
  | .ok p => dk1b i fj p.1 p.2 (odkOf p.2 i)
  | .err x ρ => .er x ρ
  | .stuck => .stuck
@[simp] theorem e_dk1 (i : Nat) (fj : FO) (o : Opd) : dk1 i fj (.ok (o, ρ)) = dk1b i fj o ρ (odkOf ρ i) := rfl
@[simp] theorem e_sDk (i : Nat) (f : FE) (fj : FO) : sDk i f fj ρ = dk1 i fj (cO f ρ) := by
  unfold sDk dk1
  cases cO f ρ with
  | err x ρ1 => rfl
  | stuck => rfl
  | ok p =>
    obtain ⟨o, ρ1⟩ := p
    show (ofO (odkOf ρ1 i)).out _ = dk1b i fj o ρ1 (odkOf ρ1 i)
    cases odkOf ρ1 i with
    | none => rfl
    | some k0 =>
      show (fj ρ1).out _ = dk2 i o (fj ρ1)
      cases fj ρ1 with
      | err x ρ2 => rfl
      | stuck => rfl
      | ok q =>
        obtain ⟨o2, ρ2⟩ := q
        unfold dk2
        simp only
        show (ofO (odkOf ρ2 i)).out _ = _
        cases odkOf ρ2 i with
        | none => cases o <;> rfl
        | some kvs =>
          show (ofO ((rd ρ2 o2).bind keyD)).out _ = _
          cases (rd ρ2 o2).bind keyD with
          | none => cases o <;> rfl
          | some k => cases o <;> rfl
def dx3 (ρ : Ev) : Option (List (Key × D)) → Option Key → R (B × Ev)
  | some kvs, some k => match valD kvs k with
    | some d => .ok (.dat d, ρ)
    | none => .stuck
  | _, _ => .stuck
theorem e_dx3 {kvs : List (Key × D)} {k : Key} (h : valD kvs k = some d) : dx3 ρ (some kvs) (some k) = .ok (.dat d, ρ) := by
  unfold dx3
  simp only [h]
def dx2 (i : Nat) : R (Opd × Ev) → R (B × Ev)
  | .ok q => dx3 q.2 (odkOf q.2 i) ((rd q.2 q.1).bind keyD)
  | .err x ρ => .err x ρ
  | .stuck => .stuck
@[simp] theorem e_dx2 (i : Nat) (o : Opd) : dx2 i (.ok (o, ρ)) = dx3 ρ (odkOf ρ i) ((rd ρ o).bind keyD) := rfl
def dx1 (i : Nat) (fj : FO) (ρ : Ev) : Option (List (Key × D)) → R (B × Ev)
  | some _ => dx2 i (fj ρ)
  | none => .stuck
@[simp] theorem e_dx1 (i : Nat) (fj : FO) (kvs : List (Key × D)) : dx1 i fj ρ (some kvs) = dx2 i (fj ρ) := rfl
@[simp] theorem e_cDIx (i : Nat) (fj : FO) : cDIx i fj ρ = dx1 i fj ρ (odkOf ρ i) := by
  unfold cDIx
  cases odkOf ρ i with
  | none => rfl
  | some k0 =>
    simp only [ofO_some, ok_bind, e_dx1]
    cases fj ρ with
    | err x ρ2 => rfl
    | stuck => rfl
    | ok q =>
      obtain ⟨o2, ρ2⟩ := q
      simp only [ok_bind, e_dx2]
      cases odkOf ρ2 i with
      | none => rfl
      | some kvs =>
        simp only [ofO_some, ok_bind]
        cases (rd ρ2 o2).bind keyD with
        | none => rfl
        | some k =>
          simp only [ofO_some, ok_bind]
          unfold dx3
          simp only
          cases valD kvs k <;> rfl
def dg4 (ρ : Ev) (o : Opd) : Option (List (Key × D)) → Option Key → R (B × Ev)
  | some kvs, some k => match o with
    | .val z => .ok (.dat ((valD kvs k).getD z), ρ)
    | .var _ => .stuck
  | _, _ => .stuck
@[simp] theorem e_dg4 (kvs : List (Key × D)) (k : Key) : dg4 ρ (.val d) (some kvs) (some k) = .ok (.dat ((valD kvs k).getD d), ρ) := rfl
def dg3 (i : Nat) (oj : Opd) : R (Opd × Ev) → R (B × Ev)
  | .ok u => dg4 u.2 u.1 (odkOf u.2 i) ((rd u.2 oj).bind keyD)
  | .err x ρ => .err x ρ
  | .stuck => .stuck
@[simp] theorem e_dg3 (i : Nat) (oj o : Opd) : dg3 i oj (.ok (o, ρ)) = dg4 ρ o (odkOf ρ i) ((rd ρ oj).bind keyD) := rfl
def dg2 (i : Nat) (fz : FO) : R (Opd × Ev) → R (B × Ev)
  | .ok q => dg3 i q.1 (fz q.2)
  | .err x ρ => .err x ρ
  | .stuck => .stuck
@[simp] theorem e_dg2 (i : Nat) (fz : FO) (o : Opd) : dg2 i fz (.ok (o, ρ)) = dg3 i o (fz ρ) := rfl
def dg1 (i : Nat) (fj fz : FO) (ρ : Ev) : Option (List (Key × D)) → R (B × Ev)
  | some _ => dg2 i fz (fj ρ)
  | none => .stuck
@[simp] theorem e_dg1 (i : Nat) (fj fz : FO) (kvs : List (Key × D)) : dg1 i fj fz ρ (some kvs) = dg2 i fz (fj ρ) := rfl
@[simp] theorem e_cDGt (i : Nat) (fj fz : FO) : cDGt i fj fz ρ = dg1 i fj fz ρ (odkOf ρ i) := by
  unfold cDGt
  cases odkOf ρ i with
  | none => rfl
  | some k0 =>
    simp only [ofO_some, ok_bind, e_dg1]
    cases fj ρ with
    | err x ρ2 => rfl
    | stuck => rfl
    | ok q =>
      obtain ⟨o2, ρ2⟩ := q
      simp only [ok_bind, e_dg2]
      cases fz ρ2 with
      | err x ρ3 => rfl
      | stuck => rfl
      | ok u =>
        obtain ⟨o3, ρ3⟩ := u
        simp only [ok_bind, e_dg3]
        cases odkOf ρ3 i with
        | none => rfl
        | some kvs =>
          simp only [ofO_some, ok_bind]
          cases (rd ρ3 o2).bind keyD with
          | none => rfl
          | some k => cases o3 <;> rfl
theorem e_cGr {i : Nat} {kvs : List (Key × D)} {ns : List Int} (h : odkOf ρ i = some kvs) (k : intsOf (kvs.map Prod.snd) = some ns) (hn : ns ≠ []) : cGr i ρ = .ok (.dat (.int (maxI ns)), ρ) := by
  unfold cGr
  rw [h]
  simp only [ofO_some, ok_bind, k, if_neg hn]
end
end Dl

set_option Elab.async false
set_option linter.all false
set_option maxRecDepth 100000
set_option maxHeartbeats 1000000
namespace Dl
open PySem PySem.Spec L2
open PyProof.Rows hiding St

/-! ## list.remove of an int -/
def gRemove : List D → List D → Option (D × List D)
  | ds, [.int k] => (intsOf ds).bind fun ns => if k ∈ ns then some (.non, (ns.eraseIdx (ns.idxOf k)).map .int) else none
  | _, _ => none
theorem rpL_ints {K : PySem.W.Frag} {F : Hp} : ∀ {ns : List Int} {xs : List V}, RpL K F (ns.map .int) xs → xs = ns.map V.int
  | [], xs, h => by
    cases h
    rfl
  | n :: ns, xs, h => by
    rw [List.map_cons] at h
    obtain ⟨v, ws, rfl, r, t⟩ := h
    unfold Rp at r
    rw [r, rpL_ints t]
    rfl
theorem vm_remove {K : PySem.W.Frag} : VM K rRemI gRemove := by
  intro F H ds xs l as vs d ds' Q s el rl pa e k
  unfold gRemove at e
  split at e
  · rename_i k0
    obtain ⟨v, rfl, hv⟩ := Paired.one pa
    cases q : intsOf ds with
    | none =>
      rw [q] at e
      cases e
    | some ns =>
      rw [q] at e
      simp only [Option.bind_some] at e
      split at e
      · rename_i hm
        cases e
        have hd := intsOf_some q
        subst hd
        have hx := rpL_ints rl
        subst hx
        have hl : ns.idxOf k0 < ns.length := List.idxOf_lt_length_iff.mpr hm
        refine ⟨l, ns, k0, ns.idxOf k0, rfl, by rw [top_int hv], el, ?_, fun m lt => ?_, k _ _ rp_non RpL.ints⟩
        · rw [List.getElem?_eq_getElem hl, List.getElem_idxOf hl]
        · intro z
          obtain ⟨hm2, e2⟩ := List.getElem?_eq_some_iff.mp z
          have h9 := List.not_of_lt_findIdx (p := fun x => x == k0) (xs := ns) (i := m) lt
          simp [e2] at h9
      · cases e
  · cases e
/-! ## xs < ys, lists of ints -/
def lexI : List Int → List Int → Bool
  | [], [] => false
  | [], _ :: _ => true
  | _ :: _, [] => false
  | x :: xs, y :: ys => if x = y then lexI xs ys else decide (x < y)
def rLtL (K : PySem.W.Frag) : R2 := fun x y H Q => ∃ a b ns ms, x = .ref a ∧ y = .ref b ∧ SqL K H a (ns.map V.int) ∧ SqL K H b (ms.map V.int) ∧ Q (.bl (lexI ns ms)) H
theorem lexI_at : ∀ (ns ms : List Int), PySem.SeqAt.firstLt (fun j => decide (ns.getD j 0 = ms.getD j 0)) (fun j => decide (ns.getD j 0 < ms.getD j 0)) (decide (ns.length < ms.length)) (List.range (min ns.length ms.length)) = lexI ns ms
  | [], [] => rfl
  | [], m :: ms => by simp [PySem.SeqAt.firstLt, lexI]
  | n :: ns, [] => by simp [PySem.SeqAt.firstLt, lexI]
  | n :: ns, m :: ms => by
    have ih := lexI_at ns ms
    have sh : ∀ l : List Nat, PySem.SeqAt.firstLt (fun j => decide ((n :: ns).getD j 0 = (m :: ms).getD j 0)) (fun j => decide ((n :: ns).getD j 0 < (m :: ms).getD j 0)) (decide ((n :: ns).length < (m :: ms).length)) (l.map (· + 1)) = PySem.SeqAt.firstLt (fun j => decide (ns.getD j 0 = ms.getD j 0)) (fun j => decide (ns.getD j 0 < ms.getD j 0)) (decide (ns.length < ms.length)) l := fun l => by
      induction l with
      | nil => simp [PySem.SeqAt.firstLt]
      | cons j l ihl =>
        rw [List.map_cons]
        unfold PySem.SeqAt.firstLt
        rw [ihl]
        simp
    have rr : List.range (min (n :: ns).length (m :: ms).length) = 0 :: (List.range (min ns.length ms.length)).map (· + 1) := by
      rw [List.length_cons, List.length_cons, Nat.succ_min_succ, List.range_succ_eq_map]
    rw [rr]
    unfold PySem.SeqAt.firstLt
    rw [sh, ih]
    show (if decide (n = m) = true then lexI ns ms else decide (n < m)) = _
    show _ = if n = m then lexI ns ms else decide (n < m)
    by_cases c : n = m <;> simp [c]
theorem op_ltL {X : Cx} (hu : X.A.units + 65 < cLine) : OpR X (compareOp .Lt) (rLtL X.K) := by
  intro pins s σ H x y v u Q I rx ry h
  obtain ⟨a, b, ns, ms, rfl, rfl, ha, hb, q⟩ := h
  cases rx
  cases ry
  obtain ⟨its, r1, p1, z1⟩ := I.list ha
  obtain ⟨its2, r2, p2, z2⟩ := I.list hb
  have l1 : its.toArray.size = ns.length := by
    have := r1.length
    rw [List.length_map] at this
    rw [List.size_toArray]
    exact this.symm
  have l2 : its2.toArray.size = ms.length := by
    have := r2.length
    rw [List.length_map] at this
    rw [List.size_toArray]
    exact this.symm
  have at1 : ∀ j (h : j < its.toArray.size), ∃ t, its.toArray[j] = Value.int (ns.getD j 0) t := fun j h => by
    have hj : j < ns.length := by omega
    obtain ⟨w, e1, t, e2⟩ := r1.get (show (ns.map V.int)[j]? = some (V.int ns[j]) by rw [List.getElem?_map, List.getElem?_eq_getElem hj]; rfl)
    obtain ⟨_, e3⟩ := List.getElem?_eq_some_iff.mp e1
    refine ⟨t, ?_⟩
    have e4 : its.toArray[j] = w := by simpa using e3
    rw [e4, e2, List.getD_eq_getElem?_getD, List.getElem?_eq_getElem hj]
    rfl
  have at2 : ∀ j (h : j < its2.toArray.size), ∃ t, its2.toArray[j] = Value.int (ms.getD j 0) t := fun j h => by
    have hj : j < ms.length := by omega
    obtain ⟨w, e1, t, e2⟩ := r2.get (show (ms.map V.int)[j]? = some (V.int ms[j]) by rw [List.getElem?_map, List.getElem?_eq_getElem hj]; rfl)
    obtain ⟨_, e3⟩ := List.getElem?_eq_some_iff.mp e1
    refine ⟨t, ?_⟩
    have e4 : its2.toArray[j] = w := by simpa using e3
    rw [e4, e2, List.getD_eq_getElem?_getD, List.getElem?_eq_getElem hj]
    rfl
  have rc := PySem.SeqAt.RcLt.lists (A := X.A) (s := s) (e := fun j => decide (ns.getD j 0 = ms.getD j 0)) (r := fun j => decide (ns.getD j 0 < ms.getD j 0)) p1.isList p2.isList (by omega)
    (fun j h1 h2 => by
      obtain ⟨t1, e1⟩ := at1 j h1
      obtain ⟨t2, e2⟩ := at2 j h2
      rw [e1, e2]
      have := (MeetsSeq.EqGives.int (ns.getD j 0) (ms.getD j 0) t1 t2).at X.A.in1 s
      exact this)
    (fun j h1 h2 _ => by
      obtain ⟨t1, e1⟩ := at1 j h1
      obtain ⟨t2, e2⟩ := at2 j h2
      rw [e1, e2]
      intro prog w E Q' hq
      exact lt_int hq)
  rw [l1, l2, lexI_at] at rc
  exact rc X.prog X.w X.xe _ ⟨.bl (lexI ns ms), H, I, rfl, q⟩
def gLtL (d e : D) : Option B := ((lstOf d).bind intsOf).bind fun ns => ((lstOf e).bind intsOf).map fun ms => .dat (.bl (lexI ns ms))
section
variable {X : Fam} {K : PySem.W.Frag} {T : List (Addr × Str)}
theorem v2_ltL : V2 K T (rLtL K) gLtL := by
  intro F H A ρ σ d d' v v' b Q s r h h' e f
  unfold gLtL at e
  cases q : (lstOf d).bind intsOf with
  | none =>
    rw [q] at e
    cases e
  | some ns =>
    rw [q] at e
    simp only [Option.bind_some] at e
    cases q2 : (lstOf d').bind intsOf with
    | none =>
      rw [q2] at e
      cases e
    | some ms =>
      rw [q2] at e
      cases e
      obtain ⟨a, rfl, h1⟩ := top_ints s h q
      obtain ⟨a', rfl, h2⟩ := top_ints s h' q2
      exact ⟨a, a', ns, ms, rfl, rfl, h1, h2, f.dat s r rp_bl⟩
theorem or_ltL (hu : ∀ i, (X.at_ i).A.units + 65 < cLine) : ∀ i, OpR (X.at_ i) (compareOp .Lt) (rLtL X.K) := fun i => by
  rw [← X.hK i]
  exact op_ltL (hu i)
theorem gLtL_ints (ns ms : List Int) : gLtL (.lst (ns.map .int)) (.lst (ms.map .int)) = some (.dat (.bl (lexI ns ms))) := by
  show ((intsOf (ns.map .int)).bind fun ns => ((intsOf (ms.map .int)).map fun ms => B.dat (.bl (lexI ns ms)))) = _
  rw [intsOf_map, intsOf_map]
  rfl
end
end Dl

set_option Elab.async false
set_option linter.all false
set_option maxRecDepth 100000
set_option maxHeartbeats 1000000
namespace Dl
open PySem PySem.Spec L2
open PyProof.Rows hiding St

/-! ## an expression that only reads and gives a tuple of flat data -/
def noExt : Ev → Bool
  | [] => true
  | .ext _ :: _ => false
  | _ :: ρ => noExt ρ
theorem own_kind {K : PySem.W.Frag} {F H : Hp} {ρ : Ev} {σ : St} {A : List Addr} (h : RepS K F H ρ σ A) : noExt ρ = true → ∀ a ∈ A, (∃ ys, H a = some (.lst ys)) ∨ (∃ ys, H a = some (.dK ys)) ∨ ∃ ys, H a = some (.dT ys) := by
  induction h with
  | nil => intro _ a m; cases m
  | @cons b sv ft ρ σ A hb t dj ih =>
    intro hn a m
    cases b with
    | ext _ => simp [noExt] at hn
    | un =>
      have hb : ft = [] := hb
      subst hb
      exact ih (by simpa [noExt] using hn) a (by simpa using m)
    | dat d =>
      have hb : ft = [] := hb.1
      subst hb
      exact ih (by simpa [noExt] using hn) a (by simpa using m)
    | own ds =>
      obtain ⟨l, ys, _, rfl, e1, _⟩ := hb
      rcases List.mem_append.mp m with z | z
      · rw [List.mem_singleton.mp z]
        exact .inl ⟨ys, e1⟩
      · exact ih (by simpa [noExt] using hn) a z
    | odk ds =>
      obtain ⟨l, ys, _, rfl, e1, _⟩ := hb
      rcases List.mem_append.mp m with z | z
      · rw [List.mem_singleton.mp z]
        exact .inr (.inl ⟨ys, e1⟩)
      · exact ih (by simpa [noExt] using hn) a z
    | odt ds =>
      obtain ⟨l, ys, _, rfl, e1, _⟩ := hb
      rcases List.mem_append.mp m with z | z
      · rw [List.mem_singleton.mp z]
        exact .inr (.inr ⟨ys, e1⟩)
      · exact ih (by simpa [noExt] using hn) a z
theorem rpL_flat {K : PySem.W.Frag} {F F' : Hp} : ∀ {ds : List D} {xs : List V}, ds.all flatD = true → RpL K F ds xs → RpL K F' ds xs
  | [], xs, _, h => h
  | d :: ds, xs, hf, h => by
    rw [List.all_cons, Bool.and_eq_true] at hf
    obtain ⟨v, ws, rfl, r, t⟩ := h
    exact ⟨v, ws, rfl, flat_any hf.1 r, rpL_flat hf.2 t⟩
def purT (ρ : Ev) : R (B × Ev) → R (B × Ev)
  | .ok (.dat (.tup ds), _) => if (ds.all flatD && noExt ρ) = true then .ok (.dat (.tup ds), ρ) else .stuck
  | .err x _ => match x.fs with
    | none => .err x ρ
    | some _ => .stuck
  | _ => .stuck
def cPureT (f : FE) : FE := fun ρ => purT ρ (f (ρ.map frzB))
section
variable {X : Fam} {T : List (Addr × Str)} {W : WX}
theorem de_pureT {e : Expr} {f : FE} (h : DE X T W e f) : DE X T W e (cPureT f) := by
  obtain ⟨t, pe, s⟩ := h
  refine ⟨t, pe, fun σ F H A ρ Q at_ p => ?_⟩
  obtain ⟨F2, g0, r0⟩ := freezeAll (T := T) at_.rep at_.sub
  refine s σ F2 H [] (ρ.map frzB) Q ⟨g0.sub, g0.tab at_.tab, r0, X.mono at_.inv g0.kF fun _ _ => rfl, g0.ntb at_.ntb⟩ ?_
  have ext : ∀ {A' : List Addr} {F' H' : Hp}, Go T [] F2 H A' F' H' → Go T A F H A F H' ∧ RepS X.K F H' ρ σ A := fun {A' F' H'} g => by
    have eN : LamX.ExtN H H' := fun b o e nt => g.kH b o e (fun z => nomatch z) nt
    refine ⟨go_ext at_.sub at_.ntb eN (g.tab at_.tab), at_.rep.stab (Sub.refl F) (fun b mb => ?_) fun b mb => (at_.rep.live b mb).2⟩
    obtain ⟨⟨o, e, nt⟩, _⟩ := at_.rep.live b mb
    rw [e]
    exact eN b o e nt
  unfold cPureT at p
  cases q : f (ρ.map frzB) with
  | stuck =>
    rw [q] at p
    exact p.elim
  | err x ρ' =>
    rw [q] at p
    unfold purT at p
    cases qx : x.fs with
    | some _ =>
      simp only [qx] at p
      exact p.elim
    | none =>
      simp only [qx] at p
      intro F' H' A' cls dd g _ rx
      obtain ⟨g1, r1⟩ := ext g
      refine p F H' A cls dd g1 r1 ?_
      unfold RepX at rx ⊢
      rw [qx] at rx ⊢
      exact rx
  | ok z =>
    obtain ⟨b, ρ'⟩ := z
    rw [q] at p
    cases b with
    | dat d =>
      cases d with
      | tup ds =>
        unfold purT at p
        simp only at p
        split at p
        · rename_i hf
          rw [Bool.and_eq_true] at hf
          obtain ⟨hf, hx⟩ := hf
          intro F' H' A' g v r
          obtain ⟨v', e, rd, _⟩ := r.dat_inv
          cases e
          obtain ⟨g1, r1⟩ := ext g
          unfold Rp at rd
          obtain ⟨a, xs, rfl, sq, rl⟩ := rd
          have rl' : ∀ F3, RpL X.K F3 ds xs := fun F3 => rpL_flat hf rl
          rcases sq with sq | sq
          · obtain ⟨o, ho, hk⟩ : ∃ o, F' a = some o ∧ (o = .tup xs ∨ ∃ u, o = .frz u (.tup xs)) := by
              rcases sq with z | ⟨u, z⟩
              · exact ⟨_, z, .inl rfl⟩
              · exact absurd z ((g.ntb (g0.ntb at_.ntb)).2 a u xs)
            have s3 : Sub F (fun b => if b = a then some o else F b) := fun b u eb => by
              show (if b = a then some o else F b) = some u
              by_cases c : b = a
              · subst c
                rw [if_pos rfl, ← ho]
                exact g.kF b u (g0.kF b u eb)
              · rw [if_neg c]
                exact eb
            have s3H : Sub (fun b => if b = a then some o else F b) H' := fun b u eb => by
              have eb : (if b = a then some o else F b) = some u := eb
              by_cases c : b = a
              · subst c
                rw [if_pos rfl] at eb
                rw [← eb]
                exact g.sub b o ho
              · rw [if_neg c] at eb
                exact g1.sub b u eb
            have na : a ∉ A := fun m => by
              have hH : H' a = some o := g.sub a o ho
              have eN : ∀ u, H a = some u → (∀ ps, u ≠ .tbl ps) → H' a = some u := fun u e nt => g.kH a u e (fun z => nomatch z) nt
              rcases own_kind at_.rep hx a m with ⟨ys, e⟩ | ⟨ys, e⟩ | ⟨ys, e⟩
              all_goals
                have e2 := eN _ e (fun ps z => by cases z)
                rw [hH] at e2
                rcases hk with rfl | ⟨u, rfl⟩ <;> cases e2
            have r3 : RepS X.K (fun b => if b = a then some o else F b) H' ρ σ A := r1.stab s3 (fun _ _ => rfl) fun b m => by
              show (if b = a then some o else F b) = none
              rw [if_neg fun z => na (by rw [← z]; exact m)]
              exact (at_.rep.live b m).2
            have g3 : Go T A F H A (fun b => if b = a then some o else F b) H' := by
              refine ⟨g1.kH, g1.ex, s3, s3H, fun b u eb => ?_, g1.sA, g1.tab, fun nt => ⟨fun b ps eb => ?_, fun b u ys eb => ?_⟩⟩
              · have eb : (if b = a then some o else F b) = some u := eb
                by_cases c : b = a
                · subst c
                  rw [if_pos rfl] at eb
                  cases eb
                  rcases g.nF b _ ho with z | z | z | z
                  · exact g0.nF b _ z
                  · exact .inr (.inl z)
                  · cases z
                  · exact .inr (.inr (.inr z))
                · rw [if_neg c] at eb
                  exact .inl eb
              · have eb : (if b = a then some o else F b) = some (.tbl ps) := eb
                by_cases c : b = a
                · rw [if_pos c] at eb
                  rcases hk with rfl | ⟨u, rfl⟩ <;> cases eb
                · rw [if_neg c] at eb
                  exact nt.1 b ps eb
              · have eb : (if b = a then some o else F b) = some (.frz u (.tup ys)) := eb
                by_cases c : b = a
                · rw [if_pos c] at eb
                  rw [eb] at ho
                  exact (g.ntb (g0.ntb at_.ntb)).2 a u ys ho
                · rw [if_neg c] at eb
                  exact nt.2 b u ys eb
            refine p _ H' A g3 (.ref a) (r3.dat ?_)
            unfold Rp
            refine ⟨a, xs, rfl, .inl ?_, rl' _⟩
            rcases hk with rfl | ⟨u, rfl⟩
            · exact .inl (if_pos rfl)
            · exact .inr ⟨u, if_pos rfl⟩
          · refine p F H' A g1 (.ref a) (r1.dat ?_)
            unfold Rp
            exact ⟨a, xs, rfl, .inr sq, rl' _⟩
        · exact p.elim
      | _ => exact p.elim
    | un => exact p.elim
    | own _ => exact p.elim
    | odk _ => exact p.elim
    | odt _ => exact p.elim
    | ext _ => exact p.elim
end
section
variable {ρ : Ev} {b : B} {d : D}
@[simp] theorem e_noExt0 : noExt [] = true := rfl
@[simp] theorem e_noExt1 : noExt (.un :: ρ) = noExt ρ := rfl
@[simp] theorem e_noExt2 : noExt (.dat d :: ρ) = noExt ρ := rfl
@[simp] theorem e_noExt3 (ds : List D) : noExt (.own ds :: ρ) = noExt ρ := rfl
@[simp] theorem e_noExt4 (ds : List (Key × D)) : noExt (.odk ds :: ρ) = noExt ρ := rfl
@[simp] theorem e_noExt5 (ds : List (List Key × D)) : noExt (.odt ds :: ρ) = noExt ρ := rfl
@[simp] theorem e_flat1 (i : Int) : flatD (.int i) = true := rfl
@[simp] theorem e_flat2 (i : Bool) : flatD (.bl i) = true := rfl
@[simp] theorem e_flat3 (i : Str) : flatD (.str i) = true := rfl
@[simp] theorem e_flat4 : flatD .non = true := rfl
@[simp] theorem e_cPureT (f : FE) : cPureT f ρ = purT ρ (f (ρ.map frzB)) := rfl
@[simp] theorem e_purT (ρ' : Ev) (ds : List D) : purT ρ (.ok (.dat (.tup ds), ρ')) = if (ds.all flatD && noExt ρ) = true then .ok (.dat (.tup ds), ρ) else .stuck := rfl
@[simp] theorem e_purTe (ρ' : Ev) (x : Str) : purT ρ (.err ⟨x, none⟩ ρ') = .err ⟨x, none⟩ ρ := rfl
end
end Dl

set_option Elab.async false
set_option linter.all false
set_option maxRecDepth 100000
set_option maxHeartbeats 4000000
namespace Dl
open PySem PySem.Spec L2
open PyProof.Rows hiding St

def isFromD (d : D) (lo hi : Int) : Bool := match d with
  | .int i => decide (lo ≤ i) && decide (i ≤ hi)
  | _ => false
def isWord : D → Bool
  | .str s => s == Str.ofString "read" || s == Str.ofString "write"
  | _ => false
def isStepD : D → Bool
  | .tup [a, b] => isWord a && isFromD b 0 100000000
  | _ => false
theorem tup_cases (ds : List D) : ds = [] ∨ (∃ a, ds = [a]) ∨ (∃ a b, ds = [a, b]) ∨ ∃ a b c es, ds = a :: b :: c :: es := by
  match ds with
  | [] => exact .inl rfl
  | [a] => exact .inr (.inl ⟨a, rfl⟩)
  | [a, b] => exact .inr (.inr (.inl ⟨a, b, rfl⟩))
  | a :: b :: c :: es => exact .inr (.inr (.inr ⟨a, b, c, es, rfl⟩))
theorem beq_comm' (a b : Str) : (a == b) = (b == a) := by
  rw [Bool.eq_iff_iff]
  simp only [beq_iff_eq]
  exact eq_comm
theorem inWords {s : Str} (h : PyData.strOk s = true) (ds : D → D) : gIn (.str s) (.tup [.str "read", .str "write"]) = some (.dat (.bl (isWord (.str s)))) := by
  rw [gIn_tup (by rw [shp_shn, shn_strOk, h]) (by simp)]
  simp [inD, isWord, beq_comm']
theorem step_inv {d : D} (h : isStepD d = true) : ∃ (w : String) (b : Int), d = .tup [.str (Str.ofString w), .int b] ∧ (w = "read" ∨ w = "write") ∧ 0 ≤ b ∧ b ≤ 100000000 := by
  unfold isStepD at h
  split at h
  · rename_i a b
    rw [Bool.and_eq_true] at h
    obtain ⟨h1, h2⟩ := h
    unfold isFromD at h2
    split at h2
    · rename_i i
      simp at h2
      unfold isWord at h1
      split at h1
      · rename_i s
        rw [Bool.or_eq_true] at h1
        rcases h1 with h1 | h1
        · exact ⟨"read", i, by rw [eq_of_beq h1], .inl rfl, h2⟩
        · exact ⟨"write", i, by rw [eq_of_beq h1], .inr rfl, h2⟩
      · cases h1
    · cases h2
  · cases h
theorem step_shn {d : D} (h : isStepD d = true) : shn 1 d = true := by
  obtain ⟨w, b, rfl, _⟩ := step_inv h
  rw [show (1 : Nat) = 0 + 1 from rfl, shn_tup]
  simp
def badS (ds : List D) (k : Nat) : D → Bool
  | .tup [w, b] => inD (.tup [w, b]) (ds.take k) || (eqD w (.str "read") && inD (.tup [.str "write", b]) (ds.take k))
  | _ => false
def ordF (ds : List D) : Nat → List D → Bool
  | _, [] => true
  | k, s :: ss => !badS ds k s && ordF ds (k + 1) ss
theorem step_nice {d : D} (h : isStepD d = true) : niceB d = true := by
  obtain ⟨w, b, rfl, _⟩ := step_inv h
  simp
def isDealD : D → Bool
  | .tup ds => decide (1 ≤ ds.length) && decide (ds.length ≤ 8) && (ds.all isStepD && ordF ds 0 ds)
  | _ => false
def areDealD : D → Bool
  | .lst ds => decide (1 ≤ ds.length) && decide (ds.length ≤ 100) && ds.all isDealD
  | _ => false
def noScr : D → Bool
  | .scr _ => false
  | _ => true

/-! ## dealings as pairs -/
abbrev Wb := Bool × Int
def wd (b : Bool) : D := .str (Str.ofString (if b = true then "write" else "read"))
def sd (p : Wb) : D := .tup [wd p.1, .int p.2]
def inB (p : Wb) : Prop := 0 ≤ p.2 ∧ p.2 ≤ 100000000
theorem step_sd {p : Wb} (h : inB p) : isStepD (sd p) = true := by
  obtain ⟨a, b⟩ := p
  cases a <;> simp [sd, wd, isStepD, isWord, isFromD, h.1, h.2]
theorem sd_of {d : D} (h : isStepD d = true) : ∃ p : Wb, d = sd p ∧ inB p := by
  obtain ⟨w, b, rfl, hw, h1, h2⟩ := step_inv h
  rcases hw with rfl | rfl
  · exact ⟨(false, b), by simp [sd, wd], h1, h2⟩
  · exact ⟨(true, b), by simp [sd, wd], h1, h2⟩
theorem eqD_tup2 (a b c d : D) : eqD (.tup [a, b]) (.tup [c, d]) = (eqD a c && eqD b d) := by
  simp only [eqD, py, pyL, PyData.eqv, PyData.eqvAll, Bool.and_true]
theorem eqD_wd (a b : Bool) : eqD (wd a) (wd b) = decide (a = b) := by
  unfold wd
  rw [eqD_str]
  cases a <;> cases b <;> decide
theorem eqD_sd (p q : Wb) : eqD (sd p) (sd q) = decide (p = q) := by
  obtain ⟨a, b⟩ := p
  obtain ⟨c, e⟩ := q
  unfold sd
  rw [eqD_tup2, eqD_wd, eqD_int, Bool.eq_iff_iff]
  simp
theorem inD_sd (p : Wb) : ∀ ps : List Wb, inD (sd p) (ps.map sd) = decide (p ∈ ps)
  | [] => by
    rw [List.map_nil]
    rfl
  | q :: ps => by
    have ih := inD_sd p ps
    have e : inD (sd p) ((q :: ps).map sd) = (eqD (sd q) (sd p) || inD (sd p) (ps.map sd)) := by
      rw [List.map_cons]
      unfold inD
      rw [List.any_cons]
    rw [e, ih, eqD_sd, Bool.eq_iff_iff, Bool.or_eq_true, decide_eq_true_eq, decide_eq_true_eq, decide_eq_true_eq, List.mem_cons]
    exact or_congr eq_comm Iff.rfl
def badP (ps : List Wb) (k : Nat) (p : Wb) : Bool := decide (p ∈ ps.take k) || (!p.1 && decide ((true, p.2) ∈ ps.take k))
theorem badS_sd (ps : List Wb) (k : Nat) (p : Wb) : badS (ps.map sd) k (sd p) = badP ps k p := by
  have h1 := inD_sd p (ps.take k)
  have h2 := inD_sd (true, p.2) (ps.take k)
  rw [List.map_take] at h1 h2
  show (inD (sd p) ((ps.map sd).take k) || (eqD (wd p.1) (.str "read") && inD (sd (true, p.2)) ((ps.map sd).take k))) = _
  rw [h1, h2]
  obtain ⟨a, b⟩ := p
  cases a <;> simp [badP, wd, ofString_inj]
def ordP (ps : List Wb) : Nat → List Wb → Bool
  | _, [] => true
  | k, p :: r => !badP ps k p && ordP ps (k + 1) r
theorem ordF_sd (ps : List Wb) : ∀ (r : List Wb) (k : Nat), ordF (ps.map sd) k (r.map sd) = ordP ps k r
  | [], k => rfl
  | p :: r, k => by
    rw [List.map_cons, ordF, ordP, badS_sd, ordF_sd ps r]
theorem badP_take {ps qs : List Wb} {k j : Nat} (h : ps.take k = qs.take j) (p : Wb) : badP ps k p = badP qs j p := by
  unfold badP
  rw [h]
theorem ordP_snoc (p : Wb) : ∀ (r pre : List Wb), ordP (pre ++ r ++ [p]) pre.length (r ++ [p]) = (ordP (pre ++ r) pre.length r && !badP (pre ++ r) (pre ++ r).length p)
  | [], pre => by
    have h := badP_take (ps := pre ++ [] ++ [p]) (qs := pre ++ []) (k := pre.length) (j := (pre ++ []).length) (by simp) p
    simp only [List.nil_append, ordP, h, Bool.and_true, Bool.true_and]
  | q :: r, pre => by
    have ih := ordP_snoc p r (pre ++ [q])
    have h := badP_take (ps := pre ++ q :: r ++ [p]) (qs := pre ++ q :: r) (k := pre.length) (j := pre.length) (by simp) q
    have e : pre ++ [q] ++ r = pre ++ q :: r := by simp
    rw [e] at ih
    have l : (pre ++ [q]).length = pre.length + 1 := by simp
    rw [l] at ih
    rw [List.cons_append, ordP, ordP, h, ih, Bool.and_assoc]
/-- how many steps at a box -/
def cnt (b : Int) (ps : List Wb) : Nat := (ps.filter fun p => p.2 == b).length
structure Good (ps : List Wb) : Prop where
  box : ∀ p ∈ ps, inB p
  ord : ordP ps 0 ps = true
  few : ∀ b, cnt b ps ≤ 2
  few1 : ∀ b, (true, b) ∉ ps → cnt b ps ≤ 1
theorem Good.nil : Good [] := ⟨fun _ m => (nomatch m), rfl, fun _ => Nat.zero_le _, fun _ _ => Nat.zero_le _⟩
theorem cnt_zero {b : Int} {ps : List Wb} (h1 : (true, b) ∉ ps) (h2 : (false, b) ∉ ps) : cnt b ps = 0 := by
  unfold cnt
  rw [List.length_eq_zero_iff, List.filter_eq_nil_iff]
  intro p hp e
  have e := eq_of_beq e
  obtain ⟨a, c⟩ := p
  simp only at e
  subst e
  cases a
  · exact h2 hp
  · exact h1 hp
theorem cnt_snoc (b : Int) (ps : List Wb) (p : Wb) : cnt b (ps ++ [p]) = cnt b ps + if p.2 = b then 1 else 0 := by
  unfold cnt
  rw [List.filter_append, List.length_append]
  by_cases h : p.2 = b <;> simp [h]
theorem Good.snoc {ps : List Wb} {p : Wb} (g : Good ps) (h : inB p) (h1 : p ∉ ps) (h2 : (true, p.2) ∉ ps) : Good (ps ++ [p]) := by
  refine ⟨fun q hq => ?_, ?_, fun b => ?_, fun b hb => ?_⟩
  · rcases List.mem_append.mp hq with z | z
    · exact g.box q z
    · rw [List.mem_singleton.mp z]
      exact h
  · have := ordP_snoc p ps []
    simp only [List.nil_append, List.length_nil] at this
    rw [this, g.ord, Bool.true_and]
    simp [badP, h1, h2]
  · rw [cnt_snoc]
    by_cases e : p.2 = b
    · have := g.few1 b (by rw [← e]; exact h2)
      simp [e]
      omega
    · have := g.few b
      simp [e]
      omega
  · rw [cnt_snoc]
    have hb' : (true, b) ∉ ps := fun z => hb (List.mem_append_left _ z)
    by_cases e : p.2 = b
    · obtain ⟨a, c⟩ := p
      simp only at e
      subst e
      cases a
      · have := cnt_zero hb' h1
        simp [this]
      · exact absurd (List.mem_append_right _ (List.mem_singleton.mpr rfl)) hb
    · have := g.few1 b hb'
      simp [e]
      omega
theorem isDeal_sd {ps : List Wb} (g : Good ps) (h0 : ps ≠ []) (h1 : ps.length ≤ 8) : isDealD (.tup (ps.map sd)) = true := by
  have hp := List.length_pos_iff.mpr h0
  have e := ordF_sd ps ps 0
  simp only [isDealD, List.length_map, e, g.ord, Bool.and_true, Bool.and_eq_true, decide_eq_true_eq, List.all_eq_true]
  refine ⟨⟨by omega, h1⟩, fun d m => ?_⟩
  obtain ⟨p, hp, rfl⟩ := List.mem_map.mp m
  exact step_sd (g.box p hp)
theorem step_all {ps : List Wb} (h : ∀ p ∈ ps, inB p) : ∀ d ∈ ps.map sd, isStepD d = true := fun d m => by
  obtain ⟨p, hp, rfl⟩ := List.mem_map.mp m
  exact step_sd (h p hp)
/-- ordP at a place -/
theorem ordP_at (ps : List Wb) : ∀ (a : List Wb) (k : Nat) (p : Wb) (r : List Wb), ordP ps k (a ++ p :: r) = true → badP ps (k + a.length) p = false
  | [], k, p, r, h => by
    rw [List.nil_append, ordP, Bool.and_eq_true] at h
    simpa using h.1
  | q :: a, k, p, r, h => by
    rw [List.cons_append, ordP, Bool.and_eq_true] at h
    have := ordP_at ps a (k + 1) p r h.2
    rw [List.length_cons]
    have e : k + (a.length + 1) = k + 1 + a.length := by omega
    rw [e]
    exact this
theorem twice_bad {p : Wb} {r : List Wb} : ordP ((p :: r) ++ (p :: r)) 0 ((p :: r) ++ (p :: r)) = false := by
  cases h : ordP ((p :: r) ++ (p :: r)) 0 ((p :: r) ++ (p :: r)) with
  | false => rfl
  | true =>
    have := ordP_at _ (p :: r) 0 p r h
    simp [badP] at this
theorem not_twice {ps : List Wb} (h0 : ps ≠ []) : isDealD (.tup (ps.map sd ++ ps.map sd)) = false := by
  obtain ⟨p, r, rfl⟩ := List.exists_cons_of_ne_nil h0
  have e := ordF_sd ((p :: r) ++ (p :: r)) ((p :: r) ++ (p :: r)) 0
  rw [twice_bad, List.map_append] at e
  simp only [isDealD, e, Bool.and_false]
theorem lc_fm2 {i j : Nat} {c : FT} {e : FE} {g : Wb → D} {t : Wb → Bool} {ρ : Ev} (hk : wipeE ρ [i, j] = ρ) (hp : ∀ (p : Wb) (ρ' : Ev), pTup [pName i, pName j] (sd p) ρ' = some ((ρ'.set i (.dat (wd p.1))).set j (.dat (.int p.2))))
    (hw : ∀ p : Wb, wipeE ((ρ.set i (.dat (wd p.1))).set j (.dat (.int p.2))) [i, j] = ρ) : ∀ (ps : List Wb) (acc : List D), (∀ p ∈ ps, c ((ρ.set i (.dat (wd p.1))).set j (.dat (.int p.2))) = .ok (t p, (ρ.set i (.dat (wd p.1))).set j (.dat (.int p.2)))) →
    (∀ p ∈ ps, t p = true → cO e ((ρ.set i (.dat (wd p.1))).set j (.dat (.int p.2))) = .ok (.val (g p), (ρ.set i (.dat (wd p.1))).set j (.dat (.int p.2)))) → acc.length + ps.length ≤ sizeLine →
    lcD (pTup [pName i, pName j]) c e [i, j] (ps.map sd) acc ρ = .ok (acc ++ (ps.filter t).map g, ρ)
  | [], acc, _, _, _ => by simp
  | p :: ps, acc, hc, he, hl => by
    rw [List.map_cons, lcD_cons, hp, e_lt1, hc p List.mem_cons_self]
    rw [List.length_cons] at hl
    cases q : t p with
    | false =>
      rw [e_lt3f, hw, lc_fm2 hk hp hw ps acc (fun d m => hc d (List.mem_cons_of_mem _ m)) (fun d m => he d (List.mem_cons_of_mem _ m)) (by omega)]
      simp [q]
    | true =>
      rw [e_lt3t, he p List.mem_cons_self q, e_lt4, if_pos (by omega), hw, lc_fm2 hk hp hw ps _ (fun d m => hc d (List.mem_cons_of_mem _ m)) (fun d m => he d (List.mem_cons_of_mem _ m)) (by rw [List.length_append, List.length_singleton]; omega)]
      simp [q]
theorem gSorted_ints (ns : List Int) : gSorted [.lst (ns.map .int)] = some (.own ((sortI ns).map .int)) := by
  show ((intsOf (ns.map .int)).map fun ns => B.own ((sortI ns).map .int)) = _
  rw [intsOf_map]
  rfl
theorem sortI_len (ns : List Int) : (sortI ns).length = ns.length := (sortI_perm ns).length_eq
theorem insU_len (k : Int) : ∀ xs : List Int, (insU k xs).length ≤ xs.length + 1
  | [] => by simp [insU]
  | x :: xs => by
    unfold insU
    split
    · simp
    · split
      · simp
      · simp only [List.length_cons]
        have := insU_len k xs
        omega
theorem sortU_len : ∀ ns : List Int, (sortU ns).length ≤ ns.length
  | [] => by simp [sortU]
  | n :: ns => by
    have h1 := insU_len n (sortU ns)
    have h2 := sortU_len ns
    show (insU n (sortU ns)).length ≤ _
    rw [List.length_cons]
    omega
theorem sortU_one {ms ns : List Int} (h : ∀ k, k ∈ ms ↔ k ∈ ns) : sortU ms = sortU ns := up_one (sortU_up ms) (sortU_up ns) fun k => by rw [sortU_mem, sortU_mem, h]
theorem eqD_ints : ∀ ns : List Int, eqD (.lst (ns.map .int)) (.lst (ns.map .int)) = true := fun ns => by
  have h : ∀ ns : List Int, PyData.eqvAll (pyL (ns.map .int)) (pyL (ns.map .int)) = true := fun ns => by
    induction ns with
    | nil => simp [pyL, PyData.eqvAll]
    | cons n ns ih => simp [pyL, PyData.eqvAll, py, PyData.eqv, ih]
  simpa [eqD, py, PyData.eqv] using h ns
theorem shp_ints (ns : List Int) : shp (.lst (ns.map .int)) = true := by
  rw [shp_lst]
  simp
theorem gEq_ints (ns : List Int) : gEq (.lst (ns.map .int)) (.lst (ns.map .int)) = some (.dat (.bl true)) := by
  rw [gEq_of (shp_ints ns) (shp_ints ns), eqD_ints]
end Dl

set_option Elab.async false
set_option linter.all false
set_option maxRecDepth 100000
set_option maxHeartbeats 4000000
namespace Dl
open PySem PySem.Spec L2
open PyProof.Rows hiding St

/-! ## a second well; equal data; orders -/
abbrev W3 := Int × Int × Int
def wl (w : W3) : B := .own [.int w.1, .int w.2.1, .int w.2.2]
theorem small_mod {b : Int} (x : Int) (h0 : 0 < b) (h1 : b < 18446744073709551616) : small64 (x % b) = true := small_of (by have := Int.emod_nonneg x (show b ≠ 0 by omega); omega) (by have := Int.emod_lt_of_pos x h0; omega)
@[simp] theorem small_m2 (x : Int) : small64 (x % 2147483629) = true := small_mod x (by decide) (by decide)
@[simp] theorem small_m3 (x : Int) : small64 (x % 2147483587) = true := small_mod x (by decide) (by decide)
@[simp] theorem e_gClear (xs : List D) : gClear xs [] = some (.non, []) := rfl
@[simp] theorem e_gReverse (xs : List D) : gReverse xs [] = some (.non, xs.reverse) := rfl
theorem eqvAll_refl : ∀ ds : List D, (∀ d ∈ ds, eqD d d = true) → PyData.eqvAll (pyL ds) (pyL ds) = true
  | [], _ => by simp [pyL, PyData.eqvAll]
  | d :: ds, h => by
    have h1 := h d List.mem_cons_self
    have h2 := eqvAll_refl ds fun e m => h e (List.mem_cons_of_mem _ m)
    simp only [pyL, PyData.eqvAll, Bool.and_eq_true]
    exact ⟨h1, h2⟩
theorem eqD_lst_refl {ds : List D} (h : ∀ d ∈ ds, eqD d d = true) : eqD (.lst ds) (.lst ds) = true := by
  have := eqvAll_refl ds h
  simpa only [eqD, py, PyData.eqv] using this
theorem eqD_tup_refl {ds : List D} (h : ∀ d ∈ ds, eqD d d = true) : eqD (.tup ds) (.tup ds) = true := by
  have := eqvAll_refl ds h
  simpa only [eqD, py, PyData.eqv] using this
theorem eqD_sd_refl (p : Wb) : eqD (sd p) (sd p) = true := by rw [eqD_sd]; simp
def dl (ps : List Wb) : D := .tup (ps.map sd)
theorem eqD_dl_refl (ps : List Wb) : eqD (dl ps) (dl ps) = true := eqD_tup_refl fun d m => by
  obtain ⟨p, _, rfl⟩ := List.mem_map.mp m
  exact eqD_sd_refl p
theorem shn_sd (p : Wb) : shn 1 (sd p) = true := by
  show shn (0 + 1) (.tup [wd p.1, .int p.2]) = true
  rw [shn_tup]
  simp [wd]
theorem shn_dl (ps : List Wb) : shn 2 (dl ps) = true := by
  show shn (1 + 1) (.tup (ps.map sd)) = true
  rw [shn_tup, List.all_eq_true]
  intro d m
  obtain ⟨p, _, rfl⟩ := List.mem_map.mp m
  exact shn_sd p
theorem nice_dl {ps : List Wb} (g : Good ps) : niceB (dl ps) = true := by
  show niceB (.tup (ps.map sd)) = true
  rw [nice_tup, List.all_eq_true]
  exact fun d m => step_nice (step_all g.box d m)
structure GoodD (ps : List Wb) : Prop where
  g : Good ps
  ne : ps ≠ []
  le : ps.length ≤ 8
theorem GoodD.is {ps : List Wb} (h : GoodD ps) : isDealD (dl ps) = true := isDeal_sd h.g h.ne h.le
/-- a list of dealings -/
def dls (PS : List (List Wb)) : D := .lst (PS.map dl)
theorem are_dls {PS : List (List Wb)} (h : ∀ ps ∈ PS, GoodD ps) (h0 : PS ≠ []) (h1 : PS.length ≤ 100) : areDealD (dls PS) = true := by
  have hp := List.length_pos_iff.mpr h0
  simp only [dls, areDealD, List.length_map, Bool.and_eq_true, decide_eq_true_eq, List.all_eq_true]
  refine ⟨⟨by omega, h1⟩, fun d m => ?_⟩
  obtain ⟨ps, hm, rfl⟩ := List.mem_map.mp m
  exact (h ps hm).is
theorem nice_dls {PS : List (List Wb)} (h : ∀ ps ∈ PS, GoodD ps) : (PS.map dl).all niceB = true := by
  rw [List.all_eq_true]
  intro d m
  obtain ⟨ps, hm, rfl⟩ := List.mem_map.mp m
  exact nice_dl (h ps hm).g
theorem eqD_dls_refl (PS : List (List Wb)) : eqD (dls PS) (dls PS) = true := eqD_lst_refl fun d m => by
  obtain ⟨p, _, rfl⟩ := List.mem_map.mp m
  exact eqD_dl_refl p
theorem shn_dls (PS : List (List Wb)) : shn 3 (dls PS) = true := by
  show shn (2 + 1) (.lst (PS.map dl)) = true
  rw [shn_lst, List.all_eq_true]
  intro d m
  obtain ⟨p, _, rfl⟩ := List.mem_map.mp m
  exact shn_dl p
theorem shn_ints (n : Nat) (ns : List Int) : shn (n + 1) (.lst (ns.map .int)) = true := by
  rw [shn_lst, List.all_eq_true]
  intro d m
  obtain ⟨p, _, rfl⟩ := List.mem_map.mp m
  simp
theorem gNe_ints (ns : List Int) : gNe (.lst (ns.map .int)) (.lst (ns.map .int)) = some (.dat (.bl false)) := by
  rw [gNe_of (shp_ints ns) (shp_ints ns), eqD_ints]
  rfl
theorem eqD_intsL : ∀ ms ns : List Int, eqD (.lst (ms.map .int)) (.lst (ns.map .int)) = decide (ms = ns) := by
  have h : ∀ ms ns : List Int, PyData.eqvAll (pyL (ms.map .int)) (pyL (ns.map .int)) = decide (ms = ns) := by
    intro ms
    induction ms with
    | nil =>
      intro ns
      cases ns with
      | nil => simp [pyL, PyData.eqvAll]
      | cons n ns => simp [pyL, PyData.eqvAll]
    | cons m ms ih =>
      intro ns
      cases ns with
      | nil => simp [pyL, PyData.eqvAll]
      | cons n ns =>
        simp only [List.map_cons, pyL, PyData.eqvAll, ih, py, PyData.eqv]
        rw [Bool.eq_iff_iff]
        simp
  intro ms ns
  simpa only [eqD, py, PyData.eqv] using h ms ns
theorem gEq_intsL (ms ns : List Int) : gEq (.lst (ms.map .int)) (.lst (ns.map .int)) = some (.dat (.bl (decide (ms = ns)))) := by
  rw [gEq_of (shp_ints ms) (shp_ints ns), eqD_intsL]
/-- 0 .. n-1 -/
def upto (n : Nat) : List Int := (List.range n).map fun k => ((k : Nat) : Int)
theorem rngD_upto (n : Nat) : rngD 0 n = (upto n).map .int := by
  unfold rngD upto
  rw [List.map_map]
  apply List.map_congr_left
  intro k _
  simp
theorem gRg1_ok {n : Int} (h0 : -1000 ≤ n) (h1 : n ≤ 16777216) : gRg1 (.int n) = some (.own ((upto n.toNat).map .int)) := by
  rw [← rngD_upto]
  show (if (rngOk n && decide (n ≤ 16777216)) = true then some (rngD 0 n.toNat) else none).map B.own = _
  rw [if_pos (by rw [rngOk_of (by omega) (by omega)]; simpa using h1)]
  rfl
theorem upto_len (n : Nat) : (upto n).length = n := by simp [upto]
theorem upto_mem {n : Nat} {k : Int} : k ∈ upto n ↔ 0 ≤ k ∧ k < n := by
  unfold upto
  rw [List.mem_map]
  constructor
  · rintro ⟨j, hj, rfl⟩
    rw [List.mem_range] at hj
    omega
  · intro h
    exact ⟨k.toNat, List.mem_range.mpr (by omega), by omega⟩
theorem upto_up (n : Nat) : (upto n).Pairwise (· < ·) := by
  unfold upto
  rw [List.pairwise_map]
  exact List.pairwise_lt_range.imp fun h => by omega
theorem upto_nodup (n : Nat) : (upto n).Nodup := (upto_up n).imp fun h => by omega
theorem sort_upto {ns : List Int} {n : Nat} (h : ns.Perm (upto n)) : sortI ns = upto n := (sortI_of h.symm ((upto_up n).imp fun h => by omega)).symm
/-- an order of n -/
def isOrdD (n : Nat) (d : D) : Bool := match d with
  | .lst ds => decide (ds.length = n) && ds.all (fun d => isFromD d 0 ((n : Int) - 1)) && (match intsOf ds with | some ns => decide (sortI ns = upto n) | none => false)
  | _ => false
theorem ints_of_all {lo hi : Int} : ∀ {ds : List D}, ds.all (fun d => isFromD d lo hi) = true → ∃ ns : List Int, ds = ns.map .int
  | [], _ => ⟨[], rfl⟩
  | d :: ds, h => by
    rw [List.all_cons, Bool.and_eq_true] at h
    obtain ⟨ns, rfl⟩ := ints_of_all h.2
    cases d <;> first
      | (have := h.1; simp [isFromD] at this; done)
      | exact ⟨_ :: ns, rfl⟩
theorem ord_true {ns : List Int} {n : Nat} (h : ns.Perm (upto n)) : isOrdD n (.lst (ns.map .int)) = true := by
  have hl : ns.length = n := by rw [h.length_eq, upto_len]
  have ha : (ns.map D.int).all (fun d => isFromD d 0 ((n : Int) - 1)) = true := by
    rw [List.all_eq_true]
    intro d m
    obtain ⟨k, hk, rfl⟩ := List.mem_map.mp m
    have := upto_mem.mp (h.mem_iff.mp hk)
    simp [isFromD]
    omega
  simp only [isOrdD, List.length_map, hl, decide_true, ha, intsOf_map, sort_upto h, Bool.and_self]
theorem ord_len {ds : List D} {n : Nat} (h : ds.length ≠ n) : isOrdD n (.lst ds) = false := by
  simp [isOrdD, h]
theorem ord_item {ds : List D} {n : Nat} {d : D} (h : d ∈ ds) (k : isFromD d 0 ((n : Int) - 1) = false) : isOrdD n (.lst ds) = false := by
  have : ds.all (fun d => isFromD d 0 ((n : Int) - 1)) = false := by
    rw [List.all_eq_false]
    exact ⟨d, h, by simp [k]⟩
  simp [isOrdD, this]
theorem ord_dup {ns : List Int} {n : Nat} (h : ¬ ns.Nodup) : isOrdD n (.lst (ns.map .int)) = false := by
  have : sortI ns ≠ upto n := fun z => h ((sortI_perm ns).nodup_iff.mp (by rw [z]; exact upto_nodup n))
  simp [isOrdD, intsOf_map, this]
end Dl

set_option Elab.async false
set_option linter.all false
set_option maxRecDepth 100000
set_option maxHeartbeats 1000000
namespace Dl
open PySem PySem.Spec L2
open PyProof.Rows hiding St

/-! ## list(range(a, b, step)), the step positive -/
/-- i, i + c, .. (n of them) -/
def stepV (i c : Int) (n : Nat) : List V := (List.range n).map fun k => V.int (i + (k : Nat) * c)
def stepD (i c : Int) (n : Nat) : List D := (List.range n).map fun k => D.int (i + (k : Nat) * c)
theorem stepV_rp {K : PySem.W.Frag} {F : Hp} (i c : Int) (n : Nat) : RpL K F (stepD i c n) (stepV i c n) := by
  unfold stepD stepV
  generalize List.range n = l
  induction l with
  | nil => exact .nil
  | cons a l ih => exact .cons rp_int ih
theorem stepV_length (i c : Int) (n : Nat) : (stepV i c n).length = n := by unfold stepV; rw [List.length_map, List.length_range]
theorem vals_step {i c : Int} {n : Nat} {acc : Array Value} (h : ItemsOf (fun k v => ∃ t, v = .int (i + k * c) t) acc n) : Vals (stepV i c n) acc.toList := by
  have e : acc.toList.length = n := by rw [Array.length_toList]; exact h.1
  unfold stepV
  rw [← e]
  refine vals_of_get acc.toList _ fun j u hj => ?_
  obtain ⟨t, rfl⟩ := h.2 j u (by rw [← hj, Array.getElem?_toList])
  exact ⟨t, rfl⟩
def rLstRg3 : List V → Hp → VK → Prop := fun vs H Q => ∃ (i j c : Int) (n : Nat), vs = [.int i, .int j, .int c] ∧ RgC i j c n ∧ n ≤ 2 ^ 24 ∧ ∀ q, H q = none → Q (.ref q) (upd H q (.lst (stepV i c n)))
theorem pe_listRg3 {X : Cx} {a b c : Expr} {ta : TA} {p p2 pos pos2 : Pos} (hc : X.calm = true) (hgl : Gl X "list") (hml : X.mg "list" = none) (hg : Gl X "range") (hm : X.mg "range" = none) (ha : PA X [a, b, c] ta)
    (na : starEach [.Call (.Name "range" p) [a, b, c] [] pos] X.env = (false, eval (.Call (.Name "range" p) [a, b, c] [] pos) X.env) :: starEach [] X.env := by rfl)
    (hs : starEach [a, b, c] X.env = (false, eval a X.env) :: starEach [b, c] X.env := by rfl) (hpl : (backTo pos (starEach [b, c] X.env)).any (·.1) = false := by rfl) :
    PE X (.Call (.Name "list" p2) [.Call (.Name "range" p) [a, b, c] [] pos] [] pos2) (tCB rLstRg3 ta) := by
  refine ⟨fun pins s σ H Q I h => ?_⟩
  have key : wpAny (model X.prog X.w) X.A (eval (.Call (.Name "range" p) [a, b, c] [] pos) X.env) (fun x s' => ∃ (r : Addr) (i j k : Int) (n : Nat) (t u v : Tok) (H' : Hp), x = .ref r ∧ IsRange s'.heap r i j k t u v ∧ Inv X pins σ H' s' ∧ RgC i j k n ∧ n ≤ 2 ^ 24 ∧ ∀ q, H' q = none → Q (.ref q) (upd H' q (.lst (stepV i k n)))) X.xe s := by
    refine Call_ (ld_blt I hg hm boot_range (PyProof.Rows.callWith_type1 (thn (ha.run pos pins s σ H _ I h) fun us s1 ⟨vs, H1, I1, r1, q1⟩ => ?_) hs hpl))
    obtain ⟨i, j, k, n, e, ⟨c0, c1, c2, c3⟩, hn, q⟩ := q1
    subst e
    cases r1 with
    | cons r rr =>
      cases rr with
      | cons r' rr =>
        cases rr with
        | cons r'' rr =>
          cases rr
          obtain ⟨t, rfl⟩ := r
          obtain ⟨t', rfl⟩ := r'
          obtain ⟨t'', rfl⟩ := r''
          refine call_range_3 c0 ?_ (.inl (PyProof.noPylong_small c1))
          exact ⟨_, i, j, k, n, _, _, _, H1, rfl, IsRange.new _ _ _ _ _ _ _, I1.kept (t' := s1.toks) fun b u e => Heap.get?_push_of_some _ e, ⟨c0, c1, c2, c3⟩, hn, q⟩
  refine Call_ (ld_blt I hgl hml boot_list (PyProof.Rows.callWith_type1 (args_cons (thn key fun x s1 ⟨r, i, j, k, n, t, u, v, H1, ex, hr, I1, ok, hn, q⟩ => args_nil ?_) na) na))
  subst ex
  obtain ⟨c0, c1, c2, c3⟩ := ok
  refine call_list_range (n := n) (I1.ok.hd hc) hr c2 c3 hn fun h' tk acc c' hk e' hi => ?_
  refine ⟨.ref s1.heap.objs.size, upd H1 s1.heap.objs.size (.lst (stepV i k n)), I1.laid hk (Nat.le_refl _) (show ObjOk X.prog X.w _ _ _ (.lst (stepV i k n)) from ⟨?_, acc.toList, c', vals_step hi, ?_⟩), rfl, q _ (I1.hok.fresh (Nat.le_refl _))⟩
  · rw [stepV_length, sizeLine_eq]; omega
  · rw [Array.toArray_toList]; exact e'
def gRg3 : List D → Option B := fun ds => match ds with
  | [.int i, .int j, .int c] => if (rngOk i && rngOk j && decide (1 ≤ c) && decide (c < 1073741824) && decide (j - i ≤ 16777216)) = true then some (.own (stepD i c (if i < j then ((j - i - 1) / c + 1).toNat else 0))) else none
  | _ => none
theorem div_le_self' {x c : Int} (h : 0 ≤ x) (hc : 1 ≤ c) : 0 ≤ x / c ∧ x / c ≤ x := by
  refine ⟨Int.ediv_nonneg h (by omega), ?_⟩
  have := Int.ediv_mul_le x (b := c) (by omega)
  have h2 : 0 ≤ x / c := Int.ediv_nonneg h (by omega)
  have h3 : x / c * 1 ≤ x / c * c := Int.mul_le_mul_of_nonneg_left hc h2
  omega
theorem rgC_pos {i j c : Int} (hi : -(2 ^ 62) ≤ i) (hi' : i < 2 ^ 62) (hj : -(2 ^ 62) ≤ j) (hj' : j < 2 ^ 62) (hc : 1 ≤ c) (hc' : c < 1073741824) : RgC i j c (if i < j then ((j - i - 1) / c + 1).toNat else 0) := by
  have hp : c > 0 := by omega
  have hs : Builtin.Range.rangeSize i j c = ((if i < j then ((j - i - 1) / c + 1).toNat else 0 : Nat) : Int) := by
    unfold Builtin.Range.rangeSize
    rw [if_pos hp]
    by_cases h : i < j
    · rw [if_pos h, if_pos h]
      have := (div_le_self' (x := j - i - 1) (c := c) (by omega) hc).1
      omega
    · rw [if_neg h, if_neg h]; rfl
  refine ⟨by omega, by omega, ?_, hs⟩
  unfold Builtin.Range.small
  have hn : (if i < j then ((j - i - 1) / c + 1).toNat else 0 : Nat) ≤ 2 ^ 63 - 1 := by
    split
    · have := (div_le_self' (x := j - i - 1) (c := c) (by omega) hc)
      omega
    · omega
  rw [hs]
  generalize (if i < j then ((j - i - 1) / c + 1).toNat else 0 : Nat) = n at hn
  simp only [Builtin.Range.rangeFitsLong, Bool.and_eq_true, Bool.or_eq_true, decide_eq_true_eq, beq_iff_eq, if_pos hp]
  refine ⟨⟨⟨⟨by omega, by omega⟩, by omega⟩, by omega⟩, .inr (by omega)⟩
theorem vl_rg3 {K : PySem.W.Frag} {T : List (Addr × Str)} : VL K T rLstRg3 gRg3 := by
  intro F H A ρ σ ds vs b Q s r p e f
  unfold gRg3 at e
  split at e
  · rename_i i j c
    split at e
    · rename_i hg
      cases e
      cases p with
      | cons h1 p =>
        cases p with
        | cons h2 p =>
          cases p with
          | cons h3 p =>
            cases p
            rw [top_int h1, top_int h2, top_int h3]
            simp only [Bool.and_eq_true, decide_eq_true_eq] at hg
            obtain ⟨⟨⟨⟨g1, g2⟩, g3⟩, g4⟩, g5⟩ := hg
            obtain ⟨a1, a2⟩ := rngOk_iff g1
            obtain ⟨b1, b2⟩ := rngOk_iff g2
            refine ⟨i, j, c, _, rfl, rgC_pos a1 a2 b1 b2 g3 g4, ?_, f.lst s r (stepV_rp i c _)⟩
            split
            · have := (div_le_self' (x := j - i - 1) (c := c) (by omega) g3)
              omega
            · omega
    · cases e
  · cases e
section
variable {X : Fam} {T : List (Addr × Str)} {W : WX}
theorem de_rg3 {a b c : Expr} {f : FA} {p p2 pos pos2 : Pos} (h : DA X T W [a, b, c] f) (hc : ∀ i, (X.at_ i).calm = true) (hgl : ∀ i, Gl (X.at_ i) "list") (hml : ∀ i, (X.at_ i).mg "list" = none) (hgr : ∀ i, Gl (X.at_ i) "range") (hmr : ∀ i, (X.at_ i).mg "range" = none)
    (na : ∀ i, starEach [.Call (.Name "range" p) [a, b, c] [] pos] (X.at_ i).env = (false, eval (.Call (.Name "range" p) [a, b, c] [] pos) (X.at_ i).env) :: starEach [] (X.at_ i).env := by intro _; rfl)
    (hs : ∀ i, starEach [a, b, c] (X.at_ i).env = (false, eval a (X.at_ i).env) :: starEach [b, c] (X.at_ i).env := by intro _; rfl) (hpl : ∀ i, (backTo pos (starEach [b, c] (X.at_ i).env)).any (·.1) = false := by intro _; rfl) :
    DE X T W (.Call (.Name "list" p2) [.Call (.Name "range" p) [a, b, c] [] pos] [] pos2) (cCB gRg3 f) := by
  obtain ⟨t, pa, s⟩ := h
  exact ⟨_, fun i => pe_listRg3 (hc i) (hgl i) (hml i) (hgr i) (hmr i) (pa i) (na i) (hs i) (hpl i), fun σ F H A ρ Q a p => runCB vl_rg3 s a p⟩
end
end Dl

set_option Elab.async false
set_option linter.all false
set_option maxRecDepth 100000
set_option maxHeartbeats 1000000
namespace Dl
open PySem PySem.Spec L2
open PyProof.Rows hiding St

/-! ## dicts whose keys are tuples of ints -/
/-- no tuple of the written part begins with an int -/
def NoIT (K : PySem.W.Frag) : Prop := ∀ a o (its : Array Value) (n : Nat), K.lookup a = some o → o.cls = .type "tuple" → o.data = .seq its n → ∀ i t, its.toList.head? ≠ some (.int i t)
def nitV : Option Value → Bool
  | some (.int _ _) => false
  | _ => true
def nitO (o : Obj) : Bool := match o.cls, o.data with
  | .type "tuple", .seq its _ => nitV its.toList.head?
  | _, _ => true
def nitB (K : PySem.W.Frag) : Bool := K.all fun p => nitO p.2
theorem lookup_mem {α β : Type} [BEq α] [LawfulBEq α] {l : List (α × β)} {a : α} {b : β} (h : l.lookup a = some b) : (a, b) ∈ l := by
  induction l with
  | nil => cases h
  | cons p l ih =>
    obtain ⟨a', b'⟩ := p
    rw [List.lookup_cons] at h
    split at h
    · rename_i e
      have := eq_of_beq e
      subst this
      cases h
      exact List.mem_cons_self
    · exact List.mem_cons_of_mem _ (ih h)
theorem nitB_ok {K : PySem.W.Frag} (h : nitB K = true) : NoIT K := by
  intro a o its n hl hc hd i t e
  have q := List.all_eq_true.mp h _ (lookup_mem hl)
  obtain ⟨oc, od, dat, sl⟩ := o
  dsimp only at hc hd
  subst hc hd
  have q : nitV its.toList.head? = true := q
  rw [e] at q
  cases q
section
variable {K : PySem.W.Frag} {F H : Hp}
theorem rpL_intsV : ∀ {ns : List Int} {xs : List V}, RpL K F (ns.map .int) xs → xs = ns.map V.int
  | [], xs, h => h
  | n :: ns, xs, h => by
    obtain ⟨v, ws, rfl, r, t⟩ := h
    rw [rpL_intsV t]
    have r : v = .int n := r
    rw [r]
    rfl
/-- a tuple of ints, one at least, is a tuple of the heap's -/
theorem key_real (nt : NoIT K) (nb : NoTb F) {ns : List Int} {v : V} (h : Rp K F (.tup (ns.map .int)) v) (h0 : ns ≠ []) : ∃ b, v = .ref b ∧ F b = some (.tup (ns.map V.int)) := by
  unfold Rp at h
  obtain ⟨b, xs, rfl, sq, rl⟩ := h
  have ex := rpL_intsV rl
  subst ex
  refine ⟨b, rfl, ?_⟩
  rcases sq with (z | ⟨o, z⟩) | ⟨o, its, m, z1, z2, z3, _, z5⟩
  · exact z
  · exact absurd z (nb.2 b o _)
  · cases ns with
    | nil => exact absurd rfl h0
    | cons n ns =>
      exfalso
      rw [List.map_cons] at z5
      cases hx : its.toList with
      | nil =>
        rw [hx] at z5
        cases z5
      | cons u us =>
        rw [hx] at z5
        cases z5 with
        | cons r _ =>
          obtain ⟨t, rfl⟩ := r
          exact nt b o its m z1 z2 z3 _ t (by rw [hx]; rfl)
end
def keyI (ns : List Int) : List Key := ns.map Sum.inl
theorem keyI_kV (ns : List Int) : (keyI ns).map kV = ns.map V.int := by
  unfold keyI
  rw [List.map_map]
  rfl
/-- the key that a datum is -/
def tupI : D → Option (List Int)
  | .tup ds => match intsOf ds with
    | some (n :: ns) => some (n :: ns)
    | _ => none
  | _ => none
theorem intsOf_inv {ds : List D} {ns : List Int} (h : intsOf ds = some ns) : ds = ns.map .int := by
  induction ds generalizing ns with
  | nil =>
    cases h
    rfl
  | cons d ds ih =>
    cases d <;> simp only [intsOf] at h <;> first | cases h | skip
    rename_i j
    cases q : intsOf ds with
    | none =>
      rw [q] at h
      cases h
    | some ms =>
      rw [q] at h
      cases h
      rw [ih q]
      rfl
theorem tupI_eq {d : D} {ns : List Int} (h : tupI d = some ns) : d = .tup (ns.map .int) ∧ ns ≠ [] := by
  cases d <;> simp only [tupI] at h <;> first | cases h | skip
  rename_i ds
  split at h
  · rename_i n ms e
    cases h
    exact ⟨by rw [intsOf_inv e], by simp⟩
  · cases h
/-! values under keys -/
def valT (kvs : List (List Key × D)) (k : List Key) : Option D := (kvs.find? fun kv => decide (kv.1 = k)).map (·.2)
def putT (kvs : List (List Key × D)) (k : List Key) (d : D) : List (List Key × D) :=
  if (kvs.any fun kv => decide (kv.1 = k)) = true then kvs.map (fun kv => if kv.1 = k then (kv.1, d) else kv) else kvs ++ [(k, d)]
section
variable {K : PySem.W.Frag} {F : Hp}
theorem rpT_nil {ys : List (List Key × V)} (h : RpT K F [] ys) : ys = [] := by
  unfold RpT at h
  exact h
theorem rpT_cons {k : List Key} {d : D} {kvs : List (List Key × D)} {ys : List (List Key × V)} (h : RpT K F ((k, d) :: kvs) ys) : ∃ v ws, ys = (k, v) :: ws ∧ Rp K F d v ∧ RpT K F kvs ws := by
  unfold RpT at h
  exact h
theorem RpT.mk {k : List Key} {d : D} {v : V} {kvs : List (List Key × D)} {ys : List (List Key × V)} (r : Rp K F d v) (h : RpT K F kvs ys) : RpT K F ((k, d) :: kvs) ((k, v) :: ys) := by
  unfold RpT
  exact ⟨v, ys, rfl, r, h⟩
theorem RpT.emp : RpT K F [] [] := by
  unfold RpT
  rfl
theorem RpT.len : ∀ {kvs : List (List Key × D)} {ys : List (List Key × V)}, RpT K F kvs ys → ys.length = kvs.length
  | [], ys, h => by rw [rpT_nil h]; rfl
  | (k, d) :: kvs, ys, h => by
    obtain ⟨v, ws, rfl, _, t⟩ := rpT_cons h
    rw [List.length_cons, List.length_cons, t.len]
theorem RpT.val (k : List Key) : ∀ {kvs : List (List Key × D)} {ys : List (List Key × V)}, RpT K F kvs ys → (valT kvs k = none ∧ valV ys k = none) ∨ ∃ d v, valT kvs k = some d ∧ valV ys k = some v ∧ Rp K F d v
  | [], ys, h => by
    rw [rpT_nil h]
    exact .inl ⟨rfl, rfl⟩
  | (k', d) :: kvs, ys, h => by
    obtain ⟨v, ws, rfl, r, t⟩ := rpT_cons h
    by_cases e : k' = k
    · exact .inr ⟨d, v, by simp [valT, e], by simp [valV, e], r⟩
    · have e1 : valT ((k', d) :: kvs) k = valT kvs k := by simp [valT, e]
      have e2 : valV ((k', v) :: ws) k = valV ws k := by simp [valV, e]
      rw [e1, e2]
      exact t.val k
theorem RpT.app {k : List Key} {d : D} {v : V} (r : Rp K F d v) : ∀ {kvs : List (List Key × D)} {ys : List (List Key × V)}, RpT K F kvs ys → RpT K F (kvs ++ [(k, d)]) (ys ++ [(k, v)])
  | [], ys, h => by
    rw [rpT_nil h]
    exact .mk r .emp
  | (k', d') :: kvs, ys, h => by
    obtain ⟨v', ws, rfl, r', t⟩ := rpT_cons h
    exact .mk r' (t.app r)
theorem RpT.upd {k : List Key} {d : D} {v : V} (r : Rp K F d v) : ∀ {kvs : List (List Key × D)} {ys : List (List Key × V)}, RpT K F kvs ys → RpT K F (kvs.map fun kv => if kv.1 = k then (kv.1, d) else kv) (ys.map fun kv => if kv.1 = k then (kv.1, v) else kv) ∧ (kvs.any fun kv => decide (kv.1 = k)) = (ys.any fun kv => decide (kv.1 = k))
  | [], ys, h => by
    rw [rpT_nil h]
    exact ⟨.emp, rfl⟩
  | (k', d') :: kvs, ys, h => by
    obtain ⟨v', ws, rfl, r', t⟩ := rpT_cons h
    obtain ⟨u1, u2⟩ := t.upd (k := k) r
    refine ⟨?_, by rw [List.any_cons, List.any_cons, u2]⟩
    rw [List.map_cons, List.map_cons]
    by_cases e : k' = k
    · rw [if_pos e, if_pos e]
      exact .mk r u1
    · rw [if_neg e, if_neg e]
      exact .mk r' u1
theorem RpT.put {k : List Key} {d : D} {v : V} {kvs : List (List Key × D)} {ys : List (List Key × V)} (h : RpT K F kvs ys) (r : Rp K F d v) : RpT K F (putT kvs k d) (putK ys k v) := by
  obtain ⟨u1, u2⟩ := h.upd (k := k) r
  unfold putT putK
  rw [u2]
  split
  · exact u1
  · exact h.app r
end
def odtOf (ρ : Ev) (i : Nat) : Option (List (List Key × D)) := match ρ[i]? with
  | some (.odt kvs) => some kvs
  | _ => none
theorem odtOf_some {ρ : Ev} {i : Nat} {kvs : List (List Key × D)} (h : odtOf ρ i = some kvs) : ρ[i]? = some (.odt kvs) := by
  unfold odtOf at h
  split at h
  · rename_i e
    cases h
    exact e
  · cases h
/-- owned or frozen -/
def dtAt (ρ : Ev) (i : Nat) : Option (List (List Key × D)) := match ρ[i]? with
  | some (.odt kvs) => some kvs
  | some (.dat (.dt kvs)) => some kvs
  | _ => none
theorem dtAt_rep {K : PySem.W.Frag} {F H : Hp} {ρ : Ev} {σ : St} {A : List Addr} (s : Sub F H) (h : RepS K F H ρ σ A) {i : Nat} {kvs : List (List Key × D)} (e : dtAt ρ i = some kvs) :
    ∃ l ys, σ[i]? = some (some (.ref l)) ∧ H l = some (.dT ys) ∧ RpT K F kvs ys := by
  unfold dtAt at e
  split at e
  · rename_i z
    cases e
    obtain ⟨l, xs, es, _, el, _, rl, _⟩ := h.odtAt z
    exact ⟨l, xs, es, el, rl⟩
  · rename_i z
    cases e
    obtain ⟨sv, ft, es, ⟨_, v, rfl, r⟩, _⟩ := h.get z
    unfold Rp at r
    obtain ⟨l, ys, rfl, el, rl⟩ := r
    exact ⟨l, ys, es, s _ _ el, rl⟩
  · cases e
def sDt (i : Nat) (f fj : FE) : FS := fun ρ => (cO f ρ).out fun p => (ofO (odtOf p.2 i)).out fun _ => (cO fj p.2).out fun q => (ofO (odtOf q.2 i)).out fun kvs => match p.1, q.1 with
  | .val d, .val k => (ofO (tupI k)).out fun ns => if kvs.length < 1000000 then .nx (q.2.set i (.odt (putT kvs (keyI ns) d))) else .stuck
  | _, _ => .stuck
section
variable {X : Fam} {T : List (Addr × Str)} {W : WX} {P : List Nat}
theorem ds_dt (nit : NoIT X.K) (i : Nat) {x : Str} {e ej : Expr} {f fj : FE} {pos p1 p2 : Pos} (hu : ∀ j, (X.at_ j).A.units + 65 < cLine) (h : DE X T W e f) (hj : DE X T W ej fj) (hN : ∀ j, (X.at_ j).N[i]? = some x := by intro _; rfl) (hv : ∀ j, Vis (X.at_ j).env.scope x := by intro _; first | exact Or.inl rfl | exact Or.inr (Or.inl rfl) | exact Or.inr (Or.inr rfl))
    (hd : (x == ("__debug__" : Str)) = false := by decide) (hcd : (x == ("__classdict__" : Str)) = false := by decide)
    (hs : ∀ j, swapsWith e (some (.Subscript (.Name x p1) ej p2)) pos.line (X.at_ j).env = pure false := by intro _; rfl) : DS X T W P (.Assign [.Subscript (.Name x p1) ej p2] e pos) (sDt i f fj) := by
  obtain ⟨t, pe, s⟩ := do_e h
  obtain ⟨tj, pj, sj⟩ := do_e hj
  refine ⟨sDPut (tVar i) tj t, fun j => ps_dput (by have := hu j; omega) (pe_var (hN j) (hv j) hd hcd) (pj j) (pe j) (hs j), fun hps σ F H A ρ E a p => s σ F H A ρ _ a ?_⟩
  refine p.out.imp fun o ρ1 F1 H1 A1 g1 p1 v r1 o1 => ?_
  have at1 := a.next g1 r1
  obtain ⟨ds0, e0, p1⟩ := p1.opt
  obtain ⟨l0, _, es, _⟩ := r1.odtAt (odtOf_some e0)
  refine ⟨_, es, sj σ F1 H1 A1 ρ1 _ at1 ?_⟩
  refine p1.out.imp fun oj ρ2 F2 H2 A2 g2 p2 vj r2 o2 => ?_
  obtain ⟨kvs, e2, p3⟩ := p2.opt
  cases o with
  | var _ => exact p3.elim
  | val d =>
    cases oj with
    | var _ => exact p3.elim
    | val k =>
      obtain ⟨ns, e3, p4⟩ := p3.opt
      split at p4
      · rename_i hlt
        obtain ⟨l, xs, es', lA, el, nl, rl, k2⟩ := r2.odtAt (odtOf_some e2)
        rw [es] at es'
        cases es'
        obtain ⟨ek, n0⟩ := tupI_eq e3
        subst ek
        obtain ⟨b, rfl, fb⟩ := key_real nit (g2.ntb at1.ntb) o2 n0
        have od : Rp X.K F2 d v := Rp.mono g2.kF d o1
        have hb : H2 b = some (.tup ((keyI ns).map kV)) := by
          rw [keyI_kV]
          exact g2.sub _ _ fb
        refine ⟨l0, _, rfl, DPut.t el hb (by rw [rl.len, sizeLine_eq]; omega), ?_⟩
        exact p4.nowN (Go.write g2.sub lA nl el (fun _ z => by cases z) (fun _ z => by cases z)) (k2 _ _ (rl.put od)) (Keep.refl P σ)
      · exact p4.elim
/-- d[k] -/
def cTIx (i : Nat) (fj : FE) : FE := fun ρ => ofO (dtAt ρ i) >>= fun _ => cO fj ρ >>= fun q => ofO (dtAt q.2 i) >>= fun kvs => match q.1 with
  | .val k => ofO (tupI k) >>= fun ns => ofO (valT kvs (keyI ns)) >>= fun d => .ok (.dat d, q.2)
  | .var _ => .stuck
theorem de_tix (nit : NoIT X.K) (i : Nat) {x : Str} {ej : Expr} {fj : FE} {pos p1 : Pos} (hu : ∀ j, (X.at_ j).A.units + 65 < cLine) (hj : DE X T W ej fj) (hN : ∀ j, (X.at_ j).N[i]? = some x := by intro _; rfl) (hv : ∀ j, Vis (X.at_ j).env.scope x := by intro _; first | exact Or.inl rfl | exact Or.inr (Or.inl rfl) | exact Or.inr (Or.inr rfl))
    (hd : (x == ("__debug__" : Str)) = false := by decide) (hcd : (x == ("__classdict__" : Str)) = false := by decide) (hs : NoSl ej := by intro _ _; rfl) : DE X T W (.Subscript (.Name x p1) ej pos) (cTIx i fj) := by
  obtain ⟨tj, pj, sj⟩ := do_e hj
  refine ⟨tDGet (tVar i) tj, fun j => pe_dget (by have := hu j; omega) (pe_var (hN j) (hv j) hd hcd) (pj j) hs, fun σ F H A ρ Q a p => ?_⟩
  obtain ⟨ds0, e0, p⟩ := p.opt
  obtain ⟨l0, _, es, _⟩ := dtAt_rep a.sub a.rep e0
  refine ⟨_, es, sj σ F H A ρ _ a ?_⟩
  refine p.bind.imp fun oj ρ2 F2 H2 A2 g2 p2 vj r2 o2 => ?_
  obtain ⟨kvs, e2, p3⟩ := p2.opt
  cases oj with
  | var _ => exact p3.elim
  | val k =>
    obtain ⟨ns, e3, p4⟩ := p3.opt
    obtain ⟨d, e6, p5⟩ := p4.opt
    obtain ⟨l, ys, es', el, rl⟩ := dtAt_rep g2.sub r2 e2
    rw [es] at es'
    cases es'
    obtain ⟨ek, n0⟩ := tupI_eq e3
    subst ek
    obtain ⟨b, rfl, fb⟩ := key_real nit (g2.ntb a.ntb) o2 n0
    have hb : H2 b = some (.tup ((keyI ns).map kV)) := by
      rw [keyI_kV]
      exact g2.sub _ _ fb
    rcases rl.val (keyI ns) with ⟨z, _⟩ | ⟨d', v, z1, z2, z3⟩
    · rw [z] at e6
      cases e6
    · rw [z1] at e6
      cases e6
      refine ⟨l0, v, rfl, ?_, p5.now (Go.refl g2.sub) v (r2.dat z3)⟩
      have := DGet.t (k := keyI ns) el hb
      rw [z2] at this
      exact this
/-- d.get(k, z) -/
def cTGt (i : Nat) (fj fz : FE) : FE := fun ρ => ofO (dtAt ρ i) >>= fun _ => cO fj ρ >>= fun q => cO fz q.2 >>= fun u => ofO (dtAt u.2 i) >>= fun kvs => match q.1, u.1 with
  | .val k, .val z => ofO (tupI k) >>= fun ns => .ok (.dat ((valT kvs (keyI ns)).getD z), u.2)
  | _, _ => .stuck
theorem de_tgt (nit : NoIT X.K) (i : Nat) {x : Str} {ej ez : Expr} {fj fz : FE} {apos cpos p1 : Pos} (hu : ∀ j, (X.at_ j).A.units + 65 < cLine) (hj : DE X T W ej fj) (hz : DE X T W ez fz) (hN : ∀ j, (X.at_ j).N[i]? = some x := by intro _; rfl) (hv : ∀ j, Vis (X.at_ j).env.scope x := by intro _; first | exact Or.inl rfl | exact Or.inr (Or.inl rfl) | exact Or.inr (Or.inr rfl))
    (hd : (x == ("__debug__" : Str)) = false := by decide) (hcd : (x == ("__classdict__" : Str)) = false := by decide) (hm : ∀ j, M2 (X.at_ j) (.Name x p1) "get" apos ej ez cpos := by intro _; exact ⟨rfl, rfl, rfl, rfl⟩) : DE X T W (.Call (.Attribute (.Name x p1) "get" apos) [ej, ez] [] cpos) (cTGt i fj fz) := by
  obtain ⟨tj, pj, sj⟩ := do_e hj
  obtain ⟨tz, pz, sz⟩ := do_e hz
  refine ⟨tDGet2 (tVar i) tj tz, fun j => pe_dget2 (by have := hu j; omega) (pe_var (hN j) (hv j) hd hcd) (pj j) (pz j) (hm j), fun σ F H A ρ Q a p => ?_⟩
  obtain ⟨ds0, e0, p⟩ := p.opt
  obtain ⟨l0, xs0, es, el0, _⟩ := dtAt_rep a.sub a.rep e0
  refine ⟨_, es, l0, rfl, .inr ⟨_, .inl el0⟩, sj σ F H A ρ _ a ?_⟩
  refine p.bind.imp fun oj ρ1 F1 H1 A1 g1 p1 vj r1 o1 => ?_
  have at1 := a.next g1 r1
  refine sz σ F1 H1 A1 ρ1 _ at1 ?_
  refine p1.bind.imp fun oz ρ2 F2 H2 A2 g2 p2 vz r2 o2 => ?_
  obtain ⟨kvs, e2, p3⟩ := p2.opt
  cases oj with
  | var _ => exact p3.elim
  | val k =>
    cases oz with
    | var _ => exact p3.elim
    | val z =>
      obtain ⟨ns, e3, p4⟩ := p3.opt
      obtain ⟨l, ys, es', el, rl⟩ := dtAt_rep g2.sub r2 e2
      rw [es] at es'
      cases es'
      obtain ⟨ek, n0⟩ := tupI_eq e3
      subst ek
      obtain ⟨b, rfl, fb⟩ := key_real nit at1.ntb o1 n0
      have hb : H2 b = some (.tup ((keyI ns).map kV)) := by
        rw [keyI_kV]
        exact g2.sub _ _ (g2.kF _ _ fb)
      refine ⟨_, DGet.t el hb, ?_⟩
      rcases rl.val (keyI ns) with ⟨z1, z2⟩ | ⟨d', v, z1, z2, z3⟩
      · rw [z1] at p4
        rw [z2]
        exact p4.now (Go.refl g2.sub) vz (r2.dat o2)
      · rw [z1] at p4
        rw [z2]
        exact p4.now (Go.refl g2.sub) v (r2.dat z3)
/-- {} -/
def cDnewT : FE := fun ρ => .ok (.odt [], ρ)
theorem de_dnewT {pos : Pos} : DE X T W (.Dict [] [] pos) cDnewT := by
  refine ⟨_, fun _ => pe_dnewT, fun σ F H A ρ Q a p => ?_⟩
  intro d hd
  have f : Fin X.K T F H A ρ σ (.odt []) Q := fun v F' H' A' g r => p.now g v r
  exact f.dt a.sub a.rep .emp d hd
/-- an owned dict that is named once more: from now on it stays as it is -/
def cShare (i : Nat) : FE := fun ρ => ofO (odtOf ρ i) >>= fun kvs => .ok (.dat (.dt kvs), ρ.set i (.dat (.dt kvs)))
theorem de_share (i : Nat) {x : Str} {p1 : Pos} (hN : ∀ j, (X.at_ j).N[i]? = some x := by intro _; rfl) (hv : ∀ j, Vis (X.at_ j).env.scope x := by intro _; first | exact Or.inl rfl | exact Or.inr (Or.inl rfl) | exact Or.inr (Or.inr rfl))
    (hd : (x == ("__debug__" : Str)) = false := by decide) (hcd : (x == ("__classdict__" : Str)) = false := by decide) : DE X T W (.Name x p1) (cShare i) := by
  refine ⟨tVar i, fun j => pe_var (hN j) (hv j) hd hcd, fun σ F H A ρ Q a p => ?_⟩
  obtain ⟨kvs, e0, p⟩ := p.opt
  have e1 := odtOf_some e0
  obtain ⟨l, xs, es, _⟩ := a.rep.odtAt e1
  obtain ⟨A1, r1, m1, _⟩ := a.rep.takeOut e1 es
  obtain ⟨v, F2, A2, ev, g2, r2, rv⟩ := freeze (T := T) (d := .dt kvs) r1 a.sub rfl
  cases ev
  obtain ⟨A3, r3, m3⟩ := (r2.dat rv).putBack es
  rw [List.set_set] at r3
  refine ⟨_, es, p.now (((Go.refl a.sub).less m1).trans (g2.less m3)) _ (r3.dat rv)⟩
end
end Dl

set_option Elab.async false
set_option linter.all false
set_option maxRecDepth 100000
set_option maxHeartbeats 1000000
namespace Dl
open PySem PySem.Spec L2
open PyProof.Rows hiding St

/-! ## {t: v}, t a tuple of ints -/
section
variable {prog : Program} {w : World} {A : Around} {E : Value → Shared → Prop} {s : Shared}
theorem subDict_one {pr : Sem Value × Sem Value} {Q : Addr → Shared → Prop}
    (h : wpAny (model prog w) A (evalPairs [pr]) (fun vs s1 => ∃ key v, vs = [(key, v)] ∧ wpAny (model prog w) A (dictSet s.heap.objs.size key v) (fun _ s2 => Q s.heap.objs.size s2) E s1) E
      { s with heap := s.heap.push { cls := .type "dict", data := .dict #[] } }) : wpAny (model prog w) A (subDict [pr]) Q E s := by
  unfold subDict
  refine wpAny_bind (wpAny_alloc (wpAny_bind (wpAny_holding ?_)))
  rw [if_pos (show [pr].length ≤ 15 by show 1 ≤ 15; decide)]
  refine wpAny_bind (wpAny_mono h (fun vs s1 h1 => ?_) fun _ _ z => z)
  obtain ⟨key, v, ev, q⟩ := h1
  subst ev
  refine wpAny_holding (wpAny_bind ?_)
  rw [List.forIn_cons]
  refine wpAny_bind (wpAny_bind (wpAny_mono q (fun _ s2 q2 => wpAny_pure ?_) fun _ _ z => z))
  show wpAny (model prog w) A (forIn ([] : List (Value × Value)) PUnit.unit _) _ E s2
  rw [List.forIn_nil]
  exact wpAny_pure (wpAny_pure (wpAny_pure q2))
theorem dict_one {env : Env} {k v : Expr} {pos : Pos} {Q : Value → Shared → Prop}
    (h : wpAny (model prog w) A (evalPairs (pairTrees [some k] [v] env pos)) (fun vs s1 => ∃ key u, vs = [(key, u)] ∧ wpAny (model prog w) A (dictSet s.heap.objs.size key u) (fun _ s2 => Q (.ref s.heap.objs.size) s2) E s1) E
      { s with heap := s.heap.push { cls := .type "dict", data := .dict #[] } }) : wpAny (model prog w) A (eval (.Dict [some k] [v] pos) env) Q E s := by
  have z := zip_pairTrees [some k] [v] env pos rfl rfl
  have ne : pairTrees [some k] [v] env pos ≠ [] := fun q => nomatch q
  rw [arm_eval_Dict, z, dictDisplay_pairs _ ne (by show 1 < 17; decide)]
  refine wpAny_bind (wpAny_standAt (wpAny_bind ?_))
  exact subDict_one (Q := fun d s' => wpAny (model prog w) A (pure (Value.ref d)) Q E s') (wpAny_mono h (fun vs s1 ⟨key, u, e, q⟩ => ⟨key, u, e, wpAny_mono q (fun _ s2 q2 => wpAny_pure q2) fun _ _ z => z⟩) fun _ _ z => z)
end
def tDispT (tk tv : TE) : TE := fun σ H Q => ∀ p, H p = none → tk σ (upd H p (.dT [])) fun x H1 => tv σ H1 fun y H2 => ∃ b ks, x = .ref b ∧ H2 p = some (.dT []) ∧ H2 b = some (.tup (ks.map kV)) ∧ Q (.ref p) (upd H2 p (.dT [(ks, y)]))
theorem pe_dispT {X : Cx} {k v : Expr} {tk tv : TE} {pos : Pos} (hu : X.A.units < cLine) (hk : PE X k tk) (hv : PE X v tv) : PE X (.Dict [some k] [v] pos) (tDispT tk tv) := by
  refine ⟨fun pins s σ H Q I h => ?_⟩
  have hn := I.hok.fresh (Nat.le_refl s.heap.objs.size)
  have I1 := I.laid (a := s.heap.objs.size) (o := .dT []) (h' := s.heap.push { cls := .type "dict", data := .dict #[] }) (t' := s.toks) (fun _ _ q => Heap.get?_push_of_some _ q) (Nat.le_refl _) (dt_empty s.heap I.big)
  refine dict_one (pairTrees_cons_walk (thn (hk.run pins _ σ _ _ I1 (h _ hn)) fun u s1 ⟨x, H1, I2, rx, q1⟩ => thn (hv.run pins s1 σ H1 _ I2 q1) fun u2 s2 ⟨y, H2, I3, ry, b, ks, ex, ep, eb, q⟩ => pairTrees_nil_walk ⟨u, u2, rfl, ?_⟩))
  subst ex
  obtain rfl : u = Value.ref b := rx
  obtain ⟨z, hd, xs, rel, dd⟩ := dt_of I3.hok ep
  cases rel
  refine wpAny_dictSet_heap (hsz := Nat.zero_le _) (show (tupleKind (mixKind X.prog X.w)).room X.A from hu) (key_of I3.hok eb) dd fun h' dd' hs => ?_
  obtain ⟨o, es, ep', ho, h2, h3, h4, _, h5⟩ := dd'
  have kt : KT H2 [(ks, y)] (storedH [] ks b u2) := KT.put (kvs := []) .nil ks eb ry
  refine ⟨.ref s.heap.objs.size, _, d_write (ob := .dT [(ks, y)]) I3 (by rw [ep]; exact True.intro) hs ⟨o, ho⟩ ⟨?_, hd, _, kt.keeps fun c ys ec => ?_, o, es, ep', ho, h2, h3, h4, h5⟩, rfl, q⟩
  · rw [sizeLine_eq]
    show 1 ≤ 16777216
    decide
  · rw [upd_ne (ne_of ec ep (fun z => nomatch z))]
    exact ec
section
variable {X : Fam} {T : List (Addr × Str)} {W : WX}
def cDisp1 (fk fv : FE) : FE := fun ρ => cO fk ρ >>= fun p => cO fv p.2 >>= fun q => match p.1, q.1 with
  | .val k, .val d => ofO (tupI k) >>= fun ns => .ok (.odt [(keyI ns, d)], q.2)
  | _, _ => .stuck
theorem de_disp1 (nit : NoIT X.K) {k v : Expr} {fk fv : FE} {pos : Pos} (hu : ∀ j, (X.at_ j).A.units + 65 < cLine) (hk : DE X T W k fk) (hv : DE X T W v fv) : DE X T W (.Dict [some k] [v] pos) (cDisp1 fk fv) := by
  obtain ⟨tk, pk, sk⟩ := do_e hk
  obtain ⟨tv, pv, sv⟩ := do_e hv
  refine ⟨tDispT tk tv, fun j => pe_dispT (by have := hu j; omega) (pk j) (pv j), fun σ F H A ρ Q a p d hd => ?_⟩
  have g0 : Go T A F H ([d] ++ A) F (upd H d (.dT [])) := Go.fresh a.sub hd
  obtain ⟨r0, nA⟩ := a.rep.fresh (o := .dT []) hd
  have fd : F d = none := fresh_F a.sub hd
  have g0' : Go T A F H A F (upd H d (.dT [])) := g0.less fun x m => List.mem_append_right _ m
  have at0 := a.next g0' r0
  -- the dict stands beside
  have bd : BRep X.K F (upd H d (.dT [])) (.odt []) (some (.ref d)) [d] := ⟨d, [], rfl, rfl, upd_same, fd, .emp⟩
  have dj0 : ∀ x ∈ [d], x ∉ A := fun x m => by
    rw [List.mem_singleton.mp m]
    exact nA
  refine sk σ F _ A ρ _ at0 ?_
  have p' := p.after g0
  unfold cDisp1 at p'
  cases q1 : cO fk ρ with
  | stuck =>
    rw [q1] at p'
    exact p'.elim
  | err x ρ1 =>
    rw [q1] at p'
    intro F1 H1 A1 cls dd g1 r1 rx
    exact p' F1 H1 A1 cls dd (g1.beside.less fun z m => List.mem_append_right _ m) r1 rx
  | ok z =>
    obtain ⟨o1, ρ1⟩ := z
    rw [q1] at p'
    simp only [ok_bind] at p'
    intro F1 H1 A1 g1 x r1 x1
    obtain ⟨b1, dj1⟩ := g1.keepB bd dj0
    have at1 := at0.next g1 r1
    refine sv σ F1 H1 A1 ρ1 _ at1 ?_
    cases q2 : cO fv ρ1 with
    | stuck =>
      rw [q2] at p'
      exact p'.elim
    | err x ρ2 =>
      rw [q2] at p'
      intro F2 H2 A2 cls dd g2 r2 rx
      exact p' F2 H2 A2 cls dd ((g1.trans g2).beside.less fun z m => List.mem_append_right _ m) r2 rx
    | ok z2 =>
      obtain ⟨o2, ρ2⟩ := z2
      rw [q2] at p'
      simp only [ok_bind] at p'
      intro F2 H2 A2 g2 y r2 y2
      obtain ⟨b2, dj2⟩ := g2.keepB b1 dj1
      cases o1 with
      | var _ => exact p'.elim
      | val kd =>
        cases o2 with
        | var _ => exact p'.elim
        | val vd =>
          simp only at p'
          obtain ⟨ns, e3, p3⟩ := p'.opt
          obtain ⟨ek, n0⟩ := tupI_eq e3
          subst ek
          obtain ⟨b, rfl, fb⟩ := key_real nit at1.ntb x1 n0
          have hb : H2 b = some (.tup ((keyI ns).map kV)) := by
            rw [keyI_kV]
            exact g2.sub _ _ (g2.kF _ _ fb)
          obtain ⟨l, xs, el, ef, e1, e2, e4⟩ := b2
          cases el
          have ex := rpT_nil e4
          subst ex
          refine ⟨b, keyI ns, rfl, e1, hb, ?_⟩
          have nd2 : d ∉ A2 := dj2 d (by simp)
          have gw : Go T ([d] ++ A2) F2 H2 ([d] ++ A2) F2 (upd H2 d (.dT [(keyI ns, y)])) := Go.write g2.sub (by simp) e2 e1 (fun _ z => by cases z) (fun _ z => by cases z)
          have r3 : RepS X.K F2 (upd H2 d (.dT [(keyI ns, y)])) ρ2 σ A2 := r2.stab (Sub.refl F2) (fun z m => upd_ne fun w => nd2 (by rw [← w]; exact m)) fun z m => (r2.live z m).2
          refine p3.now ((g1.trans g2).beside.trans gw) _ (.cons (ft := [d]) ⟨d, _, rfl, rfl, upd_same, e2, .mk y2 .emp⟩ r3 dj2)
/-! ## list(d), its keys tuples of ints -/
def keyInts : List Key → Option (List Int)
  | [] => some []
  | .inl i :: ks => (keyInts ks).map (i :: ·)
  | .inr _ :: _ => none
theorem keyInts_eq : ∀ {ks : List Key} {ns : List Int}, keyInts ks = some ns → ks = keyI ns
  | [], ns, h => by
    cases h
    rfl
  | .inr _ :: _, ns, h => by cases h
  | .inl i :: ks, ns, h => by
    rw [keyInts] at h
    obtain ⟨ms, e, rfl⟩ := Option.map_eq_some_iff.mp h
    rw [keyInts_eq e]
    rfl
def keysInts : List (List Key × D) → Option (List (List Int))
  | [] => some []
  | kv :: kvs => (keyInts kv.1).bind fun ns => (keysInts kvs).map (ns :: ·)
def rListT : List V → Hp → VK → Prop := fun xs H Q => ∃ d kvs, xs = [V.ref d] ∧ Rd H d (.dT kvs) ∧ ∀ p bs, H p = none → IsKeys H kvs bs → Q (.ref p) (upd H p (.lst (bs.map V.ref)))
theorem keys_rp {K : PySem.W.Frag} {F F' H : Hp} : ∀ {kvs : List (List Key × D)} {ys : List (List Key × V)} {nss : List (List Int)} {bs : List Addr}, RpT K F kvs ys → keysInts kvs = some nss → IsKeys H ys bs → (∀ b ∈ bs, F' b = H b) →
    RpL K F' (nss.map fun ns => D.tup (ns.map .int)) (bs.map V.ref)
  | [], ys, nss, bs, h, e, k, _ => by
    rw [rpT_nil h] at k
    cases e
    cases k
    exact .nil
  | (k', d) :: kvs, ys, nss, bs, h, e, k, hf => by
    obtain ⟨v, ws, rfl, _, t⟩ := rpT_cons h
    rw [keysInts] at e
    obtain ⟨ns, e1, e⟩ := Option.bind_eq_some_iff.mp e
    obtain ⟨ms, e2, rfl⟩ := Option.map_eq_some_iff.mp e
    cases k with
    | cons h1 h2 =>
      rename_i b bs
      have ih := keys_rp (F' := F') t e2 h2 fun x m => hf x (List.mem_cons_of_mem _ m)
      refine .cons ?_ ih
      have ek : k' = keyI ns := keyInts_eq e1
      have h1 : H b = some (.tup (k'.map kV)) := h1
      rw [ek, keyI_kV] at h1
      unfold Rp
      refine ⟨b, ns.map V.int, rfl, .inl (.inl ?_), RpL.ints⟩
      rw [hf b List.mem_cons_self, h1]
theorem keys_tup {H : Hp} : ∀ {ys : List (List Key × V)} {bs : List Addr}, IsKeys H ys bs → ∀ b ∈ bs, ∃ xs, H b = some (.tup xs)
  | _, _, .nil, b, m => nomatch m
  | _, _, .cons h t, b, m => by
    rcases List.mem_cons.mp m with rfl | z
    · exact ⟨_, h⟩
    · exact keys_tup t b z
def cListT (i : Nat) : FE := fun ρ => ofO ((dtAt ρ i).bind keysInts) >>= fun nss => .ok (.own (nss.map fun ns => .tup (ns.map .int)), ρ)
theorem de_listT (i : Nat) {x : Str} {p p1 pos : Pos} (hc : ∀ j, (X.at_ j).calm = true) (hm : ∀ j, (X.at_ j).mg "list" = none) (hg : ∀ j, Gl (X.at_ j) "list" := by intro _; rfl) (hN : ∀ j, (X.at_ j).N[i]? = some x := by intro _; rfl) (hv : ∀ j, Vis (X.at_ j).env.scope x := by intro _; first | exact Or.inl rfl | exact Or.inr (Or.inl rfl) | exact Or.inr (Or.inr rfl))
    (hd : (x == ("__debug__" : Str)) = false := by decide) (hcd : (x == ("__classdict__" : Str)) = false := by decide)
    (he : ∀ j, starEach [.Name x p1] (X.at_ j).env = (false, eval (.Name x p1) (X.at_ j).env) :: starEach [] (X.at_ j).env := by intro _; rfl) (hpl : ∀ j, (backTo pos (starEach [] (X.at_ j).env)).any (·.1) = false := by intro _; rfl) :
    DE X T W (.Call (.Name "list" p) [.Name x p1] [] pos) (cListT i) := by
  refine ⟨tCB rListT (tCons (tVar i) tNil), fun j => pe_callTy (call_list_dT (hc j)) (hg j) (hm j) boot_list (pa_cons (pe_var (hN j) (hv j) hd hcd) pa_nil (he j)) (by decide) (by decide) (he j) (hpl j), fun σ F H A ρ Q a p0 => ?_⟩
  obtain ⟨nss, e0, p1⟩ := p0.opt
  obtain ⟨kvs, e1, e2⟩ := Option.bind_eq_some_iff.mp e0
  obtain ⟨l, ys, es, el, rl⟩ := dtAt_rep a.sub a.rep e1
  refine ⟨_, es, l, ys, rfl, .inl el, fun q bs nq ik => ?_⟩
  have kt := keys_tup ik
  -- the key tuples are frozen
  have s1 : Sub F (fun b => if b ∈ bs then H b else F b) := fun b o e => by
    show (if b ∈ bs then H b else F b) = some o
    split
    · exact a.sub b o e
    · exact e
  have s2 : Sub (fun b => if b ∈ bs then H b else F b) H := fun b o e => by
    have e : (if b ∈ bs then H b else F b) = some o := e
    split at e
    · exact e
    · exact a.sub b o e
  have g1 : Go T A F H A (fun b => if b ∈ bs then H b else F b) H := by
    refine ⟨fun _ _ e _ _ => e, fun _ o e n => ⟨o, e, n⟩, s1, s2, fun b o e => ?_, fun _ m => .inl m, fun t => t, fun nt => ⟨fun b ps e => ?_, fun b o xs e => ?_⟩⟩
    · have e : (if b ∈ bs then H b else F b) = some o := e
      split at e
      · rename_i m
        exact .inr (.inr (.inr (kt b m)))
      · exact .inl e
    · have e : (if b ∈ bs then H b else F b) = some (.tbl ps) := e
      split at e
      · rename_i m
        obtain ⟨xs, z⟩ := kt b m
        rw [z] at e
        cases e
      · exact nt.1 b ps e
    · have e : (if b ∈ bs then H b else F b) = some (.frz o (.tup xs)) := e
      split at e
      · rename_i m
        obtain ⟨xs, z⟩ := kt b m
        rw [z] at e
        cases e
      · exact nt.2 b o xs e
  have r1 : RepS X.K (fun b => if b ∈ bs then H b else F b) H ρ σ A := a.rep.stab s1 (fun _ _ => rfl) fun b m => by
    show (if b ∈ bs then H b else F b) = none
    split
    · rename_i z
      obtain ⟨xs, e⟩ := kt b z
      exact absurd e (a.rep.ntup b m xs)
    · exact (a.rep.live b m).2
  have f : Fin X.K T (fun b => if b ∈ bs then H b else F b) H A ρ σ (.own (nss.map fun ns => .tup (ns.map .int))) Q := fun v F' H' A' g r => (p1.after g1).now g v r
  exact f.lst s2 r1 (keys_rp rl e2 ik fun b m => if_pos m) q nq
end
end Dl

set_option Elab.async false
set_option linter.all false
set_option maxRecDepth 100000
set_option maxHeartbeats 1000000
namespace Dl
open PySem PySem.Spec L2
open PyProof.Rows hiding St

/-! ## an expression that only reads and gives tuples within tuples, or a new list of such -/
mutual
def tupD : D → Bool
  | .non => true
  | .bl _ => true
  | .int _ => true
  | .str _ => true
  | .tup ds => tupDs ds
  | _ => false
def tupDs : List D → Bool
  | [] => true
  | d :: ds => tupD d && tupDs ds
end
/-- F, and the tuples of G -/
def addT (F G : Hp) : Hp := fun b => match G b with
  | some (.tup xs) => some (.tup xs)
  | _ => F b
theorem addT_tup {F G : Hp} {b : Addr} {xs : List V} (h : G b = some (.tup xs)) : addT F G b = some (.tup xs) := by
  unfold addT
  rw [h]
theorem addT_no {F G : Hp} {b : Addr} (h : ∀ xs, G b ≠ some (.tup xs)) : addT F G b = F b := by
  unfold addT
  split
  · rename_i xs e
    exact absurd e (h xs)
  · rfl
theorem addT_cases {F G : Hp} {b : Addr} {o : HO} (h : addT F G b = some o) : (G b = some o ∧ ∃ xs, o = .tup xs) ∨ F b = some o := by
  unfold addT at h
  split at h
  · rename_i xs e
    cases h
    exact .inl ⟨e, xs, rfl⟩
  · exact .inr h
section
variable {K : PySem.W.Frag} {F G : Hp}
mutual
theorem tup_any (nb : NoTb G) : ∀ (d : D) {v : V}, tupD d = true → Rp K G d v → Rp K (addT F G) d v
  | .non, v, _, r => by unfold Rp at r ⊢; exact r
  | .bl _, v, _, r => by unfold Rp at r ⊢; exact r
  | .int _, v, _, r => by unfold Rp at r ⊢; exact r
  | .str _, v, _, r => by unfold Rp at r ⊢; exact r
  | .tup ds, v, h, r => by
    unfold tupD at h
    unfold Rp at r ⊢
    obtain ⟨a, xs, e, sq, rl⟩ := r
    refine ⟨a, xs, e, ?_, tups_any nb ds h rl⟩
    rcases sq with (z | ⟨o, z⟩) | z
    · exact .inl (.inl (addT_tup z))
    · exact absurd z (nb.2 a o xs)
    · exact .inr z
  | .lst _, v, h, _ => by simp [tupD] at h
  | .scr _, v, h, _ => by simp [tupD] at h
  | .dk _, v, h, _ => by simp [tupD] at h
  | .dt _, v, h, _ => by simp [tupD] at h
  | .ins _ _, v, h, _ => by simp [tupD] at h
  | .opq _, v, h, _ => by simp [tupD] at h
theorem tups_any (nb : NoTb G) : ∀ (ds : List D) {xs : List V}, tupDs ds = true → RpL K G ds xs → RpL K (addT F G) ds xs
  | [], xs, _, r => by unfold RpL at r ⊢; exact r
  | d :: ds, xs, h, r => by
    unfold tupDs at h
    rw [Bool.and_eq_true] at h
    unfold RpL at r ⊢
    obtain ⟨v, ws, e, r1, r2⟩ := r
    exact ⟨v, ws, e, tup_any nb d h.1 r1, tups_any nb ds h.2 r2⟩
end
end
def purD (ρ : Ev) : R (B × Ev) → R (B × Ev)
  | .ok (.dat d, _) => if tupD d = true then .ok (.dat d, ρ) else .stuck
  | .ok (.own ds, _) => if tupDs ds = true then .ok (.own ds, ρ) else .stuck
  | .err x _ => match x.fs with
    | none => .err x ρ
    | some _ => .stuck
  | _ => .stuck
def cPureD (f : FE) : FE := fun ρ => purD ρ (f (ρ.map frzB))
section
variable {X : Fam} {T : List (Addr × Str)} {W : WX}
theorem pureD_run {t : TE} {f : FE} (s : ∀ σ F H A ρ Q, At X T F H ρ σ A → Post X.K T W σ F H A (f ρ) (fun b ρ' F' H' A' => ∀ v, RepS X.K F' H' (b :: ρ') (some v :: σ) A' → Q v H') → t σ H Q) :
    ∀ σ F H A ρ Q, At X T F H ρ σ A → Post X.K T W σ F H A (cPureD f ρ) (fun b ρ' F' H' A' => ∀ v, RepS X.K F' H' (b :: ρ') (some v :: σ) A' → Q v H') → t σ H Q := by
  intro σ F H A ρ Q at_ p
  obtain ⟨F2, g0, r0⟩ := freezeAll (T := T) at_.rep at_.sub
  refine s σ F2 H [] (ρ.map frzB) Q ⟨g0.sub, g0.tab at_.tab, r0, X.mono at_.inv g0.kF fun _ _ => rfl, g0.ntb at_.ntb⟩ ?_
  have eN : ∀ {A' : List Addr} {F' H' : Hp}, Go T [] F2 H A' F' H' → LamX.ExtN H H' := fun {A' F' H'} g b o e nt => g.kH b o e (fun z => nomatch z) nt
  have base : ∀ {A' : List Addr} {F' H' : Hp}, Go T [] F2 H A' F' H' → Go T A F H A F H' ∧ RepS X.K F H' ρ σ A := fun {A' F' H'} g => by
    refine ⟨go_ext at_.sub at_.ntb (eN g) (g.tab at_.tab), at_.rep.stab (Sub.refl F) (fun b mb => ?_) fun b mb => (at_.rep.live b mb).2⟩
    obtain ⟨⟨o, e, nt⟩, _⟩ := at_.rep.live b mb
    rw [e]
    exact eN g b o e nt
  have more : ∀ {A' : List Addr} {F' H' : Hp}, Go T [] F2 H A' F' H' → Go T A F H A (addT F F') H' ∧ RepS X.K (addT F F') H' ρ σ A ∧ NoTb F' := fun {A' F' H'} g => by
    obtain ⟨g1, r1⟩ := base g
    have s3 : Sub F (addT F F') := fun b o e => by
      have e' := g.kF b o (g0.kF b o e)
      by_cases c : ∃ xs, o = .tup xs
      · obtain ⟨xs, rfl⟩ := c
        exact addT_tup e'
      · rw [addT_no fun xs z => c ⟨xs, by rw [e'] at z; exact Option.some.inj z⟩]
        exact e
    have s3H : Sub (addT F F') H' := fun b o e => by
      rcases addT_cases e with ⟨z, _⟩ | z
      · exact g.sub b o z
      · exact g1.sub b o z
    refine ⟨⟨g1.kH, g1.ex, s3, s3H, fun b o e => ?_, g1.sA, g1.tab, fun nt => ⟨fun b ps e => ?_, fun b o xs e => ?_⟩⟩, r1.stab s3 (fun _ _ => rfl) fun b m => ?_, g.ntb (g0.ntb at_.ntb)⟩
    · rcases addT_cases e with ⟨z, _⟩ | z
      · rcases g.nF b o z with y | y | y | y
        · exact g0.nF b o y
        · exact .inr (.inl y)
        · cases y
        · exact .inr (.inr (.inr y))
      · exact .inl z
    · rcases addT_cases e with ⟨_, xs, z⟩ | z
      · cases z
      · exact nt.1 b ps z
    · rcases addT_cases e with ⟨_, ys, z⟩ | z
      · cases z
      · exact nt.2 b o xs z
    · rw [addT_no fun xs z => r1.ntup b m xs (g.sub b _ z)]
      exact (r1.live b m).2
  unfold cPureD at p
  cases q : f (ρ.map frzB) with
  | stuck =>
    rw [q] at p
    exact p.elim
  | err x ρ' =>
    rw [q] at p
    unfold purD at p
    cases qx : x.fs with
    | some _ =>
      simp only [qx] at p
      exact p.elim
    | none =>
      simp only [qx] at p
      intro F' H' A' cls dd g _ rx
      obtain ⟨g1, r1⟩ := base g
      refine p F H' A cls dd g1 r1 ?_
      unfold RepX at rx ⊢
      rw [qx] at rx ⊢
      exact rx
  | ok z =>
    obtain ⟨b, ρ'⟩ := z
    rw [q] at p
    cases b with
    | dat d =>
      unfold purD at p
      simp only at p
      split at p
      · rename_i hf
        intro F' H' A' g v r
        obtain ⟨v', e, rd, _⟩ := r.dat_inv
        cases e
        obtain ⟨g1, r1, nb⟩ := more g
        exact p _ H' A g1 v (r1.dat (tup_any nb d hf rd))
      · exact p.elim
    | own ds =>
      unfold purD at p
      simp only at p
      split at p
      · rename_i hf
        intro F' H' A' g v r
        obtain ⟨ft, A1, eA, bh, _, _⟩ := r.head
        obtain ⟨l, xs, ev, ef, el, nl, rl⟩ := bh
        cases ev
        obtain ⟨g1, r1, nb⟩ := more g
        have lA' : l ∈ A' := by
          rw [eA, ef]
          simp
        have nw : Nw H l := (g.sA l lA').elim (fun z => nomatch z) id
        have lA : l ∉ A := fun m => by
          obtain ⟨⟨o, e, nt⟩, _⟩ := at_.rep.live l m
          obtain ⟨ps, z⟩ := nw o e
          exact nt ps z
        have nl3 : addT F F' l = none := by
          rw [addT_no fun ys z => by rw [nl] at z; cases z]
          cases e : F l with
          | none => rfl
          | some o =>
            have := g.kF l o (g0.kF l o e)
            rw [nl] at this
            cases this
        have g2 : Go T A F H ([l] ++ A) (addT F F') H' := ⟨g1.kH, g1.ex, g1.kF, g1.sub, g1.nF, fun b m => by
          rcases List.mem_append.mp m with z | z
          · rw [List.mem_singleton.mp z]
            exact .inr nw
          · exact .inl z, g1.tab, g1.ntb⟩
        refine p _ H' _ g2 (.ref l) (.cons (ft := [l]) ⟨l, xs, rfl, rfl, el, nl3, tups_any nb ds hf rl⟩ r1 fun b m z => lA ?_)
        rw [← List.mem_singleton.mp m]
        exact z
      · exact p.elim
    | un => exact p.elim
    | odk _ => exact p.elim
    | odt _ => exact p.elim
    | ext _ => exact p.elim
theorem de_pureD {e : Expr} {f : FE} (h : DE X T W e f) : DE X T W e (cPureD f) := by
  obtain ⟨t, pe, s⟩ := h
  exact ⟨t, pe, pureD_run s⟩
/-- y = [..], what is read standing still -/
theorem ds_setLcP (i : Nat) {P : List Nat} {y : Str} {py : Pos} {elt tg iter : Expr} {ifs : List Expr} {scope : Scope} {p : Pat} {fi : FI} {fc : FT} {fe : FE} {ws : List Nat} {pos spos : Pos} (own : List (Str × Nat)) (hP : i ∉ P) (hc : ∀ i, (X.at_ i).calm = true) (hN : ∀ i, (X.at_ i).N.Nodup) (hi : DI X T W tg iter fi) (ok : ∀ i, BlkOk (X.at_ i).N (X.at_ i).env.scope scope own)
    (hg : DG (blkF X scope) ws tg p) (ht : DTs (blkF X scope) T W0 ifs fc) (he : DE (blkF X scope) T W0 elt fe) (hy : ∀ j, (X.at_ j).N[i]? = some y := by intro _; rfl) (hyl : ∀ j, (X.at_ j).env.scope.names.lookup y = some .local := by intro _; rfl)
    (hsw : ∀ j, swapsWith (.ListComp elt [⟨tg, iter, ifs, 0⟩] scope pos) (some (.Name y py)) spos.line (X.at_ j).env = pure true := by intro _; exact sw_true rfl rfl rfl (by decide +kernel))
    (hws : ∀ i ∈ ws, i ∈ own.map (·.2) := by decide) (hnd : (own.map (·.2)).Nodup := by decide) (hs : ∀ i x, foldedSetIterable iter (X.at_ i).env x = pure x := by intro _ _; rfl) :
    DS X T W P (.Assign [.Name y py] (.ListComp elt [⟨tg, iter, ifs, 0⟩] scope pos) spos) (sSet i (cPureD (cLc p fi fc fe (own.map (·.2))))) := by
  obtain ⟨wi, pi, si⟩ := hi
  obtain ⟨g, pg, sg⟩ := hg
  obtain ⟨tt, pt, st⟩ := ht
  obtain ⟨te, pe, se⟩ := do_e he
  refine ⟨_, fun j => ps_setLc (hc j) (hN j) (hy j) (hyl j) (hsw j) (pi j) (ok j) (fun s H C cl fp => pg (j, s, H, C, cl, fp)) (fun s H C cl fp => pt (j, s, H, C, cl, fp)) (fun s H C cl fp => pe (j, s, H, C, cl, fp)) (hs j), fun hps σ F H A ρ E a pp => ?_⟩
  refine pureD_run (W := W) (t := tLc wi g tt te (own.map (·.2))) (f := cLc p fi fc fe (own.map (·.2))) (fun σ F H A ρ Q a p => lc_run hws hnd si sg st se a p) σ F H A ρ (fun x H1 => gName i x σ H1 E.nx) a ?_
  refine pp.out.imp fun b ρ1 F1 H1 A1 g1 p1 v r => ?_
  obtain ⟨A2, r2, m⟩ := r.store (i := i)
  exact p1.nowN ((Go.refl g1.sub).less m) r2 (Keep.set hP)
end
section
variable {ρ : Ev} {b : B} {d : D}
theorem e_cPureD (f : FE) : cPureD f ρ = purD ρ (f (ρ.map frzB)) := rfl
theorem e_purDl {ds : List D} (ρ' : Ev) (h : tupDs ds = true) : purD ρ (.ok (.own ds, ρ')) = .ok (.own ds, ρ) := by
  show (if tupDs ds = true then _ else _) = _
  rw [if_pos h]
theorem e_purDd (ρ' : Ev) (h : tupD d = true) : purD ρ (.ok (.dat d, ρ')) = .ok (.dat d, ρ) := by
  show (if tupD d = true then _ else _) = _
  rw [if_pos h]
theorem tupDs_all : ∀ {ds : List D}, (∀ d ∈ ds, tupD d = true) → tupDs ds = true
  | [], _ => by unfold tupDs; rfl
  | d :: ds, h => by
    unfold tupDs
    rw [h d List.mem_cons_self, tupDs_all fun e m => h e (List.mem_cons_of_mem _ m)]
    rfl
end
end Dl

set_option Elab.async false
set_option linter.all false
set_option maxRecDepth 100000
set_option maxHeartbeats 4000000
namespace Dl
open PySem PySem.Spec L2
open PyProof.Rows hiding St

/-! ## a tuple some times -/
theorem tuple_once (l : Addr) (items : Array Value) (n : Nat) (dd : Option Addr) (sl : Array (Option Value)) (u : Tok) :
    Meets (Builtin.«tuple.__mul__» ⟨[.ref l, .int 1 u], []⟩) (fun _ R s => s.heap.get? l = some { cls := .type "tuple", dict := dd, data := .seq items n, slots := sl } ∧ R (.ok (.ret (Value.ref l))) s) :=
  .of_wp fun prog w A R s h => by
    obtain ⟨hp, g, d, tk, os⟩ := s
    obtain ⟨hl, h⟩ := h
    have f1 := AutoSeq1.idx_int
    have c1 : (items.isEmpty || (1 : Int) == 1) = true := by simp
    wp_walk using wpAny_loadPart' hl
    exact ⟨_, rfl, h⟩
def rOnceT (K : PySem.W.Frag) : R2 := fun x y H Q => ∃ l xs, x = .ref l ∧ y = .int 1 ∧ SqT K H l xs ∧ Q (.ref l) H
theorem op_onceT {X : Cx} : OpR X (binaryOp .Mult) (rOnceT X.K) := by
  intro pins s σ H x y v u Q I rx ry h
  obtain ⟨l, xs, rfl, rfl, hT, q⟩ := h
  cases rx
  obtain ⟨t, rfl⟩ := ry
  obtain ⟨its, r, ⟨⟨cls, dd, data, sl⟩, ho, hc, n, hd⟩, hs⟩ := I.tuple hT
  simp only at hc hd
  subst hc hd
  have ty : s.TypeIs (.ref l) "tuple" := ⟨_, ho, rfl⟩
  have back : wpAny (model X.prog X.w) X.A (call (.builtin "tuple.__mul__") [.ref l, .int 1 t]) (EP X pins σ Q) X.xe s :=
    call_meets PySem.F.slot_tuple_mul ty PySem.F.entry_tuple_mul (PySem.F.args_tuple_mul_2 _ _) (tuple_once l its.toArray n dd sl t) ⟨ho, .ref l, H, I, rfl, q⟩
  have front : wpAny (model X.prog X.w) X.A (call (.builtin "int.__rmul__") [.int 1 t, .ref l]) (fun v s' => v = .notImplemented ∧ s'.TypeIs (.ref l) "tuple" ∧ wpAny (model X.prog X.w) X.A (call (.builtin "tuple.__mul__") [.ref l, .int 1 t]) (EP X pins σ Q) X.xe s') X.xe s :=
    call_meets PySem.F.slot_int_rmul (typeIs_int s 1 t) PySem.F.entry_int_rmul (PySem.F.args_int_rmul_2 _ _) (int_rmul_tuple 1 t l its.toArray n dd sl) ⟨ho, rfl, ty, back⟩
  exact wpAny_binaryOp_repeat_ref (T := "tuple") (U := "int") (by decide) ty (fun s' => typeIs_int s' 1 t) noFill_tuple_mul PySem.F.fills_int_mul PySem.F.slot_int_rmul repeat_tuple PySem.F.slot_int_index.lookup front
section
variable {X : Fam} {K : PySem.W.Frag} {T : List (Addr × Str)}
def rMulT (K : PySem.W.Frag) : R2 := fun x y H Q => rRepT K x y H Q ∨ rOnceT K x y H Q
theorem or_mulT : ∀ i, OpR (X.at_ i) (binaryOp .Mult) (rMulT X.K) := fun i => by
  rw [← X.hK i]
  exact op_repT.or op_onceT
/-- t * k, k from 1 on -/
def gMulT : D → D → Option B
  | .tup xs, .int k => if k = 1 then some (.dat (.tup xs)) else if (!xs.isEmpty && decide (2 ≤ k) && decide (k ≤ 1000) && decide (xs.length ≤ 1000)) = true then some (.dat (.tup (List.replicate k.toNat xs).flatten)) else none
  | _, _ => none
theorem v2_mulT : V2 K T (rMulT K) gMulT := by
  intro F H A ρ σ d d' v v' b Q s r h h' e f
  unfold gMulT at e
  split at e
  · rename_i xs k
    have rt := top_tupF h
    obtain ⟨a, us, e1, h1, h2⟩ := top_tup s h
    split at e
    · rename_i hk
      cases e
      subst hk
      subst e1
      exact .inr ⟨a, us, rfl, top_int h', h1, f.dat s r rt⟩
    · split at e
      · rename_i c
        cases e
        simp only [Bool.and_eq_true, decide_eq_true_eq, Bool.not_eq_true'] at c
        obtain ⟨⟨⟨c0, c1⟩, c2⟩, c3⟩ := c
        refine .inl ⟨a, k, us, e1, top_int h', h1, fun z => ?_, c1, c2, by rw [← h2.length]; exact c3, f.tup s r (h2.replicate _)⟩
        have := h2.length
        rw [z] at this
        cases xs with
        | nil => cases c0
        | cons _ _ => cases this
      · cases e
  · cases e
end
theorem gMulT_zero (n : Nat) (h0 : 0 < n) (h1 : n ≤ 1000) : gMulT (.tup [.int 0]) (.int (n : Nat)) = some (.dat (.tup (List.replicate n (.int 0)))) := by
  unfold gMulT
  simp only
  by_cases h : (n : Int) = 1
  · rw [if_pos h]
    have : n = 1 := by omega
    subst this
    rfl
  · rw [if_neg h, if_pos (by simp; omega)]
    have : (List.replicate ((n : Int)).toNat [D.int 0]).flatten = List.replicate n (.int 0) := by
      rw [Int.toNat_natCast]
      clear h0 h1 h
      induction n with
      | zero => rfl
      | succ n ih => rw [List.replicate_succ, List.flatten_cons, ih]; rfl
    rw [this]
end Dl

set_option Elab.async false
set_option linter.all false
set_option maxRecDepth 100000
set_option maxHeartbeats 1000000
namespace Dl
open PySem PySem.Spec L2
open PyProof.Rows hiding St

/-! ## an own exception with fields: its making -/
section
variable {X : Cx} {e : Expr} {es : List Expr} {ta : TA} {p1 p2 pos : Pos} {pl : Sem Bool} {x : Str} {C0 : Addr} {mc : Value}
/-- Base.__init__(self, ..), Base an own class over ValueError -/
theorem pe_xinit (hg : Gl X x) (hm : X.mg x = some (.ref C0)) (r : ClX.CRead X.K C0 mc) (vV : PySem.W.findCls X.K (.ref C0) mc "__init__" = some (.val (.builtin "ValueError.__init__"))) (ha : PA X (e :: es) ta)
    (hc : eval (.Call (.Attribute (.Name x p1) "__init__" p2) (e :: es) [] pos) X.env = (do
      let ov ← eval (.Name x p1) X.env
      standAt p2.atName
      let (f, first) ← holding [ov] (getMethod ov "__init__" pl)
      callWith pos f first (backTo pos (starEach (e :: es) X.env)) (backToKw pos (keywordEach [] X.env))) := by rfl)
    (hdb : (x == ("__debug__" : Str)) = false := by decide)
    (he : starEach (e :: es) X.env = (false, eval e X.env) :: starEach es X.env := by rfl) (hpl : (backTo pos (starEach es X.env)).any (·.1) = false := by rfl) :
    PE X (.Call (.Attribute (.Name x p1) "__init__" p2) (e :: es) [] pos) (tVeI X.K ta) := by
  refine ⟨fun pins s σ H Q I h => ?_⟩
  refine PySem.W.methodCall_KW (ld_glob I hg hm ?_ hdb) hc
  refine PySem.W.method_cls I.kIn r.ga (PySem.W.cls_value I.kIn r.rd vV (by decide +kernel) ?_)
  show wpAny _ _ (callWith pos (Value.builtin "ValueError.__init__") [] (backTo pos (starEach (e :: es) X.env)) []) _ _ _
  refine PyProof.Rows.callWith_method1 (thn (ha.run pos pins _ σ H _ (I.tok _) h) fun us s1 ⟨vs, H1, I1, r1, a, C, ws, ev, hl, T, ea, q⟩ => ?_) he hpl
  subst ev
  cases r1 with
  | @cons _ u0 _ ur ra rw' =>
    obtain rfl : u0 = Value.ref a := ra
    have hlen : ur.length ≤ sizeLine := by
      rw [← Paired.length rw', sizeLine_eq]
      omega
    exact oinit_ok T I1 ea hlen fun s' J => ⟨.non, H1, J, rfl, q⟩
end
/-- what such an __init__ promises -/
def spXI (K : PySem.W.Frag) (C : Addr) (fs : List Str) : Sp := fun vs H Q _ => vs.length = fs.length + 1 ∧ ∃ a ys, vs = .ref a :: ys ∧ OexC K C ∧ (∀ f ∈ fs, PySem.W.findIn K (.ref C) f = some none) ∧ H a = some (exo a C none) ∧
  ∀ dx, H dx = none → dx ≠ a → Q .non (upd (upd H dx (exd dx (fs.zip ys).reverse)) a (exo a C (some dx)))
theorem upd_twist {H : Hp} {a dx : Addr} {x e1 e2 : HO} (h : dx ≠ a) : upd (upd (upd H dx e1) a x) dx e2 = upd (upd H dx e2) a x := by
  funext b
  by_cases h1 : b = dx
  · subst h1
    rw [upd_same, upd_ne h, upd_same]
  · rw [upd_ne h1]
    by_cases h2 : b = a
    · subst h2
      rw [upd_same, upd_same]
    · rw [upd_ne h2, upd_ne h2, upd_ne h1, upd_ne h1]
/-- the reading of such an __init__'s body -/
def tXI (K : PySem.W.Frag) (m f1 : Str) : TS := tSeq (tDrop (tVeI K (tCons (tVar 0) (tCons (tC (.str m)) tNil)))) (tOst K f1 (tVar 0) (tVar 1))
def tXI3 (K : PySem.W.Frag) (m f1 f2 f3 : Str) : TS := tSeq (tDrop (tVeI K (tCons (tVar 0) (tCons (tC (.str m)) tNil)))) (tSeq (tOst K f1 (tVar 0) (tVar 1)) (tSeq (tOst K f2 (tVar 0) (tVar 2)) (tOst K f3 (tVar 0) (tVar 3))))
section
variable {P : Program} {w : World} {K : PySem.W.Frag} {mg : Str → Option Value} {base : Heap}
theorem xi1 {qual m self f1 : Str} {st : Stmt} {f : Addr} {fd : FuncData} {C : Addr} (F : Fun K "__init__" qual st f fd) (S : FnScope [self, f1] [self, f1] (defScope st))
    (hb : ∀ (cdv : Value) (A : Around) (outer : List Env) (s : Shared) (H : Hp) (E : XK), PSs (cxOf CX0 P w K mg base [self, f1] qual (defScope st) f cdv A outer s H E).nox (defBody st) (tXI K m f1)) : FnOk P w K mg base CX0 1 f fd [self, f1] (spXI K C [f1]) := by
  refine F.ok S (fun vs H Q E h => h.1) fun cdv A outer s H vs Q E hr h => ⟨_, hb cdv A outer s H E, ?_⟩
  obtain ⟨hl, a, ys, rfl, oc, hf, ea, q⟩ := h
  obtain ⟨y, rfl⟩ : ∃ y, ys = [y] := by
    match ys, hl with
    | [y], _ => exact ⟨y, rfl⟩
  refine ⟨_, rfl, a, C, _, rfl, (by simp), oc, ea, ?_⟩
  refine ⟨_, rfl, _, rfl, a, C, rfl, oc, hf f1 List.mem_cons_self, .inl ⟨ea, fun dx n ne => q dx n ne⟩⟩
theorem xi3 {qual m self f1 f2 f3 : Str} {st : Stmt} {f : Addr} {fd : FuncData} {C : Addr} (F : Fun K "__init__" qual st f fd) (S : FnScope [self, f1, f2, f3] [self, f1, f2, f3] (defScope st))
    (hb : ∀ (cdv : Value) (A : Around) (outer : List Env) (s : Shared) (H : Hp) (E : XK), PSs (cxOf CX0 P w K mg base [self, f1, f2, f3] qual (defScope st) f cdv A outer s H E).nox (defBody st) (tXI3 K m f1 f2 f3)) : FnOk P w K mg base CX0 1 f fd [self, f1, f2, f3] (spXI K C [f1, f2, f3]) := by
  refine F.ok S (fun vs H Q E h => h.1) fun cdv A outer s H vs Q E hr h => ⟨_, hb cdv A outer s H E, ?_⟩
  obtain ⟨hl, a, ys, rfl, oc, hf, ea, q⟩ := h
  obtain ⟨y1, y2, y3, rfl⟩ : ∃ y1 y2 y3, ys = [y1, y2, y3] := by
    match ys, hl with
    | [y1, y2, y3], _ => exact ⟨y1, y2, y3, rfl⟩
  refine ⟨_, rfl, a, C, _, rfl, (by simp), oc, ea, ?_⟩
  refine ⟨_, rfl, _, rfl, a, C, rfl, oc, hf f1 (by simp), .inl ⟨ea, fun dx n ne => ?_⟩⟩
  have q1 := q dx n ne
  have e2 : ∀ {u1 : HO}, upd (upd H dx u1) a (exo a C (some dx)) a = some (exo a C (some dx)) := fun {u1} => upd_same
  have e3 : ∀ {u1 : HO}, upd (upd H dx u1) a (exo a C (some dx)) dx = some u1 := fun {u1} => by rw [upd_ne ne, upd_same]
  refine ⟨_, rfl, _, rfl, a, C, rfl, oc, hf f2 (by simp), .inr ⟨dx, _, e2, e3, (by simp), ?_⟩⟩
  rw [upd_twist ne]
  refine ⟨_, rfl, _, rfl, a, C, rfl, oc, hf f3 (by simp), .inr ⟨dx, _, e2, e3, (by simp), ?_⟩⟩
  rw [upd_twist ne]
  exact q1
end
/-- what is known of an own exception with fields -/
structure XFAt (P : Program) (w : World) (K : PySem.W.Frag) (mg : Str → Option Value) (base : Heap) (x : Str) (fs : List Str) : Prop where
  ex : ∃ (C fI : Addr) (fd : FuncData) (ps : List Str), mg x = some (.ref C) ∧ ClsN K x C ∧ OexC K C ∧ PySem.W.findIn K (.ref C) "__init__" = some (some (.ref fI)) ∧ PySem.W.typeIn K (.ref fI) = some (.type "function") ∧
    FnOk P w K mg base CX0 1 fI fd ps (spXI K C fs) ∧ Binds K fd ps [] ∧ ∀ f ∈ fs, PySem.W.findIn K (.ref C) f = some none
def sRaiseF (x : Str) (fs : List Str) (f : FA) : FS := fun ρ => (f ρ).out fun p => match cTup.vals p.1 with
  | some ds => if ds.length = fs.length ∧ ds.length ≤ 900 then .er ⟨x, some (fs.zip ds).reverse⟩ p.2 else .stuck
  | none => .stuck
theorem rpF_app {K : PySem.W.Frag} {F : Hp} : ∀ {as bs : List (Str × D)} {us vs : List (Str × V)}, RpF K F as us → RpF K F bs vs → RpF K F (as ++ bs) (us ++ vs)
  | [], bs, us, vs, h, k => by
    unfold RpF at h
    rw [h]
    exact k
  | (f, d) :: as, bs, us, vs, h, k => by
    unfold RpF at h
    obtain ⟨v, ws, rfl, h1, h2⟩ := h
    show RpF K F ((f, d) :: (as ++ bs)) ((f, v) :: (ws ++ vs))
    unfold RpF
    exact ⟨v, _, rfl, h1, rpF_app h2 k⟩
theorem rpF_zip {K : PySem.W.Frag} {F : Hp} : ∀ {fs : List Str} {ds : List D} {vs : List V}, RpL K F ds vs → RpF K F (fs.zip ds).reverse (fs.zip vs).reverse
  | [], ds, vs, h => by
    rw [List.zip_nil_left, List.zip_nil_left]
    show RpF K F [] []
    unfold RpF
    rfl
  | f :: fs, [], vs, h => by
    unfold RpL at h
    rw [h, List.zip_nil_right, List.zip_nil_right]
    show RpF K F [] []
    unfold RpF
    rfl
  | f :: fs, d :: ds, vs, h => by
    unfold RpL at h
    obtain ⟨v, ws, rfl, h1, h2⟩ := h
    rw [List.zip_cons_cons, List.zip_cons_cons, List.reverse_cons, List.reverse_cons]
    refine rpF_app (rpF_zip h2) ?_
    unfold RpF
    refine ⟨v, [], rfl, h1, ?_⟩
    unfold RpF
    rfl
theorem xd_heap {H1 : Hp} {a d : Addr} {u1 u2 u3 u4 : HO} (ha : H1 a = none) : upd (del (upd (upd (upd H1 a u1) d u2) a u3) a) d u4 = upd H1 d u4 := by
  funext b
  by_cases hd : b = d
  · rw [hd, upd_same, upd_same]
  · rw [upd_ne hd, upd_ne hd]
    by_cases hb : b = a
    · rw [hb, del_same, ha]
    · rw [del_ne hb, upd_ne hb, upd_ne hd, upd_ne hb]
section
variable {X : Fam} {T : List (Addr × Str)} {W : WX} {Pr : List Nat}
theorem ds_raiseF {P : Program} {w : World} {K : PySem.W.Frag} {mg : Str → Option Value} {base : Heap} {x : Str} {fs : List Str} {e : Expr} {es : List Expr} {f : FA} {p pos pos2 : Pos} (h : XFAt P w K mg base x fs) (eK : X.K = K) (hctx : ∀ i, (X.at_ i).prog = P ∧ (X.at_ i).w = w ∧ (X.at_ i).mg = mg ∧ (X.at_ i).base = base)
    (hr : ∀ i, Room 2 (X.at_ i).A) (hc : ∀ i, (X.at_ i).calm = true) (tk : ∀ i, Takes (X.at_ i) W) (hg : ∀ i, Gl (X.at_ i) x) (ha : DA X T W (e :: es) f) (hdb : (x == ("__debug__" : Str)) = false := by decide)
    (he : ∀ i, starEach (e :: es) (X.at_ i).env = (false, eval e (X.at_ i).env) :: starEach es (X.at_ i).env := by intro _; rfl) (hpl : ∀ i, (backTo pos (starEach es (X.at_ i).env)).any (·.1) = false := by intro _; rfl) :
    DS X T W Pr (.Raise (some (.Call (.Name x p) (e :: es) [] pos)) none pos2) (sRaiseF x fs f) := by
  obtain ⟨C, fI, fd, ps, gC, nC, oc, iC, tI, F1, hb, hf⟩ := h.ex
  obtain ⟨t, pa, s⟩ := ha
  refine ⟨fun _ σ H => tMkO C (spXI K C fs) [] t σ H (fun cls d H' => W cls d σ H'), fun i => ?_, fun hps σ F H A ρ E a p => ?_⟩
  · obtain ⟨eP, ew, em, eb⟩ := hctx i
    have eK' : (X.at_ i).K = K := (X.hK i).trans eK
    subst eP ew em eb eK'
    exact ps_raise (hc i) (tk i) (pmk_oex oc iC tI F1 (hr i) hb .nil pass0 (hg i) gC (pa i) hdb (he i) (hpl i))
  · refine s σ F H A ρ _ a ?_
    unfold sRaiseF at p
    refine p.out.imp fun os ρ1 F1 H1 A1 g1 p1 vs r1 o1 => ?_
    simp only at p1
    cases q : cTup.vals os with
    | none =>
      rw [q] at p1
      exact False.elim p1
    | some ds =>
      rw [q] at p1
      simp only at p1
      split at p1
      · rename_i hl
        have rl := vals_rp o1 q
        have ll := rl.length
        refine ⟨by omega, fun a na => ⟨by rw [List.append_nil, List.length_cons]; omega, a, vs, by rw [List.append_nil], oc, hf, upd_same, fun d nd ne => ?_⟩⟩
        have nd1 : H1 d = none := by rw [upd_ne ne] at nd; exact nd
        refine ⟨rfl, d, (fs.zip vs).reverse, upd_same, by rw [upd_ne ne, upd_same], nd1, ?_⟩
        rw [xd_heap na]
        have g2 : Go T A1 F1 H1 A1 (upd F1 d (.xd (fs.zip vs).reverse)) (upd H1 d (.xd (fs.zip vs).reverse)) := Go.laid g1.sub nd1
        refine p1 σ _ _ A1 _ _ g2 (r1.laid g1.sub nd1) (Keep.refl _ _) ⟨⟨C, rfl, by rw [eK]; exact nC⟩, d, _, rfl, upd_same, rpF_zip (rl.mono g2.kF)⟩
      · exact False.elim p1
end
/-! ## a def called in an except suite, handed the exception, that never raises -/
/-- such a def's promise; p: the exception that is handled -/
structure FnS (P : Program) (w : World) (K : PySem.W.Frag) (mg : Str → Option Value) (base : Heap) (k : Nat) (f : Addr) (fd : FuncData) (ps : List Str) (sp : Addr × Obj → Sp) : Prop where
  len : ∀ p vs H Q E, sp p vs H Q E → vs.length = ps.length
  run : ∀ (A : Around) (outer : List Env) (s : Shared) (H : Hp) (args : Args) (us : List Value) (vs : List V) (Q : VK) (p : Addr × Obj), L2H.RoomH k A → L2H.PinOk outer H s p → Env0 P w K mg base A outer s H →
    BindsTo s fd args (ps.zip us) → Vals vs us → sp p vs H Q E0 → codeAny (model P w) A (.call (.ref f) args) (CR CX0 outer P w H s Q E0) s
section
variable {P : Program} {w : World} {K : PySem.W.Frag} {mg : Str → Option Value} {base : Heap}
theorem fnS_of {qual : Str} {st : Stmt} {f : Addr} {fd : FuncData} {N ps : List Str} {k : Nat} {sp : Addr × Obj → Sp} {x : Str} (F : Fun K x qual st f fd) (S : FnScope N ps (defScope st)) (len : ∀ p vs H Q E, sp p vs H Q E → vs.length = ps.length)
    (hbody : ∀ (cdv : Value) (A : Around) (outer : List Env) (s : Shared) (H : Hp) (vs : List V) (Q : VK) (p : Addr × Obj), L2H.RoomH k (A.deeper (envOfC qual (defScope st) s.heap.objs.size f cdv)) → sp p vs H Q E0 →
      ∃ t, PSs (L2H.cxH CX0 P w K mg base N qual (defScope st) f cdv A outer s H E0 p) (defBody st) t ∧ t { nx := fun _ H' => Q .non H', rt := Q } (L2.start N vs) H) : FnS P w K mg base (k + 1) f fd ps sp := by
  obtain ⟨oc, od, kV, doc, pm, an, cdv, ct, osl, rfl, lk, hcd⟩ := F.ex
  refine ⟨len, fun A outer s H args us vs Q p room hpin e0 hb r hsp => ?_⟩
  have hlen := len _ _ _ _ _ hsp
  have into : K.In s.heap := e0.mod.kin.keeps fun b o e => (e0.bs b o e).1
  have nol : s.heap.NoLimit := e0.mod.nolimit.keeps fun b o e => (e0.bs b o e).1
  have kinds : ∀ y ∈ ps.zip us, (defScope st).names.lookup y.1 = some .local ∨ ((defScope st).names.lookup y.1 = some .cell ∧ ((cellsFrom (s.heap.objs.size + 1) (defScope st).names []).lookup y.1).isSome = true) := fun ⟨n, v⟩ hy =>
    (S.par n (List.of_mem_zip hy).1).imp id fun q => ⟨q, PySem.W.cellsFrom_some _ _ _ (.inl q)⟩
  refine codeAny_call_function room.depth (into _ _ lk) rfl S.co S.gen rfl (PySem.W.codeRec_of into hcd) (hb _ _ _ _ (wpAny_newFunctionEnv_cells S.kind kinds fun env he s1 x => ?_))
  subst he
  refine ⟨nol.keeps x.toInCall.keep, codeAny_func ?_⟩
  obtain ⟨t, ht, hq⟩ := hbody cdv A outer s H vs Q p (room.deeper _) hsp
  have I : Inv (L2H.cxH CX0 P w K mg base N qual (defScope st) f cdv A outer s H E0 p) [] (L2.start N vs) H s1 := L2H.inv_startH S hpin e0 hlen r x
  refine wpAny_mono (ht.run [] s1 (L2.start N vs) H _ I hq) (fun fl s' hs => ?_) fun e s' hs => hs
  have done : ∀ {σ' : St} {H' : Hp} {v : V} {u : Value}, Inv (L2H.cxH CX0 P w K mg base N qual (defScope st) f cdv A outer s H E0 p) [] σ' H' s' → RelV v u → Q v H' → CE outer P w H s Q u s' := fun J rv q => ⟨_, _, J.os, J.bare, J.base, J.hok, rv, q⟩
  rcases fl with u | _ | _ | _ <;> first | (obtain ⟨σ', H', J, q⟩ := hs; exact done (v := V.non) (u := Value.none) J rfl q) | (obtain ⟨v, σ', H', J, rv, q⟩ := hs; exact done J rv q) | (obtain ⟨_, _, _, q⟩ := hs; exact False.elim q)
end
section
variable {X : Cx} {k : Nat} {f : Addr} {fd : FuncData} {ps : List Str} {sp : Addr × Obj → Sp} {x : Str} {q pos : Pos} {e : Expr} {es : List Expr} {t : TA} {p : Addr × Obj}
def tCallP (sp : Sp) (t : TA) : TE := fun σ H Q => t σ H fun vs H1 => sp vs H1 Q E0
theorem pe_callP (F : FnS X.prog X.w X.K X.mg X.base k f fd ps sp) (hr : L2H.RoomH k X.A) (hp : p ∈ X.pn) (hg : Gl X x) (hm : X.mg x = some (.ref f)) (hk : PySem.W.keepIn X.K (.ref f) = true) (hb : Binds X.K fd ps [])
    (ha : PA X (e :: es) t) (hdb : (x == ("__debug__" : Str)) = false := by decide) (he : starEach (e :: es) X.env = (false, eval e X.env) :: starEach es X.env := by rfl) (hpl : (backTo pos (starEach es X.env)).any (·.1) = false := by rfl) :
    PE X (.Call (.Name x q) (e :: es) [] pos) (tCallP (sp p) t) := by
  refine ⟨fun pins s σ H Q I h => wpAny_Call_Name_kw (ld_glob I hg hm (PySem.W.callWith_K (h₀ := X.base) I.ok.mod.kin hk (thn (ha.run pos pins s σ H _ I h) fun us s1 ⟨vs, H1, I1, r, z⟩ => ⟨I1.kIn, ?_⟩) he hpl) hdb)⟩
  have hl : us.length = ps.length := (r.length).symm.trans (F.len _ _ _ _ _ z)
  have b := hb s1 us I1.kIn (by rw [List.append_nil]; exact hl)
  rw [List.append_nil] at b
  obtain ⟨p1, p2, p3, p4, p5⟩ := I1.pin p (List.mem_append_left _ hp)
  refine wpAny_call (codeAny_mono (F.run X.A X.stack s1 H1 ⟨us, []⟩ us vs Q p hr ⟨p1, p2, fun m => (List.mem_cons.mp (I1.stkSub p.1 m)).elim p3 p4, p5⟩ I1.env0 b r z) fun y s' hq => ?_)
  rcases y with er | fl
  · exact pass0 pins σ H1 s1 er s' I1 hq
  · rcases fl with u | _ | _ | _ <;> first | exact I1.after hq | exact False.elim hq
end
/-! ## reading a field of the exception -/
/-- of a class: its instances' field f may be read -/
structure XfAt (K : PySem.W.Frag) (c f : Str) : Prop where
  at_ : ∀ a, ClsN K c a → XfC K a ∧ PySem.W.findIn K (.ref a) f = some none
theorem pe_xfP {X : Cx} {a C : Addr} {oe : Obj} {cls : Value} {d : Option Addr} {e : Expr} {te : TE} {pos : Pos} {n : Str} (hp : (a, oe) ∈ X.pn) (T : XfC X.K C) (hno : PySem.W.findIn X.K (.ref C) n = some none)
    (hz : Zc cls d oe) (hf : ∃ vs, oe.data = .fields vs) (he : PE X e te) (hb : attributeBase e n X.env (eval e X.env) = eval e X.env := by rfl) : PE X (.Attribute e n pos) (tXf a cls d C n te) := by
  refine ⟨fun pins s σ H Q I h => attr_of hb (thn (he.run pins s σ H _ I h) fun u s1 ⟨x, H1, I1, rx, ex, ec, dd, fs, v, ed, ea, l, q⟩ => ?_)⟩
  subst ex ec ed
  cases (show u = Value.ref a from rx)
  have ha := (I1.pin (a, oe) (List.mem_append_left _ hp)).1
  obtain ⟨vs, hd⟩ := hf
  have hx : ObjOk X.prog X.w H1 s1.heap dd (.xd fs) := I1.hok dd _ ea
  obtain ⟨mA, hns, hr⟩ := hx
  obtain ⟨od, ho, hl⟩ := lookIn_ns hns
  obtain ⟨y, hy, ry⟩ := RelO.some_of (v := v) (o := mA n) (by rw [← l]; exact hr n)
  have J : PySem.W.InstAt s1.heap a oe C (some od) := ⟨ha, hz.1, by unfold PySem.W.notCls; rw [hd] <;> rfl, by rw [hz.2]; exact ho⟩
  exact HandSPX.exc_get I1.kIn J T.ga T.gg T.exC (PySem.W.findObj_own T.hdC hno rfl (by rw [hl, hy])) (handed_of ry) ⟨v, H1, I1.tok _, ry, q⟩
def lookF (fs : List (Str × D)) (f : Str) : Option D := fs.lookup f
theorem rpF_look {K : PySem.W.Frag} {F : Hp} {f : Str} : ∀ {fs : List (Str × D)} {ys : List (Str × V)} {d : D}, RpF K F fs ys → lookF fs f = some d → ∃ v, ys.lookup f = some v ∧ Rp K F d v
  | [], ys, d, h, e => by cases e
  | (g, d0) :: fs, ys, d, h, e => by
    unfold RpF at h
    obtain ⟨v, ws, rfl, h1, h2⟩ := h
    unfold lookF at e
    rw [List.lookup_cons] at e ⊢
    cases q : (f == g) with
    | true =>
      rw [q] at e
      cases e
      exact ⟨v, rfl, h1⟩
    | false =>
      rw [q] at e
      exact rpF_look h2 e
/-- e.f, e the exception; R: the classes whose instances have it -/
def cXf (R : List Str) (f : Str) (x : Exc) : FE := fun ρ => match x.fs with
  | some fs => if R.contains x.cls = true then match lookF fs f with
      | some d => .ok (.dat d, ρ)
      | none => .stuck
    else .stuck
  | none => .stuck
/-- the context of a def called in a suite: its parameter is the exception -/
def plF (Y : Cx) (x : Exc) (a : Addr) (d : Option Addr) : Fam where
  Ix := Unit
  at_ := fun _ => Y
  K := Y.K
  hK := fun _ => rfl
  inv := fun σ F => σ[(0 : Nat)]? = some (some (V.ref a)) ∧ XfI Y.K F x.fs d
  ps := [0]
  mono := fun h s k => ⟨(k 0 List.mem_cons_self).trans h.1, h.2.mono s⟩
section
variable {T : List (Addr × Str)} {W : WX}
theorem de_xfA {X : Fam} {x : Exc} {i : Nat} {a : Addr} {cls : Value} {d : Option Addr} {R : List Str} {f n : Str} {p1 pos : Pos} (hcl : ∃ C', cls = .ref C' ∧ ClsN X.K x.cls C') (h : ∀ c ∈ R, XfAt X.K c f)
    (hinv : ∀ {σ F}, X.inv σ F → σ[i]? = some (some (.ref a)) ∧ XfI X.K F x.fs d) (hpn : ∀ j, ∃ oe, (a, oe) ∈ (X.at_ j).pn ∧ Zc cls d oe ∧ ∃ vs, oe.data = .fields vs)
    (hN : ∀ j, (X.at_ j).N[i]? = some n) (hvis : ∀ j, Vis (X.at_ j).env.scope n)
    (hdb : (n == ("__debug__" : Str)) = false := by decide) (hcd : (n == ("__classdict__" : Str)) = false := by decide) (hb : ∀ j, attributeBase (.Name n p1) f (X.at_ j).env (eval (.Name n p1) (X.at_ j).env) = eval (.Name n p1) (X.at_ j).env := by intro _; rfl) :
    DE X T W (.Attribute (.Name n p1) f pos) (cXf R f x) := by
  by_cases hR : R.contains x.cls = true
  · obtain ⟨C', rfl, nC'⟩ := hcl
    obtain ⟨xc, hno⟩ := (h x.cls (List.contains_iff_mem.mp hR)).at_ C' nC'
    refine ⟨tXf a (.ref C') d C' f (tVar i), fun j => ?_, fun σ F H A ρ Q at_ p => ?_⟩
    · obtain ⟨oe, hp, hz, hf⟩ := hpn j
      have eK := X.hK j
      rw [← eK] at xc hno
      exact pe_xfP hp xc hno hz hf (pe_var (hN j) (hvis j) hdb hcd) (hb j)
    · obtain ⟨s0, xi⟩ := hinv at_.inv
      unfold cXf at p
      cases q1 : x.fs with
      | none =>
        rw [q1] at p
        exact p.elim
      | some fs =>
        rw [q1] at p xi
        simp only [hR, if_true] at p
        obtain ⟨dd, ys, rfl, e1, r1⟩ := xi
        cases q2 : lookF fs f with
        | none =>
          rw [q2] at p
          exact p.elim
        | some d0 =>
          rw [q2] at p
          obtain ⟨v, l, rv⟩ := rpF_look r1 q2
          exact ⟨_, s0, rfl, rfl, dd, ys, v, rfl, at_.sub _ _ e1, l, p.now (Go.refl at_.sub) v (at_.rep.dat rv)⟩
  · refine de_as de_dead fun ρ => ?_
    unfold cXf
    cases x.fs with
    | none => rfl
    | some fs =>
      simp only [if_neg hR]
      rfl
/-- .. in the suite -/
theorem de_xf {X : Fam} {x : Exc} {i : Nat} {a : Addr} {cls : Value} {d : Option Addr} {R : List Str} {f n : Str} {p1 pos : Pos} (hcl : ∃ C', cls = .ref C' ∧ ClsN X.K x.cls C') (h : ∀ c ∈ R, XfAt X.K c f)
    (hN : ∀ j, (X.at_ j).N[i]? = some n) (hvis : ∀ j, Vis (X.at_ j).env.scope n)
    (hdb : (n == ("__debug__" : Str)) = false := by decide) (hcd : (n == ("__classdict__" : Str)) = false := by decide) (hb : ∀ j, attributeBase (.Name n p1) f ((suF X x i a cls d).at_ j).env (eval (.Name n p1) ((suF X x i a cls d).at_ j).env) = eval (.Name n p1) ((suF X x i a cls d).at_ j).env := by intro _; rfl) :
    DE (suF X x i a cls d) T W (.Attribute (.Name n p1) f pos) (cXf R f x) :=
  de_xfA (X := suF X x i a cls d) (i := i) (a := a) (cls := cls) (d := d) hcl h (fun h => h.2) (fun j => ⟨j.2.1, List.mem_cons_self, j.2.2.2⟩) (fun j => hN j.1) (fun j => hvis j.1) hdb hcd hb
/-! the def called there -/
def spPl (K : PySem.W.Frag) (T : List (Addr × Str)) (n : Nat) (m : Exc → FS) : Addr × Obj → Sp := fun p vs H Q _ => vs.length = 1 ∧ vs = [.ref p.1] ∧ ∃ F x cls d, (Zc cls d p.2 ∧ ∃ us, p.2.data = .fields us) ∧ (∃ C', cls = .ref C' ∧ ClsN K x.cls C') ∧ XfI K F x.fs d ∧ Sub F H ∧ NoTb F ∧ LamX.Tabs T H ∧
  PostT K T F H (m x (List.replicate n .un)) Q
structure PlAt (P : Program) (w : World) (K : PySem.W.Frag) (mg : Str → Option Value) (base : Heap) (T : List (Addr × Str)) (x : Str) (k n : Nat) (m : Exc → FS) : Prop where
  ex : ∃ (f : Addr) (fd : FuncData) (ps : List Str), FnS P w K mg base k f fd ps (spPl K T n m) ∧ mg x = some (.ref f) ∧ PySem.W.keepIn K (.ref f) = true ∧ Binds K fd ps []
theorem pl_ok {P : Program} {w : World} {K : PySem.W.Frag} {mg : Str → Option Value} {base : Heap} {x e : Str} {st : Stmt} {f : Addr} {fd : FuncData} {N : List Str} {k : Nat} {m : Exc → FS} (A : DefAt K mg x st [e] f fd) (S : FnScope N [e] (defScope st))
    (hb : ∀ (x' : Exc) (cdv : Value) (A : Around) (outer : List Env) (s : Shared) (H : Hp) (p : Addr × Obj) (cls : Value) (d : Option Addr), L2H.RoomH k (A.deeper (envOfC x (defScope st) s.heap.objs.size f cdv)) → (∃ C', cls = .ref C' ∧ ClsN K x'.cls C') → (Zc cls d p.2 ∧ ∃ us, p.2.data = .fields us) →
      DSs (plF (L2H.cxH CX0 P w K mg base N x (defScope st) f cdv A outer s H E0 p) x' p.1 d) T W0 [0] (defBody st) (m x')) : PlAt P w K mg base T x (k + 1) N.length m := by
  refine ⟨f, fd, [e], fnS_of A.fn S (fun p vs H Q E h => h.1) fun cdv A outer s H vs Q p room h => ?_, A.g, A.fn.kp, A.b⟩
  obtain ⟨hl, rfl, F, x', cls, d, hz, hcl, xi, sub, nt, tab, po⟩ := h
  obtain ⟨t, pt, so⟩ := hb x' cdv A outer s H p cls d room hcl hz
  refine ⟨t, pt (), ?_⟩
  have n1 : 1 ≤ N.length := by
    have := congrArg List.length S.pre
    rw [List.length_take, List.length_singleton] at this
    omega
  have hlen : (L2.start N [V.ref p.1]).length = N.length := by
    unfold L2.start
    rw [List.length_append, List.length_map, List.length_replicate, List.length_singleton]
    omega
  have rep : RepS K F H (List.replicate N.length .un) (L2.start N [V.ref p.1]) [] := by
    have := rep_unsOf (K := K) (F := F) (H := H) (L2.start N [V.ref p.1])
    rw [hlen] at this
    exact this
  exact so (fun j hj => hj) (L2.start N [.ref p.1]) F H [] _ _ ⟨sub, tab, rep, ⟨by unfold L2.start; rfl, xi⟩, nt⟩ (postS_of po (Go.refl sub))
def cCallS (n : Nat) (m : Exc → FS) (x : Exc) : FE := fun ρ => match m x (List.replicate n .un) with
  | .rt b _ => cLam.fin2 ρ (frz b)
  | .nx _ => .ok (.dat .non, ρ)
  | _ => .stuck
theorem de_callS {X : Fam} {P : Program} {w : World} {K : PySem.W.Frag} {mg : Str → Option Value} {base : Heap} {x : Exc} {i k n : Nat} {a : Addr} {cls : Value} {d : Option Addr} {m : Exc → FS} {g nm : Str} {p p1 pos : Pos} (h : PlAt P w K mg base T g k n m) (eK : X.K = K)
    (e : ∀ i, (X.at_ i).prog = P ∧ (X.at_ i).w = w ∧ (X.at_ i).mg = mg ∧ (X.at_ i).base = base) (hr : ∀ j, L2H.RoomH k ((suF X x i a cls d).at_ j).A) (hg : ∀ i, Gl (X.at_ i) g) (hcl : ∃ C', cls = .ref C' ∧ ClsN X.K x.cls C')
    (hN : ∀ j, (X.at_ j).N[i]? = some nm) (hvis : ∀ j, Vis (X.at_ j).env.scope nm) (hgd : (g == ("__debug__" : Str)) = false := by decide) (hdb : (nm == ("__debug__" : Str)) = false := by decide) (hcd : (nm == ("__classdict__" : Str)) = false := by decide)
    (he : ∀ j, starEach [.Name nm p1] (X.at_ j).env = (false, eval (.Name nm p1) (X.at_ j).env) :: starEach [] (X.at_ j).env := by intro _; rfl) (hpl : ∀ j, (backTo pos (starEach [] (X.at_ j).env)).any (·.1) = false := by intro _; rfl) :
    DE (suF X x i a cls d) T W (.Call (.Name g p) [.Name nm p1] [] pos) (cCallS n m x) := by
  obtain ⟨f, fd, ps, F1, hm, hk, hb⟩ := h.ex
  refine ⟨fun σ H Q => ∀ oe, (Zc cls d oe ∧ ∃ us, oe.data = .fields us) → tCallP (spPl K T n m (a, oe)) (tCons (tVar i) tNil) σ H Q, fun j => ?_, fun σ F H A ρ Q at_ po oe hz => ?_⟩
  · obtain ⟨e1, e2, e3, e4⟩ := e j.1
    have eK' : (X.at_ j.1).K = K := (X.hK j.1).trans eK
    subst e1 e2 e3 e4 eK'
    have pe := pe_callP (X := (suF X x i a cls d).at_ j) (p := (a, j.2.1)) (q := p) (pos := pos) F1 (hr j) List.mem_cons_self (hg j.1) hm hk hb (pa_cons (pe_var (hN j.1) (hvis j.1) hdb hcd) pa_nil (he j.1)) hgd (he j.1) (hpl j.1)
    exact ⟨fun pins s σ H Q I h => pe.run pins s σ H Q I (h j.2.1 j.2.2.2)⟩
  · have iv := at_.inv
    refine ⟨_, iv.2.1, rfl, rfl, F, x, cls, d, hz, by rw [← eK]; exact hcl, by rw [← eK]; exact iv.2.2, at_.sub, at_.ntb, at_.tab, ?_⟩
    unfold cCallS at po
    subst eK
    cases q : m x (List.replicate n .un) with
    | nx ρ' =>
      rw [q] at po
      intro F' H' A' g
      have gw : Go T A F H A F' H' := (((g.beside (A2 := A)).more fun a m => by simpa using m).less fun a m => List.mem_append_left _ m)
      exact po.now gw .non ((g.keepS at_.rep fun a _ z => nomatch z).1.dat rp_non)
    | rt b ρ' =>
      rw [q] at po
      simp only at po
      cases qf : frz b with
      | none =>
        rw [qf] at po
        exact po.elim
      | some d0 =>
        rw [qf] at po
        intro v σ' F' H' A' g r
        obtain ⟨v', F2, A2, e', g2, _, rd⟩ := freeze (T := T) r g.sub qf
        cases e'
        have gg : Go T [] F H [] F2 H' := (g.trans g2).less fun a m => nomatch m
        have gw : Go T A F H A F2 H' := (((gg.beside (A2 := A)).more fun a m => by simpa using m).less fun a m => List.mem_append_left _ m)
        exact po.now gw v ((gg.keepS at_.rep fun a _ z => nomatch z).1.dat rd)
    | bk ρ' =>
      rw [q] at po
      exact po.elim
    | ct ρ' =>
      rw [q] at po
      exact po.elim
    | er x2 ρ' =>
      rw [q] at po
      exact po.elim
    | stuck =>
      rw [q] at po
      exact po.elim
end
theorem ask_hr {X : Cx} {Ng : List Str} {x : Str} {sg : Scope} {g : Addr} {cdg : Value} {s : Shared} {H : Hp} {x0 : Exc} {i : Nat} {a : Addr} {cls : Value} {d : Option Addr} {k : Nat} (hr : Room (k + 2) X.A) :
    ∀ j, L2H.RoomH 1 ((suF (oneF (cxA X Ng x sg g cdg s H)) x0 i a cls d).at_ j).A := fun j => by
  have h := (hr.deeper (envOfC x sg s.heap.objs.size g cdg)).mono (by omega : 1 ≤ k + 1)
  exact ⟨h.dp, h.un⟩
end Dl

set_option Elab.async false
set_option linter.all false
set_option maxRecDepth 100000
set_option maxHeartbeats 1000000
namespace Dl
open PySem PySem.Spec L2
open PyProof.Rows hiding St

/-! ## evaluation of exceptions with fields -/
section
variable {ρ : Ev} {d : D}
def rf1 (x : Str) (fs : List Str) (ρ : Ev) : Option (List D) → Out
  | some ds => if ds.length = fs.length ∧ ds.length ≤ 900 then .er ⟨x, some (fs.zip ds).reverse⟩ ρ else .stuck
  | none => .stuck
@[simp] theorem e_rf1 (x : Str) (fs : List Str) (ds : List D) : rf1 x fs ρ (some ds) = if ds.length = fs.length ∧ ds.length ≤ 900 then .er ⟨x, some (fs.zip ds).reverse⟩ ρ else .stuck := rfl
theorem e_raiseF {x : Str} {fs : List Str} {f : FA} {os : List Opd} {ρ ρ' : Ev} {ds : List D} (h : f ρ = .ok (os, ρ')) (q : cTup.vals os = some ds) (l : ds.length = fs.length) (l2 : ds.length ≤ 900) : sRaiseF x fs f ρ = .er ⟨x, some (fs.zip ds).reverse⟩ ρ' := by
  unfold sRaiseF
  rw [h]
  show (match cTup.vals os with
    | some ds => if ds.length = fs.length ∧ ds.length ≤ 900 then Out.er ⟨x, some (fs.zip ds).reverse⟩ ρ' else .stuck
    | none => .stuck) = _
  rw [q]
  show (if ds.length = fs.length ∧ ds.length ≤ 900 then Out.er ⟨x, some (fs.zip ds).reverse⟩ ρ' else .stuck) = _
  rw [if_pos ⟨l, l2⟩]
theorem e_cXf {R : List Str} {f : Str} {x : Exc} {fs : List (Str × D)} (h : x.fs = some fs) (hr : R.contains x.cls = true) (l : lookF fs f = some d) : cXf R f x ρ = .ok (.dat d, ρ) := by
  unfold cXf
  rw [h]
  simp only [hr, if_true, l]
theorem e_callS {n : Nat} {m : Exc → FS} {x : Exc} {b : B} {ρ1 : Ev} (h : m x (List.replicate n .un) = .rt b ρ1) (q : frz b = some d) : cCallS n m x ρ = .ok (.dat d, ρ) := by
  unfold cCallS
  rw [h]
  simp only [q]
  rfl
end
end Dl

set_option Elab.async false
set_option linter.all false
set_option maxRecDepth 100000
set_option maxHeartbeats 1000000
namespace Dl
open PySem PySem.Spec L2
open PyProof.Rows hiding St

/-! ## calls of methods and of classes, what is raised told slot by slot -/
def tMethT (C : Addr) (m : Str) (sp : Sp) (E : St → XK) (ta : TE) (t : TA) : TE := fun σ H Q => ta σ H fun x H1 => ∃ a dx fs, x = .ref a ∧ H1 a = some (.ins C dx fs) ∧ fs.lookup m = none ∧ t σ H1 fun vs H2 => sp (x :: vs) H2 Q (E σ)
def tMakeT (C : Addr) (sp : Sp) (E : St → XK) (t : TA) : TE := fun σ H Q => t σ H fun vs H1 => ∀ x dx, H1 x = none → H1 dx = none → dx ≠ x → sp (.ref x :: vs) (upd (upd H1 dx (.own x)) x (.ins C dx [])) (fun v H2 => v = .non ∧ Q (.ref x) H2) (E σ)
section
variable {X : Cx} {CX : CXT} {k : Nat} {f C : Addr} {fd : FuncData} {ps : List Str} {sp : Sp} {E : St → XK} {x m : Str} {p pos apos : Pos} {e o : Expr} {es : List Expr} {ta : TE} {t : TA} {pl : Sem Bool}
theorem run_fnT {pins : List (Addr × Obj)} {σ : St} {H : Hp} {s : Shared} {Q : VK} {us : List Value} {vs : List V} (F : FnOk X.prog X.w X.K X.mg X.base CX k f fd ps sp) (hr : Room k X.A) (hb : Binds X.K fd ps []) (hx : PassesAt CX X σ (E σ))
    (I : Inv X pins σ H s) (r : Vals vs us) (h : sp vs H Q (E σ)) : wpAny (model X.prog X.w) X.A (call (.ref f) us) (EP X pins σ Q) X.xe s := by
  have z := run_fnSD (dvs := []) (ds := []) (E := E) F hr hb .nil hx I r (by rw [List.append_nil]; exact h)
  exact z
theorem pe_methT (he : PE X o ta) (c : Cls X.K C) (hm : Meth X.K C m f) (F : FnOk X.prog X.w X.K X.mg X.base CX k f fd ps sp) (hr : Room k X.A) (hb : Binds X.K fd ps []) (hx : ∀ σ, PassesAt CX X σ (E σ)) (ha : PA X (e :: es) t)
    (hst : starEach (e :: es) X.env = (false, eval e X.env) :: starEach es X.env := by rfl) (hpl : (backTo pos (starEach es X.env)).any (·.1) = false := by rfl)
    (ht : eval (.Call (.Attribute o m apos) (e :: es) [] pos) X.env = (do
      let ov ← eval o X.env
      standAt apos.atName
      let (f, first) ← holding [ov] (getMethod ov m pl)
      callWith pos f first (backTo pos (starEach (e :: es) X.env)) (backToKw pos (keywordEach [] X.env))) := by rfl) : PE X (.Call (.Attribute o m apos) (e :: es) [] pos) (tMethT C m sp E ta t) := by
  refine ⟨fun pins s σ H Q I h => PySem.W.methodCall_KW (pl := pl) (thn (he.run pins s σ H _ I h) fun u s1 ⟨x, H1, I1, rx, a, dx, fs, ex, ea, l, q⟩ => ?_) ht⟩
  subst ex
  cases (show u = Value.ref a from rx)
  refine getmeth_ok I1 ea c hm l (PySem.W.callWith_K (first := [.ref a]) (h₀ := X.base) I.ok.mod.kin hm.kp (thn (ha.run pos pins s1 σ H1 _ I1 q) fun us s2 ⟨vs, H2, I2, r, q2⟩ => ⟨I2.kIn, ?_⟩) hst hpl)
  exact run_fnT (us := .ref a :: us) (vs := .ref a :: vs) F hr hb (hx σ) I2 (.cons rfl r) q2
theorem pe_methT0 (he : PE X o ta) (c : Cls X.K C) (hm : Meth X.K C m f) (F : FnOk X.prog X.w X.K X.mg X.base CX k f fd ps sp) (hr : Room k X.A) (hb : Binds X.K fd ps []) (hx : ∀ σ, PassesAt CX X σ (E σ))
    (ht : eval (.Call (.Attribute o m apos) [] [] pos) X.env = (do
      let ov ← eval o X.env
      standAt apos.atName
      let (f, first) ← holding [ov] (getMethod ov m pl)
      callWith pos f first (backTo pos (starEach [] X.env)) (backToKw pos (keywordEach [] X.env))) := by rfl) : PE X (.Call (.Attribute o m apos) [] [] pos) (tMethT C m sp E ta tNil) := by
  refine ⟨fun pins s σ H Q I h => PySem.W.methodCall_KW (pl := pl) (thn (he.run pins s σ H _ I h) fun u s1 ⟨x, H1, I1, rx, a, dx, fs, ex, ea, l, q⟩ => ?_) ht⟩
  subst ex
  cases (show u = Value.ref a from rx)
  refine getmeth_ok I1 ea c hm l ?_
  have hst : starEach ([] : List Expr) X.env = [] := rfl
  exact PySem.W.callWith_K0 (first := [.ref a]) I1.kIn hm.kp (run_fnT (us := [.ref a]) (vs := [.ref a]) F hr hb (hx σ) I1 (.cons rfl .nil) q)
theorem run_makeT {pins : List (Addr × Obj)} {σ : St} {H : Hp} {s : Shared} {Q : VK} {us : List Value} {vs : List V} (M : Mk X.K C f) (F : FnOk X.prog X.w X.K X.mg X.base CX k f fd ps sp) (hr : Room (k + 1) X.A) (hb : Binds X.K fd ps []) (hx : PassesAt CX X σ (E σ))
    (I : Inv X pins σ H s) (r : Vals vs us)
    (h : ∀ x dx, H x = none → H dx = none → dx ≠ x → sp (.ref x :: vs) (upd (upd H dx (.own x)) x (.ins C dx [])) (fun v H2 => v = .non ∧ Q (.ref x) H2) (E σ)) : wpAny (model X.prog X.w) X.A (call (.ref C) us) (EP X pins σ Q) X.xe s := by
  have big : s.heap.objs.size ≤ s.heap.objs.size + 1 := Nat.le_succ _
  have hq := h (s.heap.objs.size + 1) s.heap.objs.size (I.hok.fresh big) (I.hok.fresh (Nat.le_refl _)) (Nat.ne_of_lt (Nat.lt_succ_self _))
  have I2 := Inv.made (C := C) I
  have rv : Vals (V.ref (s.heap.objs.size + 1) :: vs) (Value.ref (s.heap.objs.size + 1) :: us) := .cons rfl r
  have hl : (Value.ref (s.heap.objs.size + 1) :: us ++ []).length = ps.length := by
    rw [List.append_nil, ← rv.length]
    exact F.len _ _ _ _ hq
  have bt := hb _ (Value.ref (s.heap.objs.size + 1) :: us) I2.kIn hl
  rw [List.append_nil] at bt
  refine wpAny_call (make_map (f := f) I.kIn M.makes M.init (beq_iff_eq.mp M.fn) (codeAny_mono (F.run _ X.stack _ _ ⟨Value.ref (s.heap.objs.size + 1) :: us, []⟩ (Value.ref (s.heap.objs.size + 1) :: us) _ _ (E σ) (hr.make C us []) (I2.env0.make C us []) bt rv hq) fun y s' hy => ?_))
  rcases y with er | fl
  · exact hx pins _ _ er s' I2 hy
  · rcases fl with u | _ | _ | _ <;> first | (obtain ⟨v, H', I3, rw', ev, q3⟩ := I2.after hy; subst ev; exact ⟨rw', ⟨V.ref (s.heap.objs.size + 1), H', I3, rfl, q3⟩⟩) | exact False.elim hy
theorem pe_makeT (M : Mk X.K C f) (F : FnOk X.prog X.w X.K X.mg X.base CX k f fd ps sp) (hr : Room (k + 1) X.A) (hg : Gl X x) (hm : X.mg x = some (.ref C)) (hb : Binds X.K fd ps []) (hx : ∀ σ, PassesAt CX X σ (E σ))
    (ha : PA X (e :: es) t) (hdb : (x == ("__debug__" : Str)) = false := by decide) (he : starEach (e :: es) X.env = (false, eval e X.env) :: starEach es X.env := by rfl) (hpl : (backTo pos (starEach es X.env)).any (·.1) = false := by rfl) :
    PE X (.Call (.Name x p) (e :: es) [] pos) (tMakeT C sp E t) := by
  refine ⟨fun pins s σ H Q I h => wpAny_Call_Name_kw (ld_glob I hg hm (PySem.W.callWith_K (h₀ := X.base) I.ok.mod.kin M.kp (thn (ha.run pos pins s σ H _ I h) fun us s1 ⟨vs, H1, I1, r, q⟩ => ⟨I1.kIn, ?_⟩) he hpl) hdb)⟩
  exact run_makeT M F hr hb (hx σ) I1 r q
theorem pe_makeT0 (M : Mk X.K C f) (F : FnOk X.prog X.w X.K X.mg X.base CX k f fd ps sp) (hr : Room (k + 1) X.A) (hg : Gl X x) (hm : X.mg x = some (.ref C)) (hb : Binds X.K fd ps []) (hx : ∀ σ, PassesAt CX X σ (E σ))
    (hdb : (x == ("__debug__" : Str)) = false := by decide) : PE X (.Call (.Name x p) [] [] pos) (tMakeT C sp E tNil) :=
  ⟨fun pins s σ H Q I h => wpAny_Call_Name_kw (ld_glob I hg hm (PySem.W.callWith_K0 I.kIn M.kp (run_makeT (us := []) M F hr hb (hx σ) I .nil h)) hdb)⟩
end
/-! ## fields -/
/-- of a class: its instances' field f is read and stored plainly -/
structure FldAt (K : PySem.W.Frag) (c f : Str) : Prop where
  at_ : ∀ a, ClsN K c a → Cls K a ∧ NoAttr K a f
def lookO (fs : List (Str × O)) (f : Str) : Option O := fs.lookup f
def putO (f : Str) (o : O) : List (Str × O) → List (Str × O)
  | [] => [(f, o)]
  | (g, x) :: r => if g = f then (g, o) :: r else (g, x) :: putO f o r
theorem orepF_look {K : PySem.W.Frag} {F H : Hp} {f : Str} : ∀ {fs : List (Str × O)} {ys : List (Str × V)} {A : List Addr} {o : O}, ORepF K F H fs ys A → lookO fs f = some o → ∃ v A1, ys.lookup f = some v ∧ ORep K F H o v A1 ∧ ∀ a ∈ A1, a ∈ A
  | [], ys, A, o, h, e => by cases e
  | (g, o0) :: fs, ys, A, o, h, e => by
    unfold ORepF at h
    obtain ⟨v, ws, A1, A2, rfl, rfl, dj, h1, h2⟩ := h
    unfold lookO at e
    rw [List.lookup_cons] at e ⊢
    cases q : (f == g) with
    | true =>
      rw [q] at e
      cases e
      exact ⟨v, A1, rfl, h1, fun a m => List.mem_append_left _ m⟩
    | false =>
      rw [q] at e
      obtain ⟨v', A3, e1, r, m⟩ := orepF_look h2 e
      exact ⟨v', A3, e1, r, fun a z => List.mem_append_right _ (m a z)⟩
theorem orepF_none {K : PySem.W.Frag} {F H : Hp} {f : Str} : ∀ {fs : List (Str × O)} {ys : List (Str × V)} {A : List Addr}, ORepF K F H fs ys A → lookO fs f = none → ys.lookup f = none
  | [], ys, A, h, e => by
    unfold ORepF at h
    rw [h.1]
    rfl
  | (g, o0) :: fs, ys, A, h, e => by
    unfold ORepF at h
    obtain ⟨v, ws, A1, A2, rfl, rfl, dj, h1, h2⟩ := h
    unfold lookO at e
    rw [List.lookup_cons] at e ⊢
    cases q : (f == g) with
    | true =>
      rw [q] at e
      cases e
    | false =>
      rw [q] at e
      exact orepF_none h2 e
theorem rpF_none {K : PySem.W.Frag} {F : Hp} {f : Str} : ∀ {fs : List (Str × D)} {ys : List (Str × V)}, RpF K F fs ys → lookF fs f = none → ys.lookup f = none
  | [], ys, h, e => by
    unfold RpF at h
    rw [h]
    rfl
  | (g, o0) :: fs, ys, h, e => by
    unfold RpF at h
    obtain ⟨v, ws, rfl, h1, h2⟩ := h
    unfold lookF at e
    rw [List.lookup_cons] at e ⊢
    cases q : (f == g) with
    | true =>
      rw [q] at e
      cases e
    | false =>
      rw [q] at e
      exact rpF_none h2 e
theorem orepF_len {K : PySem.W.Frag} {F H : Hp} : ∀ {fs : List (Str × O)} {ys : List (Str × V)} {A : List Addr}, ORepF K F H fs ys A → ys.length = fs.length
  | [], ys, A, h => by
    unfold ORepF at h
    rw [h.1]
    rfl
  | (g, o0) :: fs, ys, A, h => by
    unfold ORepF at h
    obtain ⟨v, ws, A1, A2, rfl, rfl, dj, h1, h2⟩ := h
    rw [List.length_cons, List.length_cons, orepF_len h2]
theorem orepF_put {K : PySem.W.Frag} {F H : Hp} {f : Str} {o : O} {v : V} {B1 : List Addr} (ho : ORep K F H o v B1) : ∀ {fs : List (Str × O)} {ys : List (Str × V)} {A : List Addr}, ORepF K F H fs ys A → (∀ a ∈ B1, a ∉ A) → ∃ A', ORepF K F H (putO f o fs) (putF f v ys) A' ∧ ∀ a ∈ A', a ∈ A ∨ a ∈ B1
  | [], ys, A, h, d => by
    unfold ORepF at h
    obtain ⟨rfl, rfl⟩ := h
    refine ⟨B1 ++ [], ?_, fun a m => .inr (by simpa using m)⟩
    unfold putO putF ORepF
    refine ⟨v, [], B1, [], rfl, rfl, (fun a _ z => by cases z), ho, ?_⟩
    unfold ORepF
    exact ⟨rfl, rfl⟩
  | (g, o0) :: fs, ys, A, h, d => by
    unfold ORepF at h
    obtain ⟨v0, ws, A1, A2, rfl, rfl, dj, h1, h2⟩ := h
    unfold putO putF
    by_cases q : g = f
    · rw [if_pos q, if_pos q]
      refine ⟨B1 ++ A2, ?_, fun a m => ?_⟩
      · unfold ORepF
        exact ⟨v, ws, B1, A2, rfl, rfl, fun a m z => d a m (List.mem_append_right _ z), ho, h2⟩
      · rcases List.mem_append.mp m with m | m
        · exact .inr m
        · exact .inl (List.mem_append_right _ m)
    · rw [if_neg q, if_neg q]
      obtain ⟨A', r, m'⟩ := orepF_put ho h2 fun a m z => d a m (List.mem_append_right _ z)
      refine ⟨A1 ++ A', ?_, fun a m => ?_⟩
      · unfold ORepF
        refine ⟨v0, _, A1, A', rfl, rfl, fun a m z => ?_, h1, r⟩
        rcases m' a z with z | z
        · exact dj a m z
        · exact d a z (List.mem_append_left _ m)
      · rcases List.mem_append.mp m with m | m
        · exact .inl (List.mem_append_left _ m)
        · exact (m' a m).imp (List.mem_append_right _) id
/-- a binding as a tree -/
def toO : B → Option O
  | .un => none
  | .dat d => some (.fz d)
  | .own ds => some (.lst (ds.map .fz))
  | .odk ds => some (.dk (ds.map fun p => (p.1, .fz p.2)))
  | .odt ds => some (.dt (ds.map fun p => (p.1, .fz p.2)))
  | .ext o => some o
section
variable {K : PySem.W.Frag} {F H : Hp}
theorem orepL_fz : ∀ {ds : List D} {xs : List V}, RpL K F ds xs → ORepL K F H (ds.map .fz) xs []
  | [], xs, h => by
    rw [h.inv0]
    unfold List.map ORepL
    exact ⟨rfl, rfl⟩
  | d :: ds, xs, h => by
    obtain ⟨v, ws, rfl, h1, h2⟩ := h.inv
    rw [List.map_cons]
    unfold ORepL
    refine ⟨v, ws, [], [], rfl, rfl, (fun a m => by cases m), ?_, orepL_fz h2⟩
    unfold ORep
    exact ⟨rfl, h1⟩
theorem orepK_fz : ∀ {ds : List (Key × D)} {xs : List (Key × V)}, RpK K F ds xs → ORepK K F H (ds.map fun p => (p.1, .fz p.2)) xs []
  | [], xs, h => by
    unfold RpK at h
    rw [h]
    unfold List.map ORepK
    exact ⟨rfl, rfl⟩
  | (k, d) :: ds, xs, h => by
    unfold RpK at h
    obtain ⟨v, ws, rfl, h1, h2⟩ := h
    rw [List.map_cons]
    unfold ORepK
    refine ⟨v, ws, [], [], rfl, rfl, (fun a m => by cases m), ?_, orepK_fz h2⟩
    unfold ORep
    exact ⟨rfl, h1⟩
theorem orepT_fz : ∀ {ds : List (List Key × D)} {xs : List (List Key × V)}, RpT K F ds xs → ORepT K F H (ds.map fun p => (p.1, .fz p.2)) xs []
  | [], xs, h => by
    unfold RpT at h
    rw [h]
    unfold List.map ORepT
    exact ⟨rfl, rfl⟩
  | (k, d) :: ds, xs, h => by
    unfold RpT at h
    obtain ⟨v, ws, rfl, h1, h2⟩ := h
    rw [List.map_cons]
    unfold ORepT
    refine ⟨v, ws, [], [], rfl, rfl, (fun a m => by cases m), ?_, orepT_fz h2⟩
    unfold ORep
    exact ⟨rfl, h1⟩
theorem toO_rep {b : B} {sv : Option V} {ft : List Addr} {o : O} (h : BRep K F H b sv ft) (e : toO b = some o) : ∃ v, sv = some v ∧ ORep K F H o v ft := by
  cases b with
  | un => cases e
  | dat d =>
    cases e
    obtain ⟨rfl, v, rfl, r⟩ := h
    refine ⟨v, rfl, ?_⟩
    unfold ORep
    exact ⟨rfl, r⟩
  | own ds =>
    cases e
    obtain ⟨l, xs, rfl, rfl, e1, n, r⟩ := h
    refine ⟨_, rfl, ?_⟩
    unfold ORep
    exact ⟨l, xs, [], rfl, rfl, e1, n, by simp, orepL_fz r⟩
  | odk ds =>
    cases e
    obtain ⟨l, xs, rfl, rfl, e1, n, r⟩ := h
    refine ⟨_, rfl, ?_⟩
    unfold ORep
    exact ⟨l, xs, [], rfl, rfl, e1, n, by simp, orepK_fz r⟩
  | odt ds =>
    cases e
    obtain ⟨l, xs, rfl, rfl, e1, n, r⟩ := h
    refine ⟨_, rfl, ?_⟩
    unfold ORep
    exact ⟨l, xs, [], rfl, rfl, e1, n, by simp, orepT_fz r⟩
  | ext o' =>
    cases e
    exact h
end
/-- a field of what an operand tells -/
def fldB (R : List Str) (f : Str) (ρ : Ev) : Opd → Option D
  | .val (.ins c fs) => if R.contains c = true then lookF fs f else none
  | .var i => match ρ[i]? with
    | some (.ext (.ins c os)) => if R.contains c = true then (match lookO os f with
      | some (.fz d) => some d
      | _ => none) else none
    | _ => none
  | _ => none
def cFld (R : List Str) (f : Str) (fo : FO) : FE := fun ρ => fo ρ >>= fun p => ofO (fldB R f p.2 p.1) >>= fun d => .ok (.dat d, p.2)
section
variable {X : Fam} {T : List (Addr × Str)} {W : WX} {Pr : List Nat}
/-- the operand is an instance -/
theorem ins_of {K : PySem.W.Frag} {F H : Hp} {ρ : Ev} {σ : St} {A : List Addr} {i : Nat} {v : V} {c : Str} {os : List (Str × O)} (r : RepS K F H ρ σ A) (h : σ[i]? = some (some v)) (q : ρ[i]? = some (.ext (.ins c os))) :
    ∃ a C dx ys A1, v = .ref a ∧ ClsN K c C ∧ H a = some (.ins C dx ys) ∧ H dx = some (.own a) ∧ ORepF K F H os ys A1 := by
  obtain ⟨sv, ft, e1, k, _⟩ := r.get q
  rw [h] at e1
  cases e1
  obtain ⟨v', e2, k⟩ := k
  cases e2
  unfold ORep at k
  obtain ⟨l, C, dx, xs, A1, rfl, _, nc, e, e2, _, _, _, _, _, r1⟩ := k
  exact ⟨l, C, dx, xs, A1, rfl, nc, e, e2, r1⟩
theorem de_fld {e : Expr} {f : Str} {fo : FO} {R : List Str} {pos : Pos} (h : ∀ c ∈ R, FldAt X.K c f) (k : DO X T W e fo) (hb : ∀ i, attributeBase e f (X.at_ i).env (eval e (X.at_ i).env) = eval e (X.at_ i).env := by intro _; rfl) :
    DE X T W (.Attribute e f pos) (cFld R f fo) := by
  obtain ⟨t, pe, s⟩ := k
  refine ⟨tFld X.K t f, fun i => ?_, fun σ F H A ρ Q a p => s σ F H A ρ _ a ?_⟩
  · have := pe_fld (pos := pos) (pe i) (hb i)
    rw [X.hK i] at this
    exact this
  · refine p.bind.imp fun o ρ1 F1 H1 A1 g1 p1 v r1 o1 => ?_
    simp only at p1
    obtain ⟨d, e1, p2⟩ := p1.opt
    clear p1
    cases o with
    | val d0 =>
      cases d0 with
      | ins c fs =>
        simp only [fldB] at e1
        split at e1
        · rename_i hR
          have o1 : Rp X.K F1 (.ins c fs) v := o1
          unfold Rp at o1
          obtain ⟨a', C, dx, ys, rfl, nC, q1, q2, rf⟩ := o1
          obtain ⟨hc, hn⟩ := (h c (List.contains_iff_mem.mp hR)).at_ C nC
          obtain ⟨v', l, rv⟩ := rpF_look rf e1
          exact ⟨a', C, dx, ys, v', rfl, g1.sub _ _ q1, hc, hn, l, p2.now (Go.refl g1.sub) v' (r1.dat rv)⟩
        · cases e1
      | _ => cases e1
    | var i =>
      simp only [fldB] at e1
      split at e1
      · rename_i c os q
        split at e1
        · rename_i hR
          split at e1
          · rename_i d' ql
            cases e1
            obtain ⟨a', C, dx, ys, A2, rfl, nC, q1, q2, rf⟩ := ins_of r1 o1 q
            obtain ⟨hc, hn⟩ := (h c (List.contains_iff_mem.mp hR)).at_ C nC
            obtain ⟨v', A3, l, rv, _⟩ := orepF_look rf ql
            unfold ORep at rv
            exact ⟨a', C, dx, ys, v', rfl, q1, hc, hn, l, p2.now (Go.refl g1.sub) v' (r1.dat rv.2)⟩
          · cases e1
        · cases e1
      · cases e1
/-! ### n.f = e -/
def sFld (R : List Str) (i : Nat) (f : Str) (fe : FE) : FS := fun ρ => (fe ρ).out fun p => match p.2[i]? with
  | some (.ext (.ins c os)) => if (R.contains c && decide (os.length < 900)) = true then (match toO p.1 with
    | some o => .nx (p.2.set i (.ext (.ins c (putO f o os))))
    | none => .stuck) else .stuck
  | _ => .stuck
theorem ds_fld {n f : Str} {i : Nat} {e : Expr} {fe : FE} {R : List Str} {p1 p2 pos : Pos} (h : ∀ c ∈ R, FldAt X.K c f) (k : DE X T W e fe) (hN : ∀ j, (X.at_ j).N[i]? = some n := by intro _; rfl) (hv : ∀ j, Vis (X.at_ j).env.scope n := by intro _; first | exact Or.inl rfl | exact Or.inr (Or.inl rfl) | exact Or.inr (Or.inr rfl))
    (hd : (n == ("__debug__" : Str)) = false := by decide) (hcd : (n == ("__classdict__" : Str)) = false := by decide) (hs : ∀ j, swapsWith e (some (.Attribute (.Name n p1) f p2)) pos.line (X.at_ j).env = pure false := by intro _; rfl) :
    DS X T W Pr (.Assign [.Attribute (.Name n p1) f p2] e pos) (sFld R i f fe) := by
  obtain ⟨t, pe, s⟩ := k
  refine ⟨L2.sFld X.K (tVar i) t f, fun j => ?_, fun hps σ F H A ρ E a p => s σ F H A ρ _ a ?_⟩
  · have := ps_fld (f := f) (pos' := p2) (pos := pos) (pe_var (pos := p1) (hN j) (hv j) hd hcd) (pe j) (hs j)
    rw [X.hK j] at this
    exact this
  · unfold sFld at p
    refine p.out.imp fun b ρ1 F1 H1 A1 g1 p1 v r1 => ?_
    simp only at p1
    cases q : ρ1[i]? with
    | none =>
      rw [q] at p1
      exact p1.elim
    | some b0 =>
      rw [q] at p1
      cases b0 with
      | un => exact p1.elim
      | dat _ => exact p1.elim
      | own _ => exact p1.elim
      | odk _ => exact p1.elim
      | odt _ => exact p1.elim
      | ext o0 =>
        cases o0 with
        | fz _ => exact p1.elim
        | lst _ => exact p1.elim
        | dk _ => exact p1.elim
        | dt _ => exact p1.elim
        | ins c os =>
          simp only at p1
          split at p1
          · rename_i hR
            rw [Bool.and_eq_true, decide_eq_true_eq] at hR
            cases qo : toO b with
            | none =>
              rw [qo] at p1
              exact p1.elim
            | some o =>
              rw [qo] at p1
              simp only at p1
              obtain ⟨ftb, At, rfl, kb, rt, djb⟩ := r1.head
              obtain ⟨sv, ft0, es, k0, m0⟩ := rt.get q
              obtain ⟨v0, rfl, _⟩ := id k0
              obtain ⟨A2, r2, m1, m2⟩ := rt.takeOut q es
              obtain ⟨fte, A3, rfl, ke, r3, dj3⟩ := r2.head
              obtain ⟨ve, ee, ke⟩ := ke
              cases ee
              unfold ORep at ke
              obtain ⟨l, C, dx, ys, Af, rfl, rfl, nC, h1, h2, n1, n2, ne, d1, d2, rf⟩ := ke
              obtain ⟨hc, hn⟩ := (h c (List.contains_iff_mem.mp hR.1)).at_ C nC
              obtain ⟨vo, ev, ro⟩ := toO_rep kb qo
              cases ev
              have lenF := orepF_len rf
              have mA : ∀ z ∈ l :: dx :: Af, z ∈ At := fun z m => m1 z (List.mem_append_left _ m)
              have hlA : l ∉ ftb := fun z => djb l z (mA l List.mem_cons_self)
              have hdA : dx ∉ ftb := fun z => djb dx z (mA dx (List.mem_cons_of_mem _ List.mem_cons_self))
              -- the new object
              have keep : ∀ z, z ≠ l → (upd H1 l (.ins C dx (putF f v ys))) z = H1 z := fun z nz => upd_ne nz
              have ro' : ORep X.K F1 (upd H1 l (.ins C dx (putF f v ys))) o v ftb := O.stab o ro (Sub.refl _) (fun z m => keep z fun e => hlA (e ▸ m)) fun z m => (O.lv o ro z m).2
              have rf' : ORepF X.K F1 (upd H1 l (.ins C dx (putF f v ys))) os ys Af := O.stabF os rf (Sub.refl _) (fun z m => keep z fun e => d1 (e ▸ m)) fun z m => (O.lvF os rf z m).2
              obtain ⟨An, rn, mn⟩ := orepF_put (f := f) ro' rf' fun z m y => djb z m (mA z (List.mem_cons_of_mem _ (List.mem_cons_of_mem _ y)))
              have kn : BRep X.K F1 (upd H1 l (.ins C dx (putF f v ys))) (.ext (.ins c (putO f o os))) (some (.ref l)) (l :: dx :: An) := by
                refine ⟨.ref l, rfl, ?_⟩
                unfold ORep
                refine ⟨l, C, dx, _, An, rfl, rfl, nC, upd_same, ?_, n1, n2, ne, fun z => ?_, fun z => ?_, rn⟩
                · rw [keep dx fun e => ne e.symm]
                  exact h2
                · exact (mn l z).elim d1 hlA
                · exact (mn dx z).elim d2 hdA
              have r3' : RepS X.K F1 (upd H1 l (.ins C dx (putF f v ys))) (ρ1.set i .un) σ A3 := r3.stab (Sub.refl _) (fun z m => keep z fun e => dj3 l List.mem_cons_self (e ▸ m)) fun z m => (r3.live z m).2
              have rc : RepS X.K F1 (upd H1 l (.ins C dx (putF f v ys))) (.ext (.ins c (putO f o os)) :: ρ1.set i .un) (some (.ref l) :: σ) ((l :: dx :: An) ++ A3) := .cons kn r3' fun z m y => by
                rcases List.mem_cons.mp m with rfl | m
                · exact dj3 z List.mem_cons_self y
                · rcases List.mem_cons.mp m with rfl | m
                  · exact dj3 z (List.mem_cons_of_mem _ List.mem_cons_self) y
                  · rcases mn z m with w | w
                    · exact dj3 z (List.mem_cons_of_mem _ (List.mem_cons_of_mem _ w)) y
                    · exact djb z w (m1 z (List.mem_append_right _ y))
              obtain ⟨A5, r5, m5⟩ := rc.putBack es
              rw [List.set_set] at r5
              have gw : Go T (ftb ++ At) F1 H1 (ftb ++ At) F1 (upd H1 l (.ins C dx (putF f v ys))) := Go.write g1.sub (List.mem_append_right _ (mA l List.mem_cons_self)) n1 h1 (fun _ z => by cases z) (fun _ z => by cases z)
              have gl : Go T (ftb ++ At) F1 H1 A5 F1 (upd H1 l (.ins C dx (putF f v ys))) := gw.less fun z m => by
                rcases List.mem_append.mp (m5 z m) with w | w
                · rcases List.mem_cons.mp w with rfl | w
                  · exact List.mem_append_right _ (mA z List.mem_cons_self)
                  · rcases List.mem_cons.mp w with rfl | w
                    · exact List.mem_append_right _ (mA z (List.mem_cons_of_mem _ List.mem_cons_self))
                    · rcases mn z w with w | w
                      · exact List.mem_append_right _ (mA z (List.mem_cons_of_mem _ (List.mem_cons_of_mem _ w)))
                      · exact List.mem_append_left _ w
                · exact List.mem_append_right _ (m1 z (List.mem_append_right _ w))
              exact ⟨_, es, l, C, dx, ys, rfl, h1, hc, hn, by omega, p1 σ F1 _ A5 gl r5 (Keep.refl Pr σ)⟩
          · exact p1.elim
end
end Dl

set_option Elab.async false
set_option linter.all false
set_option maxRecDepth 100000
set_option maxHeartbeats 1000000
namespace Dl
open PySem PySem.Spec L2
open PyProof.Rows hiding St

/-! ## methods -/
structure MethAt (P : Program) (w : World) (K : PySem.W.Frag) (mg : Str → Option Value) (base : Heap) (T : List (Addr × Str)) (c m : Str) (n k : Nat) (G : FG) : Prop where
  ex : ∃ (C f : Addr) (fd : FuncData) (ps : List Str), ClsN K c C ∧ Cls K C ∧ Meth K C m f ∧ FnOk P w K mg base (L2.CX P w) k f fd ps (spD K T n G) ∧ Binds K fd ps []
/-- the operand is an instance of c that has no field m -/
def insO (c m : Str) (ρ : Ev) : Opd → Bool
  | .val (.ins c' fs) => (c' == c) && (lookF fs m).isNone
  | .var i => match ρ[i]? with
    | some (.ext (.ins c' os)) => (c' == c) && (lookO os m).isNone
    | _ => false
  | _ => false
theorem insO_ok {K : PySem.W.Frag} {F H : Hp} {ρ : Ev} {σ : St} {A : List Addr} {c m : Str} {o : Opd} {v : V} (s : Sub F H) (r : RepS K F H ρ σ A) (h : OpdR K F σ o v) (e : insO c m ρ o = true) :
    ∃ a C dx ys, v = .ref a ∧ ClsN K c C ∧ H a = some (.ins C dx ys) ∧ ys.lookup m = none := by
  cases o with
  | val d =>
    cases d with
    | ins c' fs =>
      simp only [insO, Bool.and_eq_true, beq_iff_eq, Option.isNone_iff_eq_none] at e
      obtain ⟨rfl, e⟩ := e
      have h : Rp K F (.ins c' fs) v := h
      unfold Rp at h
      obtain ⟨a, C, dx, ys, rfl, nC, q, _, rf⟩ := h
      exact ⟨a, C, dx, ys, rfl, nC, s _ _ q, rpF_none rf e⟩
    | _ => cases e
  | var i =>
    simp only [insO] at e
    split at e
    · rename_i c' os q
      simp only [Bool.and_eq_true, beq_iff_eq, Option.isNone_iff_eq_none] at e
      obtain ⟨rfl, e⟩ := e
      obtain ⟨a, C, dx, ys, A1, rfl, nC, q1, _, rf⟩ := ins_of r h q
      exact ⟨a, C, dx, ys, rfl, nC, q1, orepF_none rf e⟩
    · cases e
/-- G called with the operands -/
def callT (G : FG) (os : List Opd) (ρ : Ev) : R (B × Ev) := ofO (takeArgs os ρ) >>= fun q => match G q.1 with
  | .ok ret outs => ofO (putArgs os outs q.2) >>= fun ρ' => .ok (ret, ρ')
  | .er x outs => match putArgs os outs q.2 with
    | some ρ' => .err x ρ'
    | none => .stuck
  | .stuck => .stuck
def cMeth (c m : Str) (G : FG) (fo : FO) (fa : FA) : FE := fun ρ => fo ρ >>= fun p => if insO c m p.2 p.1 = true then fa p.2 >>= fun q => callT G (p.1 :: q.1) q.2 else .stuck
section
variable {X : Fam} {T : List (Addr × Str)} {W : WX}
theorem de_meth {P : Program} {w : World} {K : PySem.W.Frag} {mg : Str → Option Value} {base : Heap} {c m : Str} {n k : Nat} {G : FG} {o e : Expr} {es : List Expr} {fo : FO} {fa : FA} {apos pos : Pos} (h : MethAt P w K mg base T c m (n + 1) k G) (eK : X.K = K)
    (hctx : ∀ i, (X.at_ i).prog = P ∧ (X.at_ i).w = w ∧ (X.at_ i).mg = mg ∧ (X.at_ i).base = base) (hr : ∀ i, Room k (X.at_ i).A) (tk : ∀ i, Takes (X.at_ i) W) (ho : DO X T W o fo) (ha : DA X T W (e :: es) fa) (hn : LenA fa n) (pl : Fam → (i : X.Ix) → Sem Bool)
    (hst : ∀ i, starEach (e :: es) (X.at_ i).env = (false, eval e (X.at_ i).env) :: starEach es (X.at_ i).env := by intro _; rfl) (hpl : ∀ i, (backTo pos (starEach es (X.at_ i).env)).any (·.1) = false := by intro _; rfl)
    (ht : ∀ i, eval (.Call (.Attribute o m apos) (e :: es) [] pos) (X.at_ i).env = (do
      let ov ← eval o (X.at_ i).env
      standAt apos.atName
      let (f, first) ← holding [ov] (getMethod ov m (pl X i))
      callWith pos f first (backTo pos (starEach (e :: es) (X.at_ i).env)) (backToKw pos (keywordEach [] (X.at_ i).env))) := by intro _; rfl) :
    DE X T W (.Call (.Attribute o m apos) (e :: es) [] pos) (cMeth c m G fo fa) := by
  obtain ⟨C, f, fd, ps, nC, hC, hM, F1, hb⟩ := h.ex
  obtain ⟨t, pe, s⟩ := ho
  obtain ⟨u, pa, s2⟩ := ha
  subst eK
  refine ⟨tMethT C m (spD X.K T (n + 1) G) (WE W) t u, fun i => ?_, fun σ F H A ρ Q a p => s σ F H A ρ _ a ?_⟩
  · obtain ⟨e1, e2, e3, e4⟩ := hctx i
    have eK' := X.hK i
    subst e1 e2 e3 e4
    rw [← eK'] at hC hM F1 hb ⊢
    exact pe_methT (pl := pl X i) (pe i) hC hM F1 (hr i) hb (fun σ => passAt (tk i) σ) (pa i) (hst i) (hpl i) (ht i)
  · refine p.bind.imp fun o1 ρ1 F1 H1 A1 g1 p1 v r1 ov => ?_
    simp only at p1
    split at p1
    · rename_i hi
      obtain ⟨a', C', dx, ys, rfl, nC', q, l⟩ := insO_ok g1.sub r1 ov hi
      have := clsN_one nC' nC
      subst this
      refine ⟨a', dx, ys, rfl, q, l, s2 σ F1 H1 A1 ρ1 _ (a.next g1 r1) ?_⟩
      have hn' := hn ρ1
      have pb := p1.bind
      cases qa : fa ρ1 with
      | stuck =>
        rw [qa] at pb
        exact pb.elim
      | err x ρ2 =>
        rw [qa] at pb
        exact pb
      | ok z =>
        obtain ⟨os, ρ2⟩ := z
        rw [qa] at pb hn'
        intro F2 H2 A2 g2 vs r2 o2
        have hl := Paired.lengthOf o2
        have hn' : os.length = n := hn'
        exact run_call (by rw [List.length_cons, ← hl, hn']) g2.sub (g2.ntb (g1.ntb a.ntb)) (g2.tab (g1.tab a.tab)) r2 (.cons (ov.mono g2.kF) o2) (pb F2 H2 A2 g2)
    · exact p1.elim
theorem de_meth0 {P : Program} {w : World} {K : PySem.W.Frag} {mg : Str → Option Value} {base : Heap} {c m : Str} {k : Nat} {G : FG} {o : Expr} {fo : FO} {apos pos : Pos} (h : MethAt P w K mg base T c m 1 k G) (eK : X.K = K)
    (hctx : ∀ i, (X.at_ i).prog = P ∧ (X.at_ i).w = w ∧ (X.at_ i).mg = mg ∧ (X.at_ i).base = base) (hr : ∀ i, Room k (X.at_ i).A) (tk : ∀ i, Takes (X.at_ i) W) (ho : DO X T W o fo) (pl : Fam → (i : X.Ix) → Sem Bool)
    (ht : ∀ i, eval (.Call (.Attribute o m apos) [] [] pos) (X.at_ i).env = (do
      let ov ← eval o (X.at_ i).env
      standAt apos.atName
      let (f, first) ← holding [ov] (getMethod ov m (pl X i))
      callWith pos f first (backTo pos (starEach [] (X.at_ i).env)) (backToKw pos (keywordEach [] (X.at_ i).env))) := by intro _; rfl) :
    DE X T W (.Call (.Attribute o m apos) [] [] pos) (cMeth c m G fo aNil) := by
  obtain ⟨C, f, fd, ps, nC, hC, hM, F1, hb⟩ := h.ex
  obtain ⟨t, pe, s⟩ := ho
  subst eK
  refine ⟨tMethT C m (spD X.K T 1 G) (WE W) t tNil, fun i => ?_, fun σ F H A ρ Q a p => s σ F H A ρ _ a ?_⟩
  · obtain ⟨e1, e2, e3, e4⟩ := hctx i
    have eK' := X.hK i
    subst e1 e2 e3 e4
    rw [← eK'] at hC hM F1 hb ⊢
    exact pe_methT0 (pl := pl X i) (pe i) hC hM F1 (hr i) hb (fun σ => passAt (tk i) σ) (ht i)
  · refine p.bind.imp fun o1 ρ1 F1 H1 A1 g1 p1 v r1 ov => ?_
    simp only at p1
    split at p1
    · rename_i hi
      obtain ⟨a', C', dx, ys, rfl, nC', q, l⟩ := insO_ok g1.sub r1 ov hi
      have := clsN_one nC' nC
      subst this
      exact ⟨a', dx, ys, rfl, q, l, run_call (by rfl) g1.sub (g1.ntb a.ntb) (g1.tab a.tab) r1 (.cons ov .nil) p1⟩
    · exact p1.elim
/-! ## a class called -/
structure MakeAt (P : Program) (w : World) (K : PySem.W.Frag) (mg : Str → Option Value) (base : Heap) (T : List (Addr × Str)) (c : Str) (n k : Nat) (G : FG) : Prop where
  ex : ∃ (C f : Addr) (fd : FuncData) (ps : List Str), ClsN K c C ∧ mg c = some (.ref C) ∧ Mk K C f ∧ FnOk P w K mg base (L2.CX P w) k f fd ps (spD K T n G) ∧ Binds K fd ps []
def mkT (c : Str) (G : FG) (os : List Opd) (ρ : Ev) : R (B × Ev) := ofO (takeArgs os ρ) >>= fun q => match G (.ext (.ins c []) :: q.1) with
  | .ok (.dat .non) (.ext o :: outs) => ofO (putArgs os outs q.2) >>= fun ρ' => .ok (.ext o, ρ')
  | .er x (_ :: outs) => match putArgs os outs q.2 with
    | some ρ' => .err x ρ'
    | none => .stuck
  | _ => .stuck
theorem run_mk {c : Str} {C : Addr} {n : Nat} {G : FG} {os : List Opd} {vs : List V} {σ : St} {F H : Hp} {A : List Addr} {ρ : Ev} {Q : VK} {x dx : Addr} (nC : ClsN X.K c C) (hn : vs.length = n) (sub : Sub F H) (ntb : NoTb F) (tab : LamX.Tabs T H) (r : RepS X.K F H ρ σ A) (o : Paired (OpdR X.K F σ) os vs)
    (hx : H x = none) (hd : H dx = none) (ne : dx ≠ x)
    (p : Post X.K T W σ F H A (mkT c G os ρ) (fun b ρ' F' H' A' => ∀ v, RepS X.K F' H' (b :: ρ') (some v :: σ) A' → Q v H')) :
    spD X.K T (n + 1) G (.ref x :: vs) (upd (upd H dx (.own x)) x (.ins C dx [])) (fun v H2 => v = .non ∧ Q (.ref x) H2) (WE W σ) := by
  unfold mkT at p
  obtain ⟨⟨bs, ρ2⟩, e1, p⟩ := p.opt
  obtain ⟨A1, r1, m1, l1⟩ := take_ok r o e1
  have hx2 : upd H dx (.own x) x = none := by rw [upd_ne (Ne.symm ne)]; exact hx
  have g1 : Go T A F H ([dx] ++ A) F (upd H dx (.own x)) := Go.fresh sub hd
  have g2 : Go T ([dx] ++ A) F (upd H dx (.own x)) ([x] ++ ([dx] ++ A)) F (upd (upd H dx (.own x)) x (.ins C dx [])) := Go.fresh g1.sub hx2
  obtain ⟨r2, nd2⟩ := RepS.fresh (o := .own x) r1 hd
  obtain ⟨r3, nx3⟩ := RepS.fresh (o := .ins C dx []) r2 hx2
  have gg := g1.trans g2
  obtain ⟨Aa, Ar, ra, rr, rfl, dj⟩ := RepS.split (by rw [List.length_map, l1]) r3
  have Fx : F x = none := fresh_F sub hx
  have Fd : F dx = none := fresh_F sub hd
  have kx : BRep X.K F (upd (upd H dx (.own x)) x (.ins C dx [])) (.ext (.ins c [])) (some (.ref x)) [x, dx] := by
    refine ⟨.ref x, rfl, ?_⟩
    unfold ORep
    refine ⟨x, C, dx, [], [], rfl, rfl, nC, upd_same, ?_, Fx, Fd, Ne.symm ne, by simp, by simp, ?_⟩
    · rw [upd_ne ne, upd_same]
    · unfold ORepF
      exact ⟨rfl, rfl⟩
  have djx : ∀ a ∈ [x, dx], a ∉ Aa ++ Ar := fun a m z => by
    rcases List.mem_cons.mp m with rfl | m
    · exact nx3 z
    · rw [List.mem_singleton] at m
      subst m
      exact nd2 z
  have ra' : RepS X.K F (upd (upd H dx (.own x)) x (.ins C dx [])) (.ext (.ins c []) :: bs) (some (.ref x) :: vs.map some) ([x, dx] ++ Aa) := .cons kx ra fun a m z => djx a m (List.mem_append_left _ z)
  refine ⟨by rw [List.length_cons, hn], F, [x, dx] ++ Aa, .ext (.ins c []) :: bs, gg.sub, gg.ntb ntb, gg.tab tab, ra', ?_⟩
  have djr0 : ∀ a ∈ Ar, a ∉ [x, dx] ++ Aa := fun a m z => by
    rcases List.mem_append.mp z with z | z
    · exact djx a z (List.mem_append_right _ m)
    · exact dj a z m
  have wide : ∀ {A' : List Addr} {F' H' : Hp}, Go T ([x, dx] ++ Aa) F (upd (upd H dx (.own x)) x (.ins C dx [])) A' F' H' → Go T A F H (Ar ++ A') F' H' := fun {A' F' H'} g =>
    gg.trans ((g.beside (A2 := Ar)).more fun a m => by
      rcases List.mem_append.mp m with z | z
      · exact List.mem_append_right _ (List.mem_append_right _ (m1 a (List.mem_append_right _ z)))
      · rcases List.mem_append.mp z with z | z
        · rcases List.mem_cons.mp z with rfl | z
          · exact List.mem_append_left _ (by simp)
          · rw [List.mem_singleton] at z
            subst z
            exact List.mem_append_right _ (List.mem_append_left _ (by simp))
        · exact List.mem_append_right _ (List.mem_append_right _ (m1 a (List.mem_append_left _ z))))
  simp only at p
  cases q : G (.ext (.ins c []) :: bs) with
  | stuck =>
    rw [q] at p
    exact p.elim
  | er xx outs0 =>
    rw [q] at p
    cases outs0 with
    | nil => exact p.elim
    | cons s0 outs =>
      simp only at p
      cases qp : putArgs os outs ρ2 with
      | none =>
        rw [qp] at p
        exact p.elim
      | some ρ3 =>
        rw [qp] at p
        intro F' H' A' cls dd g r' rx
        obtain ⟨rr', djr⟩ := g.keepS rr djr0
        obtain ⟨As, rs, ms⟩ := RepS.tail (ρ := outs) r'
        have rj := RepS.join rs rr' fun a m z => djr a z (ms a m)
        obtain ⟨A3, r3', m3⟩ := put_ok rj o qp
        exact p F' H' A3 cls dd ((wide g).less fun a m => by
          rcases List.mem_append.mp (m3 a m) with z | z
          · exact List.mem_append_right _ (ms a z)
          · exact List.mem_append_left _ z) r3' rx
  | ok ret outs0 =>
    rw [q] at p
    cases ret with
    | dat d =>
      cases d with
      | non =>
        cases outs0 with
        | nil => exact p.elim
        | cons s0 outs =>
          cases s0 with
          | ext oo =>
            simp only at p
            obtain ⟨ρ3, qp, p⟩ := p.opt
            intro v F' H' A' g r'
            obtain ⟨rr', djr⟩ := g.keepS rr djr0
            obtain ⟨v', ev, rv, r4⟩ := r'.dat_inv
            cases ev
            unfold Rp at rv
            subst rv
            refine ⟨rfl, ?_⟩
            obtain ⟨ft, Ao, rfl, k, t, dj2⟩ := RepS.head (ρ := outs) r4
            have rj := RepS.join t rr' fun a m z => djr a z (List.mem_append_right _ m)
            obtain ⟨A3, r3', m3⟩ := put_ok rj o qp
            have rc : RepS X.K F' H' (.ext oo :: ρ3) (some (.ref x) :: σ) (ft ++ A3) := .cons k r3' fun a m z => by
              rcases List.mem_append.mp (m3 a z) with y | y
              · exact dj2 a m y
              · exact djr a y (List.mem_append_left _ m)
            exact p.now ((wide g).less fun a m => by
              rcases List.mem_append.mp m with z | z
              · exact List.mem_append_right _ (List.mem_append_left _ z)
              · rcases List.mem_append.mp (m3 a z) with y | y
                · exact List.mem_append_right _ (List.mem_append_right _ y)
                · exact List.mem_append_left _ y) (.ref x) rc
          | _ => exact p.elim
      | _ => exact p.elim
    | _ => exact p.elim
def cMake (c : Str) (G : FG) (fa : FA) : FE := fun ρ => fa ρ >>= fun p => mkT c G p.1 p.2
theorem de_make {P : Program} {w : World} {K : PySem.W.Frag} {mg : Str → Option Value} {base : Heap} {c : Str} {n k : Nat} {G : FG} {e : Expr} {es : List Expr} {fa : FA} {p pos : Pos} (h : MakeAt P w K mg base T c (n + 1) k G) (eK : X.K = K)
    (hctx : ∀ i, (X.at_ i).prog = P ∧ (X.at_ i).w = w ∧ (X.at_ i).mg = mg ∧ (X.at_ i).base = base) (hr : ∀ i, Room (k + 1) (X.at_ i).A) (tk : ∀ i, Takes (X.at_ i) W) (hg : ∀ i, Gl (X.at_ i) c) (ha : DA X T W (e :: es) fa) (hn : LenA fa n)
    (hdb : (c == ("__debug__" : Str)) = false := by decide) (hst : ∀ i, starEach (e :: es) (X.at_ i).env = (false, eval e (X.at_ i).env) :: starEach es (X.at_ i).env := by intro _; rfl) (hpl : ∀ i, (backTo pos (starEach es (X.at_ i).env)).any (·.1) = false := by intro _; rfl) :
    DE X T W (.Call (.Name c p) (e :: es) [] pos) (cMake c G fa) := by
  obtain ⟨C, f, fd, ps, nC, hm, hM, F1, hb⟩ := h.ex
  obtain ⟨u, pa, s2⟩ := ha
  subst eK
  refine ⟨tMakeT C (spD X.K T (n + 1) G) (WE W) u, fun i => ?_, fun σ F H A ρ Q a p => s2 σ F H A ρ _ a ?_⟩
  · obtain ⟨e1, e2, e3, e4⟩ := hctx i
    have eK' := X.hK i
    subst e1 e2 e3 e4
    rw [← eK'] at hM F1 hb ⊢
    exact pe_makeT hM F1 (hr i) (hg i) hm hb (fun σ => passAt (tk i) σ) (pa i) hdb (hst i) (hpl i)
  · have hn' := hn ρ
    have pb := p.bind
    cases qa : fa ρ with
    | stuck =>
      rw [qa] at pb
      exact pb.elim
    | err x ρ2 =>
      rw [qa] at pb
      exact pb
    | ok z =>
      obtain ⟨os, ρ2⟩ := z
      rw [qa] at pb hn'
      intro F2 H2 A2 g2 vs r2 o2 x dx hx hd ne
      have hn' : os.length = n := hn'
      exact run_mk nC (by rw [← Paired.lengthOf o2, hn']) g2.sub (g2.ntb a.ntb) (g2.tab a.tab) r2 o2 hx hd ne (pb F2 H2 A2 g2)
theorem de_make0 {P : Program} {w : World} {K : PySem.W.Frag} {mg : Str → Option Value} {base : Heap} {c : Str} {k : Nat} {G : FG} {p pos : Pos} (h : MakeAt P w K mg base T c 1 k G) (eK : X.K = K)
    (hctx : ∀ i, (X.at_ i).prog = P ∧ (X.at_ i).w = w ∧ (X.at_ i).mg = mg ∧ (X.at_ i).base = base) (hr : ∀ i, Room (k + 1) (X.at_ i).A) (tk : ∀ i, Takes (X.at_ i) W) (hg : ∀ i, Gl (X.at_ i) c)
    (hdb : (c == ("__debug__" : Str)) = false := by decide) : DE X T W (.Call (.Name c p) [] [] pos) (cMake c G aNil) := by
  obtain ⟨C, f, fd, ps, nC, hm, hM, F1, hb⟩ := h.ex
  subst eK
  refine ⟨tMakeT C (spD X.K T 1 G) (WE W) tNil, fun i => ?_, fun σ F H A ρ Q a p => ?_⟩
  · obtain ⟨e1, e2, e3, e4⟩ := hctx i
    have eK' := X.hK i
    subst e1 e2 e3 e4
    rw [← eK'] at hM F1 hb ⊢
    exact pe_makeT0 hM F1 (hr i) (hg i) hm hb (fun σ => passAt (tk i) σ) hdb
  · exact fun x dx hx hd ne => run_mk nC rfl a.sub a.ntb a.tab a.rep .nil hx hd ne p
/-! ## isinstance(x, C), C an own class -/
structure IsCAt (K : PySem.W.Frag) (mg : Str → Option Value) (c : Str) (Rc : List (Str × Bool)) : Prop where
  ex : ∃ C, mg c = some (.ref C) ∧ (∀ b ∈ isTys, PySem.W.kitOne K (.type b) (.ref C) = some false) ∧ ∀ c' r, Rc.lookup c' = some r → ∀ a, ClsN K c' a → (Cls K a ∧ PySem.W.findIn K (.ref a) "__class__" = some (some (.builtin "object.__class__")) ∧
    PySem.W.specialIn K (.builtin "object.__class__") "__get__" = some (some (.builtin "getset_descriptor.__get__")) ∧ PySem.W.takesIn K (.builtin "object.__class__") = some true ∧ PySem.W.mroIn K a (.type "object") = some true) ∧ PySem.W.kitOne K (.ref a) (.ref C) = some r
def isC (Rc : List (Str × Bool)) (ρ : Ev) (o : Opd) : Option Bool := match rd ρ o with
  | some (.ins c' _) => Rc.lookup c'
  | some d => (tyN d).map fun _ => false
  | none => match o with
    | .var i => match ρ[i]? with
      | some (.ext (.ins c' _)) => Rc.lookup c'
      | _ => none
    | _ => none
def cIsC (Rc : List (Str × Bool)) (fo : FO) : FE := fun ρ => fo ρ >>= fun p => ofO (isC Rc p.2 p.1) >>= fun b => .ok (.dat (.bl b), p.2)
theorem de_isC {K : PySem.W.Frag} {mg : Str → Option Value} {c : Str} {Rc : List (Str × Bool)} {e : Expr} {fo : FO} {p1 p2 pos : Pos} (h : IsCAt K mg c Rc) (eK : X.K = K) (em : ∀ i, (X.at_ i).mg = mg) (hgc : ∀ i, Gl (X.at_ i) c) (hg : ∀ i, Gl (X.at_ i) "isinstance") (hm : mg "isinstance" = none) (ho : DO X T W e fo)
    (hdb : (c == ("__debug__" : Str)) = false := by decide) (he : ∀ i, starEach [e, .Name c p2] (X.at_ i).env = (false, eval e (X.at_ i).env) :: starEach [.Name c p2] (X.at_ i).env := by intro _; rfl)
    (he2 : ∀ i, starEach [.Name c p2] (X.at_ i).env = (false, eval (.Name c p2) (X.at_ i).env) :: starEach [] (X.at_ i).env := by intro _; rfl) (hpl : ∀ i, (backTo pos (starEach [.Name c p2] (X.at_ i).env)).any (·.1) = false := by intro _; rfl) :
    DE X T W (.Call (.Name "isinstance" p1) [e, .Name c p2] [] pos) (cIsC Rc fo) := by
  obtain ⟨C, hC, hT, hI⟩ := h.ex
  obtain ⟨t, pe, s⟩ := ho
  subst eK
  refine ⟨tCB (rIsi X.K) (tCons t (tCons (tC (.ref C)) tNil)), fun i => ?_, fun σ F H A ρ Q a p => s σ F H A ρ _ a ?_⟩
  · have ei := em i
    subst ei
    have hv : bootBuiltins "isinstance" = some (.builtin "isinstance") := by decide +kernel
    have := pe_callB (call_isi (X := X.at_ i)) (p := p1) (pos := pos) (hg i) hm hv (pa_cons (pe i) (pa_cons (pe_glob (hgc i) hC (show RelV (.ref C) (.ref C) from rfl) hdb) pa_nil (he2 i)) (he i)) (by decide) (by decide) (he i) (hpl i)
    rw [X.hK i] at this
    exact this
  · refine p.bind.imp fun o1 ρ1 F1 H1 A1 g1 p1 v r1 ov => ?_
    simp only at p1
    obtain ⟨b, e1, p2⟩ := p1.opt
    refine ⟨v, .ref C, ?_⟩
    have fin : Q (.bl b) H1 := p2.now (Go.refl g1.sub) (.bl b) (r1.dat rp_bl)
    have inst : ∀ {c' : Str} {a' C' dx : Addr} {ys : List (Str × V)}, Rc.lookup c' = some b → ClsN X.K c' C' → H1 a' = some (.ins C' dx ys) → v = .ref a' → ∃ t u b', [v, V.ref C] = [v, V.ref C] ∧ ClsV (.ref C) u ∧ TyX X.K H1 v t ∧ PySem.W.kitOne X.K t u = some b' ∧ Q (.bl b') H1 := fun {c' a' C' dx ys} hl nC' q ev => by
      obtain ⟨⟨k1, k2, k3, k4, k5⟩, k6⟩ := hI c' b hl C' nC'
      subst ev
      exact ⟨.ref C', .ref C, b, rfl, .own C, .base (.ins q k1 k2 k3 k4 k5), k6, fin⟩
    unfold isC at e1
    cases qr : rd ρ1 o1 with
    | some d =>
      rw [qr] at e1
      have top := rd_top g1.sub r1 ov qr
      cases hd : tyN d with
      | some n =>
        have hb : b = false := by
          cases d <;> first
            | (simp only [hd, Option.map_some, Option.some.injEq] at e1; exact e1.symm)
            | (simp only [tyN] at hd; cases hd; done)
        subst hb
        exact ⟨.type n, .ref C, false, rfl, .own C, tyX_of g1.sub top hd, hT n (tyN_mem hd), fin⟩
      | none =>
        cases d with
        | ins c' fs =>
          have e1 : Rc.lookup c' = some b := e1
          have h2 : Rp X.K H1 (.ins c' fs) v := top.rp g1.sub
          unfold Rp at h2
          obtain ⟨a', C', dx, ys, ev, nC', q, _, _⟩ := h2
          exact inst e1 nC' q ev
        | _ => simp only [hd, Option.map_none] at e1 <;> cases e1
    | none =>
      rw [qr] at e1
      cases o1 with
      | val d => cases qr
      | var i =>
        simp only at e1
        split at e1
        · rename_i c' os q
          obtain ⟨a', C', dx, ys, A3, ev, nC', q1, _, _⟩ := ins_of r1 ov q
          exact inst e1 nC' q1 ev
        · cases e1
end
end Dl

set_option Elab.async false
set_option linter.all false
set_option maxRecDepth 100000
set_option maxHeartbeats 1000000
namespace Dl
open PySem PySem.Spec L2
open PyProof.Rows hiding St

/-! ## repr of frozen data (dicts: empty ones) -/
mutual
def toPy : D → Option PyData
  | .non => some .none
  | .bl b => some (.bool b)
  | .int i => some (.int i)
  | .str s => some (.str s)
  | .lst ds => (toPys ds).map .list
  | .tup ds => (toPys ds).map .tuple
  | .dk [] => some (.dict [])
  | .dt [] => some (.dict [])
  | _ => none
def toPys : List D → Option (List PyData)
  | [] => some []
  | d :: ds => (toPy d).bind fun p => (toPys ds).map fun ps => p :: ps
end
section
variable {K : PySem.W.Frag} {P : Program} {w : World} {H : Hp} {h : Heap}
def RK (P : Program) (w : World) (h : Heap) (u : Value) (p : PyData) : Prop := ∃ as bs, Reads h u p as ∧ ReadAtMost h p.depth bs ∧ ReprK P w bs h p.depth u p.shown
def RKs (P : Program) (w : World) (h : Heap) (us : List Value) (ps : List PyData) : Prop := ∃ as bs, ReadsAll h us ps as ∧ ReadAtMost h (PyData.depthAll ps) bs ∧ ReprAllK P w bs h (PyData.depthAll ps) us (PyData.shownAll ps)
/-- what stands at a list, a tuple, an empty dict -/
inductive Shp (P : Program) (w : World) (h : Heap) (a : Addr) : PyData → Prop
  | lst {o : Obj} {us : List Value} {n : Nat} {ps : List PyData} : h.get? a = some o → o.cls = .type "list" → o.data = .seq us.toArray n → RKs P w h us ps → Shp P w h a (.list ps)
  | tup {o : Obj} {us : Array Value} {n : Nat} {ps : List PyData} : h.get? a = some o → o.cls = .type "tuple" → o.data = .seq us n → RKs P w h us.toList ps → Shp P w h a (.tuple ps)
  | dct {o : Obj} {n : Nat} : h.get? a = some o → o.cls = .type "dict" → o.data = .dict #[] n → (a == sysModules) = false → Shp P w h a (.dict [])
/-- one level up: what stands here reads as p and is told as p, what is met on the way is no deeper -/
structure Told (P : Program) (w : World) (h : Heap) (a : Addr) (p : PyData) : Prop where
  all : ∃ as bs, Reads h (.ref a) p as ∧ ReadAtMost h p.depth (a :: bs) ∧ ReprK P w (a :: bs) h p.depth (.ref a) p.shown
theorem RKs.apart {us : List Value} {ps : List PyData} {a : Addr} {p : PyData} {as' : List Addr} (q : RKs P w h us ps) (r : Reads h (.ref a) p as') (e : p.depth = PyData.depthAll ps + 1) :
    ∃ bs, ReadAtMost h (PyData.depthAll ps) bs ∧ ReprAllK P w bs h (PyData.depthAll ps) us (PyData.shownAll ps) ∧ a ∉ bs ∧ ReadAtMost h p.depth (a :: bs) := by
  obtain ⟨_, bs, _, hb, hk⟩ := q
  exact ⟨bs, hb, hk, not_mem_of_deeper r (by omega) hb, .cons r (by omega) hb⟩
theorem Shp.told {a : Addr} {p : PyData} (s : Shp P w h a p) : Told P w h a p := by
  cases s with
  | lst h1 h2 h3 q =>
    rename_i o us n ps
    obtain ⟨as, _, r, _, _⟩ := id q
    have r' : Reads h (.ref a) (.list ps) (a :: as) := .list h1 h2 h3 (by simpa using r)
    have dp : (PyData.list ps).depth = PyData.depthAll ps + 1 := by simp only [PyData.depth]
    obtain ⟨bs, hb, hk, na, up⟩ := q.apart r' dp
    refine ⟨_, bs, r', up, ?_⟩
    rw [dp]
    show ReprK P w (a :: bs) h _ _ (PyData.shown (.list ps))
    unfold PyData.shown
    cases us with
    | nil =>
      cases r
      unfold PyData.shownAll
      rw [listText_nil]
      exact .listEmpty h1 h2 h3
    | cons x l =>
      refine .list h1 h2 h3 na ?_ fun i y e => hk.item i y (by rw [← e]; simp)
      rw [hk.length_eq, List.size_toArray]
  | tup h1 h2 h3 q =>
    rename_i o us n ps
    obtain ⟨as, _, r, _, _⟩ := id q
    have r' : Reads h (.ref a) (.tuple ps) as := .tuple h1 h2 h3 r
    have dp : (PyData.tuple ps).depth = PyData.depthAll ps + 1 := by simp only [PyData.depth]
    obtain ⟨bs, hb, hk, na, up⟩ := q.apart r' dp
    refine ⟨_, bs, r', up, ?_⟩
    rw [dp]
    show ReprK P w (a :: bs) h _ _ (PyData.shown (.tuple ps))
    unfold PyData.shown
    exact .tuple h1 h2 h3 na hk
  | dct h1 h2 h3 hs =>
    have r' : Reads h (.ref a) (.dict []) _ := .dict h1 h2 h3 (by simpa using ReadsAll.nil) (by simpa using ReadsAll.nil)
    refine ⟨_, [], r', ReadAtMost.cons (n := 0) r' (Nat.zero_le _) (fun _ m => nomatch m), ?_⟩
    simp only [PyData.depth, PyData.shown, PyData.shownKv, PyData.depthKv]
    exact ReprK.dict h1 h2 h3 hs (by simp) (by simpa using ReprEntriesK.nil)
theorem dK_shp {a : Addr} (ok : HOk P w H h) (e : H a = some (.dK [])) : Shp P w h a (.dict []) := by
  obtain ⟨_, hs, vs, kv, o, es, ep, h1, hx, h3, _, pr, _⟩ := dk_of ok e
  cases kv
  obtain ⟨es⟩ := es
  cases pr
  exact .dct h1 hx.1 h3 hs
theorem dT_shp {a : Addr} (ok : HOk P w H h) (e : H a = some (.dT [])) : Shp P w h a (.dict []) := by
  obtain ⟨_, hs, xs, kv, o, es, ep, h1, hx, h3, pr, _⟩ := dt_of ok e
  cases kv
  obtain ⟨es⟩ := es
  have : es = [] := by simpa using pr
  subst this
  exact .dct h1 hx.1 h3 hs
theorem sqT_shp {a : Addr} {xs : List V} {ps : List PyData} (ok : HOk P w H h) (kin : K.In h) (e : SqT K H a xs) (q : ∀ us, Vals xs us → RKs P w h us ps) : Shp P w h a (.tuple ps) := by
  rcases e with e | ⟨o, its, n, l, c, d, _, v⟩
  · obtain ⟨_, its, v, o, h1, h2, n, h3⟩ := e.ok ok
    exact .tup h1 h2 h3 (by simpa using q _ v)
  · exact .tup (kin _ _ l) c d (q _ v)
theorem lst_shp {a : Addr} {xs : List V} {ps : List PyData} (ok : HOk P w H h) (e : H a = some (.lst xs)) (q : ∀ us, Vals xs us → RKs P w h us ps) : Shp P w h a (.list ps) := by
  obtain ⟨_, its, n, v, h1⟩ := ok _ _ e
  exact .lst h1 rfl rfl (q _ v)
theorem RKs.nil : RKs P w h [] [] := ⟨[], [], .nil, fun _ m => (nomatch m), .nil⟩
theorem RKs.cons {u : Value} {us : List Value} {p : PyData} {ps : List PyData} (a : RK P w h u p) (b : RKs P w h us ps) : RKs P w h (u :: us) (p :: ps) := by
  obtain ⟨as, bs, r, hb, k⟩ := a
  obtain ⟨as', bs', r', hb', k'⟩ := b
  refine ⟨_, bs ++ bs', .cons r r', ?_, ?_⟩
  · simp only [PyData.depthAll]
    exact (hb.mono (Nat.le_max_left _ _)).append (hb'.mono (Nat.le_max_right _ _))
  · unfold PyData.shownAll
    have hd : PyData.depthAll (p :: ps) = max p.depth (PyData.depthAll ps) := by simp only [PyData.depthAll]
    rw [hd]
    have k1 := (k.more (as' := bs ++ bs') fun _ m => List.mem_append_left _ m).level_le (Nat.le_max_left p.depth (PyData.depthAll ps))
    have k2 := k'.more_le (as' := bs ++ bs') (fun _ m => List.mem_append_right _ m) (Nat.le_max_right p.depth (PyData.depthAll ps))
    exact .cons k1 k2
theorem Shp.rk {a : Addr} {p : PyData} (s : Shp P w h a p) : RK P w h (.ref a) p := by
  obtain ⟨as, bs, r, hb, k⟩ := s.told.all
  exact ⟨as, a :: bs, r, hb, k⟩
mutual
theorem rk_of (ok : HOk P w H h) (kin : K.In h) : ∀ (d : D) {v : V} {u : Value} {p : PyData}, Rp K H d v → RelV v u → toPy d = some p → p.showable = true → p.shown.length ≤ sizeLine → RK P w h u p
  | .non, v, u, p, r, rv, e, _, _ => by
    unfold Rp at r
    subst r
    simp only [toPy] at e
    cases e
    obtain rfl : u = .none := rv
    exact ⟨[], [], .none, fun _ m => (nomatch m), by simp only [PyData.shown]; exact .of_is ReprIs.none _ _ _⟩
  | .bl b, v, u, p, r, rv, e, _, _ => by
    unfold Rp at r
    subst r
    simp only [toPy] at e
    cases e
    obtain rfl : u = .bool b := rv
    exact ⟨[], [], .bool b, fun _ m => (nomatch m), by simp only [PyData.shown]; exact .of_is (ReprIs.bool b) _ _ _⟩
  | .int i, v, u, p, r, rv, e, hs, _ => by
    unfold Rp at r
    subst r
    simp only [toPy] at e
    cases e
    obtain ⟨t, rfl⟩ : ∃ t, u = .int i t := rv
    exact ⟨[], [], .int i t, fun _ m => (nomatch m), by simp only [PyData.shown]; exact .of_is (ReprIs.int t (by simpa [PyData.showable] using hs)) _ _ _⟩
  | .str x, v, u, p, r, rv, e, _, hz => by
    unfold Rp at r
    subst r
    simp only [toPy] at e
    cases e
    obtain ⟨t, rfl⟩ : ∃ t, u = .str x t := rv
    exact ⟨[], [], .str x t, fun _ m => (nomatch m), by simp only [PyData.shown]; exact .of_is (ReprIs.str x t (by simpa only [PyData.shown] using hz)) _ _ _⟩
  | .lst ds, v, u, p, r, rv, e, hs, hz => by
    unfold Rp at r
    obtain ⟨a, xs, rfl, h1, h2⟩ := r
    obtain rfl : u = .ref a := rv
    simp only [toPy] at e
    cases q : toPys ds with
    | none =>
      rw [q] at e
      cases e
    | some ps =>
      rw [q] at e
      cases e
      have hz' : (listText (PyData.shownAll ps)).length ≤ sizeLine := by simpa only [PyData.shown] using hz
      exact (lst_shp ok h1 fun us vv => rks_of ok kin ds h2 vv q (by simpa [PyData.showable] using hs) (fun t ht => Nat.le_trans (listText_mem_le ht) hz')).rk
  | .tup ds, v, u, p, r, rv, e, hs, hz => by
    unfold Rp at r
    obtain ⟨a, xs, rfl, h1, h2⟩ := r
    obtain rfl : u = .ref a := rv
    simp only [toPy] at e
    cases q : toPys ds with
    | none =>
      rw [q] at e
      cases e
    | some ps =>
      rw [q] at e
      cases e
      have hz' : (tupleText (PyData.shownAll ps)).length ≤ sizeLine := by simpa only [PyData.shown] using hz
      exact (sqT_shp ok kin h1 fun us vv => rks_of ok kin ds h2 vv q (by simpa [PyData.showable] using hs) (fun t ht => Nat.le_trans (tupleText_mem_le ht) hz')).rk
  | .dk [], v, u, p, r, rv, e, _, _ => by
    unfold Rp at r
    obtain ⟨a, xs, rfl, h1, h2⟩ := r
    unfold RpK at h2
    subst h2
    obtain rfl : u = .ref a := rv
    simp only [toPy] at e
    cases e
    exact (dK_shp ok h1).rk
  | .dt [], v, u, p, r, rv, e, _, _ => by
    unfold Rp at r
    obtain ⟨a, xs, rfl, h1, h2⟩ := r
    unfold RpT at h2
    subst h2
    obtain rfl : u = .ref a := rv
    simp only [toPy] at e
    cases e
    exact (dT_shp ok h1).rk
  | .dk (_ :: _), v, u, p, r, rv, e, _, _ => by simp [toPy] at e
  | .dt (_ :: _), v, u, p, r, rv, e, _, _ => by simp [toPy] at e
  | .scr _, v, u, p, r, rv, e, _, _ => by simp [toPy] at e
  | .ins _ _, v, u, p, r, rv, e, _, _ => by simp [toPy] at e
  | .opq _, v, u, p, r, rv, e, _, _ => by simp [toPy] at e
theorem rks_of (ok : HOk P w H h) (kin : K.In h) : ∀ (ds : List D) {vs : List V} {us : List Value} {ps : List PyData}, RpL K H ds vs → Vals vs us → toPys ds = some ps → PyData.showableAll ps = true → (∀ t ∈ PyData.shownAll ps, t.length ≤ sizeLine) → RKs P w h us ps
  | [], vs, us, ps, r, rv, e, _, _ => by
    unfold RpL at r
    subst r
    cases rv
    simp only [toPys] at e
    cases e
    exact .nil
  | d :: ds, vs, us, ps, r, rv, e, hs, hz => by
    unfold RpL at r
    obtain ⟨v, ws, rfl, h1, h2⟩ := r
    cases rv with
    | cons r1 r2 =>
    simp only [toPys] at e
    cases q : toPy d with
    | none =>
      rw [q] at e
      cases e
    | some p =>
      rw [q] at e
      cases q2 : toPys ds with
      | none =>
        rw [q2] at e
        cases e
      | some ps' =>
        rw [q2] at e
        cases e
        have hs' : p.showable = true ∧ PyData.showableAll ps' = true := by simpa [PyData.showableAll] using hs
        exact .cons (rk_of ok kin d h1 r1 q hs'.1 (hz _ (by simp only [PyData.shownAll]; exact List.mem_cons_self ..))) (rks_of ok kin ds h2 r2 q2 hs'.2 fun t ht => hz t (by simp only [PyData.shownAll]; exact List.mem_cons_of_mem _ ht))
end
/-- the shape at the top -/
theorem shpTop (ok : HOk P w H h) (kin : K.In h) : ∀ (d : D) {v : V} {a : Addr} {p : PyData}, Rp K H d v → RelV v (.ref a) → toPy d = some p → p.showable = true → p.shown.length ≤ sizeLine → Shp P w h a p
  | .non, v, u, p, r, rv, e, _, _ => by
    unfold Rp at r
    subst r
    cases rv
  | .bl b, v, u, p, r, rv, e, _, _ => by
    unfold Rp at r
    subst r
    cases rv
  | .int i, v, u, p, r, rv, e, hs, _ => by
    unfold Rp at r
    subst r
    obtain ⟨t, e⟩ : ∃ t, Value.ref u = .int i t := rv
    cases e
  | .str x, v, u, p, r, rv, e, _, hz => by
    unfold Rp at r
    subst r
    obtain ⟨t, e⟩ : ∃ t, Value.ref u = .str x t := rv
    cases e
  | .lst ds, v, u, p, r, rv, e, hs, hz => by
    unfold Rp at r
    obtain ⟨a, xs, rfl, h1, h2⟩ := r
    have z : Value.ref u = .ref a := rv
    cases z
    simp only [toPy] at e
    cases q : toPys ds with
    | none =>
      rw [q] at e
      cases e
    | some ps =>
      rw [q] at e
      cases e
      have hz' : (listText (PyData.shownAll ps)).length ≤ sizeLine := by simpa only [PyData.shown] using hz
      exact (lst_shp ok h1 fun us vv => rks_of ok kin ds h2 vv q (by simpa [PyData.showable] using hs) (fun t ht => Nat.le_trans (listText_mem_le ht) hz'))
  | .tup ds, v, u, p, r, rv, e, hs, hz => by
    unfold Rp at r
    obtain ⟨a, xs, rfl, h1, h2⟩ := r
    have z : Value.ref u = .ref a := rv
    cases z
    simp only [toPy] at e
    cases q : toPys ds with
    | none =>
      rw [q] at e
      cases e
    | some ps =>
      rw [q] at e
      cases e
      have hz' : (tupleText (PyData.shownAll ps)).length ≤ sizeLine := by simpa only [PyData.shown] using hz
      exact (sqT_shp ok kin h1 fun us vv => rks_of ok kin ds h2 vv q (by simpa [PyData.showable] using hs) (fun t ht => Nat.le_trans (tupleText_mem_le ht) hz'))
  | .dk [], v, u, p, r, rv, e, _, _ => by
    unfold Rp at r
    obtain ⟨a, xs, rfl, h1, h2⟩ := r
    unfold RpK at h2
    subst h2
    have z : Value.ref u = .ref a := rv
    cases z
    simp only [toPy] at e
    cases e
    exact (dK_shp ok h1)
  | .dt [], v, u, p, r, rv, e, _, _ => by
    unfold Rp at r
    obtain ⟨a, xs, rfl, h1, h2⟩ := r
    unfold RpT at h2
    subst h2
    have z : Value.ref u = .ref a := rv
    cases z
    simp only [toPy] at e
    cases e
    exact (dT_shp ok h1)
  | .dk (_ :: _), v, u, p, r, rv, e, _, _ => by simp [toPy] at e
  | .dt (_ :: _), v, u, p, r, rv, e, _, _ => by simp [toPy] at e
  | .scr _, v, u, p, r, rv, e, _, _ => by simp [toPy] at e
  | .ins _ _, v, u, p, r, rv, e, _, _ => by simp [toPy] at e
  | .opq _, v, u, p, r, rv, e, _, _ => by simp [toPy] at e
/-- repr of what stands there -/
theorem Shp.call {a : Addr} {p : PyData} (sh : Shp P w h a p) (hsz : p.shown.length ≤ sizeLine) {A : Around} {E : Value → Shared → Prop} {s : Shared} {Q : Value → Shared → Prop} (hh : s.heap = h) (hg : A.guards = some []) (hu : A.units + (p.depth + 2) < cLine)
    (hQ : ∀ h' u tk, (∀ b o, s.heap.get? b = some o → h'.get? b = some o) → Q (.str p.shown u) { s with heap := h', toks := tk }) : wpAny (model P w) A (call (.builtin "repr") [.ref a]) Q E s := by
  subst hh
  have hu1 : A.units + 1 < cLine := by omega
  have same : ∀ b o, s.heap.get? b = some o → s.heap.get? b = some o := fun _ _ e => e
  cases sh with
  | lst h1 h2 h3 q =>
    rename_i o us n ps
    obtain ⟨as, _, r, _, _⟩ := id q
    have dp : (PyData.list ps).depth = PyData.depthAll ps + 1 := by simp only [PyData.depth]
    have sh : (PyData.list ps).shown = listText (PyData.shownAll ps) := by simp only [PyData.shown]
    obtain ⟨bs, _, hk, na, _⟩ := q.apart (.list h1 h2 h3 (by simpa using r)) dp
    rw [sh] at hQ hsz
    refine call_repr_slot hu1 ⟨o, h1, h2⟩ PySem.F.slot_list_repr.toG ?_
    cases us with
    | nil =>
      cases r
      have z : listText (PyData.shownAll []) = ("[]" : Str) := by unfold PyData.shownAll; exact listText_nil
      rw [z] at hQ
      exact call_list_repr_empty ⟨o, h1, h2⟩ h1 h3 ⟨_, _, rfl, hQ _ _ _ same⟩
    | cons x l =>
      refine call_list_reprK h1 h2 h3 na (by rw [hk.length_eq, List.size_toArray]) (fun i y e => hk.item i y (by rw [← e]; simp)) (A := A.in1) hg (fun _ _ => Clear.nil _) ?_ same (fun h' u tk k => ⟨_, _, rfl, hQ h' u tk k⟩) hsz
      show A.units + 1 + _ < cLine
      omega
  | tup h1 h2 h3 q =>
    rename_i o us n ps
    obtain ⟨as, _, r, _, _⟩ := id q
    have dp : (PyData.tuple ps).depth = PyData.depthAll ps + 1 := by simp only [PyData.depth]
    have sh : (PyData.tuple ps).shown = tupleText (PyData.shownAll ps) := by simp only [PyData.shown]
    obtain ⟨bs, _, hk, na, _⟩ := q.apart (.tuple h1 h2 h3 r) dp
    rw [sh] at hQ hsz
    refine call_repr_slot hu1 ⟨o, h1, h2⟩ PySem.F.slot_tuple_repr ?_
    refine call_tuple_reprK h1 h2 h3 na hk (A := A.in1) hg (fun _ _ => Clear.nil _) ?_ same (fun h' u tk k => ⟨_, _, rfl, hQ h' u tk k⟩) hsz
    show A.units + 1 + _ < cLine
    omega
  | dct h1 h2 h3 hs =>
    rename_i o n
    have sh : (PyData.dict []).shown = dictText [] := by simp only [PyData.shown, PyData.shownKv]
    rw [sh] at hQ hsz
    refine call_repr_slot hu1 ⟨o, h1, h2⟩ PySem.F.slot_dict_repr ?_
    refine call_dict_reprK (as := []) (d := 0) h1 h2 h3 hs (by simp) (by simpa using ReprEntriesK.nil) (A := A.in1) hg (fun _ _ => Clear.nil _) ?_ same (fun h' u tk k => ⟨_, _, rfl, hQ h' u tk k⟩) hsz
    show A.units + 1 + _ < cLine
    omega
end
def gRepr : List D → Option B
  | [d] => (toPy d).bind fun p => if p.showable = true ∧ p.shown.length ≤ sizeLine ∧ p.depth ≤ 60 then some (.dat (.str p.shown)) else none
  | _ => none
abbrev rRepr (K : PySem.W.Frag) : List V → Hp → VK → Prop := fun xs H Q => ∃ x d p, xs = [x] ∧ Rp K H d x ∧ toPy d = some p ∧ p.showable = true ∧ p.shown.length ≤ sizeLine ∧ p.depth ≤ 60 ∧ Q (.str p.shown) H
theorem cr_repr0 {X : Cx} (hg : X.A.guards = some []) (hu : X.A.units + 65 < cLine) : CallR X (.builtin "repr") (rRepr X.K) := by
  intro pins s σ H xs us Q I r q
  obtain ⟨x, d, p, rfl, h1, h2, h3, h4, h5, q⟩ := q
  obtain ⟨u, rfl, hr⟩ := vals1 r
  have ok := I.hok
  have kin := I.kIn
  have prim : (∃ a, u = .ref a) ∨ ∀ a, u ≠ .ref a := by
    cases u <;> first
      | exact .inl ⟨_, rfl⟩
      | exact .inr fun a z => nomatch z
  rcases prim with ⟨a, rfl⟩ | np
  · exact (shpTop ok kin d h1 hr h2 h3 h4).call h4 rfl hg (by omega) fun h' u tk hk => ⟨.str p.shown, H, I.kept hk, ⟨u, rfl⟩, q⟩
  · cases d with
    | non =>
      unfold Rp at h1
      subst h1
      obtain rfl : u = .none := hr
      simp only [toPy] at h2
      cases h2
      simp only [PyData.shown] at q
      exact PySem.P.repr_of_none ⟨.str _, H, I.tok _, ⟨_, rfl⟩, q⟩
    | bl b =>
      unfold Rp at h1
      subst h1
      obtain rfl : u = .bool b := hr
      simp only [toPy] at h2
      cases h2
      simp only [PyData.shown] at q
      exact PySem.P.repr_of_bool ⟨.str _, H, I.tok _, ⟨_, rfl⟩, q⟩
    | int i =>
      unfold Rp at h1
      subst h1
      obtain ⟨t, rfl⟩ : ∃ t, u = .int i t := hr
      simp only [toPy] at h2
      cases h2
      simp only [PyData.shown] at q
      exact PySem.P.repr_of_int (by simpa [PyData.showable] using h3) ⟨.str _, H, I.tok _, ⟨_, rfl⟩, q⟩
    | str y =>
      unfold Rp at h1
      subst h1
      obtain ⟨t, rfl⟩ : ∃ t, u = .str y t := hr
      simp only [toPy] at h2
      cases h2
      simp only [PyData.shown] at q h4
      exact PySem.P.repr_of_str ⟨.str _, H, I.tok _, ⟨_, rfl⟩, q⟩ h4
    | lst ds =>
      unfold Rp at h1
      obtain ⟨a, xs, rfl, _, _⟩ := h1
      exact absurd hr (np a)
    | tup ds =>
      unfold Rp at h1
      obtain ⟨a, xs, rfl, _, _⟩ := h1
      exact absurd hr (np a)
    | dk ds =>
      unfold Rp at h1
      obtain ⟨a, xs, rfl, _, _⟩ := h1
      exact absurd hr (np a)
    | dt ds =>
      unfold Rp at h1
      obtain ⟨a, xs, rfl, _, _⟩ := h1
      exact absurd hr (np a)
    | scr ds => simp [toPy] at h2
    | ins c ds => simp [toPy] at h2
    | opq v => simp [toPy] at h2
section
variable {X : Fam} {T : List (Addr × Str)} {K : PySem.W.Frag}
theorem cr_repr (hg : ∀ i, (X.at_ i).A.guards = some []) (hu : ∀ i, (X.at_ i).A.units + 65 < cLine) : ∀ i, CallR (X.at_ i) (.builtin "repr") (rRepr X.K) := fun i => by
  rw [← X.hK i]
  exact cr_repr0 (hg i) (hu i)
theorem vl_repr : VL K T (rRepr K) gRepr := by
  intro F H A ρ σ ds vs b Q s r p e f
  unfold gRepr at e
  split at e
  · rename_i d
    obtain ⟨v, rfl, hv⟩ := Paired.one p
    cases q : toPy d with
    | none =>
      rw [q] at e
      cases e
    | some pd =>
      rw [q] at e
      simp only [Option.bind] at e
      split at e
      · rename_i c
        cases e
        exact ⟨v, d, pd, rfl, RpTop.rp s hv, q, c.1, c.2.1, c.2.2, f.dat s r rp_str⟩
      · cases e
  · cases e
end

end Dl

set_option Elab.async false
set_option linter.all false
set_option maxRecDepth 100000
namespace Dl
open PySem PySem.Spec L2
open PyProof.Rows hiding St

/-! ## a def that is called where no repr is under way: it may call repr -/
section
variable {P : Program} {w : World} {K : PySem.W.Frag} {mg : Str → Option Value} {base : Heap}
structure FnG (P : Program) (w : World) (K : PySem.W.Frag) (mg : Str → Option Value) (base : Heap) (k : Nat) (f : Addr) (fd : FuncData) (ps : List Str) (sp : Sp) : Prop where
  len : ∀ vs H Q E, sp vs H Q E → vs.length = ps.length
  run : ∀ (A : Around), A.guards = some [] → ∀ (outer : List Env) (s : Shared) (H : Hp) (args : Args) (us : List Value) (vs : List V) (Q : VK) (E : XK), Room k A → Env0 P w K mg base A outer s H → BindsTo s fd args (ps.zip us) → Vals vs us → sp vs H Q E →
    codeAny (model P w) A (.call (.ref f) args) (CR (L2.CX P w) outer P w H s Q E) s
theorem FnG.imp {k : Nat} {f : Addr} {fd : FuncData} {ps : List Str} {sp sp' : Sp} (F : FnG P w K mg base k f fd ps sp) (h : ∀ vs H Q E, sp' vs H Q E → sp vs H Q E) : FnG P w K mg base k f fd ps sp' :=
  ⟨fun vs H Q E q => F.len vs H Q E (h _ _ _ _ q), fun A hg outer s H args us vs Q E hr he hb hv hs => F.run A hg outer s H args us vs Q E hr he hb hv (h _ _ _ _ hs)⟩
/-- THE RULE for such a def: its body is run where no repr is under way -/
theorem fn_dG {x qual : Str} {st : Stmt} {f : Addr} {fd : FuncData} {N ps : List Str} {k : Nat} {T : List (Addr × Str)} {g : FS} (Pr : List Nat) (F : Fun K x qual st f fd) (S : FnScope N ps (defScope st)) (hPr : ∀ j ∈ Pr, j < ps.length)
    (hbody : ∀ (cdv : Value) (A : Around) (outer : List Env) (s : Shared) (H : Hp) (E : XK), A.guards = some [] → Room k (A.deeper (envOfC qual (defScope st) s.heap.objs.size f cdv)) →
      DSs (oneF (cxOf (L2.CX P w) P w K mg base N qual (defScope st) f cdv A outer s H E)) T (fun cls d _ H => E cls d H) Pr (defBody st) g) : FnG P w K mg base (k + 1) f fd ps (spD K T ps.length (toF Pr ps.length N.length g)) := by
  obtain ⟨oc, od, kV, doc, pm, an, cdv, ct, osl, rfl, lk, hcd⟩ := F.ex
  refine ⟨fun vs H Q E h => h.1, fun A hg outer s H args us vs Q E hr e0 hb r hsp => ?_⟩
  -- the promise of a def for which this Around alone counts: its reading is asked for here
  have hl : vs.length = ps.length := hsp.1
  have kin : K.In s.heap := e0.mod.kin.keeps fun b o e => (e0.bs b o e).1
  have nl : s.heap.NoLimit := e0.mod.nolimit.keeps fun b o e => (e0.bs b o e).1
  refine codeAny_call_function hr.depth (kin _ _ lk) rfl S.co S.gen rfl (PySem.W.codeRec_of kin hcd) (hb _ _ _ _ ?_)
  refine wpAny_newFunctionEnv_cells S.kind (fun ⟨n, v⟩ hy => ?_) fun env he s1 q => ?_
  · rcases S.par n (List.of_mem_zip hy).1 with z | z
    · exact .inl z
    · exact .inr ⟨z, PySem.W.cellsFrom_some _ _ _ (.inl z)⟩
  subst he
  refine ⟨nl.keeps q.toInCall.keep, codeAny_func ?_⟩
  have I : Inv (cxOf (L2.CX P w) P w K mg base N qual (defScope st) f cdv A outer s H E) [] (L2.start N vs) H s1 := inv_start S hr.hd e0 hl r q
  obtain ⟨_, F0, A0, bs, sub, ntb, tab, rep, p⟩ := hsp
  obtain ⟨t, pss, sound⟩ := hbody cdv A outer s H E hg (hr.deeper _)
  have run : t { nx := fun _ H' => Q .non H', rt := Q } (L2.start N vs) H := by
    refine sound (fun i h => nomatch (show i ∈ ([] : List Nat) from h)) _ F0 H A0 (bs ++ List.replicate (N.length - ps.length) .un) _ ⟨sub, tab, ?_, trivial, ntb⟩ ?_
    · have q := RepS.join rep (rep_uns (K := K) (F := F0) (H := H) (N.length - ps.length)) fun a m z => by cases z
      rw [List.append_nil] at q
      unfold L2.start
      rw [hl]
      exact q
    · have keep : ∀ {σ' : St}, Keep Pr (L2.start N vs) σ' → ∀ i, i < ps.length → Pr.contains (0 + i) = true → σ'[i]? = (vs.map some)[i]? := fun k i hi hc => by
        rw [Nat.zero_add] at hc
        rw [k i (by simpa using hc)]
        unfold L2.start
        rw [List.getElem?_append_left (by rw [List.length_map, hl]; exact hi)]
      unfold toF at p
      cases q : g (bs ++ List.replicate (N.length - ps.length) .un) with
      | stuck =>
        rw [q] at p
        exact p.elim
      | bk ρ =>
        rw [q] at p
        exact p.elim
      | ct ρ =>
        rw [q] at p
        exact p.elim
      | nx ρ =>
        rw [q] at p
        intro σ' F' H' A' g' r' k'
        obtain ⟨A2, r2, m2⟩ := outs_ok Pr ps.length 0 r' (svs := vs.map some) (by rw [List.length_map]; exact hl) fun i hi hc _ => keep k' i hi hc
        exact p .non F' H' A2 (g'.less m2) (r2.dat rp_non)
      | rt b ρ =>
        rw [q] at p
        intro v σ' F' H' A' g' r' k'
        obtain ⟨ft, A1, rfl, kb, t', dj⟩ := r'.head
        obtain ⟨A2, r2, m2⟩ := outs_ok Pr ps.length 0 t' (svs := vs.map some) (by rw [List.length_map]; exact hl) fun i hi hc _ => keep k' i hi hc
        exact p v F' H' (ft ++ A2) (g'.less fun a m => by
          rcases List.mem_append.mp m with z | z
          · exact List.mem_append_left _ z
          · exact List.mem_append_right _ (m2 a z)) (.cons kb r2 fun a m z => dj a m (m2 a z))
      | er x ρ =>
        rw [q] at p
        intro σ' F' H' A' cls dd g' r' k' rx
        obtain ⟨A2, r2, m2⟩ := outs_ok Pr ps.length 0 r' (svs := vs.map some) (by rw [List.length_map]; exact hl) fun i hi hc _ => keep k' i hi hc
        exact p F' H' A2 cls dd (g'.less m2) r2 rx
  refine wpAny_mono ((pss ()).run [] s1 (L2.start N vs) H _ I run) (fun fl s' hs => ?_) fun e s' hs => hs
  cases fl with
  | ret u =>
    obtain ⟨v, σ', H', J, rv, z⟩ := hs
    exact ⟨v, H', J.os, J.bare, J.base, J.hok, rv, z⟩
  | next =>
    obtain ⟨σ', H', J, z⟩ := hs
    exact ⟨.non, H', J.os, J.bare, J.base, J.hok, rfl, z⟩
  | brk => exact hs.elim fun _ h => h.elim fun _ h => h.2.elim
  | cont => exact hs.elim fun _ h => h.elim fun _ h => h.2.elim
theorem law_endG {T : List (Addr × Str)} {k : Nat} {f : Addr} {fd : FuncData} {ps : List Str} {G : FG} (F : FnG P w K mg base k f fd ps (spD K T 1 G))
    (hG : ∀ ns : List Int, ns.length ≤ 63 → (∀ z ∈ ns, Builtin.Int.intBits z ≤ 1048576) → ∃ outs, G [.dat (.scr (ns.map .int))] = .ok (.dat (.bl true)) outs) : FnG P w K mg base k f fd ps (spLawB K T) := by
  refine F.imp fun vs H Q E h => ?_
  obtain ⟨hT, a, ns, rfl, hS, hl, hb, q⟩ := h
  obtain ⟨outs, e⟩ := hG ns hl hb
  obtain ⟨F0, sub, ntb, hS'⟩ : ∃ F0 : Hp, Sub F0 H ∧ NoTb F0 ∧ SqL K F0 a (ns.map V.int) := by
    rcases hS with hS | hS
    · refine ⟨fun b => if b = a then H a else none, fun b o e => ?_, ⟨fun b ps e => ?_, fun b o xs e => ?_⟩, ?_⟩
      · by_cases z : b = a
        · subst z
          simpa using e
        · simp [z] at e
      · by_cases z : b = a
        · subst z
          simp at e
          rcases hS with hS | ⟨o, hS⟩ <;> rw [hS] at e <;> cases e
        · simp [z] at e
      · by_cases z : b = a
        · subst z
          simp at e
          rcases hS with hS | ⟨o, hS⟩ <;> rw [hS] at e <;> cases e
        · simp [z] at e
      · rcases hS with hS | ⟨o, hS⟩
        · exact .inl (.inl (by simpa using hS))
        · exact .inl (.inr ⟨o, by simpa using hS⟩)
    · exact ⟨fun _ => none, (fun b o e => by cases e), ⟨(fun b ps e => by cases e), (fun b o xs e => by cases e)⟩, .inr hS⟩
  have r0 : RepS K F0 H [] [] [] := .nil
  refine ⟨rfl, F0, [], [.dat (.scr (ns.map .int))], sub, ntb, hT, ?_, ?_⟩
  · refine r0.dat ?_
    unfold Rp
    exact ⟨a, ns.map V.int, rfl, hS', RpL.ints⟩
  · rw [e]
    intro v F' H' A' g r
    obtain ⟨v', e1, z, _⟩ := r.dat_inv
    cases e1
    unfold Rp at z
    subst z
    exact q H'
/-- the call of the law, where no repr is under way. A heap that tracks the script alone: nothing where the script is the module's own -/
theorem call_G {k : Nat} {fa a : Addr} {fd : FuncData} {x : Str} {sp : Sp} {mb : Str → Option Value} {s : Shared} {vs : List Value} {ns : List Int}
    (KX : K.In s.heap) (hns : s.heap.Ns mainGlobals mg) (hb : s.heap.Ns builtinsNs mb) (hbb : ∀ x : Str, x ≠ "__name__" → mb x = bootBuiltins x) (hlim : s.heap.NoLimit) (hg : s.gens = #[])
    (ha : s.heap.get? a = some { cls := .type "list", data := .seq vs.toArray }) (hi : IntsAre vs ns) (hl : ns.length ≤ sizeLine) (hr : Room k callerA)
    (F : ∀ base : Heap, K.In base → base.Ns mainGlobals mg → FnG P w K mg base k fa fd [x] sp) (hbind : ∀ (s : Shared) (u : Value), BindsTo s fd ⟨[u], []⟩ [(x, u)])
    (hsp : ∀ H : Hp, Only H → SqL K H a (ns.map V.int) → sp [.ref a] H (fun v _ => v = .bl true) fun _ _ _ => False)
    (hCX : ∀ H e s', L2.CX P w [] H s (fun _ _ _ => False) e s' → False) :
    codeAny (model P w) callerA (.call (.ref fa) ⟨[.ref a], []⟩) (fun r s' => r = .ok (.ret (.bool true)) ∧ OldK s.heap s'.heap ∧ s'.os = s.os ∧ AllBare s'.gens) s := by
  obtain ⟨H, only, hS, hok, hA, hK⟩ : ∃ H : Hp, Only H ∧ SqL K H a (ns.map V.int) ∧ HOk P w H s.heap ∧ (∀ b, H b ≠ none → b = a) ∧ (H a ≠ none → K.lookup a = none) := by
    have rv := vals_ints hi
    have two : K.lookup a = none ∨ ∃ o, K.lookup a = some o := by
      cases K.lookup a with
      | none => exact .inl rfl
      | some o => exact .inr ⟨o, rfl⟩
    rcases two with hk | ⟨o, hk⟩
    rotate_left
    · have e := (KX a o hk).symm.trans ha
      cases e
      exact ⟨fun _ => none, fun _ => .inl rfl, .inr ⟨_, vs.toArray, _, hk, rfl, rfl, rfl, by rw [List.size_toArray, hi.length]; exact hl, by simpa using rv⟩, (fun _ _ z => nomatch z), (fun _ z => (z rfl).elim), fun z => (z rfl).elim⟩
    · let o : HO := .frz { cls := .type "list", data := .seq vs.toArray } (.lst (ns.map V.int))
      have at_ : ∀ b u, upd (fun _ => none) a o b = some u → b = a ∧ u = o := fun b u z => by
        by_cases h : b = a
        · rw [h, upd_same] at z
          exact ⟨h, (Option.some.inj z).symm⟩
        · rw [upd_ne h] at z
          cases z
      refine ⟨upd (fun _ => none) a o, fun b => ?_, .inl (.inr ⟨_, upd_same⟩), fun b u z => ?_, fun b z => ?_, fun _ => hk⟩
      · cases z : upd (fun _ => none) a o b with
        | none => exact .inl rfl
        | some u => exact .inr ⟨{ cls := .type "list", data := .seq vs.toArray }, ns.map V.int, by rw [(at_ b u z).2]⟩
      · obtain ⟨rfl, rfl⟩ := at_ b u z
        have hz : (ns.map V.int).length ≤ sizeLine := by simpa using hl
        exact ⟨ha, hz, vs, _, rv, ha⟩
      · cases q : upd (fun _ => none) a o b with
        | none => exact (z q).elim
        | some u => exact (at_ b u q).1
  have up : ∀ {b : Addr} {o : Obj}, s.heap.get? b = some o → H b = none → (hidT s.heap H).get? b = some o := fun e n => hidT_get e n
  have dct : ∀ {b : Addr} {o : Obj} {es : Array DictEntry} {n : Nat}, s.heap.get? b = some o → o.data = .dict es n → H b = none := fun {b o es n} e d => by
    cases q : H b with
    | none => rfl
    | some u =>
      obtain rfl := hA b (by rw [q]; simp)
      cases ha.symm.trans e
      cases d
  have ns' : ∀ {b : Addr} {m : Str → Option Value}, s.heap.Ns b m → (hidT s.heap H).Ns b m := fun ⟨o, es, n, e, d, r⟩ => ⟨o, es, n, up e (dct e d), d, r⟩
  have kb : K.In (hidT s.heap H) := fun b o e => up (KX b o e) (by
    cases q : H b with
    | none => rfl
    | some u =>
      obtain rfl := hA b (by rw [q]; simp)
      exact nomatch (hK (by rw [q]; simp)).symm.trans e)
  have e0 : Env0 P w K mg (hidT s.heap H) callerA [] s H :=
    ⟨rfl, ⟨kb, ns' hns, ⟨mb, ns' hb, hbb⟩, hlim.elim fun mc h => ⟨mc, ns' h.1, h.2⟩⟩, fun b o e => of_hidT e, Nat.le_of_eq (hidT_size _ _), trivial, (fun b m => nomatch (show b ∈ ([] : List Addr) from m)), hok, AllBare.of_eq hg⟩
  refine codeAny_mono ((F _ kb (ns' hns)).run callerA rfl [] s H ⟨[.ref a], []⟩ [.ref a] [.ref a] _ _ hr e0 (hbind s (.ref a)) (.cons rfl .nil) (hsp H only hS)) fun r s' h => ?_
  match r, h with
  | .error e, h => exact (hCX H e s' h).elim
  | .ok .next, h => exact False.elim h
  | .ok .brk, h => exact False.elim h
  | .ok .cont, h => exact False.elim h
  | .ok (.ret u), h =>
    obtain ⟨v, G, hos, hbare, un, hokG, rv, hv⟩ := h
    have hv : v = .bl true := hv
    rw [hv] at rv
    have hu : u = Value.bool true := rv
    rw [hu]
    refine ⟨rfl, .of_keep fun b o e => ?_, hos, hbare⟩
    rcases only b with z | ⟨ob, xs, z⟩
    · exact un.keep b o e z (fun m => (nomatch (show b ∈ ([] : List Addr) from m))) (by simp)
    · have e1 := (hok b _ z).1
      rw [e] at e1
      cases e1
      exact (hokG b _ (un.frzs b _ _ z)).1
end
theorem walk_lawG {l : PySem.W.OpenLaw} {q : Program} {loose : List Str} {XP : (Str → Option Value) → Heap → Prop} {YP : World → Heap → Prop} {d : DefRec} {K : Params → PySem.W.Frag} {k : Nat} {x : Str} (hn : l.most = some 63) (hdf : d.params.defaults = []) (hr : Room k callerA)
    (hY : ∀ (w : World) (h : Heap), YP w h → (K w.params).In h)
    (F : ∀ (w : World) (mg : Str → Option Value) (fa : Addr) (h : Heap), (K w.params).In h → h.Ns mainGlobals mg → mg d.name = some (.ref fa) →
      ∃ fd : FuncData, (∀ (s : Shared) (u : Value), BindsTo s fd ⟨[u], []⟩ [(x, u)]) ∧ ∀ base : Heap, (K w.params).In base → base.Ns mainGlobals mg → FnG l.prog w (K w.params) mg base k fa fd [x] (spLawB (K w.params) [])) :
    PySem.W.WalkO q loose XP YP l.row.toRowW d [] (fun f vs => PySem.call f vs) := by
  refine Att.attach_callB hn hdf fun w s₀ s₁ mg mb fa o pm cd doc a vs ns G Y ho hd hcd hmg hobj hints hlen hbits hg => ?_
  have KX := hY w _ Y
  obtain ⟨fd, hb, hF⟩ := F w mg fa _ KX G.T.g hmg
  refine call_G KX G.T.g G.T.b G.T.builtins G.T.nolimit hg hobj hints (Nat.le_trans hlen (by decide)) hr hF hb (fun H hO hS => ⟨(fun _ m => nomatch m), a, ns, rfl, hS, hlen, hbits, fun _ => rfl⟩) fun H e s' z => ?_
  obtain ⟨_, _, _, _, _, _, _, _, _, _, _, _, e⟩ := z
  exact e
end Dl

set_option Elab.async false
set_option linter.all false
set_option maxRecDepth 100000
set_option maxHeartbeats 1000000
namespace Dl
open PySem PySem.Spec L2
open PyProof.Rows hiding St

/-! ## programs: what is judged -/
/-- what may be compared with a text -/
def cmpB : D → Bool
  | .dk _ => true
  | d => shp d
theorem gEq_cmp {d : D} (h : cmpB d = true) (s : String) : gEq d (.str (Str.ofString s)) = some (.dat (.bl (eqD d (.str (Str.ofString s))))) ∨ ∃ ks, d = .dk ks := by
  cases d <;> first
    | exact .inr ⟨_, rfl⟩
    | exact .inl (gEq_of h (by simp))
def isS (s : String) : D → Bool
  | .str t => t == Str.ofString s
  | _ => false
theorem eqD_isS {d : D} (h : shp d = true) (s : String) : eqD d (.str (Str.ofString s)) = isS s d := by
  cases d <;> simp [eqD, py, PyData.eqv, isS]
@[simp] theorem shp_dk (ks : List (Key × D)) : shp (.dk ks) = false := by
  simp [shp, SeqAt.shaped, py, PyData.canLay0]
theorem gEq_isS {d : D} (h : cmpB d = true) (s : String) : gEq d (.str (Str.ofString s)) = some (.dat (.bl (isS s d))) := by
  cases d <;> first
    | (rw [gEq_of h (by simp), eqD_isS h]; done)
    | (simp [gEq, dkStr, lstOf, isS]; done)
theorem gNe_isS {d : D} (h : cmpB d = true) (s : String) : gNe d (.str (Str.ofString s)) = some (.dat (.bl (!isS s d))) := by
  cases d <;> first
    | (rw [gNe_of h (by simp), eqD_isS h]; done)
    | (simp [gNe, dkStr, lstOf, isS]; done)
def slB : D → Bool
  | .tup [x, _] => cmpB x
  | _ => true
def stB : D → Bool
  | .tup [a, b] => cmpB a && slB b
  | _ => true
def pgB : D → Bool
  | .tup [_, .tup ss] => ss.all stB
  | _ => true
def isSlotD (n : Int) : D → Bool
  | .tup [x, y] => (isS "box" x && isFromD y 0 999999) || (isS "key" x && isFromD y 0 (n - 1))
  | _ => false
def isStpD (n : Int) : D → Bool
  | .tup [a, b] => isWord a && isSlotD n b
  | _ => false
def areTabD : D → Bool
  | .tup ts => decide (ts.length ≤ 3) && ts.all fun d => isFromD d 1 9
  | _ => false
def slotOf : D → D
  | .tup [_, s] => s
  | _ => .non
def coverD (n : Nat) (ss : List D) : Bool := (rngD 0 n).all fun k => inD (.tup [.str (Str.ofString "key"), k]) (ss.map slotOf)
def isProgD : D → Bool
  | .tup [.tup ts, .tup ss] => areTabD (.tup ts) && (decide (1 ≤ ss.length) && decide (ss.length ≤ 6)) && ss.all (isStpD ts.length) && ordF ss 0 ss && coverD ts.length ss
  | _ => false
def areProgD : D → Bool
  | .lst ds => decide (1 ≤ ds.length) && decide (ds.length ≤ 4) && ds.all isProgD
  | _ => false

/-! ## slots as numbers: a box's own, a key's below nought -/
def slotD (i : Int) : D := .tup [.str (Str.ofString (if 0 ≤ i then "box" else "key")), .int (if 0 ≤ i then i else -1 - i)]
def stp (p : Wb) : D := .tup [wd p.1, slotD p.2]
def okC (n : Int) (i : Int) : Prop := (0 ≤ i ∨ -n ≤ i) ∧ i ≤ 999999
theorem slot_inv {n : Int} {d : D} (h : isSlotD n d = true) : ∃ i, d = slotD i ∧ okC n i := by
  unfold isSlotD at h
  split at h
  · rename_i x y
    rw [Bool.or_eq_true, Bool.and_eq_true, Bool.and_eq_true] at h
    rcases h with ⟨h1, h2⟩ | ⟨h1, h2⟩
    · unfold isS at h1
      split at h1
      · unfold isFromD at h2
        split at h2
        · rename_i t _ i
          simp at h2
          exact ⟨i, by rw [eq_of_beq h1]; simp [slotD, h2.1], by unfold okC; omega⟩
        · cases h2
      · cases h1
    · unfold isS at h1
      split at h1
      · unfold isFromD at h2
        split at h2
        · rename_i t _ i
          simp at h2
          refine ⟨-1 - i, ?_, by unfold okC; omega⟩
          have : ¬ (0 ≤ -1 - i) := by omega
          rw [eq_of_beq h1]
          simp only [slotD, if_neg this]
          congr 4
          omega
        · cases h2
      · cases h1
  · cases h
theorem slot_ok {n i : Int} (h : okC n i) : isSlotD n (slotD i) = true := by
  unfold okC at h
  by_cases c : 0 ≤ i
  · simp [slotD, isSlotD, isS, isFromD, c]
    exact .inl h.2
  · simp [slotD, isSlotD, isS, isFromD, c]
    exact .inr (by omega)
theorem stp_inv {n : Int} {d : D} (h : isStpD n d = true) : ∃ p : Wb, d = stp p ∧ okC n p.2 := by
  unfold isStpD at h
  split at h
  · rename_i a b
    rw [Bool.and_eq_true] at h
    obtain ⟨i, rfl, hi⟩ := slot_inv h.2
    have h1 := h.1
    unfold isWord at h1
    split at h1
    · rw [Bool.or_eq_true] at h1
      rcases h1 with h1 | h1
      · exact ⟨(false, i), by rw [eq_of_beq h1]; rfl, hi⟩
      · exact ⟨(true, i), by rw [eq_of_beq h1]; rfl, hi⟩
    · cases h1
  · cases h
theorem stp_ok {n : Int} {p : Wb} (h : okC n p.2) : isStpD n (stp p) = true := by
  have := slot_ok h
  obtain ⟨w, i⟩ := p
  cases w <;> simp [stp, isStpD, isWord, wd, this]
theorem stps_inv {n : Int} : ∀ {ds : List D}, ds.all (isStpD n) = true → ∃ ps : List Wb, ds = ps.map stp ∧ ∀ p ∈ ps, okC n p.2
  | [], _ => ⟨[], rfl, fun _ m => (nomatch m)⟩
  | d :: ds, h => by
    rw [List.all_cons, Bool.and_eq_true] at h
    obtain ⟨p, rfl, hp⟩ := stp_inv h.1
    obtain ⟨ps, rfl, hps⟩ := stps_inv h.2
    exact ⟨p :: ps, rfl, fun q m => (List.mem_cons.mp m).elim (fun e => e ▸ hp) (hps q)⟩
theorem shn_slotD (i : Int) : shn 1 (slotD i) = true := by
  unfold slotD
  rw [show (1 : Nat) = 0 + 1 from rfl, shn_tup]
  simp
theorem shn_stp (p : Wb) : shn 2 (stp p) = true := by
  unfold stp
  rw [show (2 : Nat) = 1 + 1 from rfl, shn_tup]
  simp [wd, shn_slotD]
theorem shn_stps (n : Nat) (ps : List Wb) : shn (n + 3) (.tup (ps.map stp)) = true := by
  rw [show n + 3 = (n + 2) + 1 from rfl, shn_tup, List.all_eq_true]
  intro d m
  obtain ⟨p, _, rfl⟩ := List.mem_map.mp m
  exact shn_mono (shn_stp p) (by omega)
theorem eqD_slotD (i j : Int) : eqD (slotD i) (slotD j) = decide (i = j) := by
  unfold slotD
  rw [eqD_tup2, eqD_str, eqD_int]
  rw [Bool.eq_iff_iff]
  simp only [Bool.and_eq_true, beq_iff_eq, decide_eq_true_eq, ofString_inj]
  by_cases c : 0 ≤ i
  · by_cases c' : 0 ≤ j <;> simp [c, c'] <;> omega
  · by_cases c' : 0 ≤ j <;> simp [c, c'] <;> omega
theorem eqD_stp (p q : Wb) : eqD (stp p) (stp q) = decide (p = q) := by
  unfold stp
  rw [eqD_tup2, eqD_wd, eqD_slotD, Bool.eq_iff_iff]
  simp only [Bool.and_eq_true, decide_eq_true_eq]
  exact ⟨fun h => Prod.ext h.1 h.2, fun h => by rw [h]; exact ⟨rfl, rfl⟩⟩
theorem inD_stp (p : Wb) : ∀ ps : List Wb, inD (stp p) (ps.map stp) = decide (p ∈ ps)
  | [] => rfl
  | q :: ps => by
    have ih := inD_stp p ps
    unfold inD at ih ⊢
    rw [List.map_cons, List.any_cons, ih, eqD_stp, Bool.eq_iff_iff]
    simp only [Bool.or_eq_true, decide_eq_true_eq, List.mem_cons]
    exact ⟨fun h => h.imp Eq.symm id, fun h => h.imp Eq.symm id⟩
theorem inD_slotD (i : Int) : ∀ is : List Int, inD (slotD i) (is.map slotD) = decide (i ∈ is)
  | [] => rfl
  | q :: ps => by
    have ih := inD_slotD i ps
    unfold inD at ih ⊢
    rw [List.map_cons, List.any_cons, ih, eqD_slotD, Bool.eq_iff_iff]
    simp only [Bool.or_eq_true, decide_eq_true_eq, List.mem_cons]
    exact ⟨fun h => h.imp Eq.symm id, fun h => h.imp Eq.symm id⟩
theorem badS_stp (ps : List Wb) (k : Nat) (p : Wb) : badS (ps.map stp) k (stp p) = badP ps k p := by
  have h1 := inD_stp p (ps.take k)
  have h2 := inD_stp (true, p.2) (ps.take k)
  rw [List.map_take] at h1 h2
  show (inD (stp p) ((ps.map stp).take k) || (eqD (wd p.1) (.str "read") && inD (stp (true, p.2)) ((ps.map stp).take k))) = _
  rw [h1, h2]
  obtain ⟨a, b⟩ := p
  cases a <;> simp [badP, wd, ofString_inj]
theorem ordF_stp (ps : List Wb) : ∀ (r : List Wb) (k : Nat), ordF (ps.map stp) k (r.map stp) = ordP ps k r
  | [], k => rfl
  | p :: r, k => by
    rw [List.map_cons, ordF, ordP, badS_stp, ordF_stp ps r]
theorem ordP_add {ps : List Wb} {p : Wb} (h : ordP ps 0 ps = true) (h1 : p ∉ ps) (h2 : (true, p.2) ∉ ps) : ordP (ps ++ [p]) 0 (ps ++ [p]) = true := by
  have e := ordP_snoc p ps []
  rw [List.nil_append] at e
  rw [List.length_nil] at e
  rw [e, h]
  simp [badP, h1, h2]
theorem slots_stp (ps : List Wb) : (ps.map stp).map slotOf = (ps.map (·.2)).map slotD := by
  rw [List.map_map, List.map_map]
  rfl
theorem keyD_slotD (k : Nat) : D.tup [.str (Str.ofString "key"), .int (k : Int)] = slotD (-1 - (k : Int)) := by
  have : ¬ 0 ≤ -1 - (k : Int) := by omega
  simp only [slotD, if_neg this]
  congr 4
  omega
theorem cover_stp {n : Nat} {ps : List Wb} (h : ∀ k : Nat, k < n → ∃ p ∈ ps, p.2 = -1 - (k : Int)) : coverD n (ps.map stp) = true := by
  unfold coverD
  rw [List.all_eq_true]
  intro d m
  unfold rngD at m
  obtain ⟨k, hk, rfl⟩ := List.mem_map.mp m
  simp only [List.mem_range] at hk
  obtain ⟨p, hp, e⟩ := h k hk
  rw [slots_stp]
  have : D.tup [.str (Str.ofString "key"), .int (0 + (k : Int))] = slotD (-1 - (k : Int)) := by rw [Int.zero_add]; exact keyD_slotD k
  rw [this, inD_slotD, decide_eq_true_eq]
  exact List.mem_map.mpr ⟨p, hp, e⟩
/-- a program -/
structure Prg (ts : List Int) (ps : List Wb) : Prop where
  tl : ts.length ≤ 3
  tr : ∀ t ∈ ts, 1 ≤ t ∧ t ≤ 9
  ne : ps ≠ []
  le : ps.length ≤ 6
  ok : ∀ p ∈ ps, okC ts.length p.2
  od : ordP ps 0 ps = true
  cv : ∀ k : Nat, k < ts.length → ∃ p ∈ ps, p.2 = -1 - (k : Int)
def prg (ts : List Int) (ps : List Wb) : D := .tup [.tup (ts.map .int), .tup (ps.map stp)]
theorem Prg.is {ts : List Int} {ps : List Wb} (g : Prg ts ps) : isProgD (prg ts ps) = true := by
  have h1 := List.length_pos_iff.mpr g.ne
  have h2 := g.tl
  have h3 := g.le
  have e1 : (ts.map D.int).all (fun d => isFromD d 1 9) = true := by
    rw [List.all_eq_true]
    intro d m
    obtain ⟨t, ht, rfl⟩ := List.mem_map.mp m
    have := g.tr t ht
    simp [isFromD, this.1, this.2]
  have e2 : (ps.map stp).all (isStpD ts.length) = true := by
    rw [List.all_eq_true]
    intro d m
    obtain ⟨p, hp, rfl⟩ := List.mem_map.mp m
    exact stp_ok (g.ok p hp)
  have e3 := cover_stp g.cv
  have e4 := g.od
  simp only [prg, isProgD, areTabD, List.length_map, e1, e2, ordF_stp, e3, e4, Bool.and_true, Bool.and_eq_true, decide_eq_true_eq]
  omega
end Dl

set_option Elab.async false
set_option linter.all false
set_option maxRecDepth 100000
namespace Dl
open PySem PySem.Spec L2
open PyProof.Rows hiding St

/-! ## a list that stands still from here on -/
def frzI (i : Nat) (ρ : Ev) : Ev := match ρ[i]? with
  | some (.own ds) => ρ.set i (.dat (.lst ds))
  | _ => ρ
theorem freezeAt {K : PySem.W.Frag} {T : List (Addr × Str)} {F H : Hp} {ρ : Ev} {σ : St} {A : List Addr} (i : Nat) (h : RepS K F H ρ σ A) (s : Sub F H) : ∃ F2 A2, Go T A F H A2 F2 H ∧ RepS K F2 H (frzI i ρ) σ A2 := by
  unfold frzI
  split
  · rename_i ds e
    obtain ⟨sv, ft, es, _, _⟩ := h.get e
    obtain ⟨A1, r1, m1, _⟩ := h.takeOut e es
    obtain ⟨v, F2, A2, rfl, g, r2, z⟩ := freeze (T := T) r1 s (d := .lst ds) rfl
    obtain ⟨A3, r3, m3⟩ := (r2.dat z).putBack es
    rw [List.set_set] at r3
    exact ⟨F2, A3, (g.more m1).less m3, r3⟩
  · exact ⟨F, A, Go.refl s, h⟩
section
variable {X : Fam} {T : List (Addr × Str)} {W : WX}
theorem ds_frzI (i : Nat) {P : List Nat} {st : Stmt} {g : FS} (h : DS X T W P st g) : DS X T W P st (fun ρ => g (frzI i ρ)) := by
  obtain ⟨t, pt, s⟩ := h
  refine ⟨t, pt, fun hps σ F H A ρ E a p => ?_⟩
  obtain ⟨F2, A2, g1, r1⟩ := freezeAt (T := T) i a.rep a.sub
  exact s hps σ F2 H A2 (frzI i ρ) E (a.next g1 r1) (p.after g1 fun _ _ => rfl)
end
theorem e_frzI {i : Nat} {ρ : Ev} {ds : List D} (h : ρ[i]? = some (.own ds)) : frzI i ρ = ρ.set i (.dat (.lst ds)) := by
  unfold frzI
  rw [h]
end Dl

set_option Elab.async false
set_option linter.all false
set_option maxRecDepth 100000
set_option maxHeartbeats 8000000
namespace Law
open PySem PySem.Spec L2 Dl
open PyProof.Rows hiding St
def top (i : Nat) : Stmt := PySem.Challenge.pw_asifalone_k71_what_is_a_program.main.body.getD i (.Pass ⟨0, 0, 0, 0⟩)
abbrev s_law_digit : Stmt := top 17
abbrev N_law_digit : List Str := ["_law_state", "_law_base", "_law_cell", "_law_found", "_law_number"]
theorem sc_law_digit : FnScope N_law_digit ["_law_state", "_law_base"] (defScope s_law_digit) := ⟨rfl, rfl, rfl, by decide +kernel, rfl, by decide +kernel, by decide +kernel⟩
abbrev s_law_of : Stmt := top 18
abbrev N_law_of : List Str := ["_law_state", "_law_some"]
theorem sc_law_of : FnScope N_law_of ["_law_state", "_law_some"] (defScope s_law_of) := ⟨rfl, rfl, rfl, by decide +kernel, rfl, by decide +kernel, by decide +kernel⟩
abbrev s_law_steps : Stmt := top 19
abbrev N_law_steps : List Str := ["_law_state", "_law_slots", "_law_most", "_law_rows", "_law_left", "_law_slot", "_law_way", "_law_steps_here", "_law_k", "_law_row"]
theorem sc_law_steps : FnScope N_law_steps ["_law_state", "_law_slots", "_law_most"] (defScope s_law_steps) := ⟨rfl, rfl, rfl, by decide +kernel, rfl, by decide +kernel, by decide +kernel⟩
abbrev s_law_program : Stmt := top 20
abbrev N_law_program : List Str := ["_law_state", "_law_keys_most", "_law_most", "_law_many", "_law_tables", "_law_k", "_law_slots", "_law_box"]
theorem sc_law_program : FnScope N_law_program ["_law_state", "_law_keys_most", "_law_most"] (defScope s_law_program) := ⟨rfl, rfl, rfl, by decide +kernel, rfl, by decide +kernel, by decide +kernel⟩
abbrev s_law_list : Stmt := top 29
abbrev N_law_list : List Str := ["_law_state", "_law_good", "_law_bad", "_law_some", "_law_k"]
theorem sc_law_list : FnScope N_law_list ["_law_state", "_law_good", "_law_bad"] (defScope s_law_list) := ⟨rfl, rfl, rfl, by decide +kernel, rfl, by decide +kernel, by decide +kernel⟩
abbrev s_law_cell_at : Stmt := top 16
abbrev N_law_cell_at : List Str := ["_law_script", "_law_k"]
theorem sc_law_cell_at : FnScope N_law_cell_at ["_law_script", "_law_k"] (defScope s_law_cell_at) := ⟨rfl, rfl, rfl, by decide +kernel, rfl, by decide +kernel, by decide +kernel⟩
abbrev s_law_whole : Stmt := top 25
abbrev N_law_whole : List Str := ["_law_thing", "_law_low", "_law_high"]
theorem sc_law_whole : FnScope N_law_whole ["_law_thing", "_law_low", "_law_high"] (defScope s_law_whole) := ⟨rfl, rfl, rfl, by decide +kernel, rfl, by decide +kernel, by decide +kernel⟩
abbrev s_law_is_step : Stmt := top 26
abbrev N_law_is_step : List Str := ["_law_thing", "_law_many", "_law_slot"]
theorem sc_law_is_step : FnScope N_law_is_step ["_law_thing", "_law_many"] (defScope s_law_is_step) := ⟨rfl, rfl, rfl, by decide +kernel, rfl, by decide +kernel, by decide +kernel⟩
abbrev s_law_is_right : Stmt := top 27
abbrev N_law_is_right : List Str := ["_law_thing", "_law_tables", "_law_steps_here", "_law_table", "_law_step", "_law_k", "_law_slots"]
theorem sc_law_is_right : FnScope N_law_is_right ["_law_thing"] (defScope s_law_is_right) := ⟨rfl, rfl, rfl, by decide +kernel, rfl, by decide +kernel, by decide +kernel⟩
abbrev s_is_from : Stmt := top 2
abbrev N_is_from : List Str := ["thing", "low", "high"]
theorem sc_is_from : FnScope N_is_from ["thing", "low", "high"] (defScope s_is_from) := ⟨rfl, rfl, rfl, by decide +kernel, rfl, by decide +kernel, by decide +kernel⟩
abbrev s_are_tables : Stmt := top 12
abbrev N_are_tables : List Str := ["thing", "table"]
theorem sc_are_tables : FnScope N_are_tables ["thing"] (defScope s_are_tables) := ⟨rfl, rfl, rfl, by decide +kernel, rfl, by decide +kernel, by decide +kernel⟩
abbrev s_in_order : Stmt := top 3
abbrev N_in_order : List Str := ["steps", "at", "step"]
theorem sc_in_order : FnScope N_in_order ["steps"] (defScope s_in_order) := ⟨rfl, rfl, rfl, by decide +kernel, rfl, by decide +kernel, by decide +kernel⟩
abbrev s_is_slot : Stmt := top 10
abbrev N_is_slot : List Str := ["thing", "many"]
theorem sc_is_slot : FnScope N_is_slot ["thing", "many"] (defScope s_is_slot) := ⟨rfl, rfl, rfl, by decide +kernel, rfl, by decide +kernel, by decide +kernel⟩
abbrev s_is_slot_step : Stmt := top 11
abbrev N_is_slot_step : List Str := ["thing", "many"]
theorem sc_is_slot_step : FnScope N_is_slot_step ["thing", "many"] (defScope s_is_slot_step) := ⟨rfl, rfl, rfl, by decide +kernel, rfl, by decide +kernel, by decide +kernel⟩
abbrev s_is_program : Stmt := top 13
abbrev N_is_program : List Str := ["thing", "tables", "steps", "step", "slots", "word", "slot", "place"]
theorem sc_is_program : FnScope N_is_program ["thing"] (defScope s_is_program) := ⟨rfl, rfl, rfl, by decide +kernel, rfl, by decide +kernel, by decide +kernel⟩
abbrev s_are_programs : Stmt := top 14
abbrev N_are_programs : List Str := ["thing", "program"]
theorem sc_are_programs : FnScope N_are_programs ["thing"] (defScope s_are_programs) := ⟨rfl, rfl, rfl, by decide +kernel, rfl, by decide +kernel, by decide +kernel⟩
abbrev s_law_put : Stmt := top 22
abbrev N_law_put : List Str := ["_law_row", "_law_k", "_law_thing"]
theorem sc_law_put : FnScope N_law_put ["_law_row", "_law_k", "_law_thing"] (defScope s_law_put) := ⟨rfl, rfl, rfl, by decide +kernel, rfl, by decide +kernel, by decide +kernel⟩
abbrev s_law_odd : Stmt := top 21
abbrev N_law_odd : List Str := ["_law_state", "_law_thing", "_law_odd_here"]
theorem sc_law_odd : FnScope N_law_odd ["_law_state", "_law_thing"] (defScope s_law_odd) := ⟨rfl, rfl, rfl, by decide +kernel, rfl, by decide +kernel, by decide +kernel⟩
abbrev s_law_spoilt_step : Stmt := top 23
abbrev N_law_spoilt_step : List Str := ["_law_state", "_law_step", "_law_word", "_law_slot", "_law_way"]
theorem sc_law_spoilt_step : FnScope N_law_spoilt_step ["_law_state", "_law_step"] (defScope s_law_spoilt_step) := ⟨rfl, rfl, rfl, by decide +kernel, rfl, by decide +kernel, by decide +kernel⟩
abbrev s_law_spoilt : Stmt := top 24
abbrev N_law_spoilt : List Str := ["_law_state", "_law_thing", "_law_tables", "_law_steps_here", "_law_way", "_law_k", "_law_j", "_law_odd_here"]
theorem sc_law_spoilt : FnScope N_law_spoilt ["_law_state", "_law_thing"] (defScope s_law_spoilt) := ⟨rfl, rfl, rfl, by decide +kernel, rfl, by decide +kernel, by decide +kernel⟩
abbrev s_law_truth : Stmt := top 30
abbrev N_law_truth : List Str := ["_law_found", "_law_due"]
theorem sc_law_truth : FnScope N_law_truth ["_law_found", "_law_due"] (defScope s_law_truth) := ⟨rfl, rfl, rfl, by decide +kernel, rfl, by decide +kernel, by decide +kernel⟩
abbrev s_law_are_right : Stmt := top 28
abbrev N_law_are_right : List Str := ["_law_thing", "_law_one"]
theorem sc_law_are_right : FnScope N_law_are_right ["_law_thing"] (defScope s_law_are_right) := ⟨rfl, rfl, rfl, by decide +kernel, rfl, by decide +kernel, by decide +kernel⟩
abbrev s_law : Stmt := top 31
abbrev N_law : List Str := ["_law_script", "_law_cell", "_law_state", "_law_good", "_law_bad", "_law_turn", "_law_thing", "_law_kept", "_law_some"]
theorem sc_law : FnScope N_law ["_law_script"] (defScope s_law) := ⟨rfl, rfl, rfl, by decide +kernel, rfl, by decide +kernel, by decide +kernel⟩
def dlen : D → Nat | D.lst xs => xs.length | _ => 0
def w_law_steps_1 : Ev → Nat := fun ρ => match ρ[3]? with | some (B.own ds) => (ds.map dlen).sum + 1 | some (B.dat (D.lst ds)) => (ds.map dlen).sum + 1 | _ => 0
def R_cls : List (Str × List Str) := []
def q_law_digit_1 : FS := (sIf (cT (c2 gEq (cO (cCB gLen (aCons (cNO 0) aNil))) (cO (cC (.int 1)))))
  (sSeq (sSet 2 (c2 gIx (cNO 0) (cO (cC (.int 0))))) (sSeq (sPut 0 (c2 gIx (cO (cLst (aCons (cO (cC (.int 0))) (aCons (cNO 2) aNil)))) (cO (cCB gInt (aCons (cO (c2 gGe (cNO 2) (cO (c2 gPow (cO (cC (.int 10))) (cO (cC (.int 18))))))) aNil)))) (cO (cC (.int 0)))) (sE (cMut 0 gExtend (aCons (cO (cLst (aCons (cO (c2 gMod (cNO 2) (cO (cC (.int 2147483647))))) (aCons (cO (cC (.int 0))) aNil)))) aNil)))))
  sNil)
@[simp] theorem uq_law_digit_1 (s : Ev) : q_law_digit_1 s = (sIf (cT (c2 gEq (cO (cCB gLen (aCons (cNO 0) aNil))) (cO (cC (.int 1)))))
  (sSeq (sSet 2 (c2 gIx (cNO 0) (cO (cC (.int 0))))) (sSeq (sPut 0 (c2 gIx (cO (cLst (aCons (cO (cC (.int 0))) (aCons (cNO 2) aNil)))) (cO (cCB gInt (aCons (cO (c2 gGe (cNO 2) (cO (c2 gPow (cO (cC (.int 10))) (cO (cC (.int 18))))))) aNil)))) (cO (cC (.int 0)))) (sE (cMut 0 gExtend (aCons (cO (cLst (aCons (cO (c2 gMod (cNO 2) (cO (cC (.int 2147483647))))) (aCons (cO (cC (.int 0))) aNil)))) aNil)))))
  sNil) s := rfl
def q_law_digit_2 : FS := (sIf (cT (c2 gGt (cO (c2 gIx (cNO 0) (cO (cC (.int 0))))) (cO (cC (.int 0)))))
  (sSeq (sSet 3 (c2 gMod (cO (c2 gIx (cNO 0) (cO (cC (.int 0))))) (cNO 1))) (sSeq (sPut 0 (c2 gDiv (cO (c2 gIx (cNO 0) (cO (cC (.int 0))))) (cNO 1)) (cO (cC (.int 0)))) (sRet (cN 3))))
  sNil)
@[simp] theorem uq_law_digit_2 (s : Ev) : q_law_digit_2 s = (sIf (cT (c2 gGt (cO (c2 gIx (cNO 0) (cO (cC (.int 0))))) (cO (cC (.int 0)))))
  (sSeq (sSet 3 (c2 gMod (cO (c2 gIx (cNO 0) (cO (cC (.int 0))))) (cNO 1))) (sSeq (sPut 0 (c2 gDiv (cO (c2 gIx (cNO 0) (cO (cC (.int 0))))) (cNO 1)) (cO (cC (.int 0)))) (sRet (cN 3))))
  sNil) s := rfl
def q_law_digit_3 : FS := (sPut 0 (c2 gAdd (cO (c2 gIx (cNO 0) (cO (cC (.int 2))))) (cO (cC (.int 1)))) (cO (cC (.int 2))))
@[simp] theorem uq_law_digit_3 (s : Ev) : q_law_digit_3 s = (sPut 0 (c2 gAdd (cO (c2 gIx (cNO 0) (cO (cC (.int 2))))) (cO (cC (.int 1)))) (cO (cC (.int 2)))) s := rfl
def q_law_digit_4 : FS := (sSet 4 (c2 gMod (cO (c2 gMul (cO (c2 gAdd (cO (c2 gAdd (cO (c2 gIx (cNO 0) (cO (cC (.int 1))))) (cO (c2 gMul (cO (cC (.int 7919))) (cO (c2 gIx (cNO 0) (cO (cC (.int 2))))))))) (cO (cC (.int 1))))) (cO (cC (.int 48271))))) (cO (cC (.int 2147483647)))))
@[simp] theorem uq_law_digit_4 (s : Ev) : q_law_digit_4 s = (sSet 4 (c2 gMod (cO (c2 gMul (cO (c2 gAdd (cO (c2 gAdd (cO (c2 gIx (cNO 0) (cO (cC (.int 1))))) (cO (c2 gMul (cO (cC (.int 7919))) (cO (c2 gIx (cNO 0) (cO (cC (.int 2))))))))) (cO (cC (.int 1))))) (cO (cC (.int 48271))))) (cO (cC (.int 2147483647))))) s := rfl
def q_law_digit_5 : FS := (sSet 4 (c2 gMod (cO (c2 gMul (cNO 4) (cO (c2 gAdd (cO (c2 gDiv (cNO 4) (cO (cC (.int 1009))))) (cO (cC (.int 69621))))))) (cO (cC (.int 2147483647)))))
@[simp] theorem uq_law_digit_5 (s : Ev) : q_law_digit_5 s = (sSet 4 (c2 gMod (cO (c2 gMul (cNO 4) (cO (c2 gAdd (cO (c2 gDiv (cNO 4) (cO (cC (.int 1009))))) (cO (cC (.int 69621))))))) (cO (cC (.int 2147483647))))) s := rfl
def q_law_digit_6 : FS := (sRet (c2 gMod (cO (c2 gMod (cO (c2 gMul (cNO 4) (cO (c2 gAdd (cO (c2 gDiv (cNO 4) (cO (cC (.int 2003))))) (cO (cC (.int 40692))))))) (cO (cC (.int 2147483399))))) (cNO 1)))
@[simp] theorem uq_law_digit_6 (s : Ev) : q_law_digit_6 s = (sRet (c2 gMod (cO (c2 gMod (cO (c2 gMul (cNO 4) (cO (c2 gAdd (cO (c2 gDiv (cNO 4) (cO (cC (.int 2003))))) (cO (cC (.int 40692))))))) (cO (cC (.int 2147483399))))) (cNO 1))) s := rfl
def m_law_digit : FS := (sSeq q_law_digit_1 (sSeq q_law_digit_2 (sSeq q_law_digit_3 (sSeq q_law_digit_4 (sSeq q_law_digit_5 q_law_digit_6)))))
def f_law_digit : FG := toF [0] 2 5 m_law_digit
def m_law_of : FS := (sRet (c2 gIx (cNO 1) (cO (cCall f_law_digit (aCons (cNO 0) (aCons (cO (cCB gLen (aCons (cNO 1) aNil))) aNil))))))
def f_law_of : FG := toF [0] 2 2 m_law_of
-- measure wanted: def w_law_steps_1 : Ev → Nat
def b_law_steps_1 : FS := (sSeq (sSet 6 (cD (cCall f_law_digit (aCons (cNO 0) (aCons (cO (cC (.int 3))) aNil))))) (sIf (cAndT (cT (c2 gEq (cNO 6) (cO (cC (.int 2))))) (cT (c2 gGt (cNO 4) (cO (cC (.int 0))))))
  (sSeq (sE (cAppend 3 (cLst (aCons (cO (cTup (aCons (cO (cC (.str "read"))) (aCons (cNO 5) aNil)))) (aCons (cO (cTup (aCons (cO (cC (.str "write"))) (aCons (cNO 5) aNil)))) aNil))))) (sSet 4 (c2 gSub (cNO 4) (cO (cC (.int 1))))))
  (sE (cAppend 3 (cLst (aCons (cO (cTup (aCons (cO (c2 gIx (cO (cLst (aCons (cO (cC (.str "read"))) (aCons (cO (cC (.str "write"))) aNil)))) (cO (c2 gMod (cNO 6) (cO (cC (.int 2))))))) (aCons (cNO 5) aNil)))) aNil))))))
theorem ub_law_steps_1 (s : Ev) : b_law_steps_1 s = (sSeq (sSet 6 (cD (cCall f_law_digit (aCons (cNO 0) (aCons (cO (cC (.int 3))) aNil))))) (sIf (cAndT (cT (c2 gEq (cNO 6) (cO (cC (.int 2))))) (cT (c2 gGt (cNO 4) (cO (cC (.int 0))))))
  (sSeq (sE (cAppend 3 (cLst (aCons (cO (cTup (aCons (cO (cC (.str "read"))) (aCons (cNO 5) aNil)))) (aCons (cO (cTup (aCons (cO (cC (.str "write"))) (aCons (cNO 5) aNil)))) aNil))))) (sSet 4 (c2 gSub (cNO 4) (cO (cC (.int 1))))))
  (sE (cAppend 3 (cLst (aCons (cO (cTup (aCons (cO (c2 gIx (cO (cLst (aCons (cO (cC (.str "read"))) (aCons (cO (cC (.str "write"))) aNil)))) (cO (c2 gMod (cNO 6) (cO (cC (.int 2))))))) (aCons (cNO 5) aNil)))) aNil)))))) s := rfl
def e_law_steps_2 : FE := (cN 9)
theorem ue_law_steps_2 (s : Ev) : e_law_steps_2 s = (cN 9) s := rfl
def c_law_steps_3 : FT := (cT (c2 gNe (cNO 9) (cO (cLst aNil))))
theorem uc_law_steps_3 (s : Ev) : c_law_steps_3 s = (cT (c2 gNe (cNO 9) (cO (cLst aNil)))) s := rfl
def b_law_steps_4 : FS := (sSeq (sSet 8 (cD (cCall f_law_digit (aCons (cNO 0) (aCons (cO (cCB gLen (aCons (cNO 3) aNil))) aNil))))) (sSeq (sE (cAppend 7 (c2 gIx (cO (c2 gIx (cNO 3) (cNO 8))) (cO (cC (.int 0)))))) (sSeq (sPut 3 (cSl (cO (c2 gIx (cNO 3) (cNO 8))) (pSo (cO (cC (.int 1)))) pNo) (cNO 8)) (fun ρ => (sSet 3 (cLc (pName 9) (iSeq (cNO 3)) c_law_steps_3 e_law_steps_2 [9])) (frzI 3 ρ)))))
theorem ub_law_steps_4 (s : Ev) : b_law_steps_4 s = (sSeq (sSet 8 (cD (cCall f_law_digit (aCons (cNO 0) (aCons (cO (cCB gLen (aCons (cNO 3) aNil))) aNil))))) (sSeq (sE (cAppend 7 (c2 gIx (cO (c2 gIx (cNO 3) (cNO 8))) (cO (cC (.int 0)))))) (sSeq (sPut 3 (cSl (cO (c2 gIx (cNO 3) (cNO 8))) (pSo (cO (cC (.int 1)))) pNo) (cNO 8)) (fun ρ => (sSet 3 (cLc (pName 9) (iSeq (cNO 3)) c_law_steps_3 e_law_steps_2 [9])) (frzI 3 ρ))))) s := rfl
def t_law_steps_5 : FT := (cT (c2 gNe (cNO 3) (cO (cLst aNil))))
theorem ut_law_steps_5 (s : Ev) : t_law_steps_5 s = (cT (c2 gNe (cNO 3) (cO (cLst aNil)))) s := rfl
def m_law_steps : FS := (sSeq (sSet 3 (cLst aNil)) (sSeq (sSet 4 (c2 gSub (cNO 2) (cO (cCB gLen (aCons (cNO 1) aNil))))) (sSeq (sFor (pName 5) (iSeq (cNO 1))
  b_law_steps_1) (sSeq (sSet 7 (cLst aNil)) (sSeq (fun ρ => whileD t_law_steps_5
  b_law_steps_4 (w_law_steps_1 ρ) ρ) (sRet (cCB gTuple (aCons (cNO 7) aNil))))))))
def f_law_steps : FG := toF [0, 1] 3 10 m_law_steps
def e_law_program_1 : FE := (cCall f_law_of (aCons (cNO 0) (aCons (cO (cLst (aCons (cO (cC (.int 1))) (aCons (cO (cC (.int 1))) (aCons (cO (cC (.int 1))) (aCons (cO (cC (.int 2))) (aCons (cO (c2 gAdd (cO (cC (.int 1))) (cO (cCall f_law_digit (aCons (cNO 0) (aCons (cO (cC (.int 9))) aNil)))))) aNil))))))) aNil)))
theorem ue_law_program_1 (s : Ev) : e_law_program_1 s = (cCall f_law_of (aCons (cNO 0) (aCons (cO (cLst (aCons (cO (cC (.int 1))) (aCons (cO (cC (.int 1))) (aCons (cO (cC (.int 1))) (aCons (cO (cC (.int 2))) (aCons (cO (c2 gAdd (cO (cC (.int 1))) (cO (cCall f_law_digit (aCons (cNO 0) (aCons (cO (cC (.int 9))) aNil)))))) aNil))))))) aNil))) s := rfl
def e_law_program_2 : FE := (cTup (aCons (cO (cC (.str "key"))) (aCons (cNO 5) aNil)))
theorem ue_law_program_2 (s : Ev) : e_law_program_2 s = (cTup (aCons (cO (cC (.str "key"))) (aCons (cNO 5) aNil))) s := rfl
def b_law_program_3 : FS := (sSeq (sSet 7 (cD (cCall f_law_of (aCons (cNO 0) (aCons (cO (cLst (aCons (cO (cC (.int 0))) (aCons (cO (cC (.int 0))) (aCons (cO (cC (.int 1))) (aCons (cO (cC (.int 2))) (aCons (cO (cCall f_law_digit (aCons (cNO 0) (aCons (cO (c2 gPow (cO (cC (.int 10))) (cO (cC (.int 6))))) aNil)))) aNil))))))) aNil))))) (sIf (cT (c2 gNotIn (cO (cTup (aCons (cO (cC (.str "box"))) (aCons (cNO 7) aNil)))) (cNO 6)))
  (sE (cAppend 6 (cTup (aCons (cO (cC (.str "box"))) (aCons (cNO 7) aNil)))))
  sNil))
theorem ub_law_program_3 (s : Ev) : b_law_program_3 s = (sSeq (sSet 7 (cD (cCall f_law_of (aCons (cNO 0) (aCons (cO (cLst (aCons (cO (cC (.int 0))) (aCons (cO (cC (.int 0))) (aCons (cO (cC (.int 1))) (aCons (cO (cC (.int 2))) (aCons (cO (cCall f_law_digit (aCons (cNO 0) (aCons (cO (c2 gPow (cO (cC (.int 10))) (cO (cC (.int 6))))) aNil)))) aNil))))))) aNil))))) (sIf (cT (c2 gNotIn (cO (cTup (aCons (cO (cC (.str "box"))) (aCons (cNO 7) aNil)))) (cNO 6)))
  (sE (cAppend 6 (cTup (aCons (cO (cC (.str "box"))) (aCons (cNO 7) aNil)))))
  sNil)) s := rfl
def q_law_program_1 : FS := (sSet 3 (cD (cCall f_law_digit (aCons (cNO 0) (aCons (cO (c2 gAdd (cNO 1) (cO (cC (.int 1))))) aNil)))))
@[simp] theorem uq_law_program_1 (s : Ev) : q_law_program_1 s = (sSet 3 (cD (cCall f_law_digit (aCons (cNO 0) (aCons (cO (c2 gAdd (cNO 1) (cO (cC (.int 1))))) aNil))))) s := rfl
def q_law_program_2 : FS := (sSet 4 (cD (cCB gTuple (aCons (cO (cLc (pName 5) (iRng rng1 (aCons (cNO 3) aNil)) tYs e_law_program_1 [5])) aNil))))
@[simp] theorem uq_law_program_2 (s : Ev) : q_law_program_2 s = (sSet 4 (cD (cCB gTuple (aCons (cO (cLc (pName 5) (iRng rng1 (aCons (cNO 3) aNil)) tYs e_law_program_1 [5])) aNil)))) s := rfl
def q_law_program_3 : FS := (sSet 6 (cLc (pName 5) (iRng rng1 (aCons (cNO 3) aNil)) tYs e_law_program_2 [5]))
@[simp] theorem uq_law_program_3 (s : Ev) : q_law_program_3 s = (sSet 6 (cLc (pName 5) (iRng rng1 (aCons (cNO 3) aNil)) tYs e_law_program_2 [5])) s := rfl
def q_law_program_4 : FS := (sFor (pName 5) (iRng rng1 (aCons (cO (cCall f_law_digit (aCons (cNO 0) (aCons (cO (cC (.int 3))) aNil)))) aNil))
  b_law_program_3)
@[simp] theorem uq_law_program_4 (s : Ev) : q_law_program_4 s = (sFor (pName 5) (iRng rng1 (aCons (cO (cCall f_law_digit (aCons (cNO 0) (aCons (cO (cC (.int 3))) aNil)))) aNil))
  b_law_program_3) s := rfl
def q_law_program_5 : FS := (sIf (cT (c2 gEq (cNO 6) (cO (cLst aNil))))
  (sSet 6 (cLst (aCons (cO (cTup (aCons (cO (cC (.str "box"))) (aCons (cO (cCall f_law_digit (aCons (cNO 0) (aCons (cO (cC (.int 3))) aNil)))) aNil)))) aNil)))
  sNil)
@[simp] theorem uq_law_program_5 (s : Ev) : q_law_program_5 s = (sIf (cT (c2 gEq (cNO 6) (cO (cLst aNil))))
  (sSet 6 (cLst (aCons (cO (cTup (aCons (cO (cC (.str "box"))) (aCons (cO (cCall f_law_digit (aCons (cNO 0) (aCons (cO (cC (.int 3))) aNil)))) aNil)))) aNil)))
  sNil) s := rfl
def q_law_program_6 : FS := (fun ρ => (sRet (cTup (aCons (cNO 4) (aCons (cO (cCall f_law_steps (aCons (cNO 0) (aCons (cNO 6) (aCons (cNO 2) aNil))))) aNil)))) (frzI 6 ρ))
@[simp] theorem uq_law_program_6 (s : Ev) : q_law_program_6 s = (fun ρ => (sRet (cTup (aCons (cNO 4) (aCons (cO (cCall f_law_steps (aCons (cNO 0) (aCons (cNO 6) (aCons (cNO 2) aNil))))) aNil)))) (frzI 6 ρ)) s := rfl
def m_law_program : FS := (sSeq q_law_program_1 (sSeq q_law_program_2 (sSeq q_law_program_3 (sSeq q_law_program_4 (sSeq q_law_program_5 q_law_program_6)))))
def f_law_program : FG := toF [0] 3 8 m_law_program
def e_law_list_1 : FE := (cCall f_law_of (aCons (cNO 0) (aCons (cO (cLst (aCons (cNO 1) (aCons (cNO 1) (aCons (cNO 1) (aCons (cNO 2) aNil)))))) aNil)))
theorem ue_law_list_1 (s : Ev) : e_law_list_1 s = (cCall f_law_of (aCons (cNO 0) (aCons (cO (cLst (aCons (cNO 1) (aCons (cNO 1) (aCons (cNO 1) (aCons (cNO 2) aNil)))))) aNil))) s := rfl
def m_law_list : FS := (sSeq (sSetD 3 (cLc (pName 4) (iRng rng1 (aCons (cO (cCall f_law_digit (aCons (cNO 0) (aCons (cO (cC (.int 7))) aNil)))) aNil)) tYs e_law_list_1 [4])) (sRet (cCall f_law_of (aCons (cNO 0) (aCons (cO (cLst (aCons (cNO 3) (aCons (cNO 3) (aCons (cNO 3) (aCons (cO (cCB gTuple (aCons (cNO 3) aNil))) (aCons (cNO 1) (aCons (cO (cC .non)) (aCons (cO cDnew) aNil))))))))) aNil)))))
def f_law_list : FG := toF [0] 3 5 m_law_list
def m_law_cell_at : FS := (sSeq (sIf (cT (c2 gLt (cNO 1) (cO (cCB gLen (aCons (cNO 0) aNil)))))
  (sRet (c2 gIx (cNO 0) (cNO 1)))
  sNil) (sRet (cC (.int 0))))
def f_law_cell_at : FG := toF [] 2 2 m_law_cell_at
def m_law_whole : FS := (sRet (cAndV (cCB gIsi (aCons (cNO 0) (aCons (cO (cC (.opq (.ty "int")))) aNil))) (cAndV (cNotV (cCB gIsi (aCons (cNO 0) (aCons (cO (cC (.opq (.ty "bool")))) aNil)))) (cChain gLe gLe (cNO 1) (cNO 0) (cNO 2)))))
def f_law_whole : FG := toF [] 3 3 m_law_whole
def q_law_is_step_1 : FS := (sIf (cOrT (cNotT (cT (cCB gIsi (aCons (cNO 0) (aCons (cO (cC (.opq (.ty "tuple")))) aNil))))) (cOrT (cT (c2 gNe (cO (cCB gLen (aCons (cNO 0) aNil))) (cO (cC (.int 2))))) (cAndT (cT (c2 gNe (cO (c2 gIx (cNO 0) (cO (cC (.int 0))))) (cO (cC (.str "read"))))) (cT (c2 gNe (cO (c2 gIx (cNO 0) (cO (cC (.int 0))))) (cO (cC (.str "write"))))))))
  (sRet (cC (.bl false)))
  sNil)
@[simp] theorem uq_law_is_step_1 (s : Ev) : q_law_is_step_1 s = (sIf (cOrT (cNotT (cT (cCB gIsi (aCons (cNO 0) (aCons (cO (cC (.opq (.ty "tuple")))) aNil))))) (cOrT (cT (c2 gNe (cO (cCB gLen (aCons (cNO 0) aNil))) (cO (cC (.int 2))))) (cAndT (cT (c2 gNe (cO (c2 gIx (cNO 0) (cO (cC (.int 0))))) (cO (cC (.str "read"))))) (cT (c2 gNe (cO (c2 gIx (cNO 0) (cO (cC (.int 0))))) (cO (cC (.str "write"))))))))
  (sRet (cC (.bl false)))
  sNil) s := rfl
def q_law_is_step_2 : FS := (sIf (cOrT (cNotT (cT (cCB gIsi (aCons (cNO 2) (aCons (cO (cC (.opq (.ty "tuple")))) aNil))))) (cT (c2 gNe (cO (cCB gLen (aCons (cNO 2) aNil))) (cO (cC (.int 2))))))
  (sRet (cC (.bl false)))
  sNil)
@[simp] theorem uq_law_is_step_2 (s : Ev) : q_law_is_step_2 s = (sIf (cOrT (cNotT (cT (cCB gIsi (aCons (cNO 2) (aCons (cO (cC (.opq (.ty "tuple")))) aNil))))) (cT (c2 gNe (cO (cCB gLen (aCons (cNO 2) aNil))) (cO (cC (.int 2))))))
  (sRet (cC (.bl false)))
  sNil) s := rfl
def q_law_is_step_3 : FS := (sIf (cT (c2 gEq (cO (c2 gIx (cNO 2) (cO (cC (.int 0))))) (cO (cC (.str "box")))))
  (sRet (cCall f_law_whole (aCons (cO (c2 gIx (cNO 2) (cO (cC (.int 1))))) (aCons (cO (cC (.int 0))) (aCons (cO (cC (.int 999999))) aNil)))))
  sNil)
@[simp] theorem uq_law_is_step_3 (s : Ev) : q_law_is_step_3 s = (sIf (cT (c2 gEq (cO (c2 gIx (cNO 2) (cO (cC (.int 0))))) (cO (cC (.str "box")))))
  (sRet (cCall f_law_whole (aCons (cO (c2 gIx (cNO 2) (cO (cC (.int 1))))) (aCons (cO (cC (.int 0))) (aCons (cO (cC (.int 999999))) aNil)))))
  sNil) s := rfl
def q_law_is_step_4 : FS := (sRet (cAndV (c2 gEq (cO (c2 gIx (cNO 2) (cO (cC (.int 0))))) (cO (cC (.str "key")))) (cCall f_law_whole (aCons (cO (c2 gIx (cNO 2) (cO (cC (.int 1))))) (aCons (cO (cC (.int 0))) (aCons (cO (c2 gSub (cNO 1) (cO (cC (.int 1))))) aNil))))))
@[simp] theorem uq_law_is_step_4 (s : Ev) : q_law_is_step_4 s = (sRet (cAndV (c2 gEq (cO (c2 gIx (cNO 2) (cO (cC (.int 0))))) (cO (cC (.str "key")))) (cCall f_law_whole (aCons (cO (c2 gIx (cNO 2) (cO (cC (.int 1))))) (aCons (cO (cC (.int 0))) (aCons (cO (c2 gSub (cNO 1) (cO (cC (.int 1))))) aNil)))))) s := rfl
def m_law_is_step : FS := (sSeq q_law_is_step_1 (sSeq (sSet 2 (c2 gIx (cNO 0) (cO (cC (.int 1))))) (sSeq q_law_is_step_2 (sSeq q_law_is_step_3 q_law_is_step_4))))
def f_law_is_step : FG := toF [] 2 3 m_law_is_step
def e_law_is_right_1 : FE := (cN 3)
theorem ue_law_is_right_1 (s : Ev) : e_law_is_right_1 s = (cN 3) s := rfl
def c_law_is_right_2 : FT := (cNotT (cT (cCall f_law_whole (aCons (cNO 3) (aCons (cO (cC (.int 1))) (aCons (cO (cC (.int 9))) aNil))))))
theorem uc_law_is_right_2 (s : Ev) : c_law_is_right_2 s = (cNotT (cT (cCall f_law_whole (aCons (cNO 3) (aCons (cO (cC (.int 1))) (aCons (cO (cC (.int 9))) aNil)))))) s := rfl
def e_law_is_right_3 : FE := (cN 4)
theorem ue_law_is_right_3 (s : Ev) : e_law_is_right_3 s = (cN 4) s := rfl
def c_law_is_right_4 : FT := (cNotT (cT (cCall f_law_is_step (aCons (cNO 4) (aCons (cO (cCB gLen (aCons (cNO 1) aNil))) aNil)))))
theorem uc_law_is_right_4 (s : Ev) : c_law_is_right_4 s = (cNotT (cT (cCall f_law_is_step (aCons (cNO 4) (aCons (cO (cCB gLen (aCons (cNO 1) aNil))) aNil))))) s := rfl
def b_law_is_right_5 : FS := (sIf (cOrT (cT (c2 gIn (cNO 4) (cO (cSl (cNO 2) pNo (pSo (cNO 5)))))) (cAndT (cT (c2 gEq (cO (c2 gIx (cNO 4) (cO (cC (.int 0))))) (cO (cC (.str "read"))))) (cT (c2 gIn (cO (cTup (aCons (cO (cC (.str "write"))) (aCons (cO (c2 gIx (cNO 4) (cO (cC (.int 1))))) aNil)))) (cO (cSl (cNO 2) pNo (pSo (cNO 5))))))))
  (sRet (cC (.bl false)))
  sNil)
theorem ub_law_is_right_5 (s : Ev) : b_law_is_right_5 s = (sIf (cOrT (cT (c2 gIn (cNO 4) (cO (cSl (cNO 2) pNo (pSo (cNO 5)))))) (cAndT (cT (c2 gEq (cO (c2 gIx (cNO 4) (cO (cC (.int 0))))) (cO (cC (.str "read"))))) (cT (c2 gIn (cO (cTup (aCons (cO (cC (.str "write"))) (aCons (cO (c2 gIx (cNO 4) (cO (cC (.int 1))))) aNil)))) (cO (cSl (cNO 2) pNo (pSo (cNO 5))))))))
  (sRet (cC (.bl false)))
  sNil) s := rfl
def e_law_is_right_6 : FE := (c2 gIx (cNO 4) (cO (cC (.int 1))))
theorem ue_law_is_right_6 (s : Ev) : e_law_is_right_6 s = (c2 gIx (cNO 4) (cO (cC (.int 1)))) s := rfl
def e_law_is_right_7 : FE := (cN 5)
theorem ue_law_is_right_7 (s : Ev) : e_law_is_right_7 s = (cN 5) s := rfl
def c_law_is_right_8 : FT := (cT (c2 gNotIn (cO (cTup (aCons (cO (cC (.str "key"))) (aCons (cNO 5) aNil)))) (cNO 6)))
theorem uc_law_is_right_8 (s : Ev) : c_law_is_right_8 s = (cT (c2 gNotIn (cO (cTup (aCons (cO (cC (.str "key"))) (aCons (cNO 5) aNil)))) (cNO 6))) s := rfl
def q_law_is_right_1 : FS := (sIf (cOrT (cNotT (cT (cCB gIsi (aCons (cNO 0) (aCons (cO (cC (.opq (.ty "tuple")))) aNil))))) (cT (c2 gNe (cO (cCB gLen (aCons (cNO 0) aNil))) (cO (cC (.int 2))))))
  (sRet (cC (.bl false)))
  sNil)
@[simp] theorem uq_law_is_right_1 (s : Ev) : q_law_is_right_1 s = (sIf (cOrT (cNotT (cT (cCB gIsi (aCons (cNO 0) (aCons (cO (cC (.opq (.ty "tuple")))) aNil))))) (cT (c2 gNe (cO (cCB gLen (aCons (cNO 0) aNil))) (cO (cC (.int 2))))))
  (sRet (cC (.bl false)))
  sNil) s := rfl
def q_law_is_right_2 : FS := (sIf (cOrT (cNotT (cT (cCB gIsi (aCons (cNO 1) (aCons (cO (cC (.opq (.ty "tuple")))) aNil))))) (cNotT (cT (cCB gIsi (aCons (cNO 2) (aCons (cO (cC (.opq (.ty "tuple")))) aNil))))))
  (sRet (cC (.bl false)))
  sNil)
@[simp] theorem uq_law_is_right_2 (s : Ev) : q_law_is_right_2 s = (sIf (cOrT (cNotT (cT (cCB gIsi (aCons (cNO 1) (aCons (cO (cC (.opq (.ty "tuple")))) aNil))))) (cNotT (cT (cCB gIsi (aCons (cNO 2) (aCons (cO (cC (.opq (.ty "tuple")))) aNil))))))
  (sRet (cC (.bl false)))
  sNil) s := rfl
def q_law_is_right_3 : FS := (sIf (cOrT (cT (c2 gGt (cO (cCB gLen (aCons (cNO 1) aNil))) (cO (cC (.int 3))))) (cT (c2 gNe (cO (cLc (pName 3) (iSeq (cNO 1)) c_law_is_right_2 e_law_is_right_1 [3])) (cO (cLst aNil)))))
  (sRet (cC (.bl false)))
  sNil)
@[simp] theorem uq_law_is_right_3 (s : Ev) : q_law_is_right_3 s = (sIf (cOrT (cT (c2 gGt (cO (cCB gLen (aCons (cNO 1) aNil))) (cO (cC (.int 3))))) (cT (c2 gNe (cO (cLc (pName 3) (iSeq (cNO 1)) c_law_is_right_2 e_law_is_right_1 [3])) (cO (cLst aNil)))))
  (sRet (cC (.bl false)))
  sNil) s := rfl
def q_law_is_right_4 : FS := (sIf (cOrT (cNotT (cT (cChain gLe gLe (cO (cC (.int 1))) (cO (cCB gLen (aCons (cNO 2) aNil))) (cO (cC (.int 6)))))) (cT (c2 gNe (cO (cLc (pName 4) (iSeq (cNO 2)) c_law_is_right_4 e_law_is_right_3 [4])) (cO (cLst aNil)))))
  (sRet (cC (.bl false)))
  sNil)
@[simp] theorem uq_law_is_right_4 (s : Ev) : q_law_is_right_4 s = (sIf (cOrT (cNotT (cT (cChain gLe gLe (cO (cC (.int 1))) (cO (cCB gLen (aCons (cNO 2) aNil))) (cO (cC (.int 6)))))) (cT (c2 gNe (cO (cLc (pName 4) (iSeq (cNO 2)) c_law_is_right_4 e_law_is_right_3 [4])) (cO (cLst aNil)))))
  (sRet (cC (.bl false)))
  sNil) s := rfl
def q_law_is_right_5 : FS := (sFor (pTup [(pName 5), (pName 4)]) (iEnm (cNO 2))
  b_law_is_right_5)
@[simp] theorem uq_law_is_right_5 (s : Ev) : q_law_is_right_5 s = (sFor (pTup [(pName 5), (pName 4)]) (iEnm (cNO 2))
  b_law_is_right_5) s := rfl
def q_law_is_right_6 : FS := (sSet 6 (cD (cLc (pName 4) (iSeq (cNO 2)) tYs e_law_is_right_6 [4])))
@[simp] theorem uq_law_is_right_6 (s : Ev) : q_law_is_right_6 s = (sSet 6 (cD (cLc (pName 4) (iSeq (cNO 2)) tYs e_law_is_right_6 [4]))) s := rfl
def q_law_is_right_7 : FS := (sRet (c2 gEq (cO (cLc (pName 5) (iRng rng1 (aCons (cO (cCB gLen (aCons (cNO 1) aNil))) aNil)) c_law_is_right_8 e_law_is_right_7 [5])) (cO (cLst aNil))))
@[simp] theorem uq_law_is_right_7 (s : Ev) : q_law_is_right_7 s = (sRet (c2 gEq (cO (cLc (pName 5) (iRng rng1 (aCons (cO (cCB gLen (aCons (cNO 1) aNil))) aNil)) c_law_is_right_8 e_law_is_right_7 [5])) (cO (cLst aNil)))) s := rfl
def m_law_is_right : FS := (sSeq q_law_is_right_1 (sSeq (sUnp (pTup [(pName 1), (pName 2)]) (cN 0)) (sSeq q_law_is_right_2 (sSeq q_law_is_right_3 (sSeq q_law_is_right_4 (sSeq q_law_is_right_5 (sSeq q_law_is_right_6 q_law_is_right_7)))))))
def f_law_is_right : FG := toF [] 1 7 m_law_is_right
def m_is_from : FS := (sRet (cAndV (cCB gIsi (aCons (cNO 0) (aCons (cO (cC (.opq (.ty "int")))) aNil))) (cAndV (cNotV (cCB gIsi (aCons (cNO 0) (aCons (cO (cC (.opq (.ty "bool")))) aNil)))) (cChain gLe gLe (cNO 1) (cNO 0) (cNO 2)))))
def f_is_from : FG := toF [] 3 3 m_is_from
def e_are_tables_1 : FE := (cCall f_is_from (aCons (cNO 1) (aCons (cO (cC (.int 1))) (aCons (cO (cC (.int 9))) aNil))))
theorem ue_are_tables_1 (s : Ev) : e_are_tables_1 s = (cCall f_is_from (aCons (cNO 1) (aCons (cO (cC (.int 1))) (aCons (cO (cC (.int 9))) aNil)))) s := rfl
def m_are_tables : FS := (sSeq (sIf (cOrT (cNotT (cT (cCB gIsi (aCons (cNO 0) (aCons (cO (cC (.opq (.ty "tuple")))) aNil))))) (cT (c2 gGt (cO (cCB gLen (aCons (cNO 0) aNil))) (cO (cC (.int 3))))))
  (sRet (cC (.bl false)))
  sNil) (sRet (cCB gAll (aCons (cO (cLc (pName 1) (iSeq (cNO 0)) tYs e_are_tables_1 [1])) aNil))))
def f_are_tables : FG := toF [] 1 2 m_are_tables
def b_in_order_1 : FS := (sIf (cOrT (cT (c2 gIn (cNO 2) (cO (cSl (cNO 0) pNo (pSo (cNO 1)))))) (cAndT (cT (c2 gEq (cO (c2 gIx (cNO 2) (cO (cC (.int 0))))) (cO (cC (.str "read"))))) (cT (c2 gIn (cO (cTup (aCons (cO (cC (.str "write"))) (aCons (cO (c2 gIx (cNO 2) (cO (cC (.int 1))))) aNil)))) (cO (cSl (cNO 0) pNo (pSo (cNO 1))))))))
  (sRet (cC (.bl false)))
  sNil)
theorem ub_in_order_1 (s : Ev) : b_in_order_1 s = (sIf (cOrT (cT (c2 gIn (cNO 2) (cO (cSl (cNO 0) pNo (pSo (cNO 1)))))) (cAndT (cT (c2 gEq (cO (c2 gIx (cNO 2) (cO (cC (.int 0))))) (cO (cC (.str "read"))))) (cT (c2 gIn (cO (cTup (aCons (cO (cC (.str "write"))) (aCons (cO (c2 gIx (cNO 2) (cO (cC (.int 1))))) aNil)))) (cO (cSl (cNO 0) pNo (pSo (cNO 1))))))))
  (sRet (cC (.bl false)))
  sNil) s := rfl
def m_in_order : FS := (sSeq (sFor (pTup [(pName 1), (pName 2)]) (iEnm (cNO 0))
  b_in_order_1) (sRet (cC (.bl true))))
def f_in_order : FG := toF [] 1 3 m_in_order
def m_is_slot : FS := (sSeq (sIf (cOrT (cNotT (cT (cCB gIsi (aCons (cNO 0) (aCons (cO (cC (.opq (.ty "tuple")))) aNil))))) (cOrT (cT (c2 gNe (cO (cCB gLen (aCons (cNO 0) aNil))) (cO (cC (.int 2))))) (cNotT (cT (cCB gIsi (aCons (cO (c2 gIx (cNO 0) (cO (cC (.int 0))))) (aCons (cO (cC (.opq (.ty "str")))) aNil)))))))
  (sRet (cC (.bl false)))
  sNil) (sSeq (sIf (cT (c2 gEq (cO (c2 gIx (cNO 0) (cO (cC (.int 0))))) (cO (cC (.str "box")))))
  (sRet (cCall f_is_from (aCons (cO (c2 gIx (cNO 0) (cO (cC (.int 1))))) (aCons (cO (cC (.int 0))) (aCons (cO (c2 gSub (cO (cC (.int 1000000))) (cO (cC (.int 1))))) aNil)))))
  sNil) (sRet (cAndV (c2 gEq (cO (c2 gIx (cNO 0) (cO (cC (.int 0))))) (cO (cC (.str "key")))) (cCall f_is_from (aCons (cO (c2 gIx (cNO 0) (cO (cC (.int 1))))) (aCons (cO (cC (.int 0))) (aCons (cO (c2 gSub (cNO 1) (cO (cC (.int 1))))) aNil))))))))
def f_is_slot : FG := toF [] 2 2 m_is_slot
def m_is_slot_step : FS := (sSeq (sIf (cOrT (cNotT (cT (cCB gIsi (aCons (cNO 0) (aCons (cO (cC (.opq (.ty "tuple")))) aNil))))) (cOrT (cT (c2 gNe (cO (cCB gLen (aCons (cNO 0) aNil))) (cO (cC (.int 2))))) (cNotT (cT (cCB gIsi (aCons (cO (c2 gIx (cNO 0) (cO (cC (.int 0))))) (aCons (cO (cC (.opq (.ty "str")))) aNil)))))))
  (sRet (cC (.bl false)))
  sNil) (sRet (cAndV (c2 gIn (cO (c2 gIx (cNO 0) (cO (cC (.int 0))))) (cO (cC (.tup [(.str "read"), (.str "write")])))) (cCall f_is_slot (aCons (cO (c2 gIx (cNO 0) (cO (cC (.int 1))))) (aCons (cNO 1) aNil))))))
def f_is_slot_step : FG := toF [] 2 2 m_is_slot_step
def e_is_program_1 : FE := (cCall f_is_slot_step (aCons (cNO 3) (aCons (cO (cCB gLen (aCons (cNO 1) aNil))) aNil)))
theorem ue_is_program_1 (s : Ev) : e_is_program_1 s = (cCall f_is_slot_step (aCons (cNO 3) (aCons (cO (cCB gLen (aCons (cNO 1) aNil))) aNil))) s := rfl
def e_is_program_2 : FE := (cN 6)
theorem ue_is_program_2 (s : Ev) : e_is_program_2 s = (cN 6) s := rfl
def e_is_program_3 : FE := (c2 gIn (cO (cTup (aCons (cO (cC (.str "key"))) (aCons (cNO 7) aNil)))) (cNO 4))
theorem ue_is_program_3 (s : Ev) : e_is_program_3 s = (c2 gIn (cO (cTup (aCons (cO (cC (.str "key"))) (aCons (cNO 7) aNil)))) (cNO 4)) s := rfl
def q_is_program_1 : FS := (sIf (cOrT (cNotT (cT (cCB gIsi (aCons (cNO 0) (aCons (cO (cC (.opq (.ty "tuple")))) aNil))))) (cOrT (cT (c2 gNe (cO (cCB gLen (aCons (cNO 0) aNil))) (cO (cC (.int 2))))) (cNotT (cT (cCall f_are_tables (aCons (cO (c2 gIx (cNO 0) (cO (cC (.int 0))))) aNil))))))
  (sRet (cC (.bl false)))
  sNil)
@[simp] theorem uq_is_program_1 (s : Ev) : q_is_program_1 s = (sIf (cOrT (cNotT (cT (cCB gIsi (aCons (cNO 0) (aCons (cO (cC (.opq (.ty "tuple")))) aNil))))) (cOrT (cT (c2 gNe (cO (cCB gLen (aCons (cNO 0) aNil))) (cO (cC (.int 2))))) (cNotT (cT (cCall f_are_tables (aCons (cO (c2 gIx (cNO 0) (cO (cC (.int 0))))) aNil))))))
  (sRet (cC (.bl false)))
  sNil) s := rfl
def q_is_program_2 : FS := (sIf (cOrT (cNotT (cT (cCB gIsi (aCons (cNO 2) (aCons (cO (cC (.opq (.ty "tuple")))) aNil))))) (cNotT (cT (cChain gLe gLe (cO (cC (.int 1))) (cO (cCB gLen (aCons (cNO 2) aNil))) (cO (cC (.int 6)))))))
  (sRet (cC (.bl false)))
  sNil)
@[simp] theorem uq_is_program_2 (s : Ev) : q_is_program_2 s = (sIf (cOrT (cNotT (cT (cCB gIsi (aCons (cNO 2) (aCons (cO (cC (.opq (.ty "tuple")))) aNil))))) (cNotT (cT (cChain gLe gLe (cO (cC (.int 1))) (cO (cCB gLen (aCons (cNO 2) aNil))) (cO (cC (.int 6)))))))
  (sRet (cC (.bl false)))
  sNil) s := rfl
def q_is_program_3 : FS := (sIf (cOrT (cNotT (cT (cCB gAll (aCons (cO (cLc (pName 3) (iSeq (cNO 2)) tYs e_is_program_1 [3])) aNil)))) (cNotT (cT (cCall f_in_order (aCons (cNO 2) aNil)))))
  (sRet (cC (.bl false)))
  sNil)
@[simp] theorem uq_is_program_3 (s : Ev) : q_is_program_3 s = (sIf (cOrT (cNotT (cT (cCB gAll (aCons (cO (cLc (pName 3) (iSeq (cNO 2)) tYs e_is_program_1 [3])) aNil)))) (cNotT (cT (cCall f_in_order (aCons (cNO 2) aNil)))))
  (sRet (cC (.bl false)))
  sNil) s := rfl
def q_is_program_4 : FS := (sSet 4 (cD (cLc (pTup [(pName 5), (pName 6)]) (iSeq (cNO 2)) tYs e_is_program_2 [5, 6])))
@[simp] theorem uq_is_program_4 (s : Ev) : q_is_program_4 s = (sSet 4 (cD (cLc (pTup [(pName 5), (pName 6)]) (iSeq (cNO 2)) tYs e_is_program_2 [5, 6]))) s := rfl
def q_is_program_5 : FS := (sRet (cCB gAll (aCons (cO (cLc (pName 7) (iRng rng1 (aCons (cO (cCB gLen (aCons (cNO 1) aNil))) aNil)) tYs e_is_program_3 [7])) aNil)))
@[simp] theorem uq_is_program_5 (s : Ev) : q_is_program_5 s = (sRet (cCB gAll (aCons (cO (cLc (pName 7) (iRng rng1 (aCons (cO (cCB gLen (aCons (cNO 1) aNil))) aNil)) tYs e_is_program_3 [7])) aNil))) s := rfl
def m_is_program : FS := (sSeq q_is_program_1 (sSeq (sUnp (pTup [(pName 1), (pName 2)]) (cN 0)) (sSeq q_is_program_2 (sSeq q_is_program_3 (sSeq q_is_program_4 q_is_program_5)))))
def f_is_program : FG := toF [] 1 8 m_is_program
def e_are_programs_1 : FE := (cCall f_is_program (aCons (cNO 1) aNil))
theorem ue_are_programs_1 (s : Ev) : e_are_programs_1 s = (cCall f_is_program (aCons (cNO 1) aNil)) s := rfl
def m_are_programs : FS := (sSeq (sIf (cOrT (cNotT (cT (cCB gIsi (aCons (cNO 0) (aCons (cO (cC (.opq (.ty "list")))) aNil))))) (cNotT (cT (cChain gLe gLe (cO (cC (.int 1))) (cO (cCB gLen (aCons (cNO 0) aNil))) (cO (cC (.int 4)))))))
  (sRet (cC (.bl false)))
  sNil) (sRet (cCB gAll (aCons (cO (cLc (pName 1) (iSeq (cNO 0)) tYs e_are_programs_1 [1])) aNil))))
def f_are_programs : FG := toF [] 1 2 m_are_programs
def m_law_put : FS := (sRet (c2 gAdd (cO (c2 gAdd (cO (cSl (cNO 0) pNo (pSo (cNO 1)))) (cO (cTup (aCons (cNO 2) aNil))))) (cO (cSl (cNO 0) (pSo (cO (c2 gAdd (cNO 1) (cO (cC (.int 1)))))) pNo))))
def f_law_put : FG := toF [] 3 3 m_law_put
def m_law_odd : FS := (sSeq (sSet 2 (cD (cLst (aCons (cO (cC .non)) (aCons (cO (cC (.bl true))) (aCons (cO (cC (.bl false))) (aCons (cO (c1 gNeg (cO (cC (.int 1))))) (aCons (cO (cC (.int 0))) (aCons (cO (cC (.int 1))) (aCons (cO (cC (.int 2))) (aCons (cO (cC (.int 3))) (aCons (cO (cC (.int 9))) (aCons (cO (cC (.int 10))) (aCons (cO (cC (.int 999999))) (aCons (cO (cC (.int 1000000))) (aCons (cO (cC (.str ""))) (aCons (cO (cC (.str "key"))) (aCons (cO (cC (.str "box"))) (aCons (cO (cC (.str "read"))) (aCons (cO (cC (.str "write"))) (aCons (cO (cTup aNil)) (aCons (cO (cLst aNil)) aNil)))))))))))))))))))))) (sSeq (sSet 2 (cD (c2 gAdd (cNO 2) (cO (cLst (aCons (cO (cTup (aCons (cNO 1) aNil))) (aCons (cO (cLst (aCons (cNO 1) aNil))) (aCons (cO cDnew) (aCons (cO (c2 gPow (cO (cC (.int 10))) (cO (cC (.int 40))))) (aCons (cO (cTup (aCons (cO (cC (.str "box"))) (aCons (cO (cC (.int 5))) aNil)))) (aCons (cO (cTup (aCons (cO (cC (.str "key"))) (aCons (cO (cC (.int 0))) aNil)))) (aCons (cO (cTup (aCons (cO (cC (.str "read"))) (aCons (cO (cTup (aCons (cO (cC (.str "box"))) (aCons (cO (cC (.int 5))) aNil)))) aNil)))) (aCons (cO (cTup (aCons (cO (cC (.str "key"))) (aCons (cO (cC (.int 3))) aNil)))) aNil))))))))))))) (sRet (cCall f_law_of (aCons (cNO 0) (aCons (cNO 2) aNil))))))
def f_law_odd : FG := toF [0] 2 3 m_law_odd
def q_law_spoilt_step_1 : FS := (sSet 4 (cD (cCall f_law_digit (aCons (cNO 0) (aCons (cO (cC (.int 6))) aNil)))))
@[simp] theorem uq_law_spoilt_step_1 (s : Ev) : q_law_spoilt_step_1 s = (sSet 4 (cD (cCall f_law_digit (aCons (cNO 0) (aCons (cO (cC (.int 6))) aNil))))) s := rfl
def q_law_spoilt_step_2 : FS := (sIf (cT (c2 gEq (cNO 4) (cO (cC (.int 0)))))
  (sRet (cTup (aCons (cO (cCall f_law_odd (aCons (cNO 0) (aCons (cNO 2) aNil)))) (aCons (cNO 3) aNil))))
  sNil)
@[simp] theorem uq_law_spoilt_step_2 (s : Ev) : q_law_spoilt_step_2 s = (sIf (cT (c2 gEq (cNO 4) (cO (cC (.int 0)))))
  (sRet (cTup (aCons (cO (cCall f_law_odd (aCons (cNO 0) (aCons (cNO 2) aNil)))) (aCons (cNO 3) aNil))))
  sNil) s := rfl
def q_law_spoilt_step_3 : FS := (sIf (cT (c2 gEq (cNO 4) (cO (cC (.int 1)))))
  (sRet (cTup (aCons (cNO 2) (aCons (cO (cTup (aCons (cO (cCall f_law_odd (aCons (cNO 0) (aCons (cO (c2 gIx (cNO 3) (cO (cC (.int 0))))) aNil)))) (aCons (cO (c2 gIx (cNO 3) (cO (cC (.int 1))))) aNil)))) aNil))))
  sNil)
@[simp] theorem uq_law_spoilt_step_3 (s : Ev) : q_law_spoilt_step_3 s = (sIf (cT (c2 gEq (cNO 4) (cO (cC (.int 1)))))
  (sRet (cTup (aCons (cNO 2) (aCons (cO (cTup (aCons (cO (cCall f_law_odd (aCons (cNO 0) (aCons (cO (c2 gIx (cNO 3) (cO (cC (.int 0))))) aNil)))) (aCons (cO (c2 gIx (cNO 3) (cO (cC (.int 1))))) aNil)))) aNil))))
  sNil) s := rfl
def q_law_spoilt_step_4 : FS := (sIf (cT (c2 gEq (cNO 4) (cO (cC (.int 2)))))
  (sRet (cTup (aCons (cNO 2) (aCons (cO (cTup (aCons (cO (c2 gIx (cNO 3) (cO (cC (.int 0))))) (aCons (cO (cCall f_law_odd (aCons (cNO 0) (aCons (cO (c2 gIx (cNO 3) (cO (cC (.int 1))))) aNil)))) aNil)))) aNil))))
  sNil)
@[simp] theorem uq_law_spoilt_step_4 (s : Ev) : q_law_spoilt_step_4 s = (sIf (cT (c2 gEq (cNO 4) (cO (cC (.int 2)))))
  (sRet (cTup (aCons (cNO 2) (aCons (cO (cTup (aCons (cO (c2 gIx (cNO 3) (cO (cC (.int 0))))) (aCons (cO (cCall f_law_odd (aCons (cNO 0) (aCons (cO (c2 gIx (cNO 3) (cO (cC (.int 1))))) aNil)))) aNil)))) aNil))))
  sNil) s := rfl
def q_law_spoilt_step_5 : FS := (sIf (cT (c2 gEq (cNO 4) (cO (cC (.int 3)))))
  (sRet (cCall f_law_of (aCons (cNO 0) (aCons (cO (cLst (aCons (cO (cTup (aCons (cNO 2) (aCons (cO (cCB gList (aCons (cNO 3) aNil))) aNil)))) (aCons (cO (cCB gList (aCons (cNO 1) aNil))) (aCons (cO (cTup (aCons (cNO 3) (aCons (cNO 2) aNil)))) (aCons (cO (cTup (aCons (cNO 2) aNil))) (aCons (cO (c2 gAdd (cNO 1) (cO (cTup (aCons (cO (cC (.int 1))) aNil))))) (aCons (cO (cTup (aCons (cNO 2) (aCons (cO (c2 gAdd (cNO 3) (cO (cTup (aCons (cO (cC (.int 0))) aNil))))) aNil)))) aNil)))))))) aNil))))
  sNil)
@[simp] theorem uq_law_spoilt_step_5 (s : Ev) : q_law_spoilt_step_5 s = (sIf (cT (c2 gEq (cNO 4) (cO (cC (.int 3)))))
  (sRet (cCall f_law_of (aCons (cNO 0) (aCons (cO (cLst (aCons (cO (cTup (aCons (cNO 2) (aCons (cO (cCB gList (aCons (cNO 3) aNil))) aNil)))) (aCons (cO (cCB gList (aCons (cNO 1) aNil))) (aCons (cO (cTup (aCons (cNO 3) (aCons (cNO 2) aNil)))) (aCons (cO (cTup (aCons (cNO 2) aNil))) (aCons (cO (c2 gAdd (cNO 1) (cO (cTup (aCons (cO (cC (.int 1))) aNil))))) (aCons (cO (cTup (aCons (cNO 2) (aCons (cO (c2 gAdd (cNO 3) (cO (cTup (aCons (cO (cC (.int 0))) aNil))))) aNil)))) aNil)))))))) aNil))))
  sNil) s := rfl
def q_law_spoilt_step_6 : FS := (sIf (cT (c2 gEq (cNO 4) (cO (cC (.int 4)))))
  (sRet (cTup (aCons (cO (c2 gIx (cO (cLst (aCons (cO (cC (.str "read"))) (aCons (cO (cC (.str "write"))) aNil)))) (cO (cCB gInt (aCons (cO (c2 gEq (cNO 2) (cO (cC (.str "read"))))) aNil))))) (aCons (cNO 3) aNil))))
  sNil)
@[simp] theorem uq_law_spoilt_step_6 (s : Ev) : q_law_spoilt_step_6 s = (sIf (cT (c2 gEq (cNO 4) (cO (cC (.int 4)))))
  (sRet (cTup (aCons (cO (c2 gIx (cO (cLst (aCons (cO (cC (.str "read"))) (aCons (cO (cC (.str "write"))) aNil)))) (cO (cCB gInt (aCons (cO (c2 gEq (cNO 2) (cO (cC (.str "read"))))) aNil))))) (aCons (cNO 3) aNil))))
  sNil) s := rfl
def q_law_spoilt_step_7 : FS := (sRet (cCall f_law_odd (aCons (cNO 0) (aCons (cNO 1) aNil))))
@[simp] theorem uq_law_spoilt_step_7 (s : Ev) : q_law_spoilt_step_7 s = (sRet (cCall f_law_odd (aCons (cNO 0) (aCons (cNO 1) aNil)))) s := rfl
def m_law_spoilt_step : FS := (sSeq (sUnp (pTup [(pName 2), (pName 3)]) (cN 1)) (sSeq q_law_spoilt_step_1 (sSeq q_law_spoilt_step_2 (sSeq q_law_spoilt_step_3 (sSeq q_law_spoilt_step_4 (sSeq q_law_spoilt_step_5 (sSeq q_law_spoilt_step_6 q_law_spoilt_step_7)))))))
def f_law_spoilt_step : FG := toF [0] 2 5 m_law_spoilt_step
def q_law_spoilt_1 : FS := (sSet 4 (cD (cCall f_law_digit (aCons (cNO 0) (aCons (cO (cC (.int 9))) aNil)))))
@[simp] theorem uq_law_spoilt_1 (s : Ev) : q_law_spoilt_1 s = (sSet 4 (cD (cCall f_law_digit (aCons (cNO 0) (aCons (cO (cC (.int 9))) aNil))))) s := rfl
def q_law_spoilt_2 : FS := (sSet 5 (cD (cCall f_law_digit (aCons (cNO 0) (aCons (cO (cCB gLen (aCons (cNO 3) aNil))) aNil)))))
@[simp] theorem uq_law_spoilt_2 (s : Ev) : q_law_spoilt_2 s = (sSet 5 (cD (cCall f_law_digit (aCons (cNO 0) (aCons (cO (cCB gLen (aCons (cNO 3) aNil))) aNil))))) s := rfl
def q_law_spoilt_3 : FS := (sSet 6 (cD (cCall f_law_digit (aCons (cNO 0) (aCons (cO (c2 gAdd (cO (cCB gLen (aCons (cNO 2) aNil))) (cO (cC (.int 1))))) aNil)))))
@[simp] theorem uq_law_spoilt_3 (s : Ev) : q_law_spoilt_3 s = (sSet 6 (cD (cCall f_law_digit (aCons (cNO 0) (aCons (cO (c2 gAdd (cO (cCB gLen (aCons (cNO 2) aNil))) (cO (cC (.int 1))))) aNil))))) s := rfl
def q_law_spoilt_4 : FS := (sIf (cT (c2 gEq (cNO 4) (cO (cC (.int 0)))))
  (sRet (cTup (aCons (cO (c2 gAdd (cO (c2 gAdd (cO (cSl (cNO 2) pNo (pSo (cNO 6)))) (cO (cTup (aCons (cO (cCall f_law_odd (aCons (cNO 0) (aCons (cO (cC (.int 1))) aNil)))) aNil))))) (cO (cSl (cNO 2) (pSo (cNO 6)) pNo)))) (aCons (cNO 3) aNil))))
  sNil)
@[simp] theorem uq_law_spoilt_4 (s : Ev) : q_law_spoilt_4 s = (sIf (cT (c2 gEq (cNO 4) (cO (cC (.int 0)))))
  (sRet (cTup (aCons (cO (c2 gAdd (cO (c2 gAdd (cO (cSl (cNO 2) pNo (pSo (cNO 6)))) (cO (cTup (aCons (cO (cCall f_law_odd (aCons (cNO 0) (aCons (cO (cC (.int 1))) aNil)))) aNil))))) (cO (cSl (cNO 2) (pSo (cNO 6)) pNo)))) (aCons (cNO 3) aNil))))
  sNil) s := rfl
def q_law_spoilt_5 : FS := (sIf (cT (c2 gEq (cNO 4) (cO (cC (.int 1)))))
  (sRet (cTup (aCons (cO (cCall f_law_put (aCons (cNO 2) (aCons (cNO 6) (aCons (cO (cCall f_law_odd (aCons (cNO 0) (aCons (cO (cC (.int 1))) aNil)))) aNil))))) (aCons (cNO 3) aNil))))
  sNil)
@[simp] theorem uq_law_spoilt_5 (s : Ev) : q_law_spoilt_5 s = (sIf (cT (c2 gEq (cNO 4) (cO (cC (.int 1)))))
  (sRet (cTup (aCons (cO (cCall f_law_put (aCons (cNO 2) (aCons (cNO 6) (aCons (cO (cCall f_law_odd (aCons (cNO 0) (aCons (cO (cC (.int 1))) aNil)))) aNil))))) (aCons (cNO 3) aNil))))
  sNil) s := rfl
def q_law_spoilt_6 : FS := (sIf (cT (c2 gLt (cNO 4) (cO (cC (.int 4)))))
  (sRet (cTup (aCons (cNO 2) (aCons (cO (cCall f_law_put (aCons (cNO 3) (aCons (cNO 5) (aCons (cO (cCall f_law_spoilt_step (aCons (cNO 0) (aCons (cO (c2 gIx (cNO 3) (cNO 5))) aNil)))) aNil))))) aNil))))
  sNil)
@[simp] theorem uq_law_spoilt_6 (s : Ev) : q_law_spoilt_6 s = (sIf (cT (c2 gLt (cNO 4) (cO (cC (.int 4)))))
  (sRet (cTup (aCons (cNO 2) (aCons (cO (cCall f_law_put (aCons (cNO 3) (aCons (cNO 5) (aCons (cO (cCall f_law_spoilt_step (aCons (cNO 0) (aCons (cO (c2 gIx (cNO 3) (cNO 5))) aNil)))) aNil))))) aNil))))
  sNil) s := rfl
def q_law_spoilt_7 : FS := (sIf (cT (c2 gEq (cNO 4) (cO (cC (.int 4)))))
  (sRet (cTup (aCons (cNO 2) (aCons (cO (c2 gAdd (cO (cSl (cNO 3) pNo (pSo (cNO 5)))) (cO (cSl (cNO 3) (pSo (cO (c2 gAdd (cNO 5) (cO (cC (.int 1)))))) pNo)))) aNil))))
  sNil)
@[simp] theorem uq_law_spoilt_7 (s : Ev) : q_law_spoilt_7 s = (sIf (cT (c2 gEq (cNO 4) (cO (cC (.int 4)))))
  (sRet (cTup (aCons (cNO 2) (aCons (cO (c2 gAdd (cO (cSl (cNO 3) pNo (pSo (cNO 5)))) (cO (cSl (cNO 3) (pSo (cO (c2 gAdd (cNO 5) (cO (cC (.int 1)))))) pNo)))) aNil))))
  sNil) s := rfl
def q_law_spoilt_8 : FS := (sIf (cT (c2 gEq (cNO 4) (cO (cC (.int 5)))))
  (sRet (cTup (aCons (cNO 2) (aCons (cO (c2 gAdd (cO (c2 gAdd (cO (cSl (cNO 3) pNo (pSo (cNO 5)))) (cO (cTup (aCons (cO (cTup (aCons (cO (cC (.str "read"))) (aCons (cO (cTup (aCons (cO (cC (.str "box"))) (aCons (cO (cCall f_law_digit (aCons (cNO 0) (aCons (cO (c2 gPow (cO (cC (.int 10))) (cO (cC (.int 6))))) aNil)))) aNil)))) aNil)))) aNil))))) (cO (cSl (cNO 3) (pSo (cNO 5)) pNo)))) aNil))))
  sNil)
@[simp] theorem uq_law_spoilt_8 (s : Ev) : q_law_spoilt_8 s = (sIf (cT (c2 gEq (cNO 4) (cO (cC (.int 5)))))
  (sRet (cTup (aCons (cNO 2) (aCons (cO (c2 gAdd (cO (c2 gAdd (cO (cSl (cNO 3) pNo (pSo (cNO 5)))) (cO (cTup (aCons (cO (cTup (aCons (cO (cC (.str "read"))) (aCons (cO (cTup (aCons (cO (cC (.str "box"))) (aCons (cO (cCall f_law_digit (aCons (cNO 0) (aCons (cO (c2 gPow (cO (cC (.int 10))) (cO (cC (.int 6))))) aNil)))) aNil)))) aNil)))) aNil))))) (cO (cSl (cNO 3) (pSo (cNO 5)) pNo)))) aNil))))
  sNil) s := rfl
def q_law_spoilt_9 : FS := (sIf (cT (c2 gEq (cNO 4) (cO (cC (.int 6)))))
  (sRet (cTup (aCons (cNO 2) (aCons (cO (c1 gRev (cNO 3))) aNil))))
  sNil)
@[simp] theorem uq_law_spoilt_9 (s : Ev) : q_law_spoilt_9 s = (sIf (cT (c2 gEq (cNO 4) (cO (cC (.int 6)))))
  (sRet (cTup (aCons (cNO 2) (aCons (cO (c1 gRev (cNO 3))) aNil))))
  sNil) s := rfl
def q_law_spoilt_10 : FS := (sIf (cT (c2 gEq (cNO 4) (cO (cC (.int 7)))))
  (sRet (cTup (aCons (cNO 2) (aCons (cO (c2 gAdd (cNO 3) (cO (cSl (cNO 3) (pSo (cNO 5)) (pSo (cO (c2 gAdd (cNO 5) (cO (cC (.int 1)))))))))) aNil))))
  sNil)
@[simp] theorem uq_law_spoilt_10 (s : Ev) : q_law_spoilt_10 s = (sIf (cT (c2 gEq (cNO 4) (cO (cC (.int 7)))))
  (sRet (cTup (aCons (cNO 2) (aCons (cO (c2 gAdd (cNO 3) (cO (cSl (cNO 3) (pSo (cNO 5)) (pSo (cO (c2 gAdd (cNO 5) (cO (cC (.int 1)))))))))) aNil))))
  sNil) s := rfl
def q_law_spoilt_11 : FS := (sSet 7 (cD (cLst (aCons (cO (cCB gList (aCons (cNO 1) aNil))) (aCons (cO (c2 gAdd (cNO 1) (cO (cTup (aCons (cO (cC (.int 1))) aNil))))) (aCons (cO (cSl (cNO 1) pNo (pSo (cO (cC (.int 1)))))) (aCons (cO (cTup (aCons (cO (cCB gList (aCons (cNO 2) aNil))) (aCons (cNO 3) aNil)))) (aCons (cO (cTup (aCons (cNO 2) (aCons (cO (cCB gList (aCons (cNO 3) aNil))) aNil)))) (aCons (cNO 3) (aCons (cO (cC .non)) (aCons (cO (cTup aNil)) aNil)))))))))))
@[simp] theorem uq_law_spoilt_11 (s : Ev) : q_law_spoilt_11 s = (sSet 7 (cD (cLst (aCons (cO (cCB gList (aCons (cNO 1) aNil))) (aCons (cO (c2 gAdd (cNO 1) (cO (cTup (aCons (cO (cC (.int 1))) aNil))))) (aCons (cO (cSl (cNO 1) pNo (pSo (cO (cC (.int 1)))))) (aCons (cO (cTup (aCons (cO (cCB gList (aCons (cNO 2) aNil))) (aCons (cNO 3) aNil)))) (aCons (cO (cTup (aCons (cNO 2) (aCons (cO (cCB gList (aCons (cNO 3) aNil))) aNil)))) (aCons (cNO 3) (aCons (cO (cC .non)) (aCons (cO (cTup aNil)) aNil))))))))))) s := rfl
def q_law_spoilt_12 : FS := (sRet (cCall f_law_of (aCons (cNO 0) (aCons (cO (c2 gAdd (cNO 7) (cO (cLst (aCons (cO (cTup (aCons (cNO 3) (aCons (cNO 2) aNil)))) (aCons (cO (cTup (aCons (cNO 2) (aCons (cO (cTup aNil)) aNil)))) (aCons (cO (cTup (aCons (cNO 2) (aCons (cO (cC .non)) aNil)))) (aCons (cO (cTup (aCons (cO (cC .non)) (aCons (cNO 3) aNil)))) (aCons (cO (cC (.str "program"))) aNil))))))))) aNil))))
@[simp] theorem uq_law_spoilt_12 (s : Ev) : q_law_spoilt_12 s = (sRet (cCall f_law_of (aCons (cNO 0) (aCons (cO (c2 gAdd (cNO 7) (cO (cLst (aCons (cO (cTup (aCons (cNO 3) (aCons (cNO 2) aNil)))) (aCons (cO (cTup (aCons (cNO 2) (aCons (cO (cTup aNil)) aNil)))) (aCons (cO (cTup (aCons (cNO 2) (aCons (cO (cC .non)) aNil)))) (aCons (cO (cTup (aCons (cO (cC .non)) (aCons (cNO 3) aNil)))) (aCons (cO (cC (.str "program"))) aNil))))))))) aNil)))) s := rfl
def m_law_spoilt : FS := (sSeq (sUnp (pTup [(pName 2), (pName 3)]) (cN 1)) (sSeq q_law_spoilt_1 (sSeq q_law_spoilt_2 (sSeq q_law_spoilt_3 (sSeq q_law_spoilt_4 (sSeq q_law_spoilt_5 (sSeq q_law_spoilt_6 (sSeq q_law_spoilt_7 (sSeq q_law_spoilt_8 (sSeq q_law_spoilt_9 (sSeq q_law_spoilt_10 (sSeq q_law_spoilt_11 q_law_spoilt_12))))))))))))
def f_law_spoilt : FG := toF [0] 2 8 m_law_spoilt
def m_law_truth : FS := (sRet (cAndV (cCB gIsi (aCons (cNO 0) (aCons (cO (cC (.opq (.ty "bool")))) aNil))) (c2 gEq (cNO 0) (cNO 1))))
def f_law_truth : FG := toF [] 2 2 m_law_truth
def e_law_are_right_1 : FE := (cN 1)
theorem ue_law_are_right_1 (s : Ev) : e_law_are_right_1 s = (cN 1) s := rfl
def c_law_are_right_2 : FT := (cNotT (cT (cCall f_law_is_right (aCons (cNO 1) aNil))))
theorem uc_law_are_right_2 (s : Ev) : c_law_are_right_2 s = (cNotT (cT (cCall f_law_is_right (aCons (cNO 1) aNil)))) s := rfl
def m_law_are_right : FS := (sSeq (sIf (cOrT (cNotT (cT (cCB gIsi (aCons (cNO 0) (aCons (cO (cC (.opq (.ty "list")))) aNil))))) (cNotT (cT (cChain gLe gLe (cO (cC (.int 1))) (cO (cCB gLen (aCons (cNO 0) aNil))) (cO (cC (.int 4)))))))
  (sRet (cC (.bl false)))
  sNil) (sRet (c2 gEq (cO (cLc (pName 1) (iSeq (cNO 0)) c_law_are_right_2 e_law_are_right_1 [1])) (cO (cLst aNil)))))
def f_law_are_right : FG := toF [] 1 2 m_law_are_right
def b_law_1 : FS := (sIf (cT (cCall f_law_is_right (aCons (cNO 4) aNil)))
  (sSet 4 (cD (cCall f_law_spoilt (aCons (cNO 2) (aCons (cNO 4) aNil)))))
  sNil)
theorem ub_law_1 (s : Ev) : b_law_1 s = (sIf (cT (cCall f_law_is_right (aCons (cNO 4) aNil)))
  (sSet 4 (cD (cCall f_law_spoilt (aCons (cNO 2) (aCons (cNO 4) aNil)))))
  sNil) s := rfl
def b_law_2 : FS := (sSeq (sSet 7 (cD (cCB gRepr (aCons (cNO 6) aNil)))) (sIf (cOrT (cNotT (cT (cCall f_law_truth (aCons (cO (cCall f_is_program (aCons (cNO 6) aNil))) (aCons (cO (cCall f_law_is_right (aCons (cNO 6) aNil))) aNil))))) (cT (c2 gNe (cO (cCB gRepr (aCons (cNO 6) aNil))) (cNO 7))))
  (sRet (cC (.bl false)))
  sNil))
theorem ub_law_2 (s : Ev) : b_law_2 s = (sSeq (sSet 7 (cD (cCB gRepr (aCons (cNO 6) aNil)))) (sIf (cOrT (cNotT (cT (cCall f_law_truth (aCons (cO (cCall f_is_program (aCons (cNO 6) aNil))) (aCons (cO (cCall f_law_is_right (aCons (cNO 6) aNil))) aNil))))) (cT (c2 gNe (cO (cCB gRepr (aCons (cNO 6) aNil))) (cNO 7))))
  (sRet (cC (.bl false)))
  sNil)) s := rfl
def q_law_1 : FS := (sSet 3 (cD (cCall f_law_program (aCons (cNO 2) (aCons (cO (cC (.int 3))) (aCons (cO (cC (.int 6))) aNil))))))
@[simp] theorem uq_law_1 (s : Ev) : q_law_1 s = (sSet 3 (cD (cCall f_law_program (aCons (cNO 2) (aCons (cO (cC (.int 3))) (aCons (cO (cC (.int 6))) aNil)))))) s := rfl
def q_law_2 : FS := (sFor (pName 5) (iRng rng1 (aCons (cO (c2 gAdd (cO (cC (.int 1))) (cO (cCall f_law_digit (aCons (cNO 2) (aCons (cO (cC (.int 2))) aNil)))))) aNil))
  b_law_1)
@[simp] theorem uq_law_2 (s : Ev) : q_law_2 s = (sFor (pName 5) (iRng rng1 (aCons (cO (c2 gAdd (cO (cC (.int 1))) (cO (cCall f_law_digit (aCons (cNO 2) (aCons (cO (cC (.int 2))) aNil)))))) aNil))
  b_law_1) s := rfl
def q_law_3 : FS := (sFor (pName 6) (iSeq (cO (cTup (aCons (cNO 3) (aCons (cNO 4) aNil)))))
  b_law_2)
@[simp] theorem uq_law_3 (s : Ev) : q_law_3 s = (sFor (pName 6) (iSeq (cO (cTup (aCons (cNO 3) (aCons (cNO 4) aNil)))))
  b_law_2) s := rfl
def q_law_4 : FS := (sSet 8 (cD (cCall f_law_list (aCons (cNO 2) (aCons (cNO 3) (aCons (cNO 4) aNil))))))
@[simp] theorem uq_law_4 (s : Ev) : q_law_4 s = (sSet 8 (cD (cCall f_law_list (aCons (cNO 2) (aCons (cNO 3) (aCons (cNO 4) aNil)))))) s := rfl
def q_law_5 : FS := (sIf (cOrT (cNotT (cT (cCall f_law_truth (aCons (cO (cCall f_are_programs (aCons (cNO 8) aNil))) (aCons (cO (cCall f_law_are_right (aCons (cNO 8) aNil))) aNil))))) (cT (c2 gNe (cO (cCB gRepr (aCons (cNO 8) aNil))) (cNO 7))))
  (sRet (cC (.bl false)))
  sNil)
@[simp] theorem uq_law_5 (s : Ev) : q_law_5 s = (sIf (cOrT (cNotT (cT (cCall f_law_truth (aCons (cO (cCall f_are_programs (aCons (cNO 8) aNil))) (aCons (cO (cCall f_law_are_right (aCons (cNO 8) aNil))) aNil))))) (cT (c2 gNe (cO (cCB gRepr (aCons (cNO 8) aNil))) (cNO 7))))
  (sRet (cC (.bl false)))
  sNil) s := rfl
def q_law_6 : FS := (sIf (cOrT (cNotT (cT (cCall f_is_program (aCons (cNO 3) aNil)))) (cOrT (cNotT (cT (cCall f_are_programs (aCons (cO (c2 gMul (cO (cLst (aCons (cNO 3) aNil))) (cO (cC (.int 4))))) aNil)))) (cT (cCall f_are_programs (aCons (cO (c2 gMul (cO (cLst (aCons (cNO 3) aNil))) (cO (cC (.int 5))))) aNil)))))
  (sRet (cC (.bl false)))
  sNil)
@[simp] theorem uq_law_6 (s : Ev) : q_law_6 s = (sIf (cOrT (cNotT (cT (cCall f_is_program (aCons (cNO 3) aNil)))) (cOrT (cNotT (cT (cCall f_are_programs (aCons (cO (c2 gMul (cO (cLst (aCons (cNO 3) aNil))) (cO (cC (.int 4))))) aNil)))) (cT (cCall f_are_programs (aCons (cO (c2 gMul (cO (cLst (aCons (cNO 3) aNil))) (cO (cC (.int 5))))) aNil)))))
  (sRet (cC (.bl false)))
  sNil) s := rfl
def b_law_3 : FS := (sSeq (sSet 2 (cLst (aCons (cNO 1) aNil))) (sSeq q_law_1 (sSeq (sSet 4 (cD (cN 3))) (sSeq q_law_2 (sSeq q_law_3 (sSeq q_law_4 (sSeq (sSet 7 (cD (cCB gRepr (aCons (cNO 8) aNil)))) (sSeq q_law_5 q_law_6))))))))
theorem ub_law_3 (s : Ev) : b_law_3 s = (sSeq (sSet 2 (cLst (aCons (cNO 1) aNil))) (sSeq q_law_1 (sSeq (sSet 4 (cD (cN 3))) (sSeq q_law_2 (sSeq q_law_3 (sSeq q_law_4 (sSeq (sSet 7 (cD (cCB gRepr (aCons (cNO 8) aNil)))) (sSeq q_law_5 q_law_6)))))))) s := rfl
def m_law : FS := (sSeq (sFor (pName 1) (iSeq (cO (c2 gAdd (cO (cLst (aCons (cO (cCall f_law_cell_at (aCons (cNO 0) (aCons (cO (cC (.int 0))) aNil)))) aNil))) (cO (cSl (cNO 0) (pSo (cO (cC (.int 1)))) (pSo (cO (cC (.int 16)))))))))
  b_law_3) (sRet (cC (.bl true))))
def f_law : FG := toF [] 1 9 m_law
/-- what the module's names hold -/
structure Z0 (mg : Str → Option Value) : Prop where
  b_all : mg "all" = none
  b_bool : mg "bool" = none
  b_enumerate : mg "enumerate" = none
  b_int : mg "int" = none
  b_isinstance : mg "isinstance" = none
  b_len : mg "len" = none
  b_list : mg "list" = none
  b_range : mg "range" = none
  b_repr : mg "repr" = none
  b_str : mg "str" = none
  b_tuple : mg "tuple" = none
structure CAt (K : PySem.W.Frag) (mg : Str → Option Value) (x : Str) (d : D) (v : V) (u : Value) : Prop where
  g : mg x = some u
  rv : RelV v u
  r : ∀ H, Rp K H d v
structure XF (K : PySem.W.Frag) (mg : Str → Option Value) : Prop where
  t : True
section
variable {P : Program} {w : World} {K : PySem.W.Frag} {mg : Str → Option Value} {base : Heap} {T : List (Addr × Str)}
theorem ok_law_digit {f : Addr} {fd : FuncData} (A : DefAt K mg "_law_digit" s_law_digit ["_law_state", "_law_base"] f fd) (Z : Z0 mg) (XX : XF K mg)  : FnAt P w K mg base T "_law_digit" 2 1 f_law_digit :=
  A.at (fn_d (k := 0) [0] A.fn sc_law_digit (by decide) fun cdv A' outer s H E hr => by
  have hu : ∀ i, ((oneF (cxOf (L2.CX P w) P w K mg base N_law_digit "_law_digit" (defScope s_law_digit) f cdv A' outer s H E)).at_ i).A.units + 65 < cLine := fun _ => by
    have q := hr.un
    have : (cxOf (L2.CX P w) P w K mg base N_law_digit "_law_digit" (defScope s_law_digit) f cdv A' outer s H E).A = A'.deeper (envOfC "_law_digit" (defScope s_law_digit) s.heap.objs.size f cdv) := rfl
    show (A'.deeper (envOfC "_law_digit" (defScope s_law_digit) s.heap.objs.size f cdv)).units + 65 < cLine
    omega
  have tk : ∀ i, Takes ((oneF (cxOf (L2.CX P w) P w K mg base N_law_digit "_law_digit" (defScope s_law_digit) f cdv A' outer s H E)).at_ i) (fun cls d _ H => E cls d H) := fun _ => takes_of rfl rfl rfl rfl
  show DSs _ _ _ _ _ m_law_digit
  exact (dss_cons (ds_if (dt_cmp (or_eq hu) v2_eq (do_e (de_cb cr_lenX vl_len (fun _ => Z.b_len) (by decide +kernel) (da_cons (do_n 0) da_nil))) (do_e de_int))
  (dss_cons (ds_set 2 (fun _ => sc_law_digit.nd) (by decide) (de_ix (do_n 0) (do_e de_int))) (dss_cons (ds_put 0 (de_ix (do_e (de_lst (da_cons (do_e de_int) (da_cons (do_n 2) da_nil)))) (do_e (de_ct cr_int vl_int (fun _ => Z.b_int) (by decide +kernel) (da_cons (do_e (de_cmp (fun _ => op_ge) (v2_cmp _) (do_n 2) (do_e (de_op (fun _ => op_pow) v2_pow (do_e de_int) (do_e de_int))))) da_nil)))) (do_e de_int)) (dss_one (ds_expr (de_mut 0 PySem.F.slot_list_extend PySem.F.type_list_extend (fun _ => mt_extend) vm_extend (da_cons (do_e (de_lst (da_cons (do_e (de_op (fun _ => op_mod) v2_mod (do_n 2) (do_e de_int))) (da_cons (do_e de_int) da_nil)))) da_nil))))))
  dss_nil) (dss_cons (ds_if (dt_cmp (fun _ => op_gt) (v2_cmp _) (do_e (de_ix (do_n 0) (do_e de_int))) (do_e de_int))
  (dss_cons (ds_set 3 (fun _ => sc_law_digit.nd) (by decide) (de_op (fun _ => op_mod) v2_mod (do_e (de_ix (do_n 0) (do_e de_int))) (do_n 1))) (dss_cons (ds_put 0 (de_op or_divX v2_div (do_e (de_ix (do_n 0) (do_e de_int))) (do_n 1)) (do_e de_int)) (dss_one (ds_ret (de_n 3)))))
  dss_nil) (dss_cons (ds_put 0 (de_op or_addX v2_add (do_e (de_ix (do_n 0) (do_e de_int))) (do_e de_int)) (do_e de_int)) (dss_cons (ds_set 4 (fun _ => sc_law_digit.nd) (by decide) (de_op (fun _ => op_mod) v2_mod (do_e (de_op or_mulX v2_mul (do_e (de_op or_addX v2_add (do_e (de_op or_addX v2_add (do_e (de_ix (do_n 0) (do_e de_int))) (do_e (de_op or_mulX v2_mul (do_e de_int) (do_e (de_ix (do_n 0) (do_e de_int))))))) (do_e de_int))) (do_e de_int))) (do_e de_int))) (dss_cons (ds_set 4 (fun _ => sc_law_digit.nd) (by decide) (de_op (fun _ => op_mod) v2_mod (do_e (de_op or_mulX v2_mul (do_n 4) (do_e (de_op or_addX v2_add (do_e (de_op or_divX v2_div (do_n 4) (do_e de_int))) (do_e de_int))))) (do_e de_int))) (dss_one (ds_ret (de_op (fun _ => op_mod) v2_mod (do_e (de_op (fun _ => op_mod) v2_mod (do_e (de_op or_mulX v2_mul (do_n 4) (do_e (de_op or_addX v2_add (do_e (de_op or_divX v2_div (do_n 4) (do_e de_int))) (do_e de_int))))) (do_e de_int))) (do_n 1))))))))))
theorem ok_law_of {f : Addr} {fd : FuncData} (A : DefAt K mg "_law_of" s_law_of ["_law_state", "_law_some"] f fd) (Z : Z0 mg) (XX : XF K mg) (C__law_digit : FnAt P w K mg base T "_law_digit" 2 1 f_law_digit) : FnAt P w K mg base T "_law_of" 2 2 f_law_of :=
  A.at (fn_d (k := 1) [0] A.fn sc_law_of (by decide) fun cdv A' outer s H E hr => by
  have hu : ∀ i, ((oneF (cxOf (L2.CX P w) P w K mg base N_law_of "_law_of" (defScope s_law_of) f cdv A' outer s H E)).at_ i).A.units + 65 < cLine := fun _ => by
    have q := hr.un
    have : (cxOf (L2.CX P w) P w K mg base N_law_of "_law_of" (defScope s_law_of) f cdv A' outer s H E).A = A'.deeper (envOfC "_law_of" (defScope s_law_of) s.heap.objs.size f cdv) := rfl
    show (A'.deeper (envOfC "_law_of" (defScope s_law_of) s.heap.objs.size f cdv)).units + 65 < cLine
    omega
  have tk : ∀ i, Takes ((oneF (cxOf (L2.CX P w) P w K mg base N_law_of "_law_of" (defScope s_law_of) f cdv A' outer s H E)).at_ i) (fun cls d _ H => E cls d H) := fun _ => takes_of rfl rfl rfl rfl
  show DSs _ _ _ _ _ m_law_of
  exact (dss_one (ds_ret (de_ix (do_n 1) (do_e (de_call (callee_of C__law_digit rfl (fun _ => ⟨rfl, rfl, rfl, rfl⟩) (fun _ => hr.mono (by decide)) (fun _ => rfl)) tk (da_cons (do_n 0) (da_cons (do_e (de_cb cr_lenX vl_len (fun _ => Z.b_len) (by decide +kernel) (da_cons (do_n 1) da_nil))) da_nil)) (lenA_cons 1 (lenA_cons 0 lenA_nil))))))))
theorem ok_law_steps {f : Addr} {fd : FuncData} (A : DefAt K mg "_law_steps" s_law_steps ["_law_state", "_law_slots", "_law_most"] f fd) (Z : Z0 mg) (XX : XF K mg) (C__law_digit : FnAt P w K mg base T "_law_digit" 2 1 f_law_digit) : FnAt P w K mg base T "_law_steps" 3 2 f_law_steps :=
  A.at (fn_d (k := 1) [0, 1] A.fn sc_law_steps (by decide) fun cdv A' outer s H E hr => by
  have hu : ∀ i, ((oneF (cxOf (L2.CX P w) P w K mg base N_law_steps "_law_steps" (defScope s_law_steps) f cdv A' outer s H E)).at_ i).A.units + 65 < cLine := fun _ => by
    have q := hr.un
    have : (cxOf (L2.CX P w) P w K mg base N_law_steps "_law_steps" (defScope s_law_steps) f cdv A' outer s H E).A = A'.deeper (envOfC "_law_steps" (defScope s_law_steps) s.heap.objs.size f cdv) := rfl
    show (A'.deeper (envOfC "_law_steps" (defScope s_law_steps) s.heap.objs.size f cdv)).units + 65 < cLine
    omega
  have tk : ∀ i, Takes ((oneF (cxOf (L2.CX P w) P w K mg base N_law_steps "_law_steps" (defScope s_law_steps) f cdv A' outer s H E)).at_ i) (fun cls d _ H => E cls d H) := fun _ => takes_of rfl rfl rfl rfl
  show DSs _ _ _ _ _ m_law_steps
  exact (dss_cons (ds_set 3 (fun _ => sc_law_steps.nd) (by decide) (de_lst da_nil)) (dss_cons (ds_set 4 (fun _ => sc_law_steps.nd) (by decide) (de_op (fun _ => op_sub) v2_sub (do_n 2) (do_e (de_cb cr_lenX vl_len (fun _ => Z.b_len) (by decide +kernel) (da_cons (do_n 1) da_nil))))) (dss_cons (ds_for (fun _ => passes_of rfl) (fun _ => rfl) (di_seq (do_n 1)) (dg_name 5 (fun _ => sc_law_steps.nd))
  (dss_cons (ds_set 6 (fun _ => sc_law_steps.nd) (by decide) (de_d (de_call (callee_of C__law_digit rfl (fun _ => ⟨rfl, rfl, rfl, rfl⟩) (fun _ => hr.mono (by decide)) (fun _ => rfl)) tk (da_cons (do_n 0) (da_cons (do_e de_int) da_nil)) (lenA_cons 1 (lenA_cons 0 lenA_nil))))) (dss_one (ds_if (dt_w (dw_and (dt_cmp (or_eq hu) v2_eq (do_n 6) (do_e de_int)) (dw_and1 (dt_cmp (fun _ => op_gt) (v2_cmp _) (do_n 4) (do_e de_int)))))
  (dss_cons (ds_expr (de_append 3 (de_lst (da_cons (do_e (de_tup (da_cons (do_e de_str) (da_cons (do_n 5) da_nil)))) (da_cons (do_e (de_tup (da_cons (do_e de_str) (da_cons (do_n 5) da_nil)))) da_nil))))) (dss_one (ds_set 4 (fun _ => sc_law_steps.nd) (by decide) (de_op (fun _ => op_sub) v2_sub (do_n 4) (do_e de_int)))))
  (dss_one (ds_expr (de_append 3 (de_lst (da_cons (do_e (de_tup (da_cons (do_e (de_ix (do_e (de_lst (da_cons (do_e de_str) (da_cons (do_e de_str) da_nil)))) (do_e (de_op (fun _ => op_mod) v2_mod (do_n 6) (do_e de_int))))) (da_cons (do_n 5) da_nil)))) da_nil))))))))) (dss_cons (ds_set 7 (fun _ => sc_law_steps.nd) (by decide) (de_lst da_nil)) (dss_cons (ds_while w_law_steps_1 (fun _ => passes_of rfl) (dt_cmp (or_ne hu) v2_ne (do_n 3) (do_e (de_lst da_nil)))
  (dss_cons (ds_set 8 (fun _ => sc_law_steps.nd) (by decide) (de_d (de_call (callee_of C__law_digit rfl (fun _ => ⟨rfl, rfl, rfl, rfl⟩) (fun _ => hr.mono (by decide)) (fun _ => rfl)) tk (da_cons (do_n 0) (da_cons (do_e (de_cb cr_lenX vl_len (fun _ => Z.b_len) (by decide +kernel) (da_cons (do_n 3) da_nil))) da_nil)) (lenA_cons 1 (lenA_cons 0 lenA_nil))))) (dss_cons (ds_expr (de_append 7 (de_ix (do_e (de_ix (do_n 3) (do_n 8))) (do_e de_int)))) (dss_cons (ds_put 3 (de_sl (do_e (de_ix (do_n 3) (do_n 8))) (dp_so (do_e de_int)) dp_no) (do_n 8)) (dss_one (ds_frzI 3 (ds_setLc 3 [("_law_row", 9)] (by decide) (fun _ => rfl) (fun _ => sc_law_steps.nd) (di_seq (do_n 3)) (fun _ => blkOk_by (N := N_law_steps) (sc := (defScope s_law_steps)) (by decide +kernel)) (dg_name 9 (fun _ => sc_law_steps.nd)) (dts_one (dt_cmp (or_ne (blk_hu hu)) v2_ne (do_n 9) (do_e (de_lst da_nil)))) (de_n 9)))))))) (dss_one (ds_ret (de_ct cr_tuple vl_tuple (fun _ => Z.b_tuple) (by decide +kernel) (da_cons (do_n 7) da_nil))))))))))
theorem ok_law_program {f : Addr} {fd : FuncData} (A : DefAt K mg "_law_program" s_law_program ["_law_state", "_law_keys_most", "_law_most"] f fd) (Z : Z0 mg) (XX : XF K mg) (C__law_digit : FnAt P w K mg base T "_law_digit" 2 1 f_law_digit) (C__law_of : FnAt P w K mg base T "_law_of" 2 2 f_law_of) (C__law_steps : FnAt P w K mg base T "_law_steps" 3 2 f_law_steps) : FnAt P w K mg base T "_law_program" 3 3 f_law_program :=
  A.at (fn_d (k := 2) [0] A.fn sc_law_program (by decide) fun cdv A' outer s H E hr => by
  have hu : ∀ i, ((oneF (cxOf (L2.CX P w) P w K mg base N_law_program "_law_program" (defScope s_law_program) f cdv A' outer s H E)).at_ i).A.units + 65 < cLine := fun _ => by
    have q := hr.un
    have : (cxOf (L2.CX P w) P w K mg base N_law_program "_law_program" (defScope s_law_program) f cdv A' outer s H E).A = A'.deeper (envOfC "_law_program" (defScope s_law_program) s.heap.objs.size f cdv) := rfl
    show (A'.deeper (envOfC "_law_program" (defScope s_law_program) s.heap.objs.size f cdv)).units + 65 < cLine
    omega
  have tk : ∀ i, Takes ((oneF (cxOf (L2.CX P w) P w K mg base N_law_program "_law_program" (defScope s_law_program) f cdv A' outer s H E)).at_ i) (fun cls d _ H => E cls d H) := fun _ => takes_of rfl rfl rfl rfl
  show DSs _ _ _ _ _ m_law_program
  exact (dss_cons (ds_set 3 (fun _ => sc_law_program.nd) (by decide) (de_d (de_call (callee_of C__law_digit rfl (fun _ => ⟨rfl, rfl, rfl, rfl⟩) (fun _ => hr.mono (by decide)) (fun _ => rfl)) tk (da_cons (do_n 0) (da_cons (do_e (de_op or_addX v2_add (do_n 1) (do_e de_int))) da_nil)) (lenA_cons 1 (lenA_cons 0 lenA_nil))))) (dss_cons (ds_set 4 (fun _ => sc_law_program.nd) (by decide) (de_d (de_ct cr_tuple vl_tuple (fun _ => Z.b_tuple) (by decide +kernel) (da_cons (do_e (de_lc [("_law_k", 5)] (fun _ => rfl) (fun _ => sc_law_program.nd) (di_range1 (fun _ => rfl) (fun _ => Z.b_range) (da_cons (do_n 3) da_nil)) (fun _ => blkOk_by (N := N_law_program) (sc := (defScope s_law_program)) (by decide +kernel)) (dg_name 5 (fun _ => sc_law_program.nd)) dts_nil (de_call (callee_of C__law_of rfl (fun _ => ⟨rfl, rfl, rfl, rfl⟩) (fun _ => hr.mono (by decide)) (fun _ => rfl)) (fun _ => L2.takes0) (da_cons (do_n 0) (da_cons (do_e (de_lst (da_cons (do_e de_int) (da_cons (do_e de_int) (da_cons (do_e de_int) (da_cons (do_e de_int) (da_cons (do_e (de_op or_addX v2_add (do_e de_int) (do_e (de_call (callee_of C__law_digit rfl (fun _ => ⟨rfl, rfl, rfl, rfl⟩) (fun _ => hr.mono (by decide)) (fun _ => rfl)) (fun _ => L2.takes0) (da_cons (do_n 0) (da_cons (do_e de_int) da_nil)) (lenA_cons 1 (lenA_cons 0 lenA_nil)))))) da_nil))))))) da_nil)) (lenA_cons 1 (lenA_cons 0 lenA_nil))))) da_nil)))) (dss_cons (ds_setLc 6 [("_law_k", 5)] (by decide) (fun _ => rfl) (fun _ => sc_law_program.nd) (di_range1 (fun _ => rfl) (fun _ => Z.b_range) (da_cons (do_n 3) da_nil)) (fun _ => blkOk_by (N := N_law_program) (sc := (defScope s_law_program)) (by decide +kernel)) (dg_name 5 (fun _ => sc_law_program.nd)) dts_nil (de_tup (da_cons (do_e de_str) (da_cons (do_n 5) da_nil)))) (dss_cons (ds_for (fun _ => passes_of rfl) (fun _ => rfl) (di_range1 (fun _ => rfl) (fun _ => Z.b_range) (da_cons (do_e (de_call (callee_of C__law_digit rfl (fun _ => ⟨rfl, rfl, rfl, rfl⟩) (fun _ => hr.mono (by decide)) (fun _ => rfl)) tk (da_cons (do_n 0) (da_cons (do_e de_int) da_nil)) (lenA_cons 1 (lenA_cons 0 lenA_nil)))) da_nil)) (dg_name 5 (fun _ => sc_law_program.nd))
  (dss_cons (ds_set 7 (fun _ => sc_law_program.nd) (by decide) (de_d (de_call (callee_of C__law_of rfl (fun _ => ⟨rfl, rfl, rfl, rfl⟩) (fun _ => hr.mono (by decide)) (fun _ => rfl)) tk (da_cons (do_n 0) (da_cons (do_e (de_lst (da_cons (do_e de_int) (da_cons (do_e de_int) (da_cons (do_e de_int) (da_cons (do_e de_int) (da_cons (do_e (de_call (callee_of C__law_digit rfl (fun _ => ⟨rfl, rfl, rfl, rfl⟩) (fun _ => hr.mono (by decide)) (fun _ => rfl)) tk (da_cons (do_n 0) (da_cons (do_e (de_op (fun _ => op_pow) v2_pow (do_e de_int) (do_e de_int))) da_nil)) (lenA_cons 1 (lenA_cons 0 lenA_nil)))) da_nil))))))) da_nil)) (lenA_cons 1 (lenA_cons 0 lenA_nil))))) (dss_one (ds_if (dt_cmp (or_notInX hu) v2_notIn (do_e (de_tup (da_cons (do_e de_str) (da_cons (do_n 7) da_nil)))) (do_n 6))
  (dss_one (ds_expr (de_append 6 (de_tup (da_cons (do_e de_str) (da_cons (do_n 7) da_nil))))))
  dss_nil)))) (dss_cons (ds_if (dt_cmp (or_eq hu) v2_eq (do_n 6) (do_e (de_lst da_nil)))
  (dss_one (ds_set 6 (fun _ => sc_law_program.nd) (by decide) (de_lst (da_cons (do_e (de_tup (da_cons (do_e de_str) (da_cons (do_e (de_call (callee_of C__law_digit rfl (fun _ => ⟨rfl, rfl, rfl, rfl⟩) (fun _ => hr.mono (by decide)) (fun _ => rfl)) tk (da_cons (do_n 0) (da_cons (do_e de_int) da_nil)) (lenA_cons 1 (lenA_cons 0 lenA_nil)))) da_nil)))) da_nil))))
  dss_nil) (dss_one (ds_frzI 6 (ds_ret (de_tup (da_cons (do_n 4) (da_cons (do_e (de_call (callee_of C__law_steps rfl (fun _ => ⟨rfl, rfl, rfl, rfl⟩) (fun _ => hr.mono (by decide)) (fun _ => rfl)) tk (da_cons (do_n 0) (da_cons (do_n 6) (da_cons (do_n 2) da_nil))) (lenA_cons 2 (lenA_cons 1 (lenA_cons 0 lenA_nil))))) da_nil))))))))))))
theorem ok_law_list {f : Addr} {fd : FuncData} (A : DefAt K mg "_law_list" s_law_list ["_law_state", "_law_good", "_law_bad"] f fd) (Z : Z0 mg) (XX : XF K mg) (C__law_digit : FnAt P w K mg base T "_law_digit" 2 1 f_law_digit) (C__law_of : FnAt P w K mg base T "_law_of" 2 2 f_law_of) : FnAt P w K mg base T "_law_list" 3 3 f_law_list :=
  A.at (fn_d (k := 2) [0] A.fn sc_law_list (by decide) fun cdv A' outer s H E hr => by
  have hu : ∀ i, ((oneF (cxOf (L2.CX P w) P w K mg base N_law_list "_law_list" (defScope s_law_list) f cdv A' outer s H E)).at_ i).A.units + 65 < cLine := fun _ => by
    have q := hr.un
    have : (cxOf (L2.CX P w) P w K mg base N_law_list "_law_list" (defScope s_law_list) f cdv A' outer s H E).A = A'.deeper (envOfC "_law_list" (defScope s_law_list) s.heap.objs.size f cdv) := rfl
    show (A'.deeper (envOfC "_law_list" (defScope s_law_list) s.heap.objs.size f cdv)).units + 65 < cLine
    omega
  have tk : ∀ i, Takes ((oneF (cxOf (L2.CX P w) P w K mg base N_law_list "_law_list" (defScope s_law_list) f cdv A' outer s H E)).at_ i) (fun cls d _ H => E cls d H) := fun _ => takes_of rfl rfl rfl rfl
  show DSs _ _ _ _ _ m_law_list
  exact (dss_cons (ds_frz (ds_setLc 3 [("_law_k", 4)] (by decide) (fun _ => rfl) (fun _ => sc_law_list.nd) (di_range1 (fun _ => rfl) (fun _ => Z.b_range) (da_cons (do_e (de_call (callee_of C__law_digit rfl (fun _ => ⟨rfl, rfl, rfl, rfl⟩) (fun _ => hr.mono (by decide)) (fun _ => rfl)) tk (da_cons (do_n 0) (da_cons (do_e de_int) da_nil)) (lenA_cons 1 (lenA_cons 0 lenA_nil)))) da_nil)) (fun _ => blkOk_by (N := N_law_list) (sc := (defScope s_law_list)) (by decide +kernel)) (dg_name 4 (fun _ => sc_law_list.nd)) dts_nil (de_call (callee_of C__law_of rfl (fun _ => ⟨rfl, rfl, rfl, rfl⟩) (fun _ => hr.mono (by decide)) (fun _ => rfl)) (fun _ => L2.takes0) (da_cons (do_n 0) (da_cons (do_e (de_lst (da_cons (do_n 1) (da_cons (do_n 1) (da_cons (do_n 1) (da_cons (do_n 2) da_nil)))))) da_nil)) (lenA_cons 1 (lenA_cons 0 lenA_nil))))) (dss_one (ds_ret (de_call (callee_of C__law_of rfl (fun _ => ⟨rfl, rfl, rfl, rfl⟩) (fun _ => hr.mono (by decide)) (fun _ => rfl)) tk (da_cons (do_n 0) (da_cons (do_e (de_lst (da_cons (do_n 3) (da_cons (do_n 3) (da_cons (do_n 3) (da_cons (do_e (de_ct cr_tuple vl_tuple (fun _ => Z.b_tuple) (by decide +kernel) (da_cons (do_n 3) da_nil))) (da_cons (do_n 1) (da_cons (do_e de_non) (da_cons (do_e de_dnew) da_nil))))))))) da_nil)) (lenA_cons 1 (lenA_cons 0 lenA_nil)))))))
theorem ok_law_cell_at {f : Addr} {fd : FuncData} (A : DefAt K mg "_law_cell_at" s_law_cell_at ["_law_script", "_law_k"] f fd) (Z : Z0 mg) (XX : XF K mg)  : FnAt P w K mg base T "_law_cell_at" 2 1 f_law_cell_at :=
  A.at (fn_d (k := 0) [] A.fn sc_law_cell_at (by decide) fun cdv A' outer s H E hr => by
  have hu : ∀ i, ((oneF (cxOf (L2.CX P w) P w K mg base N_law_cell_at "_law_cell_at" (defScope s_law_cell_at) f cdv A' outer s H E)).at_ i).A.units + 65 < cLine := fun _ => by
    have q := hr.un
    have : (cxOf (L2.CX P w) P w K mg base N_law_cell_at "_law_cell_at" (defScope s_law_cell_at) f cdv A' outer s H E).A = A'.deeper (envOfC "_law_cell_at" (defScope s_law_cell_at) s.heap.objs.size f cdv) := rfl
    show (A'.deeper (envOfC "_law_cell_at" (defScope s_law_cell_at) s.heap.objs.size f cdv)).units + 65 < cLine
    omega
  have tk : ∀ i, Takes ((oneF (cxOf (L2.CX P w) P w K mg base N_law_cell_at "_law_cell_at" (defScope s_law_cell_at) f cdv A' outer s H E)).at_ i) (fun cls d _ H => E cls d H) := fun _ => takes_of rfl rfl rfl rfl
  show DSs _ _ _ _ _ m_law_cell_at
  exact (dss_cons (ds_if (dt_cmp (fun _ => op_lt) (v2_cmp _) (do_n 1) (do_e (de_cb cr_lenX vl_len (fun _ => Z.b_len) (by decide +kernel) (da_cons (do_n 0) da_nil))))
  (dss_one (ds_ret (de_ix (do_n 0) (do_n 1))))
  dss_nil) (dss_one (ds_ret de_int))))
theorem ok_law_whole {f : Addr} {fd : FuncData} (A : DefAt K mg "_law_whole" s_law_whole ["_law_thing", "_law_low", "_law_high"] f fd) (Z : Z0 mg) (XX : XF K mg)  : FnAt P w K mg base T "_law_whole" 3 1 f_law_whole :=
  A.at (fn_d (k := 0) [] A.fn sc_law_whole (by decide) fun cdv A' outer s H E hr => by
  have hu : ∀ i, ((oneF (cxOf (L2.CX P w) P w K mg base N_law_whole "_law_whole" (defScope s_law_whole) f cdv A' outer s H E)).at_ i).A.units + 65 < cLine := fun _ => by
    have q := hr.un
    have : (cxOf (L2.CX P w) P w K mg base N_law_whole "_law_whole" (defScope s_law_whole) f cdv A' outer s H E).A = A'.deeper (envOfC "_law_whole" (defScope s_law_whole) s.heap.objs.size f cdv) := rfl
    show (A'.deeper (envOfC "_law_whole" (defScope s_law_whole) s.heap.objs.size f cdv)).units + 65 < cLine
    omega
  have tk : ∀ i, Takes ((oneF (cxOf (L2.CX P w) P w K mg base N_law_whole "_law_whole" (defScope s_law_whole) f cdv A' outer s H E)).at_ i) (fun cls d _ H => E cls d H) := fun _ => takes_of rfl rfl rfl rfl
  show DSs _ _ _ _ _ m_law_whole
  exact (dss_one (ds_ret (de_and (de_cb cr_isi vl_isi (fun _ => Z.b_isinstance) (by decide +kernel) (da_cons (do_n 0) (da_cons (do_e (de_bltn (fun _ => rfl) (fun _ => Z.b_int) (by decide +kernel) (show RelV (.ty "int") (.type "int") from rfl))) da_nil))) (de_and (de_not (de_cb cr_isi vl_isi (fun _ => Z.b_isinstance) (by decide +kernel) (da_cons (do_n 0) (da_cons (do_e (de_bltn (fun _ => rfl) (fun _ => Z.b_bool) (by decide +kernel) (show RelV (.ty "bool") (.type "bool") from rfl))) da_nil)))) (de_one (de_chain (fun _ => op_le) (v2_cmp _) (fun _ => op_le) (v2_cmp _) (do_n 1) (do_n 0) (do_n 2))))))))
theorem ok_law_is_step {f : Addr} {fd : FuncData} (A : DefAt K mg "_law_is_step" s_law_is_step ["_law_thing", "_law_many"] f fd) (Z : Z0 mg) (XX : XF K mg) (C__law_whole : FnAt P w K mg base T "_law_whole" 3 1 f_law_whole) : FnAt P w K mg base T "_law_is_step" 2 2 f_law_is_step :=
  A.at (fn_d (k := 1) [] A.fn sc_law_is_step (by decide) fun cdv A' outer s H E hr => by
  have hu : ∀ i, ((oneF (cxOf (L2.CX P w) P w K mg base N_law_is_step "_law_is_step" (defScope s_law_is_step) f cdv A' outer s H E)).at_ i).A.units + 65 < cLine := fun _ => by
    have q := hr.un
    have : (cxOf (L2.CX P w) P w K mg base N_law_is_step "_law_is_step" (defScope s_law_is_step) f cdv A' outer s H E).A = A'.deeper (envOfC "_law_is_step" (defScope s_law_is_step) s.heap.objs.size f cdv) := rfl
    show (A'.deeper (envOfC "_law_is_step" (defScope s_law_is_step) s.heap.objs.size f cdv)).units + 65 < cLine
    omega
  have tk : ∀ i, Takes ((oneF (cxOf (L2.CX P w) P w K mg base N_law_is_step "_law_is_step" (defScope s_law_is_step) f cdv A' outer s H E)).at_ i) (fun cls d _ H => E cls d H) := fun _ => takes_of rfl rfl rfl rfl
  show DSs _ _ _ _ _ m_law_is_step
  exact (dss_cons (ds_if (dt_w (dw_or (dt_not (dt_val (de_cb cr_isi vl_isi (fun _ => Z.b_isinstance) (by decide +kernel) (da_cons (do_n 0) (da_cons (do_e (de_bltn (fun _ => rfl) (fun _ => Z.b_tuple) (by decide +kernel) (show RelV (.ty "tuple") (.type "tuple") from rfl))) da_nil))))) (dw_or (dt_cmp (or_ne hu) v2_ne (do_e (de_cb cr_lenX vl_len (fun _ => Z.b_len) (by decide +kernel) (da_cons (do_n 0) da_nil))) (do_e de_int)) (dw_or1 (dt_w (dw_and (dt_cmp (or_ne hu) v2_ne (do_e (de_ix (do_n 0) (do_e de_int))) (do_e de_str)) (dw_and1 (dt_cmp (or_ne hu) v2_ne (do_e (de_ix (do_n 0) (do_e de_int))) (do_e de_str)))))))))
  (dss_one (ds_ret de_bl))
  dss_nil) (dss_cons (ds_set 2 (fun _ => sc_law_is_step.nd) (by decide) (de_ix (do_n 0) (do_e de_int))) (dss_cons (ds_if (dt_w (dw_or (dt_not (dt_val (de_cb cr_isi vl_isi (fun _ => Z.b_isinstance) (by decide +kernel) (da_cons (do_n 2) (da_cons (do_e (de_bltn (fun _ => rfl) (fun _ => Z.b_tuple) (by decide +kernel) (show RelV (.ty "tuple") (.type "tuple") from rfl))) da_nil))))) (dw_or1 (dt_cmp (or_ne hu) v2_ne (do_e (de_cb cr_lenX vl_len (fun _ => Z.b_len) (by decide +kernel) (da_cons (do_n 2) da_nil))) (do_e de_int)))))
  (dss_one (ds_ret de_bl))
  dss_nil) (dss_cons (ds_if (dt_cmp (or_eq hu) v2_eq (do_e (de_ix (do_n 2) (do_e de_int))) (do_e de_str))
  (dss_one (ds_ret (de_call (callee_of C__law_whole rfl (fun _ => ⟨rfl, rfl, rfl, rfl⟩) (fun _ => hr.mono (by decide)) (fun _ => rfl)) tk (da_cons (do_e (de_ix (do_n 2) (do_e de_int))) (da_cons (do_e de_int) (da_cons (do_e de_int) da_nil))) (lenA_cons 2 (lenA_cons 1 (lenA_cons 0 lenA_nil))))))
  dss_nil) (dss_one (ds_ret (de_and (de_cmp (or_eq hu) v2_eq (do_e (de_ix (do_n 2) (do_e de_int))) (do_e de_str)) (de_one (de_call (callee_of C__law_whole rfl (fun _ => ⟨rfl, rfl, rfl, rfl⟩) (fun _ => hr.mono (by decide)) (fun _ => rfl)) tk (da_cons (do_e (de_ix (do_n 2) (do_e de_int))) (da_cons (do_e de_int) (da_cons (do_e (de_op (fun _ => op_sub) v2_sub (do_n 1) (do_e de_int))) da_nil))) (lenA_cons 2 (lenA_cons 1 (lenA_cons 0 lenA_nil)))))))))))))
theorem ok_law_is_right {f : Addr} {fd : FuncData} (A : DefAt K mg "_law_is_right" s_law_is_right ["_law_thing"] f fd) (Z : Z0 mg) (XX : XF K mg) (C__law_is_step : FnAt P w K mg base T "_law_is_step" 2 2 f_law_is_step) (C__law_whole : FnAt P w K mg base T "_law_whole" 3 1 f_law_whole) : FnAt P w K mg base T "_law_is_right" 1 3 f_law_is_right :=
  A.at (fn_d (k := 2) [] A.fn sc_law_is_right (by decide) fun cdv A' outer s H E hr => by
  have hu : ∀ i, ((oneF (cxOf (L2.CX P w) P w K mg base N_law_is_right "_law_is_right" (defScope s_law_is_right) f cdv A' outer s H E)).at_ i).A.units + 65 < cLine := fun _ => by
    have q := hr.un
    have : (cxOf (L2.CX P w) P w K mg base N_law_is_right "_law_is_right" (defScope s_law_is_right) f cdv A' outer s H E).A = A'.deeper (envOfC "_law_is_right" (defScope s_law_is_right) s.heap.objs.size f cdv) := rfl
    show (A'.deeper (envOfC "_law_is_right" (defScope s_law_is_right) s.heap.objs.size f cdv)).units + 65 < cLine
    omega
  have tk : ∀ i, Takes ((oneF (cxOf (L2.CX P w) P w K mg base N_law_is_right "_law_is_right" (defScope s_law_is_right) f cdv A' outer s H E)).at_ i) (fun cls d _ H => E cls d H) := fun _ => takes_of rfl rfl rfl rfl
  show DSs _ _ _ _ _ m_law_is_right
  exact (dss_cons (ds_if (dt_w (dw_or (dt_not (dt_val (de_cb cr_isi vl_isi (fun _ => Z.b_isinstance) (by decide +kernel) (da_cons (do_n 0) (da_cons (do_e (de_bltn (fun _ => rfl) (fun _ => Z.b_tuple) (by decide +kernel) (show RelV (.ty "tuple") (.type "tuple") from rfl))) da_nil))))) (dw_or1 (dt_cmp (or_ne hu) v2_ne (do_e (de_cb cr_lenX vl_len (fun _ => Z.b_len) (by decide +kernel) (da_cons (do_n 0) da_nil))) (do_e de_int)))))
  (dss_one (ds_ret de_bl))
  dss_nil) (dss_cons (ds_unp (dg_tup (fun _ => rfl) (dgs_cons (dg_name 1 (fun _ => sc_law_is_right.nd)) (dgs_cons (dg_name 2 (fun _ => sc_law_is_right.nd)) dgs_nil))) (de_n 0)) (dss_cons (ds_if (dt_w (dw_or (dt_not (dt_val (de_cb cr_isi vl_isi (fun _ => Z.b_isinstance) (by decide +kernel) (da_cons (do_n 1) (da_cons (do_e (de_bltn (fun _ => rfl) (fun _ => Z.b_tuple) (by decide +kernel) (show RelV (.ty "tuple") (.type "tuple") from rfl))) da_nil))))) (dw_or1 (dt_not (dt_val (de_cb cr_isi vl_isi (fun _ => Z.b_isinstance) (by decide +kernel) (da_cons (do_n 2) (da_cons (do_e (de_bltn (fun _ => rfl) (fun _ => Z.b_tuple) (by decide +kernel) (show RelV (.ty "tuple") (.type "tuple") from rfl))) da_nil))))))))
  (dss_one (ds_ret de_bl))
  dss_nil) (dss_cons (ds_if (dt_w (dw_or (dt_cmp (fun _ => op_gt) (v2_cmp _) (do_e (de_cb cr_lenX vl_len (fun _ => Z.b_len) (by decide +kernel) (da_cons (do_n 1) da_nil))) (do_e de_int)) (dw_or1 (dt_cmp (or_ne hu) v2_ne (do_e (de_lc [("_law_table", 3)] (fun _ => rfl) (fun _ => sc_law_is_right.nd) (di_seq (do_n 1)) (fun _ => blkOk_by (N := N_law_is_right) (sc := (defScope s_law_is_right)) (by decide +kernel)) (dg_name 3 (fun _ => sc_law_is_right.nd)) (dts_one (dt_not (dt_val (de_call (callee_of C__law_whole rfl (fun _ => ⟨rfl, rfl, rfl, rfl⟩) (fun _ => hr.mono (by decide)) (fun _ => rfl)) (fun _ => L2.takes0) (da_cons (do_n 3) (da_cons (do_e de_int) (da_cons (do_e de_int) da_nil))) (lenA_cons 2 (lenA_cons 1 (lenA_cons 0 lenA_nil))))))) (de_n 3))) (do_e (de_lst da_nil))))))
  (dss_one (ds_ret de_bl))
  dss_nil) (dss_cons (ds_if (dt_w (dw_or (dt_not (dt_chain (fun _ => op_le) (v2_cmp _) (fun _ => op_le) (v2_cmp _) (do_e de_int) (do_e (de_cb cr_lenX vl_len (fun _ => Z.b_len) (by decide +kernel) (da_cons (do_n 2) da_nil))) (do_e de_int))) (dw_or1 (dt_cmp (or_ne hu) v2_ne (do_e (de_lc [("_law_step", 4)] (fun _ => rfl) (fun _ => sc_law_is_right.nd) (di_seq (do_n 2)) (fun _ => blkOk_by (N := N_law_is_right) (sc := (defScope s_law_is_right)) (by decide +kernel)) (dg_name 4 (fun _ => sc_law_is_right.nd)) (dts_one (dt_not (dt_val (de_call (callee_of C__law_is_step rfl (fun _ => ⟨rfl, rfl, rfl, rfl⟩) (fun _ => hr.mono (by decide)) (fun _ => rfl)) (fun _ => L2.takes0) (da_cons (do_n 4) (da_cons (do_e (de_cb cr_lenX vl_len (fun _ => Z.b_len) (by decide +kernel) (da_cons (do_n 1) da_nil))) da_nil)) (lenA_cons 1 (lenA_cons 0 lenA_nil)))))) (de_n 4))) (do_e (de_lst da_nil))))))
  (dss_one (ds_ret de_bl))
  dss_nil) (dss_cons (ds_for (fun _ => passes_of rfl) (fun _ => rfl) (di_enum (fun _ => rfl) (fun _ => Z.b_enumerate) (do_n 2)) (dg_tup (fun _ => rfl) (dgs_cons (dg_name 5 (fun _ => sc_law_is_right.nd)) (dgs_cons (dg_name 4 (fun _ => sc_law_is_right.nd)) dgs_nil)))
  (dss_one (ds_if (dt_w (dw_or (dt_cmp (or_inX hu) v2_in (do_n 4) (do_e (de_sl (do_n 2) dp_no (dp_so (do_n 5))))) (dw_or1 (dt_w (dw_and (dt_cmp (or_eq hu) v2_eq (do_e (de_ix (do_n 4) (do_e de_int))) (do_e de_str)) (dw_and1 (dt_cmp (or_inX hu) v2_in (do_e (de_tup (da_cons (do_e de_str) (da_cons (do_e (de_ix (do_n 4) (do_e de_int))) da_nil)))) (do_e (de_sl (do_n 2) dp_no (dp_so (do_n 5)))))))))))
  (dss_one (ds_ret de_bl))
  dss_nil))) (dss_cons (ds_set 6 (fun _ => sc_law_is_right.nd) (by decide) (de_d (de_lc [("_law_step", 4)] (fun _ => rfl) (fun _ => sc_law_is_right.nd) (di_seq (do_n 2)) (fun _ => blkOk_by (N := N_law_is_right) (sc := (defScope s_law_is_right)) (by decide +kernel)) (dg_name 4 (fun _ => sc_law_is_right.nd)) dts_nil (de_ix (do_n 4) (do_e de_int))))) (dss_one (ds_ret (de_cmp (or_eq hu) v2_eq (do_e (de_lc [("_law_k", 5)] (fun _ => rfl) (fun _ => sc_law_is_right.nd) (di_range1 (fun _ => rfl) (fun _ => Z.b_range) (da_cons (do_e (de_cb cr_lenX vl_len (fun _ => Z.b_len) (by decide +kernel) (da_cons (do_n 1) da_nil))) da_nil)) (fun _ => blkOk_by (N := N_law_is_right) (sc := (defScope s_law_is_right)) (by decide +kernel)) (dg_name 5 (fun _ => sc_law_is_right.nd)) (dts_one (dt_cmp (or_notInX (blk_hu hu)) v2_notIn (do_e (de_tup (da_cons (do_e de_str) (da_cons (do_n 5) da_nil)))) (do_n 6))) (de_n 5))) (do_e (de_lst da_nil)))))))))))))
theorem ok_is_from {f : Addr} {fd : FuncData} (A : DefAt K mg "is_from" s_is_from ["thing", "low", "high"] f fd) (Z : Z0 mg) (XX : XF K mg)  : FnAt P w K mg base T "is_from" 3 1 f_is_from :=
  A.at (fn_d (k := 0) [] A.fn sc_is_from (by decide) fun cdv A' outer s H E hr => by
  have hu : ∀ i, ((oneF (cxOf (L2.CX P w) P w K mg base N_is_from "is_from" (defScope s_is_from) f cdv A' outer s H E)).at_ i).A.units + 65 < cLine := fun _ => by
    have q := hr.un
    have : (cxOf (L2.CX P w) P w K mg base N_is_from "is_from" (defScope s_is_from) f cdv A' outer s H E).A = A'.deeper (envOfC "is_from" (defScope s_is_from) s.heap.objs.size f cdv) := rfl
    show (A'.deeper (envOfC "is_from" (defScope s_is_from) s.heap.objs.size f cdv)).units + 65 < cLine
    omega
  have tk : ∀ i, Takes ((oneF (cxOf (L2.CX P w) P w K mg base N_is_from "is_from" (defScope s_is_from) f cdv A' outer s H E)).at_ i) (fun cls d _ H => E cls d H) := fun _ => takes_of rfl rfl rfl rfl
  show DSs _ _ _ _ _ m_is_from
  exact (dss_one (ds_ret (de_and (de_cb cr_isi vl_isi (fun _ => Z.b_isinstance) (by decide +kernel) (da_cons (do_n 0) (da_cons (do_e (de_bltn (fun _ => rfl) (fun _ => Z.b_int) (by decide +kernel) (show RelV (.ty "int") (.type "int") from rfl))) da_nil))) (de_and (de_not (de_cb cr_isi vl_isi (fun _ => Z.b_isinstance) (by decide +kernel) (da_cons (do_n 0) (da_cons (do_e (de_bltn (fun _ => rfl) (fun _ => Z.b_bool) (by decide +kernel) (show RelV (.ty "bool") (.type "bool") from rfl))) da_nil)))) (de_one (de_chain (fun _ => op_le) (v2_cmp _) (fun _ => op_le) (v2_cmp _) (do_n 1) (do_n 0) (do_n 2))))))))
theorem ok_are_tables {f : Addr} {fd : FuncData} (A : DefAt K mg "are_tables" s_are_tables ["thing"] f fd) (Z : Z0 mg) (XX : XF K mg) (C_is_from : FnAt P w K mg base T "is_from" 3 1 f_is_from) {v_MOST_KEYS : V} {u_MOST_KEYS : Value} (C_MOST_KEYS : CAt K mg "MOST_KEYS" (.int 3) v_MOST_KEYS u_MOST_KEYS) {v_MOST_TABLE : V} {u_MOST_TABLE : Value} (C_MOST_TABLE : CAt K mg "MOST_TABLE" (.int 9) v_MOST_TABLE u_MOST_TABLE) : FnAt P w K mg base T "are_tables" 1 2 f_are_tables :=
  A.at (fn_d (k := 1) [] A.fn sc_are_tables (by decide) fun cdv A' outer s H E hr => by
  have hu : ∀ i, ((oneF (cxOf (L2.CX P w) P w K mg base N_are_tables "are_tables" (defScope s_are_tables) f cdv A' outer s H E)).at_ i).A.units + 65 < cLine := fun _ => by
    have q := hr.un
    have : (cxOf (L2.CX P w) P w K mg base N_are_tables "are_tables" (defScope s_are_tables) f cdv A' outer s H E).A = A'.deeper (envOfC "are_tables" (defScope s_are_tables) s.heap.objs.size f cdv) := rfl
    show (A'.deeper (envOfC "are_tables" (defScope s_are_tables) s.heap.objs.size f cdv)).units + 65 < cLine
    omega
  have tk : ∀ i, Takes ((oneF (cxOf (L2.CX P w) P w K mg base N_are_tables "are_tables" (defScope s_are_tables) f cdv A' outer s H E)).at_ i) (fun cls d _ H => E cls d H) := fun _ => takes_of rfl rfl rfl rfl
  show DSs _ _ _ _ _ m_are_tables
  exact (dss_cons (ds_if (dt_w (dw_or (dt_not (dt_val (de_cb cr_isi vl_isi (fun _ => Z.b_isinstance) (by decide +kernel) (da_cons (do_n 0) (da_cons (do_e (de_bltn (fun _ => rfl) (fun _ => Z.b_tuple) (by decide +kernel) (show RelV (.ty "tuple") (.type "tuple") from rfl))) da_nil))))) (dw_or1 (dt_cmp (fun _ => op_gt) (v2_cmp _) (do_e (de_cb cr_lenX vl_len (fun _ => Z.b_len) (by decide +kernel) (da_cons (do_n 0) da_nil))) (do_e (de_glob (fun _ => rfl) (fun _ => C_MOST_KEYS.g) C_MOST_KEYS.rv C_MOST_KEYS.r))))))
  (dss_one (ds_ret de_bl))
  dss_nil) (dss_one (ds_ret (de_cb (cr_allX fun _ => rfl) vl_all (fun _ => Z.b_all) (by decide +kernel) (da_cons (do_e (de_lc [("table", 1)] (fun _ => rfl) (fun _ => sc_are_tables.nd) (di_seq (do_n 0)) (fun _ => blkOk_by (N := N_are_tables) (sc := (defScope s_are_tables)) (by decide +kernel)) (dg_name 1 (fun _ => sc_are_tables.nd)) dts_nil (de_call (callee_of C_is_from rfl (fun _ => ⟨rfl, rfl, rfl, rfl⟩) (fun _ => hr.mono (by decide)) (fun _ => rfl)) (fun _ => L2.takes0) (da_cons (do_n 1) (da_cons (do_e de_int) (da_cons (do_e (de_glob (fun _ => rfl) (fun _ => C_MOST_TABLE.g) C_MOST_TABLE.rv C_MOST_TABLE.r)) da_nil))) (lenA_cons 2 (lenA_cons 1 (lenA_cons 0 lenA_nil)))))) da_nil))))))
theorem ok_in_order {f : Addr} {fd : FuncData} (A : DefAt K mg "in_order" s_in_order ["steps"] f fd) (Z : Z0 mg) (XX : XF K mg)  : FnAt P w K mg base T "in_order" 1 1 f_in_order :=
  A.at (fn_d (k := 0) [] A.fn sc_in_order (by decide) fun cdv A' outer s H E hr => by
  have hu : ∀ i, ((oneF (cxOf (L2.CX P w) P w K mg base N_in_order "in_order" (defScope s_in_order) f cdv A' outer s H E)).at_ i).A.units + 65 < cLine := fun _ => by
    have q := hr.un
    have : (cxOf (L2.CX P w) P w K mg base N_in_order "in_order" (defScope s_in_order) f cdv A' outer s H E).A = A'.deeper (envOfC "in_order" (defScope s_in_order) s.heap.objs.size f cdv) := rfl
    show (A'.deeper (envOfC "in_order" (defScope s_in_order) s.heap.objs.size f cdv)).units + 65 < cLine
    omega
  have tk : ∀ i, Takes ((oneF (cxOf (L2.CX P w) P w K mg base N_in_order "in_order" (defScope s_in_order) f cdv A' outer s H E)).at_ i) (fun cls d _ H => E cls d H) := fun _ => takes_of rfl rfl rfl rfl
  show DSs _ _ _ _ _ m_in_order
  exact (dss_cons (ds_for (fun _ => passes_of rfl) (fun _ => rfl) (di_enum (fun _ => rfl) (fun _ => Z.b_enumerate) (do_n 0)) (dg_tup (fun _ => rfl) (dgs_cons (dg_name 1 (fun _ => sc_in_order.nd)) (dgs_cons (dg_name 2 (fun _ => sc_in_order.nd)) dgs_nil)))
  (dss_one (ds_if (dt_w (dw_or (dt_cmp (or_inX hu) v2_in (do_n 2) (do_e (de_sl (do_n 0) dp_no (dp_so (do_n 1))))) (dw_or1 (dt_w (dw_and (dt_cmp (or_eq hu) v2_eq (do_e (de_ix (do_n 2) (do_e de_int))) (do_e de_str)) (dw_and1 (dt_cmp (or_inX hu) v2_in (do_e (de_tup (da_cons (do_e de_str) (da_cons (do_e (de_ix (do_n 2) (do_e de_int))) da_nil)))) (do_e (de_sl (do_n 0) dp_no (dp_so (do_n 1)))))))))))
  (dss_one (ds_ret de_bl))
  dss_nil))) (dss_one (ds_ret de_bl))))
theorem ok_is_slot {f : Addr} {fd : FuncData} (A : DefAt K mg "is_slot" s_is_slot ["thing", "many"] f fd) (Z : Z0 mg) (XX : XF K mg) (C_is_from : FnAt P w K mg base T "is_from" 3 1 f_is_from) {v_WIDE : V} {u_WIDE : Value} (C_WIDE : CAt K mg "WIDE" (.int 1000000) v_WIDE u_WIDE) : FnAt P w K mg base T "is_slot" 2 2 f_is_slot :=
  A.at (fn_d (k := 1) [] A.fn sc_is_slot (by decide) fun cdv A' outer s H E hr => by
  have hu : ∀ i, ((oneF (cxOf (L2.CX P w) P w K mg base N_is_slot "is_slot" (defScope s_is_slot) f cdv A' outer s H E)).at_ i).A.units + 65 < cLine := fun _ => by
    have q := hr.un
    have : (cxOf (L2.CX P w) P w K mg base N_is_slot "is_slot" (defScope s_is_slot) f cdv A' outer s H E).A = A'.deeper (envOfC "is_slot" (defScope s_is_slot) s.heap.objs.size f cdv) := rfl
    show (A'.deeper (envOfC "is_slot" (defScope s_is_slot) s.heap.objs.size f cdv)).units + 65 < cLine
    omega
  have tk : ∀ i, Takes ((oneF (cxOf (L2.CX P w) P w K mg base N_is_slot "is_slot" (defScope s_is_slot) f cdv A' outer s H E)).at_ i) (fun cls d _ H => E cls d H) := fun _ => takes_of rfl rfl rfl rfl
  show DSs _ _ _ _ _ m_is_slot
  exact (dss_cons (ds_if (dt_w (dw_or (dt_not (dt_val (de_cb cr_isi vl_isi (fun _ => Z.b_isinstance) (by decide +kernel) (da_cons (do_n 0) (da_cons (do_e (de_bltn (fun _ => rfl) (fun _ => Z.b_tuple) (by decide +kernel) (show RelV (.ty "tuple") (.type "tuple") from rfl))) da_nil))))) (dw_or (dt_cmp (or_ne hu) v2_ne (do_e (de_cb cr_lenX vl_len (fun _ => Z.b_len) (by decide +kernel) (da_cons (do_n 0) da_nil))) (do_e de_int)) (dw_or1 (dt_not (dt_val (de_cb cr_isi vl_isi (fun _ => Z.b_isinstance) (by decide +kernel) (da_cons (do_e (de_ix (do_n 0) (do_e de_int))) (da_cons (do_e (de_bltn (fun _ => rfl) (fun _ => Z.b_str) (by decide +kernel) (show RelV (.ty "str") (.type "str") from rfl))) da_nil)))))))))
  (dss_one (ds_ret de_bl))
  dss_nil) (dss_cons (ds_if (dt_cmp (or_eq hu) v2_eq (do_e (de_ix (do_n 0) (do_e de_int))) (do_e de_str))
  (dss_one (ds_ret (de_call (callee_of C_is_from rfl (fun _ => ⟨rfl, rfl, rfl, rfl⟩) (fun _ => hr.mono (by decide)) (fun _ => rfl)) tk (da_cons (do_e (de_ix (do_n 0) (do_e de_int))) (da_cons (do_e de_int) (da_cons (do_e (de_op (fun _ => op_sub) v2_sub (do_e (de_glob (fun _ => rfl) (fun _ => C_WIDE.g) C_WIDE.rv C_WIDE.r)) (do_e de_int))) da_nil))) (lenA_cons 2 (lenA_cons 1 (lenA_cons 0 lenA_nil))))))
  dss_nil) (dss_one (ds_ret (de_and (de_cmp (or_eq hu) v2_eq (do_e (de_ix (do_n 0) (do_e de_int))) (do_e de_str)) (de_one (de_call (callee_of C_is_from rfl (fun _ => ⟨rfl, rfl, rfl, rfl⟩) (fun _ => hr.mono (by decide)) (fun _ => rfl)) tk (da_cons (do_e (de_ix (do_n 0) (do_e de_int))) (da_cons (do_e de_int) (da_cons (do_e (de_op (fun _ => op_sub) v2_sub (do_n 1) (do_e de_int))) da_nil))) (lenA_cons 2 (lenA_cons 1 (lenA_cons 0 lenA_nil)))))))))))
theorem ok_is_slot_step {f : Addr} {fd : FuncData} (A : DefAt K mg "is_slot_step" s_is_slot_step ["thing", "many"] f fd) (Z : Z0 mg) (XX : XF K mg) (C_is_slot : FnAt P w K mg base T "is_slot" 2 2 f_is_slot) {v_WORDS : V} {u_WORDS : Value} (C_WORDS : CAt K mg "WORDS" (.tup [(.str "read"), (.str "write")]) v_WORDS u_WORDS) : FnAt P w K mg base T "is_slot_step" 2 3 f_is_slot_step :=
  A.at (fn_d (k := 2) [] A.fn sc_is_slot_step (by decide) fun cdv A' outer s H E hr => by
  have hu : ∀ i, ((oneF (cxOf (L2.CX P w) P w K mg base N_is_slot_step "is_slot_step" (defScope s_is_slot_step) f cdv A' outer s H E)).at_ i).A.units + 65 < cLine := fun _ => by
    have q := hr.un
    have : (cxOf (L2.CX P w) P w K mg base N_is_slot_step "is_slot_step" (defScope s_is_slot_step) f cdv A' outer s H E).A = A'.deeper (envOfC "is_slot_step" (defScope s_is_slot_step) s.heap.objs.size f cdv) := rfl
    show (A'.deeper (envOfC "is_slot_step" (defScope s_is_slot_step) s.heap.objs.size f cdv)).units + 65 < cLine
    omega
  have tk : ∀ i, Takes ((oneF (cxOf (L2.CX P w) P w K mg base N_is_slot_step "is_slot_step" (defScope s_is_slot_step) f cdv A' outer s H E)).at_ i) (fun cls d _ H => E cls d H) := fun _ => takes_of rfl rfl rfl rfl
  show DSs _ _ _ _ _ m_is_slot_step
  exact (dss_cons (ds_if (dt_w (dw_or (dt_not (dt_val (de_cb cr_isi vl_isi (fun _ => Z.b_isinstance) (by decide +kernel) (da_cons (do_n 0) (da_cons (do_e (de_bltn (fun _ => rfl) (fun _ => Z.b_tuple) (by decide +kernel) (show RelV (.ty "tuple") (.type "tuple") from rfl))) da_nil))))) (dw_or (dt_cmp (or_ne hu) v2_ne (do_e (de_cb cr_lenX vl_len (fun _ => Z.b_len) (by decide +kernel) (da_cons (do_n 0) da_nil))) (do_e de_int)) (dw_or1 (dt_not (dt_val (de_cb cr_isi vl_isi (fun _ => Z.b_isinstance) (by decide +kernel) (da_cons (do_e (de_ix (do_n 0) (do_e de_int))) (da_cons (do_e (de_bltn (fun _ => rfl) (fun _ => Z.b_str) (by decide +kernel) (show RelV (.ty "str") (.type "str") from rfl))) da_nil)))))))))
  (dss_one (ds_ret de_bl))
  dss_nil) (dss_one (ds_ret (de_and (de_cmp (or_inX hu) v2_in (do_e (de_ix (do_n 0) (do_e de_int))) (do_e (de_glob (fun _ => rfl) (fun _ => C_WORDS.g) C_WORDS.rv C_WORDS.r))) (de_one (de_call (callee_of C_is_slot rfl (fun _ => ⟨rfl, rfl, rfl, rfl⟩) (fun _ => hr.mono (by decide)) (fun _ => rfl)) tk (da_cons (do_e (de_ix (do_n 0) (do_e de_int))) (da_cons (do_n 1) da_nil)) (lenA_cons 1 (lenA_cons 0 lenA_nil)))))))))
theorem ok_is_program {f : Addr} {fd : FuncData} (A : DefAt K mg "is_program" s_is_program ["thing"] f fd) (Z : Z0 mg) (XX : XF K mg) (C_are_tables : FnAt P w K mg base T "are_tables" 1 2 f_are_tables) (C_in_order : FnAt P w K mg base T "in_order" 1 1 f_in_order) (C_is_slot_step : FnAt P w K mg base T "is_slot_step" 2 3 f_is_slot_step) {v_MOST_STEPS : V} {u_MOST_STEPS : Value} (C_MOST_STEPS : CAt K mg "MOST_STEPS" (.int 6) v_MOST_STEPS u_MOST_STEPS) : FnAt P w K mg base T "is_program" 1 4 f_is_program :=
  A.at (fn_d (k := 3) [] A.fn sc_is_program (by decide) fun cdv A' outer s H E hr => by
  have hu : ∀ i, ((oneF (cxOf (L2.CX P w) P w K mg base N_is_program "is_program" (defScope s_is_program) f cdv A' outer s H E)).at_ i).A.units + 65 < cLine := fun _ => by
    have q := hr.un
    have : (cxOf (L2.CX P w) P w K mg base N_is_program "is_program" (defScope s_is_program) f cdv A' outer s H E).A = A'.deeper (envOfC "is_program" (defScope s_is_program) s.heap.objs.size f cdv) := rfl
    show (A'.deeper (envOfC "is_program" (defScope s_is_program) s.heap.objs.size f cdv)).units + 65 < cLine
    omega
  have tk : ∀ i, Takes ((oneF (cxOf (L2.CX P w) P w K mg base N_is_program "is_program" (defScope s_is_program) f cdv A' outer s H E)).at_ i) (fun cls d _ H => E cls d H) := fun _ => takes_of rfl rfl rfl rfl
  show DSs _ _ _ _ _ m_is_program
  exact (dss_cons (ds_if (dt_w (dw_or (dt_not (dt_val (de_cb cr_isi vl_isi (fun _ => Z.b_isinstance) (by decide +kernel) (da_cons (do_n 0) (da_cons (do_e (de_bltn (fun _ => rfl) (fun _ => Z.b_tuple) (by decide +kernel) (show RelV (.ty "tuple") (.type "tuple") from rfl))) da_nil))))) (dw_or (dt_cmp (or_ne hu) v2_ne (do_e (de_cb cr_lenX vl_len (fun _ => Z.b_len) (by decide +kernel) (da_cons (do_n 0) da_nil))) (do_e de_int)) (dw_or1 (dt_not (dt_val (de_call (callee_of C_are_tables rfl (fun _ => ⟨rfl, rfl, rfl, rfl⟩) (fun _ => hr.mono (by decide)) (fun _ => rfl)) tk (da_cons (do_e (de_ix (do_n 0) (do_e de_int))) da_nil) (lenA_cons 0 lenA_nil))))))))
  (dss_one (ds_ret de_bl))
  dss_nil) (dss_cons (ds_unp (dg_tup (fun _ => rfl) (dgs_cons (dg_name 1 (fun _ => sc_is_program.nd)) (dgs_cons (dg_name 2 (fun _ => sc_is_program.nd)) dgs_nil))) (de_n 0)) (dss_cons (ds_if (dt_w (dw_or (dt_not (dt_val (de_cb cr_isi vl_isi (fun _ => Z.b_isinstance) (by decide +kernel) (da_cons (do_n 2) (da_cons (do_e (de_bltn (fun _ => rfl) (fun _ => Z.b_tuple) (by decide +kernel) (show RelV (.ty "tuple") (.type "tuple") from rfl))) da_nil))))) (dw_or1 (dt_not (dt_chain (fun _ => op_le) (v2_cmp _) (fun _ => op_le) (v2_cmp _) (do_e de_int) (do_e (de_cb cr_lenX vl_len (fun _ => Z.b_len) (by decide +kernel) (da_cons (do_n 2) da_nil))) (do_e (de_glob (fun _ => rfl) (fun _ => C_MOST_STEPS.g) C_MOST_STEPS.rv C_MOST_STEPS.r)))))))
  (dss_one (ds_ret de_bl))
  dss_nil) (dss_cons (ds_if (dt_w (dw_or (dt_not (dt_val (de_cb (cr_allX fun _ => rfl) vl_all (fun _ => Z.b_all) (by decide +kernel) (da_cons (do_e (de_lc [("step", 3)] (fun _ => rfl) (fun _ => sc_is_program.nd) (di_seq (do_n 2)) (fun _ => blkOk_by (N := N_is_program) (sc := (defScope s_is_program)) (by decide +kernel)) (dg_name 3 (fun _ => sc_is_program.nd)) dts_nil (de_call (callee_of C_is_slot_step rfl (fun _ => ⟨rfl, rfl, rfl, rfl⟩) (fun _ => hr.mono (by decide)) (fun _ => rfl)) (fun _ => L2.takes0) (da_cons (do_n 3) (da_cons (do_e (de_cb cr_lenX vl_len (fun _ => Z.b_len) (by decide +kernel) (da_cons (do_n 1) da_nil))) da_nil)) (lenA_cons 1 (lenA_cons 0 lenA_nil))))) da_nil)))) (dw_or1 (dt_not (dt_val (de_call (callee_of C_in_order rfl (fun _ => ⟨rfl, rfl, rfl, rfl⟩) (fun _ => hr.mono (by decide)) (fun _ => rfl)) tk (da_cons (do_n 2) da_nil) (lenA_cons 0 lenA_nil)))))))
  (dss_one (ds_ret de_bl))
  dss_nil) (dss_cons (ds_set 4 (fun _ => sc_is_program.nd) (by decide) (de_d (de_lc [("word", 5), ("slot", 6)] (fun _ => rfl) (fun _ => sc_is_program.nd) (di_seq (do_n 2)) (fun _ => blkOk_by (N := N_is_program) (sc := (defScope s_is_program)) (by decide +kernel)) (dg_tup (fun _ => rfl) (dgs_cons (dg_name 5 (fun _ => sc_is_program.nd)) (dgs_cons (dg_name 6 (fun _ => sc_is_program.nd)) dgs_nil))) dts_nil (de_n 6)))) (dss_one (ds_ret (de_cb (cr_allX fun _ => rfl) vl_all (fun _ => Z.b_all) (by decide +kernel) (da_cons (do_e (de_lc [("place", 7)] (fun _ => rfl) (fun _ => sc_is_program.nd) (di_range1 (fun _ => rfl) (fun _ => Z.b_range) (da_cons (do_e (de_cb cr_lenX vl_len (fun _ => Z.b_len) (by decide +kernel) (da_cons (do_n 1) da_nil))) da_nil)) (fun _ => blkOk_by (N := N_is_program) (sc := (defScope s_is_program)) (by decide +kernel)) (dg_name 7 (fun _ => sc_is_program.nd)) dts_nil (de_cmp (or_inX (blk_hu hu)) v2_in (do_e (de_tup (da_cons (do_e de_str) (da_cons (do_n 7) da_nil)))) (do_n 4)))) da_nil))))))))))
theorem ok_are_programs {f : Addr} {fd : FuncData} (A : DefAt K mg "are_programs" s_are_programs ["thing"] f fd) (Z : Z0 mg) (XX : XF K mg) (C_is_program : FnAt P w K mg base T "is_program" 1 4 f_is_program) {v_MOST_PROGRAMS : V} {u_MOST_PROGRAMS : Value} (C_MOST_PROGRAMS : CAt K mg "MOST_PROGRAMS" (.int 4) v_MOST_PROGRAMS u_MOST_PROGRAMS) : FnAt P w K mg base T "are_programs" 1 5 f_are_programs :=
  A.at (fn_d (k := 4) [] A.fn sc_are_programs (by decide) fun cdv A' outer s H E hr => by
  have hu : ∀ i, ((oneF (cxOf (L2.CX P w) P w K mg base N_are_programs "are_programs" (defScope s_are_programs) f cdv A' outer s H E)).at_ i).A.units + 65 < cLine := fun _ => by
    have q := hr.un
    have : (cxOf (L2.CX P w) P w K mg base N_are_programs "are_programs" (defScope s_are_programs) f cdv A' outer s H E).A = A'.deeper (envOfC "are_programs" (defScope s_are_programs) s.heap.objs.size f cdv) := rfl
    show (A'.deeper (envOfC "are_programs" (defScope s_are_programs) s.heap.objs.size f cdv)).units + 65 < cLine
    omega
  have tk : ∀ i, Takes ((oneF (cxOf (L2.CX P w) P w K mg base N_are_programs "are_programs" (defScope s_are_programs) f cdv A' outer s H E)).at_ i) (fun cls d _ H => E cls d H) := fun _ => takes_of rfl rfl rfl rfl
  show DSs _ _ _ _ _ m_are_programs
  exact (dss_cons (ds_if (dt_w (dw_or (dt_not (dt_val (de_cb cr_isi vl_isi (fun _ => Z.b_isinstance) (by decide +kernel) (da_cons (do_n 0) (da_cons (do_e (de_bltn (fun _ => rfl) (fun _ => Z.b_list) (by decide +kernel) (show RelV (.ty "list") (.type "list") from rfl))) da_nil))))) (dw_or1 (dt_not (dt_chain (fun _ => op_le) (v2_cmp _) (fun _ => op_le) (v2_cmp _) (do_e de_int) (do_e (de_cb cr_lenX vl_len (fun _ => Z.b_len) (by decide +kernel) (da_cons (do_n 0) da_nil))) (do_e (de_glob (fun _ => rfl) (fun _ => C_MOST_PROGRAMS.g) C_MOST_PROGRAMS.rv C_MOST_PROGRAMS.r)))))))
  (dss_one (ds_ret de_bl))
  dss_nil) (dss_one (ds_ret (de_cb (cr_allX fun _ => rfl) vl_all (fun _ => Z.b_all) (by decide +kernel) (da_cons (do_e (de_lc [("program", 1)] (fun _ => rfl) (fun _ => sc_are_programs.nd) (di_seq (do_n 0)) (fun _ => blkOk_by (N := N_are_programs) (sc := (defScope s_are_programs)) (by decide +kernel)) (dg_name 1 (fun _ => sc_are_programs.nd)) dts_nil (de_call (callee_of C_is_program rfl (fun _ => ⟨rfl, rfl, rfl, rfl⟩) (fun _ => hr.mono (by decide)) (fun _ => rfl)) (fun _ => L2.takes0) (da_cons (do_n 1) da_nil) (lenA_cons 0 lenA_nil)))) da_nil))))))
theorem ok_law_put {f : Addr} {fd : FuncData} (A : DefAt K mg "_law_put" s_law_put ["_law_row", "_law_k", "_law_thing"] f fd) (Z : Z0 mg) (XX : XF K mg)  : FnAt P w K mg base T "_law_put" 3 1 f_law_put :=
  A.at (fn_d (k := 0) [] A.fn sc_law_put (by decide) fun cdv A' outer s H E hr => by
  have hu : ∀ i, ((oneF (cxOf (L2.CX P w) P w K mg base N_law_put "_law_put" (defScope s_law_put) f cdv A' outer s H E)).at_ i).A.units + 65 < cLine := fun _ => by
    have q := hr.un
    have : (cxOf (L2.CX P w) P w K mg base N_law_put "_law_put" (defScope s_law_put) f cdv A' outer s H E).A = A'.deeper (envOfC "_law_put" (defScope s_law_put) s.heap.objs.size f cdv) := rfl
    show (A'.deeper (envOfC "_law_put" (defScope s_law_put) s.heap.objs.size f cdv)).units + 65 < cLine
    omega
  have tk : ∀ i, Takes ((oneF (cxOf (L2.CX P w) P w K mg base N_law_put "_law_put" (defScope s_law_put) f cdv A' outer s H E)).at_ i) (fun cls d _ H => E cls d H) := fun _ => takes_of rfl rfl rfl rfl
  show DSs _ _ _ _ _ m_law_put
  exact (dss_one (ds_ret (de_op or_addX v2_add (do_e (de_op or_addX v2_add (do_e (de_sl (do_n 0) dp_no (dp_so (do_n 1)))) (do_e (de_tup (da_cons (do_n 2) da_nil))))) (do_e (de_sl (do_n 0) (dp_so (do_e (de_op or_addX v2_add (do_n 1) (do_e de_int)))) dp_no))))))
theorem ok_law_odd {f : Addr} {fd : FuncData} (A : DefAt K mg "_law_odd" s_law_odd ["_law_state", "_law_thing"] f fd) (Z : Z0 mg) (XX : XF K mg) (C__law_of : FnAt P w K mg base T "_law_of" 2 2 f_law_of) : FnAt P w K mg base T "_law_odd" 2 3 f_law_odd :=
  A.at (fn_d (k := 2) [0] A.fn sc_law_odd (by decide) fun cdv A' outer s H E hr => by
  have hu : ∀ i, ((oneF (cxOf (L2.CX P w) P w K mg base N_law_odd "_law_odd" (defScope s_law_odd) f cdv A' outer s H E)).at_ i).A.units + 65 < cLine := fun _ => by
    have q := hr.un
    have : (cxOf (L2.CX P w) P w K mg base N_law_odd "_law_odd" (defScope s_law_odd) f cdv A' outer s H E).A = A'.deeper (envOfC "_law_odd" (defScope s_law_odd) s.heap.objs.size f cdv) := rfl
    show (A'.deeper (envOfC "_law_odd" (defScope s_law_odd) s.heap.objs.size f cdv)).units + 65 < cLine
    omega
  have tk : ∀ i, Takes ((oneF (cxOf (L2.CX P w) P w K mg base N_law_odd "_law_odd" (defScope s_law_odd) f cdv A' outer s H E)).at_ i) (fun cls d _ H => E cls d H) := fun _ => takes_of rfl rfl rfl rfl
  show DSs _ _ _ _ _ m_law_odd
  exact (dss_cons (ds_set 2 (fun _ => sc_law_odd.nd) (by decide) (de_d (de_lst (da_cons (do_e de_non) (da_cons (do_e de_bl) (da_cons (do_e de_bl) (da_cons (do_e (de_neg (do_e de_int))) (da_cons (do_e de_int) (da_cons (do_e de_int) (da_cons (do_e de_int) (da_cons (do_e de_int) (da_cons (do_e de_int) (da_cons (do_e de_int) (da_cons (do_e de_int) (da_cons (do_e de_int) (da_cons (do_e de_str) (da_cons (do_e de_str) (da_cons (do_e de_str) (da_cons (do_e de_str) (da_cons (do_e de_str) (da_cons (do_e (de_tup da_nil)) (da_cons (do_e (de_lst da_nil)) da_nil)))))))))))))))))))))) (dss_cons (ds_set 2 (fun _ => sc_law_odd.nd) (by decide) (de_d (de_op or_addX v2_add (do_n 2) (do_e (de_lst (da_cons (do_e (de_tup (da_cons (do_n 1) da_nil))) (da_cons (do_e (de_lst (da_cons (do_n 1) da_nil))) (da_cons (do_e de_dnew) (da_cons (do_e (de_op (fun _ => op_pow) v2_pow (do_e de_int) (do_e de_int))) (da_cons (do_e (de_tup (da_cons (do_e de_str) (da_cons (do_e de_int) da_nil)))) (da_cons (do_e (de_tup (da_cons (do_e de_str) (da_cons (do_e de_int) da_nil)))) (da_cons (do_e (de_tup (da_cons (do_e de_str) (da_cons (do_e (de_tup (da_cons (do_e de_str) (da_cons (do_e de_int) da_nil)))) da_nil)))) (da_cons (do_e (de_tup (da_cons (do_e de_str) (da_cons (do_e de_int) da_nil)))) da_nil))))))))))))) (dss_one (ds_ret (de_call (callee_of C__law_of rfl (fun _ => ⟨rfl, rfl, rfl, rfl⟩) (fun _ => hr.mono (by decide)) (fun _ => rfl)) tk (da_cons (do_n 0) (da_cons (do_n 2) da_nil)) (lenA_cons 1 (lenA_cons 0 lenA_nil))))))))
theorem ok_law_spoilt_step {f : Addr} {fd : FuncData} (A : DefAt K mg "_law_spoilt_step" s_law_spoilt_step ["_law_state", "_law_step"] f fd) (Z : Z0 mg) (XX : XF K mg) (C__law_digit : FnAt P w K mg base T "_law_digit" 2 1 f_law_digit) (C__law_odd : FnAt P w K mg base T "_law_odd" 2 3 f_law_odd) (C__law_of : FnAt P w K mg base T "_law_of" 2 2 f_law_of) : FnAt P w K mg base T "_law_spoilt_step" 2 4 f_law_spoilt_step :=
  A.at (fn_d (k := 3) [0] A.fn sc_law_spoilt_step (by decide) fun cdv A' outer s H E hr => by
  have hu : ∀ i, ((oneF (cxOf (L2.CX P w) P w K mg base N_law_spoilt_step "_law_spoilt_step" (defScope s_law_spoilt_step) f cdv A' outer s H E)).at_ i).A.units + 65 < cLine := fun _ => by
    have q := hr.un
    have : (cxOf (L2.CX P w) P w K mg base N_law_spoilt_step "_law_spoilt_step" (defScope s_law_spoilt_step) f cdv A' outer s H E).A = A'.deeper (envOfC "_law_spoilt_step" (defScope s_law_spoilt_step) s.heap.objs.size f cdv) := rfl
    show (A'.deeper (envOfC "_law_spoilt_step" (defScope s_law_spoilt_step) s.heap.objs.size f cdv)).units + 65 < cLine
    omega
  have tk : ∀ i, Takes ((oneF (cxOf (L2.CX P w) P w K mg base N_law_spoilt_step "_law_spoilt_step" (defScope s_law_spoilt_step) f cdv A' outer s H E)).at_ i) (fun cls d _ H => E cls d H) := fun _ => takes_of rfl rfl rfl rfl
  show DSs _ _ _ _ _ m_law_spoilt_step
  exact (dss_cons (ds_unp (dg_tup (fun _ => rfl) (dgs_cons (dg_name 2 (fun _ => sc_law_spoilt_step.nd)) (dgs_cons (dg_name 3 (fun _ => sc_law_spoilt_step.nd)) dgs_nil))) (de_n 1)) (dss_cons (ds_set 4 (fun _ => sc_law_spoilt_step.nd) (by decide) (de_d (de_call (callee_of C__law_digit rfl (fun _ => ⟨rfl, rfl, rfl, rfl⟩) (fun _ => hr.mono (by decide)) (fun _ => rfl)) tk (da_cons (do_n 0) (da_cons (do_e de_int) da_nil)) (lenA_cons 1 (lenA_cons 0 lenA_nil))))) (dss_cons (ds_if (dt_cmp (or_eq hu) v2_eq (do_n 4) (do_e de_int))
  (dss_one (ds_ret (de_tup (da_cons (do_e (de_call (callee_of C__law_odd rfl (fun _ => ⟨rfl, rfl, rfl, rfl⟩) (fun _ => hr.mono (by decide)) (fun _ => rfl)) tk (da_cons (do_n 0) (da_cons (do_n 2) da_nil)) (lenA_cons 1 (lenA_cons 0 lenA_nil)))) (da_cons (do_n 3) da_nil)))))
  dss_nil) (dss_cons (ds_if (dt_cmp (or_eq hu) v2_eq (do_n 4) (do_e de_int))
  (dss_one (ds_ret (de_tup (da_cons (do_n 2) (da_cons (do_e (de_tup (da_cons (do_e (de_call (callee_of C__law_odd rfl (fun _ => ⟨rfl, rfl, rfl, rfl⟩) (fun _ => hr.mono (by decide)) (fun _ => rfl)) tk (da_cons (do_n 0) (da_cons (do_e (de_ix (do_n 3) (do_e de_int))) da_nil)) (lenA_cons 1 (lenA_cons 0 lenA_nil)))) (da_cons (do_e (de_ix (do_n 3) (do_e de_int))) da_nil)))) da_nil)))))
  dss_nil) (dss_cons (ds_if (dt_cmp (or_eq hu) v2_eq (do_n 4) (do_e de_int))
  (dss_one (ds_ret (de_tup (da_cons (do_n 2) (da_cons (do_e (de_tup (da_cons (do_e (de_ix (do_n 3) (do_e de_int))) (da_cons (do_e (de_call (callee_of C__law_odd rfl (fun _ => ⟨rfl, rfl, rfl, rfl⟩) (fun _ => hr.mono (by decide)) (fun _ => rfl)) tk (da_cons (do_n 0) (da_cons (do_e (de_ix (do_n 3) (do_e de_int))) da_nil)) (lenA_cons 1 (lenA_cons 0 lenA_nil)))) da_nil)))) da_nil)))))
  dss_nil) (dss_cons (ds_if (dt_cmp (or_eq hu) v2_eq (do_n 4) (do_e de_int))
  (dss_one (ds_ret (de_call (callee_of C__law_of rfl (fun _ => ⟨rfl, rfl, rfl, rfl⟩) (fun _ => hr.mono (by decide)) (fun _ => rfl)) tk (da_cons (do_n 0) (da_cons (do_e (de_lst (da_cons (do_e (de_tup (da_cons (do_n 2) (da_cons (do_e (de_ct cr_list vl_list (fun _ => Z.b_list) (by decide +kernel) (da_cons (do_n 3) da_nil))) da_nil)))) (da_cons (do_e (de_ct cr_list vl_list (fun _ => Z.b_list) (by decide +kernel) (da_cons (do_n 1) da_nil))) (da_cons (do_e (de_tup (da_cons (do_n 3) (da_cons (do_n 2) da_nil)))) (da_cons (do_e (de_tup (da_cons (do_n 2) da_nil))) (da_cons (do_e (de_op or_addX v2_add (do_n 1) (do_e (de_tup (da_cons (do_e de_int) da_nil))))) (da_cons (do_e (de_tup (da_cons (do_n 2) (da_cons (do_e (de_op or_addX v2_add (do_n 3) (do_e (de_tup (da_cons (do_e de_int) da_nil))))) da_nil)))) da_nil)))))))) da_nil)) (lenA_cons 1 (lenA_cons 0 lenA_nil)))))
  dss_nil) (dss_cons (ds_if (dt_cmp (or_eq hu) v2_eq (do_n 4) (do_e de_int))
  (dss_one (ds_ret (de_tup (da_cons (do_e (de_ix (do_e (de_lst (da_cons (do_e de_str) (da_cons (do_e de_str) da_nil)))) (do_e (de_ct cr_int vl_int (fun _ => Z.b_int) (by decide +kernel) (da_cons (do_e (de_cmp (or_eq hu) v2_eq (do_n 2) (do_e de_str))) da_nil))))) (da_cons (do_n 3) da_nil)))))
  dss_nil) (dss_one (ds_ret (de_call (callee_of C__law_odd rfl (fun _ => ⟨rfl, rfl, rfl, rfl⟩) (fun _ => hr.mono (by decide)) (fun _ => rfl)) tk (da_cons (do_n 0) (da_cons (do_n 1) da_nil)) (lenA_cons 1 (lenA_cons 0 lenA_nil)))))))))))))
theorem ok_law_spoilt {f : Addr} {fd : FuncData} (A : DefAt K mg "_law_spoilt" s_law_spoilt ["_law_state", "_law_thing"] f fd) (Z : Z0 mg) (XX : XF K mg) (C__law_digit : FnAt P w K mg base T "_law_digit" 2 1 f_law_digit) (C__law_odd : FnAt P w K mg base T "_law_odd" 2 3 f_law_odd) (C__law_of : FnAt P w K mg base T "_law_of" 2 2 f_law_of) (C__law_put : FnAt P w K mg base T "_law_put" 3 1 f_law_put) (C__law_spoilt_step : FnAt P w K mg base T "_law_spoilt_step" 2 4 f_law_spoilt_step) : FnAt P w K mg base T "_law_spoilt" 2 5 f_law_spoilt :=
  A.at (fn_d (k := 4) [0] A.fn sc_law_spoilt (by decide) fun cdv A' outer s H E hr => by
  have hu : ∀ i, ((oneF (cxOf (L2.CX P w) P w K mg base N_law_spoilt "_law_spoilt" (defScope s_law_spoilt) f cdv A' outer s H E)).at_ i).A.units + 65 < cLine := fun _ => by
    have q := hr.un
    have : (cxOf (L2.CX P w) P w K mg base N_law_spoilt "_law_spoilt" (defScope s_law_spoilt) f cdv A' outer s H E).A = A'.deeper (envOfC "_law_spoilt" (defScope s_law_spoilt) s.heap.objs.size f cdv) := rfl
    show (A'.deeper (envOfC "_law_spoilt" (defScope s_law_spoilt) s.heap.objs.size f cdv)).units + 65 < cLine
    omega
  have tk : ∀ i, Takes ((oneF (cxOf (L2.CX P w) P w K mg base N_law_spoilt "_law_spoilt" (defScope s_law_spoilt) f cdv A' outer s H E)).at_ i) (fun cls d _ H => E cls d H) := fun _ => takes_of rfl rfl rfl rfl
  show DSs _ _ _ _ _ m_law_spoilt
  exact (dss_cons (ds_unp (dg_tup (fun _ => rfl) (dgs_cons (dg_name 2 (fun _ => sc_law_spoilt.nd)) (dgs_cons (dg_name 3 (fun _ => sc_law_spoilt.nd)) dgs_nil))) (de_n 1)) (dss_cons (ds_set 4 (fun _ => sc_law_spoilt.nd) (by decide) (de_d (de_call (callee_of C__law_digit rfl (fun _ => ⟨rfl, rfl, rfl, rfl⟩) (fun _ => hr.mono (by decide)) (fun _ => rfl)) tk (da_cons (do_n 0) (da_cons (do_e de_int) da_nil)) (lenA_cons 1 (lenA_cons 0 lenA_nil))))) (dss_cons (ds_set 5 (fun _ => sc_law_spoilt.nd) (by decide) (de_d (de_call (callee_of C__law_digit rfl (fun _ => ⟨rfl, rfl, rfl, rfl⟩) (fun _ => hr.mono (by decide)) (fun _ => rfl)) tk (da_cons (do_n 0) (da_cons (do_e (de_cb cr_lenX vl_len (fun _ => Z.b_len) (by decide +kernel) (da_cons (do_n 3) da_nil))) da_nil)) (lenA_cons 1 (lenA_cons 0 lenA_nil))))) (dss_cons (ds_set 6 (fun _ => sc_law_spoilt.nd) (by decide) (de_d (de_call (callee_of C__law_digit rfl (fun _ => ⟨rfl, rfl, rfl, rfl⟩) (fun _ => hr.mono (by decide)) (fun _ => rfl)) tk (da_cons (do_n 0) (da_cons (do_e (de_op or_addX v2_add (do_e (de_cb cr_lenX vl_len (fun _ => Z.b_len) (by decide +kernel) (da_cons (do_n 2) da_nil))) (do_e de_int))) da_nil)) (lenA_cons 1 (lenA_cons 0 lenA_nil))))) (dss_cons (ds_if (dt_cmp (or_eq hu) v2_eq (do_n 4) (do_e de_int))
  (dss_one (ds_ret (de_tup (da_cons (do_e (de_op or_addX v2_add (do_e (de_op or_addX v2_add (do_e (de_sl (do_n 2) dp_no (dp_so (do_n 6)))) (do_e (de_tup (da_cons (do_e (de_call (callee_of C__law_odd rfl (fun _ => ⟨rfl, rfl, rfl, rfl⟩) (fun _ => hr.mono (by decide)) (fun _ => rfl)) tk (da_cons (do_n 0) (da_cons (do_e de_int) da_nil)) (lenA_cons 1 (lenA_cons 0 lenA_nil)))) da_nil))))) (do_e (de_sl (do_n 2) (dp_so (do_n 6)) dp_no)))) (da_cons (do_n 3) da_nil)))))
  dss_nil) (dss_cons (ds_if (dt_cmp (or_eq hu) v2_eq (do_n 4) (do_e de_int))
  (dss_one (ds_ret (de_tup (da_cons (do_e (de_call (callee_of C__law_put rfl (fun _ => ⟨rfl, rfl, rfl, rfl⟩) (fun _ => hr.mono (by decide)) (fun _ => rfl)) tk (da_cons (do_n 2) (da_cons (do_n 6) (da_cons (do_e (de_call (callee_of C__law_odd rfl (fun _ => ⟨rfl, rfl, rfl, rfl⟩) (fun _ => hr.mono (by decide)) (fun _ => rfl)) tk (da_cons (do_n 0) (da_cons (do_e de_int) da_nil)) (lenA_cons 1 (lenA_cons 0 lenA_nil)))) da_nil))) (lenA_cons 2 (lenA_cons 1 (lenA_cons 0 lenA_nil))))) (da_cons (do_n 3) da_nil)))))
  dss_nil) (dss_cons (ds_if (dt_cmp (fun _ => op_lt) (v2_cmp _) (do_n 4) (do_e de_int))
  (dss_one (ds_ret (de_tup (da_cons (do_n 2) (da_cons (do_e (de_call (callee_of C__law_put rfl (fun _ => ⟨rfl, rfl, rfl, rfl⟩) (fun _ => hr.mono (by decide)) (fun _ => rfl)) tk (da_cons (do_n 3) (da_cons (do_n 5) (da_cons (do_e (de_call (callee_of C__law_spoilt_step rfl (fun _ => ⟨rfl, rfl, rfl, rfl⟩) (fun _ => hr.mono (by decide)) (fun _ => rfl)) tk (da_cons (do_n 0) (da_cons (do_e (de_ix (do_n 3) (do_n 5))) da_nil)) (lenA_cons 1 (lenA_cons 0 lenA_nil)))) da_nil))) (lenA_cons 2 (lenA_cons 1 (lenA_cons 0 lenA_nil))))) da_nil)))))
  dss_nil) (dss_cons (ds_if (dt_cmp (or_eq hu) v2_eq (do_n 4) (do_e de_int))
  (dss_one (ds_ret (de_tup (da_cons (do_n 2) (da_cons (do_e (de_op or_addX v2_add (do_e (de_sl (do_n 3) dp_no (dp_so (do_n 5)))) (do_e (de_sl (do_n 3) (dp_so (do_e (de_op or_addX v2_add (do_n 5) (do_e de_int)))) dp_no)))) da_nil)))))
  dss_nil) (dss_cons (ds_if (dt_cmp (or_eq hu) v2_eq (do_n 4) (do_e de_int))
  (dss_one (ds_ret (de_tup (da_cons (do_n 2) (da_cons (do_e (de_op or_addX v2_add (do_e (de_op or_addX v2_add (do_e (de_sl (do_n 3) dp_no (dp_so (do_n 5)))) (do_e (de_tup (da_cons (do_e (de_tup (da_cons (do_e de_str) (da_cons (do_e (de_tup (da_cons (do_e de_str) (da_cons (do_e (de_call (callee_of C__law_digit rfl (fun _ => ⟨rfl, rfl, rfl, rfl⟩) (fun _ => hr.mono (by decide)) (fun _ => rfl)) tk (da_cons (do_n 0) (da_cons (do_e (de_op (fun _ => op_pow) v2_pow (do_e de_int) (do_e de_int))) da_nil)) (lenA_cons 1 (lenA_cons 0 lenA_nil)))) da_nil)))) da_nil)))) da_nil))))) (do_e (de_sl (do_n 3) (dp_so (do_n 5)) dp_no)))) da_nil)))))
  dss_nil) (dss_cons (ds_if (dt_cmp (or_eq hu) v2_eq (do_n 4) (do_e de_int))
  (dss_one (ds_ret (de_tup (da_cons (do_n 2) (da_cons (do_e (de_rev (do_n 3))) da_nil)))))
  dss_nil) (dss_cons (ds_if (dt_cmp (or_eq hu) v2_eq (do_n 4) (do_e de_int))
  (dss_one (ds_ret (de_tup (da_cons (do_n 2) (da_cons (do_e (de_op or_addX v2_add (do_n 3) (do_e (de_sl (do_n 3) (dp_so (do_n 5)) (dp_so (do_e (de_op or_addX v2_add (do_n 5) (do_e de_int)))))))) da_nil)))))
  dss_nil) (dss_cons (ds_set 7 (fun _ => sc_law_spoilt.nd) (by decide) (de_d (de_lst (da_cons (do_e (de_ct cr_list vl_list (fun _ => Z.b_list) (by decide +kernel) (da_cons (do_n 1) da_nil))) (da_cons (do_e (de_op or_addX v2_add (do_n 1) (do_e (de_tup (da_cons (do_e de_int) da_nil))))) (da_cons (do_e (de_sl (do_n 1) dp_no (dp_so (do_e de_int)))) (da_cons (do_e (de_tup (da_cons (do_e (de_ct cr_list vl_list (fun _ => Z.b_list) (by decide +kernel) (da_cons (do_n 2) da_nil))) (da_cons (do_n 3) da_nil)))) (da_cons (do_e (de_tup (da_cons (do_n 2) (da_cons (do_e (de_ct cr_list vl_list (fun _ => Z.b_list) (by decide +kernel) (da_cons (do_n 3) da_nil))) da_nil)))) (da_cons (do_n 3) (da_cons (do_e de_non) (da_cons (do_e (de_tup da_nil)) da_nil))))))))))) (dss_one (ds_ret (de_call (callee_of C__law_of rfl (fun _ => ⟨rfl, rfl, rfl, rfl⟩) (fun _ => hr.mono (by decide)) (fun _ => rfl)) tk (da_cons (do_n 0) (da_cons (do_e (de_op or_addX v2_add (do_n 7) (do_e (de_lst (da_cons (do_e (de_tup (da_cons (do_n 3) (da_cons (do_n 2) da_nil)))) (da_cons (do_e (de_tup (da_cons (do_n 2) (da_cons (do_e (de_tup da_nil)) da_nil)))) (da_cons (do_e (de_tup (da_cons (do_n 2) (da_cons (do_e de_non) da_nil)))) (da_cons (do_e (de_tup (da_cons (do_e de_non) (da_cons (do_n 3) da_nil)))) (da_cons (do_e de_str) da_nil))))))))) da_nil)) (lenA_cons 1 (lenA_cons 0 lenA_nil))))))))))))))))))
theorem ok_law_truth {f : Addr} {fd : FuncData} (A : DefAt K mg "_law_truth" s_law_truth ["_law_found", "_law_due"] f fd) (Z : Z0 mg) (XX : XF K mg)  : FnAt P w K mg base T "_law_truth" 2 1 f_law_truth :=
  A.at (fn_d (k := 0) [] A.fn sc_law_truth (by decide) fun cdv A' outer s H E hr => by
  have hu : ∀ i, ((oneF (cxOf (L2.CX P w) P w K mg base N_law_truth "_law_truth" (defScope s_law_truth) f cdv A' outer s H E)).at_ i).A.units + 65 < cLine := fun _ => by
    have q := hr.un
    have : (cxOf (L2.CX P w) P w K mg base N_law_truth "_law_truth" (defScope s_law_truth) f cdv A' outer s H E).A = A'.deeper (envOfC "_law_truth" (defScope s_law_truth) s.heap.objs.size f cdv) := rfl
    show (A'.deeper (envOfC "_law_truth" (defScope s_law_truth) s.heap.objs.size f cdv)).units + 65 < cLine
    omega
  have tk : ∀ i, Takes ((oneF (cxOf (L2.CX P w) P w K mg base N_law_truth "_law_truth" (defScope s_law_truth) f cdv A' outer s H E)).at_ i) (fun cls d _ H => E cls d H) := fun _ => takes_of rfl rfl rfl rfl
  show DSs _ _ _ _ _ m_law_truth
  exact (dss_one (ds_ret (de_and (de_cb cr_isi vl_isi (fun _ => Z.b_isinstance) (by decide +kernel) (da_cons (do_n 0) (da_cons (do_e (de_bltn (fun _ => rfl) (fun _ => Z.b_bool) (by decide +kernel) (show RelV (.ty "bool") (.type "bool") from rfl))) da_nil))) (de_one (de_cmp (or_eq hu) v2_eq (do_n 0) (do_n 1)))))))
theorem ok_law_are_right {f : Addr} {fd : FuncData} (A : DefAt K mg "_law_are_right" s_law_are_right ["_law_thing"] f fd) (Z : Z0 mg) (XX : XF K mg) (C__law_is_right : FnAt P w K mg base T "_law_is_right" 1 3 f_law_is_right) : FnAt P w K mg base T "_law_are_right" 1 4 f_law_are_right :=
  A.at (fn_d (k := 3) [] A.fn sc_law_are_right (by decide) fun cdv A' outer s H E hr => by
  have hu : ∀ i, ((oneF (cxOf (L2.CX P w) P w K mg base N_law_are_right "_law_are_right" (defScope s_law_are_right) f cdv A' outer s H E)).at_ i).A.units + 65 < cLine := fun _ => by
    have q := hr.un
    have : (cxOf (L2.CX P w) P w K mg base N_law_are_right "_law_are_right" (defScope s_law_are_right) f cdv A' outer s H E).A = A'.deeper (envOfC "_law_are_right" (defScope s_law_are_right) s.heap.objs.size f cdv) := rfl
    show (A'.deeper (envOfC "_law_are_right" (defScope s_law_are_right) s.heap.objs.size f cdv)).units + 65 < cLine
    omega
  have tk : ∀ i, Takes ((oneF (cxOf (L2.CX P w) P w K mg base N_law_are_right "_law_are_right" (defScope s_law_are_right) f cdv A' outer s H E)).at_ i) (fun cls d _ H => E cls d H) := fun _ => takes_of rfl rfl rfl rfl
  show DSs _ _ _ _ _ m_law_are_right
  exact (dss_cons (ds_if (dt_w (dw_or (dt_not (dt_val (de_cb cr_isi vl_isi (fun _ => Z.b_isinstance) (by decide +kernel) (da_cons (do_n 0) (da_cons (do_e (de_bltn (fun _ => rfl) (fun _ => Z.b_list) (by decide +kernel) (show RelV (.ty "list") (.type "list") from rfl))) da_nil))))) (dw_or1 (dt_not (dt_chain (fun _ => op_le) (v2_cmp _) (fun _ => op_le) (v2_cmp _) (do_e de_int) (do_e (de_cb cr_lenX vl_len (fun _ => Z.b_len) (by decide +kernel) (da_cons (do_n 0) da_nil))) (do_e de_int))))))
  (dss_one (ds_ret de_bl))
  dss_nil) (dss_one (ds_ret (de_cmp (or_eq hu) v2_eq (do_e (de_lc [("_law_one", 1)] (fun _ => rfl) (fun _ => sc_law_are_right.nd) (di_seq (do_n 0)) (fun _ => blkOk_by (N := N_law_are_right) (sc := (defScope s_law_are_right)) (by decide +kernel)) (dg_name 1 (fun _ => sc_law_are_right.nd)) (dts_one (dt_not (dt_val (de_call (callee_of C__law_is_right rfl (fun _ => ⟨rfl, rfl, rfl, rfl⟩) (fun _ => hr.mono (by decide)) (fun _ => rfl)) (fun _ => L2.takes0) (da_cons (do_n 1) da_nil) (lenA_cons 0 lenA_nil))))) (de_n 1))) (do_e (de_lst da_nil)))))))
theorem ok_law {f : Addr} {fd : FuncData} (A : DefAt K mg "law" s_law ["_law_script"] f fd) (Z : Z0 mg) (XX : XF K mg) (C__law_are_right : FnAt P w K mg base T "_law_are_right" 1 4 f_law_are_right) (C__law_cell_at : FnAt P w K mg base T "_law_cell_at" 2 1 f_law_cell_at) (C__law_digit : FnAt P w K mg base T "_law_digit" 2 1 f_law_digit) (C__law_is_right : FnAt P w K mg base T "_law_is_right" 1 3 f_law_is_right) (C__law_list : FnAt P w K mg base T "_law_list" 3 3 f_law_list) (C__law_program : FnAt P w K mg base T "_law_program" 3 3 f_law_program) (C__law_spoilt : FnAt P w K mg base T "_law_spoilt" 2 5 f_law_spoilt) (C__law_truth : FnAt P w K mg base T "_law_truth" 2 1 f_law_truth) (C_are_programs : FnAt P w K mg base T "are_programs" 1 5 f_are_programs) (C_is_program : FnAt P w K mg base T "is_program" 1 4 f_is_program) : FnG P w K mg base 6 f fd ["_law_script"] (spD K T 1 f_law) :=
  (fn_dG (k := 5) [] A.fn sc_law (by decide) fun cdv A' outer s H E hgA hr => by
  have hgd : ∀ i, ((oneF (cxOf (L2.CX P w) P w K mg base N_law "law" (defScope s_law) f cdv A' outer s H E)).at_ i).A.guards = some [] := fun _ => hgA
  have hu : ∀ i, ((oneF (cxOf (L2.CX P w) P w K mg base N_law "law" (defScope s_law) f cdv A' outer s H E)).at_ i).A.units + 65 < cLine := fun _ => by
    have q := hr.un
    have : (cxOf (L2.CX P w) P w K mg base N_law "law" (defScope s_law) f cdv A' outer s H E).A = A'.deeper (envOfC "law" (defScope s_law) s.heap.objs.size f cdv) := rfl
    show (A'.deeper (envOfC "law" (defScope s_law) s.heap.objs.size f cdv)).units + 65 < cLine
    omega
  have tk : ∀ i, Takes ((oneF (cxOf (L2.CX P w) P w K mg base N_law "law" (defScope s_law) f cdv A' outer s H E)).at_ i) (fun cls d _ H => E cls d H) := fun _ => takes_of rfl rfl rfl rfl
  show DSs _ _ _ _ _ m_law
  exact (dss_cons (ds_for (fun _ => passes_of rfl) (fun _ => rfl) (di_seq (do_e (de_op or_addX v2_add (do_e (de_lst (da_cons (do_e (de_call (callee_of C__law_cell_at rfl (fun _ => ⟨rfl, rfl, rfl, rfl⟩) (fun _ => hr.mono (by decide)) (fun _ => rfl)) tk (da_cons (do_n 0) (da_cons (do_e de_int) da_nil)) (lenA_cons 1 (lenA_cons 0 lenA_nil)))) da_nil))) (do_e (de_sl (do_n 0) (dp_so (do_e de_int)) (dp_so (do_e de_int))))))) (dg_name 1 (fun _ => sc_law.nd))
  (dss_cons (ds_set 2 (fun _ => sc_law.nd) (by decide) (de_lst (da_cons (do_n 1) da_nil))) (dss_cons (ds_set 3 (fun _ => sc_law.nd) (by decide) (de_d (de_call (callee_of C__law_program rfl (fun _ => ⟨rfl, rfl, rfl, rfl⟩) (fun _ => hr.mono (by decide)) (fun _ => rfl)) tk (da_cons (do_n 2) (da_cons (do_e de_int) (da_cons (do_e de_int) da_nil))) (lenA_cons 2 (lenA_cons 1 (lenA_cons 0 lenA_nil)))))) (dss_cons (ds_set 4 (fun _ => sc_law.nd) (by decide) (de_d (de_n 3))) (dss_cons (ds_for (fun _ => passes_of rfl) (fun _ => rfl) (di_range1 (fun _ => rfl) (fun _ => Z.b_range) (da_cons (do_e (de_op or_addX v2_add (do_e de_int) (do_e (de_call (callee_of C__law_digit rfl (fun _ => ⟨rfl, rfl, rfl, rfl⟩) (fun _ => hr.mono (by decide)) (fun _ => rfl)) tk (da_cons (do_n 2) (da_cons (do_e de_int) da_nil)) (lenA_cons 1 (lenA_cons 0 lenA_nil)))))) da_nil)) (dg_name 5 (fun _ => sc_law.nd))
  (dss_one (ds_if (dt_val (de_call (callee_of C__law_is_right rfl (fun _ => ⟨rfl, rfl, rfl, rfl⟩) (fun _ => hr.mono (by decide)) (fun _ => rfl)) tk (da_cons (do_n 4) da_nil) (lenA_cons 0 lenA_nil)))
  (dss_one (ds_set 4 (fun _ => sc_law.nd) (by decide) (de_d (de_call (callee_of C__law_spoilt rfl (fun _ => ⟨rfl, rfl, rfl, rfl⟩) (fun _ => hr.mono (by decide)) (fun _ => rfl)) tk (da_cons (do_n 2) (da_cons (do_n 4) da_nil)) (lenA_cons 1 (lenA_cons 0 lenA_nil))))))
  dss_nil))) (dss_cons (ds_for (fun _ => passes_of rfl) (fun _ => rfl) (di_seq (do_e (de_tup (da_cons (do_n 3) (da_cons (do_n 4) da_nil))))) (dg_name 6 (fun _ => sc_law.nd))
  (dss_cons (ds_set 7 (fun _ => sc_law.nd) (by decide) (de_d (de_cb (cr_repr hgd hu) vl_repr (fun _ => Z.b_repr) (by decide +kernel) (da_cons (do_n 6) da_nil)))) (dss_one (ds_if (dt_w (dw_or (dt_not (dt_val (de_call (callee_of C__law_truth rfl (fun _ => ⟨rfl, rfl, rfl, rfl⟩) (fun _ => hr.mono (by decide)) (fun _ => rfl)) tk (da_cons (do_e (de_call (callee_of C_is_program rfl (fun _ => ⟨rfl, rfl, rfl, rfl⟩) (fun _ => hr.mono (by decide)) (fun _ => rfl)) tk (da_cons (do_n 6) da_nil) (lenA_cons 0 lenA_nil))) (da_cons (do_e (de_call (callee_of C__law_is_right rfl (fun _ => ⟨rfl, rfl, rfl, rfl⟩) (fun _ => hr.mono (by decide)) (fun _ => rfl)) tk (da_cons (do_n 6) da_nil) (lenA_cons 0 lenA_nil))) da_nil)) (lenA_cons 1 (lenA_cons 0 lenA_nil))))) (dw_or1 (dt_cmp (or_ne hu) v2_ne (do_e (de_cb (cr_repr hgd hu) vl_repr (fun _ => Z.b_repr) (by decide +kernel) (da_cons (do_n 6) da_nil))) (do_n 7)))))
  (dss_one (ds_ret de_bl))
  dss_nil)))) (dss_cons (ds_set 8 (fun _ => sc_law.nd) (by decide) (de_d (de_call (callee_of C__law_list rfl (fun _ => ⟨rfl, rfl, rfl, rfl⟩) (fun _ => hr.mono (by decide)) (fun _ => rfl)) tk (da_cons (do_n 2) (da_cons (do_n 3) (da_cons (do_n 4) da_nil))) (lenA_cons 2 (lenA_cons 1 (lenA_cons 0 lenA_nil)))))) (dss_cons (ds_set 7 (fun _ => sc_law.nd) (by decide) (de_d (de_cb (cr_repr hgd hu) vl_repr (fun _ => Z.b_repr) (by decide +kernel) (da_cons (do_n 8) da_nil)))) (dss_cons (ds_if (dt_w (dw_or (dt_not (dt_val (de_call (callee_of C__law_truth rfl (fun _ => ⟨rfl, rfl, rfl, rfl⟩) (fun _ => hr.mono (by decide)) (fun _ => rfl)) tk (da_cons (do_e (de_call (callee_of C_are_programs rfl (fun _ => ⟨rfl, rfl, rfl, rfl⟩) (fun _ => hr.mono (by decide)) (fun _ => rfl)) tk (da_cons (do_n 8) da_nil) (lenA_cons 0 lenA_nil))) (da_cons (do_e (de_call (callee_of C__law_are_right rfl (fun _ => ⟨rfl, rfl, rfl, rfl⟩) (fun _ => hr.mono (by decide)) (fun _ => rfl)) tk (da_cons (do_n 8) da_nil) (lenA_cons 0 lenA_nil))) da_nil)) (lenA_cons 1 (lenA_cons 0 lenA_nil))))) (dw_or1 (dt_cmp (or_ne hu) v2_ne (do_e (de_cb (cr_repr hgd hu) vl_repr (fun _ => Z.b_repr) (by decide +kernel) (da_cons (do_n 8) da_nil))) (do_n 7)))))
  (dss_one (ds_ret de_bl))
  dss_nil) (dss_one (ds_if (dt_w (dw_or (dt_not (dt_val (de_call (callee_of C_is_program rfl (fun _ => ⟨rfl, rfl, rfl, rfl⟩) (fun _ => hr.mono (by decide)) (fun _ => rfl)) tk (da_cons (do_n 3) da_nil) (lenA_cons 0 lenA_nil)))) (dw_or (dt_not (dt_val (de_call (callee_of C_are_programs rfl (fun _ => ⟨rfl, rfl, rfl, rfl⟩) (fun _ => hr.mono (by decide)) (fun _ => rfl)) tk (da_cons (do_e (de_op or_mulX v2_mul (do_e (de_lst (da_cons (do_n 3) da_nil))) (do_e de_int))) da_nil) (lenA_cons 0 lenA_nil)))) (dw_or1 (dt_val (de_call (callee_of C_are_programs rfl (fun _ => ⟨rfl, rfl, rfl, rfl⟩) (fun _ => hr.mono (by decide)) (fun _ => rfl)) tk (da_cons (do_e (de_op or_mulX v2_mul (do_e (de_lst (da_cons (do_n 3) da_nil))) (do_e de_int))) da_nil) (lenA_cons 0 lenA_nil)))))))
  (dss_one (ds_ret de_bl))
  dss_nil))))))))))) (dss_one (ds_ret de_bl))))
end
end Law

set_option Elab.async false
set_option linter.all false
set_option maxRecDepth 100000
set_option maxHeartbeats 4000000
namespace Law
open PySem PySem.Spec L2 Dl
open PyProof.Rows hiding St

theorem dig (w : Well) {b : Int} (h0 : 0 < b) (h1 : b < 1073741824) : f_law_digit [.own w.ds, .dat (.int b)] = .ok (.dat (.int (w.fig b))) [.own (w.aft b).ds, .un] := digit_eq w h0 h1
theorem is_from_eq {d : D} (h : niceB d = true) (lo hi : Int) : f_is_from [.dat d, .dat (.int lo), .dat (.int hi)] = .ok (.dat (.bl (isFromD d lo hi))) [.un, .un, .un] := by
  cases d <;> first
    | simp [niceB] at h; done
    | (simp [f_is_from, toF_at, m_is_from, outs_cons, outs_nil, isTy, isFromD]; done)
    | skip
  rename_i i
  by_cases c : lo ≤ i <;> simp [f_is_from, toF_at, m_is_from, outs_cons, outs_nil, isTy, isFromD, c]
theorem whole_eq {d : D} (h : niceB d = true) (lo hi : Int) : f_law_whole [.dat d, .dat (.int lo), .dat (.int hi)] = .ok (.dat (.bl (isFromD d lo hi))) [.un, .un, .un] := by
  cases d <;> first
    | simp [niceB] at h; done
    | (simp [f_law_whole, toF_at, m_law_whole, outs_cons, outs_nil, isTy, isFromD]; done)
    | skip
  rename_i i
  by_cases c : lo ≤ i <;> simp [f_law_whole, toF_at, m_law_whole, outs_cons, outs_nil, isTy, isFromD, c]
theorem is_slot_eq {d : D} (h : niceB d = true) (n : Int) : f_is_slot [.dat d, .dat (.int n)] = .ok (.dat (.bl (isSlotD n d))) [.un, .un] := by
  cases d <;> first
    | simp [niceB] at h; done
    | (simp [f_is_slot, toF_at, m_is_slot, outs_cons, outs_nil, isTy, isSlotD]; done)
    | skip
  rename_i ds
  rcases tup_cases ds with rfl | ⟨a, rfl⟩ | ⟨a, b, rfl⟩ | ⟨a, b, c, es, rfl⟩
  · simp [f_is_slot, toF_at, m_is_slot, outs_cons, outs_nil, isTy, isSlotD]
  · simp [f_is_slot, toF_at, m_is_slot, outs_cons, outs_nil, isTy, isSlotD]
  · simp at h
    cases a <;> first
      | simp [niceB] at h; done
      | (simp [f_is_slot, toF_at, m_is_slot, outs_cons, outs_nil, isTy, isSlotD, isS]; done)
      | skip
    rename_i s
    have hs : cmpB (.str s) = true := by
      show shp (.str s) = true
      rw [shp_shn, shn_strOk]
      simpa [niceB] using h.1
    have g1 := gEq_isS hs "box"
    have g2 := gEq_isS hs "key"
    have i1 := is_from_eq h.2 0 999999
    have i2 := is_from_eq h.2 0 (n - 1)
    cases q1 : isS "box" (.str s) with
    | true =>
      have q2 : isS "key" (.str s) = false := by
        have e := eq_of_beq (show (s == Str.ofString "box") = true from q1)
        subst e
        simp [isS, ofString_inj]
      rw [q1] at g1
      simp [f_is_slot, toF_at, m_is_slot, outs_cons, outs_nil, isTy, isSlotD, g1, q1, q2, i1]
    | false =>
      rw [q1] at g1
      cases q2 : isS "key" (.str s) <;> rw [q2] at g2 <;> simp [f_is_slot, toF_at, m_is_slot, outs_cons, outs_nil, isTy, isSlotD, g1, g2, q1, q2, i2]
  · have e : ¬ ((es.length : Int) + 1 + 1 + 1 = 2) := by omega
    simp [f_is_slot, toF_at, m_is_slot, outs_cons, outs_nil, isTy, isSlotD, e]
theorem is_slot_step_eq {d : D} (h : niceB d = true) (n : Int) : f_is_slot_step [.dat d, .dat (.int n)] = .ok (.dat (.bl (isStpD n d))) [.un, .un] := by
  cases d <;> first
    | simp [niceB] at h; done
    | (simp [f_is_slot_step, toF_at, m_is_slot_step, outs_cons, outs_nil, isTy, isStpD]; done)
    | skip
  rename_i ds
  rcases tup_cases ds with rfl | ⟨a, rfl⟩ | ⟨a, b, rfl⟩ | ⟨a, b, c, es, rfl⟩
  · simp [f_is_slot_step, toF_at, m_is_slot_step, outs_cons, outs_nil, isTy, isStpD]
  · simp [f_is_slot_step, toF_at, m_is_slot_step, outs_cons, outs_nil, isTy, isStpD]
  · simp at h
    cases a <;> first
      | simp [niceB] at h; done
      | (simp [f_is_slot_step, toF_at, m_is_slot_step, outs_cons, outs_nil, isTy, isStpD, isWord]; done)
      | skip
    rename_i s
    have hs : PyData.strOk s = true := by simpa [niceB] using h.1
    cases q : isWord (.str s) <;> simp [f_is_slot_step, toF_at, m_is_slot_step, outs_cons, outs_nil, isTy, isStpD, inWords hs id, q, is_slot_eq h.2]
  · have e : ¬ ((es.length : Int) + 1 + 1 + 1 = 2) := by omega
    simp [f_is_slot_step, toF_at, m_is_slot_step, outs_cons, outs_nil, isTy, isStpD, e]
theorem law_is_step_eq {d : D} (h : niceB d = true) (hc : stB d = true) (n : Int) : f_law_is_step [.dat d, .dat (.int n)] = .ok (.dat (.bl (isStpD n d))) [.un, .un] := by
  cases d <;> first
    | simp [niceB] at h; done
    | (simp [f_law_is_step, toF_at, m_law_is_step, outs_cons, outs_nil, isTy, isStpD]; done)
    | skip
  rename_i ds
  rcases tup_cases ds with rfl | ⟨a, rfl⟩ | ⟨a, b, rfl⟩ | ⟨a, b, c, es, rfl⟩
  · simp [f_law_is_step, toF_at, m_law_is_step, outs_cons, outs_nil, isTy, isStpD]
  · simp [f_law_is_step, toF_at, m_law_is_step, outs_cons, outs_nil, isTy, isStpD]
  · simp only [stB, Bool.and_eq_true] at hc
    simp at h
    have g1 := gNe_isS hc.1 "read"
    have g2 := gNe_isS hc.1 "write"
    have word : isWord a = (isS "read" a || isS "write" a) := by cases a <;> rfl
    cases q : isWord a with
    | false =>
      rw [word, Bool.or_eq_false_iff] at q
      rw [q.1] at g1
      rw [q.2] at g2
      simp [f_law_is_step, toF_at, m_law_is_step, outs_cons, outs_nil, isTy, isStpD, word, q.1, q.2, g1, g2]
    | true =>
      have q' := q
      rw [word, Bool.or_eq_true] at q
      have first : m_law_is_step [.dat (.tup [a, b]), .dat (.int n), .un] = (sSeq q_law_is_step_2 (sSeq q_law_is_step_3 q_law_is_step_4)) [.dat (.tup [a, b]), .dat (.int n), .dat b] := by
        rcases q with q | q
        · rw [q] at g1
          simp [m_law_is_step, isTy, g1]
        · rw [q] at g2
          cases q3 : isS "read" a <;> rw [q3] at g1 <;> simp [m_law_is_step, isTy, g1, g2]
      have rest : isStpD n (.tup [a, b]) = isSlotD n b := by rw [isStpD, q', Bool.true_and]
      have go : (sSeq q_law_is_step_2 (sSeq q_law_is_step_3 q_law_is_step_4)) [.dat (.tup [a, b]), .dat (.int n), .dat b] = .rt (.dat (.bl (isSlotD n b))) [.dat (.tup [a, b]), .dat (.int n), .dat b] := by
        have hb := h.2
        have cb := hc.2
        clear first rest h hc
        cases b <;> first
          | simp [niceB] at hb; done
          | (simp [isTy, isSlotD]; done)
          | skip
        rename_i es
        rcases tup_cases es with rfl | ⟨x, rfl⟩ | ⟨x, y, rfl⟩ | ⟨x, y, z, es, rfl⟩
        · simp [isTy, isSlotD]
        · simp [isTy, isSlotD]
        · simp only [slB] at cb
          simp at hb
          have k1 := gEq_isS cb "box"
          have k2 := gEq_isS cb "key"
          have i1 := whole_eq hb.2 0 999999
          have i2 := whole_eq hb.2 0 (n - 1)
          cases q1 : isS "box" x with
          | true =>
            have q2 : isS "key" x = false := by
              cases x <;> first
                | rfl
                | skip
              have e := eq_of_beq (show (_ == Str.ofString "box") = true from q1)
              subst e
              simp [isS, ofString_inj]
            rw [q1] at k1
            simp [isTy, isSlotD, k1, q1, q2, i1]
          | false =>
            rw [q1] at k1
            cases q2 : isS "key" x <;> rw [q2] at k2 <;> simp [isTy, isSlotD, k1, k2, q1, q2, i2]
        · have e : ¬ ((es.length : Int) + 1 + 1 + 1 = 2) := by omega
          simp [isTy, isSlotD, e]
      rw [rest, f_law_is_step, toF_at]
      show toR [] 2 (m_law_is_step [.dat (.tup [a, b]), .dat (.int n), .un]) = _
      rw [first, go]
      simp [outs_cons, outs_nil]
  · have e : ¬ ((es.length : Int) + 1 + 1 + 1 = 2) := by omega
    simp [f_law_is_step, toF_at, m_law_is_step, outs_cons, outs_nil, isTy, isStpD, e]
theorem are_tables_eq {d : D} (h : niceB d = true) : f_are_tables [.dat d] = .ok (.dat (.bl (areTabD d))) [.un] := by
  cases d <;> first
    | simp [niceB] at h; done
    | (simp [f_are_tables, toF_at, m_are_tables, outs_cons, outs_nil, isTy, areTabD]; done)
    | skip
  rename_i ds
  have hn : ∀ d ∈ ds, niceB d = true := by simpa using h
  by_cases c2 : ds.length ≤ 3
  · have e2 : ¬ (3 : Int) < (ds.length : Int) := by omega
    have lc := lc_map (ρ := [.dat (.tup ds), .un]) (k := 1) (e := e_are_tables_1) (g := fun d => .bl (isFromD d 1 9)) rfl ds (fun d m => by simp [ue_are_tables_1, is_from_eq (hn d m)]) (by rw [sizeLine_eq]; omega)
    simp [f_are_tables, toF_at, m_are_tables, outs_cons, outs_nil, isTy, areTabD, e2, lc, gAll_map, c2]
  · have e2 : (3 : Int) < (ds.length : Int) := by omega
    simp [f_are_tables, toF_at, m_are_tables, outs_cons, outs_nil, isTy, areTabD, e2, c2]
end Law

set_option Elab.async false
set_option linter.all false
set_option maxRecDepth 100000
set_option maxHeartbeats 4000000
namespace Law
open PySem PySem.Spec L2 Dl
open PyProof.Rows hiding St

theorem stp_form {n : Int} {d : D} (h : isStpD n d = true) : ∃ (w : String) (i : Int), d = .tup [.str (Str.ofString w), slotD i] ∧ (w = "read" ∨ w = "write") := by
  obtain ⟨⟨w, i⟩, rfl, _⟩ := stp_inv h
  cases w
  · exact ⟨"read", i, rfl, .inl rfl⟩
  · exact ⟨"write", i, rfl, .inr rfl⟩
theorem shp_step (w : String) (i : Int) : shp (.tup [.str (Str.ofString w), slotD i]) = true := by
  rw [shp_tup]
  simp [shn_mono (shn_slotD i) (show 1 ≤ 63 by decide)]
theorem shn_step {n : Int} {d : D} (h : isStpD n d = true) : shn 63 d = true := by
  obtain ⟨p, rfl, _⟩ := stp_inv h
  exact shn_mono (shn_stp p) (by decide)
theorem in_order_loop {n : Int} (ds : List D) (hs : ∀ d ∈ ds, isStpD n d = true) : ∀ (suf : List D) (k : Nat) (x1 x2 : B), (∀ d ∈ suf, isStpD n d = true) →
    (ordF ds k suf = true ∧ ∃ y1 y2, forD (pTup [(pName 1), (pName 2)]) b_in_order_1 (enumK k suf) [.dat (.tup ds), x1, x2] = .nx [.dat (.tup ds), y1, y2]) ∨ (ordF ds k suf = false ∧ ∃ y1 y2, forD (pTup [(pName 1), (pName 2)]) b_in_order_1 (enumK k suf) [.dat (.tup ds), x1, x2] = .rt (.dat (.bl false)) [.dat (.tup ds), y1, y2])
  | [], k, x1, x2, _ => .inl ⟨rfl, x1, x2, rfl⟩
  | s :: ss, k, x1, x2, h => by
    have hss := in_order_loop ds hs ss (k + 1) (.dat (.int k)) (.dat s) fun d m => h d (List.mem_cons_of_mem _ m)
    obtain ⟨w, b, rfl, hw⟩ := stp_form (h s List.mem_cons_self)
    have sh : shp (.tup (ds.take k)) = true := by
      rw [shp_tup, List.all_eq_true]
      exact fun d m => shn_step (hs d (List.mem_of_mem_take m))
    have g1 : ∀ w : String, gIn (.tup [.str (Str.ofString w), slotD b]) (.tup (ds.take k)) = some (.dat (.bl (inD (.tup [.str (Str.ofString w), slotD b]) (ds.take k)))) := fun w => gIn_tup (shp_step w b) sh
    rw [enumK, forD_cons]
    cases q1 : inD (.tup [.str (Str.ofString w), slotD b]) (ds.take k) with
    | true => exact .inr ⟨by simp [ordF, badS, q1], .dat (.int k), .dat (.tup [.str (Str.ofString w), slotD b]), by simp [ub_in_order_1, g1, q1]⟩
    | false =>
      rcases hw with rfl | rfl
      · cases q2 : inD (.tup [.str (Str.ofString "write"), slotD b]) (ds.take k) with
        | true => exact .inr ⟨by simp [ordF, badS, q2], .dat (.int k), .dat (.tup [.str (Str.ofString "read"), slotD b]), by simp [ub_in_order_1, g1, q1, q2]⟩
        | false =>
          have e : ordF ds k (.tup [.str (Str.ofString "read"), slotD b] :: ss) = ordF ds (k + 1) ss := by simp [ordF, badS, q1, q2]
          rw [e]
          simpa [ub_in_order_1, g1, q1, q2] using hss
      · have e : ordF ds k (.tup [.str (Str.ofString "write"), slotD b] :: ss) = ordF ds (k + 1) ss := by simp [ordF, badS, q1, ofString_inj]
        rw [e]
        simpa [ub_in_order_1, g1, q1] using hss
theorem in_order_eq {n : Int} {ds : List D} (hs : ∀ d ∈ ds, isStpD n d = true) : f_in_order [.dat (.tup ds)] = .ok (.dat (.bl (ordF ds 0 ds))) [.un] := by
  rcases in_order_loop ds hs ds 0 .un .un hs with ⟨e, y1, y2, h⟩ | ⟨e, y1, y2, h⟩
  · simp [f_in_order, toF_at, m_in_order, outs_cons, outs_nil, enumD_eq, h, e]
  · simp [f_in_order, toF_at, m_in_order, outs_cons, outs_nil, enumD_eq, h, e]
/-- the law's own walk over the steps -/
theorem law_order_loop {n : Int} (D0 T : B) (ds : List D) (hs : ∀ d ∈ ds, isStpD n d = true) (x3 x6 : B) : ∀ (suf : List D) (k : Nat) (x1 x2 : B), (∀ d ∈ suf, isStpD n d = true) →
    (ordF ds k suf = true ∧ ∃ y1 y2, forD (pTup [(pName 5), (pName 4)]) b_law_is_right_5 (enumK k suf) [D0, T, .dat (.tup ds), x3, x2, x1, x6] = .nx [D0, T, .dat (.tup ds), x3, y2, y1, x6]) ∨ (ordF ds k suf = false ∧ ∃ y1 y2, forD (pTup [(pName 5), (pName 4)]) b_law_is_right_5 (enumK k suf) [D0, T, .dat (.tup ds), x3, x2, x1, x6] = .rt (.dat (.bl false)) [D0, T, .dat (.tup ds), x3, y2, y1, x6])
  | [], k, x1, x2, _ => .inl ⟨rfl, x1, x2, rfl⟩
  | s :: ss, k, x1, x2, h => by
    have hss := law_order_loop D0 T ds hs x3 x6 ss (k + 1) (.dat (.int k)) (.dat s) fun d m => h d (List.mem_cons_of_mem _ m)
    obtain ⟨w, b, rfl, hw⟩ := stp_form (h s List.mem_cons_self)
    have sh : shp (.tup (ds.take k)) = true := by
      rw [shp_tup, List.all_eq_true]
      exact fun d m => shn_step (hs d (List.mem_of_mem_take m))
    have g1 : ∀ w : String, gIn (.tup [.str (Str.ofString w), slotD b]) (.tup (ds.take k)) = some (.dat (.bl (inD (.tup [.str (Str.ofString w), slotD b]) (ds.take k)))) := fun w => gIn_tup (shp_step w b) sh
    rw [enumK, forD_cons]
    cases q1 : inD (.tup [.str (Str.ofString w), slotD b]) (ds.take k) with
    | true => exact .inr ⟨by simp [ordF, badS, q1], .dat (.int k), .dat (.tup [.str (Str.ofString w), slotD b]), by simp [ub_law_is_right_5, g1, q1]⟩
    | false =>
      rcases hw with rfl | rfl
      · cases q2 : inD (.tup [.str (Str.ofString "write"), slotD b]) (ds.take k) with
        | true => exact .inr ⟨by simp [ordF, badS, q2], .dat (.int k), .dat (.tup [.str (Str.ofString "read"), slotD b]), by simp [ub_law_is_right_5, g1, q1, q2]⟩
        | false =>
          have e : ordF ds k (.tup [.str (Str.ofString "read"), slotD b] :: ss) = ordF ds (k + 1) ss := by simp [ordF, badS, q1, q2]
          rw [e]
          simpa [ub_law_is_right_5, g1, q1, q2] using hss
      · have e : ordF ds k (.tup [.str (Str.ofString "write"), slotD b] :: ss) = ordF ds (k + 1) ss := by simp [ordF, badS, q1, ofString_inj]
        rw [e]
        simpa [ub_law_is_right_5, g1, q1] using hss
/-! the slots, the keys among them -/
theorem lc_slots {ρ : Ev} {n : Int} (hk : wipeE ρ [5, 6] = ρ) (hl : ρ.length = 8) : ∀ (ds acc : List D), (∀ d ∈ ds, isStpD n d = true) → acc.length + ds.length ≤ 1000 → lcD (pTup [(pName 5), (pName 6)]) tYs e_is_program_2 [5, 6] ds acc ρ = .ok (acc ++ ds.map slotOf, ρ)
  | [], acc, _, _ => by simp [lcD]
  | d :: ds, acc, h, hz => by
    rw [List.length_cons] at hz
    have ih := lc_slots hk hl ds (acc ++ [slotOf d]) (fun e m => h e (List.mem_cons_of_mem _ m)) (by rw [List.length_append, List.length_singleton]; omega)
    obtain ⟨w, i, rfl, _⟩ := stp_form (h d List.mem_cons_self)
    have hz : acc.length < sizeLine := by rw [sizeLine_eq]; omega
    obtain ⟨b0, b1, b2, b3, b4, b5, b6, b7, rfl⟩ : ∃ b0 b1 b2 b3 b4 b5 b6 b7, ρ = [b0, b1, b2, b3, b4, b5, b6, b7] := by
      match ρ, hl with
      | [b0, b1, b2, b3, b4, b5, b6, b7], _ => exact ⟨_, _, _, _, _, _, _, _, rfl⟩
    simp [wipeE] at hk
    obtain ⟨rfl, rfl⟩ := hk
    rw [lcD_cons]
    simp [ue_is_program_2, hz, wipeE]
    simpa [slotOf] using ih
theorem inSlots {n : Int} {ds : List D} (h : ∀ d ∈ ds, isStpD n d = true) (k : Int) : gIn (.tup [.str (Str.ofString "key"), .int k]) (.lst (ds.map slotOf)) = some (.dat (.bl (inD (.tup [.str (Str.ofString "key"), .int k]) (ds.map slotOf)))) := by
  refine gIn_lst (by simp) ?_
  rw [shp_lst, List.all_eq_true]
  intro d m
  obtain ⟨e, he, rfl⟩ := List.mem_map.mp m
  obtain ⟨p, rfl, _⟩ := stp_inv (h e he)
  exact shn_mono (shn_slotD _) (by decide)
theorem notInSlots {n : Int} {ds : List D} (h : ∀ d ∈ ds, isStpD n d = true) (k : Int) : gNotIn (.tup [.str (Str.ofString "key"), .int k]) (.lst (ds.map slotOf)) = some (.dat (.bl (!inD (.tup [.str (Str.ofString "key"), .int k]) (ds.map slotOf)))) := by
  refine gNotIn_lst (by simp) ?_
  rw [shp_lst, List.all_eq_true]
  intro d m
  obtain ⟨e, he, rfl⟩ := List.mem_map.mp m
  obtain ⟨p, rfl, _⟩ := stp_inv (h e he)
  exact shn_mono (shn_slotD _) (by decide)
theorem rng_int {n : Nat} {d : D} (m : d ∈ rngD 0 n) : ∃ k : Int, d = .int k := by
  unfold rngD at m
  obtain ⟨k, _, rfl⟩ := List.mem_map.mp m
  exact ⟨_, rfl⟩
theorem rng_len {ts : List D} (h : ts.length ≤ 3) : rng1 [.int (ts.length : Int)] = some (rngD 0 ts.length) := by
  have := rng1_ok (ts.length : Int) (rngOk_of (by omega) (by omega))
  simpa using this
def pS (ts ss : List D) : Ev := [.dat (.tup [.tup ts, .tup ss]), .dat (.tup ts), .dat (.tup ss), .un, .un, .un, .un, .un]
def pT (ts ss : List D) : Ev := [.dat (.tup [.tup ts, .tup ss]), .dat (.tup ts), .dat (.tup ss), .un, .dat (.lst (ss.map slotOf)), .un, .un, .un]
theorem ip3_no {ts ss : List D} (hn : ∀ d ∈ ss, niceB d = true) (c2 : ss.length ≤ 6) (q : ss.all (isStpD ts.length) = false) : q_is_program_3 (pS ts ss) = .rt (.dat (.bl false)) (pS ts ss) := by
  have lc := lc_map (ρ := pS ts ss) (k := 3) (e := e_is_program_1) (g := fun d => .bl (isStpD ts.length d)) rfl ss (fun d m => by simp [pS, ue_is_program_1, is_slot_step_eq (hn d m)]) (by rw [sizeLine_eq]; omega)
  unfold pS at lc ⊢
  simp [lc, gAll_map, q]
theorem ip3_bad {ts ss : List D} (hn : ∀ d ∈ ss, niceB d = true) (c2 : ss.length ≤ 6) (q : ss.all (isStpD ts.length) = true) (q2 : ordF ss 0 ss = false) : q_is_program_3 (pS ts ss) = .rt (.dat (.bl false)) (pS ts ss) := by
  have lc := lc_map (ρ := pS ts ss) (k := 3) (e := e_is_program_1) (g := fun d => .bl (isStpD ts.length d)) rfl ss (fun d m => by simp [pS, ue_is_program_1, is_slot_step_eq (hn d m)]) (by rw [sizeLine_eq]; omega)
  have io := in_order_eq (List.all_eq_true.mp q)
  rw [q2] at io
  unfold pS at lc ⊢
  simp [lc, gAll_map, q, io]
theorem ip3_ok {ts ss : List D} (hn : ∀ d ∈ ss, niceB d = true) (c2 : ss.length ≤ 6) (q : ss.all (isStpD ts.length) = true) (q2 : ordF ss 0 ss = true) : q_is_program_3 (pS ts ss) = .nx (pS ts ss) := by
  have lc := lc_map (ρ := pS ts ss) (k := 3) (e := e_is_program_1) (g := fun d => .bl (isStpD ts.length d)) rfl ss (fun d m => by simp [pS, ue_is_program_1, is_slot_step_eq (hn d m)]) (by rw [sizeLine_eq]; omega)
  have io := in_order_eq (List.all_eq_true.mp q)
  rw [q2] at io
  unfold pS at lc ⊢
  simp [lc, gAll_map, q, io]
theorem ip4 {ts ss : List D} (c2 : ss.length ≤ 6) (q : ss.all (isStpD ts.length) = true) : q_is_program_4 (pS ts ss) = .nx (pT ts ss) := by
  have ls := lc_slots (ρ := pS ts ss) rfl rfl ss [] (List.all_eq_true.mp q) (by simp; omega)
  unfold pS at ls ⊢
  unfold pT
  simp [ls]
theorem ip5 {ts ss : List D} (tl : ts.length ≤ 3) (q : ss.all (isStpD ts.length) = true) : q_is_program_5 (pT ts ss) = .rt (.dat (.bl (coverD ts.length ss))) (pT ts ss) := by
  have hr := rng_len tl
  have lk := lc_map (ρ := pT ts ss) (k := 7) (e := e_is_program_3) (g := fun k => .bl (inD (.tup [.str (Str.ofString "key"), k]) (ss.map slotOf))) rfl (rngD 0 ts.length) (fun d m => by
    obtain ⟨k, rfl⟩ := rng_int m
    simp [pT, ue_is_program_3, inSlots (List.all_eq_true.mp q)]) (by rw [rngD_length, sizeLine_eq]; omega)
  unfold pT at lk ⊢
  simp [hr, lk, gAll_map, coverD]
theorem ip_tup {ts ss : List D} (hT : niceB (.tup ts) = true) (hn : ∀ d ∈ ss, niceB d = true) (qT : areTabD (.tup ts) = true) : f_is_program [.dat (.tup [.tup ts, .tup ss])] = .ok (.dat (.bl (isProgD (.tup [.tup ts, .tup ss])))) [.un] := by
  have at1 := are_tables_eq hT
  rw [qT] at at1
  have tl : ts.length ≤ 3 := by
    simp [areTabD] at qT
    exact qT.1
  by_cases c1 : 1 ≤ ss.length
  · by_cases c2 : ss.length ≤ 6
    · have e1 : (1 : Int) ≤ (ss.length : Int) := by omega
      have e2 : (ss.length : Int) ≤ 6 := by omega
      have start : m_is_program [.dat (.tup [.tup ts, .tup ss]), .un, .un, .un, .un, .un, .un, .un] = (sSeq q_is_program_3 (sSeq q_is_program_4 q_is_program_5)) (pS ts ss) := by
        simp [m_is_program, pS, isTy, at1, e1, e2, -uq_is_program_3]
      have tot : m_is_program [.dat (.tup [.tup ts, .tup ss]), .un, .un, .un, .un, .un, .un, .un] = .rt (.dat (.bl (isProgD (.tup [.tup ts, .tup ss])))) (pS ts ss) ∨ m_is_program [.dat (.tup [.tup ts, .tup ss]), .un, .un, .un, .un, .un, .un, .un] = .rt (.dat (.bl (isProgD (.tup [.tup ts, .tup ss])))) (pT ts ss) := by
        rw [start]
        cases q : ss.all (isStpD ts.length) with
        | false =>
          have e : isProgD (.tup [.tup ts, .tup ss]) = false := by simp [isProgD, q]
          rw [e]
          refine .inl ?_
          rw [e_sSeq, ip3_no hn c2 q]
          rfl
        | true =>
          cases q2 : ordF ss 0 ss with
          | false =>
            have e : isProgD (.tup [.tup ts, .tup ss]) = false := by simp [isProgD, q2]
            rw [e]
            refine .inl ?_
            rw [e_sSeq, ip3_bad hn c2 q q2]
            rfl
          | true =>
            have e : isProgD (.tup [.tup ts, .tup ss]) = coverD ts.length ss := by simp [isProgD, q, q2, qT, c1, c2]
            rw [e]
            exact .inr (seq_nx (ip3_ok hn c2 q q2) (seq_nx (ip4 c2 q) (ip5 tl q)))
      rw [f_is_program, toF_at]
      show toR [] 1 (m_is_program [.dat (.tup [.tup ts, .tup ss]), .un, .un, .un, .un, .un, .un, .un]) = _
      rcases tot with e | e <;> rw [e] <;> simp [outs_cons, outs_nil, pS, pT]
    · have e1 : (1 : Int) ≤ (ss.length : Int) := by omega
      have e2 : ¬ (ss.length : Int) ≤ 6 := by omega
      simp [f_is_program, toF_at, m_is_program, outs_cons, outs_nil, isTy, isProgD, at1, c1, c2, e1, e2]
  · have e1 : ¬ (1 : Int) ≤ (ss.length : Int) := by omega
    simp [f_is_program, toF_at, m_is_program, outs_cons, outs_nil, isTy, isProgD, at1, c1, e1]
theorem ip_odd {ts : List D} {S : D} (hT : niceB (.tup ts) = true) (hS : niceB S = true) (qT : areTabD (.tup ts) = true) (no : ∀ ss, S ≠ .tup ss) : f_is_program [.dat (.tup [.tup ts, S])] = .ok (.dat (.bl false)) [.un] := by
  have at1 := are_tables_eq hT
  rw [qT] at at1
  cases S <;> first
    | simp [niceB] at hS; done
    | exact absurd rfl (no _)
    | (simp [f_is_program, toF_at, m_is_program, outs_cons, outs_nil, isTy, at1]; done)
theorem ip_tab {T S : D} (hT : niceB T = true) (qT : areTabD T = false) : f_is_program [.dat (.tup [T, S])] = .ok (.dat (.bl false)) [.un] := by
  have at1 := are_tables_eq hT
  rw [qT] at at1
  simp [f_is_program, toF_at, m_is_program, outs_cons, outs_nil, isTy, at1]
theorem prog_tab {T S : D} (qT : areTabD T = false) : isProgD (.tup [T, S]) = false := by
  unfold isProgD
  split
  · rename_i ts ss heq
    cases heq
    rw [qT]
    simp
  · rfl
theorem prog_odd {T S : D} (no : ∀ ss, S ≠ .tup ss) : isProgD (.tup [T, S]) = false := by
  unfold isProgD
  split
  · rename_i ts ss heq
    cases heq
    exact absurd rfl (no _)
  · rfl
theorem tup_or (S : D) : (∃ ss, S = .tup ss) ∨ ∀ ss, S ≠ .tup ss := by
  cases S <;> first
    | exact .inl ⟨_, rfl⟩
    | exact .inr fun _ z => nomatch z
theorem is_program_eq {d : D} (h : niceB d = true) : f_is_program [.dat d] = .ok (.dat (.bl (isProgD d))) [.un] := by
  rcases tup_or d with ⟨ds, rfl⟩ | no
  · rcases tup_cases ds with rfl | ⟨a, rfl⟩ | ⟨T, S, rfl⟩ | ⟨a, b, c, es, rfl⟩
    · simp [f_is_program, toF_at, m_is_program, outs_cons, outs_nil, isTy, isProgD]
    · simp [f_is_program, toF_at, m_is_program, outs_cons, outs_nil, isTy, isProgD]
    · simp at h
      obtain ⟨hT, hS⟩ := h
      cases qT : areTabD T with
      | false => rw [prog_tab qT, ip_tab hT qT]
      | true =>
        rcases tup_or T with ⟨ts, rfl⟩ | no
        · rcases tup_or S with ⟨ss, rfl⟩ | no'
          · exact ip_tup hT (by simpa using hS) qT
          · rw [prog_odd no', ip_odd hT hS qT no']
        · cases T <;> first
            | exact absurd rfl (no _)
            | cases qT
    · have e : ¬ ((es.length : Int) + 1 + 1 + 1 = 2) := by omega
      simp [f_is_program, toF_at, m_is_program, outs_cons, outs_nil, isTy, isProgD, e]
  · cases d <;> first
      | simp [niceB] at h; done
      | exact absurd rfl (no _)
      | (simp [f_is_program, toF_at, m_is_program, outs_cons, outs_nil, isTy, isProgD]; done)
theorem are_programs_eq {d : D} (h : niceB d = true) (hs : noScr d = true) : f_are_programs [.dat d] = .ok (.dat (.bl (areProgD d))) [.un] := by
  cases d <;> first
    | simp [niceB] at h; done
    | (simp [noScr] at hs; done)
    | (simp [f_are_programs, toF_at, m_are_programs, outs_cons, outs_nil, isTy, areProgD]; done)
    | skip
  rename_i ds
  have hn : ∀ d ∈ ds, niceB d = true := by simpa using h
  by_cases c1 : 1 ≤ ds.length
  · by_cases c2 : ds.length ≤ 4
    · have e1 : (1 : Int) ≤ (ds.length : Int) := by omega
      have e2 : (ds.length : Int) ≤ 4 := by omega
      have lc := lc_map (ρ := [.dat (.lst ds), .un]) (k := 1) (e := e_are_programs_1) (g := fun d => .bl (isProgD d)) rfl ds (fun d m => by simp [ue_are_programs_1, is_program_eq (hn d m)]) (by rw [sizeLine_eq]; omega)
      simp [f_are_programs, toF_at, m_are_programs, outs_cons, outs_nil, isTy, areProgD, e1, e2, lc, gAll_map, c1, c2]
    · have e1 : (1 : Int) ≤ (ds.length : Int) := by omega
      have e2 : ¬ (ds.length : Int) ≤ 4 := by omega
      simp [f_are_programs, toF_at, m_are_programs, outs_cons, outs_nil, isTy, areProgD, e1, e2, c2]
  · have e1 : ¬ (1 : Int) ≤ (ds.length : Int) := by omega
    simp [f_are_programs, toF_at, m_are_programs, outs_cons, outs_nil, isTy, areProgD, e1, c1]
end Law

set_option Elab.async false
set_option linter.all false
set_option maxRecDepth 100000
set_option maxHeartbeats 4000000
namespace Law
open PySem PySem.Spec L2 Dl
open PyProof.Rows hiding St

theorem gNe_nilD (xs : List D) : gNe (.lst xs) (.lst []) = some (.dat (.bl (!xs.isEmpty))) := by
  cases xs with
  | nil => rw [gNe_of (by simp) (by simp)]; rfl
  | cons x xs =>
    by_cases c : shp (.lst (x :: xs)) = true
    · have e := gEq_len (xs := x :: xs) (ys := []) (by simp)
      rw [gEq_of c (by simp)] at e
      rw [gNe_of c (by simp)]
      simp only [Option.some.injEq, B.dat.injEq, D.bl.injEq] at e
      rw [e]
      rfl
    · unfold gNe
      rw [if_neg (by simp only [Bool.and_eq_true]; exact fun z => c z.1)]
      show (if (x :: xs).length = ([] : List D).length then _ else some (B.dat (.bl true))) = _
      rw [if_neg (by simp)]
      rfl
theorem filter_all {p : D → Bool} (ds : List D) : (ds.filter fun d => !p d).isEmpty = ds.all p := by
  rw [Bool.eq_iff_iff, List.isEmpty_iff, List.filter_eq_nil_iff, List.all_eq_true]
  simp
theorem gIsi_tup_no {d : D} (h : niceB d = true) (no : ∀ ts, d ≠ .tup ts) : gIsi [d, .opq (.ty "tuple")] = some (.dat (.bl false)) := by
  cases d <;> first
    | simp [niceB] at h; done
    | exact absurd rfl (no _)
    | (simp [isTy]; done)
def rS (ts ss : List D) (x5 x4 : B) : Ev := [.dat (.tup [.tup ts, .tup ss]), .dat (.tup ts), .dat (.tup ss), .un, x4, x5, .un]
theorem ir3 {ts ss : List D} (hn : ∀ d ∈ ts, niceB d = true) : q_law_is_right_3 (rS ts ss .un .un) = if areTabD (.tup ts) = true then .nx (rS ts ss .un .un) else .rt (.dat (.bl false)) (rS ts ss .un .un) := by
  by_cases c : ts.length ≤ 3
  · have lc := lc_fm (ρ := rS ts ss .un .un) (k := 3) (c := c_law_is_right_2) (e := e_law_is_right_1) (g := id) (t := fun d => !isFromD d 1 9) rfl ts [] (fun d m => by
      have := whole_eq (hn d m) 1 9
      cases q : isFromD d 1 9 <;> rw [q] at this <;> simp [rS, uc_law_is_right_2, this]) (fun d m _ => by simp [rS, ue_law_is_right_1]) (by rw [sizeLine_eq]; simp; omega)
    have e2 : ¬ (3 : Int) < (ts.length : Int) := by omega
    have gn := gNe_nilD (ts.filter fun d => !isFromD d 1 9)
    rw [filter_all] at gn
    have ea : areTabD (.tup ts) = ts.all fun d => isFromD d 1 9 := by simp [areTabD, c]
    rw [ea]
    rw [List.nil_append, List.map_id] at lc
    unfold rS at lc ⊢
    cases q : ts.all fun d => isFromD d 1 9 <;> rw [q] at gn <;> simp [e2, lc, gn]
  · have e2 : (3 : Int) < (ts.length : Int) := by omega
    have ea : areTabD (.tup ts) = false := by simp [areTabD, c]
    rw [ea]
    unfold rS
    simp [e2]
theorem ir4 {ts ss : List D} (hn : ∀ d ∈ ss, niceB d = true) (hc : ∀ d ∈ ss, stB d = true) : q_law_is_right_4 (rS ts ss .un .un) = if (decide (1 ≤ ss.length) && decide (ss.length ≤ 6) && ss.all (isStpD ts.length)) = true then .nx (rS ts ss .un .un) else .rt (.dat (.bl false)) (rS ts ss .un .un) := by
  by_cases c1 : 1 ≤ ss.length
  · by_cases c2 : ss.length ≤ 6
    · have lc := lc_fm (ρ := rS ts ss .un .un) (k := 4) (c := c_law_is_right_4) (e := e_law_is_right_3) (g := id) (t := fun d => !isStpD ts.length d) rfl ss [] (fun d m => by
        have := law_is_step_eq (hn d m) (hc d m) ts.length
        cases q : isStpD ts.length d <;> rw [q] at this <;> simp [rS, uc_law_is_right_4, this]) (fun d m _ => by simp [rS, ue_law_is_right_3]) (by rw [sizeLine_eq]; simp; omega)
      have e1 : (1 : Int) ≤ (ss.length : Int) := by omega
      have e2 : (ss.length : Int) ≤ 6 := by omega
      have gn := gNe_nilD (ss.filter fun d => !isStpD ts.length d)
      rw [filter_all] at gn
      rw [List.nil_append, List.map_id] at lc
      unfold rS at lc ⊢
      cases q : ss.all (isStpD ts.length) <;> rw [q] at gn <;> simp [e1, e2, c1, c2, lc, gn]
    · have e1 : (1 : Int) ≤ (ss.length : Int) := by omega
      have e2 : ¬ (ss.length : Int) ≤ 6 := by omega
      unfold rS
      simp [e1, e2, c2]
  · have e1 : ¬ (1 : Int) ≤ (ss.length : Int) := by omega
    unfold rS
    simp [e1, c1]
theorem keys_empty (n : Nat) (S : List D) : ((rngD 0 n).filter fun k => !inD (.tup [.str (Str.ofString "key"), k]) S).isEmpty = (rngD 0 n).all fun k => inD (.tup [.str (Str.ofString "key"), k]) S := filter_all (p := fun k => inD (.tup [.str (Str.ofString "key"), k]) S) _
def rsB : B → B
  | .dat d => .dat d
  | _ => .un
def rT (ts ss : List D) (x5 x4 : B) : Ev := [.dat (.tup [.tup ts, .tup ss]), .dat (.tup ts), .dat (.tup ss), .un, x4, x5, .dat (.lst (ss.map slotOf))]
theorem ir6 {ts ss : List D} (sl : ss.length ≤ 6) (q : ss.all (isStpD ts.length) = true) (x4 x5 : B) : q_law_is_right_6 (rS ts ss x5 x4) = .nx (rT ts ss x5 (rsB x4)) := by
  have hss := List.all_eq_true.mp q
  have lc := lc_map (ρ := rS ts ss x5 .un) (k := 4) (e := e_law_is_right_6) (g := slotOf) rfl ss (fun d m => by
    obtain ⟨w, i, rfl, _⟩ := stp_form (hss d m)
    simp [rS, ue_law_is_right_6, slotOf]) (by rw [sizeLine_eq]; omega)
  unfold rS at lc ⊢
  unfold rT
  simp [wipeE, restE, lc]
  cases x4 <;> rfl
theorem ir7 {ts ss : List D} (tl : ts.length ≤ 3) (q : ss.all (isStpD ts.length) = true) (x4 x5 : B) : q_law_is_right_7 (rT ts ss x5 x4) = .rt (.dat (.bl (coverD ts.length ss))) (rT ts ss (rsB x5) x4) := by
  have hss := List.all_eq_true.mp q
  have hr := rng_len tl
  have lc := lc_fm (ρ := rT ts ss .un x4) (k := 5) (c := c_law_is_right_8) (e := e_law_is_right_7) (g := id) (t := fun k => !inD (.tup [.str (Str.ofString "key"), k]) (ss.map slotOf)) rfl (rngD 0 ts.length) [] (fun d m => by
    obtain ⟨k, rfl⟩ := rng_int m
    simp [rT, uc_law_is_right_8, notInSlots hss]) (fun d m _ => by simp [rT, ue_law_is_right_7]) (by rw [rngD_length, sizeLine_eq]; simp; omega)
  have ge := gEq_nil ((rngD 0 ts.length).filter fun k => !inD (.tup [.str (Str.ofString "key"), k]) (ss.map slotOf))
  rw [keys_empty] at ge
  rw [List.nil_append, List.map_id] at lc
  unfold rT at lc ⊢
  simp [wipeE, restE, hr, lc, ge, coverD]
  cases x5 <;> rfl
theorem ir_tup {ts ss : List D} (hT : ∀ d ∈ ts, niceB d = true) (hn : ∀ d ∈ ss, niceB d = true) (hc : ∀ d ∈ ss, stB d = true) : ∃ x5 x4 x6 : B, m_law_is_right [.dat (.tup [.tup ts, .tup ss]), .un, .un, .un, .un, .un, .un] = .rt (.dat (.bl (isProgD (.tup [.tup ts, .tup ss])))) [.dat (.tup [.tup ts, .tup ss]), .dat (.tup ts), .dat (.tup ss), .un, x4, x5, x6] := by
  have start : m_law_is_right [.dat (.tup [.tup ts, .tup ss]), .un, .un, .un, .un, .un, .un] = (sSeq q_law_is_right_3 (sSeq q_law_is_right_4 (sSeq q_law_is_right_5 (sSeq q_law_is_right_6 q_law_is_right_7)))) (rS ts ss .un .un) := by
    simp [m_law_is_right, rS, isTy, -uq_law_is_right_3]
  rw [start]
  have i3 := ir3 (ss := ss) hT
  have i4 := ir4 (ts := ts) hn hc
  cases qT : areTabD (.tup ts) with
  | false =>
    rw [qT] at i3
    rw [prog_tab qT]
    refine ⟨.un, .un, .un, ?_⟩
    rw [e_sSeq, i3]
    rfl
  | true =>
    rw [qT] at i3
    have i3 : q_law_is_right_3 (rS ts ss .un .un) = .nx (rS ts ss .un .un) := i3
    have tl : ts.length ≤ 3 := by
      simp [areTabD] at qT
      exact qT.1
    cases q : decide (1 ≤ ss.length) && decide (ss.length ≤ 6) && ss.all (isStpD ts.length) with
    | false =>
      rw [q] at i4
      have e : isProgD (.tup [.tup ts, .tup ss]) = false := by
        cases z : isProgD (.tup [.tup ts, .tup ss]) with
        | false => rfl
        | true =>
          simp only [isProgD, Bool.and_eq_true] at z
          have w : (decide (1 ≤ ss.length) && decide (ss.length ≤ 6) && ss.all (isStpD ts.length)) = true := by
            simp only [Bool.and_eq_true]
            exact ⟨z.1.1.1.2, z.1.1.2⟩
          exact absurd (q.symm.trans w) (by decide)
      rw [e]
      refine ⟨.un, .un, .un, ?_⟩
      refine seq_nx i3 ?_
      rw [e_sSeq, i4]
      rfl
    | true =>
      rw [q] at i4
      have i4 : q_law_is_right_4 (rS ts ss .un .un) = .nx (rS ts ss .un .un) := i4
      simp only [Bool.and_eq_true, decide_eq_true_eq] at q
      obtain ⟨⟨c1, c2⟩, q⟩ := q
      rcases law_order_loop (.dat (.tup [.tup ts, .tup ss])) (.dat (.tup ts)) ss (List.all_eq_true.mp q) .un .un ss 0 .un .un (List.all_eq_true.mp q) with ⟨e, y1, y2, h⟩ | ⟨e, y1, y2, h⟩
      · have i5 : q_law_is_right_5 (rS ts ss .un .un) = .nx (rS ts ss y1 y2) := by
          unfold rS
          simp [enumD_eq, h]
        have ep : isProgD (.tup [.tup ts, .tup ss]) = coverD ts.length ss := by simp [isProgD, q, e, qT, c1, c2]
        rw [ep]
        exact ⟨rsB y1, rsB y2, _, seq_nx i3 (seq_nx i4 (seq_nx i5 (seq_nx (ir6 c2 q y2 y1) (ir7 tl q (rsB y2) y1))))⟩
      · have i5 : q_law_is_right_5 (rS ts ss .un .un) = .rt (.dat (.bl false)) (rS ts ss y1 y2) := by
          unfold rS
          simp [enumD_eq, h]
        have ep : isProgD (.tup [.tup ts, .tup ss]) = false := by simp [isProgD, e]
        rw [ep]
        refine ⟨y1, y2, .un, seq_nx i3 (seq_nx i4 ?_)⟩
        rw [e_sSeq, i5]
        rfl
theorem ir_odd {T S : D} (hT : niceB T = true) (hS : niceB S = true) (no : (∀ ts, T ≠ .tup ts) ∨ ∀ ss, S ≠ .tup ss) : f_law_is_right [.dat (.tup [T, S])] = .ok (.dat (.bl false)) [.un] := by
  have tT := gIsi_tup_no (d := T) hT
  have tS := gIsi_tup_no (d := S) hS
  rcases tup_or T with ⟨ts, rfl⟩ | nT
  · rcases no with no | no
    · exact absurd rfl (no _)
    · have := tS no
      simp [f_law_is_right, toF_at, m_law_is_right, outs_cons, outs_nil, isTy, this]
  · have := tT nT
    simp [f_law_is_right, toF_at, m_law_is_right, outs_cons, outs_nil, isTy, this]
theorem is_right_eq {d : D} (h : niceB d = true) (hc : pgB d = true) : f_law_is_right [.dat d] = .ok (.dat (.bl (isProgD d))) [.un] := by
  rcases tup_or d with ⟨ds, rfl⟩ | no
  · rcases tup_cases ds with rfl | ⟨a, rfl⟩ | ⟨T, S, rfl⟩ | ⟨a, b, c, es, rfl⟩
    · simp [f_law_is_right, toF_at, m_law_is_right, outs_cons, outs_nil, isTy, isProgD]
    · simp [f_law_is_right, toF_at, m_law_is_right, outs_cons, outs_nil, isTy, isProgD]
    · simp at h
      obtain ⟨hT, hS⟩ := h
      rcases tup_or T with ⟨ts, rfl⟩ | no
      · rcases tup_or S with ⟨ss, rfl⟩ | no'
        · obtain ⟨x5, x4, x6, e⟩ := ir_tup (ts := ts) (ss := ss) (by simpa using hT) (by simpa using hS) (List.all_eq_true.mp hc)
          rw [f_law_is_right, toF_at]
          show toR [] 1 (m_law_is_right [.dat (.tup [.tup ts, .tup ss]), .un, .un, .un, .un, .un, .un]) = _
          rw [e]
          simp [outs_cons, outs_nil]
        · rw [prog_odd no', ir_odd hT hS (.inr no')]
      · have : isProgD (.tup [T, S]) = false := by
          unfold isProgD
          split
          · rename_i ts ss heq
            cases heq
            exact absurd rfl (no _)
          · rfl
        rw [this, ir_odd hT hS (.inl no)]
    · have e : ¬ ((es.length : Int) + 1 + 1 + 1 = 2) := by omega
      simp [f_law_is_right, toF_at, m_law_is_right, outs_cons, outs_nil, isTy, isProgD, e]
  · cases d <;> first
      | simp [niceB] at h; done
      | exact absurd rfl (no _)
      | (simp [f_law_is_right, toF_at, m_law_is_right, outs_cons, outs_nil, isTy, isProgD]; done)
end Law

set_option Elab.async false
set_option linter.all false
set_option maxRecDepth 100000
set_option maxHeartbeats 1000000
namespace Dl
open PySem PySem.Spec L2
open PyProof.Rows hiding St

/-! ## what can be told as a text -/
def rpr (W k : Nat) (d : D) : Prop := ∃ p, toPy d = some p ∧ p.showable = true ∧ p.leavesShort 60 = true ∧ p.weight ≤ W ∧ p.depth ≤ k
theorem rpr.mono {W k W' k' : Nat} {d : D} (h : rpr W k d) (a : W ≤ W' := by omega) (b : k ≤ k' := by omega) : rpr W' k' d :=
  let ⟨p, h1, h2, h3, h4, h5⟩ := h
  ⟨p, h1, h2, h3, by omega, by omega⟩
theorem rpr_non {W k : Nat} : rpr W k .non := ⟨.none, rfl, rfl, rfl, Nat.zero_le _, Nat.zero_le _⟩
theorem rpr_bl {W k : Nat} (b : Bool) : rpr W k (.bl b) := ⟨.bool b, rfl, rfl, rfl, Nat.zero_le _, Nat.zero_le _⟩
theorem rpr_dk {W k : Nat} : rpr W (k + 1) (.dk []) := ⟨.dict [], rfl, rfl, rfl, Nat.zero_le _, by simp [PyData.depth, PyData.depthKv]⟩
theorem rpr_int {k : Nat} {i : Int} (h : i.natAbs < 10 ^ 41) : rpr 150 k (.int i) := by
  have hl : i.natAbs.log2 < 140 := by
    by_cases z : i.natAbs = 0
    · rw [z]
      decide
    · exact (Nat.log2_lt z).mpr (Nat.lt_of_lt_of_le h (by decide))
  refine ⟨.int i, rfl, ?_, ?_, ?_, Nat.zero_le _⟩
  · simp only [PyData.showable, decide_eq_true_eq]
    omega
  · simp only [PyData.leavesShort, decide_eq_true_eq]
    have e := int_text_length_le10 (k := 41) (by decide) h
    show (Str.ofString (toString i)).length ≤ 60
    rw [PySem.ofString_length]
    omega
  · simp only [PyData.weight]
    split <;> omega
theorem rpr_str {W k : Nat} (s : String) (h1 : ((Str.ofString s).cps.toList.all fun c => decide (c < 16 ^ 8)) = true) (h2 : (Str.ofString s).cps.size ≤ W) : rpr W k (.str (Str.ofString s)) :=
  ⟨.str (Str.ofString s), rfl, rfl, h1, h2, Nat.zero_le _⟩
theorem rprs {W k : Nat} : ∀ {ds : List D}, (∀ d ∈ ds, rpr W k d) → ∃ ps, toPys ds = some ps ∧ PyData.showableAll ps = true ∧ PyData.leavesShortAll 60 ps = true ∧ PyData.weightAll ps ≤ ds.length * (W + 1) ∧ PyData.depthAll ps ≤ k
  | [], _ => ⟨[], rfl, rfl, rfl, by simp [PyData.weightAll], Nat.zero_le _⟩
  | d :: ds, h => by
    obtain ⟨p, h1, h2, h3, h4, h5⟩ := h d List.mem_cons_self
    obtain ⟨ps, k1, k2, k3, k4, k5⟩ := rprs fun e m => h e (List.mem_cons_of_mem _ m)
    refine ⟨p :: ps, by simp [toPys, h1, k1], by simp [PyData.showableAll, h2, k2], by simp [PyData.leavesShortAll, h3, k3], ?_, ?_⟩
    · simp only [PyData.weightAll, List.length_cons]
      rw [Nat.succ_mul]
      omega
    · simp only [PyData.depthAll]
      omega
theorem rpr_tup {W k n : Nat} {ds : List D} (h : ∀ d ∈ ds, rpr W k d) (hl : ds.length ≤ n) : rpr (n * (W + 1)) (k + 1) (.tup ds) := by
  obtain ⟨ps, k1, k2, k3, k4, k5⟩ := rprs h
  have := Nat.mul_le_mul_right (W + 1) hl
  refine ⟨.tuple ps, by simp [toPy, k1], by simpa [PyData.showable] using k2, by simpa [PyData.leavesShort] using k3, ?_, ?_⟩
  · simp only [PyData.weight]
    omega
  · simp only [PyData.depth]
    omega
theorem rpr_lst {W k n : Nat} {ds : List D} (h : ∀ d ∈ ds, rpr W k d) (hl : ds.length ≤ n) : rpr (n * (W + 1)) (k + 1) (.lst ds) := by
  obtain ⟨ps, k1, k2, k3, k4, k5⟩ := rprs h
  have := Nat.mul_le_mul_right (W + 1) hl
  refine ⟨.list ps, by simp [toPy, k1], by simpa [PyData.showable] using k2, by simpa [PyData.leavesShort] using k3, ?_, ?_⟩
  · simp only [PyData.weight]
    omega
  · simp only [PyData.depth]
    omega
theorem gRepr_ok {d : D} (h : rpr 260000 60 d) : ∃ t, gRepr [d] = some (.dat (.str t)) := by
  obtain ⟨p, h1, h2, h3, h4, h5⟩ := h
  have hs := PyData.shown_le 60 (by decide) p h3
  have hm : 62 * p.weight ≤ 62 * 260000 := Nat.mul_le_mul_left _ h4
  have hz : p.shown.length ≤ sizeLine := by
    rw [sizeLine_eq]
    omega
  refine ⟨p.shown, ?_⟩
  unfold gRepr
  simp only [h1, Option.bind]
  rw [if_pos ⟨h2, hz, h5⟩]
theorem gNe_text (t : Str) : gNe (.str t) (.str t) = some (.dat (.bl false)) := by
  cases c : shp (.str t) with
  | true => rw [gNe_of c c, eqD_str]; simp
  | false =>
    unfold gNe
    rw [c]
    simp [lstOf, dkStr, strStr]
/-! ## odd things -/
structure Odd (W k : Nat) (d : D) : Prop where
  nc : niceB d = true
  cm : cmpB d = true
  sl : slB d = true
  st : stB d = true
  rp : rpr W k d
theorem Odd.mono {W k W' k' : Nat} {d : D} (h : Odd W k d) (a : W ≤ W' := by omega) (b : k ≤ k' := by omega) : Odd W' k' d := ⟨h.nc, h.cm, h.sl, h.st, h.rp.mono a b⟩
section
variable {W k : Nat}
theorem odd_non : Odd W k .non := ⟨rfl, by simp [cmpB], rfl, rfl, rpr_non⟩
theorem odd_bl (b : Bool) : Odd W k (.bl b) := ⟨by simp, by simp [cmpB], rfl, rfl, rpr_bl b⟩
theorem odd_int {i : Int} (h : i.natAbs < 10 ^ 41) (hW : 150 ≤ W) : Odd W k (.int i) := ⟨by simp, by simp [cmpB], rfl, rfl, (rpr_int (k := k) h).mono⟩
theorem odd_str (s : String) (h1 : ((Str.ofString s).cps.toList.all fun c => decide (c < 16 ^ 8)) = true) (h2 : (Str.ofString s).cps.size ≤ 20) (hW : 20 ≤ W) : Odd W k (.str (Str.ofString s)) := ⟨by simp, by simp [cmpB], rfl, rfl, (rpr_str (k := k) s h1 h2).mono⟩
theorem odd_dk (hk : 1 ≤ k) : Odd W k (.dk []) := ⟨by simp, rfl, rfl, rfl, rpr_dk.mono (Nat.le_refl _) hk⟩
theorem odd_nilT (hk : 1 ≤ k) : Odd W k (.tup []) := ⟨by simp, by simp [cmpB], rfl, rfl, (rpr_tup (W := 0) (k := 0) (n := 0) (fun _ m => absurd m List.not_mem_nil) (Nat.le_refl _)).mono (by omega) hk⟩
theorem odd_nilL (hk : 1 ≤ k) : Odd W k (.lst []) := ⟨by simp, by simp [cmpB], rfl, rfl, (rpr_lst (W := 0) (k := 0) (n := 0) (fun _ m => absurd m List.not_mem_nil) (Nat.le_refl _)).mono (by omega) hk⟩
end
theorem shn_cmp {d : D} {n : Nat} (h : shn n d = true) (l : n ≤ 64 := by omega) : cmpB d = true := by
  cases d <;> first
    | exact shp_of h l
    | rfl
theorem odd_oneT {V kx W k : Nat} {x : D} (hn : niceB x = true) (hs : shn 60 x = true) (hr : rpr V kx x) (hW : V + 1 ≤ W) (hk : kx + 1 ≤ k) : Odd W k (.tup [x]) :=
  ⟨by simp [hn], shn_cmp (n := 61) (by rw [show (61 : Nat) = 60 + 1 from rfl, shn_tup]; simp [hs]), rfl, rfl, (rpr_tup (n := 1) (W := V) (k := kx) (fun d m => by rw [List.mem_singleton.mp m]; exact hr) (Nat.le_refl _)).mono (by omega) hk⟩
theorem odd_oneL {V kx W k : Nat} {x : D} (hn : niceB x = true) (hs : shn 60 x = true) (hr : rpr V kx x) (hW : V + 1 ≤ W) (hk : kx + 1 ≤ k) : Odd W k (.lst [x]) :=
  ⟨by simp [hn], shn_cmp (n := 61) (by rw [show (61 : Nat) = 60 + 1 from rfl, shn_lst]; simp [hs]), rfl, rfl, (rpr_lst (n := 1) (W := V) (k := kx) (fun d m => by rw [List.mem_singleton.mp m]; exact hr) (Nat.le_refl _)).mono (by omega) hk⟩
/-- two items, shaped -/
theorem odd_two {V kx W k : Nat} {x y : D} (hn : niceB x = true) (hn' : niceB y = true) (hs : shn 59 x = true) (hs' : shn 60 y = true) (hy : slB y = true) (hr : rpr V kx x) (hr' : rpr V kx y) (hW : 2 * (V + 1) ≤ W) (hk : kx + 1 ≤ k) : Odd W k (.tup [x, y]) :=
  ⟨by simp [hn, hn'], shn_cmp (n := 61) (by rw [show (61 : Nat) = 60 + 1 from rfl, shn_tup]; simp [shn_mono hs (show 59 ≤ 60 by decide), hs']), shn_cmp (n := 59) hs, by
    show (cmpB x && slB y) = true
    rw [shn_cmp (n := 59) hs, hy]
    rfl, (rpr_tup (n := 2) (W := V) (k := kx) (fun d m => by
      simp only [List.mem_cons, List.not_mem_nil, or_false] at m
      rcases m with rfl | rfl
      · exact hr
      · exact hr') (Nat.le_refl _)).mono (by omega) hk⟩
theorem rpr_key {W k : Nat} (h : 20 ≤ W) : rpr W k (.str (Str.ofString "key")) := (rpr_str (W := 20) (k := k) "key" (by decide +kernel) (by decide +kernel)).mono
theorem rpr_box {W k : Nat} (h : 20 ≤ W) : rpr W k (.str (Str.ofString "box")) := (rpr_str (W := 20) (k := k) "box" (by decide +kernel) (by decide +kernel)).mono
theorem rpr_read {W k : Nat} (h : 20 ≤ W) : rpr W k (.str (Str.ofString "read")) := (rpr_str (W := 20) (k := k) "read" (by decide +kernel) (by decide +kernel)).mono
theorem rpr_write {W k : Nat} (h : 20 ≤ W) : rpr W k (.str (Str.ofString "write")) := (rpr_str (W := 20) (k := k) "write" (by decide +kernel) (by decide +kernel)).mono
theorem rpr_wd {W k : Nat} (b : Bool) (h : 20 ≤ W) : rpr W k (wd b) := by
  cases b
  · exact rpr_read h
  · exact rpr_write h
def kd (i : Int) : String := if 0 ≤ i then "box" else "key"
def kn (i : Int) : Int := if 0 ≤ i then i else -1 - i
theorem slotD_kd (i : Int) : slotD i = .tup [.str (Str.ofString (kd i)), .int (kn i)] := rfl
theorem rpr_kd {W k : Nat} (i : Int) (h : 20 ≤ W) : rpr W k (.str (Str.ofString (kd i))) := by
  unfold kd
  split
  · exact rpr_box h
  · exact rpr_key h
theorem kn_le {n i : Int} (h : okC n i) (hn : n ≤ 3) : (kn i).natAbs < 10 ^ 41 := by
  unfold okC at h
  unfold kn
  have e : (1000000 : Nat) < 10 ^ 41 := by decide
  split <;> omega
theorem rpr_slotD {n i : Int} (h : okC n i) (hn : n ≤ 3) : rpr 302 1 (slotD i) := by
  refine (rpr_tup (n := 2) (W := 150) (k := 0) (fun d m => ?_) (Nat.le_refl _)).mono
  simp only [List.mem_cons, List.not_mem_nil, or_false] at m
  rcases m with rfl | rfl
  · exact rpr_kd i (by omega)
  · exact rpr_int (kn_le h hn)
theorem rpr_stp {n : Int} {p : Wb} (h : okC n p.2) (hn : n ≤ 3) : rpr 606 2 (stp p) := by
  refine (rpr_tup (n := 2) (W := 302) (k := 1) (fun d m => ?_) (Nat.le_refl _)).mono
  simp only [List.mem_cons, List.not_mem_nil, or_false] at m
  rcases m with rfl | rfl
  · exact rpr_wd _ (by omega)
  · exact rpr_slotD h hn
theorem nice_slotD (i : Int) : niceB (slotD i) = true := by simp [slotD]
theorem nice_stp (p : Wb) : niceB (stp p) = true := by simp [stp, wd, nice_slotD]
theorem sl_slotD (i : Int) : slB (slotD i) = true := by simp [slotD, slB, cmpB]
theorem st_stp (p : Wb) : stB (stp p) = true := by
  show (cmpB (wd p.1) && slB (slotD p.2)) = true
  rw [sl_slotD]
  simp [wd, cmpB]
/-- what may stand in a step's place -/
structure Stl (d : D) : Prop where
  nc : niceB d = true
  st : stB d = true
  rp : rpr 3000 5 d
theorem Odd.stl {W k : Nat} {d : D} (h : Odd W k d) (a : W ≤ 3000 := by omega) (b : k ≤ 5 := by omega) : Stl d := ⟨h.nc, h.st, h.rp.mono a b⟩
theorem stl_stp {n : Int} {p : Wb} (h : okC n p.2) (hn : n ≤ 3) : Stl (stp p) := ⟨nice_stp p, st_stp p, (rpr_stp h hn).mono⟩
end Dl

set_option Elab.async false
set_option linter.all false
set_option maxRecDepth 100000
set_option maxHeartbeats 4000000
namespace Law
open PySem PySem.Spec L2 Dl
open PyProof.Rows hiding St

theorem of_spec (w : Well) {ds : List D} (h : ds ≠ []) (hl : ds.length ≤ 1000) : ∃ (d : D) (w' : Well), d ∈ ds ∧ f_law_of [.own w.ds, .dat (.lst ds)] = .ok (.dat d) [.own w'.ds, .un] := by
  have hp := List.length_pos_iff.mpr h
  obtain ⟨d, hd, eg⟩ := menu w (ds := ds) (n := (ds.length : Int)) rfl (by omega)
  refine ⟨d, w.aft ds.length, hd, ?_⟩
  have e := dig w (b := (ds.length : Int)) (by omega) (by omega)
  simp [f_law_of, toF_at, m_law_of, outs_cons, outs_nil, e, eg, -gIx_lst]
def oddsA : List D := [.non, .bl true, .bl false, .int (-1), .int 0, .int 1, .int 2, .int 3, .int 9, .int 10, .int 999999, .int 1000000, .str (Str.ofString ""), .str (Str.ofString "key"), .str (Str.ofString "box"), .str (Str.ofString "read"), .str (Str.ofString "write"), .tup [], .lst []]
def oddsB (x : D) : List D := [.tup [x], .lst [x], .dk [], .int 10000000000000000000000000000000000000000, .tup [.str (Str.ofString "box"), .int 5], .tup [.str (Str.ofString "key"), .int 0], .tup [.str (Str.ofString "read"), .tup [.str (Str.ofString "box"), .int 5]], .tup [.str (Str.ofString "key"), .int 3]]
theorem odd_pick (w : Well) (x : D) : ∃ (d : D) (w' : Well), d ∈ oddsA ++ oddsB x ∧ f_law_odd [.own w.ds, .dat x] = .ok (.dat d) [.own w'.ds, .un] := by
  obtain ⟨d, w', hd, e⟩ := of_spec w (ds := oddsA ++ oddsB x) (by simp [oddsA]) (by simp [oddsA, oddsB])
  refine ⟨d, w', hd, ?_⟩
  have ga : gAdd (.lst oddsA) (.lst (oddsB x)) = some (.own (oddsA ++ oddsB x)) := gAdd_lst (by simp [oddsA, oddsB])
  simp only [oddsA, oddsB, List.cons_append, List.nil_append] at ga e
  simp [f_law_odd, toF_at, m_law_odd, outs_cons, outs_nil, ga, e]
theorem odds_ok {V kx W k : Nat} {x : D} (hn : niceB x = true) (hs : shn 60 x = true) (hr : rpr V kx x) (hW : V + 1 ≤ W) (hk : kx + 1 ≤ k) (h1 : 700 ≤ W) (h2 : 2 ≤ k) : ∀ d ∈ oddsA ++ oddsB x, Odd W k d := by
  intro d m
  have e40 : (10000000000000000000000000000000000000000 : Int).natAbs < 10 ^ 41 := by decide
  have big : ∀ {i : Int}, -1 ≤ i → i ≤ 1000000 → i.natAbs < 10 ^ 41 := fun {i} a b => by
    have e : (1000000 : Nat) < 10 ^ 41 := by decide
    omega
  have five : rpr 150 0 (.int 5) := rpr_int (big (by decide) (by decide))
  have b5 : rpr 302 1 (.tup [.str (Str.ofString "box"), .int 5]) := (rpr_tup (n := 2) (W := 150) (k := 0) (fun d m => by
    simp only [List.mem_cons, List.not_mem_nil, or_false] at m
    rcases m with rfl | rfl
    · exact rpr_box (by omega)
    · exact five) (Nat.le_refl _)).mono
  simp only [oddsA, oddsB, List.cons_append, List.nil_append, List.mem_cons, List.not_mem_nil, or_false] at m
  rcases m with rfl | rfl | rfl | rfl | rfl | rfl | rfl | rfl | rfl | rfl | rfl | rfl | rfl | rfl | rfl | rfl | rfl | rfl | rfl | rfl | rfl | rfl | rfl | rfl | rfl | rfl | rfl
  · exact odd_non
  · exact odd_bl _
  · exact odd_bl _
  · exact odd_int (big (by decide) (by decide)) (by omega)
  · exact odd_int (big (by decide) (by decide)) (by omega)
  · exact odd_int (big (by decide) (by decide)) (by omega)
  · exact odd_int (big (by decide) (by decide)) (by omega)
  · exact odd_int (big (by decide) (by decide)) (by omega)
  · exact odd_int (big (by decide) (by decide)) (by omega)
  · exact odd_int (big (by decide) (by decide)) (by omega)
  · exact odd_int (big (by decide) (by decide)) (by omega)
  · exact odd_int (big (by decide) (by decide)) (by omega)
  · exact odd_str "" (by decide +kernel) (by decide +kernel) (by omega)
  · exact odd_str "key" (by decide +kernel) (by decide +kernel) (by omega)
  · exact odd_str "box" (by decide +kernel) (by decide +kernel) (by omega)
  · exact odd_str "read" (by decide +kernel) (by decide +kernel) (by omega)
  · exact odd_str "write" (by decide +kernel) (by decide +kernel) (by omega)
  · exact odd_nilT (by omega)
  · exact odd_nilL (by omega)
  · exact odd_oneT hn hs hr hW hk
  · exact odd_oneL hn hs hr hW hk
  · exact odd_dk (by omega)
  · exact odd_int e40 (by omega)
  · exact odd_two (V := 150) (kx := 0) (by simp) (by simp) (by simp) (by simp) rfl (rpr_box (by omega)) five (by omega) (by omega)
  · exact odd_two (V := 150) (kx := 0) (by simp) (by simp) (by simp) (by simp) rfl (rpr_key (by omega)) (rpr_int (big (by decide) (by decide))) (by omega) (by omega)
  · exact odd_two (V := 302) (kx := 1) (by simp) (by simp) (by simp) (by rw [show (60 : Nat) = 59 + 1 from rfl, shn_tup]; simp) (by simp [slB, cmpB]) (rpr_read (by omega)) b5 (by omega) (by omega)
  · exact odd_two (V := 150) (kx := 0) (by simp) (by simp) (by simp) (by simp) rfl (rpr_key (by omega)) (rpr_int (big (by decide) (by decide))) (by omega) (by omega)
/-- odd in the place of a small thing -/
theorem odd_small (w : Well) {x : D} (hn : niceB x = true) (hs : shn 60 x = true) (hr : rpr 150 0 x) : ∃ (d : D) (w' : Well), Odd 700 3 d ∧ f_law_odd [.own w.ds, .dat x] = .ok (.dat d) [.own w'.ds, .un] := by
  obtain ⟨d, w', hd, e⟩ := odd_pick w x
  exact ⟨d, w', odds_ok hn hs hr (by omega) (by omega) (by omega) (by omega) d hd, e⟩
theorem odd_step (w : Well) {n : Int} {p : Wb} (h : okC n p.2) (h3 : n ≤ 3) : ∃ (d : D) (w' : Well), Odd 700 3 d ∧ f_law_odd [.own w.ds, .dat (stp p)] = .ok (.dat d) [.own w'.ds, .un] := by
  obtain ⟨d, w', hd, e⟩ := odd_pick w (stp p)
  exact ⟨d, w', odds_ok (nice_stp p) (shn_mono (shn_stp p) (by decide)) (rpr_stp h h3) (by omega) (by omega) (by omega) (by omega) d hd, e⟩
end Law

set_option Elab.async false
set_option linter.all false
set_option maxRecDepth 100000
set_option maxHeartbeats 4000000
namespace Law
open PySem PySem.Spec L2 Dl
open PyProof.Rows hiding St

theorem two_rp {V k : Nat} {x y : D} (h : rpr V k x) (h' : rpr V k y) : rpr (2 * (V + 1)) (k + 1) (.tup [x, y]) := rpr_tup (fun d m => by
  simp only [List.mem_cons, List.not_mem_nil, or_false] at m
  rcases m with rfl | rfl
  · exact h
  · exact h') (Nat.le_refl _)
theorem two_rpL {V k : Nat} {x y : D} (h : rpr V k x) (h' : rpr V k y) : rpr (2 * (V + 1)) (k + 1) (.lst [x, y]) := rpr_lst (fun d m => by
  simp only [List.mem_cons, List.not_mem_nil, or_false] at m
  rcases m with rfl | rfl
  · exact h
  · exact h') (Nat.le_refl _)
theorem three_rp {V k : Nat} {x y z : D} (h : rpr V k x) (h' : rpr V k y) (h2 : rpr V k z) : rpr (3 * (V + 1)) (k + 1) (.tup [x, y, z]) := rpr_tup (fun d m => by
  simp only [List.mem_cons, List.not_mem_nil, or_false] at m
  rcases m with rfl | rfl | rfl
  · exact h
  · exact h'
  · exact h2) (Nat.le_refl _)
/-- the parts of a step -/
structure Prt (W0 K0 N0 : D) : Prop where
  wn : niceB W0 = true
  kn : niceB K0 = true
  nn : niceB N0 = true
  ws : shn 60 W0 = true
  ks : shn 50 K0 = true
  ns : shn 50 N0 = true
  wr : rpr 150 0 W0
  kr : rpr 150 0 K0
  nr : rpr 150 0 N0
  sw : slB W0 = true
theorem prt_of {n : Int} {p : Wb} (h : okC n p.2) (h3 : n ≤ 3) : Prt (wd p.1) (.str (Str.ofString (kd p.2))) (.int (kn p.2)) :=
  ⟨by simp [wd], by simp, by simp, by simp [wd], by simp, by simp, rpr_wd _ (by omega), rpr_kd _ (by omega), rpr_int (kn_le h h3), rfl⟩
def menu3 (W0 K0 N0 : D) : List D := [.tup [W0, .lst [K0, N0]], .lst [W0, .tup [K0, N0]], .tup [.tup [K0, N0], W0], .tup [W0], .tup [W0, .tup [K0, N0], .int 1], .tup [W0, .tup [K0, N0, .int 0]]]
theorem menu3_ok {W0 K0 N0 : D} (h : Prt W0 K0 N0) : ∀ d ∈ menu3 W0 K0 N0, Stl d := by
  obtain ⟨wn, kn, nn, ws, ks, ns, wr, kr, nr, sw⟩ := h
  have cW : cmpB W0 = true := shn_cmp ws
  have cK : cmpB K0 = true := shn_cmp ks
  have cS : cmpB (.tup [K0, N0]) = true := shn_cmp (n := 51) (by rw [show (51 : Nat) = 50 + 1 from rfl, shn_tup]; simp [ks, ns])
  have i1 : rpr 150 0 (.int 1) := rpr_int (by decide)
  have i0 : rpr 150 0 (.int 0) := rpr_int (by decide)
  have s1 := two_rp kr nr
  have s2 := two_rpL kr nr
  have s3 := three_rp kr nr i0
  intro d m
  simp only [menu3, List.mem_cons, List.not_mem_nil, or_false] at m
  rcases m with rfl | rfl | rfl | rfl | rfl | rfl
  · exact ⟨by simp [wn, kn, nn], by simp [stB, cW, slB], (two_rp (V := 302) (k := 1) wr.mono s2).mono⟩
  · exact ⟨by simp [wn, kn, nn], rfl, (two_rpL (V := 302) (k := 1) wr.mono s1).mono⟩
  · exact ⟨by simp [wn, kn, nn], by simp only [stB, cS, sw, Bool.and_self], (two_rp (V := 302) (k := 1) s1 wr.mono).mono⟩
  · exact ⟨by simp [wn], rfl, (rpr_tup (n := 1) (W := 150) (k := 0) (fun d m => by rw [List.mem_singleton.mp m]; exact wr) (Nat.le_refl _)).mono⟩
  · exact ⟨by simp [wn, kn, nn], rfl, (three_rp (V := 302) (k := 1) wr.mono s1 i1.mono).mono⟩
  · exact ⟨by simp [wn, kn, nn], by simp [stB, cW, slB], (two_rp (V := 453) (k := 1) wr.mono s3).mono⟩
theorem ss_eval (w : Well) {W0 K0 N0 : D} {b : Bool} (h : Prt W0 K0 N0) (g : gEq W0 (.str (Str.ofString "read")) = some (.dat (.bl b)))
    (odd : ∀ w : Well, ∃ (d : D) (w' : Well), Odd 700 3 d ∧ f_law_odd [.own w.ds, .dat (.tup [W0, .tup [K0, N0]])] = .ok (.dat d) [.own w'.ds, .un]) :
    ∃ (d : D) (w' : Well), Stl d ∧ f_law_spoilt_step [.own w.ds, .dat (.tup [W0, .tup [K0, N0]])] = .ok (.dat d) [.own w'.ds, .un] := by
  have l0 := w.lo (b := 6) (by decide)
  have l1 := w.hi (b := 6) (by decide)
  have e0 := dig w (b := 6) (by decide) (by decide)
  obtain ⟨o1, w1, k1, f1⟩ := odd_small (w.aft 6) h.wn h.ws h.wr
  obtain ⟨o2, w2, k2, f2⟩ := odd_small (w.aft 6) h.kn (shn_mono h.ks (by decide)) h.kr
  obtain ⟨o3, w3, k3, f3⟩ := odd_small (w.aft 6) h.nn (shn_mono h.ns (by decide)) h.nr
  obtain ⟨o4, w4, k4, f4⟩ := odd (w.aft 6)
  obtain ⟨d5, w5, m5, f5⟩ := of_spec (w.aft 6) (ds := menu3 W0 K0 N0) (by simp [menu3]) (by simp [menu3])
  have k5 := menu3_ok h d5 m5
  have cW : cmpB W0 = true := shn_cmp h.ws
  have cK : cmpB K0 = true := shn_cmp h.ks
  have s1 := two_rp h.kr h.nr
  have wn := h.wn
  have kn := h.kn
  have nn := h.nn
  simp only [menu3] at f5
  rcases (show w.fig 6 = 0 ∨ w.fig 6 = 1 ∨ w.fig 6 = 2 ∨ w.fig 6 = 3 ∨ w.fig 6 = 4 ∨ w.fig 6 = 5 by omega) with e | e | e | e | e | e
  · refine ⟨.tup [o1, .tup [K0, N0]], w1, ⟨by simp [k1.nc, kn, nn], by simp [stB, k1.cm, slB, cK], (two_rp (V := 700) (k := 4) k1.rp.mono s1.mono).mono⟩, ?_⟩
    simp [f_law_spoilt_step, toF_at, m_law_spoilt_step, outs_cons, outs_nil, e0, e, f1]
  · refine ⟨.tup [W0, .tup [o2, N0]], w2, ⟨by simp [k2.nc, wn, nn], by simp [stB, k2.cm, slB, cW], (two_rp (V := 1402) (k := 4) h.wr.mono (two_rp (V := 700) (k := 3) k2.rp.mono h.nr.mono)).mono⟩, ?_⟩
    simp [f_law_spoilt_step, toF_at, m_law_spoilt_step, outs_cons, outs_nil, e0, e, f2]
  · refine ⟨.tup [W0, .tup [K0, o3]], w3, ⟨by simp [k3.nc, wn, kn], by simp [stB, cW, slB, cK], (two_rp (V := 1402) (k := 4) h.wr.mono (two_rp (V := 700) (k := 3) h.kr.mono k3.rp.mono)).mono⟩, ?_⟩
    simp [f_law_spoilt_step, toF_at, m_law_spoilt_step, outs_cons, outs_nil, e0, e, f3]
  · refine ⟨d5, w5, k5, ?_⟩
    have a1 : gAdd (.tup [W0, .tup [K0, N0]]) (.tup [.int 1]) = some (.dat (.tup [W0, .tup [K0, N0], .int 1])) := gAdd_tup (by simp)
    have a2 : gAdd (.tup [K0, N0]) (.tup [.int 0]) = some (.dat (.tup [K0, N0, .int 0])) := gAdd_tup (by simp)
    simp [f_law_spoilt_step, toF_at, m_law_spoilt_step, outs_cons, outs_nil, e0, e, f5, a1, a2]
  · refine ⟨.tup [wd b, .tup [K0, N0]], w.aft 6, ⟨by simp [wd, kn, nn], by show (cmpB (wd b) && cmpB K0) = true; rw [cK]; simp [wd, cmpB], (two_rp (V := 302) (k := 4) (rpr_wd b (by omega)) s1.mono).mono⟩, ?_⟩
    cases b <;> simp [f_law_spoilt_step, toF_at, m_law_spoilt_step, outs_cons, outs_nil, e0, e, g, wd]
  · refine ⟨o4, w4, k4.stl, ?_⟩
    simp [f_law_spoilt_step, toF_at, m_law_spoilt_step, outs_cons, outs_nil, e0, e, f4]
theorem spoilt_step_spec (w : Well) {n : Int} {p : Wb} (h : okC n p.2) (h3 : n ≤ 3) : ∃ (d : D) (w' : Well), Stl d ∧ f_law_spoilt_step [.own w.ds, .dat (stp p)] = .ok (.dat d) [.own w'.ds, .un] := by
  obtain ⟨b, i⟩ := p
  refine ss_eval (b := decide (b = false)) w (prt_of h h3) ?_ fun w => odd_step w h h3
  have e := eqD_wd b false
  rw [gEq_of (by simp [wd]) (by simp)]
  exact congrArg _ (congrArg _ (congrArg _ e))
end Law

set_option Elab.async false
set_option linter.all false
set_option maxRecDepth 100000
set_option maxHeartbeats 4000000
namespace Law
open PySem PySem.Spec L2 Dl
open PyProof.Rows hiding St

/-- what may be judged, and told -/
structure Th (d : D) : Prop where
  nc : niceB d = true
  pg : pgB d = true
  rp : rpr 42100 7 d
/-- a tables' list, a steps' list, as they may become -/
structure TL (L : List D) : Prop where
  nc : ∀ d ∈ L, niceB d = true
  st : ∀ d ∈ L, stB d = true
  rp : rpr 21007 6 (.tup L)
  rl : rpr 21007 6 (.lst L)
theorem TL.nice {L : List D} (h : TL L) : niceB (.tup L) = true := by
  rw [nice_tup, List.all_eq_true]
  exact h.nc
theorem TL.niceL {L : List D} (h : TL L) : niceB (.lst L) = true := by
  rw [nice_lst, List.all_eq_true]
  exact h.nc
theorem TL.all {L : List D} (h : TL L) : L.all stB = true := List.all_eq_true.mpr h.st
theorem tl_of {L : List D} {W k n : Nat} (h : ∀ d ∈ L, niceB d = true ∧ stB d = true ∧ rpr W k d) (hn : L.length ≤ n) (hb : n * (W + 1) ≤ 21007) (hk : k ≤ 5) : TL L :=
  ⟨fun d m => (h d m).1, fun d m => (h d m).2.1, (rpr_tup (fun d m => (h d m).2.2) hn).mono hb (by omega), (rpr_lst (fun d m => (h d m).2.2) hn).mono hb (by omega)⟩
theorem th_two {T S : List D} (hT : TL T) (hS : TL S) : Th (.tup [.tup T, .tup S]) :=
  ⟨by simp only [nice_tup, List.all_cons, List.all_nil, Bool.and_true, Bool.and_eq_true]; exact ⟨by simpa using hT.nice, by simpa using hS.nice⟩, hS.all, (two_rp hT.rp hS.rp).mono⟩
theorem put_eq (xs : List D) (k : Nat) (d : D) (hl : xs.length ≤ 1000) : f_law_put [.dat (.tup xs), .dat (.int (k : Int)), .dat d] = .ok (.dat (.tup (xs.take k ++ [d] ++ xs.drop (k + 1)))) [.un, .un, .un] := by
  have h1 := List.length_take_le k xs
  have h2 : (xs.drop (k + 1)).length ≤ xs.length := by rw [List.length_drop]; omega
  have a1 : gAdd (.tup (xs.take k)) (.tup [d]) = some (.dat (.tup (xs.take k ++ [d]))) := gAdd_tup (by simp; omega)
  have a2 : gAdd (.tup (xs.take k ++ [d])) (.tup (xs.drop (k + 1))) = some (.dat (.tup (xs.take k ++ [d] ++ xs.drop (k + 1)))) := gAdd_tup (by simp; omega)
  have c : cutD xs (some ((k : Int) + 1)) none = xs.drop (k + 1) := cut_hi xs (k + 1)
  simp only [List.append_assoc, List.cons_append, List.nil_append] at a2 ⊢
  simp [f_law_put, toF_at, m_law_put, outs_cons, outs_nil, a1, a2, c]
/-- tables and steps, as good ones -/
structure WP (T S : List D) : Prop where
  tl : T.length ≤ 3
  tn : ∀ d ∈ T, niceB d = true ∧ stB d = true ∧ rpr 150 0 d
  sl : S.length ≤ 6
  s0 : 1 ≤ S.length
  sn : ∀ d ∈ S, niceB d = true ∧ stB d = true ∧ rpr 606 2 d
  ss : ∀ d ∈ S, slB d = true ∨ True
  pg : pgB (.tup S) = true
  sp : ∀ d ∈ S, ∀ w : Well, ∃ (d' : D) (w' : Well), Stl d' ∧ f_law_spoilt_step [.own w.ds, .dat d] = .ok (.dat d') [.own w'.ds, .un]
theorem WP.T {T S : List D} (g : WP T S) : TL T := tl_of g.tn g.tl (by decide) (by decide)
theorem WP.S {T S : List D} (g : WP T S) : TL S := tl_of g.sn g.sl (by decide) (by decide)
theorem stl_tri {d : D} (h : Stl d) : niceB d = true ∧ stB d = true ∧ rpr 3000 5 d := ⟨h.nc, h.st, h.rp⟩
theorem odd_tri {d : D} (h : Odd 700 3 d) : niceB d = true ∧ stB d = true ∧ rpr 700 3 d := ⟨h.nc, h.st, h.rp⟩
theorem tri_mono {d : D} {W k W' k' : Nat} (h : niceB d = true ∧ stB d = true ∧ rpr W k d) (a : W ≤ W' := by omega) (b : k ≤ k' := by omega) : niceB d = true ∧ stB d = true ∧ rpr W' k' d := ⟨h.1, h.2.1, h.2.2.mono a b⟩
theorem put_tl {L : List D} {W k n : Nat} {x : D} (h : ∀ d ∈ L, niceB d = true ∧ stB d = true ∧ rpr W k d) (hx : niceB x = true ∧ stB x = true ∧ rpr W k x) (i : Nat) (hn : L.length + 1 ≤ n) (hb : n * (W + 1) ≤ 21007) (hk : k ≤ 5) : TL (L.take i ++ [x] ++ L.drop (i + 1)) := by
  refine tl_of (fun d m => ?_) (n := n) ?_ hb hk
  · rcases List.mem_append.mp m with m | m
    · rcases List.mem_append.mp m with m | m
      · exact h d (List.mem_of_mem_take m)
      · rw [List.mem_singleton.mp m]
        exact hx
    · exact h d (List.mem_of_mem_drop m)
  · simp
    omega
theorem ins_tl {L : List D} {W k n : Nat} {x : D} (h : ∀ d ∈ L, niceB d = true ∧ stB d = true ∧ rpr W k d) (hx : niceB x = true ∧ stB x = true ∧ rpr W k x) (i : Nat) (hn : L.length + 1 ≤ n) (hb : n * (W + 1) ≤ 21007) (hk : k ≤ 5) : TL (L.take i ++ [x] ++ L.drop i) := by
  refine tl_of (fun d m => ?_) (n := n) ?_ hb hk
  · rcases List.mem_append.mp m with m | m
    · rcases List.mem_append.mp m with m | m
      · exact h d (List.mem_of_mem_take m)
      · rw [List.mem_singleton.mp m]
        exact hx
    · exact h d (List.mem_of_mem_drop m)
  · simp
    omega
def menuA (T S : List D) : List D := [.lst [.tup T, .tup S], .tup [.tup T, .tup S, .int 1], .tup [.tup T], .tup [.lst T, .tup S], .tup [.tup T, .lst S], .tup S, .non, .tup []]
def menuB (T S : List D) : List D := [.tup [.tup S, .tup T], .tup [.tup T, .tup []], .tup [.tup T, .non], .tup [.non, .tup S], .str (Str.ofString "program")]
theorem menu_ok {T S : List D} (g : WP T S) : ∀ d ∈ menuA T S ++ menuB T S, Th d := by
  have hT := g.T
  have hS := g.S
  have nT : ∀ d ∈ T, niceB d = true := hT.nc
  have nS : ∀ d ∈ S, niceB d = true := hS.nc
  have z : TL [] := ⟨fun _ m => absurd m List.not_mem_nil, fun _ m => absurd m List.not_mem_nil, (rpr_tup (W := 0) (k := 0) (n := 0) (fun _ m => absurd m List.not_mem_nil) (Nat.le_refl _)).mono, (rpr_lst (W := 0) (k := 0) (n := 0) (fun _ m => absurd m List.not_mem_nil) (Nat.le_refl _)).mono⟩
  have i1 : rpr 150 0 (.int 1) := rpr_int (by decide)
  have t453 : rpr 453 1 (.tup T) := rpr_tup (n := 3) (fun d m => (g.tn d m).2.2) g.tl
  have s3642 : rpr 3642 3 (.tup S) := rpr_tup (n := 6) (fun d m => (g.sn d m).2.2) g.sl
  intro d m
  simp only [menuA, menuB, List.cons_append, List.nil_append, List.mem_cons, List.not_mem_nil, or_false] at m
  rcases m with rfl | rfl | rfl | rfl | rfl | rfl | rfl | rfl | rfl | rfl | rfl | rfl | rfl
  · exact ⟨by simp; exact ⟨nT, nS⟩, rfl, (two_rpL hT.rp hS.rp).mono⟩
  · exact ⟨by simp; exact ⟨nT, nS⟩, rfl, (three_rp (V := 3642) (k := 3) t453.mono s3642 i1.mono).mono⟩
  · exact ⟨by simp; exact nT, rfl, (rpr_tup (n := 1) (W := 453) (k := 1) (fun d m => by rw [List.mem_singleton.mp m]; exact t453) (Nat.le_refl _)).mono⟩
  · exact ⟨by simp; exact ⟨nT, nS⟩, hS.all, (two_rp hT.rl hS.rp).mono⟩
  · exact ⟨by simp; exact ⟨nT, nS⟩, rfl, (two_rp hT.rp hS.rl).mono⟩
  · exact ⟨by simp; exact nS, g.pg, hS.rp.mono⟩
  · exact ⟨rfl, rfl, rpr_non⟩
  · exact ⟨by simp, rfl, z.rp.mono⟩
  · exact th_two hS hT
  · exact th_two hT z
  · exact ⟨by simp; exact nT, rfl, (two_rp hT.rp rpr_non).mono⟩
  · exact ⟨by simp; exact nS, hS.all, (two_rp rpr_non hS.rp).mono⟩
  · exact ⟨by simp, rfl, (rpr_str (W := 20) (k := 0) "program" (by decide +kernel) (by decide +kernel)).mono⟩
theorem spoilt_spec (w : Well) {T S : List D} (g : WP T S) : ∃ (d : D) (w' : Well), Th d ∧ f_law_spoilt [.own w.ds, .dat (.tup [.tup T, .tup S])] = .ok (.dat d) [.own w'.ds, .un] := by
  have tl := g.tl
  have sl := g.sl
  have s0 := g.s0
  have a0 := w.lo (b := 9) (by decide)
  have a1 := w.hi (b := 9) (by decide)
  have e1 := dig w (b := 9) (by decide) (by decide)
  have b0 := (w.aft 9).lo (b := (S.length : Int)) (by omega)
  have b1 := (w.aft 9).hi (b := (S.length : Int)) (by omega)
  have e2 := dig (w.aft 9) (b := (S.length : Int)) (by omega) (by omega)
  obtain ⟨k, hk⟩ : ∃ k : Nat, (w.aft 9).fig (S.length : Int) = (k : Int) := ⟨((w.aft 9).fig (S.length : Int)).toNat, by omega⟩
  rw [hk] at e2 b1
  generalize (w.aft 9).aft (S.length : Int) = w2 at *
  have c0 := w2.lo (b := (T.length : Int) + 1) (by omega)
  have c1 := w2.hi (b := (T.length : Int) + 1) (by omega)
  have e3 := dig w2 (b := (T.length : Int) + 1) (by omega) (by omega)
  obtain ⟨j, hj⟩ : ∃ j : Nat, w2.fig ((T.length : Int) + 1) = (j : Int) := ⟨(w2.fig ((T.length : Int) + 1)).toNat, by omega⟩
  rw [hj] at e3 c1
  generalize w2.aft ((T.length : Int) + 1) = w3 at *
  have kl : k < S.length := by omega
  have start : m_law_spoilt [.own w.ds, .dat (.tup [.tup T, .tup S]), .un, .un, .un, .un, .un, .un] = (sSeq q_law_spoilt_4 (sSeq q_law_spoilt_5 (sSeq q_law_spoilt_6 (sSeq q_law_spoilt_7 (sSeq q_law_spoilt_8 (sSeq q_law_spoilt_9 (sSeq q_law_spoilt_10 (sSeq q_law_spoilt_11 q_law_spoilt_12)))))))) [.own w3.ds, .dat (.tup [.tup T, .tup S]), .dat (.tup T), .dat (.tup S), .dat (.int (w.fig 9)), .dat (.int (k : Int)), .dat (.int (j : Int)), .un] := by
    simp [m_law_spoilt, e1, e2, e3, -uq_law_spoilt_4]
  obtain ⟨o1, w4, k4, f4⟩ := odd_small w3 (x := .int 1) (by simp) (by simp) (rpr_int (by decide))
  have gx : gIx (.tup S) (.int (k : Int)) = some (.dat S[k]) := by
    rw [gIx_tup, atI_nat', List.getElem?_eq_getElem kl]
    rfl
  obtain ⟨s5, w5, k5, f5⟩ := g.sp S[k] (List.getElem_mem kl) w3
  have hT := g.T
  have hS := g.S
  have fin : ∀ {d : D} {w' : Well} {ρ : Ev}, Th d → m_law_spoilt [.own w.ds, .dat (.tup [.tup T, .tup S]), .un, .un, .un, .un, .un, .un] = .rt (.dat d) ([.own w'.ds, .dat (.tup [.tup T, .tup S])] ++ ρ) → ∃ (d : D) (w' : Well), Th d ∧ f_law_spoilt [.own w.ds, .dat (.tup [.tup T, .tup S])] = .ok (.dat d) [.own w'.ds, .un] := fun {d w' ρ} h e => by
    refine ⟨d, w', h, ?_⟩
    rw [f_law_spoilt, toF_at]
    show toR [0] 2 (m_law_spoilt [.own w.ds, .dat (.tup [.tup T, .tup S]), .un, .un, .un, .un, .un, .un]) = _
    rw [e]
    simp [outs_cons, outs_nil]
  rw [start] at fin
  clear start e1 e2 e3
  have cT : cutD T none (some (j : Int)) = T.take j := cut_lo T j
  have lT : (T.take j).length ≤ 3 := Nat.le_trans (List.length_take_le' j T) tl
  have lT2 : (T.drop j).length ≤ 3 := by rw [List.length_drop]; omega
  have lS : (S.take k).length ≤ 6 := Nat.le_trans (List.length_take_le' k S) sl
  have lS2 : (S.drop k).length ≤ 6 := by rw [List.length_drop]; omega
  have lS3 : (S.drop (k + 1)).length ≤ 6 := by rw [List.length_drop]; omega
  have cS : cutD S (some ((k : Int) + 1)) none = S.drop (k + 1) := cut_hi S (k + 1)
  rcases (show w.fig 9 = 0 ∨ w.fig 9 = 1 ∨ (w.fig 9 = 2 ∨ w.fig 9 = 3) ∨ w.fig 9 = 4 ∨ w.fig 9 = 5 ∨ w.fig 9 = 6 ∨ w.fig 9 = 7 ∨ w.fig 9 = 8 by omega) with e | e | e | e | e | e | e | e
  · have x1 : gAdd (.tup (T.take j)) (.tup [o1]) = some (.dat (.tup (T.take j ++ [o1]))) := gAdd_tup (by simp; omega)
    have x2 : gAdd (.tup (T.take j ++ [o1])) (.tup (T.drop j)) = some (.dat (.tup (T.take j ++ [o1] ++ T.drop j))) := gAdd_tup (by simp; omega)
    refine fin (w' := w4) (ρ := [B.dat (.tup T), .dat (.tup S), .dat (.int (w.fig 9)), .dat (.int (k : Int)), .dat (.int (j : Int)), .un]) (th_two (ins_tl (W := 700) (k := 3) (n := 4) (x := o1) (fun d m => tri_mono (g.tn d m)) (odd_tri k4) j (by omega) (by decide) (by decide)) hS) ?_
    simp only [List.append_assoc, List.cons_append, List.nil_append] at x2 ⊢
    simp [e, f4, x1, x2]
  · have x1 := put_eq T j o1 (by omega)
    refine fin (w' := w4) (ρ := [B.dat (.tup T), .dat (.tup S), .dat (.int (w.fig 9)), .dat (.int (k : Int)), .dat (.int (j : Int)), .un]) (th_two (put_tl (W := 700) (k := 3) (n := 4) (x := o1) (fun d m => tri_mono (g.tn d m)) (odd_tri k4) j (by omega) (by decide) (by decide)) hS) ?_
    simp only [List.append_assoc, List.cons_append, List.nil_append] at x1 ⊢
    simp [e, f4, x1]
  · have x1 := put_eq S k s5 (by omega)
    refine fin (w' := w5) (ρ := [B.dat (.tup T), .dat (.tup S), .dat (.int (w.fig 9)), .dat (.int (k : Int)), .dat (.int (j : Int)), .un]) (th_two hT (put_tl (W := 3000) (k := 5) (n := 7) (x := s5) (fun d m => tri_mono (g.sn d m)) (stl_tri k5) k (by omega) (by decide) (by decide))) ?_
    simp only [List.append_assoc, List.cons_append, List.nil_append] at x1 ⊢
    rcases e with e | e
    · simp [e, f5, gx, x1, -gIx_tup]
    · simp [e, f5, gx, x1, -gIx_tup]
  · have x1 : gAdd (.tup (S.take k)) (.tup (S.drop (k + 1))) = some (.dat (.tup (S.take k ++ S.drop (k + 1)))) := gAdd_tup (by omega)
    refine fin (d := .tup [.tup T, .tup (S.take k ++ S.drop (k + 1))]) (w' := w3) (ρ := [B.dat (.tup T), .dat (.tup S), .dat (.int (w.fig 9)), .dat (.int (k : Int)), .dat (.int (j : Int)), .un]) (th_two hT (tl_of (W := 606) (k := 2) (n := 12) (fun d m => g.sn d ((List.mem_append.mp m).elim List.mem_of_mem_take List.mem_of_mem_drop)) (by rw [List.length_append]; omega) (by decide) (by decide))) ?_
    simp [e, x1, cS]
  · have r0 := w3.lo (b := 1000000) (by decide)
    have r1 := w3.hi (b := 1000000) (by decide)
    have e6 := dig w3 (b := 1000000) (by decide) (by decide)
    generalize w3.fig 1000000 = r at *
    have hst : D.tup [.str (Str.ofString "read"), .tup [.str (Str.ofString "box"), .int r]] = stp (false, r) := by simp [stp, wd, slotD, r0]
    have okr : okC 0 r := ⟨.inl r0, by omega⟩
    have x1 : gAdd (.tup (S.take k)) (.tup [D.tup [.str (Str.ofString "read"), .tup [.str (Str.ofString "box"), .int r]]]) = some (.dat (.tup (S.take k ++ [D.tup [.str (Str.ofString "read"), .tup [.str (Str.ofString "box"), .int r]]]))) := gAdd_tup (by simp; omega)
    have x2 : gAdd (.tup (S.take k ++ [D.tup [.str (Str.ofString "read"), .tup [.str (Str.ofString "box"), .int r]]])) (.tup (S.drop k)) = some (.dat (.tup (S.take k ++ [D.tup [.str (Str.ofString "read"), .tup [.str (Str.ofString "box"), .int r]]] ++ S.drop k))) := gAdd_tup (by simp; omega)
    refine fin (w' := w3.aft 1000000) (ρ := [B.dat (.tup T), .dat (.tup S), .dat (.int (w.fig 9)), .dat (.int (k : Int)), .dat (.int (j : Int)), .un]) (th_two hT (ins_tl (W := 606) (k := 2) (n := 7) (x := D.tup [.str (Str.ofString "read"), .tup [.str (Str.ofString "box"), .int r]]) g.sn (by rw [hst]; exact ⟨nice_stp _, st_stp _, rpr_stp okr (by decide)⟩) k (by omega) (by decide) (by decide))) ?_
    simp only [List.append_assoc, List.cons_append, List.nil_append] at x2 ⊢
    simp [e, e6, x1, x2]
  · refine fin (d := .tup [.tup T, .tup S.reverse]) (w' := w3) (ρ := [B.dat (.tup T), .dat (.tup S), .dat (.int (w.fig 9)), .dat (.int (k : Int)), .dat (.int (j : Int)), .un]) (th_two hT (tl_of (W := 606) (k := 2) (n := 6) (fun d m => g.sn d (List.mem_reverse.mp m)) (by simpa using sl) (by decide) (by decide))) ?_
    simp [e]
  · have lc := cut_len S (some (k : Int)) (some ((k : Int) + 1))
    have x1 : gAdd (.tup S) (.tup (cutD S (some (k : Int)) (some ((k : Int) + 1)))) = some (.dat (.tup (S ++ cutD S (some (k : Int)) (some ((k : Int) + 1))))) := gAdd_tup (by omega)
    refine fin (d := .tup [.tup T, .tup (S ++ cutD S (some (k : Int)) (some ((k : Int) + 1)))]) (w' := w3) (ρ := [B.dat (.tup T), .dat (.tup S), .dat (.int (w.fig 9)), .dat (.int (k : Int)), .dat (.int (j : Int)), .un]) (th_two hT (tl_of (W := 606) (k := 2) (n := 12) (fun d m => g.sn d ((List.mem_append.mp m).elim id cut_sub)) (by rw [List.length_append]; omega) (by decide) (by decide))) ?_
    simp [e, x1]
  · obtain ⟨d, w6, hd, f6⟩ := of_spec w3 (ds := menuA T S ++ menuB T S) (by simp [menuA]) (by simp [menuA, menuB])
    have x1 : gAdd (.tup [.tup T, .tup S]) (.tup [.int 1]) = some (.dat (.tup [.tup T, .tup S, .int 1])) := gAdd_tup (by simp)
    have x2 : gAdd (.lst (menuA T S)) (.lst (menuB T S)) = some (.own (menuA T S ++ menuB T S)) := gAdd_lst (by simp [menuA, menuB])
    refine fin (w' := w6) (ρ := [B.dat (.tup T), .dat (.tup S), .dat (.int (w.fig 9)), .dat (.int (k : Int)), .dat (.int (j : Int)), .dat (.lst (menuA T S))]) (menu_ok g d hd) ?_
    simp only [menuA, menuB, List.cons_append, List.nil_append] at x2 f6 ⊢
    simp [e, x1, x2, f6]
end Law

set_option Elab.async false
set_option linter.all false
set_option maxRecDepth 100000
set_option maxHeartbeats 1000000
namespace Dl
open PySem PySem.Spec L2
open PyProof.Rows hiding St

/-! ## steps put together from rows -/
def Shape (i : Int) (r : List Wb) : Prop := r = [(false, i), (true, i)] ∨ ∃ w, r = [(w, i)]
structure PI (is : List Int) (N : Nat) (acc : List Wb) (rows : List (List Wb)) : Prop where
  od : ordP acc 0 acc = true
  fr : ∀ r ∈ rows, ∀ p ∈ r, p ∉ acc ∧ (true, p.2) ∉ acc
  sh : ∀ r ∈ rows, ∃ i, Shape i r
  di : rows.Pairwise fun r r' => ∀ p ∈ r, ∀ q ∈ r', p.2 ≠ q.2
  cv : ∀ i ∈ is, (∃ p ∈ acc, p.2 = i) ∨ ∃ r ∈ rows, ∃ p ∈ r, p.2 = i
  ma : ∀ p ∈ acc, p.2 ∈ is
  mr : ∀ r ∈ rows, ∀ p ∈ r, p.2 ∈ is
  nm : acc.length + (rows.map List.length).sum = N
theorem Shape.slot {i : Int} {r : List Wb} (h : Shape i r) : ∀ p ∈ r, p.2 = i := by
  intro p m
  rcases h with rfl | ⟨w, rfl⟩
  · simp only [List.mem_cons, List.not_mem_nil, or_false] at m
    rcases m with rfl | rfl <;> rfl
  · rw [List.mem_singleton.mp m]
theorem Shape.ne {i : Int} {r : List Wb} (h : Shape i r) : r ≠ [] := by
  rcases h with rfl | ⟨w, rfl⟩ <;> simp
/-- a row's first taken off -/
theorem Shape.rest {i : Int} {p : Wb} {t : List Wb} (h : Shape i (p :: t)) : t = [] ∨ (t = [(true, i)] ∧ p = (false, i)) := by
  rcases h with h | ⟨w, h⟩
  · cases h
    exact .inr ⟨rfl, rfl⟩
  · cases h
    exact .inl rfl
def live (rows : List (List Wb)) : List (List Wb) := rows.filter fun r => !r.isEmpty
theorem live_mem {rows : List (List Wb)} {r : List Wb} : r ∈ live rows ↔ r ∈ rows ∧ r ≠ [] := by
  unfold live
  rw [List.mem_filter]
  simp
theorem live_sum : ∀ rows : List (List Wb), ((live rows).map List.length).sum = (rows.map List.length).sum
  | [] => rfl
  | r :: rows => by
    have ih := live_sum rows
    unfold live at ih ⊢
    rw [List.filter_cons]
    cases r with
    | nil => simpa using ih
    | cons x r => simp [ih]
theorem PI.step {is : List Int} {N : Nat} {acc : List Wb} {A B : List (List Wb)} {p : Wb} {t : List Wb} (h : PI is N acc (A ++ (p :: t) :: B)) : PI is N (acc ++ [p]) (live (A ++ t :: B)) := by
  have hr : (p :: t) ∈ A ++ (p :: t) :: B := by simp
  obtain ⟨i, hi⟩ := h.sh _ hr
  have hp : p.2 = i := hi.slot p List.mem_cons_self
  have hd := h.di
  rw [List.pairwise_append, List.pairwise_cons] at hd
  obtain ⟨dA, ⟨dr, dB⟩, dAB⟩ := hd
  -- rows elsewhere are of other slots
  have oth : ∀ r, r ∈ A ∨ r ∈ B → r ∈ A ++ (p :: t) :: B ∧ ∀ q ∈ r, q.2 ≠ p.2 := by
    rintro r (m | m)
    · exact ⟨List.mem_append_left _ m, fun q hq => dAB r m _ List.mem_cons_self q hq p List.mem_cons_self⟩
    · exact ⟨List.mem_append_right _ (List.mem_cons_of_mem _ m), fun q hq e => dr r m p List.mem_cons_self q hq e.symm⟩
  have split : ∀ r ∈ live (A ++ t :: B), (r ∈ A ∨ r ∈ B) ∨ (r = t ∧ t = [(true, i)] ∧ p = (false, i)) := by
    intro r m
    obtain ⟨m, n⟩ := live_mem.mp m
    rcases List.mem_append.mp m with m | m
    · exact .inl (.inl m)
    · rcases List.mem_cons.mp m with rfl | m
      · rcases hi.rest with z | z
        · exact absurd z n
        · exact .inr ⟨rfl, z.1, z.2⟩
      · exact .inl (.inr m)
  refine ⟨ordP_add h.od (h.fr _ hr p List.mem_cons_self).1 (h.fr _ hr p List.mem_cons_self).2, ?_, ?_, ?_, ?_, ?_, ?_, ?_⟩
  · intro r m q hq
    rcases split r m with m | ⟨rfl, e1, e2⟩
    · obtain ⟨m1, m2⟩ := oth r m
      obtain ⟨f1, f2⟩ := h.fr r m1 q hq
      have ne := m2 q hq
      refine ⟨fun z => ?_, fun z => ?_⟩
      · rcases List.mem_append.mp z with z | z
        · exact f1 z
        · exact ne (by rw [List.mem_singleton.mp z])
      · rcases List.mem_append.mp z with z | z
        · exact f2 z
        · exact ne (by rw [← List.mem_singleton.mp z])
    · rw [e1] at hq
      obtain rfl := List.mem_singleton.mp hq
      have f2 := (h.fr _ hr p List.mem_cons_self).2
      rw [hp] at f2
      have np : ((true, i) : Wb) ≠ p := by
        rw [e2]
        simp
      refine ⟨fun z => ?_, fun z => ?_⟩ <;>
      · rcases List.mem_append.mp z with z | z
        · exact f2 z
        · exact np (List.mem_singleton.mp z)
  · intro r m
    rcases split r m with m | ⟨rfl, e1, e2⟩
    · exact h.sh r (oth r m).1
    · exact ⟨i, .inr ⟨true, e1⟩⟩
  · unfold live
    refine List.Pairwise.filter _ ?_
    rw [List.pairwise_append, List.pairwise_cons]
    refine ⟨dA, ⟨fun r m q hq => dr r m q (List.mem_cons_of_mem _ hq), dB⟩, fun r m r' m' q hq q' hq' => ?_⟩
    rcases List.mem_cons.mp m' with rfl | m'
    · exact dAB r m _ List.mem_cons_self q hq q' (List.mem_cons_of_mem _ hq')
    · exact dAB r m r' (List.mem_cons_of_mem _ m') q hq q' hq'
  · intro j hj
    rcases h.cv j hj with ⟨q, hq, e⟩ | ⟨r, m, q, hq, e⟩
    · exact .inl ⟨q, List.mem_append_left _ hq, e⟩
    · rcases List.mem_append.mp m with m | m
      · exact .inr ⟨r, live_mem.mpr ⟨List.mem_append_left _ m, List.ne_nil_of_mem hq⟩, q, hq, e⟩
      · rcases List.mem_cons.mp m with rfl | m
        · exact .inl ⟨p, by simp, by rw [hp, ← e]; exact (hi.slot q hq).symm⟩
        · exact .inr ⟨r, live_mem.mpr ⟨List.mem_append_right _ (List.mem_cons_of_mem _ m), List.ne_nil_of_mem hq⟩, q, hq, e⟩
  · intro q hq
    rcases List.mem_append.mp hq with m | m
    · exact h.ma q m
    · rw [List.mem_singleton.mp m]
      exact h.mr _ hr p List.mem_cons_self
  · intro r m q hq
    rcases split r m with m | ⟨rfl, e1, e2⟩
    · exact h.mr r (oth r m).1 q hq
    · exact h.mr _ hr q (List.mem_cons_of_mem _ hq)
  · have := h.nm
    rw [live_sum]
    simp only [List.map_append, List.map_cons, List.sum_append, List.sum_cons, List.length_append, List.length_cons, List.length_nil] at this ⊢
    omega
inductive RWs : List Int → List (List Wb) → Prop
  | nil : RWs [] []
  | cons {i : Int} {r : List Wb} {is : List Int} {rows : List (List Wb)} : Shape i r → RWs is rows → RWs (i :: is) (r :: rows)
theorem RWs.of {is : List Int} {rows : List (List Wb)} (h : RWs is rows) : ∀ r ∈ rows, ∃ i ∈ is, Shape i r := by
  induction h with
  | nil => exact fun _ m => absurd m List.not_mem_nil
  | cons s _ ih =>
    intro r m
    rcases List.mem_cons.mp m with rfl | m
    · exact ⟨_, List.mem_cons_self, s⟩
    · obtain ⟨i, hi, s'⟩ := ih r m
      exact ⟨i, List.mem_cons_of_mem _ hi, s'⟩
theorem RWs.cov {is : List Int} {rows : List (List Wb)} (h : RWs is rows) : ∀ i ∈ is, ∃ r ∈ rows, Shape i r := by
  induction h with
  | nil => exact fun _ m => absurd m List.not_mem_nil
  | cons s _ ih =>
    intro r m
    rcases List.mem_cons.mp m with rfl | m
    · exact ⟨_, List.mem_cons_self, s⟩
    · obtain ⟨i, hi, s'⟩ := ih r m
      exact ⟨i, List.mem_cons_of_mem _ hi, s'⟩
theorem RWs.dist {is : List Int} {rows : List (List Wb)} (h : RWs is rows) (nd : is.Nodup) : rows.Pairwise fun r r' => ∀ p ∈ r, ∀ q ∈ r', p.2 ≠ q.2 := by
  induction h with
  | nil => exact .nil
  | cons s t ih =>
    rw [List.nodup_cons] at nd
    refine .cons (fun r' m p hp q hq e => ?_) (ih nd.2)
    obtain ⟨j, hj, s'⟩ := t.of r' m
    rw [s.slot p hp, s'.slot q hq] at e
    exact nd.1 (e ▸ hj)
theorem PI.start {is : List Int} {rows : List (List Wb)} (h : RWs is rows) (nd : is.Nodup) : PI is (rows.map List.length).sum [] rows := by
  refine ⟨rfl, fun _ _ _ _ => ⟨List.not_mem_nil, List.not_mem_nil⟩, fun r m => ?_, h.dist nd, fun i hi => ?_, fun _ m => absurd m List.not_mem_nil, fun r m p hp => ?_, by simp⟩
  · obtain ⟨i, _, s⟩ := h.of r m
    exact ⟨i, s⟩
  · obtain ⟨r, m, s⟩ := h.cov i hi
    obtain ⟨p, hp⟩ := List.exists_mem_of_ne_nil r s.ne
    exact .inr ⟨r, m, p, hp, s.slot p hp⟩
  · obtain ⟨i, hi, s⟩ := h.of r m
    rw [s.slot p hp]
    exact hi
theorem PI.done {is ts : List Int} {N : Nat} {acc : List Wb} (h : PI is N acc []) (hN : N ≤ 6) (h0 : is ≠ []) (tl : ts.length ≤ 3) (tr : ∀ t ∈ ts, 1 ≤ t ∧ t ≤ 9) (ok : ∀ i ∈ is, okC ts.length i) (cv : ∀ k : Nat, k < ts.length → -1 - (k : Int) ∈ is) : Prg ts acc := by
  have cov : ∀ i ∈ is, ∃ p ∈ acc, p.2 = i := fun i hi => (h.cv i hi).elim id fun ⟨r, m, _⟩ => absurd m List.not_mem_nil
  have nm := h.nm
  simp at nm
  refine ⟨tl, tr, fun z => ?_, by omega, fun p hp => ok _ (h.ma p hp), h.od, fun k hk => cov _ (cv k hk)⟩
  obtain ⟨i, hi⟩ := List.exists_mem_of_ne_nil is h0
  obtain ⟨p, hp, _⟩ := cov i hi
  rw [z] at hp
  exact absurd hp List.not_mem_nil
def rowD (r : List Wb) : D := .lst (r.map stp)
end Dl

set_option Elab.async false
set_option linter.all false
set_option maxRecDepth 100000
set_option maxHeartbeats 4000000
namespace Law
open PySem PySem.Spec L2 Dl
open PyProof.Rows hiding St

theorem rows_loop (SL most : B) : ∀ (is : List Int) (w : Well) (acc : List (List Wb)) (left : Nat) (x5 x6 : B), acc.length + is.length ≤ 100 → ∃ (rows : List (List Wb)) (w' : Well) (left' : Nat) (y5 y6 : B),
    forD (pName 5) b_law_steps_1 (is.map slotD) [.own w.ds, SL, most, .own (acc.map rowD), .dat (.int (left : Int)), x5, x6, .un, .un, .un] = .nx [.own w'.ds, SL, most, .own ((acc ++ rows).map rowD), .dat (.int (left' : Int)), y5, y6, .un, .un, .un] ∧ RWs is rows ∧ (rows.map List.length).sum + left' = is.length + left
  | [], w, acc, left, x5, x6, _ => ⟨[], w, left, x5, x6, by simp, .nil, by simp⟩
  | i :: is, w, acc, left, x5, x6, hl => by
    rw [List.length_cons] at hl
    have l0 := w.lo (b := 3) (by decide)
    have l1 := w.hi (b := 3) (by decide)
    have e1 := dig w (b := 3) (by decide) (by decide)
    have hz : acc.length < sizeLine := by rw [sizeLine_eq]; omega
    have one : ∀ (b : Bool) (x6 : B), ∃ (rows : List (List Wb)) (w' : Well) (left' : Nat) (y5 y6 : B),
        forD (pName 5) b_law_steps_1 (is.map slotD) [.own (w.aft 3).ds, SL, most, .own ((acc ++ [[(b, i)]]).map rowD), .dat (.int (left : Int)), .dat (slotD i), x6, .un, .un, .un] = .nx [.own w'.ds, SL, most, .own ((acc ++ rows).map rowD), .dat (.int (left' : Int)), y5, y6, .un, .un, .un] ∧ RWs (i :: is) rows ∧ (rows.map List.length).sum + left' = (i :: is).length + left := fun b x6 => by
      obtain ⟨rows, w', left', y5, y6, e, h1, h2⟩ := rows_loop SL most is (w.aft 3) (acc ++ [[(b, i)]]) left (.dat (slotD i)) x6 (by rw [List.length_append, List.length_singleton]; omega)
      refine ⟨[(b, i)] :: rows, w', left', y5, y6, ?_, .cons (.inr ⟨b, rfl⟩) h1, ?_⟩
      · rw [e]
        simp
      · simp only [List.map_cons, List.sum_cons, List.length_cons, List.length_nil]
        omega
    rw [List.map_cons, forD_cons]
    rcases (show w.fig 3 = 0 ∨ w.fig 3 = 1 ∨ w.fig 3 = 2 by omega) with e | e | e
    · obtain ⟨rows, w', left', y5, y6, e2, h1, h2⟩ := one false (.dat (.int 0))
      refine ⟨rows, w', left', y5, y6, ?_, h1, h2⟩
      simp only [List.map_append, List.map_cons, List.map_nil] at e2 ⊢
      simp only [rowD, List.map_cons, List.map_nil, stp, wd] at e2 ⊢
      simp [ub_law_steps_1, e1, e, hz]
      simpa using e2
    · obtain ⟨rows, w', left', y5, y6, e2, h1, h2⟩ := one true (.dat (.int 1))
      refine ⟨rows, w', left', y5, y6, ?_, h1, h2⟩
      simp only [List.map_append, List.map_cons, List.map_nil] at e2 ⊢
      simp only [rowD, List.map_cons, List.map_nil, stp, wd] at e2 ⊢
      simp [ub_law_steps_1, e1, e, hz]
      simpa using e2
    · cases left with
      | zero =>
        obtain ⟨rows, w', left', y5, y6, e2, h1, h2⟩ := one false (.dat (.int 2))
        refine ⟨rows, w', left', y5, y6, ?_, h1, h2⟩
        simp only [List.map_append, List.map_cons, List.map_nil] at e2 ⊢
        simp only [rowD, List.map_cons, List.map_nil, stp, wd] at e2 ⊢
        simp [ub_law_steps_1, e1, e, hz]
        simpa using e2
      | succ left =>
        obtain ⟨rows, w', left', y5, y6, e2, h1, h2⟩ := rows_loop SL most is (w.aft 3) (acc ++ [[(false, i), (true, i)]]) left (.dat (slotD i)) (.dat (.int 2)) (by rw [List.length_append, List.length_singleton]; omega)
        refine ⟨[(false, i), (true, i)] :: rows, w', left', y5, y6, ?_, .cons (.inl rfl) h1, ?_⟩
        · have p : (0 : Int) < (left : Int) + 1 := by omega
          have q : ((left : Int) + 1) - 1 = (left : Int) := by omega
          have pc : ((left + 1 : Nat) : Int) = (left : Int) + 1 := rfl
          rw [pc]
          simp only [List.map_append, List.map_cons, List.map_nil] at e2 ⊢
          simp only [rowD, List.map_cons, List.map_nil, stp, wd] at e2 ⊢
          simp [ub_law_steps_1, e1, e, hz, p, q]
          simpa using e2
        · simp only [List.map_cons, List.sum_cons, List.length_cons, List.length_nil]
          omega
end Law

set_option Elab.async false
set_option linter.all false
set_option maxRecDepth 100000
set_option maxHeartbeats 4000000
namespace Law
open PySem PySem.Spec L2 Dl
open PyProof.Rows hiding St

def wS (w : Well) (SL most : B) (rows : List (List Wb)) (L4 x5 x6 : B) (acc : List Wb) (x8 x9 : B) : Ev := [.own w.ds, SL, most, .own (rows.map rowD), L4, x5, x6, .own (acc.map stp), x8, x9]
def liveD : D → Bool
  | .lst xs => !xs.isEmpty
  | _ => true
theorem filter_live (rows : List (List Wb)) : (rows.map rowD).filter liveD = (live rows).map rowD := by
  induction rows with
  | nil => rfl
  | cons r rows ih =>
    unfold live at ih ⊢
    rw [List.map_cons, List.filter_cons, List.filter_cons, ih]
    cases r with
    | nil => rfl
    | cons x r => rfl
theorem turn (is : List Int) (N : Nat) (w : Well) (SL most L4 x5 x6 x8 : B) (A B : List (List Wb)) (p : Wb) (t : List Wb) (acc : List Wb) (hl : A.length + B.length ≤ 50) (ha : acc.length ≤ 50) (e1 : f_law_digit [.own w.ds, .dat (.int ((A ++ (p :: t) :: B).length : Int))] = .ok (.dat (.int (A.length : Int))) [.own (w.aft ((A ++ (p :: t) :: B).length : Int)).ds, .un]) :
    b_law_steps_4 (wS w SL most (A ++ (p :: t) :: B) L4 x5 x6 acc x8 .un) = .nx (wS (w.aft ((A ++ (p :: t) :: B).length : Int)) SL most (live (A ++ t :: B)) L4 x5 x6 (acc ++ [p]) (.dat (.int (A.length : Int))) .un) := by
  have gx : gIx (.lst ((A ++ (p :: t) :: B).map rowD)) (.int (A.length : Int)) = some (.dat (rowD (p :: t))) := by
    rw [gIx_lst, atI_nat', List.getElem?_map]
    simp
  have len : gLen [.lst ((A ++ (p :: t) :: B).map rowD)] = some (.dat (.int ((A ++ (p :: t) :: B).length : Int))) := by
    rw [e_len_lst, List.length_map]
  have g0 : gIx (rowD (p :: t)) (.int 0) = some (.dat (stp p)) := by
    show gIx (.lst (stp p :: t.map stp)) (.int 0) = _
    simp
  have g1 : gSl (rowD (p :: t)) (some 1) none = some (.own (t.map stp)) := by
    show gSl (.lst ((p :: t).map stp)) (some 1) none = _
    simp
  have hz : acc.length < sizeLine := by rw [sizeLine_eq]; omega
  have fz : D.lst (t.map stp) = rowD t := rfl
  have put : putL ((A ++ (p :: t) :: B).map rowD) (rowD t) (.int (A.length : Int)) = some ((A ++ t :: B).map rowD) := by
    have ix : L2.ixN ((A ++ (p :: t) :: B).map rowD).length (A.length : Int) = some A.length := by
      unfold L2.ixN
      rw [if_pos (by omega), if_pos (by simp; omega)]
      rfl
    rw [putL_int, ix]
    simp [List.set_append]
  generalize hW : w.aft ((A ++ (p :: t) :: B).length : Int) = w1 at *
  generalize hR : (A ++ (p :: t) :: B).map rowD = R at *
  generalize ((A ++ (p :: t) :: B).length : Int) = n at *
  rw [ub_law_steps_4]
  unfold wS
  rw [hR]
  refine seq_nx (ρ' := [.own w1.ds, SL, most, .own R, L4, x5, x6, .own (acc.map stp), .dat (.int (A.length : Int)), .un]) (by simp [len, e1]) ?_
  refine seq_nx (ρ' := [.own w1.ds, SL, most, .own R, L4, x5, x6, .own ((acc ++ [p]).map stp), .dat (.int (A.length : Int)), .un]) (by simp [gx, g0, hz, -gIx_lst]) ?_
  refine seq_nx (ρ' := [.own w1.ds, SL, most, .own ((A ++ t :: B).map rowD), L4, x5, x6, .own ((acc ++ [p]).map stp), .dat (.int (A.length : Int)), .un]) (by simp [gx, g1, fz, put, -gIx_lst]) ?_
  have lc := lc_fm (ρ := [.own w1.ds, SL, most, .dat (.lst ((A ++ t :: B).map rowD)), L4, x5, x6, .own ((acc ++ [p]).map stp), .dat (.int (A.length : Int)), .un]) (k := 9) (c := c_law_steps_3) (e := e_law_steps_2) (g := id) (t := liveD) rfl ((A ++ t :: B).map rowD) [] (fun d m => by
    obtain ⟨r, _, rfl⟩ := List.mem_map.mp m
    have := gNe_nilD (r.map stp)
    have e : liveD (rowD r) = !(r.map stp).isEmpty := rfl
    rw [e]
    have q : D.lst (r.map stp) = rowD r := rfl
    rw [q] at this
    simp [uc_law_steps_3, this]) (fun d m _ => by simp [ue_law_steps_2]) (by rw [sizeLine_eq]; simp; omega)
  rw [List.nil_append, List.map_id, filter_live] at lc
  generalize (A ++ t :: B).map rowD = R2 at *
  generalize (acc ++ [p]).map stp = S7 at *
  simp [e_frzI, lc, wipeE, restE]
theorem while_loop (is : List Int) (N : Nat) (SL most L4 x5 x6 : B) : ∀ (n : Nat) (fuel : Nat) (w : Well) (rows : List (List Wb)) (acc : List Wb) (x8 : B), PI is N acc rows → (rows.map List.length).sum = n → n < fuel → N ≤ 6 → ∃ (w' : Well) (acc' : List Wb) (y8 : B),
    whileD t_law_steps_5 b_law_steps_4 fuel (wS w SL most rows L4 x5 x6 acc x8 .un) = .nx (wS w' SL most [] L4 x5 x6 acc' y8 .un) ∧ PI is N acc' []
  | n, 0, w, rows, acc, x8, h, hn, hf, h6 => absurd hf (Nat.not_lt_zero _)
  | n, fuel + 1, w, rows, acc, x8, h, hn, hf, h6 => by
    have gn := gNe_nilD (rows.map rowD)
    have tst : t_law_steps_5 (wS w SL most rows L4 x5 x6 acc x8 .un) = .ok (!(rows.map rowD).isEmpty, wS w SL most rows L4 x5 x6 acc x8 .un) := by
      rw [ut_law_steps_5]
      unfold wS
      generalize rows.map rowD = R at *
      simp [gn]
    rw [whileD_succ, tst, e_wh1]
    cases rows with
    | nil => exact ⟨w, acc, x8, rfl, h⟩
    | cons r0 rs =>
      rw [if_pos (by rfl)]
      have hp : 0 < (r0 :: rs).length := by simp
      have l0 := w.lo (b := ((r0 :: rs).length : Int)) (by omega)
      have l1 := w.hi (b := ((r0 :: rs).length : Int)) (by omega)
      have nm := h.nm
      have lens : (r0 :: rs).length ≤ ((r0 :: rs).map List.length).sum := by
        have all : ∀ l : List (List Wb), (∀ r ∈ l, ∃ i, Shape i r) → l.length ≤ (l.map List.length).sum := by
          intro l
          induction l with
          | nil => exact fun _ => Nat.le_refl _
          | cons r l ih =>
            intro hs
            have := ih fun r' m => hs r' (List.mem_cons_of_mem _ m)
            obtain ⟨i, s⟩ := hs r List.mem_cons_self
            have := List.length_pos_iff.mpr s.ne
            simp only [List.map_cons, List.sum_cons, List.length_cons]
            omega
        exact all _ h.sh
      have e1 := dig w (b := ((r0 :: rs).length : Int)) (by omega) (by omega)
      obtain ⟨k, hk⟩ : ∃ k : Nat, w.fig ((r0 :: rs).length : Int) = (k : Int) := ⟨(w.fig ((r0 :: rs).length : Int)).toNat, by omega⟩
      rw [hk] at e1 l1
      have kl : k < (r0 :: rs).length := by omega
      obtain ⟨A, r, C, hr, hA⟩ : ∃ (A : List (List Wb)) (r : List Wb) (C : List (List Wb)), r0 :: rs = A ++ r :: C ∧ A.length = k := by
        refine ⟨(r0 :: rs).take k, (r0 :: rs)[k], (r0 :: rs).drop (k + 1), ?_, ?_⟩
        · rw [List.getElem_cons_drop, List.take_append_drop]
        · rw [List.length_take]
          omega
      rw [hr] at h e1 hn nm lens kl ⊢
      have hm : r ∈ A ++ r :: C := by simp
      obtain ⟨i, hi⟩ := h.sh r hm
      cases r with
      | nil => exact absurd rfl hi.ne
      | cons p t =>
        rw [← hA] at e1
        have ll : (A ++ (p :: t) :: C).length = A.length + C.length + 1 := by simp; omega
        have tu := turn is N w SL most L4 x5 x6 x8 A C p t acc (by omega) (by omega) e1
        rw [tu, e_wh2n]
        have h' := h.step
        have n' : ((live (A ++ t :: C)).map List.length).sum + 1 = n := by
          rw [live_sum]
          rw [← hn]
          simp only [List.map_append, List.map_cons, List.sum_append, List.sum_cons, List.length_cons]
          omega
        exact while_loop is N SL most L4 x5 x6 (n - 1) fuel _ (live (A ++ t :: C)) (acc ++ [p]) _ h' (by omega) (by omega) h6
theorem steps_spec (w : Well) {is : List Int} (nd : is.Nodup) (h0 : is ≠ []) (hl : is.length ≤ 6) {ts : List Int} (tl : ts.length ≤ 3) (tr : ∀ t ∈ ts, 1 ≤ t ∧ t ≤ 9) (ok : ∀ i ∈ is, okC ts.length i) (cv : ∀ k : Nat, k < ts.length → -1 - (k : Int) ∈ is) :
    ∃ (ps : List Wb) (w' : Well), f_law_steps [.own w.ds, .dat (.lst (is.map slotD)), .dat (.int 6)] = .ok (.dat (.tup (ps.map stp))) [.own w'.ds, .dat (.lst (is.map slotD)), .un] ∧ Prg ts ps := by
  obtain ⟨m, hm⟩ : ∃ m : Nat, is.length + m = 6 := ⟨6 - is.length, by omega⟩
  obtain ⟨rows, w1, left', y5, y6, e1, h1, h2⟩ := rows_loop (.dat (.lst (is.map slotD))) (.dat (.int 6)) is w [] m .un .un (by simp; omega)
  have pi := PI.start h1 nd
  have nm := pi.nm
  obtain ⟨w2, acc, y8, e2, pi2⟩ := while_loop is _ (.dat (.lst (is.map slotD))) (.dat (.int 6)) (.dat (.int (left' : Int))) y5 y6 _ ((rows.map List.length).sum + 1) w1 rows [] .un pi rfl (Nat.lt_succ_self _) (by omega)
  refine ⟨acc, w2, ?_, pi2.done (by omega) h0 tl tr ok cv⟩
  have em : (6 : Int) - (is.length : Int) = (m : Int) := by omega
  have fuel : w_law_steps_1 (wS w1 (.dat (.lst (is.map slotD))) (.dat (.int 6)) rows (.dat (.int (left' : Int))) y5 y6 [] .un .un) = (rows.map List.length).sum + 1 := by
    have : ∀ l : List (List Wb), ((l.map rowD).map dlen).sum = (l.map List.length).sum := by
      intro l
      induction l with
      | nil => rfl
      | cons r l ih => simp only [List.map_cons, List.sum_cons, ih]; simp [rowD, dlen]
    show (((rows.map rowD).map dlen).sum + 1) = _
    rw [this]
  have len : gLen [.lst (is.map slotD)] = some (.dat (.int (is.length : Int))) := by rw [e_len_lst, List.length_map]
  have b1 : (fun ρ => whileD t_law_steps_5 b_law_steps_4 (w_law_steps_1 ρ) ρ) (wS w1 (.dat (.lst (is.map slotD))) (.dat (.int 6)) rows (.dat (.int (left' : Int))) y5 y6 [] .un .un) = .nx (wS w2 (.dat (.lst (is.map slotD))) (.dat (.int 6)) [] (.dat (.int (left' : Int))) y5 y6 acc y8 .un) := by
    show whileD t_law_steps_5 b_law_steps_4 (w_law_steps_1 _) _ = _
    rw [fuel]
    exact e2
  rw [f_law_steps, toF_at]
  show toR [0, 1] 3 (m_law_steps [.own w.ds, .dat (.lst (is.map slotD)), .dat (.int 6), .un, .un, .un, .un, .un, .un, .un]) = _
  have all : m_law_steps [.own w.ds, .dat (.lst (is.map slotD)), .dat (.int 6), .un, .un, .un, .un, .un, .un, .un] = .rt (.dat (.tup (acc.map stp))) (wS w2 (.dat (.lst (is.map slotD))) (.dat (.int 6)) [] (.dat (.int (left' : Int))) y5 y6 acc y8 .un) := by
    rw [m_law_steps]
    generalize hS : is.map slotD = S at *
    refine seq_nx (ρ' := [.own w.ds, .dat (.lst S), .dat (.int 6), .own [], .un, .un, .un, .un, .un, .un]) (by simp) ?_
    refine seq_nx (ρ' := [.own w.ds, .dat (.lst S), .dat (.int 6), .own [], .dat (.int (m : Int)), .un, .un, .un, .un, .un]) (by simp [len, em]) ?_
    refine seq_nx (ρ' := [.own w1.ds, .dat (.lst S), .dat (.int 6), .own (rows.map rowD), .dat (.int (left' : Int)), y5, y6, .un, .un, .un]) (by simpa using e1) ?_
    refine seq_nx (ρ' := wS w1 (.dat (.lst S)) (.dat (.int 6)) rows (.dat (.int (left' : Int))) y5 y6 [] .un .un) (by simp [wS]) ?_
    refine seq_nx b1 ?_
    unfold wS
    simp
  rw [all]
  simp [outs_cons, outs_nil, wS]
end Law

set_option Elab.async false
set_option linter.all false
set_option maxRecDepth 100000
set_option maxHeartbeats 4000000
namespace Law
open PySem PySem.Spec L2 Dl
open PyProof.Rows hiding St

theorem tables_lc (x1 x2 x3 x4 x6 x7 : B) : ∀ (ds : List D) (w : Well) (acc : List Int), acc.length + ds.length ≤ 1000 → ∃ (ts : List Int) (w' : Well),
    lcD (pName 5) tYs e_law_program_1 [5] ds (acc.map .int) [.own w.ds, x1, x2, x3, x4, .un, x6, x7] = .ok ((acc ++ ts).map .int, [.own w'.ds, x1, x2, x3, x4, .un, x6, x7]) ∧ ts.length = ds.length ∧ ∀ t ∈ ts, 1 ≤ t ∧ t ≤ 9
  | [], w, acc, _ => ⟨[], w, by simp, rfl, fun _ m => absurd m List.not_mem_nil⟩
  | d :: ds, w, acc, hl => by
    rw [List.length_cons] at hl
    have l0 := w.lo (b := 9) (by decide)
    have l1 := w.hi (b := 9) (by decide)
    have e0 := dig w (b := 9) (by decide) (by decide)
    generalize w.fig 9 = r at *
    obtain ⟨t, w1, ht, e1⟩ := of_spec (w.aft 9) (ds := [.int 1, .int 1, .int 1, .int 2, .int (1 + r)]) (by simp) (by simp)
    obtain ⟨k, rfl, k0, k1⟩ : ∃ k : Int, t = .int k ∧ 1 ≤ k ∧ k ≤ 9 := by
      simp only [List.mem_cons, List.not_mem_nil, or_false] at ht
      rcases ht with rfl | rfl | rfl | rfl | rfl
      · exact ⟨1, rfl, by decide, by decide⟩
      · exact ⟨1, rfl, by decide, by decide⟩
      · exact ⟨1, rfl, by decide, by decide⟩
      · exact ⟨2, rfl, by decide, by decide⟩
      · exact ⟨1 + r, rfl, by omega, by omega⟩
    obtain ⟨ts, w', e, h1, h2⟩ := tables_lc x1 x2 x3 x4 x6 x7 ds w1 (acc ++ [k]) (by rw [List.length_append, List.length_singleton]; omega)
    refine ⟨k :: ts, w', ?_, by rw [List.length_cons, List.length_cons, h1], fun j m => ?_⟩
    · have hz : acc.length < sizeLine := by rw [sizeLine_eq]; omega
      simp only [List.map_append, List.map_cons, List.map_nil, List.append_assoc, List.cons_append, List.nil_append] at e ⊢
      rw [lcD_cons]
      simp [ue_law_program_1, e0, e1, hz, wipeE]
      exact e
    · rcases List.mem_cons.mp m with rfl | m
      · exact ⟨k0, k1⟩
      · exact h2 j m
def keysL (m : Nat) : List Int := (List.range m).map fun k : Nat => -1 - (k : Int)
theorem keys_map (m : Nat) : (rngD 0 m).map (fun d => D.tup [.str (Str.ofString "key"), d]) = (keysL m).map slotD := by
  unfold rngD keysL
  rw [List.map_map, List.map_map]
  refine List.map_congr_left fun k _ => ?_
  show D.tup [.str (Str.ofString "key"), .int (0 + (k : Int))] = slotD (-1 - (k : Int))
  rw [Int.zero_add]
  exact keyD_slotD k
theorem keys_len (m : Nat) : (keysL m).length = m := by simp [keysL]
theorem keys_nd (m : Nat) : (keysL m).Nodup := by
  unfold keysL
  exact List.Pairwise.map (fun k : Nat => -1 - (k : Int)) (fun a b (h : a ≠ b) => by omega) List.nodup_range
theorem keys_ok (m : Nat) : ∀ i ∈ keysL m, okC m i := by
  intro i h
  unfold keysL at h
  obtain ⟨k, hk, rfl⟩ := List.mem_map.mp h
  have := List.mem_range.mp hk
  unfold okC
  omega
/-- slots, as they are drawn -/
structure SL (m : Nat) (is : List Int) : Prop where
  nd : is.Nodup
  ok : ∀ i ∈ is, okC m i
  cv : ∀ k : Nat, k < m → -1 - (k : Int) ∈ is
theorem sl_keys (m : Nat) : SL m (keysL m) := ⟨keys_nd m, keys_ok m, fun k hk => List.mem_map.mpr ⟨k, List.mem_range.mpr hk, rfl⟩⟩
theorem SL.add {m : Nat} {is : List Int} (h : SL m is) {b : Int} (hb : 0 ≤ b) (hb' : b ≤ 999999) (hn : b ∉ is) : SL m (is ++ [b]) := by
  refine ⟨List.nodup_append.mpr ⟨h.nd, by simp, fun x hx y hy => ?_⟩, fun i hi => ?_, fun k hk => List.mem_append_left _ (h.cv k hk)⟩
  · rw [List.mem_singleton.mp hy]
    exact fun e => hn (e ▸ hx)
  · rcases List.mem_append.mp hi with z | z
    · exact h.ok i z
    · rw [List.mem_singleton.mp z]
      exact ⟨.inl hb, hb'⟩
theorem boxes_loop (m : Nat) (x1 x2 x3 x4 : B) : ∀ (ds : List D) (w : Well) (is : List Int) (x5 x7 : B), SL m is → is.length + ds.length ≤ 6 → ∃ (w' : Well) (is' : List Int) (y5 y7 : B),
    forD (pName 5) b_law_program_3 ds [.own w.ds, x1, x2, x3, x4, x5, .own (is.map slotD), x7] = .nx [.own w'.ds, x1, x2, x3, x4, y5, .own (is'.map slotD), y7] ∧ SL m is' ∧ is'.length ≤ is.length + ds.length
  | [], w, is, x5, x7, h, _ => ⟨w, is, x5, x7, rfl, h, by simp⟩
  | d :: ds, w, is, x5, x7, h, hl => by
    rw [List.length_cons] at hl
    have l0 := w.lo (b := 1000000) (by decide)
    have l1 := w.hi (b := 1000000) (by decide)
    have e0 := dig w (b := 1000000) (by decide) (by decide)
    generalize w.fig 1000000 = r at *
    obtain ⟨t, w1, ht, e1⟩ := of_spec (w.aft 1000000) (ds := [.int 0, .int 0, .int 1, .int 2, .int r]) (by simp) (by simp)
    obtain ⟨k, rfl, k0, k1⟩ : ∃ k : Int, t = .int k ∧ 0 ≤ k ∧ k ≤ 999999 := by
      simp only [List.mem_cons, List.not_mem_nil, or_false] at ht
      rcases ht with rfl | rfl | rfl | rfl | rfl
      · exact ⟨0, rfl, by decide, by decide⟩
      · exact ⟨0, rfl, by decide, by decide⟩
      · exact ⟨1, rfl, by decide, by decide⟩
      · exact ⟨2, rfl, by decide, by decide⟩
      · exact ⟨r, rfl, by omega, by omega⟩
    have sk : D.tup [.str (Str.ofString "box"), .int k] = slotD k := by simp [slotD, k0]
    have gn : gNotIn (.tup [.str (Str.ofString "box"), .int k]) (.lst (is.map slotD)) = some (.dat (.bl (!decide (k ∈ is)))) := by
      rw [gNotIn_lst (by simp) (by
        rw [shp_lst, List.all_eq_true]
        intro d m
        obtain ⟨i, _, rfl⟩ := List.mem_map.mp m
        exact shn_mono (shn_slotD i) (by decide)), sk, inD_slotD]
    have hz : is.length < sizeLine := by rw [sizeLine_eq]; omega
    rw [forD_cons]
    by_cases q : k ∈ is
    · obtain ⟨w', is', y5, y7, e, h1, h2⟩ := boxes_loop m x1 x2 x3 x4 ds w1 is (.dat d) (.dat (.int k)) h (by omega)
      refine ⟨w', is', y5, y7, ?_, h1, by rw [List.length_cons]; omega⟩
      generalize is.map slotD = S at *
      simp [ub_law_program_3, e0, e1, gn, q, e]
    · obtain ⟨w', is', y5, y7, e, h1, h2⟩ := boxes_loop m x1 x2 x3 x4 ds w1 (is ++ [k]) (.dat d) (.dat (.int k)) (h.add k0 k1 q) (by rw [List.length_append, List.length_singleton]; omega)
      refine ⟨w', is', y5, y7, ?_, h1, by rw [List.length_append, List.length_singleton] at h2; rw [List.length_cons]; omega⟩
      rw [List.map_append, List.map_singleton, ← sk] at e
      have hz' : (is.map slotD).length < sizeLine := by rw [List.length_map]; exact hz
      generalize is.map slotD = S at *
      simp [ub_law_program_3, e0, e1, gn, q, hz']
      exact e
theorem program_spec (w : Well) : ∃ (ts : List Int) (ps : List Wb) (w' : Well), f_law_program [.own w.ds, .dat (.int 3), .dat (.int 6)] = .ok (.dat (prg ts ps)) [.own w'.ds, .un, .un] ∧ Prg ts ps := by
  have a0 := w.lo (b := 4) (by decide)
  have a1 := w.hi (b := 4) (by decide)
  have e1 := dig w (b := 4) (by decide) (by decide)
  obtain ⟨m, hm⟩ : ∃ m : Nat, w.fig 4 = (m : Int) := ⟨(w.fig 4).toNat, by omega⟩
  rw [hm] at e1 a1
  generalize w.aft 4 = w1 at *
  have hr : rng1 [.int (m : Int)] = some (rngD 0 m) := by
    have := rng1_ok (m : Int) (rngOk_of (by omega) (by omega))
    simpa using this
  obtain ⟨ts, w2, e2, tl, tr⟩ := tables_lc (.dat (.int 3)) (.dat (.int 6)) (.dat (.int (m : Int))) .un .un .un (rngD 0 m) w1 [] (by rw [rngD_length]; simp; omega)
  rw [rngD_length] at tl
  rw [List.nil_append, List.map_nil] at e2
  have lk := lc_map (ρ := [.own w2.ds, .dat (.int 3), .dat (.int 6), .dat (.int (m : Int)), .dat (.tup (ts.map .int)), .un, .un, .un]) (k := 5) (e := e_law_program_2) (g := fun d => D.tup [.str (Str.ofString "key"), d]) rfl (rngD 0 m) (fun d _ => by simp [ue_law_program_2]) (by rw [rngD_length, sizeLine_eq]; omega)
  rw [keys_map] at lk
  have b0 := w2.lo (b := 3) (by decide)
  have b1 := w2.hi (b := 3) (by decide)
  have e3 := dig w2 (b := 3) (by decide) (by decide)
  obtain ⟨n, hn⟩ : ∃ n : Nat, w2.fig 3 = (n : Int) := ⟨(w2.fig 3).toNat, by omega⟩
  rw [hn] at e3 b1
  generalize w2.aft 3 = w3 at *
  have hr2 : rng1 [.int (n : Int)] = some (rngD 0 n) := by
    have := rng1_ok (n : Int) (rngOk_of (by omega) (by omega))
    simpa using this
  obtain ⟨w4, is, y5, y7, e4, sl, il⟩ := boxes_loop m (.dat (.int 3)) (.dat (.int 6)) (.dat (.int (m : Int))) (.dat (.tup (ts.map .int))) (rngD 0 n) w3 (keysL m) .un .un (sl_keys m) (by rw [keys_len, rngD_length]; omega)
  rw [keys_len, rngD_length] at il
  -- the slots, one at least
  obtain ⟨w5, is5, e5, sl5, ne5, il5⟩ : ∃ (w5 : Well) (is5 : List Int), q_law_program_5 [.own w4.ds, .dat (.int 3), .dat (.int 6), .dat (.int (m : Int)), .dat (.tup (ts.map .int)), y5, .own (is.map slotD), y7] = .nx [.own w5.ds, .dat (.int 3), .dat (.int 6), .dat (.int (m : Int)), .dat (.tup (ts.map .int)), y5, .own (is5.map slotD), y7] ∧ SL m is5 ∧ is5 ≠ [] ∧ is5.length ≤ 6 := by
    have ge := gEq_nil (is.map slotD)
    cases is with
    | nil =>
      have c0 := w4.lo (b := 3) (by decide)
      have c1 := w4.hi (b := 3) (by decide)
      have e6 := dig w4 (b := 3) (by decide) (by decide)
      have m0 : m = 0 := by
        cases m with
        | zero => rfl
        | succ m => exact absurd (sl.cv m (Nat.lt_succ_self m)) List.not_mem_nil
      have sk : D.tup [.str (Str.ofString "box"), .int (w4.fig 3)] = slotD (w4.fig 3) := by simp [slotD, c0]
      refine ⟨w4.aft 3, [w4.fig 3], ?_, sl.add c0 (by omega) List.not_mem_nil, by simp, by simp⟩
      rw [List.map_singleton, ← sk]
      generalize w4.fig 3 = r at *
      have g0 : gEq (.lst []) (.lst []) = some (.dat (.bl true)) := gEq_nil []
      simp [e6, g0]
    | cons i is =>
      refine ⟨w4, i :: is, ?_, sl, by simp, by omega⟩
      have ge : gEq (.lst ((i :: is).map slotD)) (.lst []) = some (.dat (.bl false)) := ge
      generalize (i :: is).map slotD = S at *
      simp [ge]
  obtain ⟨ps, w6, e6, g⟩ := steps_spec w5 sl5.nd ne5 il5 (ts := ts) (by omega) tr (by rw [tl]; exact sl5.ok) (by rw [tl]; exact sl5.cv)
  refine ⟨ts, ps, w6, ?_, g⟩
  have pm : (3 : Int) + 1 = 4 := rfl
  rw [f_law_program, toF_at]
  show toR [0] 3 (m_law_program [.own w.ds, .dat (.int 3), .dat (.int 6), .un, .un, .un, .un, .un]) = _
  have s1 : q_law_program_1 [.own w.ds, .dat (.int 3), .dat (.int 6), .un, .un, .un, .un, .un] = .nx [.own w1.ds, .dat (.int 3), .dat (.int 6), .dat (.int (m : Int)), .un, .un, .un, .un] := by simp [e1]
  have s2 : q_law_program_2 [.own w1.ds, .dat (.int 3), .dat (.int 6), .dat (.int (m : Int)), .un, .un, .un, .un] = .nx [.own w2.ds, .dat (.int 3), .dat (.int 6), .dat (.int (m : Int)), .dat (.tup (ts.map .int)), .un, .un, .un] := by
    have gt : gTuple [.lst (ts.map .int)] = some (.dat (.tup (ts.map .int))) := rfl
    simp [hr, e2, wipeE, restE, gt]
  have s3 : q_law_program_3 [.own w2.ds, .dat (.int 3), .dat (.int 6), .dat (.int (m : Int)), .dat (.tup (ts.map .int)), .un, .un, .un] = .nx [.own w2.ds, .dat (.int 3), .dat (.int 6), .dat (.int (m : Int)), .dat (.tup (ts.map .int)), .un, .own ((keysL m).map slotD), .un] := by
    simp [hr, lk, wipeE, restE]
  have s4 : q_law_program_4 [.own w2.ds, .dat (.int 3), .dat (.int 6), .dat (.int (m : Int)), .dat (.tup (ts.map .int)), .un, .own ((keysL m).map slotD), .un] = .nx [.own w4.ds, .dat (.int 3), .dat (.int 6), .dat (.int (m : Int)), .dat (.tup (ts.map .int)), y5, .own (is.map slotD), y7] := by
    simp [e3, hr2, e4]
  have s6 : q_law_program_6 [.own w5.ds, .dat (.int 3), .dat (.int 6), .dat (.int (m : Int)), .dat (.tup (ts.map .int)), y5, .own (is5.map slotD), y7] = .rt (.dat (prg ts ps)) [.own w6.ds, .dat (.int 3), .dat (.int 6), .dat (.int (m : Int)), .dat (.tup (ts.map .int)), y5, .dat (.lst (is5.map slotD)), y7] := by
    generalize is5.map slotD = S at *
    simp [e_frzI, e6, prg]
  have all := seq_nx (f := q_law_program_1) s1 (seq_nx s2 (seq_nx s3 (seq_nx s4 (seq_nx e5 s6))))
  rw [m_law_program, all]
  simp [outs_cons, outs_nil]
end Law

set_option Elab.async false
set_option linter.all false
set_option maxRecDepth 100000
set_option maxHeartbeats 4000000
namespace Law
open PySem PySem.Spec L2 Dl
open PyProof.Rows hiding St

theorem are_right_eq {d : D} (h : niceB d = true) (hs : noScr d = true) (hc : ∀ ds, d = .lst ds → ∀ x ∈ ds, pgB x = true) : f_law_are_right [.dat d] = .ok (.dat (.bl (areProgD d))) [.un] := by
  cases d <;> first
    | simp [niceB] at h; done
    | (simp [noScr] at hs; done)
    | (simp [f_law_are_right, toF_at, m_law_are_right, outs_cons, outs_nil, isTy, areProgD]; done)
    | skip
  rename_i ds
  have hn : ∀ d ∈ ds, niceB d = true := by simpa using h
  have hp := hc ds rfl
  by_cases c1 : 1 ≤ ds.length
  · by_cases c2 : ds.length ≤ 4
    · have e1 : (1 : Int) ≤ (ds.length : Int) := by omega
      have e2 : (ds.length : Int) ≤ 4 := by omega
      have lc := lc_fm (ρ := [.dat (.lst ds), .un]) (k := 1) (c := c_law_are_right_2) (e := e_law_are_right_1) (g := id) (t := fun d => !isProgD d) rfl ds [] (fun d m => by
        have := is_right_eq (hn d m) (hp d m)
        cases q : isProgD d <;> rw [q] at this <;> simp [uc_law_are_right_2, this]) (fun d m _ => by simp [ue_law_are_right_1]) (by rw [sizeLine_eq]; simp; omega)
      have ge := gEq_nil (ds.filter fun d => !isProgD d)
      rw [filter_all] at ge
      rw [List.nil_append, List.map_id] at lc
      cases q : ds.all isProgD <;> rw [q] at ge <;> simp [f_law_are_right, toF_at, m_law_are_right, outs_cons, outs_nil, isTy, areProgD, e1, e2, lc, ge, c1, c2, q]
    · have e1 : (1 : Int) ≤ (ds.length : Int) := by omega
      have e2 : ¬ (ds.length : Int) ≤ 4 := by omega
      simp [f_law_are_right, toF_at, m_law_are_right, outs_cons, outs_nil, isTy, areProgD, e1, e2, c2]
  · have e1 : ¬ (1 : Int) ≤ (ds.length : Int) := by omega
    simp [f_law_are_right, toF_at, m_law_are_right, outs_cons, outs_nil, isTy, areProgD, e1, c1]
theorem truth_eq (a : Bool) : f_law_truth [.dat (.bl a), .dat (.bl a)] = .ok (.dat (.bl true)) [.un, .un] := by
  simp [f_law_truth, toF_at, m_law_truth, outs_cons, outs_nil, isTy]
theorem cell_spec (ns : List Int) (k : Nat) : ∃ c : Int, f_law_cell_at [.dat (.scr (ns.map .int)), .dat (.int (k : Int))] = .ok (.dat (.int c)) [.un, .un] := by
  by_cases h : k < ns.length
  · have e : (k : Int) < (ns.length : Int) := by omega
    exact ⟨ns[k], by simp [f_law_cell_at, toF_at, m_law_cell_at, outs_cons, outs_nil, e, atI_nat', h]⟩
  · have e : ¬ (k : Int) < (ns.length : Int) := by omega
    exact ⟨0, by simp [f_law_cell_at, toF_at, m_law_cell_at, outs_cons, outs_nil, e]⟩
/-- what the list may be -/
structure LS (d : D) : Prop where
  nc : niceB d = true
  ns : noScr d = true
  pg : ∀ ds, d = .lst ds → ∀ x ∈ ds, pgB x = true
  rp : rpr 260000 60 d
theorem ls_of {d : D} (h : Th d) (n : ∀ ds, d ≠ .lst ds) (hs : noScr d = true) : LS d := ⟨h.nc, hs, fun ds e => absurd e (n ds), h.rp.mono⟩
theorem some_lc {G Bd : D} (hG : Th G) (hB : Th Bd) : ∀ (ds : List D) (w : Well) (acc : List D), acc.length + ds.length ≤ 1000 → ∃ (xs : List D) (w' : Well),
    lcD (pName 4) tYs e_law_list_1 [4] ds acc [.own w.ds, .dat G, .dat Bd, .un, .un] = .ok (acc ++ xs, [.own w'.ds, .dat G, .dat Bd, .un, .un]) ∧ xs.length = ds.length ∧ ∀ x ∈ xs, Th x
  | [], w, acc, _ => ⟨[], w, by simp, rfl, fun _ m => absurd m List.not_mem_nil⟩
  | d :: ds, w, acc, hl => by
    rw [List.length_cons] at hl
    obtain ⟨x, w1, hx, e1⟩ := of_spec w (ds := [G, G, G, Bd]) (by simp) (by simp)
    have tx : Th x := by
      simp only [List.mem_cons, List.not_mem_nil, or_false] at hx
      rcases hx with rfl | rfl | rfl | rfl <;> assumption
    obtain ⟨xs, w', e, h1, h2⟩ := some_lc hG hB ds w1 (acc ++ [x]) (by rw [List.length_append, List.length_singleton]; omega)
    have hz : acc.length < sizeLine := by rw [sizeLine_eq]; omega
    refine ⟨x :: xs, w', ?_, by rw [List.length_cons, List.length_cons, h1], fun y m => (List.mem_cons.mp m).elim (fun z => z ▸ tx) (h2 y)⟩
    rw [lcD_cons]
    simp [ue_law_list_1, e1, hz, wipeE]
    simpa using e
theorem list_spec (w : Well) {G Bd : D} (hG : Th G) (hB : Th Bd) (nG : ∀ ds, G ≠ .lst ds) (sG : noScr G = true) : ∃ (d : D) (w' : Well), LS d ∧ f_law_list [.own w.ds, .dat G, .dat Bd] = .ok (.dat d) [.own w'.ds, .un, .un] := by
  have a0 := w.lo (b := 7) (by decide)
  have a1 := w.hi (b := 7) (by decide)
  have e0 := dig w (b := 7) (by decide) (by decide)
  obtain ⟨n, hn⟩ : ∃ n : Nat, w.fig 7 = (n : Int) := ⟨(w.fig 7).toNat, by omega⟩
  rw [hn] at e0 a1
  generalize w.aft 7 = w1 at *
  have hr : rng1 [.int (n : Int)] = some (rngD 0 n) := by
    have := rng1_ok (n : Int) (rngOk_of (by omega) (by omega))
    simpa using this
  obtain ⟨xs, w2, e1, xl, xt⟩ := some_lc hG hB (rngD 0 n) w1 [] (by rw [rngD_length]; simp; omega)
  rw [rngD_length] at xl
  rw [List.nil_append] at e1
  obtain ⟨d, w3, hd, e2⟩ := of_spec w2 (ds := [.lst xs, .lst xs, .lst xs, .tup xs, G, .non, .dk []]) (by simp) (by simp)
  have nx : ∀ x ∈ xs, niceB x = true := fun x m => (xt x m).nc
  have rl : rpr 260000 60 (.lst xs) := (rpr_lst (n := 6) (fun x m => (xt x m).rp) (by omega)).mono
  have rt : rpr 260000 60 (.tup xs) := (rpr_tup (n := 6) (fun x m => (xt x m).rp) (by omega)).mono
  have ll : LS (.lst xs) := ⟨by rw [nice_lst, List.all_eq_true]; exact nx, rfl, fun ds e => by cases e; exact fun x m => (xt x m).pg, rl⟩
  have ld : LS d := by
    simp only [List.mem_cons, List.not_mem_nil, or_false] at hd
    rcases hd with rfl | rfl | rfl | rfl | rfl | rfl | rfl
    · exact ll
    · exact ll
    · exact ll
    · exact ⟨by rw [nice_tup, List.all_eq_true]; exact nx, rfl, fun ds e => (nomatch e), rt⟩
    · exact ls_of hG nG sG
    · exact ⟨rfl, rfl, fun ds e => (nomatch e), rpr_non⟩
    · exact ⟨by simp, rfl, fun ds e => (nomatch e), (rpr_dk (W := 0) (k := 0)).mono⟩
  refine ⟨d, w3, ld, ?_⟩
  have gt : gTuple [.lst xs] = some (.dat (.tup xs)) := rfl
  simp [f_law_list, toF_at, m_law_list, outs_cons, outs_nil, e0, hr, e1, e2, gt, wipeE, restE]
/-- what is a program, taken apart -/
theorem wp_of {ts : List Int} {ps : List Wb} (tl : ts.length ≤ 3) (tr : ∀ t ∈ ts, 1 ≤ t ∧ t ≤ 9) (p0 : 1 ≤ ps.length) (p6 : ps.length ≤ 6) (ok : ∀ p ∈ ps, okC ts.length p.2) : WP (ts.map .int) (ps.map stp) := by
  refine ⟨by simpa using tl, fun d m => ?_, by simpa using p6, by simpa using p0, fun d m => ?_, fun _ _ => .inr trivial, ?_, fun d m w => ?_⟩
  · obtain ⟨t, ht, rfl⟩ := List.mem_map.mp m
    obtain ⟨h1, h2⟩ := tr t ht
    have e : (9 : Nat) < 10 ^ 41 := by decide
    exact ⟨by simp, rfl, rpr_int (by omega)⟩
  · obtain ⟨p, hp, rfl⟩ := List.mem_map.mp m
    exact ⟨nice_stp p, st_stp p, rpr_stp (ok p hp) (by omega)⟩
  · match ps with
    | [] => rfl
    | [p] => rfl
    | [p, q] =>
      show [wd q.1, slotD q.2].all stB = true
      simp [wd, stB, slotD, cmpB, slB]
    | p :: q :: r :: l => rfl
  · obtain ⟨p, hp, rfl⟩ := List.mem_map.mp m
    exact spoilt_step_spec w (ok p hp) (by omega)
theorem wp_prog {d : D} (h : isProgD d = true) : ∃ T S, d = .tup [.tup T, .tup S] ∧ WP T S := by
  unfold isProgD at h
  split at h
  · rename_i ts ss
    simp only [Bool.and_eq_true, decide_eq_true_eq] at h
    obtain ⟨⟨⟨⟨hT, c1, c2⟩, q⟩, _⟩, _⟩ := h
    simp only [areTabD, Bool.and_eq_true, decide_eq_true_eq] at hT
    obtain ⟨ns, rfl⟩ := ints_of_all hT.2
    obtain ⟨ps, rfl, ok⟩ := stps_inv q
    rw [List.length_map] at ok c1 c2
    refine ⟨_, _, rfl, wp_of (by simpa using hT.1) (fun t ht => ?_) c1 c2 ok⟩
    have := List.all_eq_true.mp hT.2 (.int t) (List.mem_map.mpr ⟨t, ht, rfl⟩)
    simpa [isFromD] using this
  · cases h
theorem Prg_wp {ts : List Int} {ps : List Wb} (g : Prg ts ps) : WP (ts.map .int) (ps.map stp) := wp_of g.tl g.tr (List.length_pos_iff.mpr g.ne) g.le g.ok
theorem th_prg {ts : List Int} {ps : List Wb} (g : Prg ts ps) : Th (prg ts ps) := th_two (Prg_wp g).T (Prg_wp g).S
theorem turns_loop (S0 C G : B) (x6 x7 x8 : B) : ∀ (ds : List D) (w : Well) (Bd : D) (x5 : B), Th Bd → ∃ (w' : Well) (Bd' : D) (y5 : B),
    forD (pName 5) b_law_1 ds [S0, C, .own w.ds, G, .dat Bd, x5, x6, x7, x8] = .nx [S0, C, .own w'.ds, G, .dat Bd', y5, x6, x7, x8] ∧ Th Bd'
  | [], w, Bd, x5, h => ⟨w, Bd, x5, rfl, h⟩
  | d :: ds, w, Bd, x5, h => by
    have ir := is_right_eq h.nc h.pg
    rw [forD_cons]
    cases q : isProgD Bd with
    | false =>
      rw [q] at ir
      obtain ⟨w', B', y5, e, h'⟩ := turns_loop S0 C G x6 x7 x8 ds w Bd (.dat d) h
      exact ⟨w', B', y5, by simp [ub_law_1, ir, e], h'⟩
    | true =>
      rw [q] at ir
      obtain ⟨T, S, rfl, wp⟩ := wp_prog q
      obtain ⟨n, w1, hn, e1⟩ := spoilt_spec w wp
      obtain ⟨w', B', y5, e, h'⟩ := turns_loop S0 C G x6 x7 x8 ds w1 n (.dat d) hn
      exact ⟨w', B', y5, by simp [ub_law_1, ir, e1, e], h'⟩
theorem judge {d : D} (h : Th d) (S0 C W G Bd x5 x7 x8 : B) : ∃ t : Str, b_law_2 [S0, C, W, G, Bd, x5, .dat d, x7, x8] = .nx [S0, C, W, G, Bd, x5, .dat d, .dat (.str t), x8] := by
  obtain ⟨t, et⟩ := gRepr_ok (h.rp.mono : rpr 260000 60 d)
  have ip := is_program_eq h.nc
  have ir := is_right_eq h.nc h.pg
  have tr := truth_eq (isProgD d)
  have nt := gNe_text t
  refine ⟨t, ?_⟩
  generalize isProgD d = b at *
  simp [ub_law_2, et, ip, ir, tr, nt]
theorem rep4 (d : D) : gMul (.lst [d]) (.int 4) = some (.own [d, d, d, d]) := gMul_rep (k := 4) (by decide) (by decide) (by simp)
theorem rep5 (d : D) : gMul (.lst [d]) (.int 5) = some (.own [d, d, d, d, d]) := gMul_rep (k := 5) (by decide) (by decide) (by simp)
theorem law6 {G : D} (h : Th G) (is : isProgD G = true) (S0 C W Bd x5 x6 x7 x8 : B) : q_law_6 [S0, C, W, .dat G, Bd, x5, x6, x7, x8] = .nx [S0, C, W, .dat G, Bd, x5, x6, x7, x8] := by
  have ip := is_program_eq h.nc
  rw [is] at ip
  have n4 : niceB (.lst [G, G, G, G]) = true := by simp [h.nc]
  have n5 : niceB (.lst [G, G, G, G, G]) = true := by simp [h.nc]
  have a4 := are_programs_eq n4 rfl
  have a5 := are_programs_eq n5 rfl
  have b4 : areProgD (.lst [G, G, G, G]) = true := by simp [areProgD, is]
  have b5 : areProgD (.lst [G, G, G, G, G]) = false := by simp [areProgD]
  rw [b4] at a4
  rw [b5] at a5
  simp [ip, rep4, rep5, a4, a5]
theorem law5 {L : D} (h : LS L) (S0 C W G Bd x5 x6 x7 : B) : ∃ t : Str, (sSeq (sSet 7 (cD (cCB gRepr (aCons (cNO 8) aNil)))) q_law_5) [S0, C, W, G, Bd, x5, x6, x7, .dat L] = .nx [S0, C, W, G, Bd, x5, x6, .dat (.str t), .dat L] := by
  obtain ⟨t, et⟩ := gRepr_ok h.rp
  have ip := are_programs_eq h.nc h.ns
  have ir := are_right_eq h.nc h.ns h.pg
  have tr := truth_eq (areProgD L)
  have nt := gNe_text t
  refine ⟨t, ?_⟩
  generalize areProgD L = b at *
  simp [et, ip, ir, tr, nt]
theorem cell_turn (S0 : B) (c : Int) (x2 x3 x4 x5 x6 x7 x8 : B) : ∃ y2 y3 y4 y5 y6 y7 y8 : B, b_law_3 [S0, .dat (.int c), x2, x3, x4, x5, x6, x7, x8] = .nx [S0, .dat (.int c), y2, y3, y4, y5, y6, y7, y8] := by
  obtain ⟨ts, ps, w1, e1, g⟩ := program_spec (.raw c)
  have e1 : f_law_program [.own [.int c], .dat (.int 3), .dat (.int 6)] = .ok (.dat (prg ts ps)) [.own w1.ds, .un, .un] := e1
  have tG := th_prg g
  have is := g.is
  have nG : ∀ ds, prg ts ps ≠ .lst ds := fun ds e => nomatch e
  have sG : noScr (prg ts ps) = true := rfl
  have fG : frz (.dat (prg ts ps)) = some (prg ts ps) := rfl
  generalize prg ts ps = G at *
  have a0 := w1.lo (b := 2) (by decide)
  have a1 := w1.hi (b := 2) (by decide)
  have e2 := dig w1 (b := 2) (by decide) (by decide)
  have hr : rng1 [.int (1 + w1.fig 2)] = some (rngD 0 (1 + w1.fig 2).toNat) := rng1_ok _ (rngOk_of (by omega) (by omega))
  obtain ⟨w2, Bd, y5, e3, tB⟩ := turns_loop S0 (.dat (.int c)) (.dat G) x6 x7 x8 (rngD 0 (1 + w1.fig 2).toNat) (w1.aft 2) G x5 tG
  obtain ⟨t1, j1⟩ := judge tG S0 (.dat (.int c)) (.own w2.ds) (.dat G) (.dat Bd) y5 x7 x8
  obtain ⟨t2, j2⟩ := judge tB S0 (.dat (.int c)) (.own w2.ds) (.dat G) (.dat Bd) y5 (.dat (.str t1)) x8
  obtain ⟨L, w3, hL, e4⟩ := list_spec w2 tG tB nG sG
  obtain ⟨t3, e5⟩ := law5 hL S0 (.dat (.int c)) (.own w3.ds) (.dat G) (.dat Bd) y5 (.dat Bd) (.dat (.str t2))
  have e6 := law6 tG is S0 (.dat (.int c)) (.own w3.ds) (.dat Bd) y5 (.dat Bd) (.dat (.str t3)) (.dat L)
  have s1 : (sSet 2 (cLst (aCons (cNO 1) aNil))) [S0, .dat (.int c), x2, x3, x4, x5, x6, x7, x8] = .nx [S0, .dat (.int c), .own [.int c], x3, x4, x5, x6, x7, x8] := by simp
  have s2 : q_law_1 [S0, .dat (.int c), .own [.int c], x3, x4, x5, x6, x7, x8] = .nx [S0, .dat (.int c), .own w1.ds, .dat G, x4, x5, x6, x7, x8] := by simp [e1]
  have s3 : (sSet 4 (cD (cN 3))) [S0, .dat (.int c), .own w1.ds, .dat G, x4, x5, x6, x7, x8] = .nx [S0, .dat (.int c), .own w1.ds, .dat G, .dat G, x5, x6, x7, x8] := by simp
  have s4 : q_law_2 [S0, .dat (.int c), .own w1.ds, .dat G, .dat G, x5, x6, x7, x8] = .nx [S0, .dat (.int c), .own w2.ds, .dat G, .dat Bd, y5, x6, x7, x8] := by
    generalize rngD 0 (1 + w1.fig 2).toNat = R at *
    generalize w1.fig 2 = r at *
    simp [e2, hr, e3]
  have s5 : q_law_3 [S0, .dat (.int c), .own w2.ds, .dat G, .dat Bd, y5, x6, x7, x8] = .nx [S0, .dat (.int c), .own w2.ds, .dat G, .dat Bd, y5, .dat Bd, .dat (.str t2), x8] := by
    have f : forD (pName 6) b_law_2 [G, Bd] [S0, .dat (.int c), .own w2.ds, .dat G, .dat Bd, y5, x6, x7, x8] = .nx [S0, .dat (.int c), .own w2.ds, .dat G, .dat Bd, y5, .dat Bd, .dat (.str t2), x8] := by
      rw [forD_cons]
      simp [j1, forD_cons, j2]
    simp [f]
  have s6 : q_law_4 [S0, .dat (.int c), .own w2.ds, .dat G, .dat Bd, y5, .dat Bd, .dat (.str t2), x8] = .nx [S0, .dat (.int c), .own w3.ds, .dat G, .dat Bd, y5, .dat Bd, .dat (.str t2), .dat L] := by simp [e4]
  rw [e_sSeq] at e5
  refine ⟨.own w3.ds, .dat G, .dat Bd, y5, .dat Bd, .dat (.str t3), .dat L, ?_⟩
  rw [ub_law_3]
  refine seq_nx s1 (seq_nx s2 (seq_nx s3 (seq_nx s4 (seq_nx s5 (seq_nx s6 ?_)))))
  rw [e_sSeq]
  cases q : (sSet 7 (cD (cCB gRepr (aCons (cNO 8) aNil)))) [S0, .dat (.int c), .own w3.ds, .dat G, .dat Bd, y5, .dat Bd, .dat (.str t2), .dat L] with
  | nx ρ =>
    rw [q] at e5
    show sSeq q_law_5 q_law_6 ρ = _
    have e5 : q_law_5 ρ = .nx [S0, .dat (.int c), .own w3.ds, .dat G, .dat Bd, y5, .dat Bd, .dat (.str t3), .dat L] := e5
    exact seq_nx e5 e6
  | rt b ρ =>
    rw [q] at e5
    cases e5
  | bk ρ =>
    rw [q] at e5
    cases e5
  | ct ρ =>
    rw [q] at e5
    cases e5
  | er x ρ =>
    rw [q] at e5
    cases e5
  | stuck =>
    rw [q] at e5
    cases e5
theorem law_loop (S0 : B) : ∀ (ds : List D) (x1 x2 x3 x4 x5 x6 x7 x8 : B), (∀ d ∈ ds, ∃ c : Int, d = .int c) → ∃ y1 y2 y3 y4 y5 y6 y7 y8 : B, forD (pName 1) b_law_3 ds [S0, x1, x2, x3, x4, x5, x6, x7, x8] = .nx [S0, y1, y2, y3, y4, y5, y6, y7, y8]
  | [], x1, x2, x3, x4, x5, x6, x7, x8, _ => ⟨x1, x2, x3, x4, x5, x6, x7, x8, rfl⟩
  | d :: ds, x1, x2, x3, x4, x5, x6, x7, x8, h => by
    obtain ⟨c, rfl⟩ := h d List.mem_cons_self
    obtain ⟨y2, y3, y4, y5, y6, y7, y8, e⟩ := cell_turn S0 c x2 x3 x4 x5 x6 x7 x8
    obtain ⟨z1, z2, z3, z4, z5, z6, z7, z8, ih⟩ := law_loop S0 ds (.dat (.int c)) y2 y3 y4 y5 y6 y7 y8 fun e m => h e (List.mem_cons_of_mem _ m)
    refine ⟨z1, z2, z3, z4, z5, z6, z7, z8, ?_⟩
    rw [forD_cons]
    simp [e, ih]
theorem law_true (ns : List Int) (hl : ns.length ≤ 63) : ∃ outs, f_law [.dat (.scr (ns.map .int))] = .ok (.dat (.bl true)) outs := by
  obtain ⟨c, ec⟩ := cell_spec ns 0
  have hc := cut_len (ns.map D.int) (some 1) (some 16)
  rw [List.length_map] at hc
  have ga := gAdd_lst (xs := [.int c]) (ys := cutD (ns.map D.int) (some 1) (some 16)) (by simp; omega)
  obtain ⟨y1, y2, y3, y4, y5, y6, y7, y8, e⟩ := law_loop (.dat (.scr (ns.map .int))) ([.int c] ++ cutD (ns.map D.int) (some 1) (some 16)) .un .un .un .un .un .un .un .un (fun d m => by
    rcases List.mem_append.mp m with z | z
    · exact ⟨c, List.mem_singleton.mp z⟩
    · obtain ⟨k, _, rfl⟩ := List.mem_map.mp (cut_sub z)
      exact ⟨k, rfl⟩)
  have ec : f_law_cell_at [.dat (.scr (ns.map .int)), .dat (.int 0)] = .ok (.dat (.int c)) [.un, .un] := ec
  have gs : gSl (.scr (ns.map D.int)) (some 1) (some 16) = some (.own (cutD (ns.map D.int) (some 1) (some 16))) := rfl
  have e : forD (pName 1) b_law_3 (D.int c :: cutD (ns.map D.int) (some 1) (some 16)) [.dat (.scr (ns.map .int)), .un, .un, .un, .un, .un, .un, .un, .un] = _ := e
  exact ⟨[.un], by simp [f_law, toF_at, m_law, outs_cons, outs_nil, ec, gs, ga, e]⟩
end Law

set_option Elab.async false
set_option linter.all false
set_option maxRecDepth 100000
set_option maxHeartbeats 8000000
namespace Law
open PySem PySem.Spec L2 Dl
open PyProof.Rows hiding St
theorem all_mk {l : PySem.W.OpenLaw} {w : World} {K : PySem.W.Frag} {h : Heap} {mg : Str → Option Value} {fa : Addr} (X : K.In h) (G : h.Ns mainGlobals mg) (hfa : mg "law" = some (.ref fa))
    {p0 : Addr} {od0 an0 : Option Addr} {sl0 : Array (Option Value)} {oc0 kV0 dc0 pm0 cd0 ct0 : Value}
    (a0 : PySem.W.nsIn K mainGlobals "_law_digit" = some (some (.ref p0)))
    (l0 : K.lookup p0 = some ⟨oc0, od0, .func (PySem.W.fnOf "_law_digit" "_law_digit" (defArgs s_law_digit) (defBody s_law_digit) (defScope s_law_digit) .none kV0 dc0 pm0 an0 cd0 ct0), sl0⟩) (c0 : PySem.W.codeIn K cd0 "_law_digit" = true) (k0 : PySem.W.keepIn K (.ref p0) = true)
    {p1 : Addr} {od1 an1 : Option Addr} {sl1 : Array (Option Value)} {oc1 kV1 dc1 pm1 cd1 ct1 : Value}
    (a1 : PySem.W.nsIn K mainGlobals "_law_of" = some (some (.ref p1)))
    (l1 : K.lookup p1 = some ⟨oc1, od1, .func (PySem.W.fnOf "_law_of" "_law_of" (defArgs s_law_of) (defBody s_law_of) (defScope s_law_of) .none kV1 dc1 pm1 an1 cd1 ct1), sl1⟩) (c1 : PySem.W.codeIn K cd1 "_law_of" = true) (k1 : PySem.W.keepIn K (.ref p1) = true)
    {p2 : Addr} {od2 an2 : Option Addr} {sl2 : Array (Option Value)} {oc2 kV2 dc2 pm2 cd2 ct2 : Value}
    (a2 : PySem.W.nsIn K mainGlobals "_law_steps" = some (some (.ref p2)))
    (l2 : K.lookup p2 = some ⟨oc2, od2, .func (PySem.W.fnOf "_law_steps" "_law_steps" (defArgs s_law_steps) (defBody s_law_steps) (defScope s_law_steps) .none kV2 dc2 pm2 an2 cd2 ct2), sl2⟩) (c2 : PySem.W.codeIn K cd2 "_law_steps" = true) (k2 : PySem.W.keepIn K (.ref p2) = true)
    {p3 : Addr} {od3 an3 : Option Addr} {sl3 : Array (Option Value)} {oc3 kV3 dc3 pm3 cd3 ct3 : Value}
    (a3 : PySem.W.nsIn K mainGlobals "_law_program" = some (some (.ref p3)))
    (l3 : K.lookup p3 = some ⟨oc3, od3, .func (PySem.W.fnOf "_law_program" "_law_program" (defArgs s_law_program) (defBody s_law_program) (defScope s_law_program) .none kV3 dc3 pm3 an3 cd3 ct3), sl3⟩) (c3 : PySem.W.codeIn K cd3 "_law_program" = true) (k3 : PySem.W.keepIn K (.ref p3) = true)
    {p4 : Addr} {od4 an4 : Option Addr} {sl4 : Array (Option Value)} {oc4 kV4 dc4 pm4 cd4 ct4 : Value}
    (a4 : PySem.W.nsIn K mainGlobals "_law_list" = some (some (.ref p4)))
    (l4 : K.lookup p4 = some ⟨oc4, od4, .func (PySem.W.fnOf "_law_list" "_law_list" (defArgs s_law_list) (defBody s_law_list) (defScope s_law_list) .none kV4 dc4 pm4 an4 cd4 ct4), sl4⟩) (c4 : PySem.W.codeIn K cd4 "_law_list" = true) (k4 : PySem.W.keepIn K (.ref p4) = true)
    {p5 : Addr} {od5 an5 : Option Addr} {sl5 : Array (Option Value)} {oc5 kV5 dc5 pm5 cd5 ct5 : Value}
    (a5 : PySem.W.nsIn K mainGlobals "_law_cell_at" = some (some (.ref p5)))
    (l5 : K.lookup p5 = some ⟨oc5, od5, .func (PySem.W.fnOf "_law_cell_at" "_law_cell_at" (defArgs s_law_cell_at) (defBody s_law_cell_at) (defScope s_law_cell_at) .none kV5 dc5 pm5 an5 cd5 ct5), sl5⟩) (c5 : PySem.W.codeIn K cd5 "_law_cell_at" = true) (k5 : PySem.W.keepIn K (.ref p5) = true)
    {p6 : Addr} {od6 an6 : Option Addr} {sl6 : Array (Option Value)} {oc6 kV6 dc6 pm6 cd6 ct6 : Value}
    (a6 : PySem.W.nsIn K mainGlobals "_law_whole" = some (some (.ref p6)))
    (l6 : K.lookup p6 = some ⟨oc6, od6, .func (PySem.W.fnOf "_law_whole" "_law_whole" (defArgs s_law_whole) (defBody s_law_whole) (defScope s_law_whole) .none kV6 dc6 pm6 an6 cd6 ct6), sl6⟩) (c6 : PySem.W.codeIn K cd6 "_law_whole" = true) (k6 : PySem.W.keepIn K (.ref p6) = true)
    {p7 : Addr} {od7 an7 : Option Addr} {sl7 : Array (Option Value)} {oc7 kV7 dc7 pm7 cd7 ct7 : Value}
    (a7 : PySem.W.nsIn K mainGlobals "_law_is_step" = some (some (.ref p7)))
    (l7 : K.lookup p7 = some ⟨oc7, od7, .func (PySem.W.fnOf "_law_is_step" "_law_is_step" (defArgs s_law_is_step) (defBody s_law_is_step) (defScope s_law_is_step) .none kV7 dc7 pm7 an7 cd7 ct7), sl7⟩) (c7 : PySem.W.codeIn K cd7 "_law_is_step" = true) (k7 : PySem.W.keepIn K (.ref p7) = true)
    {p8 : Addr} {od8 an8 : Option Addr} {sl8 : Array (Option Value)} {oc8 kV8 dc8 pm8 cd8 ct8 : Value}
    (a8 : PySem.W.nsIn K mainGlobals "_law_is_right" = some (some (.ref p8)))
    (l8 : K.lookup p8 = some ⟨oc8, od8, .func (PySem.W.fnOf "_law_is_right" "_law_is_right" (defArgs s_law_is_right) (defBody s_law_is_right) (defScope s_law_is_right) .none kV8 dc8 pm8 an8 cd8 ct8), sl8⟩) (c8 : PySem.W.codeIn K cd8 "_law_is_right" = true) (k8 : PySem.W.keepIn K (.ref p8) = true)
    {p9 : Addr} {od9 an9 : Option Addr} {sl9 : Array (Option Value)} {oc9 kV9 dc9 pm9 cd9 ct9 : Value}
    (a9 : PySem.W.nsIn K mainGlobals "is_from" = some (some (.ref p9)))
    (l9 : K.lookup p9 = some ⟨oc9, od9, .func (PySem.W.fnOf "is_from" "is_from" (defArgs s_is_from) (defBody s_is_from) (defScope s_is_from) .none kV9 dc9 pm9 an9 cd9 ct9), sl9⟩) (c9 : PySem.W.codeIn K cd9 "is_from" = true) (k9 : PySem.W.keepIn K (.ref p9) = true)
    {p10 : Addr} {od10 an10 : Option Addr} {sl10 : Array (Option Value)} {oc10 kV10 dc10 pm10 cd10 ct10 : Value}
    (a10 : PySem.W.nsIn K mainGlobals "are_tables" = some (some (.ref p10)))
    (l10 : K.lookup p10 = some ⟨oc10, od10, .func (PySem.W.fnOf "are_tables" "are_tables" (defArgs s_are_tables) (defBody s_are_tables) (defScope s_are_tables) .none kV10 dc10 pm10 an10 cd10 ct10), sl10⟩) (c10 : PySem.W.codeIn K cd10 "are_tables" = true) (k10 : PySem.W.keepIn K (.ref p10) = true)
    {p11 : Addr} {od11 an11 : Option Addr} {sl11 : Array (Option Value)} {oc11 kV11 dc11 pm11 cd11 ct11 : Value}
    (a11 : PySem.W.nsIn K mainGlobals "in_order" = some (some (.ref p11)))
    (l11 : K.lookup p11 = some ⟨oc11, od11, .func (PySem.W.fnOf "in_order" "in_order" (defArgs s_in_order) (defBody s_in_order) (defScope s_in_order) .none kV11 dc11 pm11 an11 cd11 ct11), sl11⟩) (c11 : PySem.W.codeIn K cd11 "in_order" = true) (k11 : PySem.W.keepIn K (.ref p11) = true)
    {p12 : Addr} {od12 an12 : Option Addr} {sl12 : Array (Option Value)} {oc12 kV12 dc12 pm12 cd12 ct12 : Value}
    (a12 : PySem.W.nsIn K mainGlobals "is_slot" = some (some (.ref p12)))
    (l12 : K.lookup p12 = some ⟨oc12, od12, .func (PySem.W.fnOf "is_slot" "is_slot" (defArgs s_is_slot) (defBody s_is_slot) (defScope s_is_slot) .none kV12 dc12 pm12 an12 cd12 ct12), sl12⟩) (c12 : PySem.W.codeIn K cd12 "is_slot" = true) (k12 : PySem.W.keepIn K (.ref p12) = true)
    {p13 : Addr} {od13 an13 : Option Addr} {sl13 : Array (Option Value)} {oc13 kV13 dc13 pm13 cd13 ct13 : Value}
    (a13 : PySem.W.nsIn K mainGlobals "is_slot_step" = some (some (.ref p13)))
    (l13 : K.lookup p13 = some ⟨oc13, od13, .func (PySem.W.fnOf "is_slot_step" "is_slot_step" (defArgs s_is_slot_step) (defBody s_is_slot_step) (defScope s_is_slot_step) .none kV13 dc13 pm13 an13 cd13 ct13), sl13⟩) (c13 : PySem.W.codeIn K cd13 "is_slot_step" = true) (k13 : PySem.W.keepIn K (.ref p13) = true)
    {p14 : Addr} {od14 an14 : Option Addr} {sl14 : Array (Option Value)} {oc14 kV14 dc14 pm14 cd14 ct14 : Value}
    (a14 : PySem.W.nsIn K mainGlobals "is_program" = some (some (.ref p14)))
    (l14 : K.lookup p14 = some ⟨oc14, od14, .func (PySem.W.fnOf "is_program" "is_program" (defArgs s_is_program) (defBody s_is_program) (defScope s_is_program) .none kV14 dc14 pm14 an14 cd14 ct14), sl14⟩) (c14 : PySem.W.codeIn K cd14 "is_program" = true) (k14 : PySem.W.keepIn K (.ref p14) = true)
    {p15 : Addr} {od15 an15 : Option Addr} {sl15 : Array (Option Value)} {oc15 kV15 dc15 pm15 cd15 ct15 : Value}
    (a15 : PySem.W.nsIn K mainGlobals "are_programs" = some (some (.ref p15)))
    (l15 : K.lookup p15 = some ⟨oc15, od15, .func (PySem.W.fnOf "are_programs" "are_programs" (defArgs s_are_programs) (defBody s_are_programs) (defScope s_are_programs) .none kV15 dc15 pm15 an15 cd15 ct15), sl15⟩) (c15 : PySem.W.codeIn K cd15 "are_programs" = true) (k15 : PySem.W.keepIn K (.ref p15) = true)
    {p16 : Addr} {od16 an16 : Option Addr} {sl16 : Array (Option Value)} {oc16 kV16 dc16 pm16 cd16 ct16 : Value}
    (a16 : PySem.W.nsIn K mainGlobals "_law_put" = some (some (.ref p16)))
    (l16 : K.lookup p16 = some ⟨oc16, od16, .func (PySem.W.fnOf "_law_put" "_law_put" (defArgs s_law_put) (defBody s_law_put) (defScope s_law_put) .none kV16 dc16 pm16 an16 cd16 ct16), sl16⟩) (c16 : PySem.W.codeIn K cd16 "_law_put" = true) (k16 : PySem.W.keepIn K (.ref p16) = true)
    {p17 : Addr} {od17 an17 : Option Addr} {sl17 : Array (Option Value)} {oc17 kV17 dc17 pm17 cd17 ct17 : Value}
    (a17 : PySem.W.nsIn K mainGlobals "_law_odd" = some (some (.ref p17)))
    (l17 : K.lookup p17 = some ⟨oc17, od17, .func (PySem.W.fnOf "_law_odd" "_law_odd" (defArgs s_law_odd) (defBody s_law_odd) (defScope s_law_odd) .none kV17 dc17 pm17 an17 cd17 ct17), sl17⟩) (c17 : PySem.W.codeIn K cd17 "_law_odd" = true) (k17 : PySem.W.keepIn K (.ref p17) = true)
    {p18 : Addr} {od18 an18 : Option Addr} {sl18 : Array (Option Value)} {oc18 kV18 dc18 pm18 cd18 ct18 : Value}
    (a18 : PySem.W.nsIn K mainGlobals "_law_spoilt_step" = some (some (.ref p18)))
    (l18 : K.lookup p18 = some ⟨oc18, od18, .func (PySem.W.fnOf "_law_spoilt_step" "_law_spoilt_step" (defArgs s_law_spoilt_step) (defBody s_law_spoilt_step) (defScope s_law_spoilt_step) .none kV18 dc18 pm18 an18 cd18 ct18), sl18⟩) (c18 : PySem.W.codeIn K cd18 "_law_spoilt_step" = true) (k18 : PySem.W.keepIn K (.ref p18) = true)
    {p19 : Addr} {od19 an19 : Option Addr} {sl19 : Array (Option Value)} {oc19 kV19 dc19 pm19 cd19 ct19 : Value}
    (a19 : PySem.W.nsIn K mainGlobals "_law_spoilt" = some (some (.ref p19)))
    (l19 : K.lookup p19 = some ⟨oc19, od19, .func (PySem.W.fnOf "_law_spoilt" "_law_spoilt" (defArgs s_law_spoilt) (defBody s_law_spoilt) (defScope s_law_spoilt) .none kV19 dc19 pm19 an19 cd19 ct19), sl19⟩) (c19 : PySem.W.codeIn K cd19 "_law_spoilt" = true) (k19 : PySem.W.keepIn K (.ref p19) = true)
    {p20 : Addr} {od20 an20 : Option Addr} {sl20 : Array (Option Value)} {oc20 kV20 dc20 pm20 cd20 ct20 : Value}
    (a20 : PySem.W.nsIn K mainGlobals "_law_truth" = some (some (.ref p20)))
    (l20 : K.lookup p20 = some ⟨oc20, od20, .func (PySem.W.fnOf "_law_truth" "_law_truth" (defArgs s_law_truth) (defBody s_law_truth) (defScope s_law_truth) .none kV20 dc20 pm20 an20 cd20 ct20), sl20⟩) (c20 : PySem.W.codeIn K cd20 "_law_truth" = true) (k20 : PySem.W.keepIn K (.ref p20) = true)
    {p21 : Addr} {od21 an21 : Option Addr} {sl21 : Array (Option Value)} {oc21 kV21 dc21 pm21 cd21 ct21 : Value}
    (a21 : PySem.W.nsIn K mainGlobals "_law_are_right" = some (some (.ref p21)))
    (l21 : K.lookup p21 = some ⟨oc21, od21, .func (PySem.W.fnOf "_law_are_right" "_law_are_right" (defArgs s_law_are_right) (defBody s_law_are_right) (defScope s_law_are_right) .none kV21 dc21 pm21 an21 cd21 ct21), sl21⟩) (c21 : PySem.W.codeIn K cd21 "_law_are_right" = true) (k21 : PySem.W.keepIn K (.ref p21) = true)
    {p22 : Addr} {od22 an22 : Option Addr} {sl22 : Array (Option Value)} {oc22 kV22 dc22 pm22 cd22 ct22 : Value}
    (a22 : PySem.W.nsIn K mainGlobals "law" = some (some (.ref p22)))
    (l22 : K.lookup p22 = some ⟨oc22, od22, .func (PySem.W.fnOf "law" "law" (defArgs s_law) (defBody s_law) (defScope s_law) .none kV22 dc22 pm22 an22 cd22 ct22), sl22⟩) (c22 : PySem.W.codeIn K cd22 "law" = true) (k22 : PySem.W.keepIn K (.ref p22) = true)
    (z_all : PySem.W.nsIn K mainGlobals "all" = some none)
    (z_bool : PySem.W.nsIn K mainGlobals "bool" = some none)
    (z_enumerate : PySem.W.nsIn K mainGlobals "enumerate" = some none)
    (z_int : PySem.W.nsIn K mainGlobals "int" = some none)
    (z_isinstance : PySem.W.nsIn K mainGlobals "isinstance" = some none)
    (z_len : PySem.W.nsIn K mainGlobals "len" = some none)
    (z_list : PySem.W.nsIn K mainGlobals "list" = some none)
    (z_range : PySem.W.nsIn K mainGlobals "range" = some none)
    (z_repr : PySem.W.nsIn K mainGlobals "repr" = some none)
    (z_str : PySem.W.nsIn K mainGlobals "str" = some none)
    (z_tuple : PySem.W.nsIn K mainGlobals "tuple" = some none)
    {u0 : Value} (g0 : PySem.W.nsIn K mainGlobals "MOST_KEYS" = some (some u0)) (v0 : RelV (.int 3) u0)
    {u1 : Value} (g1 : PySem.W.nsIn K mainGlobals "MOST_PROGRAMS" = some (some u1)) (v1 : RelV (.int 4) u1)
    {u2 : Value} (g2 : PySem.W.nsIn K mainGlobals "MOST_STEPS" = some (some u2)) (v2 : RelV (.int 6) u2)
    {u3 : Value} (g3 : PySem.W.nsIn K mainGlobals "MOST_TABLE" = some (some u3)) (v3 : RelV (.int 9) u3)
    {u4 : Value} (g4 : PySem.W.nsIn K mainGlobals "WIDE" = some (some u4)) (v4 : RelV (.int 1000000) u4)
    {u5 : Addr} {ud5 : Option Addr} {us5 : Array Value} {un5 : Nat} {ul5 : Array (Option Value)}
    (g5 : PySem.W.nsIn K mainGlobals "WORDS" = some (some (.ref u5)))
    (h5 : K.lookup u5 = some ⟨.type "tuple", ud5, .seq us5 un5, ul5⟩)
    (v5 : Vals [.str "read", .str "write"] us5.toList) (w5 : us5.size ≤ sizeLine) :
    ∃ fd : FuncData, (∀ (s : Shared) (v : Value), BindsTo s fd ⟨[v], []⟩ [("_law_script", v)]) ∧ ∀ base : Heap, K.In base → base.Ns mainGlobals mg → FnG l.prog w K mg base 6 fa fd ["_law_script"] (spLawB K []) := by
  have e := hfa.symm.trans (PySem.W.mg_of X G a22)
  cases e
  have Z : Z0 mg := ⟨PySem.W.mg_none_of X G z_all, PySem.W.mg_none_of X G z_bool, PySem.W.mg_none_of X G z_enumerate, PySem.W.mg_none_of X G z_int, PySem.W.mg_none_of X G z_isinstance, PySem.W.mg_none_of X G z_len, PySem.W.mg_none_of X G z_list, PySem.W.mg_none_of X G z_range, PySem.W.mg_none_of X G z_repr, PySem.W.mg_none_of X G z_str, PySem.W.mg_none_of X G z_tuple⟩
  have XX : XF K mg := ⟨True.intro⟩
  have C_MOST_KEYS : CAt K mg "MOST_KEYS" (.int 3) (.int 3) u0 := ⟨PySem.W.mg_of X G g0, v0, fun _ => rp_int⟩
  have C_MOST_PROGRAMS : CAt K mg "MOST_PROGRAMS" (.int 4) (.int 4) u1 := ⟨PySem.W.mg_of X G g1, v1, fun _ => rp_int⟩
  have C_MOST_STEPS : CAt K mg "MOST_STEPS" (.int 6) (.int 6) u2 := ⟨PySem.W.mg_of X G g2, v2, fun _ => rp_int⟩
  have C_MOST_TABLE : CAt K mg "MOST_TABLE" (.int 9) (.int 9) u3 := ⟨PySem.W.mg_of X G g3, v3, fun _ => rp_int⟩
  have C_WIDE : CAt K mg "WIDE" (.int 1000000) (.int 1000000) u4 := ⟨PySem.W.mg_of X G g4, v4, fun _ => rp_int⟩
  have C_WORDS : CAt K mg "WORDS" (.tup [(.str "read"), (.str "write")]) (.ref u5) (.ref u5) := ⟨PySem.W.mg_of X G g5, rfl, fun _ => rp_wtup h5 rfl rfl w5 v5 ((.cons rp_str (.cons rp_str .nil)))⟩
  have D0 : DefAt K mg "_law_digit" s_law_digit ["_law_state", "_law_base"] p0 _ := ⟨fun_mk (st := s_law_digit) l0 c0 k0, PySem.W.mg_of X G a0, (fun_mk (st := s_law_digit) l0 c0 k0).binds (ps := ["_law_state", "_law_base"]) fun _ _ _ _ _ _ us hl => match us, hl with | [_, _], _ => rfl⟩
  have D1 : DefAt K mg "_law_of" s_law_of ["_law_state", "_law_some"] p1 _ := ⟨fun_mk (st := s_law_of) l1 c1 k1, PySem.W.mg_of X G a1, (fun_mk (st := s_law_of) l1 c1 k1).binds (ps := ["_law_state", "_law_some"]) fun _ _ _ _ _ _ us hl => match us, hl with | [_, _], _ => rfl⟩
  have D2 : DefAt K mg "_law_steps" s_law_steps ["_law_state", "_law_slots", "_law_most"] p2 _ := ⟨fun_mk (st := s_law_steps) l2 c2 k2, PySem.W.mg_of X G a2, (fun_mk (st := s_law_steps) l2 c2 k2).binds (ps := ["_law_state", "_law_slots", "_law_most"]) fun _ _ _ _ _ _ us hl => match us, hl with | [_, _, _], _ => rfl⟩
  have D3 : DefAt K mg "_law_program" s_law_program ["_law_state", "_law_keys_most", "_law_most"] p3 _ := ⟨fun_mk (st := s_law_program) l3 c3 k3, PySem.W.mg_of X G a3, (fun_mk (st := s_law_program) l3 c3 k3).binds (ps := ["_law_state", "_law_keys_most", "_law_most"]) fun _ _ _ _ _ _ us hl => match us, hl with | [_, _, _], _ => rfl⟩
  have D4 : DefAt K mg "_law_list" s_law_list ["_law_state", "_law_good", "_law_bad"] p4 _ := ⟨fun_mk (st := s_law_list) l4 c4 k4, PySem.W.mg_of X G a4, (fun_mk (st := s_law_list) l4 c4 k4).binds (ps := ["_law_state", "_law_good", "_law_bad"]) fun _ _ _ _ _ _ us hl => match us, hl with | [_, _, _], _ => rfl⟩
  have D5 : DefAt K mg "_law_cell_at" s_law_cell_at ["_law_script", "_law_k"] p5 _ := ⟨fun_mk (st := s_law_cell_at) l5 c5 k5, PySem.W.mg_of X G a5, (fun_mk (st := s_law_cell_at) l5 c5 k5).binds (ps := ["_law_script", "_law_k"]) fun _ _ _ _ _ _ us hl => match us, hl with | [_, _], _ => rfl⟩
  have D6 : DefAt K mg "_law_whole" s_law_whole ["_law_thing", "_law_low", "_law_high"] p6 _ := ⟨fun_mk (st := s_law_whole) l6 c6 k6, PySem.W.mg_of X G a6, (fun_mk (st := s_law_whole) l6 c6 k6).binds (ps := ["_law_thing", "_law_low", "_law_high"]) fun _ _ _ _ _ _ us hl => match us, hl with | [_, _, _], _ => rfl⟩
  have D7 : DefAt K mg "_law_is_step" s_law_is_step ["_law_thing", "_law_many"] p7 _ := ⟨fun_mk (st := s_law_is_step) l7 c7 k7, PySem.W.mg_of X G a7, (fun_mk (st := s_law_is_step) l7 c7 k7).binds (ps := ["_law_thing", "_law_many"]) fun _ _ _ _ _ _ us hl => match us, hl with | [_, _], _ => rfl⟩
  have D8 : DefAt K mg "_law_is_right" s_law_is_right ["_law_thing"] p8 _ := ⟨fun_mk (st := s_law_is_right) l8 c8 k8, PySem.W.mg_of X G a8, (fun_mk (st := s_law_is_right) l8 c8 k8).binds (ps := ["_law_thing"]) fun _ _ _ _ _ _ us hl => match us, hl with | [_], _ => rfl⟩
  have D9 : DefAt K mg "is_from" s_is_from ["thing", "low", "high"] p9 _ := ⟨fun_mk (st := s_is_from) l9 c9 k9, PySem.W.mg_of X G a9, (fun_mk (st := s_is_from) l9 c9 k9).binds (ps := ["thing", "low", "high"]) fun _ _ _ _ _ _ us hl => match us, hl with | [_, _, _], _ => rfl⟩
  have D10 : DefAt K mg "are_tables" s_are_tables ["thing"] p10 _ := ⟨fun_mk (st := s_are_tables) l10 c10 k10, PySem.W.mg_of X G a10, (fun_mk (st := s_are_tables) l10 c10 k10).binds (ps := ["thing"]) fun _ _ _ _ _ _ us hl => match us, hl with | [_], _ => rfl⟩
  have D11 : DefAt K mg "in_order" s_in_order ["steps"] p11 _ := ⟨fun_mk (st := s_in_order) l11 c11 k11, PySem.W.mg_of X G a11, (fun_mk (st := s_in_order) l11 c11 k11).binds (ps := ["steps"]) fun _ _ _ _ _ _ us hl => match us, hl with | [_], _ => rfl⟩
  have D12 : DefAt K mg "is_slot" s_is_slot ["thing", "many"] p12 _ := ⟨fun_mk (st := s_is_slot) l12 c12 k12, PySem.W.mg_of X G a12, (fun_mk (st := s_is_slot) l12 c12 k12).binds (ps := ["thing", "many"]) fun _ _ _ _ _ _ us hl => match us, hl with | [_, _], _ => rfl⟩
  have D13 : DefAt K mg "is_slot_step" s_is_slot_step ["thing", "many"] p13 _ := ⟨fun_mk (st := s_is_slot_step) l13 c13 k13, PySem.W.mg_of X G a13, (fun_mk (st := s_is_slot_step) l13 c13 k13).binds (ps := ["thing", "many"]) fun _ _ _ _ _ _ us hl => match us, hl with | [_, _], _ => rfl⟩
  have D14 : DefAt K mg "is_program" s_is_program ["thing"] p14 _ := ⟨fun_mk (st := s_is_program) l14 c14 k14, PySem.W.mg_of X G a14, (fun_mk (st := s_is_program) l14 c14 k14).binds (ps := ["thing"]) fun _ _ _ _ _ _ us hl => match us, hl with | [_], _ => rfl⟩
  have D15 : DefAt K mg "are_programs" s_are_programs ["thing"] p15 _ := ⟨fun_mk (st := s_are_programs) l15 c15 k15, PySem.W.mg_of X G a15, (fun_mk (st := s_are_programs) l15 c15 k15).binds (ps := ["thing"]) fun _ _ _ _ _ _ us hl => match us, hl with | [_], _ => rfl⟩
  have D16 : DefAt K mg "_law_put" s_law_put ["_law_row", "_law_k", "_law_thing"] p16 _ := ⟨fun_mk (st := s_law_put) l16 c16 k16, PySem.W.mg_of X G a16, (fun_mk (st := s_law_put) l16 c16 k16).binds (ps := ["_law_row", "_law_k", "_law_thing"]) fun _ _ _ _ _ _ us hl => match us, hl with | [_, _, _], _ => rfl⟩
  have D17 : DefAt K mg "_law_odd" s_law_odd ["_law_state", "_law_thing"] p17 _ := ⟨fun_mk (st := s_law_odd) l17 c17 k17, PySem.W.mg_of X G a17, (fun_mk (st := s_law_odd) l17 c17 k17).binds (ps := ["_law_state", "_law_thing"]) fun _ _ _ _ _ _ us hl => match us, hl with | [_, _], _ => rfl⟩
  have D18 : DefAt K mg "_law_spoilt_step" s_law_spoilt_step ["_law_state", "_law_step"] p18 _ := ⟨fun_mk (st := s_law_spoilt_step) l18 c18 k18, PySem.W.mg_of X G a18, (fun_mk (st := s_law_spoilt_step) l18 c18 k18).binds (ps := ["_law_state", "_law_step"]) fun _ _ _ _ _ _ us hl => match us, hl with | [_, _], _ => rfl⟩
  have D19 : DefAt K mg "_law_spoilt" s_law_spoilt ["_law_state", "_law_thing"] p19 _ := ⟨fun_mk (st := s_law_spoilt) l19 c19 k19, PySem.W.mg_of X G a19, (fun_mk (st := s_law_spoilt) l19 c19 k19).binds (ps := ["_law_state", "_law_thing"]) fun _ _ _ _ _ _ us hl => match us, hl with | [_, _], _ => rfl⟩
  have D20 : DefAt K mg "_law_truth" s_law_truth ["_law_found", "_law_due"] p20 _ := ⟨fun_mk (st := s_law_truth) l20 c20 k20, PySem.W.mg_of X G a20, (fun_mk (st := s_law_truth) l20 c20 k20).binds (ps := ["_law_found", "_law_due"]) fun _ _ _ _ _ _ us hl => match us, hl with | [_, _], _ => rfl⟩
  have D21 : DefAt K mg "_law_are_right" s_law_are_right ["_law_thing"] p21 _ := ⟨fun_mk (st := s_law_are_right) l21 c21 k21, PySem.W.mg_of X G a21, (fun_mk (st := s_law_are_right) l21 c21 k21).binds (ps := ["_law_thing"]) fun _ _ _ _ _ _ us hl => match us, hl with | [_], _ => rfl⟩
  have D22 : DefAt K mg "law" s_law ["_law_script"] fa _ := ⟨fun_mk (st := s_law) l22 c22 k22, PySem.W.mg_of X G a22, (fun_mk (st := s_law) l22 c22 k22).binds (ps := ["_law_script"]) fun _ _ _ _ _ _ us hl => match us, hl with | [_], _ => rfl⟩
  refine ⟨PySem.W.fnOf "law" "law" (defArgs s_law) (defBody s_law) (defScope s_law) .none kV22 dc22 pm22 an22 cd22 ct22, fun s v => .of_eq rfl, fun base _ _ => ?_⟩
  have O_law_digit := ok_law_digit (P := l.prog) (w := w) (base := base) (T := []) D0 Z XX 
  have O_law_of := ok_law_of (P := l.prog) (w := w) (base := base) (T := []) D1 Z XX O_law_digit 
  have O_law_steps := ok_law_steps (P := l.prog) (w := w) (base := base) (T := []) D2 Z XX O_law_digit 
  have O_law_program := ok_law_program (P := l.prog) (w := w) (base := base) (T := []) D3 Z XX O_law_digit O_law_of O_law_steps 
  have O_law_list := ok_law_list (P := l.prog) (w := w) (base := base) (T := []) D4 Z XX O_law_digit O_law_of 
  have O_law_cell_at := ok_law_cell_at (P := l.prog) (w := w) (base := base) (T := []) D5 Z XX 
  have O_law_whole := ok_law_whole (P := l.prog) (w := w) (base := base) (T := []) D6 Z XX 
  have O_law_is_step := ok_law_is_step (P := l.prog) (w := w) (base := base) (T := []) D7 Z XX O_law_whole 
  have O_law_is_right := ok_law_is_right (P := l.prog) (w := w) (base := base) (T := []) D8 Z XX O_law_is_step O_law_whole 
  have O_is_from := ok_is_from (P := l.prog) (w := w) (base := base) (T := []) D9 Z XX 
  have O_are_tables := ok_are_tables (P := l.prog) (w := w) (base := base) (T := []) D10 Z XX O_is_from C_MOST_KEYS C_MOST_TABLE
  have O_in_order := ok_in_order (P := l.prog) (w := w) (base := base) (T := []) D11 Z XX 
  have O_is_slot := ok_is_slot (P := l.prog) (w := w) (base := base) (T := []) D12 Z XX O_is_from C_WIDE
  have O_is_slot_step := ok_is_slot_step (P := l.prog) (w := w) (base := base) (T := []) D13 Z XX O_is_slot C_WORDS
  have O_is_program := ok_is_program (P := l.prog) (w := w) (base := base) (T := []) D14 Z XX O_are_tables O_in_order O_is_slot_step C_MOST_STEPS
  have O_are_programs := ok_are_programs (P := l.prog) (w := w) (base := base) (T := []) D15 Z XX O_is_program C_MOST_PROGRAMS
  have O_law_put := ok_law_put (P := l.prog) (w := w) (base := base) (T := []) D16 Z XX 
  have O_law_odd := ok_law_odd (P := l.prog) (w := w) (base := base) (T := []) D17 Z XX O_law_of 
  have O_law_spoilt_step := ok_law_spoilt_step (P := l.prog) (w := w) (base := base) (T := []) D18 Z XX O_law_digit O_law_odd O_law_of 
  have O_law_spoilt := ok_law_spoilt (P := l.prog) (w := w) (base := base) (T := []) D19 Z XX O_law_digit O_law_odd O_law_of O_law_put O_law_spoilt_step 
  have O_law_truth := ok_law_truth (P := l.prog) (w := w) (base := base) (T := []) D20 Z XX 
  have O_law_are_right := ok_law_are_right (P := l.prog) (w := w) (base := base) (T := []) D21 Z XX O_law_is_right 
  have O_law := ok_law (P := l.prog) (w := w) (base := base) (T := []) D22 Z XX O_law_are_right O_law_cell_at O_law_digit O_law_is_right O_law_list O_law_program O_law_spoilt O_law_truth O_are_programs O_is_program 
  exact law_endG O_law fun ns h1 h2 => law_true ns h1
theorem walk {l : PySem.W.OpenLaw} {q : Program} {loose : List Str} {XP : (Str → Option Value) → Heap → Prop} {YP : World → Heap → Prop} {d : DefRec} {K : Params → PySem.W.Frag} (hn : l.most = some 63) (hdf : d.params.defaults = [])
    (hY : ∀ (w : World) (h : Heap), YP w h → (K w.params).In h)
    (F : ∀ (w : World) (mg : Str → Option Value) (fa : Addr) (h : Heap), (K w.params).In h → h.Ns mainGlobals mg → mg d.name = some (.ref fa) →
      ∃ fd : FuncData, (∀ (s : Shared) (u : Value), BindsTo s fd ⟨[u], []⟩ [("_law_script", u)]) ∧ ∀ base : Heap, (K w.params).In base → base.Ns mainGlobals mg → FnG l.prog w (K w.params) mg base 6 fa fd ["_law_script"] (spLawB (K w.params) [])) :
    PySem.W.WalkO q loose XP YP l.row.toRowW d [] (fun f vs => PySem.call f vs) :=
  walk_lawG (k := 6) (x := "_law_script") hn hdf ⟨rfl, by decide, by decide⟩ hY F
end Law
open PySem PySem.W PyProof.Rows
set_option maxRecDepth 100000 in
set_option maxHeartbeats 0 in
theorem PySem.Challenge.cw_asifalone_k71_what_is_a_program_holds : PySem.Challenge.rw_asifalone_k71_what_is_a_program.Holds := by
  w_on; o_law; k_head; (case hw => w_witness2)
  k_fill
  refine Law.walk (l := PySem.Challenge.rw_asifalone_k71_what_is_a_program) rfl rfl (fun w h Y => PySem.W.kIn_of Y) ?F
  case F =>
    intro w mg fa h KX G hmg
    refine' Law.all_mk KX G hmg ?kq_a0 ?kq_l0 ?kq_c0 ?kq_k0 ?kq_a1 ?kq_l1 ?kq_c1 ?kq_k1 ?kq_a2 ?kq_l2 ?kq_c2 ?kq_k2 ?kq_a3 ?kq_l3 ?kq_c3 ?kq_k3 ?kq_a4 ?kq_l4 ?kq_c4 ?kq_k4 ?kq_a5 ?kq_l5 ?kq_c5 ?kq_k5 ?kq_a6 ?kq_l6 ?kq_c6 ?kq_k6 ?kq_a7 ?kq_l7 ?kq_c7 ?kq_k7 ?kq_a8 ?kq_l8 ?kq_c8 ?kq_k8 ?kq_a9 ?kq_l9 ?kq_c9 ?kq_k9 ?kq_a10 ?kq_l10 ?kq_c10 ?kq_k10 ?kq_a11 ?kq_l11 ?kq_c11 ?kq_k11 ?kq_a12 ?kq_l12 ?kq_c12 ?kq_k12 ?kq_a13 ?kq_l13 ?kq_c13 ?kq_k13 ?kq_a14 ?kq_l14 ?kq_c14 ?kq_k14 ?kq_a15 ?kq_l15 ?kq_c15 ?kq_k15 ?kq_a16 ?kq_l16 ?kq_c16 ?kq_k16 ?kq_a17 ?kq_l17 ?kq_c17 ?kq_k17 ?kq_a18 ?kq_l18 ?kq_c18 ?kq_k18 ?kq_a19 ?kq_l19 ?kq_c19 ?kq_k19 ?kq_a20 ?kq_l20 ?kq_c20 ?kq_k20 ?kq_a21 ?kq_l21 ?kq_c21 ?kq_k21 ?kq_a22 ?kq_l22 ?kq_c22 ?kq_k22 ?kq_z_all ?kq_z_bool ?kq_z_enumerate ?kq_z_int ?kq_z_isinstance ?kq_z_len ?kq_z_list ?kq_z_range ?kq_z_repr ?kq_z_str ?kq_z_tuple ?kq_g0 ?kq_v0 ?kq_g1 ?kq_v1 ?kq_g2 ?kq_v2 ?kq_g3 ?kq_v3 ?kq_g4 ?kq_v4 ?kq_g5 ?kq_h5 ?kq_v5 ?kq_w5
    (case kq_a0 => k_is)
    (case kq_l0 => k_is)
    (case kq_c0 => k_is)
    (case kq_k0 => k_is)
    (case kq_a1 => k_is)
    (case kq_l1 => k_is)
    (case kq_c1 => k_is)
    (case kq_k1 => k_is)
    (case kq_a2 => k_is)
    (case kq_l2 => k_is)
    (case kq_c2 => k_is)
    (case kq_k2 => k_is)
    (case kq_a3 => k_is)
    (case kq_l3 => k_is)
    (case kq_c3 => k_is)
    (case kq_k3 => k_is)
    (case kq_a4 => k_is)
    (case kq_l4 => k_is)
    (case kq_c4 => k_is)
    (case kq_k4 => k_is)
    (case kq_a5 => k_is)
    (case kq_l5 => k_is)
    (case kq_c5 => k_is)
    (case kq_k5 => k_is)
    (case kq_a6 => k_is)
    (case kq_l6 => k_is)
    (case kq_c6 => k_is)
    (case kq_k6 => k_is)
    (case kq_a7 => k_is)
    (case kq_l7 => k_is)
    (case kq_c7 => k_is)
    (case kq_k7 => k_is)
    (case kq_a8 => k_is)
    (case kq_l8 => k_is)
    (case kq_c8 => k_is)
    (case kq_k8 => k_is)
    (case kq_a9 => k_is)
    (case kq_l9 => k_is)
    (case kq_c9 => k_is)
    (case kq_k9 => k_is)
    (case kq_a10 => k_is)
    (case kq_l10 => k_is)
    (case kq_c10 => k_is)
    (case kq_k10 => k_is)
    (case kq_a11 => k_is)
    (case kq_l11 => k_is)
    (case kq_c11 => k_is)
    (case kq_k11 => k_is)
    (case kq_a12 => k_is)
    (case kq_l12 => k_is)
    (case kq_c12 => k_is)
    (case kq_k12 => k_is)
    (case kq_a13 => k_is)
    (case kq_l13 => k_is)
    (case kq_c13 => k_is)
    (case kq_k13 => k_is)
    (case kq_a14 => k_is)
    (case kq_l14 => k_is)
    (case kq_c14 => k_is)
    (case kq_k14 => k_is)
    (case kq_a15 => k_is)
    (case kq_l15 => k_is)
    (case kq_c15 => k_is)
    (case kq_k15 => k_is)
    (case kq_a16 => k_is)
    (case kq_l16 => k_is)
    (case kq_c16 => k_is)
    (case kq_k16 => k_is)
    (case kq_a17 => k_is)
    (case kq_l17 => k_is)
    (case kq_c17 => k_is)
    (case kq_k17 => k_is)
    (case kq_a18 => k_is)
    (case kq_l18 => k_is)
    (case kq_c18 => k_is)
    (case kq_k18 => k_is)
    (case kq_a19 => k_is)
    (case kq_l19 => k_is)
    (case kq_c19 => k_is)
    (case kq_k19 => k_is)
    (case kq_a20 => k_is)
    (case kq_l20 => k_is)
    (case kq_c20 => k_is)
    (case kq_k20 => k_is)
    (case kq_a21 => k_is)
    (case kq_l21 => k_is)
    (case kq_c21 => k_is)
    (case kq_k21 => k_is)
    (case kq_a22 => k_is)
    (case kq_l22 => k_is)
    (case kq_c22 => k_is)
    (case kq_k22 => k_is)
    (case kq_z_all => k_is)
    (case kq_z_bool => k_is)
    (case kq_z_enumerate => k_is)
    (case kq_z_int => k_is)
    (case kq_z_isinstance => k_is)
    (case kq_z_len => k_is)
    (case kq_z_list => k_is)
    (case kq_z_range => k_is)
    (case kq_z_repr => k_is)
    (case kq_z_str => k_is)
    (case kq_z_tuple => k_is)
    (case kq_g0 => k_is)
    (case kq_v0 => exact ⟨_, rfl⟩)
    (case kq_g1 => k_is)
    (case kq_v1 => exact ⟨_, rfl⟩)
    (case kq_g2 => k_is)
    (case kq_v2 => exact ⟨_, rfl⟩)
    (case kq_g3 => k_is)
    (case kq_v3 => exact ⟨_, rfl⟩)
    (case kq_g4 => k_is)
    (case kq_v4 => exact ⟨_, rfl⟩)
    (case kq_g5 => k_is)
    (case kq_h5 => k_is)
    (case kq_v5 => exact (.cons ⟨_, rfl⟩ (.cons ⟨_, rfl⟩ .nil)))
    (case kq_w5 => decide)
