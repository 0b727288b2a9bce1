import PyProof.Rows.All
import Wide.All
import OpenK.AllK
import Wide.FinOn
import HandS.ForMost
import HandS.ForExc
import HandS.CallSlots
import HandS.IsInst
import HandS.TupAny
import HandS.Deep
import HandS.Wide
import HandS.Flow
import HandS.Conv
import HandS.Style
import HandS.Lambda
import HandS.DeepEq
import HandS.DictEq
import PyProof.NeKinds
import KE.GoesMore
import HandS.EndBits
import HandS.EndTab
import HandS.SortInts
import HandS.ExcIs
import HandS.ExcField
import HandS.TryOnly
import KE.KNestM
import HandS.SetFor
import HandS.Strs
import HandS.Sort
import HandS.Dict
import KE.LtSeq
import HandS.TupMul
import HandS.ExcInit
import HandS.ClsMeth
import HandS.HotCalls
import PyProof.ReprRoads
import HandS.Zip
import HandS.SetKeys
import HandS.DictComp
import HandS.Defaults
import KE.KMinKey
import HandS.SortKw
import HandS.FromBytesMap
import KE.SortData
import PySem.Challenge.RW_asifalone_k73_sights_told
import PyProof.ReprLen
set_option Elab.async false
set_option linter.all false
set_option maxRecDepth 100000
namespace Dl
open PySem PySem.Spec PyProof.Rows L2
/-! ## data -/
/-- the class that the module's name holds -/
def ClsN (K : PySem.W.Frag) (x : Str) (a : Addr) : Prop := PySem.W.nsIn K mainGlobals x = some (some (.ref a))
inductive D where
  | non | bl (b : Bool) | int (i : Int) | str (s : Str)
  | lst (xs : List D) | tup (xs : List D)
  | scr (xs : List D)
  | dk (kvs : List (Key × D)) | dt (kvs : List (List Key × D))
  | ins (c : Str) (fs : List (Str × D))
  | opq (v : V)
mutual
/-- the value v stands for the datum in the heap H -/
def Rp (K : PySem.W.Frag) (H : Hp) : D → V → Prop
  | .non, v => v = .non
  | .bl b, v => v = .bl b
  | .int i, v => v = .int i
  | .str s, v => v = .str s
  | .lst ds, v => ∃ a xs, v = .ref a ∧ H a = some (.lst xs) ∧ RpL K H ds xs
  | .tup ds, v => ∃ a xs, v = .ref a ∧ SqT K H a xs ∧ RpL K H ds xs
  | .scr ds, v => ∃ a xs, v = .ref a ∧ SqL K H a xs ∧ RpL K H ds xs
  | .dk kvs, v => ∃ a ys, v = .ref a ∧ Rd H a (.dK ys) ∧ RpK K H kvs ys
  | .dt kvs, v => ∃ a ys, v = .ref a ∧ H a = some (.dT ys) ∧ RpT K H kvs ys
  | .ins c fs, v => ∃ a C dx ys, v = .ref a ∧ ClsN K c C ∧ H a = some (.ins C dx ys) ∧ H dx = some (.own a) ∧ RpF K H fs ys
  | .opq w, v => v = w
def RpL (K : PySem.W.Frag) (H : Hp) : List D → List V → Prop
  | [], vs => vs = []
  | d :: ds, vs => ∃ v ws, vs = v :: ws ∧ Rp K H d v ∧ RpL K H ds ws
def RpK (K : PySem.W.Frag) (H : Hp) : List (Key × D) → List (Key × V) → Prop
  | [], vs => vs = []
  | (k, d) :: ds, vs => ∃ v ws, vs = (k, v) :: ws ∧ Rp K H d v ∧ RpK K H ds ws
def RpT (K : PySem.W.Frag) (H : Hp) : List (List Key × D) → List (List Key × V) → Prop
  | [], vs => vs = []
  | (k, d) :: ds, vs => ∃ v ws, vs = (k, v) :: ws ∧ Rp K H d v ∧ RpT K H ds ws
def RpF (K : PySem.W.Frag) (H : Hp) : List (Str × D) → List (Str × V) → Prop
  | [], vs => vs = []
  | (k, d) :: ds, vs => ∃ v ws, vs = (k, v) :: ws ∧ Rp K H d v ∧ RpF K H ds ws
end
/-- one heap within another -/
def Sub (F H : Hp) : Prop := ∀ a o, F a = some o → H a = some o
theorem Sub.refl (H : Hp) : Sub H H := fun _ _ h => h
theorem Sub.trans {F G H : Hp} (a : Sub F G) (b : Sub G H) : Sub F H := fun _ _ h => b _ _ (a _ _ h)
section
variable {K : PySem.W.Frag} {F H : Hp}
theorem rd_mono {a : Addr} {u : HO} (e : Sub F H) (h : Rd F a u) : Rd H a u := by
  rcases h with h | ⟨o, h⟩
  · exact .inl (e _ _ h)
  · exact .inr ⟨o, e _ _ h⟩
theorem sqL_mono {a : Addr} {xs : List V} (e : Sub F H) (h : SqL K F a xs) : SqL K H a xs := by
  rcases h with h | h
  · exact .inl (rd_mono e h)
  · exact .inr h
theorem sqT_mono {a : Addr} {xs : List V} (e : Sub F H) (h : SqT K F a xs) : SqT K H a xs := by
  rcases h with h | h
  · exact .inl (rd_mono e h)
  · exact .inr h
mutual
theorem Rp.mono (e : Sub F H) : ∀ (d : D) {v : V}, Rp K F d v → Rp K H d v
  | .non, _, h => by unfold Rp at h ⊢; exact h
  | .bl b, _, h => by unfold Rp at h ⊢; exact h
  | .int i, _, h => by unfold Rp at h ⊢; exact h
  | .str i, _, h => by unfold Rp at h ⊢; exact h
  | .lst ds, _, h => by
    unfold Rp at h ⊢
    obtain ⟨a, xs, e1, h1, h2⟩ := h
    exact ⟨a, xs, e1, e _ _ h1, RpL.mono e ds h2⟩
  | .tup ds, _, h => by
    unfold Rp at h ⊢
    obtain ⟨a, xs, e1, h1, h2⟩ := h
    exact ⟨a, xs, e1, sqT_mono e h1, RpL.mono e ds h2⟩
  | .scr ds, _, h => by
    unfold Rp at h ⊢
    obtain ⟨a, xs, e1, h1, h2⟩ := h
    exact ⟨a, xs, e1, sqL_mono e h1, RpL.mono e ds h2⟩
  | .dk ds, _, h => by
    unfold Rp at h ⊢
    obtain ⟨a, xs, e1, h1, h2⟩ := h
    exact ⟨a, xs, e1, rd_mono e h1, RpK.mono e ds h2⟩
  | .dt ds, _, h => by
    unfold Rp at h ⊢
    obtain ⟨a, xs, e1, h1, h2⟩ := h
    exact ⟨a, xs, e1, e _ _ h1, RpT.mono e ds h2⟩
  | .ins c ds, _, h => by
    unfold Rp at h ⊢
    obtain ⟨a, C, dx, xs, e1, nC, h1, h0, h2⟩ := h
    exact ⟨a, C, dx, xs, e1, nC, e _ _ h1, e _ _ h0, RpF.mono e ds h2⟩
  | .opq w, _, h => by unfold Rp at h ⊢; exact h
theorem RpL.mono (e : Sub F H) : ∀ (ds : List D) {vs : List V}, RpL K F ds vs → RpL K H ds vs
  | [], _, h => by unfold RpL at h ⊢; exact h
  | d :: ds, _, h => by
    unfold RpL at h ⊢
    obtain ⟨v, ws, e1, h1, h2⟩ := h
    exact ⟨v, ws, e1, Rp.mono e d h1, RpL.mono e ds h2⟩
theorem RpK.mono (e : Sub F H) : ∀ (ds : List (Key × D)) {vs : List (Key × V)}, RpK K F ds vs → RpK K H ds vs
  | [], _, h => by unfold RpK at h ⊢; exact h
  | (k, d) :: ds, _, h => by
    unfold RpK at h ⊢
    obtain ⟨v, ws, e1, h1, h2⟩ := h
    exact ⟨v, ws, e1, Rp.mono e d h1, RpK.mono e ds h2⟩
theorem RpT.mono (e : Sub F H) : ∀ (ds : List (List Key × D)) {vs : List (List Key × V)}, RpT K F ds vs → RpT K H ds vs
  | [], _, h => by unfold RpT at h ⊢; exact h
  | (k, d) :: ds, _, h => by
    unfold RpT at h ⊢
    obtain ⟨v, ws, e1, h1, h2⟩ := h
    exact ⟨v, ws, e1, Rp.mono e d h1, RpT.mono e ds h2⟩
theorem RpF.mono (e : Sub F H) : ∀ (ds : List (Str × D)) {vs : List (Str × V)}, RpF K F ds vs → RpF K H ds vs
  | [], _, h => by unfold RpF at h ⊢; exact h
  | (k, d) :: ds, _, h => by
    unfold RpF at h ⊢
    obtain ⟨v, ws, e1, h1, h2⟩ := h
    exact ⟨v, ws, e1, Rp.mono e d h1, RpF.mono e ds h2⟩
end
/-! ### lists of data -/
theorem RpL.nil : RpL K F [] [] := by unfold RpL; rfl
theorem RpL.cons {d : D} {v : V} {ds : List D} {vs : List V} (h : Rp K F d v) (t : RpL K F ds vs) : RpL K F (d :: ds) (v :: vs) := by
  unfold RpL
  exact ⟨v, vs, rfl, h, t⟩
theorem RpL.inv {d : D} {ds : List D} {vs : List V} (h : RpL K F (d :: ds) vs) : ∃ v ws, vs = v :: ws ∧ Rp K F d v ∧ RpL K F ds ws := by
  unfold RpL at h
  exact h
theorem RpL.inv0 {vs : List V} (h : RpL K F [] vs) : vs = [] := by
  unfold RpL at h
  exact h
theorem RpL.length : ∀ {ds : List D} {vs : List V}, RpL K F ds vs → ds.length = vs.length
  | [], _, h => by rw [h.inv0]; rfl
  | d :: ds, _, h => by
    obtain ⟨v, ws, rfl, _, t⟩ := h.inv
    rw [List.length_cons, List.length_cons, t.length]
theorem RpL.get : ∀ {ds : List D} {vs : List V} {i : Nat} {d : D}, RpL K F ds vs → ds[i]? = some d → ∃ v, vs[i]? = some v ∧ Rp K F d v
  | [], _, _, _, _, e => by simp at e
  | d :: ds, _, 0, x, h, e => by
    obtain ⟨v, ws, rfl, h1, _⟩ := h.inv
    simp at e
    subst e
    exact ⟨v, rfl, h1⟩
  | d :: ds, _, i + 1, x, h, e => by
    obtain ⟨v, ws, rfl, _, t⟩ := h.inv
    obtain ⟨u, e1, e2⟩ := RpL.get (i := i) (d := x) t (by simpa using e)
    exact ⟨u, by simpa using e1, e2⟩
theorem RpL.append : ∀ {ds es : List D} {vs ws : List V}, RpL K F ds vs → RpL K F es ws → RpL K F (ds ++ es) (vs ++ ws)
  | [], _, _, _, h, k => by rw [h.inv0]; exact k
  | d :: ds, _, _, _, h, k => by
    obtain ⟨v, us, rfl, h1, t⟩ := h.inv
    exact .cons h1 (t.append k)
theorem RpL.take : ∀ {ds : List D} {vs : List V} (n : Nat), RpL K F ds vs → RpL K F (ds.take n) (vs.take n)
  | _, _, 0, _ => by simp; exact .nil
  | [], _, n + 1, h => by rw [h.inv0]; simp; exact .nil
  | d :: ds, _, n + 1, h => by
    obtain ⟨v, ws, rfl, h1, t⟩ := h.inv
    exact .cons h1 (t.take n)
theorem RpL.drop : ∀ {ds : List D} {vs : List V} (n : Nat), RpL K F ds vs → RpL K F (ds.drop n) (vs.drop n)
  | _, _, 0, h => by simpa using h
  | [], _, n + 1, h => by rw [h.inv0]; simp; exact .nil
  | d :: ds, _, n + 1, h => by
    obtain ⟨v, ws, rfl, h1, t⟩ := h.inv
    simpa using t.drop n
theorem RpL.reverse {ds : List D} {vs : List V} (h : RpL K F ds vs) : RpL K F ds.reverse vs.reverse := by
  induction ds generalizing vs with
  | nil => rw [h.inv0]; exact .nil
  | cons d ds ih =>
    obtain ⟨v, ws, rfl, h1, t⟩ := h.inv
    rw [List.reverse_cons, List.reverse_cons]
    exact (ih t).append (.cons h1 .nil)
theorem RpL.set {d : D} {v : V} (hv : Rp K F d v) : ∀ {ds : List D} {vs : List V} (i : Nat), RpL K F ds vs → RpL K F (ds.set i d) (vs.set i v)
  | [], _, _, h => by rw [h.inv0]; exact .nil
  | e :: ds, _, 0, h => by
    obtain ⟨u, ws, rfl, h1, t⟩ := h.inv
    exact .cons hv t
  | e :: ds, _, i + 1, h => by
    obtain ⟨u, ws, rfl, h1, t⟩ := h.inv
    exact .cons h1 (t.set hv i)
theorem RpL.eraseIdx : ∀ {ds : List D} {vs : List V} (i : Nat), RpL K F ds vs → RpL K F (ds.eraseIdx i) (vs.eraseIdx i)
  | [], _, _, h => by rw [h.inv0]; exact .nil
  | e :: ds, _, 0, h => by
    obtain ⟨u, ws, rfl, h1, t⟩ := h.inv
    exact t
  | e :: ds, _, i + 1, h => by
    obtain ⟨u, ws, rfl, h1, t⟩ := h.inv
    exact .cons h1 (t.eraseIdx i)
theorem RpL.dropLast {ds : List D} {vs : List V} (h : RpL K F ds vs) : RpL K F ds.dropLast vs.dropLast := by
  rw [List.dropLast_eq_take, List.dropLast_eq_take, h.length]
  exact h.take _
theorem RpL.replicate {ds : List D} {vs : List V} (h : RpL K F ds vs) (n : Nat) : RpL K F (List.replicate n ds).flatten (List.replicate n vs).flatten := by
  induction n with
  | zero => exact .nil
  | succ n ih =>
    rw [List.replicate_succ, List.replicate_succ, List.flatten_cons, List.flatten_cons]
    exact h.append ih
theorem RpL.ints : ∀ {ns : List Int}, RpL K F (ns.map D.int) (ns.map V.int)
  | [] => .nil
  | n :: ns => .cons (by unfold Rp; rfl) RpL.ints
theorem RpL.bls_inv : ∀ {ns : List Bool} {vs : List V}, RpL K F (ns.map D.bl) vs → vs = ns.map V.bl
  | [], _, h => h.inv0
  | n :: ns, _, h => by
    obtain ⟨v, ws, rfl, h1, t⟩ := RpL.inv (d := .bl n) (ds := ns.map D.bl) h
    unfold Rp at h1
    rw [h1, RpL.bls_inv t]
    rfl
end
end Dl
set_option Elab.async false
set_option linter.all false
set_option maxRecDepth 100000
namespace Dl
open PySem PySem.Spec L2
open PyProof.Rows hiding St
/-! ## owned things within owned things -/
inductive O where
  | fz (d : D)
  | lst (os : List O)
  | tup (os : List O)
  | dk (kvs : List (Key × O))
  | dt (kvs : List (List Key × O))
  | ins (c : Str) (fs : List (Str × O))
mutual
/-- the value v stands for the tree; ft: what it owns -/
def ORep (K : PySem.W.Frag) (F H : Hp) : O → V → List Addr → Prop
  | .fz d, v, ft => ft = [] ∧ Rp K F d v
  | .lst os, v, ft => ∃ l xs A, v = .ref l ∧ ft = l :: A ∧ H l = some (.lst xs) ∧ F l = none ∧ l ∉ A ∧ ORepL K F H os xs A
  | .tup os, v, ft => ∃ l xs, v = .ref l ∧ F l = some (.tup xs) ∧ ORepL K F H os xs ft
  | .dk os, v, ft => ∃ l xs A, v = .ref l ∧ ft = l :: A ∧ H l = some (.dK xs) ∧ F l = none ∧ l ∉ A ∧ ORepK K F H os xs A
  | .dt os, v, ft => ∃ l xs A, v = .ref l ∧ ft = l :: A ∧ H l = some (.dT xs) ∧ F l = none ∧ l ∉ A ∧ ORepT K F H os xs A
  | .ins c fs, v, ft => ∃ l C dx xs A, v = .ref l ∧ ft = l :: dx :: A ∧ ClsN K c C ∧ H l = some (.ins C dx xs) ∧ H dx = some (.own l) ∧ F l = none ∧ F dx = none ∧ l ≠ dx ∧ l ∉ A ∧ dx ∉ A ∧ ORepF K F H fs xs A
def ORepL (K : PySem.W.Frag) (F H : Hp) : List O → List V → List Addr → Prop
  | [], vs, ft => vs = [] ∧ ft = []
  | o :: os, vs, ft => ∃ v ws A1 A2, vs = v :: ws ∧ ft = A1 ++ A2 ∧ (∀ a ∈ A1, a ∉ A2) ∧ ORep K F H o v A1 ∧ ORepL K F H os ws A2
def ORepK (K : PySem.W.Frag) (F H : Hp) : List (Key × O) → List (Key × V) → List Addr → Prop
  | [], vs, ft => vs = [] ∧ ft = []
  | (k, o) :: os, vs, ft => ∃ v ws A1 A2, vs = (k, v) :: ws ∧ ft = A1 ++ A2 ∧ (∀ a ∈ A1, a ∉ A2) ∧ ORep K F H o v A1 ∧ ORepK K F H os ws A2
def ORepT (K : PySem.W.Frag) (F H : Hp) : List (List Key × O) → List (List Key × V) → List Addr → Prop
  | [], vs, ft => vs = [] ∧ ft = []
  | (k, o) :: os, vs, ft => ∃ v ws A1 A2, vs = (k, v) :: ws ∧ ft = A1 ++ A2 ∧ (∀ a ∈ A1, a ∉ A2) ∧ ORep K F H o v A1 ∧ ORepT K F H os ws A2
def ORepF (K : PySem.W.Frag) (F H : Hp) : List (Str × O) → List (Str × V) → List Addr → Prop
  | [], vs, ft => vs = [] ∧ ft = []
  | (k, o) :: os, vs, ft => ∃ v ws A1 A2, vs = (k, v) :: ws ∧ ft = A1 ++ A2 ∧ (∀ a ∈ A1, a ∉ A2) ∧ ORep K F H o v A1 ∧ ORepF K F H os ws A2
end
/-- what is owned at an address -/
def Lv (F H : Hp) (a : Addr) : Prop := (∃ o, H a = some o ∧ (∀ ps, o ≠ .tbl ps) ∧ (∀ ys, o ≠ .tup ys) ∧ ∀ u ys, o ≠ .frz u (.tup ys)) ∧ F a = none
theorem lv_of {F H : Hp} {a : Addr} {o : HO} (h : H a = some o) (n : F a = none) (h1 : ∀ ps, o ≠ .tbl ps := by intro _ z; cases z) (h2 : ∀ ys, o ≠ .tup ys := by intro _ z; cases z) (h3 : ∀ u ys, o ≠ .frz u (.tup ys) := by intro _ _ z; cases z) : Lv F H a := ⟨⟨o, h, h1, h2, h3⟩, n⟩
section
variable {K : PySem.W.Frag} {F H F' H' : Hp}
mutual
theorem O.lv : ∀ (o : O) {v : V} {ft : List Addr}, ORep K F H o v ft → ∀ a ∈ ft, Lv F H a
  | .fz d, v, ft, h => by
    unfold ORep at h
    rw [h.1]
    intro a m
    cases m
  | .lst os, v, ft, h => by
    unfold ORep at h
    obtain ⟨l, xs, A, _, rfl, e, n, _, r⟩ := h
    intro a m
    rcases List.mem_cons.mp m with rfl | m
    · exact lv_of e n
    · exact O.lvL os r a m
  | .tup os, v, ft, h => by
    unfold ORep at h
    obtain ⟨l, xs, _, _, r⟩ := h
    exact O.lvL os r
  | .dk os, v, ft, h => by
    unfold ORep at h
    obtain ⟨l, xs, A, _, rfl, e, n, _, r⟩ := h
    intro a m
    rcases List.mem_cons.mp m with rfl | m
    · exact lv_of e n
    · exact O.lvK os r a m
  | .dt os, v, ft, h => by
    unfold ORep at h
    obtain ⟨l, xs, A, _, rfl, e, n, _, r⟩ := h
    intro a m
    rcases List.mem_cons.mp m with rfl | m
    · exact lv_of e n
    · exact O.lvT os r a m
  | .ins c os, v, ft, h => by
    unfold ORep at h
    obtain ⟨l, C, dx, xs, A, _, rfl, _, e, e2, n, n2, _, _, _, r⟩ := h
    intro a m
    rcases List.mem_cons.mp m with rfl | m
    · exact lv_of e n
    · rcases List.mem_cons.mp m with rfl | m
      · exact lv_of e2 n2
      · exact O.lvF os r a m
theorem O.lvL : ∀ (os : List O) {vs : List V} {ft : List Addr}, ORepL K F H os vs ft → ∀ a ∈ ft, Lv F H a
  | [], vs, ft, h => by
    unfold ORepL at h
    rw [h.2]
    intro a m
    cases m
  | o :: os, vs, ft, h => by
    unfold ORepL at h
    obtain ⟨v, ws, A1, A2, _, rfl, _, r1, r2⟩ := h
    intro a m
    rcases List.mem_append.mp m with m | m
    · exact O.lv o r1 a m
    · exact O.lvL os r2 a m
theorem O.lvK : ∀ (os : List (Key × O)) {vs : List (Key × V)} {ft : List Addr}, ORepK K F H os vs ft → ∀ a ∈ ft, Lv F H a
  | [], vs, ft, h => by
    unfold ORepK at h
    rw [h.2]
    intro a m
    cases m
  | (k, o) :: os, vs, ft, h => by
    unfold ORepK at h
    obtain ⟨v, ws, A1, A2, _, rfl, _, r1, r2⟩ := h
    intro a m
    rcases List.mem_append.mp m with m | m
    · exact O.lv o r1 a m
    · exact O.lvK os r2 a m
theorem O.lvT : ∀ (os : List (List Key × O)) {vs : List (List Key × V)} {ft : List Addr}, ORepT K F H os vs ft → ∀ a ∈ ft, Lv F H a
  | [], vs, ft, h => by
    unfold ORepT at h
    rw [h.2]
    intro a m
    cases m
  | (k, o) :: os, vs, ft, h => by
    unfold ORepT at h
    obtain ⟨v, ws, A1, A2, _, rfl, _, r1, r2⟩ := h
    intro a m
    rcases List.mem_append.mp m with m | m
    · exact O.lv o r1 a m
    · exact O.lvT os r2 a m
theorem O.lvF : ∀ (os : List (Str × O)) {vs : List (Str × V)} {ft : List Addr}, ORepF K F H os vs ft → ∀ a ∈ ft, Lv F H a
  | [], vs, ft, h => by
    unfold ORepF at h
    rw [h.2]
    intro a m
    cases m
  | (k, o) :: os, vs, ft, h => by
    unfold ORepF at h
    obtain ⟨v, ws, A1, A2, _, rfl, _, r1, r2⟩ := h
    intro a m
    rcases List.mem_append.mp m with m | m
    · exact O.lv o r1 a m
    · exact O.lvF os r2 a m
end
theorem O.live (o : O) {v : V} {ft : List Addr} (h : ORep K F H o v ft) : ∀ a ∈ ft, (∃ o, H a = some o ∧ ∀ ps, o ≠ .tbl ps) ∧ F a = none := fun a m => by
  obtain ⟨⟨u, e, n1, _⟩, n⟩ := O.lv o h a m
  exact ⟨⟨u, e, n1⟩, n⟩
theorem O.ntup (o : O) {v : V} {ft : List Addr} (h : ORep K F H o v ft) : ∀ a ∈ ft, ∀ xs, H a ≠ some (.tup xs) := fun a m xs z => by
  obtain ⟨⟨u, e, _, n2, _⟩, _⟩ := O.lv o h a m
  rw [e] at z
  exact n2 xs (Option.some.inj z)
mutual
theorem O.stab : ∀ (o : O) {v : V} {ft : List Addr}, ORep K F H o v ft → Sub F F' → (∀ a ∈ ft, H' a = H a) → (∀ a ∈ ft, F' a = none) → ORep K F' H' o v ft
  | .fz d, v, ft, h, s, k, n => by
    unfold ORep at h ⊢
    exact ⟨h.1, Rp.mono s d h.2⟩
  | .lst os, v, ft, h, s, k, n => by
    unfold ORep at h ⊢
    obtain ⟨l, xs, A, ev, rfl, e, nl, d, r⟩ := h
    exact ⟨l, xs, A, ev, rfl, (k l List.mem_cons_self).trans e, n l List.mem_cons_self, d, O.stabL os r s (fun a m => k a (List.mem_cons_of_mem _ m)) fun a m => n a (List.mem_cons_of_mem _ m)⟩
  | .tup os, v, ft, h, s, k, n => by
    unfold ORep at h ⊢
    obtain ⟨l, xs, ev, e, r⟩ := h
    exact ⟨l, xs, ev, s _ _ e, O.stabL os r s k n⟩
  | .dk os, v, ft, h, s, k, n => by
    unfold ORep at h ⊢
    obtain ⟨l, xs, A, ev, rfl, e, nl, d, r⟩ := h
    exact ⟨l, xs, A, ev, rfl, (k l List.mem_cons_self).trans e, n l List.mem_cons_self, d, O.stabK os r s (fun a m => k a (List.mem_cons_of_mem _ m)) fun a m => n a (List.mem_cons_of_mem _ m)⟩
  | .dt os, v, ft, h, s, k, n => by
    unfold ORep at h ⊢
    obtain ⟨l, xs, A, ev, rfl, e, nl, d, r⟩ := h
    exact ⟨l, xs, A, ev, rfl, (k l List.mem_cons_self).trans e, n l List.mem_cons_self, d, O.stabT os r s (fun a m => k a (List.mem_cons_of_mem _ m)) fun a m => n a (List.mem_cons_of_mem _ m)⟩
  | .ins c os, v, ft, h, s, k, n => by
    unfold ORep at h ⊢
    obtain ⟨l, C, dx, xs, A, ev, rfl, nc, e, e2, nl, n2, ne, d1, d2, r⟩ := h
    exact ⟨l, C, dx, xs, A, ev, rfl, nc, (k l List.mem_cons_self).trans e, (k dx (List.mem_cons_of_mem _ List.mem_cons_self)).trans e2, n l List.mem_cons_self, n dx (List.mem_cons_of_mem _ List.mem_cons_self), ne, d1, d2,
      O.stabF os r s (fun a m => k a (List.mem_cons_of_mem _ (List.mem_cons_of_mem _ m))) fun a m => n a (List.mem_cons_of_mem _ (List.mem_cons_of_mem _ m))⟩
theorem O.stabL : ∀ (os : List O) {vs : List V} {ft : List Addr}, ORepL K F H os vs ft → Sub F F' → (∀ a ∈ ft, H' a = H a) → (∀ a ∈ ft, F' a = none) → ORepL K F' H' os vs ft
  | [], vs, ft, h, s, k, n => by
    unfold ORepL at h ⊢
    exact h
  | o :: os, vs, ft, h, s, k, n => by
    unfold ORepL at h ⊢
    obtain ⟨v, ws, A1, A2, e1, rfl, dj, r1, r2⟩ := h
    exact ⟨v, ws, A1, A2, e1, rfl, dj, O.stab o r1 s (fun a m => k a (List.mem_append_left _ m)) (fun a m => n a (List.mem_append_left _ m)), O.stabL os r2 s (fun a m => k a (List.mem_append_right _ m)) fun a m => n a (List.mem_append_right _ m)⟩
theorem O.stabK : ∀ (os : List (Key × O)) {vs : List (Key × V)} {ft : List Addr}, ORepK K F H os vs ft → Sub F F' → (∀ a ∈ ft, H' a = H a) → (∀ a ∈ ft, F' a = none) → ORepK K F' H' os vs ft
  | [], vs, ft, h, s, k, n => by
    unfold ORepK at h ⊢
    exact h
  | (_, o) :: os, vs, ft, h, s, k, n => by
    unfold ORepK at h ⊢
    obtain ⟨v, ws, A1, A2, e1, rfl, dj, r1, r2⟩ := h
    exact ⟨v, ws, A1, A2, e1, rfl, dj, O.stab o r1 s (fun a m => k a (List.mem_append_left _ m)) (fun a m => n a (List.mem_append_left _ m)), O.stabK os r2 s (fun a m => k a (List.mem_append_right _ m)) fun a m => n a (List.mem_append_right _ m)⟩
theorem O.stabT : ∀ (os : List (List Key × O)) {vs : List (List Key × V)} {ft : List Addr}, ORepT K F H os vs ft → Sub F F' → (∀ a ∈ ft, H' a = H a) → (∀ a ∈ ft, F' a = none) → ORepT K F' H' os vs ft
  | [], vs, ft, h, s, k, n => by
    unfold ORepT at h ⊢
    exact h
  | (_, o) :: os, vs, ft, h, s, k, n => by
    unfold ORepT at h ⊢
    obtain ⟨v, ws, A1, A2, e1, rfl, dj, r1, r2⟩ := h
    exact ⟨v, ws, A1, A2, e1, rfl, dj, O.stab o r1 s (fun a m => k a (List.mem_append_left _ m)) (fun a m => n a (List.mem_append_left _ m)), O.stabT os r2 s (fun a m => k a (List.mem_append_right _ m)) fun a m => n a (List.mem_append_right _ m)⟩
theorem O.stabF : ∀ (os : List (Str × O)) {vs : List (Str × V)} {ft : List Addr}, ORepF K F H os vs ft → Sub F F' → (∀ a ∈ ft, H' a = H a) → (∀ a ∈ ft, F' a = none) → ORepF K F' H' os vs ft
  | [], vs, ft, h, s, k, n => by
    unfold ORepF at h ⊢
    exact h
  | (_, o) :: os, vs, ft, h, s, k, n => by
    unfold ORepF at h ⊢
    obtain ⟨v, ws, A1, A2, e1, rfl, dj, r1, r2⟩ := h
    exact ⟨v, ws, A1, A2, e1, rfl, dj, O.stab o r1 s (fun a m => k a (List.mem_append_left _ m)) (fun a m => n a (List.mem_append_left _ m)), O.stabF os r2 s (fun a m => k a (List.mem_append_right _ m)) fun a m => n a (List.mem_append_right _ m)⟩
end
/-! given up -/
mutual
def frzO : O → D
  | .fz d => d
  | .lst os => .lst (frzL os)
  | .tup os => .tup (frzL os)
  | .dk os => .dk (frzK os)
  | .dt os => .dt (frzT os)
  | .ins c os => .ins c (frzF os)
def frzL : List O → List D
  | [] => []
  | o :: os => frzO o :: frzL os
def frzK : List (Key × O) → List (Key × D)
  | [] => []
  | (k, o) :: os => (k, frzO o) :: frzK os
def frzT : List (List Key × O) → List (List Key × D)
  | [] => []
  | (k, o) :: os => (k, frzO o) :: frzT os
def frzF : List (Str × O) → List (Str × D)
  | [] => []
  | (k, o) :: os => (k, frzO o) :: frzF os
end
mutual
theorem O.frz (s : Sub F F') : ∀ (o : O) {v : V} {ft : List Addr}, ORep K F H o v ft → (∀ a ∈ ft, F' a = H a) → Rp K F' (frzO o) v
  | .fz d, v, ft, h, k => by
    unfold ORep at h
    unfold frzO
    exact Rp.mono s d h.2
  | .lst os, v, ft, h, k => by
    unfold ORep at h
    obtain ⟨l, xs, A, ev, rfl, e, nl, d, r⟩ := h
    unfold frzO Rp
    exact ⟨l, xs, ev, (k l List.mem_cons_self).trans e, O.frzsL s os r fun a m => k a (List.mem_cons_of_mem _ m)⟩
  | .tup os, v, ft, h, k => by
    unfold ORep at h
    obtain ⟨l, xs, ev, e, r⟩ := h
    unfold frzO Rp
    exact ⟨l, xs, ev, SqT.of (s _ _ e), O.frzsL s os r k⟩
  | .dk os, v, ft, h, k => by
    unfold ORep at h
    obtain ⟨l, xs, A, ev, rfl, e, nl, d, r⟩ := h
    unfold frzO Rp
    exact ⟨l, xs, ev, .inl ((k l List.mem_cons_self).trans e), O.frzsK s os r fun a m => k a (List.mem_cons_of_mem _ m)⟩
  | .dt os, v, ft, h, k => by
    unfold ORep at h
    obtain ⟨l, xs, A, ev, rfl, e, nl, d, r⟩ := h
    unfold frzO Rp
    exact ⟨l, xs, ev, (k l List.mem_cons_self).trans e, O.frzsT s os r fun a m => k a (List.mem_cons_of_mem _ m)⟩
  | .ins c os, v, ft, h, k => by
    unfold ORep at h
    obtain ⟨l, C, dx, xs, A, ev, rfl, nc, e, e2, nl, n2, ne, d1, d2, r⟩ := h
    unfold frzO Rp
    exact ⟨l, C, dx, xs, ev, nc, (k l List.mem_cons_self).trans e, (k dx (List.mem_cons_of_mem _ List.mem_cons_self)).trans e2, O.frzsF s os r fun a m => k a (List.mem_cons_of_mem _ (List.mem_cons_of_mem _ m))⟩
theorem O.frzsL (s : Sub F F') : ∀ (os : List O) {vs : List V} {ft : List Addr}, ORepL K F H os vs ft → (∀ a ∈ ft, F' a = H a) → RpL K F' (frzL os) vs
  | [], vs, ft, h, k => by
    unfold ORepL at h
    unfold frzL RpL
    exact h.1
  | o :: os, vs, ft, h, k => by
    unfold ORepL at h
    obtain ⟨v, ws, A1, A2, e1, rfl, dj, r1, r2⟩ := h
    unfold frzL RpL
    exact ⟨v, ws, e1, O.frz s o r1 fun a m => k a (List.mem_append_left _ m), O.frzsL s os r2 fun a m => k a (List.mem_append_right _ m)⟩
theorem O.frzsK (s : Sub F F') : ∀ (os : List (Key × O)) {vs : List (Key × V)} {ft : List Addr}, ORepK K F H os vs ft → (∀ a ∈ ft, F' a = H a) → RpK K F' (frzK os) vs
  | [], vs, ft, h, k => by
    unfold ORepK at h
    unfold frzK RpK
    exact h.1
  | (_, o) :: os, vs, ft, h, k => by
    unfold ORepK at h
    obtain ⟨v, ws, A1, A2, e1, rfl, dj, r1, r2⟩ := h
    unfold frzK RpK
    exact ⟨v, ws, e1, O.frz s o r1 fun a m => k a (List.mem_append_left _ m), O.frzsK s os r2 fun a m => k a (List.mem_append_right _ m)⟩
theorem O.frzsT (s : Sub F F') : ∀ (os : List (List Key × O)) {vs : List (List Key × V)} {ft : List Addr}, ORepT K F H os vs ft → (∀ a ∈ ft, F' a = H a) → RpT K F' (frzT os) vs
  | [], vs, ft, h, k => by
    unfold ORepT at h
    unfold frzT RpT
    exact h.1
  | (_, o) :: os, vs, ft, h, k => by
    unfold ORepT at h
    obtain ⟨v, ws, A1, A2, e1, rfl, dj, r1, r2⟩ := h
    unfold frzT RpT
    exact ⟨v, ws, e1, O.frz s o r1 fun a m => k a (List.mem_append_left _ m), O.frzsT s os r2 fun a m => k a (List.mem_append_right _ m)⟩
theorem O.frzsF (s : Sub F F') : ∀ (os : List (Str × O)) {vs : List (Str × V)} {ft : List Addr}, ORepF K F H os vs ft → (∀ a ∈ ft, F' a = H a) → RpF K F' (frzF os) vs
  | [], vs, ft, h, k => by
    unfold ORepF at h
    unfold frzF RpF
    exact h.1
  | (_, o) :: os, vs, ft, h, k => by
    unfold ORepF at h
    obtain ⟨v, ws, A1, A2, e1, rfl, dj, r1, r2⟩ := h
    unfold frzF RpF
    exact ⟨v, ws, e1, O.frz s o r1 fun a m => k a (List.mem_append_left _ m), O.frzsF s os r2 fun a m => k a (List.mem_append_right _ m)⟩
end
end
end Dl
set_option Elab.async false
set_option linter.all false
set_option maxRecDepth 100000
namespace Dl
open PySem PySem.Spec L2
open PyProof.Rows hiding St
/-! ## the state -/
/-- what a name holds -/
inductive B where
  | un
  | dat (d : D)
  | own (ds : List D)
  | odk (kvs : List (Key × D))
  | odt (kvs : List (List Key × D))
  | ext (e : O)
abbrev Ev := List B
def BRep (K : PySem.W.Frag) (F H : Hp) : B → Option V → List Addr → Prop
  | .un, _, ft => ft = []
  | .dat d, sv, ft => ft = [] ∧ ∃ v, sv = some v ∧ Rp K F d v
  | .own ds, sv, ft => ∃ l xs, sv = some (.ref l) ∧ ft = [l] ∧ H l = some (.lst xs) ∧ F l = none ∧ RpL K F ds xs
  | .odk ds, sv, ft => ∃ l xs, sv = some (.ref l) ∧ ft = [l] ∧ H l = some (.dK xs) ∧ F l = none ∧ RpK K F ds xs
  | .odt ds, sv, ft => ∃ l xs, sv = some (.ref l) ∧ ft = [l] ∧ H l = some (.dT xs) ∧ F l = none ∧ RpT K F ds xs
  | .ext e, sv, ft => ∃ v, sv = some v ∧ ORep K F H e v ft
inductive RepS (K : PySem.W.Frag) (F H : Hp) : Ev → St → List Addr → Prop
  | nil : RepS K F H [] [] []
  | cons {b : B} {sv : Option V} {ft : List Addr} {ρ : Ev} {σ : St} {A : List Addr} (h : BRep K F H b sv ft) (t : RepS K F H ρ σ A) (dj : ∀ a ∈ ft, a ∉ A) : RepS K F H (b :: ρ) (sv :: σ) (ft ++ A)
/-- no table is frozen, and no tuple of those that the kit holds frozen -/
def NoTb (F : Hp) : Prop := (∀ a ps, F a ≠ some (.tbl ps)) ∧ ∀ a o xs, F a ≠ some (.frz o (.tup xs))
theorem NoTb.upd {F : Hp} {p : Addr} {o : HO} (h : NoTb F) (n1 : ∀ ps, o ≠ .tbl ps) (n2 : ∀ o' xs, o ≠ .frz o' (.tup xs)) : NoTb (upd F p o) := by
  refine ⟨fun a ps z => ?_, fun a o' xs z => ?_⟩
  · by_cases e : a = p
    · rw [e, upd_same] at z
      exact n1 ps (Option.some.inj z)
    · rw [upd_ne e] at z
      exact h.1 a ps z
  · by_cases e : a = p
    · rw [e, upd_same] at z
      exact n2 o' xs (Option.some.inj z)
    · rw [upd_ne e] at z
      exact h.2 a o' xs z
/-- nothing but a table stands there -/
def Nw (H : Hp) (a : Addr) : Prop := ∀ o, H a = some o → ∃ ps, o = .tbl ps
theorem Nw.of {H : Hp} {a : Addr} (h : H a = none) : Nw H a := fun o e => by
  rw [h] at e
  cases e
/-- a step of the world: what may change stands at A -/
structure Go (T : List (Addr × Str)) (A : List Addr) (F H : Hp) (A' : List Addr) (F' H' : Hp) : Prop where
  kH : ∀ a o, H a = some o → a ∉ A → (∀ ps, o ≠ .tbl ps) → H' a = some o
  ex : ∀ a o, H a = some o → (∀ ps, o ≠ .tbl ps) → ∃ o', H' a = some o' ∧ ∀ ps, o' ≠ .tbl ps
  kF : Sub F F'
  sub : Sub F' H'
  nF : ∀ a o, F' a = some o → F a = some o ∨ Nw H a ∨ a ∈ A ∨ ∃ xs, H a = some (.tup xs)
  sA : ∀ a ∈ A', a ∈ A ∨ Nw H a
  tab : LamX.Tabs T H → LamX.Tabs T H'
  ntb : NoTb F → NoTb F'
section
variable {K : PySem.W.Frag} {T : List (Addr × Str)} {F H F' H' F1 H1 F2 H2 : Hp} {A A' A1 A2 ft : List Addr} {b : B} {sv : Option V} {ρ : Ev} {σ : St}
theorem Go.refl (h : Sub F H) : Go T A F H A F H := ⟨fun _ _ e _ _ => e, fun _ o e n => ⟨o, e, n⟩, Sub.refl F, h, fun _ _ e => .inl e, fun _ h => .inl h, fun h => h, fun h => h⟩
theorem Go.trans (g : Go T A F H A1 F1 H1) (k : Go T A1 F1 H1 A2 F2 H2) : Go T A F H A2 F2 H2 := by
  have back : ∀ a, Nw H1 a → Nw H a := fun a z o q => by
    by_cases hn : ∃ ps, o = .tbl ps
    · exact hn
    · obtain ⟨o', e', n'⟩ := g.ex a o q (fun ps h => hn ⟨ps, h⟩)
      obtain ⟨ps, h⟩ := z o' e'
      exact absurd h (n' ps)
  refine ⟨fun a o e n nt => ?_, fun a o e nt => ?_, g.kF.trans k.kF, k.sub, fun a o e => ?_, fun a h => ?_, fun t => k.tab (g.tab t), fun n => k.ntb (g.ntb n)⟩
  · refine k.kH a o (g.kH a o e n nt) (fun h => ?_) nt
    rcases g.sA a h with z | z
    · exact n z
    · obtain ⟨ps, h⟩ := z o e
      exact nt ps h
  · obtain ⟨o', e', n'⟩ := g.ex a o e nt
    exact k.ex a o' e' n'
  · rcases k.nF a o e with z | z | z | ⟨xs, z⟩
    · exact g.nF a o z
    · exact .inr (.inl (back a z))
    · exact .inr ((g.sA a z).elim (fun y => .inr (.inl y)) .inl)
    · by_cases hA : a ∈ A
      · exact .inr (.inr (.inl hA))
      · cases q : H a with
        | none => exact .inr (.inl (Nw.of q))
        | some u =>
          by_cases hn : ∃ ps, u = .tbl ps
          · exact .inr (.inl fun o' e' => by
              rw [q] at e'
              cases e'
              exact hn)
          · have e2 := g.kH a u q hA fun ps y => hn ⟨ps, y⟩
            rw [e2] at z
            cases z
            exact .inr (.inr (.inr ⟨xs, rfl⟩))
  · rcases k.sA a h with z | z
    · exact g.sA a z
    · exact .inr (back a z)
/-- fewer addresses are watched behind -/
theorem Go.less (g : Go T A F H A1 F1 H1) (h : ∀ a ∈ A2, a ∈ A1) : Go T A F H A2 F1 H1 :=
  ⟨g.kH, g.ex, g.kF, g.sub, g.nF, fun a m => g.sA a (h a m), g.tab, g.ntb⟩
/-- more might have changed -/
theorem Go.more (g : Go T A F H A1 F1 H1) (h : ∀ a ∈ A, a ∈ A2) : Go T A2 F H A1 F1 H1 :=
  ⟨fun a o e n nt => g.kH a o e (fun z => n (h a z)) nt, g.ex, g.kF, g.sub, fun a o e => (g.nF a o e).imp id (Or.imp id (Or.imp (h a) id)), fun a m => (g.sA a m).imp (h a) id, g.tab, g.ntb⟩
/-- more stays beside -/
theorem Go.beside (g : Go T A F H A1 F1 H1) : Go T (A2 ++ A) F H (A2 ++ A1) F1 H1 :=
  ⟨fun a o e n nt => g.kH a o e (fun z => n (List.mem_append_right _ z)) nt, g.ex, g.kF, g.sub, fun a o e => (g.nF a o e).imp id (Or.imp id (Or.imp (List.mem_append_right _) id)), fun a m => by
    rcases List.mem_append.mp m with z | z
    · exact .inl (List.mem_append_left _ z)
    · exact (g.sA a z).imp (List.mem_append_right _) id, g.tab, g.ntb⟩
theorem BRep.live (h : BRep K F H b sv ft) : ∀ a ∈ ft, (∃ o, H a = some o ∧ ∀ ps, o ≠ .tbl ps) ∧ F a = none := by
  cases b with
  | un =>
    cases (show ft = [] from h)
    intro a m
    cases m
  | dat d =>
    obtain ⟨rfl, _⟩ := h
    intro a m
    cases m
  | own ds =>
    obtain ⟨l, xs, _, rfl, e, n, _⟩ := h
    intro a m
    rw [List.mem_singleton] at m
    subst m
    exact ⟨⟨_, e, fun ps z => by cases z⟩, n⟩
  | odk ds =>
    obtain ⟨l, xs, _, rfl, e, n, _⟩ := h
    intro a m
    rw [List.mem_singleton] at m
    subst m
    exact ⟨⟨_, e, fun ps z => by cases z⟩, n⟩
  | odt ds =>
    obtain ⟨l, xs, _, rfl, e, n, _⟩ := h
    intro a m
    rw [List.mem_singleton] at m
    subst m
    exact ⟨⟨_, e, fun ps z => by cases z⟩, n⟩
  | ext e =>
    obtain ⟨v, _, h⟩ := h
    exact e.live h
theorem BRep.ntup (h : BRep K F H b sv ft) : ∀ a ∈ ft, ∀ ys, H a ≠ some (.tup ys) := by
  cases b with
  | un =>
    cases (show ft = [] from h)
    intro a m
    cases m
  | dat d =>
    obtain ⟨rfl, _⟩ := h
    intro a m
    cases m
  | own ds =>
    obtain ⟨l, xs, _, rfl, e, _⟩ := h
    intro a m ys z
    rw [List.mem_singleton.mp m, e] at z
    cases z
  | odk ds =>
    obtain ⟨l, xs, _, rfl, e, _⟩ := h
    intro a m ys z
    rw [List.mem_singleton.mp m, e] at z
    cases z
  | odt ds =>
    obtain ⟨l, xs, _, rfl, e, _⟩ := h
    intro a m ys z
    rw [List.mem_singleton.mp m, e] at z
    cases z
  | ext e =>
    obtain ⟨v, _, h⟩ := h
    exact e.ntup h
theorem BRep.stab (h : BRep K F H b sv ft) (s : Sub F F') (k : ∀ a ∈ ft, H' a = H a) (n : ∀ a ∈ ft, F' a = none) : BRep K F' H' b sv ft := by
  cases b with
  | un => exact h
  | dat d =>
    obtain ⟨e, v, ev, r⟩ := h
    exact ⟨e, v, ev, r.mono s⟩
  | own ds =>
    obtain ⟨l, xs, e1, rfl, e, z, r⟩ := h
    exact ⟨l, xs, e1, rfl, by rw [k l (List.mem_singleton_self _)]; exact e, n l (List.mem_singleton_self _), r.mono s⟩
  | odk ds =>
    obtain ⟨l, xs, e1, rfl, e, z, r⟩ := h
    exact ⟨l, xs, e1, rfl, by rw [k l (List.mem_singleton_self _)]; exact e, n l (List.mem_singleton_self _), r.mono s⟩
  | odt ds =>
    obtain ⟨l, xs, e1, rfl, e, z, r⟩ := h
    exact ⟨l, xs, e1, rfl, by rw [k l (List.mem_singleton_self _)]; exact e, n l (List.mem_singleton_self _), r.mono s⟩
  | ext e =>
    obtain ⟨v, ev, h⟩ := h
    exact ⟨v, ev, e.stab h s k n⟩
theorem RepS.live (h : RepS K F H ρ σ A) : ∀ a ∈ A, (∃ o, H a = some o ∧ ∀ ps, o ≠ .tbl ps) ∧ F a = none := by
  induction h with
  | nil =>
    intro a m
    cases m
  | cons h _ _ ih =>
    intro a m
    rcases List.mem_append.mp m with z | z
    · exact h.live a z
    · exact ih a z
theorem RepS.ntup (h : RepS K F H ρ σ A) : ∀ a ∈ A, ∀ ys, H a ≠ some (.tup ys) := by
  induction h with
  | nil =>
    intro a m
    cases m
  | cons h _ _ ih =>
    intro a m
    rcases List.mem_append.mp m with z | z
    · exact h.ntup a z
    · exact ih a z
theorem RepS.stab (h : RepS K F H ρ σ A) (s : Sub F F') (k : ∀ a ∈ A, H' a = H a) (n : ∀ a ∈ A, F' a = none) : RepS K F' H' ρ σ A := by
  induction h with
  | nil => exact .nil
  | cons h _ dj ih => exact .cons (h.stab s (fun a m => k a (List.mem_append_left _ m)) (fun a m => n a (List.mem_append_left _ m))) (ih (fun a m => k a (List.mem_append_right _ m)) (fun a m => n a (List.mem_append_right _ m))) dj
theorem RepS.length (h : RepS K F H ρ σ A) : ρ.length = σ.length := by
  induction h with
  | nil => rfl
  | cons _ _ _ ih => rw [List.length_cons, List.length_cons, ih]
/-- what stands apart from the changed part stays -/
theorem Go.keepB (g : Go T A F H A' F' H') (h : BRep K F H b sv ft) (dj : ∀ a ∈ ft, a ∉ A) : BRep K F' H' b sv ft ∧ ∀ a ∈ ft, a ∉ A' := by
  have lv := h.live
  refine ⟨h.stab g.kF (fun a m => ?_) (fun a m => ?_), fun a m z => ?_⟩
  · obtain ⟨⟨o, e, nt⟩, _⟩ := lv a m
    rw [e]
    exact g.kH a o e (dj a m) nt
  · obtain ⟨⟨o, e, nt⟩, n⟩ := lv a m
    cases q : F' a with
    | none => rfl
    | some u =>
      rcases g.nF a u q with z | z | z | ⟨ys, z⟩
      · rw [n] at z
        cases z
      · obtain ⟨ps, h⟩ := z o e
        exact absurd h (nt ps)
      · exact absurd z (dj a m)
      · exact absurd z (h.ntup a m ys)
  · obtain ⟨⟨o, e, nt⟩, _⟩ := lv a m
    rcases g.sA a z with y | y
    · exact dj a m y
    · obtain ⟨ps, h⟩ := y o e
      exact nt ps h
theorem Go.keepS (g : Go T A F H A' F' H') (h : RepS K F H ρ σ A2) (dj : ∀ a ∈ A2, a ∉ A) : RepS K F' H' ρ σ A2 ∧ ∀ a ∈ A2, a ∉ A' := by
  induction h with
  | nil => exact ⟨.nil, fun a m => by cases m⟩
  | cons h _ d ih =>
    obtain ⟨i1, i2⟩ := ih fun a m => dj a (List.mem_append_right _ m)
    obtain ⟨j1, j2⟩ := g.keepB h fun a m => dj a (List.mem_append_left _ m)
    refine ⟨.cons j1 i1 d, fun a m => ?_⟩
    rcases List.mem_append.mp m with z | z
    · exact j2 a z
    · exact i2 a z
theorem RepS.head (h : RepS K F H (b :: ρ) (sv :: σ) A) : ∃ ft A1, A = ft ++ A1 ∧ BRep K F H b sv ft ∧ RepS K F H ρ σ A1 ∧ ∀ a ∈ ft, a ∉ A1 := by
  cases h with
  | cons h t dj => exact ⟨_, _, rfl, h, t, dj⟩
theorem RepS.tail (h : RepS K F H (b :: ρ) (sv :: σ) A) : ∃ A1, RepS K F H ρ σ A1 ∧ ∀ a ∈ A1, a ∈ A := by
  obtain ⟨ft, A1, rfl, _, t, _⟩ := h.head
  exact ⟨A1, t, fun a m => List.mem_append_right _ m⟩
theorem RepS.dat {d : D} {v : V} (h : RepS K F H ρ σ A) (r : Rp K F d v) : RepS K F H (.dat d :: ρ) (some v :: σ) A := by
  have q : RepS K F H (.dat d :: ρ) (some v :: σ) ([] ++ A) := .cons ⟨rfl, v, rfl, r⟩ h (fun a m => by cases m)
  exact q
theorem RepS.un (h : RepS K F H ρ σ A) : RepS K F H (.un :: ρ) (sv :: σ) A := by
  have q : RepS K F H (.un :: ρ) (sv :: σ) ([] ++ A) := .cons rfl h (fun a m => by cases m)
  exact q
theorem RepS.dat_inv {d : D} (h : RepS K F H (.dat d :: ρ) (sv :: σ) A) : ∃ v, sv = some v ∧ Rp K F d v ∧ RepS K F H ρ σ A := by
  obtain ⟨ft, A1, rfl, ⟨rfl, v, rfl, r⟩, t, _⟩ := h.head
  exact ⟨v, rfl, r, t⟩
theorem RepS.get {i : Nat} (h : RepS K F H ρ σ A) (e : ρ[i]? = some b) : ∃ sv ft, σ[i]? = some sv ∧ BRep K F H b sv ft ∧ ∀ a ∈ ft, a ∈ A := by
  induction h generalizing i with
  | nil => simp at e
  | @cons b' sv' ft' _ _ _ h _ _ ih =>
    cases i with
    | zero =>
      simp at e
      subst e
      exact ⟨sv', ft', rfl, h, fun a m => List.mem_append_left _ m⟩
    | succ i =>
      obtain ⟨sv, ft, e1, e2, e3⟩ := ih (i := i) (by simpa using e)
      exact ⟨sv, ft, by simpa using e1, e2, fun a m => List.mem_append_right _ (e3 a m)⟩
/-- a name is stored -/
theorem RepS.set {i : Nat} {b' : B} {sv' : Option V} {ft' : List Addr} (h : RepS K F H ρ σ A) (k : BRep K F H b' sv' ft') (dj : ∀ a ∈ ft', a ∉ A) : ∃ A', RepS K F H (ρ.set i b') (σ.set i sv') A' ∧ ∀ a ∈ A', a ∈ A ∨ a ∈ ft' := by
  induction h generalizing i with
  | nil => exact ⟨[], .nil, fun a m => by cases m⟩
  | @cons b0 sv0 ft0 ρ0 σ0 A0 h t d ih =>
    cases i with
    | zero =>
      refine ⟨ft' ++ A0, .cons k t fun a m z => dj a m (List.mem_append_right _ z), fun a m => ?_⟩
      rcases List.mem_append.mp m with z | z
      · exact .inr z
      · exact .inl (List.mem_append_right _ z)
    | succ i =>
      obtain ⟨A', r, m'⟩ := ih (i := i) fun a m z => dj a m (List.mem_append_right _ z)
      refine ⟨ft0 ++ A', .cons h r fun a m z => ?_, fun a m => ?_⟩
      · rcases m' a z with y | y
        · exact d a m y
        · exact dj a y (List.mem_append_left _ m)
      · rcases List.mem_append.mp m with z | z
        · exact .inl (List.mem_append_left _ z)
        · rcases m' a z with y | y
          · exact .inl (List.mem_append_right _ y)
          · exact .inr y
/-- what stands ahead is put into a slot -/
theorem RepS.store {i : Nat} (h : RepS K F H (b :: ρ) (sv :: σ) A) : ∃ A', RepS K F H (ρ.set i b) (σ.set i sv) A' ∧ ∀ a ∈ A', a ∈ A := by
  obtain ⟨ft, A1, rfl, k, t, dj⟩ := h.head
  obtain ⟨A', r, m⟩ := t.set (i := i) k dj
  exact ⟨A', r, fun a z => by
    rcases m a z with y | y
    · exact List.mem_append_right _ y
    · exact List.mem_append_left _ y⟩
/-- a slot's content is taken out -/
theorem RepS.takeOut {i : Nat} (h : RepS K F H ρ σ A) (e : ρ[i]? = some b) (es : σ[i]? = some sv) : ∃ A', RepS K F H (b :: ρ.set i .un) (sv :: σ) A' ∧ (∀ a ∈ A', a ∈ A) ∧ ∀ a ∈ A, a ∈ A' := by
  have go : ∃ ft A1, BRep K F H b sv ft ∧ RepS K F H (ρ.set i .un) σ A1 ∧ (∀ a ∈ ft, a ∉ A1) ∧ (∀ a ∈ ft, a ∈ A) ∧ (∀ a ∈ A1, a ∈ A) ∧ ∀ a ∈ A, a ∈ ft ∨ a ∈ A1 := by
    induction h generalizing i with
    | nil => simp at e
    | @cons b0 sv0 ft0 ρ0 σ0 A0 h t d ih =>
      cases i with
      | zero =>
        simp at e es
        subst e es
        exact ⟨ft0, A0, h, t.un, d, fun a m => List.mem_append_left _ m, fun a m => List.mem_append_right _ m, fun a m => List.mem_append.mp m⟩
      | succ i =>
        obtain ⟨ft, A1, r, q, dj, m1, m2, m3⟩ := ih (i := i) (by simpa using e) (by simpa using es)
        refine ⟨ft, ft0 ++ A1, r, .cons h q fun a m z => d a m (m2 a z), fun a m z => ?_, fun a m => List.mem_append_right _ (m1 a m), fun a m => ?_, fun a m => ?_⟩
        · rcases List.mem_append.mp z with y | y
          · exact d a y (m1 a m)
          · exact dj a m y
        · rcases List.mem_append.mp m with y | y
          · exact List.mem_append_left _ y
          · exact List.mem_append_right _ (m2 a y)
        · rcases List.mem_append.mp m with y | y
          · exact .inr (List.mem_append_left _ y)
          · rcases m3 a y with z | z
            · exact .inl z
            · exact .inr (List.mem_append_right _ z)
  obtain ⟨ft, A1, r, q, dj, m1, m2, m3⟩ := go
  refine ⟨ft ++ A1, .cons r q dj, fun a m => ?_, fun a m => List.mem_append.mpr (m3 a m)⟩
  rcases List.mem_append.mp m with z | z
  · exact m1 a z
  · exact m2 a z
/-- and put back -/
theorem RepS.putBack {i : Nat} (h : RepS K F H (b :: ρ) (sv :: σ) A) (es : σ[i]? = some sv) : ∃ A', RepS K F H (ρ.set i b) σ A' ∧ ∀ a ∈ A', a ∈ A := by
  obtain ⟨A', r, m⟩ := h.store (i := i)
  have e : σ.set i sv = σ := by
    obtain ⟨hl, he⟩ := List.getElem?_eq_some_iff.mp es
    rw [← he]
    exact List.set_getElem_self hl
  rw [e] at r
  exact ⟨A', r, m⟩
/-- the list at a name, changed in its place -/
theorem RepS.ownAt {i : Nat} {ds : List D} (h : RepS K F H ρ σ A) (e : ρ[i]? = some (.own ds)) : ∃ l xs, σ[i]? = some (some (.ref l)) ∧ l ∈ A ∧ H l = some (.lst xs) ∧ F l = none ∧ RpL K F ds xs ∧
    ∀ ds' xs', RpL K F ds' xs' → RepS K F (upd H l (.lst xs')) (ρ.set i (.own ds')) σ A := by
  induction h generalizing i with
  | nil => simp at e
  | @cons b0 sv0 ft0 ρ0 σ0 A0 h t d ih =>
    cases i with
    | zero =>
      simp at e
      subst e
      obtain ⟨l, xs, rfl, rfl, e1, e2, r⟩ := h
      refine ⟨l, xs, rfl, by simp, e1, e2, r, fun ds' xs' r' => ?_⟩
      refine .cons (ft := [l]) ⟨l, xs', rfl, rfl, upd_same, e2, r'⟩ (t.stab (Sub.refl F) (fun a m => ?_) (fun a m => (t.live a m).2)) d
      exact upd_ne fun z => d l (by simp) (z ▸ m)
    | succ i =>
      obtain ⟨l, xs, e1, e2, e3, e4, r, k⟩ := ih (i := i) (by simpa using e)
      refine ⟨l, xs, by simpa using e1, List.mem_append_right _ e2, e3, e4, r, fun ds' xs' r' => ?_⟩
      refine .cons (h.stab (Sub.refl F) (fun a m => ?_) (fun a m => (h.live a m).2)) (k ds' xs' r') d
      exact upd_ne fun z => d a m (z ▸ e2)
/-! ### the tables behind a change of another object -/
theorem tabs_upd {a : Addr} {o o' : HO} (e : H a = some o) (n1 : ∀ ps, o ≠ .tbl ps) (n2 : ∀ φ, o ≠ .ext φ) (t : LamX.Tabs T H) : LamX.Tabs T (upd H a o') := fun p hp => by
  obtain ⟨ps, h1, h2, h3⟩ := t p hp
  refine ⟨ps, ?_, h2, fun pos cv hc => ?_⟩
  · rw [upd_ne]
    · exact h1
    · intro z
      rw [z, e] at h1
      exact n1 ps (Option.some.inj h1)
  · obtain ⟨c, e1, e2⟩ := h3 pos cv hc
    refine ⟨c, e1, ?_⟩
    rw [upd_ne]
    · exact e2
    · intro z
      rw [z, e] at e2
      exact n2 _ (Option.some.inj e2)
/-- an owned object is changed -/
theorem Go.write {a : Addr} {o o' : HO} (s : Sub F H) (hA : a ∈ A) (hF : F a = none) (e : H a = some o) (n1 : ∀ ps, o ≠ .tbl ps) (n2 : ∀ φ, o ≠ .ext φ) (n3 : ∀ ps, o' ≠ .tbl ps := by intro _ z; cases z) : Go T A F H A F (upd H a o') := by
  refine ⟨fun b u eb nb _ => ?_, fun b u eb nu => ?_, Sub.refl F, fun b u eb => ?_, fun b u eb => .inl eb, fun b m => .inl m, tabs_upd e n1 n2, fun h => h⟩
  · rw [upd_ne (fun z => nb (by rw [z]; exact hA))]
    exact eb
  · by_cases z : b = a
    · exact ⟨o', by rw [z, upd_same], n3⟩
    · exact ⟨u, by rw [upd_ne z]; exact eb, nu⟩
  · rw [upd_ne fun z => ?_]
    · exact s b u eb
    · rw [z, hF] at eb
      cases eb
/-- a new frozen object -/
theorem Go.laid {p : Addr} {o : HO} (s : Sub F H) (n : H p = none) (nt : ∀ ps, o ≠ .tbl ps := by intro _ h; cases h) (ntf : ∀ o' xs, o ≠ .frz o' (.tup xs) := by intro _ _ h; cases h) : Go T A F H A (upd F p o) (upd H p o) := by
  have nF : F p = none := by
    cases q : F p with
    | none => rfl
    | some u =>
      have := s p u q
      rw [n] at this
      cases this
  refine ⟨fun b u eb _ _ => ?_, fun b u eb nu => ⟨u, ?_, nu⟩, fun b u eb => ?_, fun b u eb => ?_, fun b u eb => ?_, fun b m => .inl m, fun t => t.ext fun b u eb => ?_, fun h => h.upd nt ntf⟩
  · rw [upd_ne (ne_of_none eb n)]
    exact eb
  · rw [upd_ne (ne_of_none eb n)]
    exact eb
  · rw [upd_ne (ne_of_none eb nF)]
    exact eb
  · by_cases z : b = p
    · subst z
      rw [upd_same] at eb ⊢
      exact eb
    · rw [upd_ne z] at eb ⊢
      exact s b u eb
  · by_cases z : b = p
    · exact .inr (.inl (.of (z ▸ n)))
    · rw [upd_ne z] at eb
      exact .inl eb
  · rw [upd_ne (ne_of_none eb n)]
    exact eb
/-- a new owned object -/
theorem Go.fresh {p : Addr} {o : HO} (s : Sub F H) (n : H p = none) : Go T A F H ([p] ++ A) F (upd H p o) := by
  have nF : F p = none := by
    cases q : F p with
    | none => rfl
    | some u =>
      have := s p u q
      rw [n] at this
      cases this
  refine ⟨fun b u eb _ _ => ?_, fun b u eb nu => ⟨u, ?_, nu⟩, Sub.refl F, fun b u eb => ?_, fun b u eb => .inl eb, fun b m => ?_, fun t => t.ext fun b u eb => ?_, fun h => h⟩
  · rw [upd_ne (ne_of_none eb n)]
    exact eb
  · rw [upd_ne (ne_of_none eb n)]
    exact eb
  · rw [upd_ne (ne_of_none eb nF)]
    exact s b u eb
  · rcases List.mem_append.mp m with z | z
    · rw [List.mem_singleton] at z
      exact .inr (.of (z ▸ n))
    · exact .inl z
  · rw [upd_ne (ne_of_none eb n)]
    exact eb
theorem fresh_F {p : Addr} (s : Sub F H) (n : H p = none) : F p = none := by
  cases q : F p with
  | none => rfl
  | some u =>
    have := s p u q
    rw [n] at this
    cases this
theorem RepS.laid {p : Addr} {o : HO} (h : RepS K F H ρ σ A) (s : Sub F H) (n : H p = none) : RepS K (upd F p o) (upd H p o) ρ σ A := by
  have nF := fresh_F s n
  have ne : ∀ a ∈ A, a ≠ p := fun a m z => by
    obtain ⟨⟨o, e, _⟩, _⟩ := h.live a m
    rw [z, n] at e
    cases e
  refine h.stab (fun b u eb => ?_) (fun a m => upd_ne (ne a m)) (fun a m => ?_)
  · rw [upd_ne (ne_of_none eb nF)]
    exact eb
  · rw [upd_ne (ne a m)]
    exact (h.live a m).2
theorem RepS.fresh {p : Addr} {o : HO} (h : RepS K F H ρ σ A) (n : H p = none) : RepS K F (upd H p o) ρ σ A ∧ p ∉ A := by
  have ne : ∀ a ∈ A, a ≠ p := fun a m z => by
    obtain ⟨⟨o, e, _⟩, _⟩ := h.live a m
    rw [z, n] at e
    cases e
  exact ⟨h.stab (Sub.refl F) (fun a m => upd_ne (ne a m)) (fun a m => (h.live a m).2), fun m => ne p m rfl⟩
/-- what is owned at ft is given up -/
def gvn (F H : Hp) (ft : List Addr) : Hp := fun a => if a ∈ ft then H a else F a
/-- what is owned is given up: from now on it stays as it is -/
def frz : B → Option D
  | .dat d => some d
  | .own ds => some (.lst ds)
  | .odk ds => some (.dk ds)
  | .odt ds => some (.dt ds)
  | .ext o => some (frzO o)
  | .un => none
theorem freeze {d : D} (h : RepS K F H (b :: ρ) (sv :: σ) A) (s : Sub F H) (e : frz b = some d) :
    ∃ v F' A', sv = some v ∧ Go T A F H A' F' H ∧ RepS K F' H ρ σ A' ∧ Rp K F' d v := by
  obtain ⟨ft, A1, rfl, k, t, dj⟩ := h.head
  have fz : ∀ (l : Addr) (o : HO), (∀ ps, o ≠ .tbl ps) → (∀ o' xs, o ≠ .frz o' (.tup xs)) → ft = [l] → H l = some o → F l = none → Go T (ft ++ A1) F H A1 (upd F l o) H ∧ RepS K (upd F l o) H ρ σ A1 ∧ Sub F (upd F l o) := fun l o nt ntf ef el nl => by
    subst ef
    have su : Sub F (upd F l o) := fun b u eb => by
      rw [upd_ne (ne_of_none eb nl)]
      exact eb
    refine ⟨⟨fun b u eb _ _ => eb, fun b u eb nu => ⟨u, eb, nu⟩, su, fun b u eb => ?_, fun b u eb => ?_, fun b m => .inl (List.mem_append_right _ m), fun h => h, fun h => h.upd nt ntf⟩, t.stab su (fun a m => rfl) (fun a m => ?_), su⟩
    · by_cases z : b = l
      · subst z
        rw [upd_same] at eb
        rw [el]
        exact eb
      · rw [upd_ne z] at eb
        exact s b u eb
    · by_cases z : b = l
      · exact .inr (.inr (.inl (z ▸ by simp)))
      · rw [upd_ne z] at eb
        exact .inl eb
    · rw [upd_ne (fun z => dj l (by simp) (by rw [← z]; exact m))]
      exact (t.live a m).2
  cases b with
  | un => cases e
  | ext o =>
    cases e
    obtain ⟨v, rfl, r⟩ := k
    have lv := O.lv o r
    have inF : ∀ a ∈ ft, gvn F H ft a = H a := fun a m => by
      unfold gvn
      rw [if_pos m]
    have outF : ∀ a, a ∉ ft → gvn F H ft a = F a := fun a m => by
      unfold gvn
      rw [if_neg m]
    have su : Sub F (gvn F H ft) := fun b u eb => by
      by_cases m : b ∈ ft
      · rw [(lv b m).2] at eb
        cases eb
      · rw [outF b m]
        exact eb
    refine ⟨v, gvn F H ft, A1, rfl, ⟨fun b u eb _ _ => eb, fun b u eb nu => ⟨u, eb, nu⟩, su, fun b u eb => ?_, fun b u eb => ?_, fun b m => .inl (List.mem_append_right _ m), fun h => h, fun h => ⟨fun a ps z => ?_, fun a o' xs z => ?_⟩⟩, t.stab su (fun a m => rfl) (fun a m => ?_), O.frz su o r inF⟩
    · by_cases m : b ∈ ft
      · rw [inF b m] at eb
        exact eb
      · rw [outF b m] at eb
        exact s b u eb
    · by_cases m : b ∈ ft
      · exact .inr (.inr (.inl (List.mem_append_left _ m)))
      · rw [outF b m] at eb
        exact .inl eb
    · by_cases m : a ∈ ft
      · rw [inF a m] at z
        obtain ⟨⟨u, e1, n1, _⟩, _⟩ := lv a m
        rw [e1] at z
        exact n1 ps (Option.some.inj z)
      · rw [outF a m] at z
        exact h.1 a ps z
    · by_cases m : a ∈ ft
      · rw [inF a m] at z
        obtain ⟨⟨u, e1, _, _, n3⟩, _⟩ := lv a m
        rw [e1] at z
        exact n3 o' xs (Option.some.inj z)
      · rw [outF a m] at z
        exact h.2 a o' xs z
    · rw [outF a fun z => dj a z m]
      exact (t.live a m).2
  | dat d' =>
    cases e
    obtain ⟨rfl, v, rfl, r⟩ := k
    exact ⟨v, F, A1, rfl, Go.refl s, t, r⟩
  | own ds =>
    cases e
    obtain ⟨l, xs, rfl, ef, el, nl, r⟩ := k
    obtain ⟨g, q, su⟩ := fz l _ (fun _ z => by cases z) (fun _ _ z => by cases z) ef el nl
    refine ⟨_, _, A1, rfl, g, q, ?_⟩
    unfold Rp
    exact ⟨l, xs, rfl, upd_same, r.mono su⟩
  | odk ds =>
    cases e
    obtain ⟨l, xs, rfl, ef, el, nl, r⟩ := k
    obtain ⟨g, q, su⟩ := fz l _ (fun _ z => by cases z) (fun _ _ z => by cases z) ef el nl
    refine ⟨_, _, A1, rfl, g, q, ?_⟩
    unfold Rp
    exact ⟨l, xs, rfl, .inl upd_same, r.mono su⟩
  | odt ds =>
    cases e
    obtain ⟨l, xs, rfl, ef, el, nl, r⟩ := k
    obtain ⟨g, q, su⟩ := fz l _ (fun _ z => by cases z) (fun _ _ z => by cases z) ef el nl
    refine ⟨_, _, A1, rfl, g, q, ?_⟩
    unfold Rp
    exact ⟨l, xs, rfl, upd_same, r.mono su⟩
end
end Dl
set_option Elab.async false
set_option linter.all false
set_option maxRecDepth 100000
namespace Dl
open PySem PySem.Spec L2
open PyProof.Rows hiding St
/-! ## results -/
structure Exc where
  cls : Str
  fs : Option (List (Str × D))
inductive R (α : Type) where
  | ok (a : α)
  | err (x : Exc) (ρ : Ev)
  | stuck
def R.bind {α β : Type} (r : R α) (f : α → R β) : R β := match r with
  | .ok a => f a
  | .err x ρ => .err x ρ
  | .stuck => .stuck
instance : Monad R := { pure := fun a => .ok a, bind := fun r f => R.bind r f }
@[simp] theorem ok_bind {α β : Type} (a : α) (f : α → R β) : (R.ok a >>= f) = f a := rfl
@[simp] theorem err_bind {α β : Type} (x : Exc) (ρ : Ev) (f : α → R β) : ((R.err x ρ : R α) >>= f) = .err x ρ := rfl
@[simp] theorem stuck_bind {α β : Type} (f : α → R β) : ((R.stuck : R α) >>= f) = .stuck := rfl
@[simp] theorem pure_ok {α : Type} (a : α) : (pure a : R α) = .ok a := rfl
def ofO {α : Type} : Option α → R α
  | some a => .ok a
  | none => .stuck
@[simp] theorem ofO_some {α : Type} (a : α) : ofO (some a) = .ok a := rfl
@[simp] theorem ofO_none {α : Type} : (ofO none : R α) = .stuck := rfl
def RepX (K : PySem.W.Frag) (F : Hp) (x : Exc) (cls : Value) (dd : Option Addr) : Prop :=
  (∃ a, cls = .ref a ∧ ClsN K x.cls a) ∧ match x.fs with
    | none => dd = none
    | some fs => ∃ d ys, dd = some d ∧ F d = some (.xd ys) ∧ RpF K F fs ys
/-- a family of contexts over the same written part; what holds of some slots and of what is frozen there -/
structure Fam where
  Ix : Type
  at_ : Ix → Cx
  K : PySem.W.Frag
  hK : ∀ i, (at_ i).K = K
  inv : St → Hp → Prop
  ps : List Nat
  mono : ∀ {σ σ' : St} {F F' : Hp}, inv σ F → Sub F F' → (∀ j ∈ ps, σ'[j]? = σ[j]?) → inv σ' F'
structure At (X : Fam) (T : List (Addr × Str)) (F H : Hp) (ρ : Ev) (σ : St) (A : List Addr) : Prop where
  sub : Sub F H
  tab : LamX.Tabs T H
  rep : RepS X.K F H ρ σ A
  inv : X.inv σ F
  ntb : NoTb F
def Post {α : Type} (K : PySem.W.Frag) (T : List (Addr × Str)) (W : WX) (σ : St) (F H : Hp) (A : List Addr) (r : R (α × Ev)) (k : α → Ev → Hp → Hp → List Addr → Prop) : Prop := match r with
  | .ok (a, ρ') => ∀ F' H' A', Go T A F H A' F' H' → k a ρ' F' H' A'
  | .err x ρ' => ∀ F' H' A' cls dd, Go T A F H A' F' H' → RepS K F' H' ρ' σ A' → RepX K F' x cls dd → W cls dd σ H'
  | .stuck => False
section
variable {K : PySem.W.Frag} {T : List (Addr × Str)} {W : WX} {σ : St} {F H : Hp} {A : List Addr}
theorem Post.imp {α : Type} {r : R (α × Ev)} {k k' : α → Ev → Hp → Hp → List Addr → Prop} (p : Post K T W σ F H A r k) (h : ∀ a ρ' F' H' A', Go T A F H A' F' H' → k a ρ' F' H' A' → k' a ρ' F' H' A') : Post K T W σ F H A r k' := by
  cases r with
  | ok a =>
    obtain ⟨a, ρ'⟩ := a
    exact fun F' H' A' g => h a ρ' F' H' A' g (p F' H' A' g)
  | err x ρ' => exact p
  | stuck => exact p
theorem Post.after {α : Type} {r : R (α × Ev)} {k : α → Ev → Hp → Hp → List Addr → Prop} {A1 : List Addr} {F1 H1 : Hp} (p : Post K T W σ F H A r k) (g : Go T A F H A1 F1 H1) : Post K T W σ F1 H1 A1 r k := by
  cases r with
  | ok a =>
    obtain ⟨a, ρ'⟩ := a
    exact fun F' H' A' g' => p F' H' A' (g.trans g')
  | err x ρ' => exact fun F' H' A' cls dd g' => p F' H' A' cls dd (g.trans g')
  | stuck => exact p
theorem Post.bind {α β : Type} {r : R (α × Ev)} {f : α × Ev → R (β × Ev)} {k : β → Ev → Hp → Hp → List Addr → Prop} (p : Post K T W σ F H A (r >>= f) k) :
    Post K T W σ F H A r fun a ρ1 F1 H1 A1 => Post K T W σ F1 H1 A1 (f (a, ρ1)) k := by
  cases r with
  | ok a =>
    obtain ⟨a, ρ1⟩ := a
    exact fun F1 H1 A1 g => p.after g
  | err x ρ' => exact p
  | stuck => exact p
theorem Post.now {α : Type} {a : α} {ρ' : Ev} {k : α → Ev → Hp → Hp → List Addr → Prop} (p : Post K T W σ F H A (.ok (a, ρ')) k) {F' H' : Hp} {A' : List Addr} (g : Go T A F H A' F' H') : k a ρ' F' H' A' := p F' H' A' g
theorem At.next {X : Fam} {ρ ρ' : Ev} {F' H' : Hp} {A' : List Addr} (a : At X T F H ρ σ A) (g : Go T A F H A' F' H') (r : RepS X.K F' H' ρ' σ A') : At X T F' H' ρ' σ A' := ⟨g.sub, g.tab a.tab, r, X.mono a.inv g.kF fun _ _ => rfl, g.ntb a.ntb⟩
theorem At.nextK {X : Fam} {ρ ρ' : Ev} {σ' : St} {F' H' : Hp} {A' : List Addr} (a : At X T F H ρ σ A) (g : Go T A F H A' F' H') (r : RepS X.K F' H' ρ' σ' A') (k : ∀ j ∈ X.ps, σ'[j]? = σ[j]?) : At X T F' H' ρ' σ' A' := ⟨g.sub, g.tab a.tab, r, X.mono a.inv g.kF k, g.ntb a.ntb⟩
end
/-! ## the judgements -/
/-- an operand: a frozen datum, or what an owning name holds -/
inductive Opd where
  | val (d : D)
  | var (i : Nat)
def OpdR (K : PySem.W.Frag) (F : Hp) (σ : St) : Opd → V → Prop
  | .val d, v => Rp K F d v
  | .var i, v => σ[i]? = some (some v)
theorem OpdR.mono {K : PySem.W.Frag} {F F' : Hp} {σ : St} {o : Opd} {v : V} (h : OpdR K F σ o v) (s : Sub F F') : OpdR K F' σ o v := by
  cases o with
  | val d => exact Rp.mono s d h
  | var i => exact h
def rdB : B → Option D
  | .dat d => some d
  | .own ds => some (.lst ds)
  | .odk ds => some (.dk ds)
  | .odt ds => some (.dt ds)
  | _ => none
def rd (ρ : Ev) : Opd → Option D
  | .val d => some d
  | .var i => match ρ[i]? with
    | some b => rdB b
    | none => none
/-- readable at the top, what is within is frozen -/
def RpTop (K : PySem.W.Frag) (F H : Hp) : D → V → Prop
  | .lst ds, v => ∃ a xs, v = .ref a ∧ H a = some (.lst xs) ∧ RpL K F ds xs
  | .dk ds, v => ∃ a xs, v = .ref a ∧ Rd H a (.dK xs) ∧ RpK K F ds xs
  | .dt ds, v => ∃ a xs, v = .ref a ∧ H a = some (.dT xs) ∧ RpT K F ds xs
  | d, v => Rp K F d v
theorem RpTop.of {K : PySem.W.Frag} {F H : Hp} {d : D} {v : V} (s : Sub F H) (h : Rp K F d v) : RpTop K F H d v := by
  cases d <;> first
    | exact h
    | (unfold Rp at h
       obtain ⟨a, xs, e, h1, h2⟩ := h
       first
        | exact ⟨a, xs, e, s _ _ h1, h2⟩
        | exact ⟨a, xs, e, rd_mono s h1, h2⟩)
theorem RpTop.rp {K : PySem.W.Frag} {F H : Hp} {d : D} {v : V} (s : Sub F H) (h : RpTop K F H d v) : Rp K H d v := by
  cases d <;> first
    | exact Rp.mono s _ h
    | (obtain ⟨a, xs, e, h1, h2⟩ := h
       unfold Rp
       first
        | exact ⟨a, xs, e, h1, h2.mono s _⟩
        | exact ⟨a, xs, e, h1, RpL.mono s _ h2⟩
        | exact ⟨a, xs, e, h1, RpK.mono s _ h2⟩
        | exact ⟨a, xs, e, h1, RpT.mono s _ h2⟩)
theorem rd_top {K : PySem.W.Frag} {F H : Hp} {ρ : Ev} {σ : St} {A : List Addr} {o : Opd} {v : V} {d : D} (s : Sub F H) (r : RepS K F H ρ σ A) (h : OpdR K F σ o v) (e : rd ρ o = some d) : RpTop K F H d v := by
  cases o with
  | val d' =>
    cases e
    exact .of s h
  | var i =>
    have h : σ[i]? = some (some v) := h
    simp only [rd] at e
    cases q : ρ[i]? with
    | none =>
      rw [q] at e
      cases e
    | some b =>
      rw [q] at e
      obtain ⟨sv, ft, e1, k, _⟩ := r.get q
      rw [h] at e1
      cases e1
      cases b with
      | un => cases e
      | ext _ => cases e
      | dat d' =>
        cases e
        obtain ⟨_, v', e2, z⟩ := k
        cases e2
        exact .of s z
      | own ds =>
        cases e
        obtain ⟨l, xs, e2, _, e3, _, z⟩ := k
        cases e2
        exact ⟨l, xs, rfl, e3, z⟩
      | odk ds =>
        cases e
        obtain ⟨l, xs, e2, _, e3, _, z⟩ := k
        cases e2
        exact ⟨l, xs, rfl, .inl e3, z⟩
      | odt ds =>
        cases e
        obtain ⟨l, xs, e2, _, e3, _, z⟩ := k
        cases e2
        exact ⟨l, xs, rfl, e3, z⟩
abbrev FE := Ev → R (B × Ev)
abbrev FO := Ev → R (Opd × Ev)
abbrev FT := Ev → R (Bool × Ev)
abbrev FA := Ev → R (List Opd × Ev)
section
variable (X : Fam) (T : List (Addr × Str)) (W : WX)
def DE (e : Expr) (f : FE) : Prop := ∃ t, (∀ i, PE (X.at_ i) e t) ∧ ∀ σ F H A ρ Q, At X T F H ρ σ A →
  Post X.K T W σ F H A (f ρ) (fun b ρ' F' H' A' => ∀ v, RepS X.K F' H' (b :: ρ') (some v :: σ) A' → Q v H') → t σ H Q
def DO (e : Expr) (f : FO) : Prop := ∃ t, (∀ i, PE (X.at_ i) e t) ∧ ∀ σ F H A ρ Q, At X T F H ρ σ A →
  Post X.K T W σ F H A (f ρ) (fun o ρ' F' H' A' => ∀ v, RepS X.K F' H' ρ' σ A' → OpdR X.K F' σ o v → Q v H') → t σ H Q
def DT (e : Expr) (f : FT) : Prop := ∃ t, (∀ i, PT (X.at_ i) e t) ∧ ∀ σ F H A ρ Q, At X T F H ρ σ A →
  Post X.K T W σ F H A (f ρ) (fun c ρ' F' H' A' => RepS X.K F' H' ρ' σ A' → Q c H') → t σ H Q
/-- a test within and, or -/
def DW (e : Expr) (f : FT) : Prop := ∃ t, (∀ i, PW (X.at_ i) e t) ∧ ∀ σ F H A ρ Q, At X T F H ρ σ A →
  Post X.K T W σ F H A (f ρ) (fun c ρ' F' H' A' => RepS X.K F' H' ρ' σ A' → Q c H') → t σ H Q
def DA (es : List Expr) (f : FA) : Prop := ∃ t, (∀ i, PA (X.at_ i) es t) ∧ ∀ σ F H A ρ Q, At X T F H ρ σ A →
  Post X.K T W σ F H A (f ρ) (fun os ρ' F' H' A' => ∀ vs, RepS X.K F' H' ρ' σ A' → Paired (OpdR X.K F' σ) os vs → Q vs H') → t σ H Q
end
/-! ## plain rules -/
section
variable {X : Fam} {T : List (Addr × Str)} {W : WX}
def cC (d : D) : FE := fun ρ => .ok (.dat d, ρ)
theorem de_const {e : Expr} {v : V} {d : D} (h : ∀ i, PE (X.at_ i) e (tC v)) (r : ∀ H, Rp X.K H d v) : DE X T W e (cC d) :=
  ⟨_, h, fun σ F H A ρ Q a p => p.now (Go.refl a.sub) v (a.rep.dat (r F))⟩
theorem rp_int {K : PySem.W.Frag} {H : Hp} {i : Int} : Rp K H (.int i) (.int i) := by unfold Rp; rfl
theorem rp_str {K : PySem.W.Frag} {H : Hp} {i : Str} : Rp K H (.str i) (.str i) := by unfold Rp; rfl
theorem rp_bl {K : PySem.W.Frag} {H : Hp} {i : Bool} : Rp K H (.bl i) (.bl i) := by unfold Rp; rfl
theorem rp_non {K : PySem.W.Frag} {H : Hp} : Rp K H .non .non := by unfold Rp; rfl
theorem rp_opq {K : PySem.W.Frag} {H : Hp} {v : V} : Rp K H (.opq v) v := by unfold Rp; rfl
theorem de_int {i : Int} {j pos} : DE X T W (.Constant (.int i) j pos) (cC (.int i)) := de_const (fun _ => pe_int) fun _ => rp_int
theorem de_str {i : Str} {j pos} : DE X T W (.Constant (.str i) j pos) (cC (.str i)) := de_const (fun _ => pe_str) fun _ => rp_str
theorem de_bl {i : Bool} {j pos} : DE X T W (.Constant (.bool i) j pos) (cC (.bl i)) := de_const (fun _ => pe_bl) fun _ => rp_bl
theorem de_non {j pos} : DE X T W (.Constant .none j pos) (cC .non) := de_const (fun _ => pe_non) fun _ => rp_non
theorem de_glob {x : Str} {v : V} {d : D} {u : Value} {pos : Pos} (hg : ∀ i, Gl (X.at_ i) x) (hm : ∀ i, (X.at_ i).mg x = some u) (r : RelV v u) (h : ∀ H, Rp X.K H d v) (hd : (x == ("__debug__" : Str)) = false := by decide) : DE X T W (.Name x pos) (cC d) :=
  de_const (fun i => pe_glob (hg i) (hm i) r hd) h
theorem de_bltn {x : Str} {v : V} {u : Value} {pos : Pos} (hg : ∀ i, Gl (X.at_ i) x) (hm : ∀ i, (X.at_ i).mg x = none) (hv : bootBuiltins x = some u) (r : RelV v u) (hn : x ≠ "__name__" := by decide) (hd : (x == ("__debug__" : Str)) = false := by decide) : DE X T W (.Name x pos) (cC (.opq v)) :=
  de_const (fun i => pe_bltn (hg i) (hm i) hv r hn hd) fun _ => rp_opq
/-- a name: its datum, or what it owns goes over -/
def cN (i : Nat) : FE := fun ρ => match ρ[i]? with
  | some (.dat d) => .ok (.dat d, ρ)
  | some (.own ds) => .ok (.own ds, ρ.set i .un)
  | some (.odk ds) => .ok (.odk ds, ρ.set i .un)
  | some (.odt ds) => .ok (.odt ds, ρ.set i .un)
  | some (.ext e) => .ok (.ext e, ρ.set i .un)
  | _ => .stuck
theorem un_of {K : PySem.W.Frag} {F H : Hp} {b : B} {sv : Option V} {ft : List Addr} (h : BRep K F H b sv ft) (n : b ≠ .un) : ∃ v, sv = some v := by
  cases b with
  | un => exact absurd rfl n
  | dat d =>
    obtain ⟨_, v, e, _⟩ := h
    exact ⟨v, e⟩
  | own ds =>
    obtain ⟨l, _, e, _⟩ := h
    exact ⟨_, e⟩
  | odk ds =>
    obtain ⟨l, _, e, _⟩ := h
    exact ⟨_, e⟩
  | odt ds =>
    obtain ⟨l, _, e, _⟩ := h
    exact ⟨_, e⟩
  | ext _ =>
    obtain ⟨v, e, _⟩ := h
    exact ⟨v, e⟩
theorem de_n (i : Nat) {x : Str} {pos : Pos} (hN : ∀ j, (X.at_ j).N[i]? = some x := by intro _; rfl) (hv : ∀ j, Vis (X.at_ j).env.scope x := by intro _; first | exact Or.inl rfl | exact Or.inr (Or.inl rfl) | exact Or.inr (Or.inr rfl)) (hd : (x == ("__debug__" : Str)) = false := by decide)
    (hcd : (x == ("__classdict__" : Str)) = false := by decide) : DE X T W (.Name x pos) (cN i) := by
  refine ⟨_, fun j => pe_var (hN j) (hv j) hd hcd, fun σ F H A ρ Q a p => ?_⟩
  unfold cN at p
  cases q : ρ[i]? with
  | none =>
    rw [q] at p
    exact False.elim p
  | some b =>
    rw [q] at p
    obtain ⟨sv, ft, e1, k, m⟩ := a.rep.get q
    have mv : ∀ (b' : B), b = b' → b' ≠ .un → Post X.K T W σ F H A (.ok (b', ρ.set i .un)) (fun b ρ' F' H' A' => ∀ v, RepS X.K F' H' (b :: ρ') (some v :: σ) A' → Q v H') → tVar i σ H Q := fun b' eb nb p => by
      subst eb
      obtain ⟨v, rfl⟩ := un_of k nb
      obtain ⟨A', r, m1, m2⟩ := a.rep.takeOut q e1
      exact ⟨v, e1, p.now ((Go.refl a.sub).less m1) v r⟩
    cases b with
    | un => exact False.elim p
    | dat d =>
      obtain ⟨rfl, v, rfl, r⟩ := k
      exact ⟨v, e1, p.now (Go.refl a.sub) v (a.rep.dat r)⟩
    | own ds => exact mv _ rfl (fun z => by cases z) p
    | odk ds => exact mv _ rfl (fun z => by cases z) p
    | odt ds => exact mv _ rfl (fun z => by cases z) p
    | ext e => exact mv _ rfl (fun z => by cases z) p
/-- a name, to be read at once -/
def cNO (i : Nat) : FO := fun ρ => match ρ[i]? with
  | some (.dat d) => .ok (.val d, ρ)
  | some (.un) => .stuck
  | some _ => .ok (.var i, ρ)
  | none => .stuck
theorem do_n (i : Nat) {x : Str} {pos : Pos} (hN : ∀ j, (X.at_ j).N[i]? = some x := by intro _; rfl) (hv : ∀ j, Vis (X.at_ j).env.scope x := by intro _; first | exact Or.inl rfl | exact Or.inr (Or.inl rfl) | exact Or.inr (Or.inr rfl)) (hd : (x == ("__debug__" : Str)) = false := by decide)
    (hcd : (x == ("__classdict__" : Str)) = false := by decide) : DO X T W (.Name x pos) (cNO i) := by
  refine ⟨_, fun j => pe_var (hN j) (hv j) hd hcd, fun σ F H A ρ Q a p => ?_⟩
  unfold cNO at p
  cases q : ρ[i]? with
  | none =>
    rw [q] at p
    exact False.elim p
  | some b =>
    rw [q] at p
    obtain ⟨sv, ft, e1, k, m⟩ := a.rep.get q
    have mv : ∀ (b' : B), b = b' → b' ≠ .un → Post X.K T W σ F H A (.ok (Opd.var i, ρ)) (fun o ρ' F' H' A' => ∀ v, RepS X.K F' H' ρ' σ A' → OpdR X.K F' σ o v → Q v H') → tVar i σ H Q := fun b' eb nb p => by
      subst eb
      obtain ⟨v, rfl⟩ := un_of k nb
      exact ⟨v, e1, p.now (Go.refl a.sub) v a.rep e1⟩
    cases b with
    | un => exact False.elim p
    | dat d =>
      obtain ⟨rfl, v, rfl, r⟩ := k
      exact ⟨v, e1, p.now (Go.refl a.sub) v a.rep r⟩
    | own ds => exact mv _ rfl (fun z => by cases z) p
    | odk ds => exact mv _ rfl (fun z => by cases z) p
    | odt ds => exact mv _ rfl (fun z => by cases z) p
    | ext e => exact mv _ rfl (fun z => by cases z) p
/-- any expression as an operand: what it owns is given up -/
def cO (f : FE) : FO := fun ρ => f ρ >>= fun p => ofO (frz p.1) >>= fun d => .ok (.val d, p.2)
theorem do_e {e : Expr} {f : FE} (h : DE X T W e f) : DO X T W e (cO f) := by
  obtain ⟨t, pe, s⟩ := h
  refine ⟨t, pe, fun σ F H A ρ Q a p => s σ F H A ρ Q a ?_⟩
  refine p.bind.imp fun b ρ1 F1 H1 A1 g p1 v r => ?_
  simp only at p1
  cases q : frz b with
  | none =>
    rw [q] at p1
    exact False.elim p1
  | some d =>
    rw [q] at p1
    obtain ⟨v', F2, A2, e1, g2, r2, z⟩ := freeze (T := T) r g.sub q
    cases e1
    exact p1.now g2 v r2 z
/-- an operand's value, read as a new datum: only for what stays (no owned thing) -/
theorem de_as {e : Expr} {f g : FE} (h : DE X T W e f) (q : ∀ ρ, f ρ = g ρ) : DE X T W e g := by
  obtain ⟨t, pe, s⟩ := h
  exact ⟨t, pe, fun σ F H A ρ Q a p => s σ F H A ρ Q a (by rw [q]; exact p)⟩
/-! ### arguments -/
def aNil : FA := fun ρ => .ok ([], ρ)
def aCons (f : FO) (g : FA) : FA := fun ρ => f ρ >>= fun p => g p.2 >>= fun q => .ok (p.1 :: q.1, q.2)
theorem da_nil : DA X T W [] aNil := ⟨_, fun _ => pa_nil, fun σ F H A ρ Q a p => p.now (Go.refl a.sub) [] a.rep .nil⟩
theorem da_cons {e : Expr} {es : List Expr} {f : FO} {g : FA} (h : DO X T W e f) (k : DA X T W es g) (hs : ∀ i, starEach (e :: es) (X.at_ i).env = (false, eval e (X.at_ i).env) :: starEach es (X.at_ i).env := by intro _; rfl) : DA X T W (e :: es) (aCons f g) := by
  obtain ⟨t, pe, s⟩ := h
  obtain ⟨u, pa, s2⟩ := k
  refine ⟨_, fun i => pa_cons (pe i) (pa i) (hs i), fun σ F H A ρ Q a p => s σ F H A ρ _ a ?_⟩
  refine p.bind.imp fun o ρ1 F1 H1 A1 g1 p1 v r o1 => ?_
  refine s2 σ F1 H1 A1 ρ1 _ (a.next g1 r) ?_
  refine p1.bind.imp fun os ρ2 F2 H2 A2 g2 p2 vs r2 o2 => ?_
  exact p2.now (Go.refl g2.sub) (v :: vs) r2 (.cons (o1.mono g2.kF) o2)
/-- the arguments' data -/
def rds (ρ : Ev) : List Opd → Option (List D)
  | [] => some []
  | o :: os => match rd ρ o, rds ρ os with
    | some d, some ds => some (d :: ds)
    | _, _ => none
theorem rds_top {K : PySem.W.Frag} {F H : Hp} {ρ : Ev} {σ : St} {A : List Addr} (s : Sub F H) (r : RepS K F H ρ σ A) : ∀ {os : List Opd} {vs : List V} {ds : List D}, Paired (OpdR K F σ) os vs → rds ρ os = some ds → Paired (RpTop K F H) ds vs
  | [], _, _, h, e => by
    cases h
    cases e
    exact .nil
  | o :: os, _, _, h, e => by
    cases h with
    | cons h1 h2 =>
      unfold rds at e
      cases q1 : rd ρ o with
      | none =>
        rw [q1] at e
        cases e
      | some d =>
        cases q2 : rds ρ os with
        | none =>
          rw [q1, q2] at e
          cases e
        | some ds =>
          rw [q1, q2] at e
          cases e
          exact .cons (rd_top s r h1 q1) (rds_top s r h2 q2)
/-! ### operators by values -/
/-- what an operation by values gives -/
def Fin (K : PySem.W.Frag) (T : List (Addr × Str)) (F H : Hp) (A : List Addr) (ρ : Ev) (σ : St) (b : B) (Q : VK) : Prop :=
  ∀ v F' H' A', Go T A F H A' F' H' → RepS K F' H' (b :: ρ) (some v :: σ) A' → Q v H'
def V1 (K : PySem.W.Frag) (T : List (Addr × Str)) (r : V → Hp → VK → Prop) (g : D → Option B) : Prop :=
  ∀ F H A ρ σ d v b Q, Sub F H → RepS K F H ρ σ A → RpTop K F H d v → g d = some b → Fin K T F H A ρ σ b Q → r v H Q
def V2 (K : PySem.W.Frag) (T : List (Addr × Str)) (r : R2) (g : D → D → Option B) : Prop :=
  ∀ F H A ρ σ d d' v v' b Q, Sub F H → RepS K F H ρ σ A → RpTop K F H d v → RpTop K F H d' v' → g d d' = some b → Fin K T F H A ρ σ b Q → r v v' H Q
def VL (K : PySem.W.Frag) (T : List (Addr × Str)) (r : List V → Hp → VK → Prop) (g : List D → Option B) : Prop :=
  ∀ F H A ρ σ ds vs b Q, Sub F H → RepS K F H ρ σ A → Paired (RpTop K F H) ds vs → g ds = some b → Fin K T F H A ρ σ b Q → r vs H Q
section
variable {K : PySem.W.Frag} {F H : Hp} {A : List Addr} {ρ : Ev} {σ : St} {Q : VK}
theorem Fin.dat {d : D} {v : V} (f : Fin K T F H A ρ σ (.dat d) Q) (s : Sub F H) (r : RepS K F H ρ σ A) (h : Rp K F d v) : Q v H := f v F H A (Go.refl s) (r.dat h)
theorem Fin.tup {ds : List D} {xs : List V} (f : Fin K T F H A ρ σ (.dat (.tup ds)) Q) (s : Sub F H) (r : RepS K F H ρ σ A) (h : RpL K F ds xs) : ∀ p, H p = none → Q (.ref p) (upd H p (.tup xs)) := fun p n => by
  refine f _ _ _ A (Go.laid s n) ((r.laid s n).dat ?_)
  unfold Rp
  exact ⟨p, xs, rfl, SqT.of upd_same, h.mono (Go.laid (T := T) (A := A) s n).kF _⟩
theorem Fin.lst {ds : List D} {xs : List V} (f : Fin K T F H A ρ σ (.own ds) Q) (s : Sub F H) (r : RepS K F H ρ σ A) (h : RpL K F ds xs) : ∀ p, H p = none → Q (.ref p) (upd H p (.lst xs)) := fun p n => by
  obtain ⟨r', nA⟩ := r.fresh (o := .lst xs) n
  exact f _ _ _ _ (Go.fresh s n) (.cons (ft := [p]) ⟨p, xs, rfl, rfl, upd_same, fresh_F s n, h⟩ r' (fun a m z => by
    rw [List.mem_singleton] at m
    exact nA (m ▸ z)))
theorem Fin.dk {ds : List (Key × D)} {xs : List (Key × V)} (f : Fin K T F H A ρ σ (.odk ds) Q) (s : Sub F H) (r : RepS K F H ρ σ A) (h : RpK K F ds xs) : ∀ p, H p = none → Q (.ref p) (upd H p (.dK xs)) := fun p n => by
  obtain ⟨r', nA⟩ := r.fresh (o := .dK xs) n
  exact f _ _ _ _ (Go.fresh s n) (.cons (ft := [p]) ⟨p, xs, rfl, rfl, upd_same, fresh_F s n, h⟩ r' (fun a m z => by
    rw [List.mem_singleton] at m
    exact nA (m ▸ z)))
theorem Fin.dt {ds : List (List Key × D)} {xs : List (List Key × V)} (f : Fin K T F H A ρ σ (.odt ds) Q) (s : Sub F H) (r : RepS K F H ρ σ A) (h : RpT K F ds xs) : ∀ p, H p = none → Q (.ref p) (upd H p (.dT xs)) := fun p n => by
  obtain ⟨r', nA⟩ := r.fresh (o := .dT xs) n
  exact f _ _ _ _ (Go.fresh s n) (.cons (ft := [p]) ⟨p, xs, rfl, rfl, upd_same, fresh_F s n, h⟩ r' (fun a m z => by
    rw [List.mem_singleton] at m
    exact nA (m ▸ z)))
end
/-- two operands -/
def c2 (g : D → D → Option B) (fa fb : FO) : FE := fun ρ => fa ρ >>= fun p => fb p.2 >>= fun q => ofO (rd q.2 p.1) >>= fun d => ofO (rd q.2 q.1) >>= fun d' => ofO (g d d') >>= fun b => .ok (b, q.2)
theorem run2 {r : R2} {g : D → D → Option B} (hv : V2 X.K T r g) {ta tb : TE} {fa fb : FO} {σ : St} {F H : Hp} {A : List Addr} {ρ : Ev} {Q : VK}
    (sa : ∀ σ F H A ρ Q, At X T F H ρ σ A → Post X.K T W σ F H A (fa ρ) (fun o ρ' F' H' A' => ∀ v, RepS X.K F' H' ρ' σ A' → OpdR X.K F' σ o v → Q v H') → ta σ H Q)
    (sb : ∀ σ F H A ρ Q, At X T F H ρ σ A → Post X.K T W σ F H A (fb ρ) (fun o ρ' F' H' A' => ∀ v, RepS X.K F' H' ρ' σ A' → OpdR X.K F' σ o v → Q v H') → tb σ H Q)
    (a : At X T F H ρ σ A) (p : Post X.K T W σ F H A (c2 g fa fb ρ) (fun b ρ' F' H' A' => ∀ v, RepS X.K F' H' (b :: ρ') (some v :: σ) A' → Q v H')) : tOp r ta tb σ H Q := by
  refine sa σ F H A ρ _ a ?_
  refine p.bind.imp fun o ρ1 F1 H1 A1 g1 p1 v r1 o1 => ?_
  refine sb σ F1 H1 A1 ρ1 _ (a.next g1 r1) ?_
  refine p1.bind.imp fun o' ρ2 F2 H2 A2 g2 p2 v' r2 o2 => ?_
  simp only at p2
  cases q1 : rd ρ2 o with
  | none =>
    rw [q1] at p2
    exact False.elim p2
  | some d =>
    rw [q1] at p2
    simp only [ofO_some, ok_bind] at p2
    cases q2 : rd ρ2 o' with
    | none =>
      rw [q2] at p2
      exact False.elim p2
    | some d' =>
      rw [q2] at p2
      simp only [ofO_some, ok_bind] at p2
      cases q3 : g d d' with
      | none =>
        rw [q3] at p2
        exact False.elim p2
      | some b =>
        rw [q3] at p2
        exact hv F2 H2 A2 ρ2 σ d d' v v' b Q g2.sub r2 (rd_top g2.sub r2 (o1.mono g2.kF) q1) (rd_top g2.sub r2 o2 q2) q3 fun w F3 H3 A3 g3 r3 => p2.now g3 w r3
theorem de_op {op : Operator} {r : R2} {g : D → D → Option B} {a b : Expr} {fa fb : FO} {pos : Pos} (ho : ∀ i, OpR (X.at_ i) (binaryOp op) r) (hv : V2 X.K T r g) (ha : DO X T W a fa) (hb : DO X T W b fb) : DE X T W (.BinOp a op b pos) (c2 g fa fb) := by
  obtain ⟨ta, pa, sa⟩ := ha
  obtain ⟨tb, pb, sb⟩ := hb
  exact ⟨_, fun i => pe_op (ho i) (pa i) (pb i), fun σ F H A ρ Q at_ p => run2 hv sa sb at_ p⟩
theorem de_cmp {op : CmpOp} {r : R2} {g : D → D → Option B} {a b : Expr} {fa fb : FO} {pos : Pos} (ho : ∀ i, OpR (X.at_ i) (compareOp op) r) (hv : V2 X.K T r g) (ha : DO X T W a fa) (hb : DO X T W b fb) (hm : behindInMarks op b = false := by rfl) :
    DE X T W (.Compare a [op] [b] pos) (c2 g fa fb) := by
  obtain ⟨ta, pa, sa⟩ := ha
  obtain ⟨tb, pb, sb⟩ := hb
  exact ⟨_, fun i => pe_cmpR (ho i) (pa i) (pb i) hm, fun σ F H A ρ Q at_ p => run2 hv sa sb at_ p⟩
/-- a truth -/
def isB : B → Option Bool
  | .dat (.bl c) => some c
  | _ => none
def cT (f : FE) : FT := fun ρ => f ρ >>= fun p => ofO (isB p.1) >>= fun c => .ok (c, p.2)
theorem test_of {t : TE} {f : FE} {σ : St} {F H : Hp} {A : List Addr} {ρ : Ev} {Q : Bool → Hp → Prop} (s : ∀ σ F H A ρ Q, At X T F H ρ σ A → Post X.K T W σ F H A (f ρ) (fun b ρ' F' H' A' => ∀ v, RepS X.K F' H' (b :: ρ') (some v :: σ) A' → Q v H') → t σ H Q)
    (a : At X T F H ρ σ A) (p : Post X.K T W σ F H A (cT f ρ) (fun c ρ' F' H' A' => RepS X.K F' H' ρ' σ A' → Q c H')) : t σ H fun x H1 => ∃ c, x = .bl c ∧ Q c H1 := by
  refine s σ F H A ρ _ a ?_
  refine p.bind.imp fun b ρ1 F1 H1 A1 g p1 v r => ?_
  simp only at p1
  cases q : isB b with
  | none =>
    rw [q] at p1
    exact False.elim p1
  | some c =>
    rw [q] at p1
    have eb : b = .dat (.bl c) := by
      unfold isB at q
      split at q
      · cases q
        rfl
      · cases q
    subst eb
    obtain ⟨v', e1, z, r'⟩ := r.dat_inv
    cases e1
    unfold Rp at z
    exact ⟨c, z, p1.now (Go.refl g.sub) r'⟩
theorem dt_cmp {op : CmpOp} {r : R2} {g : D → D → Option B} {a b : Expr} {fa fb : FO} {pos : Pos} (ho : ∀ i, OpR (X.at_ i) (compareOp op) r) (hv : V2 X.K T r g) (ha : DO X T W a fa) (hb : DO X T W b fb) (hm : behindInMarks op b = false := by rfl) :
    DT X T W (.Compare a [op] [b] pos) (cT (c2 g fa fb)) := by
  obtain ⟨ta, pa, sa⟩ := ha
  obtain ⟨tb, pb, sb⟩ := hb
  exact ⟨_, fun i => pt_cmpR (ho i) (pa i) (pb i) hm, fun σ F H A ρ Q at_ p => test_of (fun σ F H A ρ Q at_ p => run2 hv sa sb at_ p) at_ p⟩
/-- a value that is a truth, as a test -/
theorem dt_val {e : Expr} {f : FE} (h : DE X T W e f) (he : ∀ i whole, isTrue e (X.at_ i).env whole = (do let v ← whole; standAt e.pos; holding [v] (truthy v)) := by intro _ _; rfl) : DT X T W e (cT f) := by
  obtain ⟨t, pe, s⟩ := h
  exact ⟨_, fun i => pt_val (pe i) (he i), fun σ F H A ρ Q at_ p => test_of s at_ p⟩
def cNotT (f : FT) : FT := fun ρ => f ρ >>= fun p => .ok (!p.1, p.2)
theorem dt_not {e : Expr} {f : FT} {pos : Pos} (h : DT X T W e f) : DT X T W (.UnaryOp .Not e pos) (cNotT f) := by
  obtain ⟨t, pt, s⟩ := h
  refine ⟨_, fun i => pt_not (pt i), fun σ F H A ρ Q a p => s σ F H A ρ _ a ?_⟩
  exact p.bind.imp fun c ρ1 F1 H1 A1 g p1 r => p1.now (Go.refl g.sub) r
def cAndT (f g : FT) : FT := fun ρ => f ρ >>= fun p => if p.1 = true then g p.2 else .ok (false, p.2)
def cOrT (f g : FT) : FT := fun ρ => f ρ >>= fun p => if p.1 = true then .ok (true, p.2) else g p.2
theorem dw_and1 {e : Expr} {f : FT} {pos : Pos} (h : DT X T W e f) : DW X T W (.BoolOp .And [e] pos) f := by
  obtain ⟨t, pt, s⟩ := h
  exact ⟨_, fun i => pw_and1 (pt i), s⟩
theorem dw_or1 {e : Expr} {f : FT} {pos : Pos} (h : DT X T W e f) : DW X T W (.BoolOp .Or [e] pos) f := by
  obtain ⟨t, pt, s⟩ := h
  exact ⟨_, fun i => pw_or1 (pt i), s⟩
theorem dw_and {a b : Expr} {es : List Expr} {f g : FT} {pos : Pos} (h : DT X T W a f) (k : DW X T W (.BoolOp .And (b :: es) pos) g) : DW X T W (.BoolOp .And (a :: b :: es) pos) (cAndT f g) := by
  obtain ⟨t, pt, s⟩ := h
  obtain ⟨u, pu, s2⟩ := k
  refine ⟨_, fun i => pw_and (pt i) (pu i), fun σ F H A ρ Q a p => s σ F H A ρ _ a ?_⟩
  refine p.bind.imp fun c ρ1 F1 H1 A1 g1 p1 r => ?_
  cases c with
  | true => exact iteT (s2 σ F1 H1 A1 ρ1 Q (a.next g1 r) p1)
  | false => exact iteF (p1.now (Go.refl g1.sub) r)
theorem dw_or {a b : Expr} {es : List Expr} {f g : FT} {pos : Pos} (h : DT X T W a f) (k : DW X T W (.BoolOp .Or (b :: es) pos) g) : DW X T W (.BoolOp .Or (a :: b :: es) pos) (cOrT f g) := by
  obtain ⟨t, pt, s⟩ := h
  obtain ⟨u, pu, s2⟩ := k
  refine ⟨_, fun i => pw_or (pt i) (pu i), fun σ F H A ρ Q a p => s σ F H A ρ _ a ?_⟩
  refine p.bind.imp fun c ρ1 F1 H1 A1 g1 p1 r => ?_
  cases c with
  | true => exact iteT (p1.now (Go.refl g1.sub) r)
  | false => exact iteF (s2 σ F1 H1 A1 ρ1 Q (a.next g1 r) p1)
theorem dt_w {e : Expr} {f : FT} (h : DW X T W e f) : DT X T W e f := by
  obtain ⟨t, pt, s⟩ := h
  exact ⟨_, fun i => (pt i).pt, s⟩
/-- and, or, not as values -/
def cAndV (f g : FE) : FE := fun ρ => f ρ >>= fun p => ofO (isB p.1) >>= fun c => if c = true then g p.2 else .ok (.dat (.bl false), p.2)
def cOrV (f g : FE) : FE := fun ρ => f ρ >>= fun p => ofO (isB p.1) >>= fun c => if c = true then .ok (.dat (.bl true), p.2) else g p.2
def cNotV (f : FE) : FE := fun ρ => f ρ >>= fun p => ofO (isB p.1) >>= fun c => .ok (.dat (.bl (!c)), p.2)
theorem isB_of {b : B} {c : Bool} (q : isB b = some c) : b = .dat (.bl c) := by
  unfold isB at q
  split at q
  · cases q
    rfl
  · cases q
theorem de_one {op : BoolOp} {e : Expr} {f : FE} {pos : Pos} (h : DE X T W e f) : DE X T W (.BoolOp op [e] pos) f := by
  obtain ⟨t, pe, s⟩ := h
  exact ⟨_, fun i => pe_one (pe i), s⟩
theorem de_and {a b : Expr} {es : List Expr} {f g : FE} {pos : Pos} (h : DE X T W a f) (k : DE X T W (.BoolOp .And (b :: es) pos) g) : DE X T W (.BoolOp .And (a :: b :: es) pos) (cAndV f g) := by
  obtain ⟨t, pt, s⟩ := h
  obtain ⟨u, pu, s2⟩ := k
  refine ⟨_, fun i => pe_and (pt i) (pu i), fun σ F H A ρ Q a p => s σ F H A ρ _ a ?_⟩
  refine p.bind.imp fun b ρ1 F1 H1 A1 g1 p1 v r => ?_
  simp only at p1
  cases q : isB b with
  | none =>
    rw [q] at p1
    exact False.elim p1
  | some c =>
    rw [q] at p1
    cases isB_of q
    obtain ⟨v', e1, z, r'⟩ := r.dat_inv
    cases e1
    unfold Rp at z
    refine ⟨c, z, ?_⟩
    cases c with
    | true => exact iteT (s2 σ F1 H1 A1 ρ1 Q (a.next g1 r') p1)
    | false => exact iteF (p1.now (Go.refl g1.sub) (.bl false) (r'.dat rp_bl))
theorem de_not {a : Expr} {f : FE} {pos : Pos} (h : DE X T W a f) : DE X T W (.UnaryOp .Not a pos) (cNotV f) := by
  obtain ⟨t, pt, s⟩ := h
  refine ⟨_, fun i => pe_not (pt i), fun σ F H A ρ Q a p => s σ F H A ρ _ a ?_⟩
  refine p.bind.imp fun b ρ1 F1 H1 A1 g1 p1 v r => ?_
  simp only at p1
  cases q : isB b with
  | none =>
    rw [q] at p1
    exact False.elim p1
  | some c =>
    rw [q] at p1
    cases isB_of q
    obtain ⟨v', e1, z, r'⟩ := r.dat_inv
    cases e1
    unfold Rp at z
    exact ⟨c, z, p1.now (Go.refl g1.sub) (.bl (!c)) (r'.dat rp_bl)⟩
def cIfE (c : FT) (f g : FE) : FE := fun ρ => c ρ >>= fun p => if p.1 = true then f p.2 else g p.2
/-- a < b < c -/
def cChain (g g' : D → D → Option B) (fa fb fc : FO) : FE := fun ρ => fa ρ >>= fun p => fb p.2 >>= fun q => ofO (rd q.2 p.1) >>= fun d => ofO (rd q.2 q.1) >>= fun d' => ofO (g d d') >>= fun b => ofO (isB b) >>= fun c =>
  if c = true then fc q.2 >>= fun u => ofO (rd u.2 q.1) >>= fun e => ofO (rd u.2 u.1) >>= fun e' => ofO (g' e e') >>= fun b => .ok (b, u.2) else .ok (.dat (.bl false), q.2)
end
end Dl
set_option Elab.async false
set_option linter.all false
set_option maxRecDepth 100000
set_option maxHeartbeats 1000000
namespace Dl
open PySem PySem.Spec L2
open PyProof.Rows hiding St
/-! ## lists whose items are alike, empty dicts among them -/
section
variable {P : Program} {w : World} {h : Heap} {a : Addr}
theorem dictOf_none {P' : Program} {w' : World} (q : h.DictOf (mixKind P w) a []) : h.DictOf (mixKind P' w') a [] := by
  obtain ⟨o, es, ep, ho, hx, hd, hk, hp, hn⟩ := q
  have hl : es.toList = [] := by
    have := Pairs.length hp
    exact List.length_eq_zero_iff.mp this
  have he : es = #[] := by
    apply Array.ext'
    rw [hl]
  subst he
  exact ⟨o, #[], ep, ho, hx, hd, fun e m => by simp at m, .nil, hn⟩
end
/-- two items that are alike -/
def ElE (K : PySem.W.Frag) (H : Hp) (x y : V) : Prop := (∃ d e, Dp K H x d ∧ Dp K H y e ∧ SeqAt.shaped d = true ∧ SeqAt.shaped e = true ∧ PyData.eqv d e = true) ∨ ∃ a b, x = .ref a ∧ y = .ref b ∧ Rd H a (.dK []) ∧ Rd H b (.dK [])
section
variable {X : Cx} {pins : List (Addr × Obj)} {σ : L2.St} {H : Hp} {s : Shared}
theorem elE_run (I : Inv X pins σ H s) {A : Around} (hu : A.units + 64 < cLine) {x y : V} {v u : Value} (h : ElE X.K H x y) (rx : RelV x v) (ry : RelV y u) : SeqAt.EqAt A s v u true := by
  rcases h with ⟨d, e, h1, h2, s1, s2, q⟩ | ⟨a, b, rfl, rfl, ha, hb⟩
  · obtain ⟨as, r1⟩ := Dp.reads I d x v h1 rx
    obtain ⟨bs, r2⟩ := Dp.reads I e y u h2 ry
    have := SeqAt.eqAt_reads d e A s v u as bs r1 r2 (SeqAt.canLay_of_shaped s1) (SeqAt.canLay_of_shaped s2) (SeqAt.room_of_shaped s1 hu)
    rw [q] at this
    exact this
  · cases (show v = Value.ref a from rx)
    cases (show u = Value.ref b from ry)
    by_cases e : a = b
    · subst e
      exact SeqAt.EqAt.same _
    · obtain ⟨_, ya, va, ra, da⟩ := (show ObjOk X.prog X.w H s.heap a (.dK []) from ha.ok I.hok)
      obtain ⟨_, yb, vb, rb, db⟩ := (show ObjOk X.prog X.w H s.heap b (.dK []) from hb.ok I.hok)
      have la := ra.length
      have lb := rb.length
      have ea : va = [] := List.length_eq_zero_iff.mp la.symm
      have eb : vb = [] := List.length_eq_zero_iff.mp lb.symm
      subst ea eb
      exact fun prog w E Q hq => SeqAt.eqP_refs (k := true) e (fun E' Q' q => PySem.W.rcP_dicts (knd := mixKind prog w) (r := true) ya yb (dictOf_none da) (dictOf_none db) (by omega) (fun _ => .nil) E' Q' (by simpa using q)) E Q hq
def rEqE (K : PySem.W.Frag) (k : Bool) : R2 := fun x y H Q => ∃ a b xs ys, x = .ref a ∧ y = .ref b ∧ SqL K H a xs ∧ SqL K H b ys ∧ Paired (ElE K H) xs ys ∧ Q (.bl k) H
theorem elE_all (I : Inv X pins σ H s) {A : Around} (hu : A.units + 64 < cLine) {xs ys : List V} (hp : Paired (ElE X.K H) xs ys) :
    ∀ {us ws : List Value}, Vals xs us → Vals ys ws → ∀ j (h1 : j < us.length) (h2 : j < ws.length), SeqAt.EqAt A s us[j] ws[j] true := by
  induction hp with
  | nil =>
    intro us ws r1 r2 j h1 h2
    cases r1
    exact absurd h1 (Nat.not_lt_zero j)
  | cons q _ ih =>
    intro us ws r1 r2 j h1 h2
    cases r1 with
    | cons a1 b1 =>
      cases r2 with
      | cons a2 b2 =>
        cases j with
        | zero => exact elE_run I hu q a1 a2
        | succ j => exact ih b1 b2 j (Nat.lt_of_succ_lt_succ h1) (Nat.lt_of_succ_lt_succ h2)
theorem op_eqE (hu : X.A.units + 65 < cLine) : OpR X (compareOp .Eq) (rEqE X.K true) := by
  intro pins s σ H x y v u Q I rx ry h
  obtain ⟨a, b, xs, ys, rfl, rfl, ha, hb, hp, q⟩ := h
  cases (show v = Value.ref a from rx)
  cases (show u = Value.ref b from ry)
  obtain ⟨us, r1, p1, _⟩ := I.list ha
  obtain ⟨ws, r2, p2, _⟩ := I.list hb
  have hsz : us.toArray.size = ws.toArray.size := by
    rw [List.size_toArray, List.size_toArray, ← r1.length, ← r2.length]
    exact Paired.length hp
  refine SeqAt.RcAt.lists (e := fun _ => true) p1.isList p2.isList hsz (by omega) (fun j h1 h2 => ?_) X.prog X.w _ _ ?_
  · have k := elE_all I (A := X.A.in1) (by show X.A.units + 1 + 64 < cLine; omega) hp r1 r2 j (by simpa using h1) (by simpa using h2)
    simpa using k
  · rw [show ((List.range us.toArray.size).all fun _ => true) = true from List.all_eq_true.mpr fun _ _ => rfl]
    exact ⟨.bl true, H, I, rfl, q⟩
theorem op_neE (hu : X.A.units + 65 < cLine) : OpR X (compareOp .NotEq) (rEqE X.K false) := by
  intro pins s σ H x y v u Q I rx ry h
  obtain ⟨a, b, xs, ys, rfl, rfl, ha, hb, hp, q⟩ := h
  cases (show v = Value.ref a from rx)
  cases (show u = Value.ref b from ry)
  obtain ⟨us, r1, p1, _⟩ := I.list ha
  obtain ⟨ws, r2, p2, _⟩ := I.list hb
  have hsz : us.toArray.size = ws.toArray.size := by
    rw [List.size_toArray, List.size_toArray, ← r1.length, ← r2.length]
    exact Paired.length hp
  refine SeqAt.RcNeAt.lists (e := fun _ => true) p1.isList p2.isList hsz (by omega) (fun j h1 h2 => ?_) X.prog X.w _ _ ?_
  · have k := elE_all I (A := X.A.in1) (by show X.A.units + 1 + 64 < cLine; omega) hp r1 r2 j (by simpa using h1) (by simpa using h2)
    simpa using k
  · rw [show ((List.range us.toArray.size).all fun _ => true) = true from List.all_eq_true.mpr fun _ _ => rfl]
    exact ⟨.bl false, H, I, rfl, q⟩
/-- two lists of unlike lengths -/
def rLenNe (K : PySem.W.Frag) : R2 := fun x y H Q => ∃ a b xs ys, x = .ref a ∧ y = .ref b ∧ SqL K H a xs ∧ SqL K H b ys ∧ xs.length ≠ ys.length ∧ Q (.bl true) H
theorem op_neLen (hu : X.A.units + 65 < cLine) : OpR X (compareOp .NotEq) (rLenNe X.K) := by
  intro pins s σ H x y v u Q I rx ry h
  obtain ⟨a, b, xs, ys, rfl, rfl, ha, hb, hn, q⟩ := h
  cases (show v = Value.ref a from rx)
  cases (show u = Value.ref b from ry)
  obtain ⟨us, r1, p1, _⟩ := I.list ha
  obtain ⟨ws, r2, p2, _⟩ := I.list hb
  refine SeqAt.RcNeAt.lists_lengths p1.isList p2.isList ?_ (by omega) X.prog X.w _ _ ⟨.bl true, H, I, rfl, q⟩
  rw [List.size_toArray, List.size_toArray, ← r1.length, ← r2.length]
  simpa using hn
end
/-! ## a dict and a text -/
theorem str_eq_dict (b : Str) (u : Tok) (l : Addr) (es : Array DictEntry) (n : Nat) (dd : Option Addr) (sl : Array (Option Value)) :
    Meets (Builtin.«str.__eq__» ⟨[.str b u, .ref l], []⟩) (fun _ R s => s.heap.get? l = some { cls := .type "dict", dict := dd, data := .dict es n, slots := sl } ∧ R (.ok (.ret .notImplemented)) s) :=
  .of_wp fun prog w A R s h => by obtain ⟨hp, g, d, tk, os⟩ := s; obtain ⟨hl, h⟩ := h; wp_walk using wpAny_loadPart' hl, wpAny_load hl; exact ⟨_, rfl, h⟩
theorem str_ne_dict (b : Str) (u : Tok) (l : Addr) (es : Array DictEntry) (n : Nat) (dd : Option Addr) (sl : Array (Option Value)) :
    Meets (Builtin.«str.__ne__» ⟨[.str b u, .ref l], []⟩) (fun _ R s => s.heap.get? l = some { cls := .type "dict", dict := dd, data := .dict es n, slots := sl } ∧ R (.ok (.ret .notImplemented)) s) :=
  .of_wp fun prog w A R s h => by obtain ⟨hp, g, d, tk, os⟩ := s; obtain ⟨hl, h⟩ := h; wp_walk using wpAny_loadPart' hl, wpAny_load hl; exact ⟨_, rfl, h⟩
theorem dict_eq_str (b : Str) (u : Tok) (l : Addr) (es : Array DictEntry) (n : Nat) (dd : Option Addr) (sl : Array (Option Value)) :
    Meets (Builtin.«dict.__eq__» ⟨[.ref l, .str b u], []⟩) (fun _ R s => s.heap.get? l = some { cls := .type "dict", dict := dd, data := .dict es n, slots := sl } ∧ R (.ok (.ret .notImplemented)) s) :=
  .of_wp fun prog w A R s h => by
    obtain ⟨hl, h⟩ := h
    have ht : s.TypeIs (.ref l) "dict" := ⟨_, hl, rfl⟩
    show wpAny _ _ (Builtin.Dict.dictSlotArgs "__eq__" ⟨[.ref l, .str b u], []⟩ >>= _) _ _ s
    refine wpAny_bind ?_
    unfold Builtin.Dict.dictSlotArgs
    refine wpAny_bind (wpAny_notOrdered_dict ht ?_)
    show wpAny _ _ (pure (Value.ref l, Value.str b u)) _ _ s
    refine wpAny_pure ?_
    refine wpAny_bind (wpAny_isInstance (T := "str") (typeIs_str s b u) PySem.F.sub_str_dict ?_)
    simp only [Bool.not_false, if_true]
    refine wpAny_bind (wpAny_bind (wpAny_rule (wpAny_bind (wpAny_pure (wpAny_pure ?_)))))
    exact wpAny_pure ⟨_, rfl, h⟩
theorem dict_ne_str (b : Str) (u : Tok) (l : Addr) (es : Array DictEntry) (n : Nat) (dd : Option Addr) (sl : Array (Option Value)) :
    Meets (Builtin.«dict.__ne__» ⟨[.ref l, .str b u], []⟩) (fun _ R s => s.heap.get? l = some { cls := .type "dict", dict := dd, data := .dict es n, slots := sl } ∧ R (.ok (.ret .notImplemented)) s) :=
  .of_wp fun prog w A R s h => by
    obtain ⟨hl, h⟩ := h
    have ht : s.TypeIs (.ref l) "dict" := ⟨_, hl, rfl⟩
    show wpAny _ _ (Builtin.Dict.dictSlotArgs "__ne__" ⟨[.ref l, .str b u], []⟩ >>= _) _ _ s
    refine wpAny_bind ?_
    unfold Builtin.Dict.dictSlotArgs
    refine wpAny_bind (wpAny_notOrdered_dict ht ?_)
    show wpAny _ _ (pure (Value.ref l, Value.str b u)) _ _ s
    refine wpAny_pure ?_
    refine wpAny_bind (wpAny_isInstance (T := "str") (typeIs_str s b u) PySem.F.sub_str_dict ?_)
    simp only [Bool.not_false, if_true]
    refine wpAny_bind (wpAny_bind (wpAny_rule (wpAny_bind (wpAny_pure (wpAny_pure ?_)))))
    exact wpAny_pure ⟨_, rfl, h⟩
def rDS (k : Bool) : R2 := fun x y H Q => ∃ a kvs t, x = .ref a ∧ Rd H a (.dK kvs) ∧ y = .str t ∧ Q (.bl k) H
theorem op_eqDS {X : Cx} (hu : X.A.units < cLine) : OpR X (compareOp .Eq) (rDS false) := by
  intro pins s σ H x y v u Q I rx ry h
  obtain ⟨a, kvs, t, rfl, ha, rfl, q⟩ := h
  cases (show v = Value.ref a from rx)
  obtain ⟨tk, rfl⟩ : ∃ tk, u = .str t tk := ry
  obtain ⟨_, _, vs, _, o, es, ep, ho, hx, hd, _⟩ := dk_rd I.hok ha
  obtain ⟨cls, dd, data, sl⟩ := o
  have hc : cls = .type "dict" := hx.1
  have hd : data = .dict es ep := hd
  subst hc hd
  show wpAny _ _ (richCompare .Eq (.ref a) (.str t tk)) _ _ _
  exact SeqAt.rc_eq_decline_or (k := false) ⟨_, ho, rfl⟩ (typeIs_str s t tk) (by decide) F.sub_str_dict F.slot_dict_eq F.slot_str_eq_refl
    (fun _ hq => call_meets F.slot_dict_eq ⟨_, ho, rfl⟩ F.entry_dict_eq (F.args_dict_eq_2 _ _) (dict_eq_str t tk a es ep dd sl) ⟨ho, hq⟩)
    (fun _ hq => call_meets F.slot_str_eq_refl (typeIs_str s t tk) F.entry_str_eq (F.args_str_eq_2 _ _) (str_eq_dict t tk a es ep dd sl) ⟨ho, hq⟩)
    (fun _ hq => wpAny_of_eq (rfl : isSame (.ref a) (.str t tk) = pure false) hq) (.inr hu) ⟨.bl false, H, I, rfl, q⟩
theorem op_neDS {X : Cx} (hu : X.A.units < cLine) : OpR X (compareOp .NotEq) (rDS true) := by
  intro pins s σ H x y v u Q I rx ry h
  obtain ⟨a, kvs, t, rfl, ha, rfl, q⟩ := h
  cases (show v = Value.ref a from rx)
  obtain ⟨tk, rfl⟩ : ∃ tk, u = .str t tk := ry
  obtain ⟨_, _, vs, _, o, es, ep, ho, hx, hd, _⟩ := dk_rd I.hok ha
  obtain ⟨cls, dd, data, sl⟩ := o
  have hc : cls = .type "dict" := hx.1
  have hd : data = .dict es ep := hd
  subst hc hd
  show wpAny _ _ (richCompare .NotEq (.ref a) (.str t tk)) _ _ _
  exact SeqAt.rc_ne_decline_or (k := false) ⟨_, ho, rfl⟩ (typeIs_str s t tk) (by decide) F.sub_str_dict F.slot_dict_ne F.slot_str_ne_refl
    (fun _ hq => call_meets F.slot_dict_ne ⟨_, ho, rfl⟩ F.entry_dict_ne (F.args_dict_ne_2 _ _) (dict_ne_str t tk a es ep dd sl) ⟨ho, hq⟩)
    (fun _ hq => call_meets F.slot_str_ne_refl (typeIs_str s t tk) F.entry_str_ne (F.args_str_ne_2 _ _) (str_ne_dict t tk a es ep dd sl) ⟨ho, hq⟩)
    (fun _ hq => wpAny_of_eq (rfl : isSame (.ref a) (.str t tk) = pure false) hq) (.inr hu) ⟨.bl true, H, I, rfl, q⟩
/-! ## two texts, of any signs -/
def rSS (ne : Bool) : R2 := fun x y H Q => ∃ a b : Str, x = .str a ∧ y = .str b ∧ Q (.bl (if ne = true then !(a == b) else (a == b))) H
theorem op_eqSS {X : Cx} : OpR X (compareOp .Eq) (rSS false) := by
  intro pins s σ H x y v u Q I rx ry h
  obtain ⟨a, b, rfl, rfl, q⟩ := h
  obtain ⟨t, rfl⟩ : ∃ t, v = .str a t := rx
  obtain ⟨t', rfl⟩ : ∃ t, u = .str b t := ry
  exact SeqAt.RcAt.str_str a t b t' X.prog X.w _ _ ⟨.bl (a == b), H, I, rfl, q⟩
theorem op_neSS {X : Cx} : OpR X (compareOp .NotEq) (rSS true) := by
  intro pins s σ H x y v u Q I rx ry h
  obtain ⟨a, b, rfl, rfl, q⟩ := h
  obtain ⟨t, rfl⟩ : ∃ t, v = .str a t := rx
  obtain ⟨t', rfl⟩ : ∃ t, u = .str b t := ry
  exact SeqAt.RcNeAt.str_str a t b t' X.prog X.w _ _ ⟨.bl (!(a == b)), H, I, rfl, q⟩
end Dl
set_option Elab.async false
set_option linter.all false
set_option maxRecDepth 100000
namespace Dl
open PySem PySem.Spec L2
open PyProof.Rows hiding St
/-! ## what data are at the top -/
section
variable {K : PySem.W.Frag} {F H : Hp} {v : V}
theorem top_int {i : Int} (h : RpTop K F H (.int i) v) : v = .int i := by
  unfold RpTop at h
  unfold Rp at h
  exact h
theorem top_str {i : Str} (h : RpTop K F H (.str i) v) : v = .str i := by
  unfold RpTop at h
  unfold Rp at h
  exact h
theorem top_bl {i : Bool} (h : RpTop K F H (.bl i) v) : v = .bl i := by
  unfold RpTop at h
  unfold Rp at h
  exact h
theorem top_opq {w : V} (h : RpTop K F H (.opq w) v) : v = w := by
  unfold RpTop at h
  unfold Rp at h
  exact h
theorem top_lst {ds : List D} (h : RpTop K F H (.lst ds) v) : ∃ a xs, v = .ref a ∧ H a = some (.lst xs) ∧ RpL K F ds xs := h
theorem top_tup {ds : List D} (s : Sub F H) (h : RpTop K F H (.tup ds) v) : ∃ a xs, v = .ref a ∧ SqT K H a xs ∧ RpL K F ds xs := by
  unfold RpTop at h
  unfold Rp at h
  obtain ⟨a, xs, e, h1, h2⟩ := h
  exact ⟨a, xs, e, sqT_mono s h1, h2⟩
theorem top_tupF {ds : List D} (h : RpTop K F H (.tup ds) v) : Rp K F (.tup ds) v := h
theorem top_scr {ds : List D} (s : Sub F H) (h : RpTop K F H (.scr ds) v) : ∃ a xs, v = .ref a ∧ SqL K H a xs ∧ RpL K F ds xs := by
  unfold RpTop at h
  unfold Rp at h
  obtain ⟨a, xs, e, h1, h2⟩ := h
  exact ⟨a, xs, e, sqL_mono s h1, h2⟩
end
/-- the items of a list or a tuple -/
def seqOf : D → Option (List D)
  | .lst ds => some ds
  | .tup ds => some ds
  | .scr ds => some ds
  | _ => none
theorem top_seq {K : PySem.W.Frag} {F H : Hp} {v : V} {d : D} {ds : List D} (s : Sub F H) (h : RpTop K F H d v) (e : seqOf d = some ds) : ∃ a xs, v = .ref a ∧ (SqL K H a xs ∨ SqT K H a xs) ∧ RpL K F ds xs := by
  cases d <;> simp only [seqOf] at e <;> first
    | (cases e; obtain ⟨a, xs, e1, h1, h2⟩ := top_lst h; exact ⟨a, xs, e1, .inl (SqL.of h1), h2⟩)
    | (cases e; obtain ⟨a, xs, e1, h1, h2⟩ := top_tup s h; exact ⟨a, xs, e1, .inr h1, h2⟩)
    | (cases e; obtain ⟨a, xs, e1, h1, h2⟩ := top_scr s h; exact ⟨a, xs, e1, .inl h1, h2⟩)
    | cases e
def lstOf : D → Option (List D)
  | .lst ds => some ds
  | .scr ds => some ds
  | _ => none
theorem top_lstOf {K : PySem.W.Frag} {F H : Hp} {v : V} {d : D} {ds : List D} (s : Sub F H) (h : RpTop K F H d v) (e : lstOf d = some ds) : ∃ a xs, v = .ref a ∧ SqL K H a xs ∧ RpL K F ds xs := by
  cases d <;> simp only [lstOf] at e <;> first
    | (cases e; obtain ⟨a, xs, e1, h1, h2⟩ := top_lst h; exact ⟨a, xs, e1, SqL.of h1, h2⟩)
    | (cases e; obtain ⟨a, xs, e1, h1, h2⟩ := top_scr s h; exact ⟨a, xs, e1, h1, h2⟩)
    | cases e
/-! ## arithmetic -/
def rAddX (K : PySem.W.Frag) : R2 := fun x y H Q => (rI0 fun i j => .int (i + j)) x y H Q ∨ (∃ i j, x = .str i ∧ y = .str j ∧ i.length + j.length ≤ sizeLine ∧ Q (.str (i ++ j)) H) ∨ rCat x y H Q ∨ rCatA K x y H Q
def gAdd : D → D → Option B
  | .int i, .int j => some (.dat (.int (i + j)))
  | .str i, .str j => if i.length + j.length ≤ sizeLine then some (.dat (.str (i ++ j))) else none
  | .lst xs, .lst ys => if xs.length + ys.length ≤ sizeLine then some (.own (xs ++ ys)) else none
  | .tup xs, .tup ys => if xs.length + ys.length ≤ sizeLine then some (.dat (.tup (xs ++ ys))) else none
  | _, _ => none
section
variable {X : Fam} {K : PySem.W.Frag} {T : List (Addr × Str)}
theorem or_addX : ∀ i, OpR (X.at_ i) (binaryOp .Add) (rAddX X.K) := fun i => by
  rw [← X.hK i]
  exact op_add.or (op_add_str.or (op_cat.or op_catA))
theorem v2_add : V2 K T (rAddX K) gAdd := by
  intro F H A ρ σ d d' v v' b Q s r h h' e f
  unfold gAdd at e
  split at e
  · cases e
    exact .inl ⟨_, _, top_int h, top_int h', f.dat s r rp_int⟩
  · split at e
    · cases e
      rename_i hl
      exact .inr (.inl ⟨_, _, top_str h, top_str h', hl, f.dat s r rp_str⟩)
    · cases e
  · split at e
    · cases e
      rename_i hl
      obtain ⟨a, us, e1, h1, h2⟩ := top_lst h
      obtain ⟨a', us', e1', h1', h2'⟩ := top_lst h'
      exact .inr (.inr (.inl ⟨a, a', us, us', e1, e1', h1, h1', by rw [← h2.length, ← h2'.length]; exact hl, f.lst s r (h2.append h2')⟩))
    · cases e
  · split at e
    · cases e
      rename_i xs ys hl
      obtain ⟨a, us, e1, h1, h2⟩ := top_tup s h
      obtain ⟨a', us', e1', h1', h2'⟩ := top_tup s h'
      subst e1 e1'
      refine .inr (.inr (.inr ⟨a, a', us, us', rfl, rfl, h1, h1', by rw [← h2.length, ← h2'.length]; exact hl, fun z => ?_, fun z z' => ?_, fun _ _ => f.tup s r (h2.append h2')⟩))
      · subst z
        have q : xs = [] := List.length_eq_zero_iff.mp (by rw [h2.length]; rfl)
        subst q
        exact f.dat s r (top_tupF h')
      · subst z'
        have q : ys = [] := List.length_eq_zero_iff.mp (by rw [h2'.length]; rfl)
        subst q
        rw [List.append_nil] at f
        exact f.dat s r (top_tupF h)
    · cases e
  · cases e
def gSub : D → D → Option B
  | .int i, .int j => some (.dat (.int (i - j)))
  | _, _ => none
theorem v2_sub : V2 K T (rI0 fun i j => .int (i - j)) gSub := by
  intro F H A ρ σ d d' v v' b Q s r h h' e f
  unfold gSub at e
  split at e
  · cases e
    exact ⟨_, _, top_int h, top_int h', f.dat s r rp_int⟩
  · cases e
/-- a small factor -/
def small64 (i : Int) : Bool := decide (-(2 ^ 64) < i) && decide (i < 2 ^ 64)
theorem small64_iff {i : Int} (h : small64 i = true) : -(2 ^ 64) < i ∧ i < 2 ^ 64 := by
  unfold small64 at h
  rw [Bool.and_eq_true] at h
  exact ⟨of_decide_eq_true h.1, of_decide_eq_true h.2⟩
def rMulX : R2 := fun x y H Q => (rI CMul fun i j => .int (i * j)) x y H Q ∨ (rI CMulW fun i j => .int (i * j)) x y H Q ∨ rRep x y H Q
theorem or_mulX : ∀ i, OpR (X.at_ i) (binaryOp .Mult) rMulX := fun i => op_mul.or (op_mulW.or op_rep)
def gMul : D → D → Option B
  | .int i, .int j => if (small64 i || small64 j || decide (i.natAbs.log2 + j.natAbs.log2 < 1000000)) = true then some (.dat (.int (i * j))) else none
  | .lst xs, .int k => if (decide (k < 2 ^ 30) && decide (-(2 ^ 30) < k) && decide (xs.length * k.toNat ≤ sizeLine)) = true then some (.own (List.replicate k.toNat xs).flatten) else none
  | _, _ => none
theorem v2_mul : V2 K T rMulX gMul := by
  intro F H A ρ σ d d' v v' b Q s r h h' e f
  unfold gMul at e
  split at e
  · split at e
    · cases e
      rename_i i j c
      rw [Bool.or_eq_true, Bool.or_eq_true] at c
      rcases c with (c | c) | c
      · exact .inl ⟨_, _, top_int h, top_int h', .inl (small64_iff c), f.dat s r rp_int⟩
      · exact .inl ⟨_, _, top_int h, top_int h', .inr (small64_iff c), f.dat s r rp_int⟩
      · exact .inr (.inl ⟨_, _, top_int h, top_int h', (by unfold CMulW; exact of_decide_eq_true c), f.dat s r rp_int⟩)
    · cases e
  · split at e
    · cases e
      rename_i xs k c
      rw [Bool.and_eq_true, Bool.and_eq_true] at c
      obtain ⟨⟨c1, c2⟩, c3⟩ := c
      have c1 := of_decide_eq_true c1
      have c2 := of_decide_eq_true c2
      have c3 := of_decide_eq_true c3
      obtain ⟨a, us, e1, h1, h2⟩ := top_lst h
      exact .inr (.inr ⟨a, k, us, e1, top_int h', h1, by omega, by omega, by rw [← h2.length]; exact c3, f.lst s r (h2.replicate _)⟩)
    · cases e
  · cases e
def rDivX : R2 := fun x y H Q => (rI CDiv fun i j => .int (i / j)) x y H Q ∨ (rI CDivW fun i j => .int (i / j)) x y H Q
theorem or_divX : ∀ i, OpR (X.at_ i) (binaryOp .FloorDiv) rDivX := fun i => op_fdiv.or op_fdivW
def gDiv : D → D → Option B
  | .int i, .int j => if 0 < j ∧ (j < 1073741824 ∨ j.natAbs.log2 < 9000) then some (.dat (.int (i / j))) else none
  | _, _ => none
theorem v2_div : V2 K T rDivX gDiv := by
  intro F H A ρ σ d d' v v' b Q s r h h' e f
  unfold gDiv at e
  split at e
  · split at e
    · cases e
      rename_i c
      rcases c.2 with c2 | c2
      · exact .inl ⟨_, _, top_int h, top_int h', ⟨c.1, c2⟩, f.dat s r rp_int⟩
      · exact .inr ⟨_, _, top_int h, top_int h', ⟨c.1, c2⟩, f.dat s r rp_int⟩
    · cases e
  · cases e
def gMod : D → D → Option B
  | .int i, .int j => if 0 < j then some (.dat (.int (i % j))) else none
  | _, _ => none
theorem v2_mod : V2 K T (rI (fun _ j => 0 < j) fun i j => .int (i % j)) gMod := by
  intro F H A ρ σ d d' v v' b Q s r h h' e f
  unfold gMod at e
  split at e
  · split at e
    · cases e
      rename_i c
      exact ⟨_, _, top_int h, top_int h', c, f.dat s r rp_int⟩
    · cases e
  · cases e
def gPow : D → D → Option B
  | .int i, .int j => if 0 ≤ j ∧ j ≤ 1000000 ∧ i.natAbs < 2 ^ 64 then some (.dat (.int (i ^ j.toNat))) else none
  | _, _ => none
theorem v2_pow : V2 K T (rI CPow fun i j => .int (i ^ j.toNat)) gPow := by
  intro F H A ρ σ d d' v v' b Q s r h h' e f
  unfold gPow at e
  split at e
  · split at e
    · cases e
      rename_i c
      exact ⟨_, _, top_int h, top_int h', c, f.dat s r rp_int⟩
    · cases e
  · cases e
/-! comparisons of ints -/
def gCmp (p : Int → Int → Bool) : D → D → Option B
  | .int i, .int j => some (.dat (.bl (p i j)))
  | _, _ => none
theorem v2_cmp (p : Int → Int → Bool) : V2 K T (rI0 fun i j => .bl (p i j)) (gCmp p) := by
  intro F H A ρ σ d d' v v' b Q s r h h' e f
  unfold gCmp at e
  split at e
  · cases e
    exact ⟨_, _, top_int h, top_int h', f.dat s r rp_bl⟩
  · cases e
abbrev gLt := gCmp fun i j => decide (i < j)
abbrev gLe := gCmp fun i j => decide (i ≤ j)
abbrev gGt := gCmp fun i j => decide (j < i)
abbrev gGe := gCmp fun i j => decide (j ≤ i)
/-! ## equality -/
mutual
def py : D → PyData
  | .non => .none
  | .bl b => .bool b
  | .int i => .int i
  | .str s => .str s
  | .lst ds => .list (pyL ds)
  | .tup ds => .tuple (pyL ds)
  | .scr ds => .list (pyL ds)
  | _ => .dict []
def pyL : List D → List PyData
  | [] => []
  | d :: ds => py d :: pyL ds
end
mutual
theorem dp_of : ∀ (d : D) {v : V}, Rp K H d v → PyData.canLay0 (py d) = true → Dp K H v (py d)
  | .non, _, h, _ => by unfold Rp at h; subst h; unfold py; exact .non
  | .bl b, _, h, _ => by unfold Rp at h; subst h; unfold py; exact .bl b
  | .int b, _, h, _ => by unfold Rp at h; subst h; unfold py; exact .int b
  | .str b, _, h, _ => by unfold Rp at h; subst h; unfold py; exact .str b
  | .lst ds, _, h, c => by
    unfold Rp at h
    obtain ⟨a, xs, rfl, h1, h2⟩ := h
    unfold py at c ⊢
    exact .lst (SqL.of h1) (dpL_of ds h2 (by unfold PyData.canLay0 at c; exact c))
  | .tup ds, _, h, c => by
    unfold Rp at h
    obtain ⟨a, xs, rfl, h1, h2⟩ := h
    unfold py at c ⊢
    exact .tup h1 (dpL_of ds h2 (by unfold PyData.canLay0 at c; exact c))
  | .scr ds, _, h, c => by
    unfold Rp at h
    obtain ⟨a, xs, rfl, h1, h2⟩ := h
    unfold py at c ⊢
    exact .lst h1 (dpL_of ds h2 (by unfold PyData.canLay0 at c; exact c))
  | .dk _, _, _, c => by unfold py at c; unfold PyData.canLay0 at c; cases c
  | .dt _, _, _, c => by unfold py at c; unfold PyData.canLay0 at c; cases c
  | .ins _ _, _, _, c => by unfold py at c; unfold PyData.canLay0 at c; cases c
  | .opq _, _, _, c => by unfold py at c; unfold PyData.canLay0 at c; cases c
theorem dpL_of : ∀ (ds : List D) {vs : List V}, RpL K H ds vs → PyData.canLayAll0 (pyL ds) = true → DpAll K H vs (pyL ds)
  | [], _, h, _ => by rw [h.inv0]; unfold pyL; exact .nil
  | d :: ds, _, h, c => by
    obtain ⟨v, ws, rfl, h1, h2⟩ := h.inv
    unfold pyL at c ⊢
    unfold PyData.canLayAll0 at c
    rw [Bool.and_eq_true] at c
    exact .cons (dp_of d h1 c.1) (dpL_of ds h2 c.2)
end
def shp (d : D) : Bool := SeqAt.shaped (py d)
def eqD (d e : D) : Bool := PyData.eqv (py d) (py e)
theorem shp_dp {d : D} {v : V} (h : Rp K H d v) (c : shp d = true) : Dp K H v (py d) := dp_of d h (SeqAt.canLay_of_shaped c)
/-- two lists of unlike lengths, whatever they hold -/
def rEqLen (K : PySem.W.Frag) (k : Bool) : R2 := fun x y H Q => ∃ a b xs ys, x = .ref a ∧ y = .ref b ∧ SqL K H a xs ∧ SqL K H b ys ∧ xs.length ≠ ys.length ∧ Q (.bl k) H
theorem op_eqLen {X : Cx} (hu : X.A.units + 65 < cLine) : OpR X (compareOp .Eq) (rEqLen X.K false) := by
  intro pins s σ H x y v u Q I rx ry h
  obtain ⟨a, b, xs, ys, rfl, rfl, ha, hb, hn, q⟩ := h
  cases (show v = Value.ref a from rx)
  cases (show u = Value.ref b from ry)
  obtain ⟨us, r1, p1, _⟩ := I.list ha
  obtain ⟨ws, r2, p2, _⟩ := I.list hb
  refine SeqAt.eq_list_lengthsAt p1.isList p2.isList ?_ (by omega) ⟨.bl _, H, I, rfl, q⟩
  rw [List.size_toArray, List.size_toArray, ← r1.length, ← r2.length]
  simpa using hn
def rEqX (K : PySem.W.Frag) : R2 := fun x y H Q => rEqD K x y H Q ∨ (rEqLen K false x y H Q ∨ (rEqE K true x y H Q ∨ (rDS false x y H Q ∨ rSS false x y H Q)))
def rNeX (K : PySem.W.Frag) : R2 := fun x y H Q => rNeD K x y H Q ∨ (rLenNe K x y H Q ∨ (rEqE K false x y H Q ∨ (rDS true x y H Q ∨ rSS true x y H Q)))
def dk0 : D → Bool
  | .dk [] => true
  | _ => false
/-- two items that are alike -/
def eqEl (d e : D) : Bool := (dk0 d && dk0 e) || (shp d && shp e && eqD d e)
def eqEls : List D → List D → Bool
  | [], [] => true
  | d :: ds, e :: es => eqEl d e && eqEls ds es
  | _, _ => false
theorem dk0_rp {K : PySem.W.Frag} {F H : Hp} {d : D} {v : V} (s : Sub F H) (h : Rp K F d v) (c : dk0 d = true) : ∃ a, v = .ref a ∧ Rd H a (.dK []) := by
  cases d with
  | dk kvs =>
    cases kvs with
    | nil =>
      unfold Rp at h
      obtain ⟨a, ys, rfl, e, r⟩ := h
      unfold RpK at r
      rw [r] at e
      exact ⟨a, rfl, rd_mono s e⟩
    | cons _ _ => cases c
  | _ => cases c
theorem eqEls_paired {K : PySem.W.Frag} {F H : Hp} (s : Sub F H) : ∀ {ds es : List D} {xs ys : List V}, RpL K F ds xs → RpL K F es ys → eqEls ds es = true → Paired (ElE K H) xs ys
  | [], [], xs, ys, h, k, _ => by
    rw [h.inv0, k.inv0]
    exact .nil
  | [], _ :: _, _, _, _, _, c => by cases c
  | _ :: _, [], _, _, _, _, c => by cases c
  | d :: ds, e :: es, xs, ys, h, k, c => by
    obtain ⟨v, vs, rfl, h1, h2⟩ := h.inv
    obtain ⟨u, us, rfl, k1, k2⟩ := k.inv
    unfold eqEls at c
    rw [Bool.and_eq_true] at c
    refine .cons ?_ (eqEls_paired s h2 k2 c.2)
    have c1 := c.1
    unfold eqEl at c1
    rw [Bool.or_eq_true] at c1
    rcases c1 with q | q
    · rw [Bool.and_eq_true] at q
      obtain ⟨a, e1, e2⟩ := dk0_rp s h1 q.1
      obtain ⟨b, e3, e4⟩ := dk0_rp s k1 q.2
      exact .inr ⟨a, b, e1, e3, e2, e4⟩
    · rw [Bool.and_eq_true, Bool.and_eq_true] at q
      exact .inl ⟨_, _, shp_dp (Rp.mono s d h1) q.1.1, shp_dp (Rp.mono s e k1) q.1.2, q.1.1, q.1.2, q.2⟩
/-- a dict and a text -/
def dkStr : D → D → Bool
  | .dk _, .str _ => true
  | _, _ => false
def strStr : D → D → Option Bool
  | .str a, .str b => some (a == b)
  | _, _ => none
theorem strStr_top {K : PySem.W.Frag} {F H : Hp} {d e : D} {v u : V} {c : Bool} (h : RpTop K F H d v) (h' : RpTop K F H e u) (q : strStr d e = some c) : ∃ a b : Str, v = .str a ∧ u = .str b ∧ c = (a == b) := by
  cases d with
  | str a =>
    cases e with
    | str b =>
      cases q
      have q1 : Rp K F (.str a) v := h
      have q2 : Rp K F (.str b) u := h'
      unfold Rp at q1 q2
      exact ⟨a, b, q1, q2, rfl⟩
    | _ => cases q
  | _ => cases q
theorem dkStr_top {K : PySem.W.Frag} {F H : Hp} {d e : D} {v u : V} (h : RpTop K F H d v) (h' : RpTop K F H e u) (c : dkStr d e = true) : ∃ a kvs t, v = .ref a ∧ Rd H a (.dK kvs) ∧ u = .str t := by
  cases d with
  | dk ds =>
    cases e with
    | str t =>
      obtain ⟨a, xs, rfl, h1, _⟩ := h
      have q : Rp K F (.str t) u := h'
      unfold Rp at q
      exact ⟨a, xs, t, rfl, h1, q⟩
    | _ => cases c
  | _ => cases c
def gEq (d e : D) : Option B := if (shp d && shp e) = true then some (.dat (.bl (eqD d e))) else match lstOf d, lstOf e with
  | some xs, some ys => if xs.length = ys.length then (if eqEls xs ys = true then some (.dat (.bl true)) else none) else some (.dat (.bl false))
  | _, _ => if dkStr d e = true then some (.dat (.bl false)) else (strStr d e).map fun c => .dat (.bl c)
def gNe (d e : D) : Option B := if (shp d && shp e) = true then some (.dat (.bl (!eqD d e))) else match lstOf d, lstOf e with
  | some xs, some ys => if xs.length = ys.length then (if eqEls xs ys = true then some (.dat (.bl false)) else none) else some (.dat (.bl true))
  | _, _ => if dkStr d e = true then some (.dat (.bl true)) else (strStr d e).map fun c => .dat (.bl (!c))
theorem v2_eq : V2 K T (rEqX K) gEq := by
  intro F H A ρ σ d d' v v' b Q s r h h' e f
  unfold gEq at e
  split at e
  · cases e
    rename_i c
    rw [Bool.and_eq_true] at c
    exact .inl ⟨_, _, shp_dp (h.rp s) c.1, shp_dp (h'.rp s) c.2, c.1, c.2, f.dat s r rp_bl⟩
  · split at e
    · rename_i xs ys q1 q2
      obtain ⟨a, us, rfl, h1, h2⟩ := top_lstOf s h q1
      obtain ⟨a', us', rfl, h3, h4⟩ := top_lstOf s h' q2
      split at e
      · split at e
        · rename_i hc
          cases e
          exact .inr (.inr (.inl ⟨a, a', us, us', rfl, rfl, h1, h3, eqEls_paired s h2 h4 hc, f.dat s r rp_bl⟩))
        · cases e
      · rename_i hn
        cases e
        exact .inr (.inl ⟨a, a', us, us', rfl, rfl, h1, h3, by rw [← h2.length, ← h4.length]; exact hn, f.dat s r rp_bl⟩)
    · split at e
      · rename_i hc
        cases e
        obtain ⟨a, kvs, t, rfl, h1, rfl⟩ := dkStr_top h h' hc
        exact .inr (.inr (.inr (.inl ⟨a, kvs, t, rfl, h1, rfl, f.dat s r rp_bl⟩)))
      · cases q : strStr d d' with
        | none =>
          rw [q] at e
          cases e
        | some c =>
          rw [q] at e
          cases e
          obtain ⟨a, b, rfl, rfl, rfl⟩ := strStr_top h h' q
          exact .inr (.inr (.inr (.inr ⟨a, b, rfl, rfl, f.dat s r rp_bl⟩)))
theorem v2_ne : V2 K T (rNeX K) gNe := by
  intro F H A ρ σ d d' v v' b Q s r h h' e f
  unfold gNe at e
  split at e
  · cases e
    rename_i c
    rw [Bool.and_eq_true] at c
    exact .inl ⟨_, _, shp_dp (h.rp s) c.1, shp_dp (h'.rp s) c.2, c.1, c.2, f.dat s r rp_bl⟩
  · split at e
    · rename_i xs ys q1 q2
      obtain ⟨a, us, rfl, h1, h2⟩ := top_lstOf s h q1
      obtain ⟨a', us', rfl, h3, h4⟩ := top_lstOf s h' q2
      split at e
      · split at e
        · rename_i hc
          cases e
          exact .inr (.inr (.inl ⟨a, a', us, us', rfl, rfl, h1, h3, eqEls_paired s h2 h4 hc, f.dat s r rp_bl⟩))
        · cases e
      · rename_i hn
        cases e
        exact .inr (.inl ⟨a, a', us, us', rfl, rfl, h1, h3, by rw [← h2.length, ← h4.length]; exact hn, f.dat s r rp_bl⟩)
    · split at e
      · rename_i hc
        cases e
        obtain ⟨a, kvs, t, rfl, h1, rfl⟩ := dkStr_top h h' hc
        exact .inr (.inr (.inr (.inl ⟨a, kvs, t, rfl, h1, rfl, f.dat s r rp_bl⟩)))
      · cases q : strStr d d' with
        | none =>
          rw [q] at e
          cases e
        | some c =>
          rw [q] at e
          cases e
          obtain ⟨a, b, rfl, rfl, rfl⟩ := strStr_top h h' q
          exact .inr (.inr (.inr (.inr ⟨a, b, rfl, rfl, f.dat s r rp_bl⟩)))
/-! in a list, in a tuple -/
def rInTD (K : PySem.W.Frag) : R2 := fun x y H Q => ∃ d ds, Dp K H x d ∧ Dp K H y (.tuple ds) ∧ SeqAt.shaped d = true ∧ SeqAt.shaped (.tuple ds) = true ∧ Q (.bl (ds.any fun z => PyData.eqv z d)) H
def rNotInTD (K : PySem.W.Frag) : R2 := fun x y H Q => ∃ d ds, Dp K H x d ∧ Dp K H y (.tuple ds) ∧ SeqAt.shaped d = true ∧ SeqAt.shaped (.tuple ds) = true ∧ Q (.bl (!ds.any fun z => PyData.eqv z d)) H
theorem room_inT {A : Around} {d : PyData} {ds : List PyData} (sd : SeqAt.shaped d = true) (hu : A.units + 65 < cLine) : A.units + 1 + min (PyData.depthAll ds) d.depth < cLine := by
  have h1 := SeqAt.depth_of_shaped sd
  have h2 : min (PyData.depthAll ds) d.depth ≤ d.depth := Nat.min_le_right _ _
  omega
theorem op_inTD {X : Cx} (hu : X.A.units + 65 < cLine) : OpR X (compareOp .In) (rInTD X.K) := by
  intro pins s σ H x y v u Q I rx ry h
  obtain ⟨d, ds, hd, he, sd, se, q⟩ := h
  obtain ⟨as, r1⟩ := Dp.reads I d x v hd rx
  obtain ⟨bs, r2⟩ := Dp.reads I (.tuple ds) y u he ry
  exact SeqAt.in_tuple_reads r2 r1 (SeqAt.canLay_of_shaped se) (SeqAt.canLay_of_shaped sd) (room_inT sd hu) ⟨.bl _, H, I, rfl, q⟩
theorem op_notInTD {X : Cx} (hu : X.A.units + 65 < cLine) : OpR X (compareOp .NotIn) (rNotInTD X.K) := by
  intro pins s σ H x y v u Q I rx ry h
  obtain ⟨d, ds, hd, he, sd, se, q⟩ := h
  obtain ⟨as, r1⟩ := Dp.reads I d x v hd rx
  obtain ⟨bs, r2⟩ := Dp.reads I (.tuple ds) y u he ry
  exact SeqAt.notIn_tuple_reads r2 r1 (SeqAt.canLay_of_shaped se) (SeqAt.canLay_of_shaped sd) (room_inT sd hu) ⟨.bl _, H, I, rfl, q⟩
def inD (d : D) (ds : List D) : Bool := ds.any fun z => eqD z d
theorem any_py (d : D) : ∀ ds : List D, ((pyL ds).any fun z => PyData.eqv z (py d)) = inD d ds
  | [] => by unfold pyL; rfl
  | e :: ds => by
    unfold pyL inD
    rw [List.any_cons, List.any_cons, any_py d ds]
    rfl
def rInX (K : PySem.W.Frag) : R2 := fun x y H Q => rInD K x y H Q ∨ rInTD K x y H Q
def rNotInX (K : PySem.W.Frag) : R2 := fun x y H Q => rNotInD K x y H Q ∨ rNotInTD K x y H Q
theorem or_inX (hu : ∀ i, (X.at_ i).A.units + 65 < cLine) : ∀ i, OpR (X.at_ i) (compareOp .In) (rInX X.K) := fun i => by
  rw [← X.hK i]
  exact (op_inD (hu i)).or (op_inTD (hu i))
theorem or_notInX (hu : ∀ i, (X.at_ i).A.units + 65 < cLine) : ∀ i, OpR (X.at_ i) (compareOp .NotIn) (rNotInX X.K) := fun i => by
  rw [← X.hK i]
  exact (op_notInD (hu i)).or (op_notInTD (hu i))
theorem or_eq (hu : ∀ i, (X.at_ i).A.units + 65 < cLine) : ∀ i, OpR (X.at_ i) (compareOp .Eq) (rEqX X.K) := fun i => by
  rw [← X.hK i]
  exact (op_eqD (Nat.lt_of_succ_lt (hu i))).or ((op_eqLen (hu i)).or ((op_eqE (hu i)).or ((op_eqDS (by have := hu i; omega)).or op_eqSS)))
theorem or_ne (hu : ∀ i, (X.at_ i).A.units + 65 < cLine) : ∀ i, OpR (X.at_ i) (compareOp .NotEq) (rNeX X.K) := fun i => by
  rw [← X.hK i]
  exact (op_neD (Nat.lt_of_succ_lt (hu i))).or ((op_neLen (hu i)).or ((op_neE (hu i)).or ((op_neDS (by have := hu i; omega)).or op_neSS)))
def gIn (d c : D) : Option B := match seqOf c with
  | some ds => if (shp d && shp c) = true then some (.dat (.bl (inD d ds))) else none
  | none => none
def gNotIn (d c : D) : Option B := match seqOf c with
  | some ds => if (shp d && shp c) = true then some (.dat (.bl (!inD d ds))) else none
  | none => none
theorem v2_in : V2 K T (rInX K) gIn := by
  intro F H A ρ σ d d' v v' b Q s r h h' e f
  unfold gIn at e
  cases q : seqOf d' with
  | none => rw [q] at e; cases e
  | some ds =>
    rw [q] at e
    simp only at e
    split at e
    · cases e
      rename_i c
      rw [Bool.and_eq_true] at c
      have k := shp_dp (h'.rp s) c.2
      have c2 := c.2
      unfold shp at c2
      have q1 := f.dat s r rp_bl
      rw [← any_py] at q1
      cases d' <;> simp only [seqOf] at q <;> first
        | (cases q; unfold py at k c2; exact .inl ⟨_, _, shp_dp (h.rp s) c.1, k, c.1, c2, q1⟩)
        | (cases q; unfold py at k c2; exact .inr ⟨_, _, shp_dp (h.rp s) c.1, k, c.1, c2, q1⟩)
        | cases q
    · cases e
theorem v2_notIn : V2 K T (rNotInX K) gNotIn := by
  intro F H A ρ σ d d' v v' b Q s r h h' e f
  unfold gNotIn at e
  cases q : seqOf d' with
  | none => rw [q] at e; cases e
  | some ds =>
    rw [q] at e
    simp only at e
    split at e
    · cases e
      rename_i c
      rw [Bool.and_eq_true] at c
      have k := shp_dp (h'.rp s) c.2
      have c2 := c.2
      unfold shp at c2
      have q1 := f.dat s r rp_bl
      rw [← any_py] at q1
      cases d' <;> simp only [seqOf] at q <;> first
        | (cases q; unfold py at k c2; exact .inl ⟨_, _, shp_dp (h.rp s) c.1, k, c.1, c2, q1⟩)
        | (cases q; unfold py at k c2; exact .inr ⟨_, _, shp_dp (h.rp s) c.1, k, c.1, c2, q1⟩)
        | cases q
    · cases e
/-! is None -/
def c1 (g : D → Option B) (f : FO) : FE := fun ρ => f ρ >>= fun p => ofO (rd p.2 p.1) >>= fun d => ofO (g d) >>= fun b => .ok (b, p.2)
theorem run1 {W : WX} {r : V → Hp → VK → Prop} {g : D → Option B} (hv : V1 X.K T r g) {ta : TE} {fa : FO} {σ : St} {F H : Hp} {A : List Addr} {ρ : Ev} {Q : VK}
    (sa : ∀ σ F H A ρ Q, At X T F H ρ σ A → Post X.K T W σ F H A (fa ρ) (fun o ρ' F' H' A' => ∀ v, RepS X.K F' H' ρ' σ A' → OpdR X.K F' σ o v → Q v H') → ta σ H Q)
    (a : At X T F H ρ σ A) (p : Post X.K T W σ F H A (c1 g fa ρ) (fun b ρ' F' H' A' => ∀ v, RepS X.K F' H' (b :: ρ') (some v :: σ) A' → Q v H')) : ta σ H fun x H1 => r x H1 Q := by
  refine sa σ F H A ρ _ a ?_
  refine p.bind.imp fun o ρ1 F1 H1 A1 g1 p1 v r1 o1 => ?_
  simp only at p1
  cases q1 : rd ρ1 o with
  | none =>
    rw [q1] at p1
    exact False.elim p1
  | some d =>
    rw [q1] at p1
    simp only [ofO_some, ok_bind] at p1
    cases q3 : g d with
    | none =>
      rw [q3] at p1
      exact False.elim p1
    | some b =>
      rw [q3] at p1
      exact hv F1 H1 A1 ρ1 σ d v b Q g1.sub r1 (rd_top g1.sub r1 o1 q1) q3 fun w F3 H3 A3 g3 r3 => p1.now g3 w r3
end
section
variable {X : Fam} {T : List (Addr × Str)} {W : WX}
def gNeg : D → Option B
  | .int i => some (.dat (.int (-i)))
  | _ => none
theorem de_neg {e : Expr} {f : FO} {pos} (h : DO X T W e f) : DE X T W (.UnaryOp .USub e pos) (c1 gNeg f) := by
  obtain ⟨t, pe, s⟩ := h
  refine ⟨_, fun i => pe_un un_neg (pe i), fun σ F H A ρ Q a p => run1 (r := rU fun i => .int (-i)) ?_ s a p⟩
  intro F H A ρ σ d v b Q s r h e f
  unfold gNeg at e
  split at e
  · cases e
    exact ⟨_, top_int h, f.dat s r rp_int⟩
  · cases e
/-! ## a < b < c -/
theorem runChain {r r' : R2} {g g' : D → D → Option B} (hv : V2 X.K T r g) (hv' : V2 X.K T r' g') {ta tb tc : TE} {fa fb fc : FO} {σ : St} {F H : Hp} {A : List Addr} {ρ : Ev} {Q : VK}
    (sa : ∀ σ F H A ρ Q, At X T F H ρ σ A → Post X.K T W σ F H A (fa ρ) (fun o ρ' F' H' A' => ∀ v, RepS X.K F' H' ρ' σ A' → OpdR X.K F' σ o v → Q v H') → ta σ H Q)
    (sb : ∀ σ F H A ρ Q, At X T F H ρ σ A → Post X.K T W σ F H A (fb ρ) (fun o ρ' F' H' A' => ∀ v, RepS X.K F' H' ρ' σ A' → OpdR X.K F' σ o v → Q v H') → tb σ H Q)
    (sc : ∀ σ F H A ρ Q, At X T F H ρ σ A → Post X.K T W σ F H A (fc ρ) (fun o ρ' F' H' A' => ∀ v, RepS X.K F' H' ρ' σ A' → OpdR X.K F' σ o v → Q v H') → tc σ H Q)
    (a : At X T F H ρ σ A) (p : Post X.K T W σ F H A (cChain g g' fa fb fc ρ) (fun b ρ' F' H' A' => ∀ v, RepS X.K F' H' (b :: ρ') (some v :: σ) A' → Q v H')) : tChain r r' ta tb tc σ H Q := by
  refine sa σ F H A ρ _ a ?_
  refine p.bind.imp fun o ρ1 F1 H1 A1 g1 p1 v r1 o1 => ?_
  refine sb σ F1 H1 A1 ρ1 _ (a.next g1 r1) ?_
  refine p1.bind.imp fun o' ρ2 F2 H2 A2 g2 p2 v' r2 o2 => ?_
  have at2 : At X T F2 H2 ρ2 σ A2 := (a.next g1 r1).next g2 r2
  simp only at p2
  cases q1 : rd ρ2 o with
  | none =>
    rw [q1] at p2
    exact False.elim p2
  | some d =>
    rw [q1] at p2
    simp only [ofO_some, ok_bind] at p2
    cases q2 : rd ρ2 o' with
    | none =>
      rw [q2] at p2
      exact False.elim p2
    | some d' =>
      rw [q2] at p2
      simp only [ofO_some, ok_bind] at p2
      cases q3 : g d d' with
      | none =>
        rw [q3] at p2
        exact False.elim p2
      | some b =>
        rw [q3] at p2
        simp only [ofO_some, ok_bind] at p2
        refine hv F2 H2 A2 ρ2 σ d d' v v' b _ g2.sub r2 (rd_top g2.sub r2 (o1.mono g2.kF) q1) (rd_top g2.sub r2 o2 q2) q3 fun w F3 H3 A3 g3 r3 => ?_
        have p3 := p2.after g3
        clear p2
        cases qb : isB b with
        | none =>
          rw [qb] at p3
          exact False.elim p3
        | some c =>
          rw [qb] at p3
          simp only [ofO_some, ok_bind] at p3
          cases isB_of qb
          obtain ⟨w', e1, z, r4⟩ := r3.dat_inv
          cases e1
          unfold Rp at z
          refine ⟨c, z, ?_⟩
          cases c with
          | false => exact iteF (p3.now (Go.refl g3.sub) (.bl false) (r4.dat rp_bl))
          | true =>
            refine iteT ?_
            simp only [if_true] at p3
            refine sc σ F3 H3 A3 ρ2 _ (at2.next g3 r4) ?_
            refine p3.bind.imp fun o'' ρ5 F5 H5 A5 g5 p5 v'' r5 o5 => ?_
            simp only at p5
            cases q5 : rd ρ5 o' with
            | none =>
              rw [q5] at p5
              exact False.elim p5
            | some e =>
              rw [q5] at p5
              simp only [ofO_some, ok_bind] at p5
              cases q6 : rd ρ5 o'' with
              | none =>
                rw [q6] at p5
                exact False.elim p5
              | some e' =>
                rw [q6] at p5
                simp only [ofO_some, ok_bind] at p5
                cases q7 : g' e e' with
                | none =>
                  rw [q7] at p5
                  exact False.elim p5
                | some b' =>
                  rw [q7] at p5
                  exact hv' F5 H5 A5 ρ5 σ e e' v' v'' b' Q g5.sub r5 (rd_top g5.sub r5 (o2.mono (g3.kF.trans g5.kF)) q5) (rd_top g5.sub r5 o5 q6) q7 fun w F6 H6 A6 g6 r6 => p5.now g6 w r6
theorem de_chain {op op' : CmpOp} {r r' : R2} {g g' : D → D → Option B} {a b c : Expr} {fa fb fc : FO} {pos : Pos} (ho : ∀ i, OpR (X.at_ i) (compareOp op) r) (hv : V2 X.K T r g) (ho' : ∀ i, OpR (X.at_ i) (compareOp op') r') (hv' : V2 X.K T r' g') (ha : DO X T W a fa) (hb : DO X T W b fb) (hc : DO X T W c fc)
    (hm : lastMarks [op, op'] [b, c] = false := by with_unfolding_all rfl) : DE X T W (.Compare a [op, op'] [b, c] pos) (cChain g g' fa fb fc) := by
  obtain ⟨ta, pa, sa⟩ := ha
  obtain ⟨tb, pb, sb⟩ := hb
  obtain ⟨tc, pc, sc⟩ := hc
  exact ⟨_, fun i => pe_chain (ho i) (ho' i) (pa i) (pb i) (pc i) hm, fun σ F H A ρ Q a p => runChain hv hv' sa sb sc a p⟩
theorem dt_chain {op op' : CmpOp} {r r' : R2} {g g' : D → D → Option B} {a b c : Expr} {fa fb fc : FO} {pos : Pos} (ho : ∀ i, OpR (X.at_ i) (compareOp op) r) (hv : V2 X.K T r g) (ho' : ∀ i, OpR (X.at_ i) (compareOp op') r') (hv' : V2 X.K T r' g') (ha : DO X T W a fa) (hb : DO X T W b fb) (hc : DO X T W c fc)
    (hm : lastMarks [op, op'] [b, c] = false := by with_unfolding_all rfl) : DT X T W (.Compare a [op, op'] [b, c] pos) (cT (cChain g g' fa fb fc)) := by
  obtain ⟨ta, pa, sa⟩ := ha
  obtain ⟨tb, pb, sb⟩ := hb
  obtain ⟨tc, pc, sc⟩ := hc
  exact ⟨_, fun i => pt_chain (ho i) (ho' i) (pa i) (pb i) (pc i) hm, fun σ F H A ρ Q a p => test_of (fun σ F H A ρ Q a p => runChain hv hv' sa sb sc a p) a p⟩
/-! ## displays, subscripts, slices -/
def cTup (f : FA) : FE := fun ρ => f ρ >>= fun p => ofO (vals p.1) >>= fun ds => if ds.length ≤ sizeLine then .ok (.dat (.tup ds), p.2) else .stuck
where
  vals : List Opd → Option (List D)
    | [] => some []
    | .val d :: os => (vals os).map (d :: ·)
    | .var _ :: _ => none
abbrev vals := cTup.vals
theorem vals_rp {K : PySem.W.Frag} {F : Hp} {σ : St} : ∀ {os : List Opd} {vs : List V} {ds : List D}, Paired (OpdR K F σ) os vs → vals os = some ds → RpL K F ds vs
  | [], _, _, h, e => by
    cases h
    cases e
    exact .nil
  | .val d :: os, _, _, h, e => by
    cases h with
    | cons h1 h2 =>
      simp only [vals, cTup.vals] at e
      cases q : cTup.vals os with
      | none =>
        rw [q] at e
        cases e
      | some ds =>
        rw [q] at e
        cases e
        exact .cons h1 (vals_rp h2 q)
  | .var _ :: _, _, _, _, e => by cases e
theorem de_tup {es : List Expr} {f : FA} {k pos} (h : DA X T W es f) : DE X T W (.Tuple es k pos) (cTup f) := by
  obtain ⟨t, pa, s⟩ := h
  refine ⟨_, fun i => pe_tup (pa i), fun σ F H A ρ Q a p => s σ F H A ρ _ a ?_⟩
  refine p.bind.imp fun os ρ1 F1 H1 A1 g1 p1 vs r1 o1 => ?_
  simp only at p1
  cases q : cTup.vals os with
  | none =>
    rw [q] at p1
    exact False.elim p1
  | some ds =>
    rw [q] at p1
    simp only [ofO_some, ok_bind] at p1
    split at p1
    · rename_i hl
      have rl := vals_rp o1 q
      refine ⟨by rw [← rl.length]; exact hl, Fin.tup (K := X.K) (T := T) (A := A1) (ρ := ρ1) (σ := σ) (fun w F3 H3 A3 g3 r3 => p1.now g3 w r3) g1.sub r1 rl⟩
    · exact False.elim p1
def cLst (f : FA) : FE := fun ρ => f ρ >>= fun p => ofO (vals p.1) >>= fun ds => if ds.length ≤ sizeLine then .ok (.own ds, p.2) else .stuck
theorem de_lst {es : List Expr} {f : FA} {pos} (h : DA X T W es f) : DE X T W (.List es pos) (cLst f) := by
  obtain ⟨t, pa, s⟩ := h
  refine ⟨_, fun i => pe_lst (pa i), fun σ F H A ρ Q a p => s σ F H A ρ _ a ?_⟩
  refine p.bind.imp fun os ρ1 F1 H1 A1 g1 p1 vs r1 o1 => ?_
  simp only at p1
  cases q : cTup.vals os with
  | none =>
    rw [show vals os = cTup.vals os from rfl, q] at p1
    exact False.elim p1
  | some ds =>
    rw [show vals os = cTup.vals os from rfl, q] at p1
    simp only [ofO_some, ok_bind] at p1
    split at p1
    · rename_i hl
      have rl := vals_rp o1 q
      refine ⟨by rw [← rl.length]; exact hl, Fin.lst (K := X.K) (T := T) (A := A1) (ρ := ρ1) (σ := σ) (fun w F3 H3 A3 g3 r3 => p1.now g3 w r3) g1.sub r1 rl⟩
    · exact False.elim p1
/-- a[b] by a place -/
def gIx (d i : D) : Option B := match d, i with
  | .str z, .int k => if z.length ≤ sizeLine then (atI z.cps.toList k).map fun c => .dat (.str ⟨#[c]⟩) else none
  | d, .int k => match seqOf d with
    | some ds => (atI ds k).map .dat
    | none => none
  | _, _ => none
theorem atI_rp {K : PySem.W.Frag} {F : Hp} {ds : List D} {vs : List V} {k : Int} {d : D} (h : RpL K F ds vs) (e : atI ds k = some d) : ∃ v, atI vs k = some v ∧ Rp K F d v := by
  unfold atI at e ⊢
  rw [← h.length]
  cases q : ixN ds.length k with
  | none =>
    rw [q] at e
    cases e
  | some j =>
    rw [q] at e
    exact h.get e
abbrev rIxX (K : PySem.W.Frag) : R2 := fun x y H Q => rIxL K x y H Q ∨ rIxT K x y H Q ∨ rIxS x y H Q
theorem v2_ix {K : PySem.W.Frag} : V2 K T (rIxX K) gIx := by
  intro F H A ρ σ d d' v v' b Q s r h h' e f
  unfold gIx at e
  split at e
  · split at e
    · rename_i z k hl
      cases q : atI z.cps.toList k with
      | none =>
        rw [q] at e
        cases e
      | some c =>
        rw [q] at e
        cases e
        exact .inr (.inr ⟨z, k, c, top_str h, top_int h', hl, q, f.dat s r rp_str⟩)
    · cases e
  · rename_i k _
    cases q : seqOf d with
    | none =>
      rw [q] at e
      cases e
    | some ds =>
      rw [q] at e
      simp only at e
      obtain ⟨a, xs, e1, h1, h2⟩ := top_seq s h q
      cases q2 : atI ds k with
      | none =>
        rw [q2] at e
        cases e
      | some x =>
        rw [q2] at e
        cases e
        obtain ⟨u, e2, e3⟩ := atI_rp h2 q2
        rcases h1 with h1 | h1
        · exact .inl ⟨a, xs, k, u, e1, top_int h', h1, e2, f.dat s r e3⟩
        · exact .inr (.inl ⟨a, xs, k, u, e1, top_int h', h1, e2, f.dat s r e3⟩)
  · cases e
theorem or_ix : ∀ i, IxR (X.at_ i) (rIxX X.K) := fun i => by
  rw [← X.hK i]
  exact ix_list.or (ix_tup.or ix_str)
theorem de_ix {a b : Expr} {fa fb : FO} {pos : Pos} (ha : DO X T W a fa) (hb : DO X T W b fb) (hs : PlainIx b := by exact fun _ _ => rfl) : DE X T W (.Subscript a b pos) (c2 gIx fa fb) := by
  obtain ⟨ta, pa, sa⟩ := ha
  obtain ⟨tb, pb, sb⟩ := hb
  exact ⟨_, fun i => pe_ix (or_ix i) (pa i) (pb i) hs, fun σ F H A ρ Q at_ p => run2 v2_ix sa sb at_ p⟩
/-- a part of a slice -/
abbrev FP := Ev → R (Option Int × Ev)
def DP (X : Fam) (T : List (Addr × Str)) (W : WX) (e : Option Expr) (f : FP) : Prop := ∃ t, (∀ i, PO (X.at_ i) e t) ∧ ∀ σ F H A ρ Q, At X T F H ρ σ A →
  Post X.K T W σ F H A (f ρ) (fun o ρ' F' H' A' => RepS X.K F' H' ρ' σ A' → Q o H') → t σ H Q
def pNo : FP := fun ρ => .ok (none, ρ)
def intOf : D → Option Int
  | .int i => some i
  | _ => none
def pSo (f : FO) : FP := fun ρ => f ρ >>= fun p => ofO (rd p.2 p.1) >>= fun d => ofO (intOf d) >>= fun i => .ok (some i, p.2)
theorem dp_no : DP X T W none pNo := ⟨_, fun _ => po_none, fun σ F H A ρ Q a p => p.now (Go.refl a.sub) a.rep⟩
theorem intOf_some {d : D} {i : Int} (e : intOf d = some i) : d = .int i := by
  unfold intOf at e
  split at e
  · cases e
    rfl
  · cases e
theorem dp_so {e : Expr} {f : FO} (h : DO X T W e f) : DP X T W (some e) (pSo f) := by
  obtain ⟨t, pe, s⟩ := h
  refine ⟨_, fun i => po_some (pe i), fun σ F H A ρ Q a p => s σ F H A ρ _ a ?_⟩
  refine p.bind.imp fun o ρ1 F1 H1 A1 g1 p1 v r1 o1 => ?_
  simp only at p1
  cases q1 : rd ρ1 o with
  | none =>
    rw [q1] at p1
    exact False.elim p1
  | some d =>
    rw [q1] at p1
    simp only [ofO_some, ok_bind] at p1
    cases q2 : intOf d with
    | none =>
      rw [q2] at p1
      exact False.elim p1
    | some i =>
      rw [q2] at p1
      cases intOf_some q2
      exact ⟨i, top_int (rd_top g1.sub r1 o1 q1), p1.now (Go.refl g1.sub) r1⟩
def cutD (xs : List D) (lo hi : Option Int) : List D := (xs.drop (HT.sIx xs.length 0 lo)).take (HT.sIx xs.length xs.length hi - HT.sIx xs.length 0 lo)
theorem cut_rp {K : PySem.W.Frag} {F : Hp} {ds : List D} {vs : List V} (h : RpL K F ds vs) (lo hi : Option Int) : RpL K F (cutD ds lo hi) (cutV vs lo hi) := by
  unfold cutD cutV
  rw [h.length]
  exact (h.drop _).take _
def gSl (d : D) (lo hi : Option Int) : Option B := match d with
  | .lst ds => some (.own (cutD ds lo hi))
  | .scr ds => some (.own (cutD ds lo hi))
  | .tup ds => some (.dat (.tup (cutD ds lo hi)))
  | .str z => if z.length ≤ sizeLine then some (.dat (.str (cutS z lo hi))) else none
  | _ => none
abbrev rSlX (K : PySem.W.Frag) : V → Option Int → Option Int → Hp → VK → Prop := fun x lo hi H Q => rSlL K x lo hi H Q ∨ rSlA K x lo hi H Q ∨ rSlS x lo hi H Q
theorem or_sl : ∀ i, SlR (X.at_ i) (rSlX X.K) := fun i => by
  rw [← X.hK i]
  exact sl_list.or (sl_tupA.or sl_str)
def cSl (f : FO) (l u : FP) : FE := fun ρ => f ρ >>= fun p => l p.2 >>= fun q => u q.2 >>= fun w => ofO (rd w.2 p.1) >>= fun d => ofO (gSl d q.1 w.1) >>= fun b => .ok (b, w.2)
theorem cut_whole {α : Type} (xs : List α) (lo hi : Option Int) (h : HT.sIx xs.length 0 lo = 0 ∧ HT.sIx xs.length xs.length hi = xs.length) : (xs.drop (HT.sIx xs.length 0 lo)).take (HT.sIx xs.length xs.length hi - HT.sIx xs.length 0 lo) = xs := by
  rw [h.1, h.2]
  simp
theorem de_sl {e : Expr} {lo hi : Option Expr} {f : FO} {l u : FP} {pos p2 : Pos} (he : DO X T W e f) (hl : DP X T W lo l) (hu : DP X T W hi u) : DE X T W (.Subscript e (.Slice lo hi none p2) pos) (cSl f l u) := by
  obtain ⟨t, pe, s⟩ := he
  obtain ⟨tl, pl, sl⟩ := hl
  obtain ⟨tu, pu, su⟩ := hu
  refine ⟨_, fun i => pe_slice (or_sl i) (pe i) (pl i) (pu i), fun σ F H A ρ Q a p => s σ F H A ρ _ a ?_⟩
  refine p.bind.imp fun o ρ1 F1 H1 A1 g1 p1 v r1 o1 => ?_
  have at1 := a.next g1 r1
  refine sl σ F1 H1 A1 ρ1 _ at1 ?_
  refine p1.bind.imp fun lo' ρ2 F2 H2 A2 g2 p2 r2 => ?_
  have at2 := at1.next g2 r2
  refine su σ F2 H2 A2 ρ2 _ at2 ?_
  refine p2.bind.imp fun hi' ρ3 F3 H3 A3 g3 p3 r3 => ?_
  simp only at p3
  cases q1 : rd ρ3 o with
  | none =>
    rw [q1] at p3
    exact False.elim p3
  | some d =>
    rw [q1] at p3
    simp only [ofO_some, ok_bind] at p3
    have top := rd_top g3.sub r3 (o1.mono (g2.kF.trans g3.kF)) q1
    cases q3 : gSl d lo' hi' with
    | none =>
      rw [q3] at p3
      exact False.elim p3
    | some b =>
      rw [q3] at p3
      have fin : Fin X.K T F3 H3 A3 ρ3 σ b Q := fun w F6 H6 A6 g6 r6 => p3.now g6 w r6
      unfold gSl at q3
      split at q3
      · cases q3
        obtain ⟨x, xs, e1, h1, h2⟩ := top_lst top
        exact .inl ⟨x, xs, e1, SqL.of h1, fin.lst g3.sub r3 (cut_rp h2 _ _)⟩
      · cases q3
        obtain ⟨x, xs, e1, h1, h2⟩ := top_scr g3.sub top
        exact .inl ⟨x, xs, e1, h1, fin.lst g3.sub r3 (cut_rp h2 _ _)⟩
      · cases q3
        rename_i ds
        obtain ⟨x, xs, e1, h1, h2⟩ := top_tup g3.sub top
        subst e1
        refine .inr (.inl ⟨x, xs, rfl, h1, fun w => ?_, fun _ => fin.tup g3.sub r3 (cut_rp h2 _ _)⟩)
        have ew : cutD ds lo' hi' = ds := by
          unfold cutD
          exact cut_whole ds lo' hi' (by rw [h2.length]; exact w)
        rw [ew] at fin
        exact fin.dat g3.sub r3 (top_tupF top)
      · split at q3
        · cases q3
          rename_i z hl
          exact .inr (.inr ⟨z, top_str top, hl, fin.dat g3.sub r3 rp_str⟩)
        · cases q3
      · cases q3
end
end Dl
set_option Elab.async false
set_option linter.all false
set_option maxRecDepth 100000
namespace Dl
open PySem PySem.Spec L2
open PyProof.Rows hiding St
/-! ## statements -/
inductive Out where
  | nx (ρ : Ev)
  | rt (b : B) (ρ : Ev)
  | bk (ρ : Ev)
  | ct (ρ : Ev)
  | er (x : Exc) (ρ : Ev)
  | stuck
abbrev FS := Ev → Out
def R.out {α : Type} (r : R α) (f : α → Out) : Out := match r with
  | .ok a => f a
  | .err x ρ => .er x ρ
  | .stuck => .stuck
@[simp] theorem out_ok {α : Type} (a : α) (f : α → Out) : (R.ok a).out f = f a := rfl
@[simp] theorem out_err {α : Type} (x : Exc) (ρ : Ev) (f : α → Out) : (R.err x ρ : R α).out f = .er x ρ := rfl
@[simp] theorem out_stuck {α : Type} (f : α → Out) : (R.stuck : R α).out f = .stuck := rfl
def Out.then (o : Out) (g : FS) : Out := match o with
  | .nx ρ => g ρ
  | o => o
@[simp] theorem then_nx (ρ : Ev) (g : FS) : (Out.nx ρ).then g = g ρ := rfl
@[simp] theorem then_rt (b : B) (ρ : Ev) (g : FS) : (Out.rt b ρ).then g = .rt b ρ := rfl
@[simp] theorem then_bk (ρ : Ev) (g : FS) : (Out.bk ρ).then g = .bk ρ := rfl
@[simp] theorem then_ct (ρ : Ev) (g : FS) : (Out.ct ρ).then g = .ct ρ := rfl
@[simp] theorem then_er (x : Exc) (ρ : Ev) (g : FS) : (Out.er x ρ).then g = .er x ρ := rfl
@[simp] theorem then_stuck (g : FS) : Out.stuck.then g = .stuck := rfl
def Keep (P : List Nat) (σ σ' : St) : Prop := ∀ j ∈ P, σ'[j]? = σ[j]?
theorem Keep.refl (P : List Nat) (σ : St) : Keep P σ σ := fun _ _ => rfl
theorem Keep.trans {P : List Nat} {σ σ1 σ2 : St} (a : Keep P σ σ1) (b : Keep P σ1 σ2) : Keep P σ σ2 := fun j m => (b j m).trans (a j m)
theorem Keep.set {P : List Nat} {σ : St} {i : Nat} {sv : Option V} (h : i ∉ P) : Keep P σ (σ.set i sv) := fun j m => List.getElem?_set_ne (fun z => h (by rw [z]; exact m))
def PostS (K : PySem.W.Frag) (T : List (Addr × Str)) (W : WX) (P : List Nat) (σ : St) (F H : Hp) (A : List Addr) (o : Out) (D : Ends) : Prop := match o with
  | .nx ρ' => ∀ σ' F' H' A', Go T A F H A' F' H' → RepS K F' H' ρ' σ' A' → Keep P σ σ' → D.nx σ' H'
  | .rt b ρ' => ∀ v σ' F' H' A', Go T A F H A' F' H' → RepS K F' H' (b :: ρ') (some v :: σ') A' → Keep P σ σ' → D.rt v H'
  | .bk ρ' => ∀ σ' F' H' A', Go T A F H A' F' H' → RepS K F' H' ρ' σ' A' → Keep P σ σ' → D.bk σ' H'
  | .ct ρ' => ∀ σ' F' H' A', Go T A F H A' F' H' → RepS K F' H' ρ' σ' A' → Keep P σ σ' → D.ct σ' H'
  | .er x ρ' => ∀ σ' F' H' A' cls dd, Go T A F H A' F' H' → RepS K F' H' ρ' σ' A' → Keep P σ σ' → RepX K F' x cls dd → W cls dd σ' H'
  | .stuck => False
section
variable {K : PySem.W.Frag} {T : List (Addr × Str)} {W : WX} {P : List Nat} {σ σ1 : St} {F H F1 H1 : Hp} {A A1 : List Addr} {o : Out} {D D' : Ends}
theorem PostS.after (p : PostS K T W P σ F H A o D) (g : Go T A F H A1 F1 H1) (k : Keep P σ σ1) : PostS K T W P σ1 F1 H1 A1 o D := by
  cases o with
  | nx ρ' => exact fun σ' F' H' A' g' r k' => p σ' F' H' A' (g.trans g') r (k.trans k')
  | rt b ρ' => exact fun v σ' F' H' A' g' r k' => p v σ' F' H' A' (g.trans g') r (k.trans k')
  | bk ρ' => exact fun σ' F' H' A' g' r k' => p σ' F' H' A' (g.trans g') r (k.trans k')
  | ct ρ' => exact fun σ' F' H' A' g' r k' => p σ' F' H' A' (g.trans g') r (k.trans k')
  | er x ρ' => exact fun σ' F' H' A' cls dd g' r k' => p σ' F' H' A' cls dd (g.trans g') r (k.trans k')
  | stuck => exact p
theorem PostS.out {α : Type} {r : R (α × Ev)} {f : α × Ev → Out} (p : PostS K T W P σ F H A (r.out f) D) : Post K T W σ F H A r fun a ρ1 F1 H1 A1 => PostS K T W P σ F1 H1 A1 (f (a, ρ1)) D := by
  cases r with
  | ok a =>
    obtain ⟨a, ρ1⟩ := a
    exact fun F1 H1 A1 g => p.after g (Keep.refl P σ)
  | err x ρ' => exact fun F' H' A' cls dd g r => p σ F' H' A' cls dd g r (Keep.refl P σ)
  | stuck => exact p
theorem PostS.then' {g : FS} (p : PostS K T W P σ F H A (o.then g) D) {nx : St → Hp → Prop} (h : ∀ ρ' σ' F' H' A', o = .nx ρ' → Go T A F H A' F' H' → RepS K F' H' ρ' σ' A' → Keep P σ σ' → PostS K T W P σ' F' H' A' (g ρ') D → nx σ' H') : PostS K T W P σ F H A o { D with nx := nx } := by
  cases o with
  | nx ρ' => exact fun σ' F' H' A' g' r k' => h ρ' σ' F' H' A' rfl g' r k' (p.after g' k')
  | rt b ρ' => exact p
  | bk ρ' => exact p
  | ct ρ' => exact p
  | er x ρ' => exact p
  | stuck => exact p
theorem PostS.nowN {ρ' : Ev} (p : PostS K T W P σ F H A (.nx ρ') D) {σ' : St} {F' H' : Hp} {A' : List Addr} (g : Go T A F H A' F' H') (r : RepS K F' H' ρ' σ' A') (k : Keep P σ σ') : D.nx σ' H' := p σ' F' H' A' g r k
end
section
variable (X : Fam) (T : List (Addr × Str)) (W : WX) (P : List Nat)
def DS (s : Stmt) (g : FS) : Prop := ∃ t, (∀ i, PS (X.at_ i) s t) ∧ ((∀ i ∈ X.ps, i ∈ P) → ∀ σ F H A ρ D, At X T F H ρ σ A → PostS X.K T W P σ F H A (g ρ) D → t D σ H)
def DSs (s : List Stmt) (g : FS) : Prop := ∃ t, (∀ i, PSs (X.at_ i) s t) ∧ ((∀ i ∈ X.ps, i ∈ P) → ∀ σ F H A ρ D, At X T F H ρ σ A → PostS X.K T W P σ F H A (g ρ) D → t D σ H)
end
section
variable {X : Fam} {T : List (Addr × Str)} {W : WX} {P : List Nat}
def sNil : FS := fun ρ => .nx ρ
theorem dss_nil : DSs X T W P [] sNil := ⟨_, fun _ => pss_nil, fun hps σ F H A ρ D a p => p.nowN (Go.refl a.sub) a.rep (Keep.refl P σ)⟩
def sSeq (f g : FS) : FS := fun ρ => (f ρ).then g
theorem dss_cons {s : Stmt} {ss : List Stmt} {f g : FS} (h : DS X T W P s f) (k : DSs X T W P ss g) : DSs X T W P (s :: ss) (sSeq f g) := by
  obtain ⟨t, ps, s1⟩ := h
  obtain ⟨u, pss, s2⟩ := k
  refine ⟨_, fun i => pss_cons (ps i) (pss i), fun hps σ F H A ρ D a p => s1 hps σ F H A ρ _ a ?_⟩
  exact p.then' fun ρ' σ' F' H' A' _ g' r k' p' => s2 hps σ' F' H' A' ρ' D (a.nextK g' r fun j m => k' j (hps j m)) p'
theorem dss_one {s : Stmt} {f : FS} (h : DS X T W P s f) : DSs X T W P [s] f := by
  obtain ⟨t, ps, s1⟩ := h
  exact ⟨_, fun i => pss_one (ps i), s1⟩
def sBk : FS := fun ρ => .bk ρ
def sCt : FS := fun ρ => .ct ρ
/-- an expression alone -/
def sE (f : FE) : FS := fun ρ => (f ρ).out fun p => .nx p.2
theorem ds_expr {e : Expr} {f : FE} {pos : Pos} (h : DE X T W e f) (hs : ∀ i, swapsWith e none pos.line (X.at_ i).env = pure false := by intro _; rfl) : DS X T W P (.Expr e pos) (sE f) := by
  obtain ⟨t, pe, s⟩ := h
  refine ⟨_, fun i => ps_expr (pe i) (hs i), fun hps σ F H A ρ D a p => s σ F H A ρ _ a ?_⟩
  refine p.out.imp fun b ρ1 F1 H1 A1 g p1 v r => ?_
  obtain ⟨A2, r2, m⟩ := r.tail
  exact p1.nowN ((Go.refl g.sub).less m) r2 (Keep.refl P σ)
def sRet (f : FE) : FS := fun ρ => (f ρ).out fun p => .rt p.1 p.2
theorem ds_ret {e : Expr} {f : FE} {pos : Pos} (h : DE X T W e f) : DS X T W P (.Return (some e) pos) (sRet f) := by
  obtain ⟨t, pe, s⟩ := h
  refine ⟨_, fun i => ps_ret (pe i), fun hps σ F H A ρ D a p => s σ F H A ρ _ a ?_⟩
  refine p.out.imp fun b ρ1 F1 H1 A1 g p1 v r => ?_
  exact p1 v σ F1 H1 A1 (Go.refl g.sub) r (Keep.refl P σ)
def sRetN : FS := fun ρ => .rt (.dat .non) ρ
def sIf (c : FT) (f g : FS) : FS := fun ρ => (c ρ).out fun p => if p.1 = true then f p.2 else g p.2
theorem ds_if {c : Expr} {a b : List Stmt} {fc : FT} {f g : FS} {pos : Pos} (h : DT X T W c fc) (ha : DSs X T W P a f) (hb : DSs X T W P b g) : DS X T W P (.If c a b pos) (sIf fc f g) := by
  obtain ⟨t, pt, s⟩ := h
  obtain ⟨u, pu, s2⟩ := ha
  obtain ⟨w, pw, s3⟩ := hb
  refine ⟨_, fun i => ps_if (pt i) (pu i) (pw i), fun hps σ F H A ρ D a p => s σ F H A ρ _ a ?_⟩
  refine p.out.imp fun c ρ1 F1 H1 A1 g1 p1 r => ?_
  cases c with
  | true => exact iteT (s2 hps σ F1 H1 A1 ρ1 D (a.next g1 r) p1)
  | false => exact iteF (s3 hps σ F1 H1 A1 ρ1 D (a.next g1 r) p1)
/-! ### names stored -/
/-- a datum for good -/
def cD (f : FE) : FE := fun ρ => f ρ >>= fun p => ofO (frz p.1) >>= fun d => .ok (.dat d, p.2)
theorem de_d {e : Expr} {f : FE} (h : DE X T W e f) : DE X T W e (cD f) := by
  obtain ⟨t, pe, s⟩ := do_e h
  refine ⟨t, pe, fun σ F H A ρ Q a p => s σ F H A ρ Q a ?_⟩
  unfold cO
  unfold cD at p
  cases q : f ρ with
  | ok x =>
    rw [q] at p
    obtain ⟨b, ρ1⟩ := x
    simp only [ok_bind] at p ⊢
    cases q2 : frz b with
    | none =>
      rw [q2] at p
      exact p
    | some d =>
      rw [q2] at p
      exact fun F' H' A' g v r o => p F' H' A' g v (r.dat o)
  | err x ρ1 =>
    rw [q] at p
    exact p
  | stuck =>
    rw [q] at p
    exact p
abbrev LocN (X : Fam) (x : Str) : Prop := ∀ j, Loc (X.at_ j).env.scope x
abbrev FnN (X : Fam) (x : Str) : Prop := ∀ j, (X.at_ j).fn x = true ∨ (X.at_ j).env.scope.names.lookup x = some .local
def sSet (i : Nat) (f : FE) : FS := fun ρ => (f ρ).out fun p => .nx (p.2.set i p.1)
theorem ds_set (i : Nat) {x : Str} {e : Expr} {f : FE} {pos pos' : Pos} (hN : ∀ j, (X.at_ j).N.Nodup) (hP : i ∉ P) (h : DE X T W e f) (hi : ∀ j, (X.at_ j).N[i]? = some x := by intro _; rfl) (hx : LocN X x := by intro _; first | exact Or.inl rfl | exact Or.inr rfl)
    (hs : ∀ j, swapsWith e (some (.Name x pos')) pos.line (X.at_ j).env = pure false := by intro _; rfl) (hf : FnN X x := by intro _; first | exact .inl rfl | exact .inr rfl) : DS X T W P (.Assign [.Name x pos'] e pos) (sSet i f) := by
  obtain ⟨t, pe, s⟩ := h
  refine ⟨_, fun j => ps_set (hN j) (hi j) (hx j) (pe j) (hs j) (hf j), fun hps σ F H A ρ D a p => s σ F H A ρ _ a ?_⟩
  refine p.out.imp fun b ρ1 F1 H1 A1 g p1 v r => ?_
  obtain ⟨A2, r2, m⟩ := r.store (i := i)
  exact p1.nowN ((Go.refl g.sub).less m) r2 (Keep.set hP)
/-- x op= e, whole numbers -/
def sAug (i : Nat) (g : Int → Int → Int) (f : FO) : FS := fun ρ => match ρ[i]? with
  | some (.dat (.int a)) => (f ρ).out fun p => match rd p.2 p.1 with
    | some (.int b) => .nx (p.2.set i (.dat (.int (g a b))))
    | _ => .stuck
  | _ => .stuck
/-- does the name own a list -/
def ownL (ρ : Ev) (i : Nat) : Option (List D) := match ρ[i]? with
  | some (.own ds) => some ds
  | _ => none
theorem ownL_some {ρ : Ev} {i : Nat} {ds : List D} (e : ownL ρ i = some ds) : ρ[i]? = some (.own ds) := by
  unfold ownL at e
  split at e
  · rename_i q
    cases e
    exact q
  · cases e
/-- x[j] = e, x an owned list -/
def putL (ds : List D) (d : D) : D → Option (List D)
  | .int k => (ixN ds.length k).map fun j => ds.set j d
  | _ => none
def sPut (i : Nat) (f : FE) (fj : FO) : FS := fun ρ => (cO f ρ).out fun p => (ofO (ownL p.2 i)).out fun _ => (fj p.2).out fun q => (ofO (ownL q.2 i)).out fun ds => (ofO (rd q.2 q.1)).out fun k => match p.1 with
  | .val d => (ofO (putL ds d k)).out fun ds' => .nx (q.2.set i (.own ds'))
  | .var _ => .stuck
@[simp] theorem out_ofO_some {α : Type} (a : α) (f : α → Out) : (ofO (some a) : R α).out f = f a := rfl
@[simp] theorem out_ofO_none {α : Type} (f : α → Out) : (ofO none : R α).out f = .stuck := rfl
/-- an option that must be there -/
theorem PostS.opt {K : PySem.W.Frag} {σ : St} {F H : Hp} {A : List Addr} {α : Type} {o : Option α} {f : α → Out} {E : Ends} (p : PostS K T W P σ F H A ((ofO o).out f) E) : ∃ a, o = some a ∧ PostS K T W P σ F H A (f a) E := by
  cases o with
  | none => exact p.elim
  | some a => exact ⟨a, rfl, p⟩
theorem Post.opt {K : PySem.W.Frag} {σ : St} {F H : Hp} {A : List Addr} {α β : Type} {o : Option α} {f : α → R (β × Ev)} {k : β → Ev → Hp → Hp → List Addr → Prop} (p : Post K T W σ F H A (ofO o >>= f) k) : ∃ a, o = some a ∧ Post K T W σ F H A (f a) k := by
  cases o with
  | none => exact p.elim
  | some a => exact ⟨a, rfl, p⟩
theorem ds_put (i : Nat) {x : Str} {e ej : Expr} {f : FE} {fj : FO} {pos p1 p2 : Pos} (h : DE X T W e f) (hj : DO X T W ej fj) (hN : ∀ j, (X.at_ j).N[i]? = some x := by intro _; rfl) (hv : ∀ j, Vis (X.at_ j).env.scope x := by intro _; first | exact Or.inl rfl | exact Or.inr (Or.inl rfl) | exact Or.inr (Or.inr rfl))
    (hd : (x == ("__debug__" : Str)) = false := by decide) (hcd : (x == ("__classdict__" : Str)) = false := by decide)
    (hs : ∀ j, swapsWithSole [.Subscript (.Name x p1) ej p2] e pos.line (X.at_ j).env = pure false := by intro _; rfl) (hw : ∀ j, swappedStores [.Subscript (.Name x p1) ej p2] e (X.at_ j).env = pure none := by intro _; rfl)
    (h1 : ∀ j, (assignEach [.Subscript (.Name x p1) ej p2] (X.at_ j).env).map (·.2) = [assign (.Subscript (.Name x p1) ej p2) (X.at_ j).env] := by intro _; rfl)
    (ha : ∀ j v, assign (.Subscript (.Name x p1) ej p2) (X.at_ j).env v = (do
      let ov ← holding [v] (eval (.Name x p1) (X.at_ j).env)
      let iv ← holding [v, ov] (eval ej (X.at_ j).env)
      standAt p2
      holding [v, ov, iv] (setItem ov iv v)
      release [v, ov, iv] []) := by intro _ _; rfl) : DS X T W P (.Assign [.Subscript (.Name x p1) ej p2] e pos) (sPut i f fj) := by
  obtain ⟨t, pe, s⟩ := do_e h
  obtain ⟨tj, pj, sj⟩ := hj
  refine ⟨_, fun j => ps_asg (pe j) (pg_sub (pe_var (hN j) (hv j) hd hcd) (pj j) set_list (ha j)) (hs j) (hw j) (h1 j), fun hps σ F H A ρ E a p => s σ F H A ρ _ a ?_⟩
  refine p.out.imp fun o ρ1 F1 H1 A1 g1 p1 v r1 o1 => ?_
  have at1 := a.next g1 r1
  obtain ⟨ds0, e0, p1⟩ := p1.opt
  obtain ⟨l0, _, es, _⟩ := r1.ownAt (ownL_some e0)
  refine ⟨_, es, sj σ F1 H1 A1 ρ1 _ at1 ?_⟩
  refine p1.out.imp fun oj ρ2 F2 H2 A2 g2 p2 vj r2 o2 => ?_
  obtain ⟨ds, e2, p2⟩ := p2.opt
  obtain ⟨k, e3, p2⟩ := p2.opt
  cases o with
  | var _ => exact p2.elim
  | val d =>
    obtain ⟨ds', e4, p2⟩ := p2.opt
    obtain ⟨l, xs, es', lA, el, nl, rl, k2⟩ := r2.ownAt (ownL_some e2)
    rw [es] at es'
    cases es'
    cases k <;> simp only [putL] at e4 <;> first | cases e4 | skip
    rename_i n
    cases q : ixN ds.length n with
    | none =>
      rw [q] at e4
      cases e4
    | some j =>
      rw [q] at e4
      cases e4
      have ev := top_int (rd_top g2.sub r2 o2 e3)
      refine ⟨l0, xs, n, j, rfl, ev, el, by rw [← rl.length]; exact q, ?_⟩
      have od : Rp X.K F2 d v := Rp.mono g2.kF d o1
      exact p2.nowN (Go.write g2.sub lA nl el (fun _ z => by cases z) (fun _ z => by cases z)) (k2 _ _ (rl.set od j)) (Keep.refl P σ)
/-! ## a method that changes what a name owns -/
/-- x.m(args) -/
def cMut (i : Nat) (g : List D → List D → Option (D × List D)) (f : FA) : FE := fun ρ => ofO (ownL ρ i) >>= fun _ => f ρ >>= fun p => ofO (ownL p.2 i) >>= fun ds => ofO (rds p.2 p.1) >>= fun as => ofO (g ds as) >>= fun q => .ok (.dat q.1, p.2.set i (.own q.2))
/-- the rule of a method r is that g -/
def VM (K : PySem.W.Frag) (r : V → List V → Hp → VK → Prop) (g : List D → List D → Option (D × List D)) : Prop :=
  ∀ F H ds xs l as vs d ds' (Q : VK), Sub F H → H l = some (.lst xs) → RpL K F ds xs → Paired (RpTop K F H) as vs → g ds as = some (d, ds') → (∀ v xs', Rp K F d v → RpL K F ds' xs' → Q v (upd H l (.lst xs'))) → r (.ref l) vs H Q
theorem runMut {r : V → List V → Hp → VK → Prop} {g : List D → List D → Option (D × List D)} (hv : VM X.K r g) {i : Nat} {t : TA} {f : FA} {σ : St} {F H : Hp} {A : List Addr} {ρ : Ev} {Q : VK}
    (s : ∀ σ F H A ρ Q, At X T F H ρ σ A → Post X.K T W σ F H A (f ρ) (fun os ρ' F' H' A' => ∀ vs, RepS X.K F' H' ρ' σ A' → Paired (OpdR X.K F' σ) os vs → Q vs H') → t σ H Q)
    (a : At X T F H ρ σ A) (p : Post X.K T W σ F H A (cMut i g f ρ) (fun b ρ' F' H' A' => ∀ v, RepS X.K F' H' (b :: ρ') (some v :: σ) A' → Q v H')) : tBM X.K "list" r (tVar i) t σ H Q := by
  obtain ⟨ds0, e0, p⟩ := p.opt
  obtain ⟨l0, xs0, es, _, el0, _⟩ := a.rep.ownAt (ownL_some e0)
  refine ⟨_, es, .inl ⟨rfl, _, SqL.of el0⟩, s σ F H A ρ _ a ?_⟩
  refine p.bind.imp fun os ρ1 F1 H1 A1 g1 p1 vs r1 o1 => ?_
  obtain ⟨ds, e1, p1⟩ := p1.opt
  obtain ⟨as, e2, p1⟩ := p1.opt
  obtain ⟨⟨d, ds'⟩, e3, p1⟩ := p1.opt
  obtain ⟨l, xs, es', lA, el, nl, rl, k⟩ := r1.ownAt (ownL_some e1)
  rw [es] at es'
  cases es'
  refine hv F1 H1 ds xs l0 as vs d ds' Q g1.sub el rl (rds_top g1.sub r1 o1 e2) e3 fun v xs' rv rl' => ?_
  have gw : Go T A1 F1 H1 A1 F1 (upd H1 l0 (.lst xs')) := Go.write g1.sub lA nl el (fun _ z => by cases z) (fun _ z => by cases z)
  exact p1.now gw v ((k _ _ rl').dat rv)
theorem de_mut (i : Nat) {x name : Str} {id : String} {r : V → List V → Hp → VK → Prop} {g : List D → List D → Option (D × List D)} {e : Expr} {es : List Expr} {f : FA} {p0 apos cpos : Pos} (slot : Slot "list" name id) (hty : typeOf (.builtin id) = pure (.type "method_descriptor")) (hm : ∀ j, MtR (X.at_ j) id r) (hv : VM X.K r g)
    (h : DA X T W (e :: es) f) (hN : ∀ j, (X.at_ j).N[i]? = some x := by intro _; rfl) (hvis : ∀ j, Vis (X.at_ j).env.scope x := by intro _; first | exact Or.inl rfl | exact Or.inr (Or.inl rfl) | exact Or.inr (Or.inr rfl))
    (hd : (x == ("__debug__" : Str)) = false := by decide) (hcd : (x == ("__classdict__" : Str)) = false := by decide)
    (hbase : ∀ j, attributeBase (.Name x p0) name (X.at_ j).env (eval (.Name x p0) (X.at_ j).env) = eval (.Name x p0) (X.at_ j).env := by intro _; rfl)
    (hfew : ∀ j, ((backTo cpos (starEach (e :: es) (X.at_ j).env)).all (fun x => !x.1) && (backToKw cpos (keywordEach [] (X.at_ j).env)).all (fun x => x.1.isSome)
      && decide ((e :: es).length + ([] : List Keyword).length + (if ([] : List Keyword).isEmpty then 0 else 1) < 30)) = true := by intro _; rfl)
    (hline : (apos.endLine == cpos.line) = true := by rfl) (hs : ∀ j, starEach (e :: es) (X.at_ j).env = (false, eval e (X.at_ j).env) :: starEach es (X.at_ j).env := by intro _; rfl) (hplain : ∀ j, (backTo cpos (starEach es (X.at_ j).env)).any (·.1) = false := by intro _; rfl) :
    DE X T W (.Call (.Attribute (.Name x p0) name apos) (e :: es) [] cpos) (cMut i g f) := by
  obtain ⟨t, pa, s⟩ := h
  refine ⟨_, fun j => ?_, fun σ F H A ρ Q a p => runMut hv s a p⟩
  rw [← X.hK j]
  exact pe_bm PySem.F.plainAttrs_list slot hty (hm j) (pe_var (hN j) (hvis j) hd hcd) (pa j) (hbase j) (hfew j) hline (hs j) (hplain j)
/-! the methods -/
theorem Paired.one {α β : Type} {F : α → β → Prop} {a : α} {vs : List β} (h : Paired F [a] vs) : ∃ v, vs = [v] ∧ F a v := by
  cases h with
  | cons h1 h2 =>
    cases h2
    exact ⟨_, rfl, h1⟩
theorem Paired.two {α β : Type} {F : α → β → Prop} {a b : α} {vs : List β} (h : Paired F [a, b] vs) : ∃ v w, vs = [v, w] ∧ F a v ∧ F b w := by
  cases h with
  | cons h1 h2 =>
    obtain ⟨w, rfl, h3⟩ := Paired.one h2
    exact ⟨_, w, rfl, h1, h3⟩
end
section
variable {K : PySem.W.Frag}
def gClear : List D → List D → Option (D × List D)
  | _, [] => some (.non, [])
  | _, _ => none
def gReverse : List D → List D → Option (D × List D)
  | ds, [] => some (.non, ds.reverse)
  | _, _ => none
def gPop : List D → List D → Option (D × List D)
  | ds, [] => match ds[ds.length - 1]? with
    | some d => some (d, ds.dropLast)
    | none => none
  | ds, [.int i] => if -(2 ^ 63) ≤ i ∧ i < 2 ^ 63 then match seqIndex? i ds.length with
    | some k => match ds[k]? with
      | some d => some (d, ds.eraseIdx k)
      | none => none
    | none => none
    else none
  | _, _ => none
theorem vm_pop : VM K (fun x xs H Q => rPop x xs H Q ∨ rPopAt x xs H Q) gPop := by
  intro F H ds xs l as vs d ds' Q s el rl pa e k
  unfold gPop at e
  split at e
  · cases pa
    split at e
    · rename_i q
      cases e
      obtain ⟨v, e1, e2⟩ := rl.get q
      exact .inl ⟨l, xs, v, rfl, rfl, el, by rw [← rl.length]; exact e1, k _ _ e2 rl.dropLast⟩
    · cases e
  · obtain ⟨v, rfl, hv⟩ := Paired.one pa
    split at e
    · rename_i c
      split at e
      · rename_i j q
        split at e
        · rename_i q2
          cases e
          obtain ⟨w, e1, e2⟩ := rl.get q2
          exact .inr ⟨l, xs, _, j, w, rfl, by rw [top_int hv], el, c.1, c.2, by rw [← rl.length]; exact q, e1, k _ _ e2 (rl.eraseIdx j)⟩
        · cases e
      · cases e
    · cases e
  · cases e
def gExtend : List D → List D → Option (D × List D)
  | ds, [.lst es] => if ds.length + es.length ≤ sizeLine then some (.non, ds ++ es) else none
  | _, _ => none
theorem vm_extend : VM K rExtend gExtend := by
  intro F H ds xs l as vs d ds' Q s el rl pa e k
  unfold gExtend at e
  split at e
  · obtain ⟨v, rfl, hv⟩ := Paired.one pa
    split at e
    · rename_i c
      cases e
      obtain ⟨b, zs, rfl, eb, rb⟩ := top_lst hv
      exact ⟨l, b, xs, zs, rfl, rfl, el, eb, by rw [← rl.length, ← rb.length]; exact c, k _ _ rp_non (rl.append rb)⟩
    · cases e
  · cases e
end
section
variable {X : Fam} {T : List (Addr × Str)} {W : WX} {P : List Nat}
/-- x.append(e): what is put in is given up -/
def cAppend (i : Nat) (f : FE) : FE := fun ρ => ofO (ownL ρ i) >>= fun _ => cD f ρ >>= fun p => ofO (frz p.1) >>= fun d => ofO (ownL p.2 i) >>= fun ds => if ds.length < sizeLine then .ok (.dat .non, p.2.set i (.own (ds ++ [d]))) else .stuck
theorem de_append (i : Nat) {x : Str} {e : Expr} {f : FE} {p0 apos cpos : Pos}
    (h : DE X T W e f) (hN : ∀ j, (X.at_ j).N[i]? = some x := by intro _; rfl) (hvis : ∀ j, Vis (X.at_ j).env.scope x := by intro _; first | exact Or.inl rfl | exact Or.inr (Or.inl rfl) | exact Or.inr (Or.inr rfl))
    (hd : (x == ("__debug__" : Str)) = false := by decide) (hcd : (x == ("__classdict__" : Str)) = false := by decide)
    (hbase : ∀ j, attributeBase (.Name x p0) "append" (X.at_ j).env (eval (.Name x p0) (X.at_ j).env) = eval (.Name x p0) (X.at_ j).env := by intro _; rfl)
    (hfew : ∀ j, ((backTo cpos (starEach [e] (X.at_ j).env)).all (fun x => !x.1) && (backToKw cpos (keywordEach [] (X.at_ j).env)).all (fun x => x.1.isSome)
      && decide ([e].length + ([] : List Keyword).length + (if ([] : List Keyword).isEmpty then 0 else 1) < 30)) = true := by intro _; rfl)
    (hline : (apos.endLine == cpos.line) = true := by rfl) (hs : ∀ j, starEach [e] (X.at_ j).env = (false, eval e (X.at_ j).env) :: starEach [] (X.at_ j).env := by intro _; rfl) (hplain : ∀ j, (backTo cpos (starEach [] (X.at_ j).env)).any (·.1) = false := by intro _; rfl) :
    DE X T W (.Call (.Attribute (.Name x p0) "append" apos) [e] [] cpos) (cAppend i f) := by
  obtain ⟨t, pe, s⟩ := de_d h
  refine ⟨tBM X.K "list" rAppend (tVar i) (tCons t tNil), fun j => ?_, fun σ F H A ρ Q a p => ?_⟩
  · rw [← X.hK j]
    exact pe_bm PySem.F.plainAttrs_list PySem.F.slot_list_append PySem.F.type_list_append mt_append (pe_var (hN j) (hvis j) hd hcd) (pa_cons (pe j) pa_nil (hs j)) (hbase j) (hfew j) hline (hs j) (hplain j)
  · obtain ⟨ds0, e0, p⟩ := p.opt
    obtain ⟨l0, xs0, es, _, el0, _⟩ := a.rep.ownAt (ownL_some e0)
    refine ⟨_, es, .inl ⟨rfl, _, SqL.of el0⟩, s σ F H A ρ _ a ?_⟩
    refine p.bind.imp fun b ρ1 F1 H1 A1 g1 p1 v r1 => ?_
    obtain ⟨d, e2, p1⟩ := p1.opt
    obtain ⟨ds, e1, p1⟩ := p1.opt
    obtain ⟨v', F2, A2, e4, g2, r2, z⟩ := freeze (T := T) r1 g1.sub e2
    cases e4
    obtain ⟨l, xs, es', lA, el, nl, rl, k⟩ := r2.ownAt (ownL_some e1)
    rw [es] at es'
    cases es'
    split at p1
    · rename_i c
      refine ⟨l0, xs, v, rfl, rfl, el, by rw [← rl.length]; exact c, ?_⟩
      have gw : Go T A2 F2 H1 A2 F2 (upd H1 l0 (.lst (xs ++ [v]))) := Go.write g2.sub lA nl el (fun _ z => by cases z) (fun _ z => by cases z)
      exact p1.now (g2.trans gw) .non ((k _ _ (rl.append (.cons z .nil))).dat rp_non)
    · exact p1.elim
end
end Dl
set_option Elab.async false
set_option linter.all false
set_option maxRecDepth 100000
/-! enumerate over a tuple -/
namespace DlE
open PySem PySem.Spec PyProof.Rows
open Sem (wp)
open AutoSeq1 (wpAny_loadPart')
set_option maxHeartbeats 1000000 in
theorem meets_newT (l : Addr) (items : Array Value) (n : Nat) (dct : Option Addr) (sl : Array (Option Value)) :
    Meets (Builtin.«enumerate.__new__» ⟨[.type "enumerate", .ref l], []⟩) (fun _ R s => s.heap.get? l = some { cls := .type "tuple", dict := dct, data := .seq items n, slots := sl } ∧
      R (.ok (.ret (.ref (s.heap.push { cls := .type "tuple_iterator", data := .fields #[.ref l, .int 0 0] }).objs.size)))
        { s with heap := (s.heap.push { cls := .type "tuple_iterator", data := .fields #[.ref l, .int 0 0] }).push { cls := .type "enumerate", data := .fields #[.none, .bool false, .ref s.heap.objs.size, rawInt 0, .none, .none] } }) :=
  .of_wp fun prog w A R s h => by
    obtain ⟨hp, g, d, tk, os⟩ := s; obtain ⟨hl, h⟩ := h
    have hsub := sub_enumerate
    have hL : Heap.IsTuple (Shared.heap ⟨hp, g, d, tk, os⟩) l items := ⟨_, hl, rfl, n, rfl⟩
    wp_walk using wpAny_loadPart' hl
    refine wpAny_stack_any fun st => wpAny_pure ?_
    split
    · rename_i c _ _ _ _ _
      cases (c == Value.type "enumerate")
      · wp_walk using wpAny_loadPart' hl, wpAny_pyIter_tuple hL
        exact ⟨_, rfl, h⟩
      · wp_walk using wpAny_loadPart' hl, wpAny_pyIter_tuple hL
        exact ⟨_, rfl, h⟩
    · wp_walk using wpAny_loadPart' hl, wpAny_pyIter_tuple hL
      exact ⟨_, rfl, h⟩
section
variable {prog : Program} {w : World} {A : Around} {E : Value → Shared → Prop} {s : Shared}
theorem call_enumT {l : Addr} {items : Array Value} {Q : Value → Shared → Prop} (hL : s.heap.IsTuple l items)
    (h : ∀ h', IsEnum h' (s.heap.objs.size + 1) s.heap.objs.size 0 .none → h'.IsTupleIter s.heap.objs.size l 0 → h'.objs.size = s.heap.objs.size + 2 →
      (∀ b o, s.heap.get? b = some o → h'.get? b = some o) → Q (.ref (s.heap.objs.size + 1)) { s with heap := h' }) :
    wpAny (model prog w) A (call (.type "enumerate") [.ref l]) Q E s := by
  obtain ⟨⟨c, dct, dt, sl⟩, hl, hc, n, hd⟩ := hL
  replace hc : c = .type "tuple" := hc
  replace hd : dt = .seq items n := hd
  subst hc hd
  refine callType_new F.called_enumerate (by decide) (F.typeCall_enumerate_1 _) (F.newCall_enumerate_1 _) (fun obj => F.args_object_init_2 obj _) F.entry_enumerate_new
    (meets_newT l items n dct sl) ⟨hl, ?_⟩
  have hz : (s.heap.push { cls := .type "tuple_iterator", data := .fields #[.ref l, .int 0 0] }).objs.size = s.heap.objs.size + 1 := Heap.size_push ..
  show _ ∧ _
  rw [hz]
  have he : IsEnum ((s.heap.push { cls := .type "tuple_iterator", data := .fields #[.ref l, .int 0 0] }).push
      { cls := .type "enumerate", data := .fields #[.none, .bool false, .ref s.heap.objs.size, rawInt 0, .none, .none] }) (s.heap.objs.size + 1) s.heap.objs.size 0 .none := by
    have := Heap.get?_push_size (s.heap.push { cls := .type "tuple_iterator", data := .fields #[.ref l, .int 0 0] })
      (o := { cls := .type "enumerate", data := .fields #[.none, .bool false, .ref s.heap.objs.size, rawInt 0, .none, .none] }) rfl
    rw [hz] at this; exact this
  refine ⟨⟨_, he, rfl⟩, h _ he ⟨_, Heap.get?_push_of_some _ (Heap.get?_push_size _ rfl), rfl, rfl⟩ (by rw [Heap.size_push, hz]) fun b o x => Heap.get?_push_of_some _ (Heap.get?_push_of_some _ x)⟩
end
end DlE
namespace L2
open PySem PySem.Spec PyProof.Rows
/-- enumerate(tuple): each item in a new pair -/
def IteT (K : PySem.W.Frag) (a : Addr) : It :=
  ⟨fun i H => ∃ (xs : List V) (x : V), SqT K H a xs ∧ xs[i]? = some x, fun i H v H' => ∃ T x, v = .ref T ∧ H T = none ∧ H' = upd H T (.tup [.int (i : Nat), x]) ∧ ∀ xs, SqT K H a xs → xs[i]? = some x, fun i H => ∃ xs : List V, SqT K H a xs ∧ xs.length ≤ i⟩
theorem turn_enumT {P : Program} {w : World} {K : PySem.W.Frag} {elts : List Expr} {kk : Nat} {tpos : Pos} (a e it : Addr) :
    Turn P w K (.Tuple elts kk tpos) (IteT K a) [e, it] e (fun i h => (∃ old, IsEnum h e it ((i : Nat) : Int) old) ∧ h.IsTupleIter it a i ∧ e ≠ it ∧ e ≠ a ∧ a ≠ it) where
  mem := by simp
  obj := fun i h st b hb => by
    obtain ⟨⟨old, he⟩, ⟨o, ho, hc, hd⟩, _⟩ := st
    have e' : b = e ∨ b = it := by simpa using hb
    rcases e' with z | z
    · rw [z]; exact ⟨_, he, fun v q => nomatch q⟩
    · rw [z]; exact ⟨o, ho, fun v q => by rw [hd] at q; cases q⟩
  keep := fun i h h' st k => let ⟨⟨old, he⟩, hi, hne⟩ := st; ⟨⟨old, k e (by simp) _ he⟩, hi.at fun o q => k it (by simp) o q, hne⟩
  item := by
    intro X hP hw hK hc i pins s σ H E I hf st hg
    subst hP hw hK
    obtain ⟨⟨old, he⟩, hit, hne, hea, hai⟩ := st
    obtain ⟨xs, x, hq, hx⟩ := hg
    obtain ⟨its, rv, p, hz⟩ := I.tuple hq
    obtain ⟨u, hu, ru⟩ := rv.get hx
    have hel : e < s.heap.objs.size := Heap.lt_size he
    have hil : it < s.heap.objs.size := by obtain ⟨_, q, _⟩ := hit; exact Heap.lt_size q
    have hlen : i < its.toArray.size := by
      have q := (List.getElem?_eq_some_iff.mp hu).1
      simpa using q
    refine wpAny_pyNext_enum_itemD (Draws.tuple (prog := X.prog) (w := X.w) (A := X.A.in1) (I.ok.hd hc) it a hai its.toArray) he ⟨hit, show s.heap.IsTuple a its.toArray from p⟩ hlen hne (by simp [hne, hea]) fun u' h' tk hu' ho st' hT hsz hk => ?_
    obtain ⟨hit', _⟩ := st'
    have eu : u' = u := by
      have q : its[i]? = some u' := by simpa using hu'
      rw [hu] at q
      exact (Option.some.inj q).symm
    subst eu
    refine ⟨_, rfl, wpAny_letOwnedTupleGo_enum (s := { s with heap := h', toks := tk + 1 }) ho fun h'' he' sb => ?_⟩
    have hT2 : h''.get? s.heap.objs.size = some { cls := .type "tuple", data := .seq #[.int i tk, u'] } := (sb.2 _ (Nat.ne_of_gt hel)).trans hT
    have new : ObjOk X.prog X.w (upd H s.heap.objs.size (.tup [.int (i : Nat), x])) h'' s.heap.objs.size (.tup [.int (i : Nat), x]) :=
      ⟨by show 2 ≤ sizeLine; decide, [.int i tk, u'], .cons ⟨_, rfl⟩ (.cons ru .nil), ⟨_, hT2, rfl, _, rfl⟩⟩
    have I1 : Inv X pins σ (upd H s.heap.objs.size (.tup [.int (i : Nat), x])) { s with heap := h'', toks := tk + 1 } :=
      I.turnedNew (ch := [e, it]) (fun b ob hb q => (sb.2 b (fun z => hb (by simp [z]))).trans (hk b ob (fun z => hb (by simp [z])) (fun z => hb (by simp [z])) q)) hf (Nat.le_refl _) new
    refine ⟨.ref s.heap.objs.size, _, I1, rfl, ⟨_, x, rfl, I.hok.fresh (Nat.le_refl _), rfl, fun ys hy => by rw [I.tuple_inj hy hq]; exact hx⟩, ⟨⟨u', ?_⟩, hit'.at fun o q => (sb.2 it (Ne.symm hne)).trans q, hne, hea, hai⟩, fun b hb => ?_⟩
    · have e1 : ((i + 1 : Nat) : Int) = (i : Int) + 1 := by omega
      rw [e1]; exact he'
    · have hb' : b < s.heap.objs.size := by
        have e' : b = e ∨ b = it := by simpa using hb
        rcases e' with z | z
        · rw [z]; exact hel
        · rw [z]; exact hil
      rw [upd_ne (Nat.ne_of_lt hb')]
      exact (hf b hb).1
  done := by
    intro X hP hw hK hc i pins s σ H E I hf st hg
    subst hP hw hK
    obtain ⟨⟨old, he⟩, hit, hne, hea, hai⟩ := st
    obtain ⟨xs, hq, hx⟩ := hg
    obtain ⟨its, rv, p, hz⟩ := I.tuple hq
    obtain ⟨f0, f1, f2, f3, f4, f5⟩ := hf it (by simp)
    have hl := rv.length
    have D := Draws.tuple (prog := X.prog) (w := X.w) (A := X.A.in1) (I.ok.hd hc) it a hai its.toArray
    have hT : s.TypeIs (.ref e) "enumerate" := ⟨_, he, rfl⟩
    unfold pyNext
    refine wpAny_bind (wpAny_attempt (wpAny_callSpecial?_slot (name := Str.ofString "__next__") hT F.slot_enumerate_next
      (wpAny_call_entry F.slot_enumerate_next hT F.entry_enumerate_next ?_ (F.args_enumerate_next_1 _))))
    show wpAny _ _ (field (.ref e) 2 >>= _) _ _ _
    refine wpAny_bind (wpAny_field he rfl (x := .ref it) rfl ?_)
    refine wpAny_bind (wpAny_nextOf_tuple_end (I.ok.hd hc) hit (show s.heap.IsTuple a its.toArray from p) (by simp; omega) fun h' x he' hx' => ?_)
    obtain ⟨o, ho, hcl⟩ := hx'
    refine wpAny_bind (wpAny_isInstance (T := "StopIteration") (b := true) ⟨o, ho, hcl⟩ isSubtype_stop ?_)
    exact wpAny_pure ⟨rfl, I.turned (t' := s.toks) (fun b o hb q => he' b o hb q) f0 f1 f3 f4 f5⟩
  self := fun A i s Q E st h => let ⟨⟨_, he⟩, _⟩ := st; wpAny_pyIter_enum he h
/-- over a list or a tuple -/
def iEnumX (K : PySem.W.Frag) (ta : TA) : TI := fun σ H R => ta σ H fun vs H1 => ∃ a xs, vs = [.ref a] ∧ ((SqL K H1 a xs ∧ R (Ite K a) H1) ∨ (SqT K H1 a xs ∧ R (IteT K a) H1))
theorem pi_enumX {X : Cx} {e : Expr} {ta : TA} {p pos tpos : Pos} {elts : List Expr} {kk : Nat} (hg : Gl X "enumerate") (hm : X.mg "enumerate" = none) (ha : PA X [e] ta) (hs : starEach [e] X.env = [(false, eval e X.env)] := by rfl) :
    PI X (.Tuple elts kk tpos) (.Call (.Name "enumerate" p) [e] [] pos) (iEnumX X.K ta) := by
  refine ⟨fun pins s σ H R I h => ?_⟩
  refine Call_ (ld_blt I hg hm boot_enumerate (PyProof.Rows.callWith_type1 (thn (ha.run pos pins s σ H _ I h) fun us s1 ⟨vs, H1, I1, r1, q1⟩ => ?_) hs rfl))
  obtain ⟨a, xs, ex, q⟩ := q1
  subst ex
  cases r1 with
  | cons r rr =>
    cases rr
    cases r
    rcases q with ⟨hq, q⟩ | ⟨hq, q⟩
    · obtain ⟨its, rv, p', hz⟩ := I1.list hq
      refine call_enumerate_list p'.isList fun h' he hit hsz hk => wpAny_pyIter_enum he ?_
      have I2 : Inv X pins σ H1 { s1 with heap := h' } := I1.kept (t' := s1.toks) hk
      refine ⟨s1.heap.objs.size + 1, [s1.heap.objs.size + 1, s1.heap.objs.size], _, _, H1, rfl, I2, turn_enum a (s1.heap.objs.size + 1) s1.heap.objs.size, ⟨⟨.none, he⟩, hit, Nat.succ_ne_self _⟩, fun b hb => ?_, q⟩
      have e' : b = s1.heap.objs.size + 1 ∨ b = s1.heap.objs.size := by simpa using hb
      have hle : s1.heap.objs.size ≤ b := by
        rcases e' with z | z
        · rw [z]; exact Nat.le_add_right _ _
        · rw [z]; exact Nat.le_refl _
      exact I1.fpOk hle (I1.hok.fresh hle)
    · obtain ⟨its, rv, p', hz⟩ := I1.tuple hq
      have la : a < s1.heap.objs.size := p'.lt
      refine DlE.call_enumT (show s1.heap.IsTuple a its.toArray from p') fun h' he hit hsz hk => wpAny_pyIter_enum he ?_
      have I2 : Inv X pins σ H1 { s1 with heap := h' } := I1.kept (t' := s1.toks) hk
      refine ⟨s1.heap.objs.size + 1, [s1.heap.objs.size + 1, s1.heap.objs.size], _, _, H1, rfl, I2, turn_enumT a (s1.heap.objs.size + 1) s1.heap.objs.size, ⟨⟨.none, he⟩, hit, Nat.succ_ne_self _, Nat.ne_of_gt (Nat.lt_succ_of_lt la), Nat.ne_of_lt la⟩, fun b hb => ?_, q⟩
      have e' : b = s1.heap.objs.size + 1 ∨ b = s1.heap.objs.size := by simpa using hb
      have hle : s1.heap.objs.size ≤ b := by
        rcases e' with z | z
        · rw [z]; exact Nat.le_add_right _ _
        · rw [z]; exact Nat.le_refl _
      exact I1.fpOk hle (I1.hok.fresh hle)
end L2
set_option Elab.async false
set_option linter.all false
set_option maxRecDepth 100000
namespace Dl
open PySem PySem.Spec L2
open PyProof.Rows hiding St
/-! ## targets -/
abbrev Pat := D → Ev → Option Ev
/-- the slots but those at ws stay -/
def Kept (ws : List Nat) (σ σ' : St) : Prop := σ'.length = σ.length ∧ ∀ j, j ∉ ws → σ'[j]? = σ[j]?
theorem Kept.keep {ws P : List Nat} {σ σ' : St} (h : Kept ws σ σ') (d : ∀ i ∈ ws, i ∉ P) : Keep P σ σ' := fun j m => h.2 j fun z => d j z m
section
variable {X : Fam} {T : List (Addr × Str)} {W : WX} {P : List Nat}
/-- the pattern's outcome in the frame -/
def PatOk (K : PySem.W.Frag) (ws : List Nat) (p : D → Ev → Option Ev) (g : TG) : Prop := ∀ σ F H A ρ d v ρ' (Q : St → Hp → Prop), Sub F H → RepS K F H ρ σ A → Rp K F d v → p d ρ = some ρ' →
  (∀ σ' A', RepS K F H ρ' σ' A' → Kept ws σ σ' → (∀ a ∈ A', a ∈ A) → Q σ' H) → g v σ H Q
def DG (X : Fam) (ws : List Nat) (tg : Expr) (p : Pat) : Prop := ∃ g, (∀ i, PG (X.at_ i) tg g) ∧ PatOk X.K ws p g
def pName (i : Nat) : Pat := fun d ρ => some (ρ.set i (.dat d))
theorem dg_name (i : Nat) {x : Str} {pos : Pos} (hN : ∀ j, (X.at_ j).N.Nodup) (hi : ∀ j, (X.at_ j).N[i]? = some x := by intro _; rfl) (hx : LocN X x := by intro _; first | exact Or.inl rfl | exact Or.inr rfl) (hf : FnN X x := by intro _; first | exact .inl rfl | exact .inr rfl) : DG X [i] (.Name x pos) (pName i) := by
  refine ⟨_, fun j => pg_name (hN j) (hi j) (hx j) (hf j), fun σ F H A ρ d v ρ' Q s r h e k => ?_⟩
  cases e
  obtain ⟨A2, r2, m⟩ := (r.dat h).store (i := i)
  exact k _ A2 r2 ⟨List.length_set, fun j hj => List.getElem?_set_ne (fun z => hj (by rw [z]; exact List.mem_singleton_self _))⟩ m
/-- several in a row -/
def pList : List Pat → List D → Ev → Option Ev
  | [], [], ρ => some ρ
  | p :: ps, d :: ds, ρ => (p d ρ).bind fun ρ1 => pList ps ds ρ1
  | _, _, _ => none
def PatsOk (K : PySem.W.Frag) (ws : List Nat) (p : List D → Ev → Option Ev) (g : TGs) : Prop := ∀ σ F H A ρ ds vs ρ' (Q : St → Hp → Prop), Sub F H → RepS K F H ρ σ A → RpL K F ds vs → p ds ρ = some ρ' →
  (∀ σ' A', RepS K F H ρ' σ' A' → Kept ws σ σ' → (∀ a ∈ A', a ∈ A) → Q σ' H) → g vs σ H Q
def DGs (X : Fam) (ws : List Nat) (tgs : List Expr) (ps : List Pat) : Prop := ∃ g, (∀ i, PGs (X.at_ i) tgs g) ∧ PatsOk X.K ws (pList ps) g
theorem dgs_nil : DGs X [] [] [] := by
  refine ⟨_, fun _ => pgs_nil, fun σ F H A ρ ds vs ρ' Q s r h e k => ?_⟩
  cases ds with
  | nil =>
    cases e
    exact ⟨h.inv0, k σ A r ⟨rfl, fun _ _ => rfl⟩ fun _ m => m⟩
  | cons _ _ => cases e
theorem dgs_cons {e : Expr} {es : List Expr} {p : Pat} {ps : List Pat} {ws us : List Nat} (h : DG X ws e p) (t : DGs X us es ps) (hs : ∀ j, (assignEach (e :: es) (X.at_ j).env).map (·.2) = assign e (X.at_ j).env :: (assignEach es (X.at_ j).env).map (·.2) := by intro _; rfl) : DGs X (ws ++ us) (e :: es) (p :: ps) := by
  obtain ⟨g, pg, s1⟩ := h
  obtain ⟨gs, pgs, s2⟩ := t
  refine ⟨_, fun j => pgs_cons (pg j) (pgs j) (hs j), fun σ F H A ρ ds vs ρ' Q s r h e k => ?_⟩
  cases ds with
  | nil => cases e
  | cons d ds =>
    obtain ⟨v, ws, rfl, h1, h2⟩ := h.inv
    unfold pList at e
    cases q : p d ρ with
    | none =>
      rw [q] at e
      cases e
    | some ρ1 =>
      rw [q] at e
      refine ⟨v, ws, rfl, s1 σ F H A ρ d v ρ1 _ s r h1 q fun σ1 A1 r1 k1 m1 => ?_⟩
      refine s2 σ1 F H A1 ρ1 ds ws ρ' Q s r1 h2 e fun σ2 A2 r2 k2 m2 => k σ2 A2 r2 ⟨k2.1.trans k1.1, fun j hj => ?_⟩ fun a z => m1 a (m2 a z)
      rw [List.mem_append, not_or] at hj
      exact (k2.2 j hj.2).trans (k1.2 j hj.1)
def pTup (ps : List Pat) : Pat := fun d ρ => match d with
  | .tup ds => if ds.length = ps.length then pList ps ds ρ else none
  | .lst ds => if ds.length = ps.length then pList ps ds ρ else none
  | _ => none
/-- a, b = a tuple or a list -/
theorem pg_seq {X : Cx} {es : List Expr} {k : Nat} {t : TGs} {n : Nat} {pos : Pos} (hc : X.calm = true) (h : PGs X es t)
    (hn : (assignEach es X.env).length = n) (hst : (assignEach es X.env).findIdx? (·.1) = none) : PG X (.Tuple es k pos) (fun v σ H Q => gTup X.K n t v σ H Q ∨ gLst X.K n t v σ H Q) := by
  refine ⟨fun pins s σ H v u Q I r hw => ?_⟩
  rcases hw with hw | hw
  · exact (pg_tup hc h hn hst).run pins s σ H v u Q I r hw
  · exact (pg_lst hc h hn hst).run pins s σ H v u Q I r hw
theorem dg_tup {es : List Expr} {ps : List Pat} {ws : List Nat} {k : Nat} {pos : Pos} (hc : ∀ j, (X.at_ j).calm = true) (h : DGs X ws es ps) (hn : ∀ j, (assignEach es (X.at_ j).env).length = ps.length := by intro _; rfl) (hst : ∀ j, (assignEach es (X.at_ j).env).findIdx? (·.1) = none := by intro _; rfl) : DG X ws (.Tuple es k pos) (pTup ps) := by
  obtain ⟨g, pg, s1⟩ := h
  refine ⟨fun v σ H Q => gTup X.K ps.length g v σ H Q ∨ gLst X.K ps.length g v σ H Q, fun j => ?_, fun σ F H A ρ d v ρ' Q s r h e k => ?_⟩
  · rw [← X.hK j]
    exact pg_seq (hc j) (pg j) (hn j) (hst j)
  · unfold pTup at e
    split at e
    · split at e
      · rename_i ds hl
        unfold Rp at h
        obtain ⟨a, xs, rfl, h1, h2⟩ := h
        exact .inl ⟨a, xs, rfl, sqT_mono s h1, by rw [← h2.length]; exact hl, s1 σ F H A ρ ds xs ρ' Q s r h2 e k⟩
      · cases e
    · split at e
      · rename_i ds hl
        unfold Rp at h
        obtain ⟨a, xs, rfl, h1, h2⟩ := h
        exact .inr ⟨a, xs, rfl, SqL.of (s _ _ h1), by rw [← h2.length]; exact hl, s1 σ F H A ρ ds xs ρ' Q s r h2 e k⟩
      · cases e
    · cases e
/-- a, b = e -/
def sUnp (p : Pat) (f : FE) : FS := fun ρ => (cD f ρ).out fun q => (ofO (frz q.1)).out fun d => (ofO (p d q.2)).out fun ρ' => .nx ρ'
theorem ds_unp {tg e : Expr} {p : Pat} {ws : List Nat} {f : FE} {pos : Pos} (hg : DG X ws tg p) (h : DE X T W e f) (hP : ∀ i ∈ ws, i ∉ P := by decide) (hs : ∀ j, swapsWithSole [tg] e pos.line (X.at_ j).env = pure false := by intro _; rfl) (hw : ∀ j, swappedStores [tg] e (X.at_ j).env = pure none := by intro _; rfl)
    (h1 : ∀ j, (assignEach [tg] (X.at_ j).env).map (·.2) = [assign tg (X.at_ j).env] := by intro _; rfl) : DS X T W P (.Assign [tg] e pos) (sUnp p f) := by
  obtain ⟨t, pe, s⟩ := de_d h
  obtain ⟨g, pg, s1⟩ := hg
  refine ⟨_, fun j => ps_asg (pe j) (pg j) (hs j) (hw j) (h1 j), fun hps σ F H A ρ E a pp => s σ F H A ρ _ a ?_⟩
  refine pp.out.imp fun b ρ1 F1 H1 A1 g1 p1 v r => ?_
  obtain ⟨d, e1, p1⟩ := p1.opt
  obtain ⟨v', F2, A2, e4, g2, r2, z⟩ := freeze (T := T) r g1.sub e1
  cases e4
  obtain ⟨ρ', e2, p1⟩ := p1.opt
  exact s1 σ F2 H1 A2 ρ1 d v ρ' _ g2.sub r2 z e2 fun σ' A' r' k m => p1.nowN (g2.less m) r' (k.keep hP)
end
/-! ## what is walked -/
/-- J yields the data ds, one after another, as long as F0 stands -/
def Srv (K : PySem.W.Frag) (T : List (Addr × Str)) (J : It) (F0 : Hp) (ds : List D) : Prop := ∀ i F H, Sub F0 F → Sub F H →
  (∀ d, ds[i]? = some d → J.go i H ∧ ∀ x H', J.yld i H x H' → ∃ F', Rp K F' d x ∧ ∀ A ρ σ, RepS K F H ρ σ A → Go T A F H A F' H' ∧ RepS K F' H' ρ σ A) ∧ (ds.length ≤ i → J.stop i H)
abbrev FI := Ev → R (List D × Ev)
def DI (X : Fam) (T : List (Addr × Str)) (W : WX) (tg iter : Expr) (f : FI) : Prop := ∃ wi, (∀ i, PI (X.at_ i) tg iter wi) ∧ ∀ σ F H A ρ R, At X T F H ρ σ A →
  Post X.K T W σ F H A (f ρ) (fun ds ρ' F' H' A' => ∀ J, RepS X.K F' H' ρ' σ A' → Srv X.K T J F' ds → R J H') → wi σ H R
section
variable {X : Fam} {T : List (Addr × Str)} {W : WX} {P : List Nat} {K : PySem.W.Frag}
theorem srv_list {F : Hp} {a : Addr} {ds : List D} {xs : List V} (h : SqL K F a xs) (r : RpL K F ds xs) : Srv K T (Itl K a) F ds := by
  intro i F' H' s1 s2
  refine ⟨fun d e => ?_, fun hl => ⟨xs, sqL_mono (s1.trans s2) h, by rw [← r.length]; exact hl⟩⟩
  obtain ⟨v, e1, e2⟩ := r.get e
  refine ⟨⟨xs, v, sqL_mono (s1.trans s2) h, e1⟩, fun x H'' y => ?_⟩
  obtain ⟨rfl, y⟩ := y
  have e3 := y xs (sqL_mono (s1.trans s2) h)
  rw [e1] at e3
  cases e3
  exact ⟨F', Rp.mono s1 d e2, fun A ρ σ rs => ⟨Go.refl s2, rs⟩⟩
theorem srv_tup {F : Hp} {a : Addr} {ds : List D} {xs : List V} (h : SqT K F a xs) (r : RpL K F ds xs) : Srv K T (Itt K a) F ds := by
  intro i F' H' s1 s2
  refine ⟨fun d e => ?_, fun hl => ⟨xs, sqT_mono (s1.trans s2) h, by rw [← r.length]; exact hl⟩⟩
  obtain ⟨v, e1, e2⟩ := r.get e
  refine ⟨⟨xs, v, sqT_mono (s1.trans s2) h, e1⟩, fun x H'' y => ?_⟩
  obtain ⟨rfl, y⟩ := y
  have e3 := y xs (sqT_mono (s1.trans s2) h)
  rw [e1] at e3
  cases e3
  exact ⟨F', Rp.mono s1 d e2, fun A ρ σ rs => ⟨Go.refl s2, rs⟩⟩
/-- a list or a tuple -/
def iSeq (f : FO) : FI := fun ρ => f ρ >>= fun p => match p.1 with
  | .val d => ofO (seqOf d) >>= fun ds => .ok (ds, p.2)
  | .var _ => .stuck
def iX (K : PySem.W.Frag) (tl : TE) : TI := fun σ H R => tl σ H fun x H1 => ∃ a, x = .ref a ∧ (((∃ xs, SqL K H1 a xs) ∧ R (Itl K a) H1) ∨ ((∃ xs, SqT K H1 a xs) ∧ R (Itt K a) H1))
theorem pi_seq {X : Cx} {tg l : Expr} {tl : TE} (hl : PE X l tl) : PI X tg l (iX X.K tl) := by
  refine ⟨fun pins s σ H R I h => ?_⟩
  refine thn (hl.run pins s σ H _ I h) fun v s1 ⟨x, H1, I1, r1, q1⟩ => ?_
  obtain ⟨a, e, q⟩ := q1
  subst e
  cases r1
  rcases q with ⟨⟨xs, hq⟩, q⟩ | ⟨⟨xs, hq⟩, q⟩
  · obtain ⟨its, rv, p, hz⟩ := I1.list hq
    refine wpAny_pyIter_list p.isList ?_
    refine ⟨s1.heap.objs.size, [s1.heap.objs.size], _, _, H1, rfl, I1.kept (t' := s1.toks) fun b o e => Heap.get?_push_of_some _ e, turn_list a _, ⟨_, Heap.get?_push_size _ rfl, rfl, rfl⟩, fun b hb => ?_, q⟩
    have e : b = s1.heap.objs.size := by simpa using hb
    subst e
    exact I1.fpOk (Nat.le_refl _) (I1.hok.fresh (Nat.le_refl _))
  · obtain ⟨its, rv, p, hz⟩ := I1.tuple hq
    refine wpAny_pyIter_tuple (show s1.heap.IsTuple a its.toArray from p) ?_
    refine ⟨s1.heap.objs.size, [s1.heap.objs.size], _, _, H1, rfl, I1.kept (t' := s1.toks) fun b o e => Heap.get?_push_of_some _ e, turn_tuple a _, ⟨_, Heap.get?_push_size _ rfl, rfl, rfl⟩, fun b hb => ?_, q⟩
    have e : b = s1.heap.objs.size := by simpa using hb
    subst e
    exact I1.fpOk (Nat.le_refl _) (I1.hok.fresh (Nat.le_refl _))
theorem rp_seq {F : Hp} {d : D} {v : V} {ds : List D} (h : Rp K F d v) (e : seqOf d = some ds) : ∃ a xs, v = .ref a ∧ (SqL K F a xs ∨ SqT K F a xs) ∧ RpL K F ds xs := by
  cases d <;> simp only [seqOf] at e <;> first
    | (cases e; unfold Rp at h; obtain ⟨a, xs, e1, h1, h2⟩ := h; exact ⟨a, xs, e1, .inl (SqL.of h1), h2⟩)
    | (cases e; unfold Rp at h; obtain ⟨a, xs, e1, h1, h2⟩ := h; exact ⟨a, xs, e1, .inr h1, h2⟩)
    | (cases e; unfold Rp at h; obtain ⟨a, xs, e1, h1, h2⟩ := h; exact ⟨a, xs, e1, .inl h1, h2⟩)
    | cases e
theorem di_seq {tg e : Expr} {f : FO} (h : DO X T W e f) : DI X T W tg e (iSeq f) := by
  obtain ⟨t, pe, s⟩ := h
  refine ⟨iX X.K t, fun i => ?_, fun σ F H A ρ R a p => s σ F H A ρ _ a ?_⟩
  · rw [← X.hK i]
    exact pi_seq (pe i)
  · refine p.bind.imp fun o ρ1 F1 H1 A1 g p1 v r o1 => ?_
    cases o with
    | var _ => exact p1.elim
    | val d =>
      obtain ⟨ds, e1, p1⟩ := p1.opt
      obtain ⟨x, xs, rfl, h1, h2⟩ := rp_seq (show Rp X.K F1 d v from o1) e1
      rcases h1 with h1 | h1
      · exact ⟨x, rfl, .inl ⟨⟨xs, sqL_mono g.sub h1⟩, p1.now (Go.refl g.sub) _ r (srv_list h1 h2)⟩⟩
      · exact ⟨x, rfl, .inr ⟨⟨xs, sqT_mono g.sub h1⟩, p1.now (Go.refl g.sub) _ r (srv_tup h1 h2)⟩⟩
/-- range -/
def rngD (lo : Int) (n : Nat) : List D := (List.range n).map fun i => .int (lo + (i : Nat))
theorem srv_rng {F : Hp} (lo : Int) (n : Nat) : Srv K T (Itr lo n) F (rngD lo n) := by
  intro i F' H' s1 s2
  refine ⟨fun d e => ?_, fun hl => by
    unfold rngD at hl
    rw [List.length_map, List.length_range] at hl
    exact hl⟩
  unfold rngD at e
  rw [List.getElem?_map] at e
  cases q : (List.range n)[i]? with
  | none =>
    rw [q] at e
    cases e
  | some j =>
    rw [q] at e
    cases e
    obtain ⟨hi, hj⟩ := List.getElem?_eq_some_iff.mp q
    rw [List.getElem_range] at hj
    subst hj
    rw [List.length_range] at hi
    refine ⟨hi, fun x H'' y => ?_⟩
    obtain ⟨rfl, rfl⟩ := y
    exact ⟨F', rp_int, fun A ρ σ rs => ⟨Go.refl s2, rs⟩⟩
def rngOk (j : Int) : Bool := decide (-(2 ^ 62) ≤ j) && decide (j < 2 ^ 62)
theorem rngOk_iff {j : Int} (h : rngOk j = true) : -(2 ^ 62) ≤ j ∧ j < 2 ^ 62 := by
  unfold rngOk at h
  rw [Bool.and_eq_true] at h
  exact ⟨of_decide_eq_true h.1, of_decide_eq_true h.2⟩
def rng1 : List D → Option (List D)
  | [.int j] => if rngOk j = true then some (rngD 0 j.toNat) else none
  | _ => none
def iRng (g : List D → Option (List D)) (f : FA) : FI := fun ρ => f ρ >>= fun p => ofO (rds p.2 p.1) >>= fun ds => ofO (g ds) >>= fun xs => .ok (xs, p.2)
theorem di_range1 {tg a : Expr} {f : FA} {p pos : Pos} (hg : ∀ i, Gl (X.at_ i) "range") (hm : ∀ i, (X.at_ i).mg "range" = none) (h : DA X T W [a] f) (hs : ∀ i, starEach [a] (X.at_ i).env = [(false, eval a (X.at_ i).env)] := by intro _; rfl) : DI X T W tg (.Call (.Name "range" p) [a] [] pos) (iRng rng1 f) := by
  obtain ⟨t, pa, s⟩ := h
  refine ⟨_, fun i => pi_range1 (hg i) (hm i) (pa i) (hs i), fun σ F H A ρ R a p => s σ F H A ρ _ a ?_⟩
  refine p.bind.imp fun os ρ1 F1 H1 A1 g p1 vs r o1 => ?_
  obtain ⟨ds, e1, p1⟩ := p1.opt
  obtain ⟨xs, e2, p1⟩ := p1.opt
  have top := rds_top g.sub r o1 e1
  unfold rng1 at e2
  split at e2
  · obtain ⟨v, rfl, hv⟩ := Paired.one top
    split at e2
    · rename_i c
      cases e2
      exact ⟨_, by rw [top_int hv], (rngOk_iff c).1, (rngOk_iff c).2, p1.now (Go.refl g.sub) _ r (srv_rng _ _)⟩
    · cases e2
  · cases e2
/-- enumerate of a list or a tuple -/
def enumD (ds : List D) : List D := ds.mapIdx fun i d => .tup [.int (i : Nat), d]
theorem enumD_get {ds : List D} {i : Nat} : (enumD ds)[i]? = (ds[i]?).map fun d => .tup [.int (i : Nat), d] := by
  unfold enumD
  rw [List.getElem?_mapIdx]
theorem enum_step {F' H' : Hp} {Tp : Addr} {i : Nat} {d : D} {v : V} (s : Sub F' H') (n : H' Tp = none) (h : Rp K F' d v) : Rp K (upd F' Tp (.tup [.int (i : Nat), v])) (.tup [.int (i : Nat), d]) (.ref Tp) ∧ ∀ A ρ σ, RepS K F' H' ρ σ A → Go T A F' H' A (upd F' Tp (.tup [.int (i : Nat), v])) (upd H' Tp (.tup [.int (i : Nat), v])) ∧ RepS K (upd F' Tp (.tup [.int (i : Nat), v])) (upd H' Tp (.tup [.int (i : Nat), v])) ρ σ A := by
  refine ⟨?_, fun A ρ σ rs => ⟨Go.laid s n, rs.laid s n⟩⟩
  have g : Go T [] F' H' [] (upd F' Tp (.tup [.int (i : Nat), v])) (upd H' Tp (.tup [.int (i : Nat), v])) := Go.laid s n
  unfold Rp
  exact ⟨Tp, _, rfl, SqT.of upd_same, .cons rp_int (.cons (Rp.mono g.kF d h) .nil)⟩
theorem srv_enum {F : Hp} {a : Addr} {ds : List D} {xs : List V} (h : SqL K F a xs) (r : RpL K F ds xs) : Srv K T (Ite K a) F (enumD ds) := by
  intro i F' H' s1 s2
  refine ⟨fun d e => ?_, fun hl => ⟨xs, sqL_mono (s1.trans s2) h, by
    unfold enumD at hl
    rw [List.length_mapIdx] at hl
    rw [← r.length]
    exact hl⟩⟩
  rw [enumD_get] at e
  cases q : ds[i]? with
  | none =>
    rw [q] at e
    cases e
  | some d' =>
    rw [q] at e
    cases e
    obtain ⟨v, e1, e2⟩ := r.get q
    refine ⟨⟨xs, v, sqL_mono (s1.trans s2) h, e1⟩, fun x H'' y => ?_⟩
    obtain ⟨Tp, v', rfl, n, rfl, y⟩ := y
    have e3 := y xs (sqL_mono (s1.trans s2) h)
    rw [e1] at e3
    cases e3
    exact ⟨_, enum_step s2 n (Rp.mono s1 d' e2)⟩
theorem srv_enumT {F : Hp} {a : Addr} {ds : List D} {xs : List V} (h : SqT K F a xs) (r : RpL K F ds xs) : Srv K T (IteT K a) F (enumD ds) := by
  intro i F' H' s1 s2
  refine ⟨fun d e => ?_, fun hl => ⟨xs, sqT_mono (s1.trans s2) h, by
    unfold enumD at hl
    rw [List.length_mapIdx] at hl
    rw [← r.length]
    exact hl⟩⟩
  rw [enumD_get] at e
  cases q : ds[i]? with
  | none =>
    rw [q] at e
    cases e
  | some d' =>
    rw [q] at e
    cases e
    obtain ⟨v, e1, e2⟩ := r.get q
    refine ⟨⟨xs, v, sqT_mono (s1.trans s2) h, e1⟩, fun x H'' y => ?_⟩
    obtain ⟨Tp, v', rfl, n, rfl, y⟩ := y
    have e3 := y xs (sqT_mono (s1.trans s2) h)
    rw [e1] at e3
    cases e3
    exact ⟨_, enum_step s2 n (Rp.mono s1 d' e2)⟩
def iEnm (f : FO) : FI := fun ρ => f ρ >>= fun p => match p.1 with
  | .val d => ofO (seqOf d) >>= fun ds => .ok (enumD ds, p.2)
  | .var _ => .stuck
theorem di_enum {e : Expr} {f : FO} {p pos tpos : Pos} {elts : List Expr} {kk : Nat} (hg : ∀ i, Gl (X.at_ i) "enumerate") (hm : ∀ i, (X.at_ i).mg "enumerate" = none) (h : DO X T W e f) (hs : ∀ i, starEach [e] (X.at_ i).env = [(false, eval e (X.at_ i).env)] := by intro _; rfl) :
    DI X T W (.Tuple elts kk tpos) (.Call (.Name "enumerate" p) [e] [] pos) (iEnm f) := by
  obtain ⟨t, pe, s⟩ := h
  refine ⟨iEnumX X.K (tCons t tNil), fun i => ?_, fun σ F H A ρ R a p => s σ F H A ρ _ a ?_⟩
  · rw [← X.hK i]
    exact pi_enumX (hg i) (hm i) (pa_cons (pe i) pa_nil (hs i)) (hs i)
  · refine p.bind.imp fun o ρ1 F1 H1 A1 g p1 v r o1 => ?_
    cases o with
    | var _ => exact p1.elim
    | val d =>
      obtain ⟨ds, e1, p1⟩ := p1.opt
      obtain ⟨x, xs, rfl, h1, h2⟩ := rp_seq (show Rp X.K F1 d v from o1) e1
      rcases h1 with h1 | h1
      · exact ⟨x, xs, rfl, .inl ⟨sqL_mono g.sub h1, p1.now (Go.refl g.sub) _ r (srv_enum h1 h2)⟩⟩
      · exact ⟨x, xs, rfl, .inr ⟨sqT_mono g.sub h1, p1.now (Go.refl g.sub) _ r (srv_enumT h1 h2)⟩⟩
/-! ## for, while -/
def forD (p : Pat) (body : FS) : List D → FS
  | [], ρ => .nx ρ
  | d :: ds, ρ => match p d ρ with
    | none => .stuck
    | some ρ1 => match body ρ1 with
      | .nx ρ2 => forD p body ds ρ2
      | .ct ρ2 => forD p body ds ρ2
      | .bk ρ2 => .nx ρ2
      | .rt b ρ2 => .rt b ρ2
      | .er x ρ2 => .er x ρ2
      | .stuck => .stuck
def sFor (p : Pat) (f : FI) (body : FS) : FS := fun ρ => (f ρ).out fun q => forD p body q.1 q.2
theorem ds_for {tg iter : Expr} {b : List Stmt} {p : Pat} {ws : List Nat} {f : FI} {body : FS} {pos : Pos} (hp : ∀ i, PassesOwn (model (X.at_ i).prog (X.at_ i).w) (X.at_ i).A (X.at_ i).env (X.at_ i).xe) (hc : ∀ i, (X.at_ i).calm = true) (hi : DI X T W tg iter f) (hg : DG X ws tg p) (hb : DSs X T W P b body) (hP : ∀ i ∈ ws, i ∉ P := by decide)
    (hs : ∀ i x, foldedSetIterable iter (X.at_ i).env x = pure x := by intro _ _; rfl) : DS X T W P (.For tg iter b [] pos) (sFor p f body) := by
  obtain ⟨wi, pi, s1⟩ := hi
  obtain ⟨g, pg, s2⟩ := hg
  obtain ⟨tb, pb, s3⟩ := hb
  refine ⟨_, fun i => ps_for (hp i) (hc i) (pi i) (pg i) (pb i) (hs i), fun hps σ F H A ρ E a pp => s1 σ F H A ρ _ a ?_⟩
  refine pp.out.imp fun ds ρ1 F1 H1 A1 g1 p1 J r1 sv => ?_
  have at1 : At X T F1 H1 ρ1 σ A1 := a.next g1 r1
  clear pp
  refine ⟨fun i m σ' H' => m = ds.length - i ∧ ∃ F' A' ρ', Go T A1 F1 H1 A' F' H' ∧ RepS X.K F' H' ρ' σ' A' ∧ Keep P σ σ' ∧ PostS X.K T W P σ' F' H' A' (forD p body (ds.drop i) ρ') E, ⟨ds.length, by simp, F1, A1, ρ1, Go.refl g1.sub, r1, Keep.refl P σ, by simpa using p1⟩, ?_⟩
  rintro i m σ' H' ⟨rfl, F', A', ρ', g', r', k', p'⟩
  obtain ⟨v1, v2⟩ := sv i F' H' g'.kF g'.sub
  cases q : ds[i]? with
  | none =>
    have hl : ds.length ≤ i := List.getElem?_eq_none_iff.mp q
    rw [List.drop_eq_nil_of_le hl] at p'
    exact .inl ⟨v2 hl, p'.nowN (Go.refl g'.sub) r' (Keep.refl P σ')⟩
  | some d =>
    obtain ⟨w1, w2⟩ := v1 d q
    obtain ⟨hi', he'⟩ := List.getElem?_eq_some_iff.mp q
    have ed : ds.drop i = d :: ds.drop (i + 1) := by
      rw [← he']
      exact List.drop_eq_getElem_cons hi'
    rw [ed] at p'
    refine .inr ⟨w1, fun σ2 H2 => ∃ F2 A2 ρ2, Go T A1 F1 H1 A2 F2 H2 ∧ RepS X.K F2 H2 ρ2 σ2 A2 ∧ Keep P σ σ2 ∧ PostS X.K T W P σ2 F2 H2 A2 (forD p body (ds.drop (i + 1)) ρ2) E, fun σ2 H2 n => ⟨ds.length - (i + 1), by omega, rfl, n⟩, fun x H2 y => ?_⟩
    obtain ⟨F2, e2, e3⟩ := w2 x H2 y
    obtain ⟨g2, r2⟩ := e3 A' ρ' σ' r'
    simp only [forD] at p'
    cases qp : p d ρ' with
    | none =>
      rw [qp] at p'
      exact p'.elim
    | some ρ3 =>
      rw [qp] at p'
      refine s2 σ' F2 H2 A' ρ' d x ρ3 _ g2.sub r2 e2 qp fun σ3 A3 r3 kk3 m3 => ?_
      have k3 := kk3.keep hP
      have g3 : Go T A1 F1 H1 A3 F2 H2 := (g'.trans g2).less m3
      have p'' := p'.after (g2.less m3) k3
      simp only at p''
      refine s3 hps σ3 F2 H2 A3 ρ3 _ (at1.nextK g3 r3 fun j m => (k'.trans k3) j (hps j m)) ?_
      cases qb : body ρ3 with
      | nx ρ4 =>
        rw [qb] at p''
        exact fun σ4 F4 H4 A4 g4 r4 k4 => ⟨F4, A4, ρ4, g3.trans g4, r4, (k'.trans k3).trans k4, p''.after g4 k4⟩
      | ct ρ4 =>
        rw [qb] at p''
        exact fun σ4 F4 H4 A4 g4 r4 k4 => ⟨F4, A4, ρ4, g3.trans g4, r4, (k'.trans k3).trans k4, p''.after g4 k4⟩
      | bk ρ4 =>
        rw [qb] at p''
        exact fun σ4 F4 H4 A4 g4 r4 k4 => p''.nowN g4 r4 k4
      | rt b ρ4 =>
        rw [qb] at p''
        exact p''
      | er x ρ4 =>
        rw [qb] at p''
        exact p''
      | stuck =>
        rw [qb] at p''
        exact p''.elim
/-- n turns at most -/
def whileD (c : FT) (body : FS) : Nat → FS
  | 0, _ => .stuck
  | n + 1, ρ => (c ρ).out fun q => if q.1 = true then match body q.2 with
      | .nx ρ2 => whileD c body n ρ2
      | .ct ρ2 => whileD c body n ρ2
      | .bk ρ2 => .nx ρ2
      | .rt b ρ2 => .rt b ρ2
      | .er x ρ2 => .er x ρ2
      | .stuck => .stuck
    else .nx q.2
theorem ds_while {c : Expr} {b : List Stmt} {fc : FT} {body : FS} {pos : Pos} (n : Ev → Nat) (hp : ∀ i, PassesOwn (model (X.at_ i).prog (X.at_ i).w) (X.at_ i).A (X.at_ i).env (X.at_ i).xe) (hc : DT X T W c fc) (hb : DSs X T W P b body) : DS X T W P (.While c b [] pos) (fun ρ => whileD fc body (n ρ) ρ) := by
  obtain ⟨tc, pc, s1⟩ := hc
  obtain ⟨tb, pb, s3⟩ := hb
  refine ⟨_, fun i => ps_while (hp i) (pc i) (pb i), fun hps σ F H A ρ E a pp => ?_⟩
  refine ⟨fun m σ' H' => ∃ F' A' ρ', Go T A F H A' F' H' ∧ RepS X.K F' H' ρ' σ' A' ∧ Keep P σ σ' ∧ PostS X.K T W P σ' F' H' A' (whileD fc body m ρ') E, ⟨n ρ, F, A, ρ, Go.refl a.sub, a.rep, Keep.refl P σ, pp⟩, ?_⟩
  rintro m σ' H' ⟨F', A', ρ', g', r', k', p'⟩
  cases m with
  | zero => exact p'.elim
  | succ m =>
    simp only [whileD] at p'
    refine s1 σ' F' H' A' ρ' _ (a.nextK g' r' fun j m => k' j (hps j m)) ?_
    refine p'.out.imp fun c ρ1 F1 H1 A1 g1 p1 r1 => ?_
    cases c with
    | false => exact iteF (p1.nowN (Go.refl g1.sub) r1 (Keep.refl P σ'))
    | true =>
      refine iteT ⟨fun σ2 H2 => ∃ F2 A2 ρ2, Go T A F H A2 F2 H2 ∧ RepS X.K F2 H2 ρ2 σ2 A2 ∧ Keep P σ σ2 ∧ PostS X.K T W P σ2 F2 H2 A2 (whileD fc body m ρ2) E, fun σ2 H2 n => ⟨m, by omega, n⟩, ?_⟩
      simp only [if_true] at p1
      have g3 := g'.trans g1
      refine s3 hps σ' F1 H1 A1 ρ1 _ (a.nextK g3 r1 fun j m => k' j (hps j m)) ?_
      cases qb : body ρ1 with
      | nx ρ4 =>
        rw [qb] at p1
        exact fun σ4 F4 H4 A4 g4 r4 k4 => ⟨F4, A4, ρ4, g3.trans g4, r4, k'.trans k4, p1.after g4 k4⟩
      | ct ρ4 =>
        rw [qb] at p1
        exact fun σ4 F4 H4 A4 g4 r4 k4 => ⟨F4, A4, ρ4, g3.trans g4, r4, k'.trans k4, p1.after g4 k4⟩
      | bk ρ4 =>
        rw [qb] at p1
        exact fun σ4 F4 H4 A4 g4 r4 k4 => p1.nowN g4 r4 k4
      | rt b ρ4 =>
        rw [qb] at p1
        exact p1
      | er x ρ4 =>
        rw [qb] at p1
        exact p1
      | stuck =>
        rw [qb] at p1
        exact p1.elim
end
end Dl
set_option Elab.async false
set_option linter.all false
set_option maxRecDepth 100000
namespace Dl
open PySem PySem.Spec L2
open PyProof.Rows hiding St
/-! ## comprehensions -/
def W0 : WX := fun _ _ _ _ => False
abbrev BlkI := Shared × Hp × Addr × List (Str × Addr) × List Addr
/-- the blocks of a comprehension -/
def blkF (X : Fam) (scope : Scope) : Fam where
  Ix := X.Ix × BlkI
  at_ := fun j => (X.at_ j.1).blk j.2.1 j.2.2.1 scope (compEnvC scope j.2.2.2.2.1 j.2.2.2.1 (X.at_ j.1).env) j.2.2.2.2.2
  K := X.K
  hK := fun j => X.hK j.1
  inv := fun _ _ => True
  ps := []
  mono := fun _ _ _ => trivial
def wipeE (ρ : Ev) : List Nat → Ev
  | [] => ρ
  | v :: vs => (wipeE ρ vs).set v .un
def restE (ρ0 : Ev) : Ev → List Nat → Ev
  | ρ, [] => ρ
  | ρ, v :: vs => restE ρ0 (ρ.set v (match ρ0[v]? with | some (.dat d) => .dat d | _ => .un)) vs
section
variable {K : PySem.W.Frag} {F H : Hp} {ρ : Ev} {σ : St} {A : List Addr}
theorem RepS.wiped (h : RepS K F H ρ σ A) : ∀ vs, ∃ A', RepS K F H (wipeE ρ vs) (wipe σ vs) A' ∧ ∀ a ∈ A', a ∈ A
  | [] => ⟨A, h, fun _ m => m⟩
  | v :: vs => by
    obtain ⟨A1, r, m⟩ := h.wiped vs
    obtain ⟨A2, r2, m2⟩ := r.set (i := v) (b' := .un) (sv' := none) (ft' := []) rfl (fun a z => by cases z)
    exact ⟨A2, r2, fun a z => by
      rcases m2 a z with y | y
      · exact m a y
      · cases y⟩
theorem wipe_get (σ : St) : ∀ (vs : List Nat) (j : Nat), j ∉ vs → (wipe σ vs)[j]? = σ[j]?
  | [], _, _ => rfl
  | v :: vs, j, h => by
    unfold wipe
    rw [List.mem_cons, not_or] at h
    rw [List.getElem?_set_ne (fun z => h.1 z.symm), wipe_get σ vs j h.2]
theorem wipe_in (σ : St) : ∀ (vs : List Nat) (j : Nat), j ∈ vs → j < σ.length → (wipe σ vs)[j]? = some none
  | v :: vs, j, h, hl => by
    unfold wipe
    by_cases e : v = j
    · subst e
      rw [List.getElem?_set_self (by rw [wipe_length]; exact hl)]
    · rw [List.getElem?_set_ne e]
      exact wipe_in σ vs j ((List.mem_cons.mp h).resolve_left fun z => e z.symm) hl
theorem wipe_eq {σ σ' : St} {vs ws : List Nat} (k : Kept ws σ σ') (h : ∀ i ∈ ws, i ∈ vs) : wipe σ' vs = wipe σ vs := by
  refine List.ext_getElem? fun j => ?_
  by_cases m : j ∈ vs
  · by_cases hl : j < σ.length
    · rw [wipe_in σ vs j m hl, wipe_in σ' vs j m (by rw [k.1]; exact hl)]
    · rw [List.getElem?_eq_none (by rw [wipe_length, k.1]; omega), List.getElem?_eq_none (by rw [wipe_length]; omega)]
  · rw [wipe_get σ vs j m, wipe_get σ' vs j m]
    exact k.2 j fun z => m (h j z)
theorem wipe_wipe (σ : St) (vs : List Nat) : wipe (wipe σ vs) vs = wipe σ vs := by
  refine List.ext_getElem? fun j => ?_
  by_cases m : j ∈ vs
  · by_cases hl : j < σ.length
    · rw [wipe_in σ vs j m hl, wipe_in _ vs j m (by rw [wipe_length]; exact hl)]
    · rw [List.getElem?_eq_none (by rw [wipe_length, wipe_length]; omega), List.getElem?_eq_none (by rw [wipe_length]; omega)]
  · rw [wipe_get _ vs j m]
/-- what stood in the wiped slots ahead comes back, if it was a datum -/
theorem RepS.restore {ρ0 : Ev} {σ : St} {F0 H0 : Hp} {A0 : List Addr} (h0 : RepS K F0 H0 ρ0 σ A0) (s : Sub F0 F) : ∀ (vs : List Nat) {ρ : Ev} {A : List Addr}, vs.Nodup → RepS K F H ρ (L2.wipe σ vs) A → ∃ A', RepS K F H (restE ρ0 ρ vs) σ A' ∧ ∀ a ∈ A', a ∈ A
  | [], _, A, _, h => ⟨A, h, fun _ m => m⟩
  | v :: vs, ρ, A, nd, h => by
    rw [List.nodup_cons] at nd
    have hb : BRep K F H (match ρ0[v]? with | some (.dat d) => .dat d | _ => .un) ((σ[v]?).getD none) [] := by
      cases q : ρ0[v]? with
      | none => exact rfl
      | some b =>
        cases b with
        | dat d =>
          obtain ⟨sv, ft, e1, ⟨_, v', rfl, r⟩, _⟩ := h0.get q
          exact ⟨rfl, v', by rw [e1]; rfl, Rp.mono s d r⟩
        | un => exact rfl
        | own _ => exact rfl
        | odk _ => exact rfl
        | odt _ => exact rfl
        | ext _ => exact rfl
    obtain ⟨A1, r1, m1⟩ := h.set (i := v) hb (fun a z => by cases z)
    have e : (L2.wipe σ (v :: vs)).set v ((σ[v]?).getD none) = L2.wipe σ vs := by
      show ((L2.wipe σ vs).set v none).set v ((σ[v]?).getD none) = L2.wipe σ vs
      rw [List.set_set]
      refine List.ext_getElem? fun j => ?_
      by_cases hj : v = j
      · subst hj
        by_cases hl : v < σ.length
        · rw [List.getElem?_set_self (by rw [wipe_length]; exact hl), wipe_get σ vs v nd.1, List.getElem?_eq_getElem hl]
          rfl
        · rw [List.getElem?_eq_none (by rw [List.length_set, wipe_length]; omega), List.getElem?_eq_none (by rw [wipe_length]; omega)]
      · rw [List.getElem?_set_ne hj]
    rw [e] at r1
    obtain ⟨A2, r2, m2⟩ := RepS.restore h0 s vs nd.2 r1
    exact ⟨A2, r2, fun a z => by
      rcases m1 a (m2 a z) with y | y
      · exact y
      · cases y⟩
end
/-- the turns of a comprehension -/
def lcD (p : Pat) (c : FT) (e : FE) (vs : List Nat) : List D → List D → Ev → R (List D × Ev)
  | [], acc, ρ => .ok (acc, ρ)
  | d :: ds, acc, ρ => match p d ρ with
    | none => .stuck
    | some ρ1 => match c ρ1 with
      | .ok (true, ρ2) => match cO e ρ2 with
        | .ok (.val d', ρ3) => if acc.length < sizeLine then lcD p c e vs ds (acc ++ [d']) (wipeE ρ3 vs) else .stuck
        | _ => .stuck
      | .ok (false, ρ2) => lcD p c e vs ds acc (wipeE ρ2 vs)
      | _ => .stuck
def cLc (p : Pat) (fi : FI) (c : FT) (e : FE) (vs : List Nat) : FE := fun ρ => fi ρ >>= fun q => lcD p c e vs q.1 [] (wipeE q.2 vs) >>= fun r => .ok (.own r.1, restE q.2 r.2 vs)
def DTs (X : Fam) (T : List (Addr × Str)) (W : WX) (es : List Expr) (f : FT) : Prop := ∃ t, (∀ i, PTs (X.at_ i) es t) ∧ ∀ σ F H A ρ Q, At X T F H ρ σ A →
  Post X.K T W σ F H A (f ρ) (fun c ρ' F' H' A' => RepS X.K F' H' ρ' σ A' → Q c H') → t σ H Q
section
variable {X : Fam} {T : List (Addr × Str)} {W : WX}
def tYs : FT := fun ρ => .ok (true, ρ)
theorem dts_nil : DTs X T W [] tYs := ⟨_, fun _ => pts_nil, fun σ F H A ρ Q a p => p.now (Go.refl a.sub) a.rep⟩
theorem dts_one {e : Expr} {f : FT} (h : DT X T W e f) : DTs X T W [e] f := by
  obtain ⟨t, pt, s⟩ := h
  exact ⟨_, fun i => pts_one (pt i), s⟩
theorem lc_run {scope : Scope} {p : Pat} {fi : FI} {fc : FT} {fe : FE} {vs ws : List Nat} {wi : TI} {g : TG} {tt : TT} {te : TE} {σ : St} {F H : Hp} {A : List Addr} {ρ : Ev} {Q : VK} (hws : ∀ i ∈ ws, i ∈ vs) (hnd : vs.Nodup)
    (si : ∀ σ F H A ρ R, At X T F H ρ σ A → Post X.K T W σ F H A (fi ρ) (fun ds ρ' F' H' A' => ∀ J, RepS X.K F' H' ρ' σ A' → Srv X.K T J F' ds → R J H') → wi σ H R)
    (sg : PatOk X.K ws p g)
    (st : ∀ σ F H A ρ Q, At (blkF X scope) T F H ρ σ A → Post X.K T W0 σ F H A (fc ρ) (fun c ρ' F' H' A' => RepS X.K F' H' ρ' σ A' → Q c H') → tt σ H Q)
    (se : ∀ σ F H A ρ Q, At (blkF X scope) T F H ρ σ A → Post X.K T W0 σ F H A (cO fe ρ) (fun o ρ' F' H' A' => ∀ v, RepS X.K F' H' ρ' σ A' → OpdR X.K F' σ o v → Q v H') → te σ H Q)
    (a : At X T F H ρ σ A) (pp : Post X.K T W σ F H A (cLc p fi fc fe vs ρ) (fun b ρ' F' H' A' => ∀ v, RepS X.K F' H' (b :: ρ') (some v :: σ) A' → Q v H')) : tLc wi g tt te vs σ H Q := by
  refine si σ F H A ρ _ a ?_
  refine pp.bind.imp fun ds ρ1 F1 H1 A1 g1 p1 J r1 sv Dd nD => ?_
  have at1 : At X T F1 H1 ρ1 σ A1 := a.next g1 r1
  simp only at p1
  obtain ⟨Aw, rw_, mw⟩ := r1.wiped vs
  obtain ⟨rw1, nDA⟩ := rw_.fresh (o := .lst []) nD
  have g0 : Go T A1 F1 H1 ([Dd] ++ Aw) F1 (upd H1 Dd (.lst [])) := (Go.fresh g1.sub nD).less fun a m => by
    rcases List.mem_append.mp m with z | z
    · exact List.mem_append_left _ z
    · exact List.mem_append_right _ (mw a z)
  refine ⟨fun i m H' => m = ds.length - i ∧ ∃ F' A' ρ' acc xs, Go T A1 F1 H1 ([Dd] ++ A') F' H' ∧ RepS X.K F' H' ρ' (wipe σ vs) A' ∧ Dd ∉ A' ∧ H' Dd = some (.lst xs) ∧ F' Dd = none ∧ RpL X.K F' acc xs ∧
    Post X.K T W σ F' H' ([Dd] ++ A') (lcD p fc fe vs (ds.drop i) acc ρ' >>= fun r => R.ok (B.own r.1, restE ρ1 r.2 vs)) (fun b ρ' F' H' A' => ∀ v, RepS X.K F' H' (b :: ρ') (some v :: σ) A' → Q v H'),
    ⟨ds.length, by simp, F1, Aw, wipeE ρ1 vs, [], [], g0, rw1, nDA, upd_same, fresh_F g1.sub nD, .nil, by simpa using p1.after g0⟩, ?_⟩
  rintro i m H' ⟨rfl, F', A', ρ', acc, xs, g', r', nA, eD, nF, ra, p'⟩
  obtain ⟨v1, v2⟩ := sv i F' H' g'.kF g'.sub
  cases q : ds[i]? with
  | none =>
    have hl : ds.length ≤ i := List.getElem?_eq_none_iff.mp q
    rw [List.drop_eq_nil_of_le hl] at p'
    simp only [lcD, ok_bind] at p'
    refine .inl ⟨v2 hl, ?_⟩
    obtain ⟨A2, r2, m2⟩ := RepS.restore r1 g'.kF vs hnd r'
    have rr : RepS X.K F' H' (B.own acc :: restE ρ1 ρ' vs) (some (V.ref Dd) :: σ) ([Dd] ++ A2) := .cons (ft := [Dd]) ⟨Dd, xs, rfl, rfl, eD, nF, ra⟩ r2 fun a m z => by
      rw [List.mem_singleton] at m
      exact nA (m ▸ m2 a z)
    exact p'.now ((Go.refl g'.sub).less fun a m => by
      rcases List.mem_append.mp m with z | z
      · exact List.mem_append_left _ z
      · exact List.mem_append_right _ (m2 a z)) _ rr
  | some d =>
    obtain ⟨w1, w2⟩ := v1 d q
    obtain ⟨hi', he'⟩ := List.getElem?_eq_some_iff.mp q
    have ed : ds.drop i = d :: ds.drop (i + 1) := by
      rw [← he']
      exact List.drop_eq_getElem_cons hi'
    rw [ed] at p'
    refine .inr ⟨w1, fun H2 => ∃ F2 A2 ρ2 acc xs, Go T A1 F1 H1 ([Dd] ++ A2) F2 H2 ∧ RepS X.K F2 H2 ρ2 (wipe σ vs) A2 ∧ Dd ∉ A2 ∧ H2 Dd = some (.lst xs) ∧ F2 Dd = none ∧ RpL X.K F2 acc xs ∧
      Post X.K T W σ F2 H2 ([Dd] ++ A2) (lcD p fc fe vs (ds.drop (i + 1)) acc ρ2 >>= fun r => R.ok (B.own r.1, restE ρ1 r.2 vs)) (fun b ρ' F' H' A' => ∀ v, RepS X.K F' H' (b :: ρ') (some v :: σ) A' → Q v H'), fun H2 n => ⟨ds.length - (i + 1), by omega, rfl, n⟩, fun x H2 y => ?_⟩
    obtain ⟨F2, e2, e3⟩ := w2 x H2 y
    obtain ⟨g2, r2⟩ := e3 A' ρ' (wipe σ vs) r'
    have rD : BRep X.K F' H' (B.own acc) (some (V.ref Dd)) [Dd] := ⟨Dd, xs, rfl, rfl, eD, nF, ra⟩
    have dj : ∀ a ∈ [Dd], a ∉ A' := fun a m z => by
      rw [List.mem_singleton] at m
      exact nA (m ▸ z)
    obtain ⟨rD2, dj2⟩ := g2.keepB rD dj
    simp only [lcD] at p'
    cases qp : p d ρ' with
    | none =>
      rw [qp] at p'
      exact p'.elim
    | some ρ3 =>
      rw [qp] at p'
      simp only at p'
      refine sg (wipe σ vs) F2 H2 A' ρ' d x ρ3 _ g2.sub r2 e2 qp fun σ3 A3 r3 k3 m3 => ?_
      have ew : wipe σ3 vs = wipe σ vs := (wipe_eq k3 hws).trans (wipe_wipe σ vs)
      refine ⟨ew, ?_⟩
      have g3 : Go T A' F' H' A3 F2 H2 := g2.less m3
      have dj3 : ∀ a ∈ [Dd], a ∉ A3 := fun a m z => dj2 a m (m3 a z)
      have G3 : Go T A1 F1 H1 ([Dd] ++ A3) F2 H2 := g'.trans g3.beside
      refine st σ3 F2 H2 A3 ρ3 _ ⟨g3.sub, (G3.tab at1.tab), r3, trivial, G3.ntb at1.ntb⟩ ?_
      cases qc : fc ρ3 with
      | stuck =>
        rw [qc] at p'
        exact p'.elim
      | err z ρ4 =>
        rw [qc] at p'
        exact p'.elim
      | ok z =>
        obtain ⟨c, ρ4⟩ := z
        rw [qc] at p'
        intro F4 H4 A4 g4 r4
        obtain ⟨rD4, dj4⟩ := g4.keepB rD2 dj3
        have G4 : Go T A1 F1 H1 ([Dd] ++ A4) F4 H4 := G3.trans g4.beside
        have g34 : Go T ([Dd] ++ A') F' H' ([Dd] ++ A4) F4 H4 := (g3.trans g4).beside
        cases c with
        | false =>
          refine iteF ?_
          simp only at p'
          obtain ⟨A5, r5, m5⟩ := r4.wiped vs
          rw [ew] at r5
          obtain ⟨l4, xs4, e4, ef4, el4, nl4, rl4⟩ := rD4
          cases e4
          refine ⟨F4, A5, wipeE ρ4 vs, acc, xs4, G4.less ?_, r5, fun z => dj4 Dd (by simp) (m5 _ z), el4, nl4, rl4, (p'.after (g34.less ?_))⟩ <;>
          · intro b m
            rcases List.mem_append.mp m with z | z
            · exact List.mem_append_left _ z
            · exact List.mem_append_right _ (m5 b z)
        | true =>
          refine iteT ?_
          simp only at p'
          refine se σ3 F4 H4 A4 ρ4 _ ⟨g4.sub, G4.tab at1.tab, r4, trivial, G4.ntb at1.ntb⟩ ?_
          cases qe : cO fe ρ4 with
          | stuck =>
            rw [qe] at p'
            exact p'.elim
          | err z ρ5 =>
            rw [qe] at p'
            exact p'.elim
          | ok z =>
            obtain ⟨o, ρ5⟩ := z
            rw [qe] at p'
            cases o with
            | var _ => exact p'.elim
            | val d' =>
              simp only at p'
              intro F5 H5 A5 g5 v r5 o5
              obtain ⟨rD5, dj5⟩ := g5.keepB rD4 dj4
              obtain ⟨l5, xs5, e5, ef5, el5, nl5, rl5⟩ := rD5
              cases e5
              split at p'
              · rename_i hsz
                refine ⟨xs5, el5, by rw [← rl5.length]; exact hsz, ?_⟩
                obtain ⟨A6, r6, m6⟩ := r5.wiped vs
                rw [ew] at r6
                have nD6 : Dd ∉ A6 := fun z => dj5 Dd (by simp) (m6 _ z)
                have gw : Go T ([Dd] ++ A5) F5 H5 ([Dd] ++ A5) F5 (upd H5 Dd (.lst (xs5 ++ [v]))) := Go.write g5.sub (by simp) nl5 el5 (fun _ z => by cases z) (fun _ z => by cases z)
                have G6 : Go T A1 F1 H1 ([Dd] ++ A5) F5 (upd H5 Dd (.lst (xs5 ++ [v]))) := (G4.trans g5.beside).trans gw
                have g6 : Go T ([Dd] ++ A') F' H' ([Dd] ++ A5) F5 (upd H5 Dd (.lst (xs5 ++ [v]))) := (g34.trans g5.beside).trans gw
                have r7 : RepS X.K F5 (upd H5 Dd (.lst (xs5 ++ [v]))) (wipeE ρ5 vs) (wipe σ vs) A6 := r6.stab (Sub.refl F5) (fun a m => upd_ne fun z => nD6 (by rw [← z]; exact m)) (fun a m => (r6.live a m).2)
                refine ⟨F5, A6, wipeE ρ5 vs, acc ++ [d'], xs5 ++ [v], G6.less ?_, r7, nD6, upd_same, nl5, rl5.append (.cons o5 .nil), (p'.after (g6.less ?_))⟩ <;>
                · intro b m
                  rcases List.mem_append.mp m with z | z
                  · exact List.mem_append_left _ z
                  · exact List.mem_append_right _ (m6 b z)
              · exact p'.elim
theorem de_lc {elt tg iter : Expr} {ifs : List Expr} {scope : Scope} {p : Pat} {fi : FI} {fc : FT} {fe : FE} {ws : List Nat} {pos : Pos} (own : List (Str × Nat)) (hc : ∀ i, (X.at_ i).calm = true) (hN : ∀ i, (X.at_ i).N.Nodup) (hi : DI X T W tg iter fi) (ok : ∀ i, BlkOk (X.at_ i).N (X.at_ i).env.scope scope own)
    (hg : DG (blkF X scope) ws tg p) (ht : DTs (blkF X scope) T W0 ifs fc) (he : DE (blkF X scope) T W0 elt fe) (hws : ∀ i ∈ ws, i ∈ own.map (·.2) := by decide) (hnd : (own.map (·.2)).Nodup := by decide) (hs : ∀ i x, foldedSetIterable iter (X.at_ i).env x = pure x := by intro _ _; rfl) :
    DE X T W (.ListComp elt [⟨tg, iter, ifs, 0⟩] scope pos) (cLc p fi fc fe (own.map (·.2))) := by
  obtain ⟨wi, pi, si⟩ := hi
  obtain ⟨g, pg, sg⟩ := hg
  obtain ⟨tt, pt, st⟩ := ht
  obtain ⟨te, pe, se⟩ := do_e he
  exact ⟨_, fun i => pe_lc (hc i) (hN i) (pi i) (ok i) (fun s H C cl fp => pg (i, s, H, C, cl, fp)) (fun s H C cl fp => pt (i, s, H, C, cl, fp)) (fun s H C cl fp => pe (i, s, H, C, cl, fp)) (hs i), fun σ F H A ρ Q a p => lc_run hws hnd si sg st se a p⟩
/-- y = [..] -/
theorem ds_setLc (i : Nat) {P : List Nat} {y : Str} {py : Pos} {elt tg iter : Expr} {ifs : List Expr} {scope : Scope} {p : Pat} {fi : FI} {fc : FT} {fe : FE} {ws : List Nat} {pos spos : Pos} (own : List (Str × Nat)) (hP : i ∉ P) (hc : ∀ i, (X.at_ i).calm = true) (hN : ∀ i, (X.at_ i).N.Nodup) (hi : DI X T W tg iter fi) (ok : ∀ i, BlkOk (X.at_ i).N (X.at_ i).env.scope scope own)
    (hg : DG (blkF X scope) ws tg p) (ht : DTs (blkF X scope) T W0 ifs fc) (he : DE (blkF X scope) T W0 elt fe) (hy : ∀ j, (X.at_ j).N[i]? = some y := by intro _; rfl) (hyl : ∀ j, (X.at_ j).env.scope.names.lookup y = some .local := by intro _; rfl)
    (hsw : ∀ j, swapsWith (.ListComp elt [⟨tg, iter, ifs, 0⟩] scope pos) (some (.Name y py)) spos.line (X.at_ j).env = pure true := by intro _; exact sw_true rfl rfl rfl (by decide +kernel))
    (hws : ∀ i ∈ ws, i ∈ own.map (·.2) := by decide) (hnd : (own.map (·.2)).Nodup := by decide) (hs : ∀ i x, foldedSetIterable iter (X.at_ i).env x = pure x := by intro _ _; rfl) :
    DS X T W P (.Assign [.Name y py] (.ListComp elt [⟨tg, iter, ifs, 0⟩] scope pos) spos) (sSet i (cLc p fi fc fe (own.map (·.2)))) := by
  obtain ⟨wi, pi, si⟩ := hi
  obtain ⟨g, pg, sg⟩ := hg
  obtain ⟨tt, pt, st⟩ := ht
  obtain ⟨te, pe, se⟩ := do_e he
  refine ⟨_, fun j => ps_setLc (hc j) (hN j) (hy j) (hyl j) (hsw j) (pi j) (ok j) (fun s H C cl fp => pg (j, s, H, C, cl, fp)) (fun s H C cl fp => pt (j, s, H, C, cl, fp)) (fun s H C cl fp => pe (j, s, H, C, cl, fp)) (hs j), fun hps σ F H A ρ E a pp => ?_⟩
  refine lc_run (Q := fun x H1 => gName i x σ H1 E.nx) hws hnd si sg st se a ?_
  refine pp.out.imp fun b ρ1 F1 H1 A1 g1 p1 v r => ?_
  obtain ⟨A2, r2, m⟩ := r.store (i := i)
  exact p1.nowN ((Go.refl g1.sub).less m) r2 (Keep.set hP)
/-- y = [..], its list given up at once -/
def sSetD (i : Nat) (f : FE) : FS := fun ρ => (f ρ).out fun p => (ofO (frz p.1)).out fun d => .nx (p.2.set i (.dat d))
theorem ds_frz {P : List Nat} {i : Nat} {s : Stmt} {f : FE} (h : DS X T W P s (sSet i f)) : DS X T W P s (sSetD i f) := by
  obtain ⟨t, ps, s1⟩ := h
  refine ⟨t, ps, fun hps σ F H A ρ E a p => s1 hps σ F H A ρ E a ?_⟩
  unfold sSetD at p
  unfold sSet
  cases q : f ρ with
  | stuck =>
    rw [q] at p
    exact p
  | err x ρ1 =>
    rw [q] at p
    exact p
  | ok z =>
    obtain ⟨b, ρ1⟩ := z
    rw [q] at p
    simp only [out_ok] at p ⊢
    obtain ⟨d, e1, p⟩ := p.opt
    intro σ' F' H' A' g r k
    -- the slot's own list is given up behind the store
    by_cases hl : i < ρ1.length
    · have gi : (ρ1.set i b)[i]? = some b := List.getElem?_set_self hl
      obtain ⟨sv, ft, e2, k2, m2⟩ := r.get gi
      obtain ⟨A2, r2, m3, _⟩ := r.takeOut gi e2
      obtain ⟨v, F3, A3, e3, g3, r3, z⟩ := freeze (T := T) r2 g.sub e1
      subst e3
      have r4 := r3.dat z
      obtain ⟨A4, r5, m5⟩ := r4.putBack e2
      rw [List.set_set, List.set_set] at r5
      have g4 : Go T A' F' H' A4 F3 H' := ((Go.refl g.sub).less m3).trans (g3.less m5)
      exact p.nowN (g.trans g4) r5 k
    · have e2 : ρ1.set i b = ρ1 := List.set_eq_of_length_le (by omega)
      have e3 : ρ1.set i (.dat d) = ρ1 := List.set_eq_of_length_le (by omega)
      rw [e2] at r
      rw [e3] at p
      exact p.nowN g r k
end
end Dl
set_option Elab.async false
set_option linter.all false
set_option maxRecDepth 100000
namespace Dl
open PySem PySem.Spec L2
open PyProof.Rows hiding St
/-! ## defs -/
inductive FR where
  | ok (ret : B) (outs : List B)
  | er (x : Exc) (outs : List B)
  | stuck
abbrev FG := List B → FR
def PostF (K : PySem.W.Frag) (T : List (Addr × Str)) (vs : List V) (F H : Hp) (A : List Addr) (o : FR) (Q : VK) (E : XK) : Prop := match o with
  | .ok ret outs => ∀ v F' H' A', Go T A F H A' F' H' → RepS K F' H' (ret :: outs) (some v :: vs.map some) A' → Q v H'
  | .er x outs => ∀ F' H' A' cls dd, Go T A F H A' F' H' → RepS K F' H' outs (vs.map some) A' → RepX K F' x cls dd → E cls dd H'
  | .stuck => False
/-- the promise: the def is the function G -/
def spD (K : PySem.W.Frag) (T : List (Addr × Str)) (n : Nat) (G : FG) : Sp := fun vs H Q E => vs.length = n ∧ ∃ F A bs, Sub F H ∧ NoTb F ∧ LamX.Tabs T H ∧ RepS K F H bs (vs.map some) A ∧ PostF K T vs F H A (G bs) Q E
section
variable {K : PySem.W.Frag} {F H : Hp} {A : List Addr}
theorem RepS.split : ∀ {ρ1 ρ2 : Ev} {σ1 σ2 : St} {A : List Addr}, ρ1.length = σ1.length → RepS K F H (ρ1 ++ ρ2) (σ1 ++ σ2) A → ∃ A1 A2, RepS K F H ρ1 σ1 A1 ∧ RepS K F H ρ2 σ2 A2 ∧ A = A1 ++ A2 ∧ ∀ a ∈ A1, a ∉ A2
  | [], _, [], _, A, _, h => ⟨[], A, .nil, h, rfl, fun a m => by cases m⟩
  | b :: ρ1, ρ2, sv :: σ1, σ2, A, e, h => by
    obtain ⟨ft, A0, rfl, k, t, dj⟩ := RepS.head (ρ := ρ1 ++ ρ2) (σ := σ1 ++ σ2) h
    obtain ⟨A1, A2, r1, r2, rfl, d2⟩ := RepS.split (Nat.succ.inj e) t
    refine ⟨ft ++ A1, A2, .cons k r1 fun a m z => dj a m (List.mem_append_left _ z), r2, (List.append_assoc ..).symm, fun a m z => ?_⟩
    rcases List.mem_append.mp m with y | y
    · exact dj a y (List.mem_append_right _ z)
    · exact d2 a y z
theorem RepS.join : ∀ {ρ1 ρ2 : Ev} {σ1 σ2 : St} {A1 A2 : List Addr}, RepS K F H ρ1 σ1 A1 → RepS K F H ρ2 σ2 A2 → (∀ a ∈ A1, a ∉ A2) → RepS K F H (ρ1 ++ ρ2) (σ1 ++ σ2) (A1 ++ A2) := by
  intro ρ1 ρ2 σ1 σ2 A1 A2 h k
  induction h with
  | nil => exact fun _ => k
  | @cons b sv ft ρ σ A0 hb _ dj ih =>
    intro d
    have q : RepS K F H (b :: (ρ ++ ρ2)) (sv :: (σ ++ σ2)) (ft ++ (A0 ++ A2)) := .cons hb (ih fun a m => d a (List.mem_append_right _ m)) fun a m z => by
      rcases List.mem_append.mp z with y | y
      · exact dj a m y
      · exact d a (List.mem_append_left _ m) y
    rw [List.append_assoc]
    exact q
def takeArgs : List Opd → Ev → Option (List B × Ev)
  | [], ρ => some ([], ρ)
  | .val d :: os, ρ => (takeArgs os ρ).map fun p => (.dat d :: p.1, p.2)
  | .var i :: os, ρ => (ρ[i]?).bind fun b => (takeArgs os (ρ.set i .un)).map fun p => (b :: p.1, p.2)
def putArgs : List Opd → List B → Ev → Option Ev
  | [], [], ρ => some ρ
  | .val _ :: os, _ :: bs, ρ => putArgs os bs ρ
  | .var i :: os, b :: bs, ρ => (putArgs os bs ρ).map fun ρ' => ρ'.set i b
  | _, _, _ => none
theorem take_ok {σ : St} : ∀ {os : List Opd} {vs : List V} {ρ ρ' : Ev} {bs : List B} {A : List Addr}, RepS K F H ρ σ A → Paired (OpdR K F σ) os vs → takeArgs os ρ = some (bs, ρ') → ∃ A', RepS K F H (bs ++ ρ') (vs.map some ++ σ) A' ∧ (∀ a ∈ A', a ∈ A) ∧ bs.length = vs.length
  | [], _, ρ, ρ', bs, A, r, p, e => by
    cases p
    cases e
    exact ⟨A, r, fun _ m => m, rfl⟩
  | .val d :: os, _, ρ, ρ', bs, A, r, p, e => by
    cases p with
    | cons h1 h2 =>
      simp only [takeArgs] at e
      cases q : takeArgs os ρ with
      | none =>
        rw [q] at e
        cases e
      | some z =>
        rw [q] at e
        cases e
        obtain ⟨A', r', m, l⟩ := take_ok (bs := z.1) (ρ' := z.2) r h2 q
        exact ⟨A', r'.dat h1, m, by rw [List.length_cons, List.length_cons, l]⟩
  | .var i :: os, _, ρ, ρ', bs, A, r, p, e => by
    cases p with
    | @cons _ v _ ws h1 h2 =>
      simp only [takeArgs] at e
      cases qb : ρ[i]? with
      | none =>
        rw [qb] at e
        cases e
      | some b =>
        rw [qb] at e
        simp only [Option.bind_some] at e
        cases q : takeArgs os (ρ.set i .un) with
        | none =>
          rw [q] at e
          cases e
        | some z =>
          rw [q] at e
          cases e
          obtain ⟨A1, r1, m1, _⟩ := r.takeOut qb (show σ[i]? = some (some v) from h1)
          obtain ⟨ft, A2, rfl, k, t, dj⟩ := r1.head
          obtain ⟨A', r', m, l⟩ := take_ok (bs := z.1) (ρ' := z.2) t h2 q
          refine ⟨ft ++ A', .cons k r' fun a x y => dj a x (m a y), fun a x => ?_, by rw [List.length_cons, List.length_cons, l]⟩
          rcases List.mem_append.mp x with y | y
          · exact m1 a (List.mem_append_left _ y)
          · exact m1 a (List.mem_append_right _ (m a y))
theorem put_ok {σ : St} {F0 : Hp} : ∀ {os : List Opd} {vs : List V} {bs : List B} {ρ ρ' : Ev} {A : List Addr}, RepS K F H (bs ++ ρ) (vs.map some ++ σ) A → Paired (OpdR K F0 σ) os vs → putArgs os bs ρ = some ρ' → ∃ A', RepS K F H ρ' σ A' ∧ ∀ a ∈ A', a ∈ A
  | [], _, [], ρ, ρ', A, r, p, e => by
    cases p
    cases e
    exact ⟨A, r, fun _ m => m⟩
  | [], _, _ :: _, ρ, ρ', A, r, p, e => by cases e
  | .val _ :: os, _, [], ρ, ρ', A, r, p, e => by cases e
  | .var _ :: os, _, [], ρ, ρ', A, r, p, e => by cases e
  | .val d :: os, _, b :: bs, ρ, ρ', A, r, p, e => by
    cases p with
    | cons h1 h2 =>
      simp only [putArgs] at e
      obtain ⟨A1, r1, m1⟩ := RepS.tail (ρ := bs ++ ρ) r
      obtain ⟨A2, r2, m2⟩ := put_ok r1 h2 e
      exact ⟨A2, r2, fun a m => m1 a (m2 a m)⟩
  | .var i :: os, _, b :: bs, ρ, ρ', A, r, p, e => by
    cases p with
    | @cons _ v _ ws h1 h2 =>
      simp only [putArgs] at e
      cases q : putArgs os bs ρ with
      | none =>
        rw [q] at e
        cases e
      | some ρ1 =>
        rw [q] at e
        cases e
        obtain ⟨ft, A1, rfl, k, t, dj⟩ := RepS.head (ρ := bs ++ ρ) r
        obtain ⟨A2, r2, m2⟩ := put_ok t h2 q
        have rc : RepS K F H (b :: ρ1) (some v :: σ) (ft ++ A2) := .cons k r2 fun a x y => dj a x (m2 a y)
        obtain ⟨A3, r3, m3⟩ := rc.putBack (show σ[i]? = some (some v) from h1)
        refine ⟨A3, r3, fun a m => ?_⟩
        rcases List.mem_append.mp (m3 a m) with y | y
        · exact List.mem_append_left _ y
        · exact List.mem_append_right _ (m2 a y)
end
def cCall (G : FG) (f : FA) : FE := fun ρ => f ρ >>= fun p => ofO (takeArgs p.1 p.2) >>= fun q => match G q.1 with
  | .ok ret outs => ofO (putArgs p.1 outs q.2) >>= fun ρ' => .ok (ret, ρ')
  | .er x outs => match putArgs p.1 outs q.2 with
    | some ρ' => .err x ρ'
    | none => .stuck
  | .stuck => .stuck
/-- the def x is there, and is the function G -/
structure Callee (X : Fam) (T : List (Addr × Str)) (x : Str) (n : Nat) (G : FG) : Prop where
  get : ∀ i, ∃ k f fd ps, FnOk (X.at_ i).prog (X.at_ i).w (X.at_ i).K (X.at_ i).mg (X.at_ i).base (L2.CX (X.at_ i).prog (X.at_ i).w) k f fd ps (spD X.K T n G) ∧ Room k (X.at_ i).A ∧ Gl (X.at_ i) x ∧ (X.at_ i).mg x = some (.ref f) ∧ PySem.W.keepIn (X.at_ i).K (.ref f) = true ∧ Binds (X.at_ i).K fd ps []
section
variable {X : Fam} {T : List (Addr × Str)} {W : WX}
theorem run_call {n : Nat} {G : FG} {os : List Opd} {vs : List V} {σ : St} {F H : Hp} {A : List Addr} {ρ : Ev} {Q : VK} (hn : vs.length = n) (sub : Sub F H) (ntb : NoTb F) (tab : LamX.Tabs T H) (r : RepS X.K F H ρ σ A) (o : Paired (OpdR X.K F σ) os vs)
    (p : Post X.K T W σ F H A (ofO (takeArgs os ρ) >>= fun q => match G q.1 with
      | .ok ret outs => ofO (putArgs os outs q.2) >>= fun ρ' => .ok (ret, ρ')
      | .er x outs => match putArgs os outs q.2 with
        | some ρ' => .err x ρ'
        | none => .stuck
      | .stuck => .stuck) (fun b ρ' F' H' A' => ∀ v, RepS X.K F' H' (b :: ρ') (some v :: σ) A' → Q v H')) : spD X.K T n G vs H Q (WE W σ) := by
  obtain ⟨⟨bs, ρ2⟩, e1, p⟩ := p.opt
  obtain ⟨A1, r1, m1, l1⟩ := take_ok r o e1
  obtain ⟨Aa, Ar, ra, rr, rfl, dj⟩ := RepS.split (by rw [List.length_map, l1]) r1
  refine ⟨hn, F, Aa, bs, sub, ntb, tab, ra, ?_⟩
  simp only at p
  cases q : G bs with
  | stuck =>
    rw [q] at p
    exact p.elim
  | er x outs =>
    rw [q] at p
    simp only at p
    cases qp : putArgs os outs ρ2 with
    | none =>
      rw [qp] at p
      exact p.elim
    | some ρ3 =>
      rw [qp] at p
      intro F' H' A' cls dd g r' rx
      obtain ⟨rr', djr⟩ := g.keepS rr fun a m z => dj a z m
      have rj := RepS.join r' rr' fun a m z => djr a z m
      obtain ⟨A3, r3, m3⟩ := put_ok rj o qp
      have g' : Go T A F H A3 F' H' := ((g.beside (A2 := Ar)).more fun a m => by
        rcases List.mem_append.mp m with z | z
        · exact m1 a (List.mem_append_right _ z)
        · exact m1 a (List.mem_append_left _ z)).less fun a m => by
          rcases List.mem_append.mp (m3 a m) with z | z
          · exact List.mem_append_right _ z
          · exact List.mem_append_left _ z
      exact p F' H' A3 cls dd g' r3 rx
  | ok ret outs =>
    rw [q] at p
    simp only at p
    obtain ⟨ρ3, qp, p⟩ := p.opt
    intro v F' H' A' g r'
    obtain ⟨rr', djr⟩ := g.keepS rr fun a m z => dj a z m
    obtain ⟨ft, Ao, rfl, k, t, dj2⟩ := r'.head
    have rj := RepS.join t rr' fun a m z => djr a z (List.mem_append_right _ m)
    obtain ⟨A3, r3, m3⟩ := put_ok rj o qp
    have rc : RepS X.K F' H' (ret :: ρ3) (some v :: σ) (ft ++ A3) := .cons k r3 fun a m z => by
      rcases List.mem_append.mp (m3 a z) with y | y
      · exact dj2 a m y
      · exact djr a y (List.mem_append_left _ m)
    have g' : Go T A F H (ft ++ A3) F' H' := ((g.beside (A2 := Ar)).more fun a m => by
      rcases List.mem_append.mp m with z | z
      · exact m1 a (List.mem_append_right _ z)
      · exact m1 a (List.mem_append_left _ z)).less fun a m => by
        rcases List.mem_append.mp m with z | z
        · exact List.mem_append_right _ (List.mem_append_left _ z)
        · rcases List.mem_append.mp (m3 a z) with y | y
          · exact List.mem_append_right _ (List.mem_append_right _ y)
          · exact List.mem_append_left _ y
    exact p.now g' v rc
theorem Paired.lengthOf {α β : Type} {R : α → β → Prop} : ∀ {as : List α} {bs : List β}, Paired R as bs → as.length = bs.length
  | _, _, .nil => rfl
  | _, _, .cons _ t => by rw [List.length_cons, List.length_cons, Paired.lengthOf t]
def LenA (f : FA) (n : Nat) : Prop := ∀ ρ, match f ρ with | .ok z => z.1.length = n | _ => True
theorem de_call {x : Str} {n : Nat} {G : FG} {e : Expr} {es : List Expr} {f : FA} {p pos : Pos} (c : Callee X T x n G) (tk : ∀ i, Takes (X.at_ i) W) (h : DA X T W (e :: es) f) (hn : LenA f n) (hdb : (x == ("__debug__" : Str)) = false := by decide)
    (he : ∀ i, starEach (e :: es) (X.at_ i).env = (false, eval e (X.at_ i).env) :: starEach es (X.at_ i).env := by intro _; rfl) (hpl : ∀ i, (backTo pos (starEach es (X.at_ i).env)).any (·.1) = false := by intro _; rfl) : DE X T W (.Call (.Name x p) (e :: es) [] pos) (cCall G f) := by
  obtain ⟨t, pa, s⟩ := h
  refine ⟨tCallS (spD X.K T n G) (WE W) t, fun i => ?_, fun σ F H A ρ Q a p => s σ F H A ρ _ a ?_⟩
  · obtain ⟨k, fa, fd, ps, F, hr, hg, hm, hk, hb⟩ := c.get i
    exact pe_callS F hr hg hm hk hb (fun σ => passAt (tk i) σ) (pa i) hdb (he i) (hpl i)
  · have hn' := hn ρ
    have pb := p.bind
    cases q : f ρ with
    | stuck =>
      rw [q] at pb
      exact pb.elim
    | err x ρ1 =>
      rw [q] at pb
      exact pb
    | ok z =>
      obtain ⟨os, ρ1⟩ := z
      rw [q] at pb hn'
      intro F1 H1 A1 g1 vs r1 o1
      exact run_call (by rw [← Paired.lengthOf o1]; exact hn') g1.sub (g1.ntb a.ntb) (g1.tab a.tab) r1 o1 (pb F1 H1 A1 g1)
/-- how many arguments -/
theorem lenA_nil : LenA aNil 0 := fun _ => rfl
theorem lenA_cons {f : FO} {g : FA} (n : Nat) (h : LenA g n) : LenA (aCons f g) (n + 1) := fun ρ => by
  unfold aCons
  cases f ρ with
  | stuck => exact True.intro
  | err x ρ1 => exact True.intro
  | ok p =>
    have q := h p.2
    simp only [ok_bind]
    cases e : g p.2 with
    | stuck => exact True.intro
    | err x ρ1 => exact True.intro
    | ok z =>
      rw [e] at q
      exact congrArg Nat.succ q
end
/-! ## a def's body -/
def outsD (Pr : List Nat) : Nat → Nat → Ev → List B
  | _, 0, _ => []
  | j, n + 1, [] => .un :: outsD Pr (j + 1) n []
  | j, n + 1, b :: ρ => (if Pr.contains j = true then b else .un) :: outsD Pr (j + 1) n ρ
section
variable {K : PySem.W.Frag} {F H : Hp}
theorem outs_ok (Pr : List Nat) : ∀ (n j : Nat) {ρ : Ev} {σ svs : St} {A : List Addr}, RepS K F H ρ σ A → svs.length = n → (∀ i, i < n → Pr.contains (j + i) = true → i < ρ.length → σ[i]? = svs[i]?) → ∃ A', RepS K F H (outsD Pr j n ρ) svs A' ∧ ∀ a ∈ A', a ∈ A
  | 0, j, ρ, σ, svs, A, r, hl, k => by
    cases List.length_eq_zero_iff.mp hl
    exact ⟨[], .nil, fun a m => by cases m⟩
  | n + 1, j, [], σ, sv :: svs, A, r, hl, k => by
    obtain ⟨A', r', m⟩ := outs_ok Pr n (j + 1) (ρ := []) (σ := []) (svs := svs) (A := []) .nil (Nat.succ.inj hl) fun i _ _ h => absurd h (Nat.not_lt_zero _)
    exact ⟨A', r'.un, fun a z => absurd (m a z) (by simp)⟩
  | n + 1, j, b :: ρ, s0 :: σ, sv :: svs, A, r, hl, k => by
    obtain ⟨ft, A1, rfl, kb, t, dj⟩ := r.head
    obtain ⟨A', r', m⟩ := outs_ok Pr n (j + 1) t (Nat.succ.inj hl) fun i hi hp hlt => by
      have q := k (i + 1) (Nat.succ_lt_succ hi) (by rw [show j + (i + 1) = j + 1 + i by omega]; exact hp) (Nat.succ_lt_succ hlt)
      simpa using q
    unfold outsD
    by_cases hc : Pr.contains j = true
    · rw [if_pos hc]
      have q := k 0 (Nat.zero_lt_succ _) (by simpa using hc) (Nat.zero_lt_succ _)
      simp at q
      subst q
      refine ⟨ft ++ A', .cons kb r' fun a x y => dj a x (m a y), fun a x => ?_⟩
      rcases List.mem_append.mp x with y | y
      · exact List.mem_append_left _ y
      · exact List.mem_append_right _ (m a y)
    · rw [if_neg hc]
      exact ⟨A', r'.un, fun a x => List.mem_append_right _ (m a x)⟩
end
/-- a body as a def's function -/
def toF (Pr : List Nat) (n nN : Nat) (g : FS) : FG := fun bs => match g (bs ++ List.replicate (nN - n) .un) with
  | .rt b ρ => .ok b (outsD Pr 0 n ρ)
  | .nx ρ => .ok (.dat .non) (outsD Pr 0 n ρ)
  | .er x ρ => .er x (outsD Pr 0 n ρ)
  | _ => .stuck
/-- one context alone -/
def oneF (X : Cx) : Fam := ⟨Unit, fun _ => X, X.K, fun _ => rfl, fun _ _ => True, [], fun _ _ _ => trivial⟩
theorem rep_uns {K : PySem.W.Frag} {F H : Hp} : ∀ n, RepS K F H (List.replicate n .un) (List.replicate n none) []
  | 0 => .nil
  | n + 1 => (rep_uns n).un
section
variable {P : Program} {w : World} {K : PySem.W.Frag} {mg : Str → Option Value} {base : Heap}
/-- THE RULE for a def, its code object told -/
theorem fn_dC {x qual : Str} {st : Stmt} {f : Addr} {N ps : List Str} {k : Nat} {T : List (Addr × Str)} {g : FS} {kV doc pm cdv ct oc : Value} {an od : Option Addr} {osl : Array (Option Value)} (Pr : List Nat) (lk : K.lookup f = some ⟨oc, od, .func (PySem.W.fnOf x qual (defArgs st) (defBody st) (defScope st) .none kV doc pm an cdv ct), osl⟩) (hcd : PySem.W.codeIn K cdv qual = true) (S : FnScope N ps (defScope st)) (hPr : ∀ j ∈ Pr, j < ps.length)
    (hbody : ∀ (A : Around) (outer : List Env) (s : Shared) (H : Hp) (E : XK), Room k (A.deeper (envOfC qual (defScope st) s.heap.objs.size f cdv)) →
      DSs (oneF (cxOf (L2.CX P w) P w K mg base N qual (defScope st) f cdv A outer s H E)) T (fun cls d _ H => E cls d H) Pr (defBody st) g) : FnOk P w K mg base (L2.CX P w) (k + 1) f (PySem.W.fnOf x qual (defArgs st) (defBody st) (defScope st) .none kV doc pm an cdv ct) ps (spD K T ps.length (toF Pr ps.length N.length g)) := by
  refine fn_of lk hcd S (fun vs H Q E h => h.1) (fun A outer s H vs Q E hr h => ?_)
  obtain ⟨hl, F0, A0, bs, sub, ntb, tab, rep, p⟩ := h
  obtain ⟨t, pss, sound⟩ := hbody A outer s H E hr
  refine ⟨t, pss (), sound (fun i h => nomatch (show i ∈ ([] : List Nat) from h)) _ F0 H A0 (bs ++ List.replicate (N.length - ps.length) .un) _ ⟨sub, tab, ?_, trivial, ntb⟩ ?_⟩
  · have q := RepS.join rep (rep_uns (K := K) (F := F0) (H := H) (N.length - ps.length)) fun a m z => by cases z
    rw [List.append_nil] at q
    unfold L2.start
    rw [hl]
    exact q
  · have keep : ∀ {σ' : St}, Keep Pr (L2.start N vs) σ' → ∀ i, i < ps.length → Pr.contains (0 + i) = true → σ'[i]? = (vs.map some)[i]? := fun k i hi hc => by
      rw [Nat.zero_add] at hc
      rw [k i (by simpa using hc)]
      unfold L2.start
      rw [List.getElem?_append_left (by rw [List.length_map, hl]; exact hi)]
    unfold toF at p
    cases q : g (bs ++ List.replicate (N.length - ps.length) .un) with
    | stuck =>
      rw [q] at p
      exact p.elim
    | bk ρ =>
      rw [q] at p
      exact p.elim
    | ct ρ =>
      rw [q] at p
      exact p.elim
    | nx ρ =>
      rw [q] at p
      intro σ' F' H' A' g' r' k'
      obtain ⟨A2, r2, m2⟩ := outs_ok Pr ps.length 0 r' (svs := vs.map some) (by rw [List.length_map]; exact hl) fun i hi hc _ => keep k' i hi hc
      exact p .non F' H' A2 (g'.less m2) (r2.dat rp_non)
    | rt b ρ =>
      rw [q] at p
      intro v σ' F' H' A' g' r' k'
      obtain ⟨ft, A1, rfl, kb, t', dj⟩ := r'.head
      obtain ⟨A2, r2, m2⟩ := outs_ok Pr ps.length 0 t' (svs := vs.map some) (by rw [List.length_map]; exact hl) fun i hi hc _ => keep k' i hi hc
      exact p v F' H' (ft ++ A2) (g'.less fun a m => by
        rcases List.mem_append.mp m with z | z
        · exact List.mem_append_left _ z
        · exact List.mem_append_right _ (m2 a z)) (.cons kb r2 fun a m z => dj a m (m2 a z))
    | er x ρ =>
      rw [q] at p
      intro σ' F' H' A' cls dd g' r' k' rx
      obtain ⟨A2, r2, m2⟩ := outs_ok Pr ps.length 0 r' (svs := vs.map some) (by rw [List.length_map]; exact hl) fun i hi hc _ => keep k' i hi hc
      exact p F' H' A2 cls dd (g'.less m2) r2 rx
/-- THE RULE for a def -/
theorem fn_d {x qual : Str} {st : Stmt} {f : Addr} {fd : FuncData} {N ps : List Str} {k : Nat} {T : List (Addr × Str)} {g : FS} (Pr : List Nat) (F : Fun K x qual st f fd) (S : FnScope N ps (defScope st)) (hPr : ∀ j ∈ Pr, j < ps.length)
    (hbody : ∀ (cdv : Value) (A : Around) (outer : List Env) (s : Shared) (H : Hp) (E : XK), Room k (A.deeper (envOfC qual (defScope st) s.heap.objs.size f cdv)) →
      DSs (oneF (cxOf (L2.CX P w) P w K mg base N qual (defScope st) f cdv A outer s H E)) T (fun cls d _ H => E cls d H) Pr (defBody st) g) : FnOk P w K mg base (L2.CX P w) (k + 1) f fd ps (spD K T ps.length (toF Pr ps.length N.length g)) := by
  obtain ⟨oc, od, kV, doc, pm, an, cdv, ct, osl, rfl, lk, hcd⟩ := F.ex
  exact fn_dC Pr lk hcd S hPr fun A outer s H E hr => hbody cdv A outer s H E hr
end
end Dl
set_option Elab.async false
set_option linter.all false
set_option maxRecDepth 100000
namespace Dl
open PySem PySem.Spec L2
open PyProof.Rows hiding St
/-! ## built-in functions and classes, called -/
def cCB (g : List D → Option B) (f : FA) : FE := fun ρ => f ρ >>= fun p => ofO (rds p.2 p.1) >>= fun ds => ofO (g ds) >>= fun b => .ok (b, p.2)
section
variable {X : Fam} {T : List (Addr × Str)} {W : WX}
theorem runCB {r : List V → Hp → VK → Prop} {g : List D → Option B} (hv : VL X.K T r g) {t : TA} {f : FA} {σ : St} {F H : Hp} {A : List Addr} {ρ : Ev} {Q : VK}
    (s : ∀ σ F H A ρ Q, At X T F H ρ σ A → Post X.K T W σ F H A (f ρ) (fun os ρ' F' H' A' => ∀ vs, RepS X.K F' H' ρ' σ A' → Paired (OpdR X.K F' σ) os vs → Q vs H') → t σ H Q)
    (a : At X T F H ρ σ A) (p : Post X.K T W σ F H A (cCB g f ρ) (fun b ρ' F' H' A' => ∀ v, RepS X.K F' H' (b :: ρ') (some v :: σ) A' → Q v H')) : tCB r t σ H Q := by
  refine s σ F H A ρ _ a ?_
  refine p.bind.imp fun os ρ1 F1 H1 A1 g1 p1 vs r1 o1 => ?_
  obtain ⟨ds, e1, p1⟩ := p1.opt
  obtain ⟨b, e2, p1⟩ := p1.opt
  exact hv F1 H1 A1 ρ1 σ ds vs b Q g1.sub r1 (rds_top g1.sub r1 o1 e1) e2 fun w F3 H3 A3 g3 r3 => p1.now g3 w r3
theorem de_cb {x : Str} {id : String} {r : List V → Hp → VK → Prop} {g : List D → Option B} {e : Expr} {es : List Expr} {f : FA} {p pos : Pos} (hc : ∀ i, CallR (X.at_ i) (.builtin id) r) (hvl : VL X.K T r g) (hm : ∀ i, (X.at_ i).mg x = none) (hv : bootBuiltins x = some (.builtin id)) (h : DA X T W (e :: es) f) (hg : ∀ i, Gl (X.at_ i) x := by intro _; rfl)
    (hn : x ≠ "__name__" := by decide) (hdb : (x == ("__debug__" : Str)) = false := by decide)
    (he : ∀ i, starEach (e :: es) (X.at_ i).env = (false, eval e (X.at_ i).env) :: starEach es (X.at_ i).env := by intro _; rfl) (hpl : ∀ i, (backTo pos (starEach es (X.at_ i).env)).any (·.1) = false := by intro _; rfl) : DE X T W (.Call (.Name x p) (e :: es) [] pos) (cCB g f) := by
  obtain ⟨t, pa, s⟩ := h
  exact ⟨_, fun i => pe_callB (hc i) (hg i) (hm i) hv (pa i) hn hdb (he i) (hpl i), fun σ F H A ρ Q a p => runCB hvl s a p⟩
theorem de_ct {x : Str} {id : String} {r : List V → Hp → VK → Prop} {g : List D → Option B} {e : Expr} {es : List Expr} {f : FA} {p pos : Pos} (hc : ∀ i, CallR (X.at_ i) (.type id) r) (hvl : VL X.K T r g) (hm : ∀ i, (X.at_ i).mg x = none) (hv : bootBuiltins x = some (.type id)) (h : DA X T W (e :: es) f) (hg : ∀ i, Gl (X.at_ i) x := by intro _; rfl)
    (hn : x ≠ "__name__" := by decide) (hdb : (x == ("__debug__" : Str)) = false := by decide)
    (he : ∀ i, starEach (e :: es) (X.at_ i).env = (false, eval e (X.at_ i).env) :: starEach es (X.at_ i).env := by intro _; rfl) (hpl : ∀ i, (backTo pos (starEach es (X.at_ i).env)).any (·.1) = false := by intro _; rfl) : DE X T W (.Call (.Name x p) (e :: es) [] pos) (cCB g f) := by
  obtain ⟨t, pa, s⟩ := h
  exact ⟨_, fun i => pe_callTy (hc i) (hg i) (hm i) hv (pa i) hn hdb (he i) (hpl i), fun σ F H A ρ Q a p => runCB hvl s a p⟩
variable {K : PySem.W.Frag}
/-! len -/
def gLen : List D → Option B
  | [.str z] => if z.length ≤ sizeLine then some (.dat (.int (z.length : Nat))) else none
  | [d] => (seqOf d).map fun ds => .dat (.int (ds.length : Nat))
  | _ => none
abbrev rLen (K : PySem.W.Frag) : List V → Hp → VK → Prop := fun xs H Q => ∃ x n, xs = [x] ∧ LenV K x H n ∧ Q (.int n) H
theorem cr_lenX : ∀ i, CallR (X.at_ i) (.builtin "len") (rLen X.K) := fun i => by
  rw [← X.hK i]
  exact call_len
theorem vl_len : VL K T (rLen K) gLen := by
  intro F H A ρ σ ds vs b Q s r p e f
  unfold gLen at e
  split at e
  · obtain ⟨v, rfl, hv⟩ := Paired.one p
    split at e
    · rename_i c
      cases e
      exact ⟨_, _, rfl, by rw [top_str hv]; exact ⟨c, rfl⟩, f.dat s r rp_int⟩
    · cases e
  · rename_i d _
    obtain ⟨v, rfl, hv⟩ := Paired.one p
    cases q : seqOf d with
    | none =>
      rw [q] at e
      cases e
    | some es =>
      rw [q] at e
      cases e
      obtain ⟨a, xs, rfl, h1, h2⟩ := top_seq s hv q
      refine ⟨_, es.length, rfl, ?_, f.dat s r rp_int⟩
      rcases h1 with h1 | h1
      · exact .inl ⟨xs, h1, h2.length⟩
      · exact .inr ⟨xs, h1, h2.length⟩
  · cases e
/-! isinstance with a built-in class -/
def tyN : D → Option String
  | .non => some "NoneType"
  | .bl _ => some "bool"
  | .int _ => some "int"
  | .str _ => some "str"
  | .lst _ => some "list"
  | .scr _ => some "list"
  | .tup _ => some "tuple"
  | .dk _ => some "dict"
  | .dt _ => some "dict"
  | _ => none
theorem tyX_of {F H : Hp} {d : D} {v : V} {n : String} (s : Sub F H) (h : RpTop K F H d v) (e : tyN d = some n) : TyX K H v (.type n) := by
  have h2 := h.rp s
  cases d <;> simp only [tyN] at e <;> first
    | cases e; done
    | (cases e; unfold Rp at h2; subst h2; first | exact .base .non | exact .base (.bl _) | exact .base (.int _) | exact .base (.str _))
    | skip
  · cases e
    obtain ⟨a, xs, rfl, h1, _⟩ := top_lst h
    exact .base (.lst h1)
  · cases e
    obtain ⟨a, xs, rfl, h1, _⟩ := top_tup s h
    rcases h1 with (h1 | ⟨o, h1⟩) | ⟨o, its, n, h1, h3, _⟩
    · exact .base (.tup h1)
    · exact .fTuple h1
    · exact .kTuple h1 h3
  · cases e
    obtain ⟨a, xs, rfl, h1, _⟩ := top_scr s h
    rcases h1 with (h1 | ⟨o, h1⟩) | ⟨o, its, n, h1, h3, _⟩
    · exact .base (.lst h1)
    · exact .base (.frz h1)
    · exact .kList h1 h3
  · cases e
    unfold Rp at h2
    obtain ⟨a, ys, rfl, h1, _⟩ := h2
    rcases h1 with h1 | ⟨o, h1⟩
    · exact .base (.dK h1)
    · exact .fDict h1
  · cases e
    unfold Rp at h2
    obtain ⟨a, ys, rfl, h1, _⟩ := h2
    exact .base (.dT h1)
/-- the answers, by the names -/
def isTy (a b : String) : Bool := a == b || (a == "bool" && b == "int")
def isTys : List String := ["NoneType", "bool", "int", "str", "list", "tuple", "dict"]
theorem kit_all : (isTys.all fun a => ["bool", "int", "str", "list", "tuple", "dict"].all fun b => kitB a b == some (isTy a b)) = true := by decide +kernel
def gIsi : List D → Option B
  | [d, .opq (.ty b)] => match tyN d with
    | some a => if ["bool", "int", "str", "list", "tuple", "dict"].contains b = true then some (.dat (.bl (isTy a b))) else none
    | none => none
  | _ => none
theorem tyN_mem {d : D} {a : String} (e : tyN d = some a) : a ∈ isTys := by
  cases d <;> simp only [tyN] at e <;> cases e <;> decide
theorem cr_isi : ∀ i, CallR (X.at_ i) (.builtin "isinstance") (rIsi X.K) := fun i => by
  rw [← X.hK i]
  exact call_isi
theorem vl_isi : VL K T (rIsi K) gIsi := by
  intro F H A ρ σ ds vs b Q s r p e f
  unfold gIsi at e
  split at e
  · rename_i d n
    obtain ⟨v, w, rfl, hv, hw⟩ := Paired.two p
    cases q : tyN d with
    | none =>
      rw [q] at e
      cases e
    | some a =>
      rw [q] at e
      simp only at e
      split at e
      · rename_i c
        cases e
        rw [top_opq hw]
        refine ⟨v, .ty n, .type a, .type n, isTy a n, rfl, .ty n, tyX_of s hv q, kit_ty ?_, f.dat s r rp_bl⟩
        have k := List.all_eq_true.mp kit_all a (tyN_mem q)
        have k2 := List.all_eq_true.mp k n (by simpa using c)
        exact eq_of_beq k2
      · cases e
  · cases e
/-! int, str, max, min of two -/
def gInt : List D → Option B
  | [.int i] => some (.dat (.int i))
  | [.bl k] => some (.dat (.int (if k = true then 1 else 0)))
  | _ => none
abbrev rInt : List V → Hp → VK → Prop := fun xs H Q => (∃ i, xs = [.int i] ∧ Q (.int i) H) ∨ ∃ k, xs = [.bl k] ∧ Q (.int (if k then 1 else 0)) H
theorem cr_int : ∀ i, CallR (X.at_ i) (.type "int") rInt := fun i => call_int1
theorem vl_int : VL K T rInt gInt := by
  intro F H A ρ σ ds vs b Q s r p e f
  unfold gInt at e
  split at e
  · cases e
    obtain ⟨v, rfl, hv⟩ := Paired.one p
    exact .inl ⟨_, by rw [top_int hv], f.dat s r rp_int⟩
  · cases e
    obtain ⟨v, rfl, hv⟩ := Paired.one p
    exact .inr ⟨_, by rw [top_bl hv], f.dat s r rp_int⟩
  · cases e
def gMax2 : List D → Option B
  | [.int i, .int j] => some (.dat (.int (if j > i then j else i)))
  | _ => none
def gMin2 : List D → Option B
  | [.int i, .int j] => some (.dat (.int (if j < i then j else i)))
  | _ => none
/-! list, tuple -/
def gList : List D → Option B
  | [d] => (seqOf d).map .own
  | _ => none
def gTuple : List D → Option B
  | [.tup ds] => some (.dat (.tup ds))
  | [d] => (lstOf d).map fun ds => .dat (.tup ds)
  | _ => none
abbrev rTuple (K : PySem.W.Frag) : List V → Hp → VK → Prop := fun xs H Q => ∃ p ys, xs = [.ref p] ∧ ((SqL K H p ys ∧ ∀ l, H l = none → Q (.ref l) (upd H l (.tup ys))) ∨ (SqT K H p ys ∧ Q (.ref p) H))
theorem cr_tuple : ∀ i, CallR (X.at_ i) (.type "tuple") (rTuple X.K) := fun i => by
  rw [← X.hK i]
  exact call_tuple_of
theorem vl_tuple : VL K T (rTuple K) gTuple := by
  intro F H A ρ σ ds vs b Q s r p e f
  unfold gTuple at e
  split at e
  · cases e
    obtain ⟨v, rfl, hv⟩ := Paired.one p
    obtain ⟨a, xs, rfl, h1, h2⟩ := top_tup s hv
    exact ⟨a, xs, rfl, .inr ⟨h1, f.dat s r (top_tupF hv)⟩⟩
  · rename_i d _
    obtain ⟨v, rfl, hv⟩ := Paired.one p
    cases q : lstOf d with
    | none =>
      rw [q] at e
      cases e
    | some es =>
      rw [q] at e
      cases e
      obtain ⟨a, xs, rfl, h1, h2⟩ := top_lstOf s hv q
      exact ⟨a, xs, rfl, .inl ⟨h1, f.tup s r h2⟩⟩
  · cases e
/-! all, any, sum, sorted -/
def blsOf : List D → Option (List Bool)
  | [] => some []
  | .bl b :: ds => (blsOf ds).map (b :: ·)
  | _ => none
def intsOf : List D → Option (List Int)
  | [] => some []
  | .int b :: ds => (intsOf ds).map (b :: ·)
  | _ => none
theorem blsOf_some : ∀ {ds : List D} {bs : List Bool}, blsOf ds = some bs → ds = bs.map D.bl
  | [], _, e => by cases e; rfl
  | d :: ds, bs, e => by
    cases d <;> simp only [blsOf] at e <;> first | cases e; done | skip
    cases q : blsOf ds with
    | none =>
      rw [q] at e
      cases e
    | some cs =>
      rw [q] at e
      cases e
      rw [blsOf_some q]
      rfl
@[simp] theorem blsOf_map : ∀ bs : List Bool, blsOf (bs.map D.bl) = some bs
  | [] => rfl
  | b :: bs => by rw [List.map_cons, blsOf, blsOf_map bs]; rfl
@[simp] theorem intsOf_map : ∀ bs : List Int, intsOf (bs.map D.int) = some bs
  | [] => rfl
  | b :: bs => by rw [List.map_cons, intsOf, intsOf_map bs]; rfl
def gAll : List D → Option B
  | [d] => ((lstOf d).bind blsOf).map fun bs => .dat (.bl (bs.all id))
  | _ => none
theorem cr_allX (hc : ∀ i, (X.at_ i).calm = true) : ∀ i, CallR (X.at_ i) (.builtin "all") (rAll X.K) := fun i => by
  rw [← X.hK i]
  exact cr_all (hc i)
theorem top_bls {F H : Hp} {d : D} {v : V} {bs : List Bool} (s : Sub F H) (h : RpTop K F H d v) (e : (lstOf d).bind blsOf = some bs) : ∃ a, v = .ref a ∧ SqL K H a (bs.map V.bl) := by
  cases q : lstOf d with
  | none =>
    rw [q] at e
    cases e
  | some ds =>
    rw [q] at e
    obtain ⟨a, xs, e1, h1, h2⟩ := top_lstOf s h q
    rw [blsOf_some e] at h2
    exact ⟨a, e1, by rw [← RpL.bls_inv h2]; exact h1⟩
theorem vl_all : VL K T (rAll K) gAll := by
  intro F H A ρ σ ds vs b Q s r p e f
  unfold gAll at e
  split at e
  · rename_i d
    obtain ⟨v, rfl, hv⟩ := Paired.one p
    cases q : (lstOf d).bind blsOf with
    | none =>
      rw [q] at e
      cases e
    | some bs =>
      rw [q] at e
      cases e
      obtain ⟨a, rfl, h1⟩ := top_bls s hv q
      exact ⟨a, bs, rfl, h1, f.dat s r rp_bl⟩
  · cases e
end
end Dl
set_option Elab.async false
set_option linter.all false
set_option maxRecDepth 100000
namespace Dl
open PySem PySem.Spec L2
open PyProof.Rows hiding St
/-! ## the law's end -/
/-- a def of the module that is there -/
structure FnAt (P : Program) (w : World) (K : PySem.W.Frag) (mg : Str → Option Value) (base : Heap) (T : List (Addr × Str)) (x : Str) (n k : Nat) (G : FG) : Prop where
  ex : ∃ f fd ps, FnOk P w K mg base (L2.CX P w) k f fd ps (spD K T n G) ∧ mg x = some (.ref f) ∧ PySem.W.keepIn K (.ref f) = true ∧ Binds K fd ps []
theorem callee_of {P : Program} {w : World} {K : PySem.W.Frag} {mg : Str → Option Value} {base : Heap} {T : List (Addr × Str)} {x : Str} {n k : Nat} {G : FG} {X : Fam} (h : FnAt P w K mg base T x n k G) (eK : X.K = K)
    (e : ∀ i, (X.at_ i).prog = P ∧ (X.at_ i).w = w ∧ (X.at_ i).mg = mg ∧ (X.at_ i).base = base) (hr : ∀ i, Room k (X.at_ i).A) (hg : ∀ i, Gl (X.at_ i) x) : Callee X T x n G := by
  refine ⟨fun i => ?_⟩
  obtain ⟨f, fd, ps, F, hm, hk, hb⟩ := h.ex
  obtain ⟨e1, e2, e3, e4⟩ := e i
  have e5 := X.hK i
  rw [eK] at e5
  refine ⟨k, f, fd, ps, ?_, hr i, hg i, by rw [e3]; exact hm, by rw [e5]; exact hk, by rw [e5]; exact hb⟩
  rw [e1, e2, e3, e4, e5, eK]
  exact F
/-- what the top has left of a def -/
structure DefAt (K : PySem.W.Frag) (mg : Str → Option Value) (x : Str) (st : Stmt) (ps : List Str) (f : Addr) (fd : FuncData) : Prop where
  fn : Fun K x x st f fd
  g : mg x = some (.ref f)
  b : Binds K fd ps []
theorem DefAt.at {P : Program} {w : World} {K : PySem.W.Frag} {mg : Str → Option Value} {base : Heap} {T : List (Addr × Str)} {x : Str} {st : Stmt} {ps : List Str} {f : Addr} {fd : FuncData} {n k : Nat} {G : FG} (d : DefAt K mg x st ps f fd) (F : FnOk P w K mg base (L2.CX P w) k f fd ps (spD K T n G)) : FnAt P w K mg base T x n k G :=
  ⟨f, fd, ps, F, d.g, d.fn.kp, d.b⟩
def spLawB (K : PySem.W.Frag) (T : List (Addr × Str)) : Sp := fun vs H Q _ => LamX.Tabs T H ∧ ∃ (a : Addr) (ns : List Int), vs = [.ref a] ∧ SqL K H a (ns.map V.int) ∧ ns.length ≤ 63 ∧ (∀ z ∈ ns, Builtin.Int.intBits z ≤ 1048576) ∧ ∀ H', Q (.bl true) H'
theorem rp_wtup {K : PySem.W.Frag} {H : Hp} {a : Addr} {o : Obj} {its : Array Value} {n : Nat} {xs : List V} {ds : List D} (l : K.lookup a = some o) (c : o.cls = .type "tuple") (d : o.data = .seq its n) (z : its.size ≤ sizeLine) (v : Vals xs its.toList) (r : RpL K H ds xs) : Rp K H (.tup ds) (.ref a) := by
  unfold Rp
  exact ⟨a, xs, rfl, .inr ⟨o, its, n, l, c, d, z, v⟩, r⟩
end Dl
set_option Elab.async false
set_option linter.all false
set_option maxRecDepth 100000
namespace HT
open PySem PySem.Spec PyProof.Rows
section
variable {prog : Program} {w : World} {A : Around} {E : Value → Shared → Prop} {s : Shared}
end
end HT
namespace Dl
open PySem PySem.Spec L2
open PyProof.Rows hiding St
def gRev : D → Option B
  | .lst ds => some (.own ds.reverse)
  | .scr ds => some (.own ds.reverse)
  | .tup ds => some (.dat (.tup ds.reverse))
  | _ => none
section
variable {X : Fam} {T : List (Addr × Str)} {W : WX}
/-- {} (its keys ints and texts) -/
def cDnew : FE := fun ρ => .ok (.odk [], ρ)
end
end Dl
set_option Elab.async false
set_option linter.all false
set_option maxRecDepth 100000
set_option maxHeartbeats 4000000
namespace Dl
open PySem PySem.Spec L2
open PyProof.Rows hiding St
/-! ## isinstance of an exception that may have a dict of its own -/
section
open PySem.W PySem.Calls
variable {prog : Program} {w : World} {A : Around} {E : Value → Shared → Prop} {s : Shared} {K : Frag} {x D : Addr} {ox : Obj} {od : Option Obj}
theorem cls_found (T : ExcC K D) : findObj K D od "__class__" = some (.bind (.builtin "getset_descriptor.__get__") (.builtin "object.__class__")) := by
  obtain ⟨cd, hc, _⟩ := any_some T.hd
  unfold findObj
  rw [hc, Option.bind_some, T.ha, Option.bind_some]
  simp [T.hn, T.ht]
theorem cls_asked {Q : Option Value → Shared → Prop} (T : ExcC K D) (X : K.In s.heap) (I : InstAt s.heap x ox D od)
    (q : Q (some (.ref D)) { s with toks := s.toks + 1 }) : wpAny (model prog w) A (getAttr? (.ref x) "__class__") Q E s := by
  have fo := cls_found (od := od) T
  obtain ⟨hp, gs, dr, tk, os⟩ := s
  have a0 := I.type (M := model prog w)
  have a3 := looks_find (M := model prog w) X I fo
  have ib : Looks (model prog w) hp (isInstance (.ref x) (.type "BaseException")) true := a0.andThen (looks_subIn X T.hs)
  have no : (onTheHeap (Value.ref D) && Value.builtin "BaseException.__getattribute__" == Value.builtin "object.__getattribute__") = false := by
    have : (Value.builtin "BaseException.__getattribute__" == Value.builtin "object.__getattribute__") = false := by decide +kernel
    rw [this, Bool.and_false]
  unfold getAttr? getAttrBy? getAttrBy
  refine wpAny_bind (wpAny_mkText (wpAny_bind (wpAny_attempt (wpAny_holding (wpAny_bind (a0.at (wpAny_bind ((looks_findIn (M := model prog w) X T.hg).at ?_))))))))
  show wpAny _ _ (if (onTheHeap (Value.ref D) && Value.builtin "BaseException.__getattribute__" ==
    Value.builtin "object.__getattribute__") = true then _ else _) _ _ _
  rw [no, if_neg (by decide)]
  unfold getAttrByItsOwn hookBefore
  refine wpAny_bind ?_
  rw [if_pos (by rfl : onTheHeap (Value.ref D) = true)]
  refine (looks_findIn (M := model prog w) X T.hk).at (wpAny_bind (wpAny_attempt (wpAny_holding ?_)))
  unfold callGetattribute
  rw [if_neg (by decide)]
  unfold boundAndCalled
  rw [PySem.F.excAttr_ValueError.ga.bind (.ref x)]
  refine wpAny_bind (wpAny_pure ?_)
  show wpAny _ _ (call (.builtin "BaseException.__getattribute__") [.ref x, .str "__class__" tk]) _ _ _
  refine wpAny_call (codeAny_call_builtin PySem.F.excAttr_ValueError.ga.plain PySem.F.entry_bexc_ga (@check_slot (model prog w) _ _
    ⟨hp, gs, dr, tk + 1, os⟩ "BaseException.__getattribute__" "BaseException" "__getattribute__" (.ref x) [.str "__class__" tk] [] _
    (by decide +kernel) (by decide +kernel) ib (PySem.F.args_bexc_ga (.ref x) (.str "__class__" tk)) ?_))
  unfold Builtin.«object.__getattribute__»
  refine wpAny_bind (wpAny_of_eq (a := (Value.ref x, [Value.str "__class__" tk]))
    (by first | rfl | (simp only [slotArgs]; rfl)) (wpAny_bind (wpAny_pure (wpAny_bind (a0.at (wpAny_bind (a3.at ?_)))))))
  show wpAny _ _ (holding [Value.builtin "object.__class__"] (call (.builtin "getset_descriptor.__get__")
    [.builtin "object.__class__", .ref x, .ref D]) >>= ret) _ _ _
  refine wpAny_bind (wpAny_holding (wpAny_call (class_get (s := ⟨hp, gs, dr, tk + 1, os⟩) X I T.hm (wpAny_pure ?_))))
  show wpAny _ _ (handedOut (.ref D)) _ _ _
  rw [handedOut_of (by rfl : handedIn (.ref D) = true)]
  first
    | exact wpAny_pure (wpAny_pure q)
    | exact wpAny_pure q
    | exact wpAny_pure (wpAny_bind (wpAny_pure (wpAny_pure q)))
theorem cls_not {h : Heap} (T : ExcC K D) (X : K.In h) : ∃ o cd, h.get? D = some o ∧ o.data = .cls cd := by
  obtain ⟨c0, hc, _⟩ := any_some T.hd
  unfold clsIn at hc
  split at hc
  · rename_i c d cd sl ho
    exact ⟨_, _, X _ _ ho, rfl⟩
  · cases hc
theorem kitx_of (T : ExcC K D) : KitX K (.ref x) (.ref D) (fun h => InstAt h x ox D od) where
  ty := fun _ _ _ I => I.type
  ca := fun X I q => cls_asked T X I q
  ne := fun h tp dd its n sl X tq => Bool.eq_false_iff.mpr fun z => by
    have e := Value.ref.inj (beq_iff_eq.mp z)
    subst e
    obtain ⟨o, cd, ho, hd⟩ := cls_not T X
    rw [tq] at ho
    cases ho
    cases hd
  it := fun M h X _ => by
    obtain ⟨o, cd, ho, hd⟩ := cls_not T X
    intro A' Q' E' s' k q
    unfold isType loadHead
    refine wpAny_bind (wpAny_loadPart (k _ _ ho) ?_)
    obtain ⟨oc, odi, oda, osl⟩ := o
    dsimp only at hd
    subst hd
    exact wpAny_pure q
end
/-- what the fields of the exception are: its dict at d -/
def XfI (K : PySem.W.Frag) (F : Hp) (o : Option (List (Str × D))) (d : Option Addr) : Prop := match o with
  | none => d = none
  | some fs => ∃ dd ys, d = some dd ∧ F dd = some (.xd ys) ∧ RpF K F fs ys
theorem XfI.mono {K : PySem.W.Frag} {F F' : Hp} {o : Option (List (Str × D))} {d : Option Addr} (h : XfI K F o d) (s : Sub F F') : XfI K F' o d := by
  cases o with
  | none => exact h
  | some fs =>
    obtain ⟨dd, ys, e, h1, h2⟩ := h
    exact ⟨dd, ys, e, s _ _ h1, RpF.mono s _ h2⟩
/-- isinstance(e, c), e the exception that the suite holds, its dict at d -/
def rIsF (K : PySem.W.Frag) (D a : Addr) (d : Option Addr) : List V → Hp → VK → Prop := fun xs H Q => ∃ (c : V) (cv : Value) (b : Bool), xs = [.ref a, c] ∧ (∀ u, RelV c u → u = cv) ∧ PySem.W.kitOne K (.ref D) cv = some b ∧ (∀ dd, d = some dd → ∃ ys, H dd = some (.xd ys)) ∧ Q (.bl b) H
theorem call_isF {X : Cx} {a D : Addr} {d : Option Addr} {oe : Obj} {pn : List (Addr × Obj)} (T : ExcC X.K D) (hz : Zc (.ref D) d oe) (hf : ∃ vs, oe.data = .fields vs) : CallR (X.suite a ((a, oe) :: pn)) (.builtin "isinstance") (rIsF X.K D a d) := by
  intro pins s σ H xs us Q I r h
  obtain ⟨c, cv, b, rfl, hcv, e, hx, q⟩ := h
  cases r with
  | cons r1 r2 =>
    cases r2 with
    | cons r3 r4 =>
      cases r4
      cases r1
      have ec := hcv _ r3
      subst ec
      have hget := (I.pin (a, oe) (List.mem_append_left _ List.mem_cons_self)).1
      obtain ⟨vs, hv⟩ := hf
      obtain ⟨oc, od, oda, osl⟩ := oe
      obtain ⟨h1, h2⟩ := hz
      dsimp only at h1 h2 hv
      subst h1 h2 hv
      have J : ∃ od', PySem.W.InstAt s.heap a ⟨.ref D, od, .fields vs, osl⟩ D od' := by
        cases od with
        | none => exact ⟨none, hget, rfl, rfl, trivial⟩
        | some dd =>
          obtain ⟨ys, hd⟩ := hx dd rfl
          have ho : ObjOk X.prog X.w H s.heap dd (.xd ys) := I.hok dd _ hd
          obtain ⟨mA, hns, _⟩ := ho
          obtain ⟨o, _, _, e', _⟩ := hns
          exact ⟨some o, hget, rfl, rfl, e'⟩
      obtain ⟨od', J⟩ := J
      exact PySem.W.kia_one (kitx_of T) I.kIn J e (fun z => nomatch z) fun tk => ⟨.bl b, H, I.kept (t' := tk) fun _ _ z => z, rfl, q⟩
end Dl
set_option Elab.async false
set_option linter.all false
set_option maxRecDepth 100000
namespace Dl
open PySem PySem.Spec L2
open PyProof.Rows hiding St
/-! ## what is never reached -/
section
variable {X : Fam} {T : List (Addr × Str)} {W : WX} {P : List Nat}
def eDead : FE := fun _ => .stuck
theorem de_dead {e : Expr} : DE X T W e eDead := ⟨fun _ _ _ => False, fun i => ⟨fun _ _ _ _ _ _ h => h.elim⟩, fun σ F H A ρ Q a p => p.elim⟩
/-! ## an own exception, raised -/
/-- an own class over ValueError without an __init__ of its own -/
structure XAt (K : PySem.W.Frag) (mg : Str → Option Value) (x : Str) : Prop where
  ex : ∃ C, mg x = some (.ref C) ∧ ClsN K x C ∧ PySem.W.excIn K C [.type "ValueError", .type "Exception", .type "BaseException", .type "object"] "ValueError.__new__" = true ∧ PySem.W.keepIn K (.ref C) = true ∧
    PySem.W.subIn K (.ref C) (.type "BaseException") = some true ∧ PySem.W.typeIn K (.ref C) = some (.type "type")
def sRaise (x : Str) : FS := fun ρ => .er ⟨x, none⟩ ρ
theorem ds_raise {K : PySem.W.Frag} {mg : Str → Option Value} {x m : Str} {j : Nat} {p p2 pos pos2 : Pos} (h : XAt K mg x) (eK : X.K = K) (em : ∀ i, (X.at_ i).mg = mg) (hc : ∀ i, (X.at_ i).calm = true) (tk : ∀ i, Takes (X.at_ i) W) (hg : ∀ i, Gl (X.at_ i) x) (hd : (x == ("__debug__" : Str)) = false := by decide) :
    DS X T W P (.Raise (some (.Call (.Name x p) [.Constant (.str m) j p2] [] pos)) none pos2) (sRaise x) := by
  subst eK
  obtain ⟨C, gC, nC, xC, kC, sC, tC⟩ := h.ex
  refine ⟨fun _ σ H => W (.ref C) none σ H, fun i => ?_, fun hps σ F H A ρ E a p => p σ F H A (.ref C) none (Go.refl a.sub) a.rep (Keep.refl P σ) ⟨⟨C, rfl, nC⟩, rfl⟩⟩
  have eK := X.hK i
  refine ps_raise (hc i) (tk i) (pmk_own PySem.F.excBase_ValueError (by rw [eK]; exact xC) (by rw [em i]; exact gC) (by rw [eK]; exact kC) (raises_own (by rw [eK]; exact sC) (by rw [eK]; exact tC)) (hg i) hd)
/-! ## try .. except X as e -/
/-- below another one, by the names -/
def subX (R : List (Str × List Str)) (x c : Str) : Option Bool := match R.lookup x with
  | some ts => some (ts.contains c)
  | none => none
/-- what the written part says of the classes in R: each with those above it that are asked for -/
structure ExcsAt (K : PySem.W.Frag) (R : List (Str × List Str)) (c : Str) (C : Addr) : Prop where
  at_ : ClsN K c C
  sub : ∀ x b, subX R x c = some b → ∀ a, ClsN K x a → PySem.W.exmOne K (.ref a) (.ref C) = some b
/-- the body of a try -/
def trF (X : Fam) (W : WX) : Fam where
  Ix := (i : X.Ix) × (pn : List (Addr × Obj)) × (xe : Value → Shared → Prop) ×' (Takes ((X.at_ i).tr pn xe) W ∧ PassesOwn (model (X.at_ i).prog (X.at_ i).w) (X.at_ i).A (X.at_ i).env xe)
  at_ := fun j => (X.at_ j.1).tr j.2.1 j.2.2.1
  K := X.K
  hK := fun j => X.hK j.1
  inv := X.inv
  ps := X.ps
  mono := X.mono
/-- the suite of an except clause: e at slot i holds the exception at a -/
def suF (X : Fam) (x : Exc) (i : Nat) (a : Addr) (cls : Value) (d : Option Addr) : Fam where
  Ix := (j : X.Ix) × (oe : Obj) × (pn : List (Addr × Obj)) ×' (Zc cls d oe ∧ ∃ vs, oe.data = .fields vs)
  at_ := fun j => (X.at_ j.1).suite a ((a, j.2.1) :: j.2.2.1)
  K := X.K
  hK := fun j => X.hK j.1
  inv := fun σ F => X.inv σ F ∧ σ[i]? = some (some (.ref a)) ∧ XfI X.K F x.fs d
  ps := i :: X.ps
  mono := fun h s k => ⟨X.mono h.1 s fun j m => k j (List.mem_cons_of_mem _ m), (k i List.mem_cons_self).trans h.2.1, h.2.2.mono s⟩
def wipeO (i : Nat) : Out → Out
  | .nx ρ => .nx (ρ.set i .un)
  | .bk ρ => .bk (ρ.set i .un)
  | .ct ρ => .ct (ρ.set i .un)
  | .rt b ρ => .rt b (ρ.set i .un)
  | _ => .stuck
/-- any reading of the suite that is right -/
def tU (X : Fam) (ss : List Stmt) : TS := fun D σ H => ∃ t, (∀ j, PSs (X.at_ j) ss t) ∧ t D σ H
theorem pss_U {X : Fam} {ss : List Stmt} (j : X.Ix) : PSs (X.at_ j) ss (tU X ss) := by
  refine ⟨fun pins s σ H D I h => ?_⟩
  obtain ⟨t, ht, q⟩ := h
  exact (ht j).run pins s σ H D I q
end
end Dl
set_option Elab.async false
set_option linter.all false
set_option maxRecDepth 100000
set_option maxHeartbeats 1000000
namespace Dl
open PySem PySem.Spec L2
open PyProof.Rows hiding St
/-! ## isinstance(e, c), e the exception in its suite -/
/-- what isinstance tells of the classes in R, asked for the class c -/
structure IsAt (K : PySem.W.Frag) (R : List (Str × List Str)) (c : Str) (cv : Value) : Prop where
  sub : ∀ x b, subX R x c = some b → ∀ a, ClsN K x a → ExcC K a ∧ PySem.W.kitOne K (.ref a) cv = some b
def cIsE (R : List (Str × List Str)) (c : Str) (x : Exc) : FE := fun ρ => match subX R x.cls c with
  | some b => .ok (.dat (.bl b), ρ)
  | none => .stuck
section
variable {X : Fam} {T : List (Addr × Str)} {W : WX} {P : List Nat}
theorem de_isE {i : Nat} {a : Addr} {cls : Value} {d : Option Addr} {x : Exc} {R : List (Str × List Str)} {c n : Str} {cv : V} {cV : Value} {ec : Expr} {p p1 pos : Pos} (hcl : ∃ C', cls = .ref C' ∧ ClsN X.K x.cls C') (h : IsAt X.K R c cV) (hrv : ∀ u, RelV cv u → u = cV)
    (hC : ∀ j, PE ((suF X x i a cls d).at_ j) ec (tC cv)) (hg : ∀ j, Gl (X.at_ j) "isinstance") (hm : ∀ j, (X.at_ j).mg "isinstance" = none) (hv : bootBuiltins "isinstance" = some (.builtin "isinstance")) (hN : ∀ j, (X.at_ j).N[i]? = some n) (hvis : ∀ j, Vis (X.at_ j).env.scope n)
    (hdb : (n == ("__debug__" : Str)) = false := by decide) (hcd : (n == ("__classdict__" : Str)) = false := by decide)
    (he : ∀ j, starEach [.Name n p1, ec] (X.at_ j).env = (false, eval (.Name n p1) (X.at_ j).env) :: starEach [ec] (X.at_ j).env := by intro _; rfl) (he2 : ∀ j, starEach [ec] (X.at_ j).env = (false, eval ec (X.at_ j).env) :: starEach [] (X.at_ j).env := by intro _; rfl)
    (hpl : ∀ j, (backTo pos (starEach [ec] (X.at_ j).env)).any (·.1) = false := by intro _; rfl) :
    DE (suF X x i a cls d) T W (.Call (.Name "isinstance" p) [.Name n p1, ec] [] pos) (cIsE R c x) := by
  cases q2 : subX R x.cls c with
  | none =>
    refine de_as de_dead fun ρ => ?_
    unfold cIsE
    rw [q2]
    rfl
  | some b =>
    obtain ⟨C', rfl, nC'⟩ := hcl
    obtain ⟨xc, kit⟩ := h.sub x.cls b q2 C' nC'
    refine ⟨tCB (rIsF X.K C' a d) (tCons (tVar i) (tCons (tC cv) tNil)), fun j => ?_, fun σ F H A ρ Q at_ p => ?_⟩
    · have eK : ((suF X x i a (.ref C') d).at_ j).K = X.K := (suF X x i a (.ref C') d).hK j
      rw [← eK] at xc ⊢
      exact pe_callB (call_isF xc j.2.2.2.1 j.2.2.2.2) (hg j.1) (hm j.1) hv (pa_cons (pe_var (hN j.1) (hvis j.1) hdb hcd) (pa_cons (hC j) pa_nil (he2 j.1)) (he j.1)) (by decide) (by decide) (he j.1) (hpl j.1)
    · unfold cIsE at p
      rw [q2] at p
      refine ⟨_, at_.inv.2.1, cv, cV, b, rfl, hrv, kit, fun dd ed => ?_, p.now (Go.refl at_.sub) (.bl b) (at_.rep.dat rp_bl)⟩
      have xf := at_.inv.2.2
      subst ed
      cases q1 : x.fs with
      | none =>
        rw [q1] at xf
        cases xf
      | some fs =>
        rw [q1] at xf
        obtain ⟨d2, ys, e, h1, _⟩ := xf
        cases e
        exact ⟨ys, at_.sub _ _ h1⟩
end
/-! ## a lambda without parameters, handed to a def that asks it once, in a try -/
def mask : Ev → Ev
  | [] => []
  | b :: ρ => (match b with | .dat d => .dat d | _ => .un) :: mask ρ
theorem RepS.mask {K : PySem.W.Frag} {F H F' H' : Hp} {ρ : Ev} {σ : St} {A : List Addr} (h : RepS K F H ρ σ A) (s : Sub F F') : RepS K F' H' (Dl.mask ρ) σ [] := by
  induction h with
  | nil => exact .nil
  | @cons b sv ft ρ σ A0 hb _ _ ih =>
    cases b with
    | dat d =>
      obtain ⟨_, v, rfl, r⟩ := hb
      exact ih.dat (Rp.mono s d r)
    | un => exact ih.un
    | own _ => exact ih.un
    | odk _ => exact ih.un
    | odt _ => exact ih.un
    | ext _ => exact ih.un
/-- the thunk's outcome in the maker's frame -/
def thunk (f : FE) (ρ : Ev) : R D := match cD f (mask ρ) with
  | .ok (.dat d, _) => .ok d
  | .err x _ => .err x []
  | _ => .stuck
/-- tl does what r says, wherever the frozen part F stands -/
def Rz (K : PySem.W.Frag) (T : List (Addr × Str)) (tl : XK → Hp → VK → Prop) (F : Hp) (r : R D) : Prop := ∀ F' H' E Q, Sub F F' → Sub F' H' → NoTb F' → LamX.Tabs T H' → (match r with
  | .ok d => ∀ v F2 H2, Go T [] F' H' [] F2 H2 → Rp K F2 d v → Q v H2
  | .err x _ => ∀ F2 H2 cls dd, Go T [] F' H' [] F2 H2 → RepX K F2 x cls dd → E cls dd H2
  | .stuck => False) → tl E H' Q
section
variable {X : Cx} {T : List (Addr × Str)}
end
/-- how the def asks: return (w, a()), return a(), x = (w, a()), a() -/
inductive AskK where
  | ret (w : Str) | retP | set (k : Nat) (w : Str) | drop
def askRes (kd : AskK) (d : D) (ρ : Ev) : Out := match kd with
  | .ret w => .rt (.dat (.tup [.str w, d])) ρ
  | .retP => .rt (.dat d) ρ
  | .set k w => .nx (ρ.set k (.dat (.tup [.str w, d])))
  | .drop => .nx ρ
def wrA (kd : AskK) (te : TE) : TS := fun D σ H => te σ H fun v H1 => match kd with
  | .ret w => ∀ p, H1 p = none → D.rt (.ref p) (upd H1 p (.tup [.str w, v]))
  | .retP => D.rt v H1
  | .set k w => ∀ p, H1 p = none → D.nx (σ.set k (some (.ref p))) (upd H1 p (.tup [.str w, v]))
  | .drop => D.nx σ H1
/-- the statement that asks -/
structure AskS (Y : Cx) (kd : AskK) (a : Str) (S : Stmt) : Prop where
  run : ∀ (pn : List (Addr × Obj)) (xe : Value → Shared → Prop) (te : TE), (∀ p1 p2, PE (Y.tr pn xe) (.Call (.Name a p1) [] [] p2) te) → PS (Y.tr pn xe) S (wrA kd te)
def sAsk (kd : AskK) (Rc : List (Str × List Str)) (c : Str) (i : Nat) (su : Exc → FS) (r : R D) : FS := fun ρ => match r with
  | .ok d => askRes kd d ρ
  | .err x _ => match subX Rc x.cls c with
    | some true => if i < ρ.length then wipeO i (su x (List.replicate ρ.length .un)) else .stuck
    | _ => .stuck
  | .stuck => .stuck
section
variable {Y : Cx} {T : List (Addr × Str)}
end
/-! the def that asks -/
def PostT (K : PySem.W.Frag) (T : List (Addr × Str)) (F H : Hp) (o : Out) (Q : VK) : Prop := match o with
  | .rt b ρ' => ∀ v σ' F' H' A', Go T [] F H A' F' H' → RepS K F' H' (b :: ρ') (some v :: σ') A' → Q v H'
  | .nx _ => ∀ F' H' A', Go T [] F H A' F' H' → Q .non H'
  | _ => False
/-- m: the def as a function of the thunk's outcome -/
def TD (K : PySem.W.Frag) (T : List (Addr × Str)) (n : Nat) (m : R D → FS) : (XK → Hp → VK → Prop) → Hp → VK → Prop := fun tl H Q => ∃ r F, Sub F H ∧ NoTb F ∧ LamX.Tabs T H ∧ Rz K T tl F r ∧ PostT K T F H (m r (List.replicate n .un)) Q
def sLen (n : Nat) (g : FS) : FS := fun ρ => if ρ.length = n then g ρ else .stuck
section
variable {X : Cx} {T : List (Addr × Str)}
end
end Dl
set_option Elab.async false
set_option linter.all false
set_option maxRecDepth 100000
set_option maxHeartbeats 1000000
namespace Dl
open PySem PySem.Spec L2
open PyProof.Rows hiding St
/-! ## a lambda handed to a def -/
/-- x(lambda: body): m the def x as a function of the thunk's outcome, n its slots -/
def cLam (n : Nat) (m : R D → FS) (fb : FE) : FE := fun ρ => match m (thunk fb ρ) (List.replicate n .un) with
  | .rt b _ => fin2 ρ (frz b)
  | .nx _ => .ok (.dat .non, ρ)
  | _ => .stuck
where
  fin2 (ρ : Ev) : Option D → R (B × Ev)
    | some d => .ok (.dat d, ρ)
    | none => .stuck
/-- what is asked of the def that gets the lambda -/
structure AskAt (X : Cx) (T : List (Addr × Str)) (x a : Str) (q : Str) (n : Nat) (m : R D → FS) : Prop where
  ex : ∃ (g : Addr) (oc : Value) (od : Option Addr) (pg : Arguments) (bg : List Stmt) (sg : Scope) (dV kV doc pm : Value) (an : Option Addr) (cdv ct : Value) (osl : Array (Option Value)) (Ng : List Str),
    X.mg x = some (.ref g) ∧ PySem.W.keepIn X.K (.ref g) = true ∧ X.K.lookup g = some ⟨oc, od, .func (PySem.W.fnOf x x pg bg sg dV kV doc pm an cdv ct), osl⟩ ∧ PySem.W.codeIn X.K cdv x = true ∧ L2.Binds X.K (PySem.W.fnOf x x pg bg sg dV kV doc pm an cdv ct) [a] [] ∧
      FnScope Ng [a] sg ∧ Ng[0]? = some a ∧ Vis sg a ∧ LamX.GivesTo X Ng x sg g cdv bg a q (TD X.K T n m)
section
variable {X : Cx} {T : List (Addr × Str)} {W : WX}
theorem Rz.mono {K : PySem.W.Frag} {tl : XK → Hp → VK → Prop} {F F1 : Hp} {r : R D} (h : Rz K T tl F r) (s : Sub F F1) : Rz K T tl F1 r := fun F' H' E Q s1 => h F' H' E Q (s.trans s1)
theorem go_ext {F H H1 : Hp} {A : List Addr} (s : Sub F H) (nt : NoTb F) (e : LamX.ExtN H H1) (t1 : LamX.Tabs T H1) : Go T A F H A F H1 :=
  ⟨fun a o h _ n => e a o h n, fun a o h n => ⟨o, e a o h n, n⟩, Sub.refl F, fun a o h => e a o (s a o h) fun ps z => nt.1 a ps (by rw [h, z]), fun a o h => .inl h, fun a m => .inl m, fun _ => t1, fun h => h⟩
end
end Dl
set_option Elab.async false
set_option linter.all false
set_option maxRecDepth 100000
set_option maxHeartbeats 1000000
namespace Dl
open PySem PySem.Spec L2
open PyProof.Rows hiding St
/-! ## the end of a law whose defs make lambdas; what the end tells of classes -/
/-- a def that makes lambdas: its code object at c -/
structure LamDef (K : PySem.W.Frag) (mg : Str → Option Value) (x : Str) (st : Stmt) (ps : List Str) (f : Addr) (fd : FuncData) (c : Addr) : Prop where
  ex : ∃ (oc : Value) (od : Option Addr) (kV doc pm : Value) (an : Option Addr) (ct : Value) (osl : Array (Option Value)), fd = PySem.W.fnOf x x (defArgs st) (defBody st) (defScope st) .none kV doc pm an (.ref c) ct ∧ K.lookup f = some ⟨oc, od, .func fd, osl⟩ ∧ PySem.W.codeIn K (.ref c) x = true
  g : mg x = some (.ref f)
  b : Binds K fd ps []
  kp : PySem.W.keepIn K (.ref f) = true
section
variable {P : Program} {w : World} {K : PySem.W.Frag} {mg : Str → Option Value} {base : Heap}
theorem LamDef.ok {x : Str} {st : Stmt} {f c : Addr} {fd : FuncData} {N ps : List Str} {k : Nat} {T : List (Addr × Str)} {g : FS} (D : LamDef K mg x st ps f fd c) (Pr : List Nat) (S : FnScope N ps (defScope st)) (hPr : ∀ j ∈ Pr, j < ps.length)
    (hbody : ∀ (A : Around) (outer : List Env) (s : Shared) (H : Hp) (E : XK), Room k (A.deeper (envOfC x (defScope st) s.heap.objs.size f (.ref c))) →
      DSs (oneF (cxOf (L2.CX P w) P w K mg base N x (defScope st) f (.ref c) A outer s H E)) T (fun cls d _ H => E cls d H) Pr (defBody st) g) : FnOk P w K mg base (L2.CX P w) (k + 1) f fd ps (spD K T ps.length (toF Pr ps.length N.length g)) := by
  obtain ⟨oc, od, kV, doc, pm, an, ct, osl, rfl, lk, hcd⟩ := D.ex
  exact fn_dC Pr lk hcd S hPr hbody
theorem LamDef.at {x : Str} {st : Stmt} {ps : List Str} {f c : Addr} {fd : FuncData} {n k : Nat} {T : List (Addr × Str)} {G : FG} (d : LamDef K mg x st ps f fd c) (F : FnOk P w K mg base (L2.CX P w) k f fd ps (spD K T n G)) : FnAt P w K mg base T x n k G :=
  ⟨f, fd, ps, F, d.g, d.kp, d.b⟩
end
/-! ### the classes' facts -/
theorem clsN_one {K : PySem.W.Frag} {x : Str} {a b : Addr} (h : ClsN K x a) (k : ClsN K x b) : a = b := by
  unfold ClsN at h k
  rw [h] at k
  cases k
  rfl
/-- the facts of the classes in a row -/
inductive SubR (K : PySem.W.Frag) (C : Addr) (c : Str) : List (Str × List Str) → Prop
  | nil : SubR K C c []
  | cons {x : Str} {ts : List Str} {r : List (Str × List Str)} {a : Addr} (n : ClsN K x a) (e : PySem.W.exmOne K (.ref a) (.ref C) = some (ts.contains c)) (t : SubR K C c r) : SubR K C c ((x, ts) :: r)
theorem SubR.at {K : PySem.W.Frag} {C : Addr} {c : Str} : ∀ {R : List (Str × List Str)}, SubR K C c R → ∀ x b, subX R x c = some b → ∀ a, ClsN K x a → PySem.W.exmOne K (.ref a) (.ref C) = some b
  | [], _, x, b, e, a, n => by cases e
  | (y, ts) :: r, h, x, b, e, a, n => by
    cases h with
    | cons n' e' t =>
      unfold subX at e
      rw [List.lookup_cons] at e
      by_cases q : (x == y) = true
      · rw [q] at e
        cases e
        rw [eq_of_beq q] at n
        rw [clsN_one n n']
        exact e'
      · have q' : (x == y) = false := by simpa using q
        rw [q'] at e
        exact t.at x b (by unfold subX; exact e) a n
theorem excsAt_of {K : PySem.W.Frag} {R : List (Str × List Str)} {c : Str} {C : Addr} (n : ClsN K c C) (h : SubR K C c R) : ExcsAt K R c C := ⟨n, h.at⟩
inductive KitR (K : PySem.W.Frag) (cv : Value) (c : Str) : List (Str × List Str) → Prop
  | nil : KitR K cv c []
  | cons {x : Str} {ts : List Str} {r : List (Str × List Str)} {a : Addr} (n : ClsN K x a) (xc : ExcC K a) (e : PySem.W.kitOne K (.ref a) cv = some (ts.contains c)) (t : KitR K cv c r) : KitR K cv c ((x, ts) :: r)
theorem KitR.at {K : PySem.W.Frag} {cv : Value} {c : Str} : ∀ {R : List (Str × List Str)}, KitR K cv c R → ∀ x b, subX R x c = some b → ∀ a, ClsN K x a → ExcC K a ∧ PySem.W.kitOne K (.ref a) cv = some b
  | [], _, x, b, e, a, n => by cases e
  | (y, ts) :: r, h, x, b, e, a, n => by
    cases h with
    | cons n' xc e' t =>
      unfold subX at e
      rw [List.lookup_cons] at e
      by_cases q : (x == y) = true
      · rw [q] at e
        cases e
        rw [eq_of_beq q] at n
        rw [clsN_one n n']
        exact ⟨xc, e'⟩
      · have q' : (x == y) = false := by simpa using q
        rw [q'] at e
        exact t.at x b (by unfold subX; exact e) a n
theorem isAt_of {K : PySem.W.Frag} {R : List (Str × List Str)} {c : Str} {cv : Value} (h : KitR K cv c R) : IsAt K R c cv := ⟨h.at⟩
end Dl
set_option Elab.async false
set_option linter.all false
set_option maxRecDepth 100000
set_option maxHeartbeats 4000000
namespace DlS
open PySem PySem.Spec PyProof.Rows L2
def fset (w : World) : Obj := { cls := .type "set", dict := none, data := .set #[] 0 (.fresh 0 0 (!w.params.followText "set-order")) }
section
variable {P : Program} {w : World} {A : Around} {E : Value → Shared → Prop} {s : Shared}
/-- what stands behind set(l): the set at its new place, the rest as it was -/
def After (w : World) (h : Heap) (n : Addr) (ns : List Int) (h' : Heap) (c : Nat) : Prop := SetR w h' n (fun j => decide (j ∈ ns)) c ∧ c ≤ ns.length ∧ ∀ b o, h.get? b = some o → h'.get? b = some o
theorem init_list {l : Addr} {items : Array Value} {ns : List Int} {Ab : Around} {R : Value → Shared → Prop} (hh : Ab.handled = none) (hl : s.heap.IsList l items) (hit : IntsAre items.toList ns) (hb : ns.length + 1 < scanBound)
    (hR : ∀ h' tk c, After w s.heap s.heap.objs.size ns h' c → R .none { s with heap := h', toks := tk }) :
    codeAny (model P w) Ab (.call (.builtin "set.__init__") ⟨[.ref s.heap.objs.size, .ref l], []⟩) (wants R E) { s with heap := s.heap.push (fset w) } := by
  have sz : items.size = ns.length := (Array.length_toList ▸ IntsAre.length hit :)
  have at0 : (s.heap.push (fset w)).get? s.heap.objs.size = some (fset w) := Heap.get?_push_size _ rfl
  have ty : Shared.TypeIs { s with heap := s.heap.push (fset w) } (.ref s.heap.objs.size) "set" := ⟨_, at0, rfl⟩
  refine codeAny_call_builtin F.called_set.init.plain F.entry_set_init (check_set_init_1 ty ?_)
  obtain ⟨ol, hol, hcl, nl, hdl⟩ := hl
  obtain ⟨ocls, odict, odata, oslots⟩ := ol
  simp only at hcl hdl
  subst hcl; subst hdl
  have keep1 : (s.heap.push (fset w)).get? l = some { cls := .type "list", dict := odict, data := .seq items nl, slots := oslots } := Heap.get?_push_of_some _ hol
  have b1 := F.sub_list_set
  have b2 := F.sub_list_frozenset
  have b3 : (Value.type "list" == Value.type "dict") = false := by decide
  have isL : (s.heap.push (fset w)).IsList l items := ⟨_, keep1, rfl, nl, rfl⟩
  have lt : l < s.heap.objs.size := Heap.lt_size hol
  have ss : (s.heap.push (fset w)).objs.size = s.heap.objs.size + 1 := Heap.size_push ..
  have apart : l ≠ (s.heap.push (fset w)).objs.size := by rw [ss]; exact Nat.ne_of_lt (Nat.lt_succ_of_lt lt)
  have notIn : s.heap.objs.size ∉ [(s.heap.push (fset w)).objs.size, l] := by
    rw [ss]
    intro z
    rcases List.mem_cons.mp z with z | z
    · exact absurd z (Nat.ne_of_lt (Nat.lt_succ_self _))
    · exact absurd (List.mem_singleton.mp z) (Nat.ne_of_gt lt)
  have each : ∀ (i : Nat) (v : Value), items[i]? = some v → ∃ k t, ns[i]? = some k ∧ v = .int k t := fun i v hv => by
    have hi : i < ns.length := by rw [← sz]; exact (Array.getElem?_eq_some_iff.mp hv).1
    obtain ⟨t, e⟩ := IntsAre.int_at hit i v (by rw [Array.getElem?_toList]; exact hv)
    exact ⟨ns[i], t, List.getElem?_eq_getElem hi, by rw [e, List.getD_eq_getElem?_getD, List.getElem?_eq_getElem hi]; rfl⟩
  unfold Builtin.«set.__init__» noKeywords Builtin.Frozenset.updateFrom
  generalize hPI : pyIter = PI
  wp_walk
  subst hPI
  refine wpAny_pyIter_list isL (wpAny_bind (wpAny_runValue ?_))
  refine set_update_ints ((Walks.list (by simp [hh]) _ l apart items).toS) s.heap.objs.size notIn ns sz hb each (items.size - 0) 0 _ (by omega) (Nat.zero_le _) ⟨⟨_, Heap.get?_push_size _ rfl, rfl, rfl⟩, isL.push _⟩ ⟨0, Nat.le_refl 0, setR_new_at (Heap.get?_push_of_some _ at0)⟩ ?_
  intro s' c' mv hc' sr
  obtain ⟨h', g2, d', tk', os'⟩ := s'
  obtain rfl : g2 = s.gens := mv.gens
  obtain rfl : d' = s.drawn := mv.drawn
  obtain rfl : os' = s.os := mv.os
  show wpAny _ _ _ _ _ _
  refine wpAny_pure ?_
  show wpAny _ _ (ret Value.none) _ _ _
  refine wpAny_pure (hR h' tk' c' ⟨sr, by rw [← sz]; exact hc', fun b o e => ?_⟩)
  have q := Heap.lt_size e
  refine mv.heap b o (fun z => ?_) (Heap.get?_push_of_some _ (Heap.get?_push_of_some _ e))
  rcases List.mem_cons.mp z with z | z
  · exact absurd z (Nat.ne_of_lt q)
  · have z := List.mem_singleton.mp z
    rw [ss] at z
    exact absurd z (Nat.ne_of_lt (Nat.lt_succ_of_lt q))
theorem set_list {l : Addr} {items : Array Value} {ns : List Int} {Q : Value → Shared → Prop} (hh : A.handled = none) (hl : s.heap.IsList l items) (hit : IntsAre items.toList ns) (hb : ns.length + 1 < scanBound)
    (hQ : ∀ h' tk c, After w s.heap s.heap.objs.size ns h' c → Q (.ref s.heap.objs.size) { s with heap := h', toks := tk }) : wpAny (model P w) A (call (.type "set") [.ref l]) Q E s := by
  obtain ⟨c, tl, hmro⟩ := F.called_set.mro
  have q1 := F.called_set.made
  have q2 := F.called_set.sub
  refine wpAny_call (codeAny_of_tree ?_)
  show wpAny _ _ (callAny (.type "set") _) _ _ _
  refine wpAny_pure ⟨Code.quiet_builtin _ (by decide +kernel), codeAny_builtin F.entry_type_call ?_⟩
  rw [Around.under_plain (weight_type_call_type "set" [.ref l] []) rfl]
  have q3 := F.called_set.notType
  have q4 := F.called_set.canCreate
  have q5 := F.typeCall_set_1 (.ref l)
  repeat (any_goals (first | assumption | wp_step))
  refine codeAny_mono (code_set_led1 (.ref l) (E := E) (Q₁ := fun obj s₁ => obj = .ref s.heap.objs.size ∧ s₁ = { s with heap := s.heap.push (fset w) }) ⟨rfl, rfl⟩) fun r s₁ hr => ?_
  cases r with
  | error e => exact hr
  | ok fl =>
    cases fl with
    | ret obj =>
      obtain ⟨rfl, rfl⟩ := hr
      have at0 : (s.heap.push (fset w)).get? s.heap.objs.size = some (fset w) := Heap.get?_push_size _ rfl
      have ty : Shared.TypeIs { s with heap := s.heap.push (fset w) } (.ref s.heap.objs.size) "set" := ⟨_, at0, rfl⟩
      have q6 := F.called_set.init.lookup
      have q7 := F.called_set.init.bind (.ref s.heap.objs.size)
      repeat (any_goals (first | assumption | wp_step))
      refine codeAny_mono (init_list (E := E) (R := fun r s₂ => r = .none ∧ ∃ h' tk c, s₂ = { s with heap := h', toks := tk } ∧ After w s.heap s.heap.objs.size ns h' c) (by simp [hh]) hl hit hb fun h' tk c a => ⟨rfl, h', tk, c, rfl, a⟩) fun r₂ s₂ hr₂ => ?_
      cases r₂ with
      | error e => exact hr₂
      | ok fl₂ =>
        cases fl₂ with
        | ret r =>
          obtain ⟨rfl, h', tk, c, rfl, a⟩ := hr₂
          repeat (any_goals (first | assumption | wp_step))
          exact hQ _ _ _ a
        | _ => exact hr₂.elim
    | _ => exact hr.elim
end
end DlS
namespace Dl
open PySem PySem.Spec L2
open PyProof.Rows hiding St
end Dl
set_option Elab.async false
set_option linter.all false
set_option maxRecDepth 100000
set_option maxHeartbeats 1000000
namespace Dl
open PySem PySem.Spec L2
open PyProof.Rows hiding St
/-! ## sorted(set(xs)) -/
section
variable {X : Fam} {T : List (Addr × Str)} {W : WX} {P : List Nat}
/-! ## list(range(..)) -/
/-! ## x[j] op= e, x an owned list of ints -/
/-! ## methods that read -/
def tyD : D → Option String
  | .str _ => some "str"
  | .lst _ => some "list"
  | .scr _ => some "list"
  | .dt _ => some "dict"
  | _ => none
def cRM (t : String) (g : D → List D → Option B) (fo : FO) (f : FA) : FE := fun ρ => fo ρ >>= fun o => ofO (rd o.2 o.1) >>= fun d0 => ofO (tyOk t d0) >>= fun _ => f o.2 >>= fun p => ofO (rd p.2 o.1) >>= fun d => ofO (rds p.2 p.1) >>= fun as => ofO (g d as) >>= fun b => .ok (b, p.2)
where
  tyOk (t : String) (d : D) : Option Unit := if tyD d = some t then some () else none
end
end Dl
set_option Elab.async false
set_option linter.all false
set_option maxRecDepth 100000
namespace Dl
open PySem PySem.Spec L2
open PyProof.Rows hiding St
/-! ## evaluation, stage by stage -/
section
variable {ρ : Ev} {b b' : B} {d d' : D} {i j : Int}
def fin (ρ : Ev) : Option B → R (B × Ev)
  | some b => .ok (b, ρ)
  | none => .stuck
@[simp] theorem fin_some : fin ρ (some b) = .ok (b, ρ) := rfl
@[simp] theorem fin_none : fin ρ none = .stuck := rfl
/-! names -/
def cN1 (k : Nat) (ρ : Ev) : Option B → R (B × Ev)
  | some (.dat d) => .ok (.dat d, ρ)
  | some (.own ds) => .ok (.own ds, ρ.set k .un)
  | some (.odk ds) => .ok (.odk ds, ρ.set k .un)
  | some (.odt ds) => .ok (.odt ds, ρ.set k .un)
  | some (.ext e) => .ok (.ext e, ρ.set k .un)
  | _ => .stuck
@[simp] theorem e_cN (k : Nat) : cN k ρ = cN1 k ρ ρ[k]? := rfl
@[simp] theorem e_cN1d (k : Nat) : cN1 k ρ (some (.dat d)) = .ok (.dat d, ρ) := rfl
@[simp] theorem e_cN1o (k : Nat) (ds : List D) : cN1 k ρ (some (.own ds)) = .ok (.own ds, ρ.set k .un) := rfl
@[simp] theorem e_cN1k (k : Nat) (ds : List (Key × D)) : cN1 k ρ (some (.odk ds)) = .ok (.odk ds, ρ.set k .un) := rfl
@[simp] theorem e_cN1t (k : Nat) (ds : List (List Key × D)) : cN1 k ρ (some (.odt ds)) = .ok (.odt ds, ρ.set k .un) := rfl
@[simp] theorem e_cN1e (k : Nat) (x : O) : cN1 k ρ (some (.ext x)) = .ok (.ext x, ρ.set k .un) := rfl
def cNO1 (k : Nat) (ρ : Ev) : Option B → R (Opd × Ev)
  | some (.dat d) => .ok (.val d, ρ)
  | some (.un) => .stuck
  | some _ => .ok (.var k, ρ)
  | none => .stuck
@[simp] theorem e_cNO (k : Nat) : cNO k ρ = cNO1 k ρ ρ[k]? := rfl
@[simp] theorem e_cNO1d (k : Nat) : cNO1 k ρ (some (.dat d)) = .ok (.val d, ρ) := rfl
@[simp] theorem e_cNO1o (k : Nat) (ds : List D) : cNO1 k ρ (some (.own ds)) = .ok (.var k, ρ) := rfl
@[simp] theorem e_cNO1k (k : Nat) (ds : List (Key × D)) : cNO1 k ρ (some (.odk ds)) = .ok (.var k, ρ) := rfl
@[simp] theorem e_cNO1t (k : Nat) (ds : List (List Key × D)) : cNO1 k ρ (some (.odt ds)) = .ok (.var k, ρ) := rfl
@[simp] theorem e_cNO1e (k : Nat) (x : O) : cNO1 k ρ (some (.ext x)) = .ok (.var k, ρ) := rfl
@[simp] theorem e_cC : cC d ρ = .ok (.dat d, ρ) := rfl
def ob1 : Option B → Option D
  | some b => rdB b
  | none => none
@[simp] theorem e_ob1 : ob1 (some b) = rdB b := rfl
@[simp] theorem e_rd_val : rd ρ (.val d) = some d := rfl
@[simp] theorem e_rd_var (k : Nat) : rd ρ (.var k) = ob1 ρ[k]? := rfl
@[simp] theorem e_rdB_dat : rdB (.dat d) = some d := rfl
@[simp] theorem e_rdB_own (ds : List D) : rdB (.own ds) = some (.lst ds) := rfl
@[simp] theorem e_rdB_odk (ds : List (Key × D)) : rdB (.odk ds) = some (.dk ds) := rfl
@[simp] theorem e_rdB_odt (ds : List (List Key × D)) : rdB (.odt ds) = some (.dt ds) := rfl
def ow1 : Option B → Option (List D)
  | some (.own ds) => some ds
  | _ => none
@[simp] theorem e_ow1 (ds : List D) : ow1 (some (.own ds)) = some ds := rfl
@[simp] theorem e_ownL (k : Nat) : ownL ρ k = ow1 ρ[k]? := by
  unfold ownL
  cases ρ[k]? with
  | none => rfl
  | some b => cases b <;> rfl
@[simp] theorem e_frz_dat : frz (.dat d) = some d := rfl
@[simp] theorem e_frz_own (ds : List D) : frz (.own ds) = some (.lst ds) := rfl
@[simp] theorem e_frz_odk (ds : List (Key × D)) : frz (.odk ds) = some (.dk ds) := rfl
@[simp] theorem e_frz_odt (ds : List (List Key × D)) : frz (.odt ds) = some (.dt ds) := rfl
@[simp] theorem e_isB (c : Bool) : isB (.dat (.bl c)) = some c := rfl
/-! operands, data -/
def cO2 (ρ : Ev) : Option D → R (Opd × Ev)
  | some d => .ok (.val d, ρ)
  | none => .stuck
@[simp] theorem e_cO2 : cO2 ρ (some d) = .ok (.val d, ρ) := rfl
def cO1 : R (B × Ev) → R (Opd × Ev)
  | .ok p => cO2 p.2 (frz p.1)
  | .err x ρ => .err x ρ
  | .stuck => .stuck
@[simp] theorem e_cO1 : cO1 (.ok (b, ρ)) = cO2 ρ (frz b) := rfl
@[simp] theorem e_cO1e (x : Exc) : cO1 (.err x ρ) = .err x ρ := rfl
@[simp] theorem e_cO1s : cO1 .stuck = .stuck := rfl
@[simp] theorem e_cO (f : FE) : cO f ρ = cO1 (f ρ) := by
  unfold cO cO1
  cases f ρ with
  | ok p =>
    obtain ⟨b, ρ'⟩ := p
    simp only [ok_bind]
    cases frz b <;> rfl
  | err x ρ' => rfl
  | stuck => rfl
def cD2 (ρ : Ev) : Option D → R (B × Ev)
  | some d => .ok (.dat d, ρ)
  | none => .stuck
@[simp] theorem e_cD2 : cD2 ρ (some d) = .ok (.dat d, ρ) := rfl
def cD1 : R (B × Ev) → R (B × Ev)
  | .ok p => cD2 p.2 (frz p.1)
  | .err x ρ => .err x ρ
  | .stuck => .stuck
@[simp] theorem e_cD1 : cD1 (.ok (b, ρ)) = cD2 ρ (frz b) := rfl
@[simp] theorem e_cD1e (x : Exc) : cD1 (.err x ρ) = .err x ρ := rfl
@[simp] theorem e_cD1s : cD1 .stuck = .stuck := rfl
@[simp] theorem e_cD (f : FE) : cD f ρ = cD1 (f ρ) := by
  unfold cD cD1
  cases f ρ with
  | ok p =>
    obtain ⟨b, ρ'⟩ := p
    simp only [ok_bind]
    cases frz b <;> rfl
  | err x ρ' => rfl
  | stuck => rfl
/-! operators -/
def c1b (g : D → Option B) (ρ : Ev) : Option D → R (B × Ev)
  | some d => fin ρ (g d)
  | none => .stuck
@[simp] theorem e_c1b (g : D → Option B) : c1b g ρ (some d) = fin ρ (g d) := rfl
def c1a (g : D → Option B) : R (Opd × Ev) → R (B × Ev)
  | .ok p => c1b g p.2 (rd p.2 p.1)
  | .err x ρ => .err x ρ
  | .stuck => .stuck
@[simp] theorem e_c1a (g : D → Option B) (o : Opd) : c1a g (.ok (o, ρ)) = c1b g ρ (rd ρ o) := rfl
@[simp] theorem e_c1ae (g : D → Option B) (x : Exc) : c1a g (.err x ρ) = .err x ρ := rfl
@[simp] theorem e_c1 (g : D → Option B) (f : FO) : c1 g f ρ = c1a g (f ρ) := by
  unfold c1 c1a
  cases f ρ with
  | ok p =>
    obtain ⟨o, ρ'⟩ := p
    simp only [ok_bind]
    cases rd ρ' o with
    | none => rfl
    | some d =>
      simp only [ofO_some, ok_bind, e_c1b]
      cases g d <;> rfl
  | err x ρ' => rfl
  | stuck => rfl
def c2c (g : D → D → Option B) (ρ : Ev) : Option D → Option D → R (B × Ev)
  | some d, some d' => fin ρ (g d d')
  | _, _ => .stuck
@[simp] theorem e_c2c (g : D → D → Option B) : c2c g ρ (some d) (some d') = fin ρ (g d d') := rfl
def c2b (g : D → D → Option B) (o : Opd) : R (Opd × Ev) → R (B × Ev)
  | .ok p => c2c g p.2 (rd p.2 o) (rd p.2 p.1)
  | .err x ρ => .err x ρ
  | .stuck => .stuck
@[simp] theorem e_c2b (g : D → D → Option B) (o o' : Opd) : c2b g o (.ok (o', ρ)) = c2c g ρ (rd ρ o) (rd ρ o') := rfl
@[simp] theorem e_c2be (g : D → D → Option B) (o : Opd) (x : Exc) : c2b g o (.err x ρ) = .err x ρ := rfl
def c2a (g : D → D → Option B) (fb : FO) : R (Opd × Ev) → R (B × Ev)
  | .ok p => c2b g p.1 (fb p.2)
  | .err x ρ => .err x ρ
  | .stuck => .stuck
@[simp] theorem e_c2a (g : D → D → Option B) (fb : FO) (o : Opd) : c2a g fb (.ok (o, ρ)) = c2b g o (fb ρ) := rfl
@[simp] theorem e_c2ae (g : D → D → Option B) (fb : FO) (x : Exc) : c2a g fb (.err x ρ) = .err x ρ := rfl
@[simp] theorem e_c2 (g : D → D → Option B) (fa fb : FO) : c2 g fa fb ρ = c2a g fb (fa ρ) := by
  unfold c2 c2a
  cases fa ρ with
  | ok p =>
    obtain ⟨o, ρ'⟩ := p
    simp only [ok_bind]
    unfold c2b
    cases fb ρ' with
    | ok q =>
      obtain ⟨o', ρ2⟩ := q
      simp only [ok_bind]
      cases rd ρ2 o with
      | none => rfl
      | some d =>
        cases rd ρ2 o' with
        | none => rfl
        | some d' =>
          simp only [ofO_some, ok_bind, e_c2c]
          cases g d d' <;> rfl
    | err x ρ2 => rfl
    | stuck => rfl
  | err x ρ' => rfl
  | stuck => rfl
/-- a < b < c -/
def ch5 (g' : D → D → Option B) (o' : Opd) : R (Opd × Ev) → R (B × Ev)
  | .ok p => c2c g' p.2 (rd p.2 o') (rd p.2 p.1)
  | .err x ρ => .err x ρ
  | .stuck => .stuck
@[simp] theorem e_ch5 (g' : D → D → Option B) (o o' : Opd) : ch5 g' o' (.ok (o, ρ)) = c2c g' ρ (rd ρ o') (rd ρ o) := rfl
def ch4 (g' : D → D → Option B) (fc : FO) (o' : Opd) (ρ : Ev) : Option Bool → R (B × Ev)
  | some c => if c = true then ch5 g' o' (fc ρ) else .ok (.dat (.bl false), ρ)
  | none => .stuck
@[simp] theorem e_ch4 (g' : D → D → Option B) (fc : FO) (o' : Opd) (c : Bool) : ch4 g' fc o' ρ (some c) = if c = true then ch5 g' o' (fc ρ) else .ok (.dat (.bl false), ρ) := rfl
def ch3b (g' : D → D → Option B) (fc : FO) (o' : Opd) (ρ : Ev) : Option B → R (B × Ev)
  | some b => ch4 g' fc o' ρ (isB b)
  | none => .stuck
@[simp] theorem e_ch3b (g' : D → D → Option B) (fc : FO) (o' : Opd) : ch3b g' fc o' ρ (some b) = ch4 g' fc o' ρ (isB b) := rfl
def ch3 (g g' : D → D → Option B) (fc : FO) (o' : Opd) (ρ : Ev) : Option D → Option D → R (B × Ev)
  | some d, some d' => ch3b g' fc o' ρ (g d d')
  | _, _ => .stuck
@[simp] theorem e_ch3 (g g' : D → D → Option B) (fc : FO) (o' : Opd) : ch3 g g' fc o' ρ (some d) (some d') = ch3b g' fc o' ρ (g d d') := rfl
def ch2 (g g' : D → D → Option B) (fc : FO) (o : Opd) : R (Opd × Ev) → R (B × Ev)
  | .ok p => ch3 g g' fc p.1 p.2 (rd p.2 o) (rd p.2 p.1)
  | .err x ρ => .err x ρ
  | .stuck => .stuck
@[simp] theorem e_ch2 (g g' : D → D → Option B) (fc : FO) (o o' : Opd) : ch2 g g' fc o (.ok (o', ρ)) = ch3 g g' fc o' ρ (rd ρ o) (rd ρ o') := rfl
def ch1 (g g' : D → D → Option B) (fb fc : FO) : R (Opd × Ev) → R (B × Ev)
  | .ok p => ch2 g g' fc p.1 (fb p.2)
  | .err x ρ => .err x ρ
  | .stuck => .stuck
@[simp] theorem e_ch1 (g g' : D → D → Option B) (fb fc : FO) (o : Opd) : ch1 g g' fb fc (.ok (o, ρ)) = ch2 g g' fc o (fb ρ) := rfl
@[simp] theorem e_cChain (g g' : D → D → Option B) (fa fb fc : FO) : cChain g g' fa fb fc ρ = ch1 g g' fb fc (fa ρ) := by
  unfold cChain ch1
  cases fa ρ with
  | ok p =>
    obtain ⟨o, ρ'⟩ := p
    simp only [ok_bind]
    unfold ch2
    cases fb ρ' with
    | ok q =>
      obtain ⟨o', ρ2⟩ := q
      simp only [ok_bind]
      cases rd ρ2 o with
      | none => rfl
      | some d =>
        cases rd ρ2 o' with
        | none => rfl
        | some d' =>
          simp only [ofO_some, ok_bind, e_ch3]
          cases g d d' with
          | none => rfl
          | some b =>
            simp only [ofO_some, ok_bind, e_ch3b]
            cases isB b with
            | none => rfl
            | some c =>
              simp only [ofO_some, ok_bind, e_ch4]
              split
              · unfold ch5
                cases fc ρ2 with
                | ok u =>
                  obtain ⟨o3, ρ3⟩ := u
                  simp only [ok_bind]
                  cases rd ρ3 o' with
                  | none => rfl
                  | some e =>
                    cases rd ρ3 o3 with
                    | none => rfl
                    | some e' =>
                      simp only [ofO_some, ok_bind, e_c2c]
                      cases g' e e' <;> rfl
                | err x ρ3 => rfl
                | stuck => rfl
              · rfl
    | err x ρ2 => rfl
    | stuck => rfl
  | err x ρ' => rfl
  | stuck => rfl
/-! truth -/
def cT2 (ρ : Ev) : Option Bool → R (Bool × Ev)
  | some c => .ok (c, ρ)
  | none => .stuck
@[simp] theorem e_cT2 (c : Bool) : cT2 ρ (some c) = .ok (c, ρ) := rfl
def cT1 : R (B × Ev) → R (Bool × Ev)
  | .ok p => cT2 p.2 (isB p.1)
  | .err x ρ => .err x ρ
  | .stuck => .stuck
@[simp] theorem e_cT1 : cT1 (.ok (b, ρ)) = cT2 ρ (isB b) := rfl
@[simp] theorem e_cT1e (x : Exc) : cT1 (.err x ρ) = .err x ρ := rfl
@[simp] theorem e_cT (f : FE) : cT f ρ = cT1 (f ρ) := by
  unfold cT cT1
  cases f ρ with
  | ok p =>
    obtain ⟨b, ρ'⟩ := p
    simp only [ok_bind]
    cases isB b <;> rfl
  | err x ρ' => rfl
  | stuck => rfl
def nT1 : R (Bool × Ev) → R (Bool × Ev)
  | .ok p => .ok (!p.1, p.2)
  | .err x ρ => .err x ρ
  | .stuck => .stuck
@[simp] theorem e_nT1 (c : Bool) : nT1 (.ok (c, ρ)) = .ok (!c, ρ) := rfl
@[simp] theorem e_cNotT (f : FT) : cNotT f ρ = nT1 (f ρ) := by
  unfold cNotT nT1
  cases f ρ <;> rfl
def anT1 (g : FT) : R (Bool × Ev) → R (Bool × Ev)
  | .ok p => if p.1 = true then g p.2 else .ok (false, p.2)
  | .err x ρ => .err x ρ
  | .stuck => .stuck
@[simp] theorem e_anT1 (g : FT) (c : Bool) : anT1 g (.ok (c, ρ)) = if c = true then g ρ else .ok (false, ρ) := rfl
@[simp] theorem e_cAndT (f g : FT) : cAndT f g ρ = anT1 g (f ρ) := by
  unfold cAndT anT1
  cases f ρ <;> rfl
def orT1 (g : FT) : R (Bool × Ev) → R (Bool × Ev)
  | .ok p => if p.1 = true then .ok (true, p.2) else g p.2
  | .err x ρ => .err x ρ
  | .stuck => .stuck
@[simp] theorem e_orT1 (g : FT) (c : Bool) : orT1 g (.ok (c, ρ)) = if c = true then .ok (true, ρ) else g ρ := rfl
@[simp] theorem e_cOrT (f g : FT) : cOrT f g ρ = orT1 g (f ρ) := by
  unfold cOrT orT1
  cases f ρ <;> rfl
def anV2 (g : FE) (ρ : Ev) : Option Bool → R (B × Ev)
  | some c => if c = true then g ρ else .ok (.dat (.bl false), ρ)
  | none => .stuck
@[simp] theorem e_anV2 (g : FE) (c : Bool) : anV2 g ρ (some c) = if c = true then g ρ else .ok (.dat (.bl false), ρ) := rfl
def anV1 (g : FE) : R (B × Ev) → R (B × Ev)
  | .ok p => anV2 g p.2 (isB p.1)
  | .err x ρ => .err x ρ
  | .stuck => .stuck
@[simp] theorem e_anV1 (g : FE) : anV1 g (.ok (b, ρ)) = anV2 g ρ (isB b) := rfl
@[simp] theorem e_cAndV (f g : FE) : cAndV f g ρ = anV1 g (f ρ) := by
  unfold cAndV anV1
  cases f ρ with
  | ok p =>
    obtain ⟨b, ρ'⟩ := p
    simp only [ok_bind]
    cases isB b <;> rfl
  | err x ρ' => rfl
  | stuck => rfl
def orV2 (g : FE) (ρ : Ev) : Option Bool → R (B × Ev)
  | some c => if c = true then .ok (.dat (.bl true), ρ) else g ρ
  | none => .stuck
@[simp] theorem e_orV2 (g : FE) (c : Bool) : orV2 g ρ (some c) = if c = true then .ok (.dat (.bl true), ρ) else g ρ := rfl
def orV1 (g : FE) : R (B × Ev) → R (B × Ev)
  | .ok p => orV2 g p.2 (isB p.1)
  | .err x ρ => .err x ρ
  | .stuck => .stuck
@[simp] theorem e_orV1 (g : FE) : orV1 g (.ok (b, ρ)) = orV2 g ρ (isB b) := rfl
@[simp] theorem e_cOrV (f g : FE) : cOrV f g ρ = orV1 g (f ρ) := by
  unfold cOrV orV1
  cases f ρ with
  | ok p =>
    obtain ⟨b, ρ'⟩ := p
    simp only [ok_bind]
    cases isB b <;> rfl
  | err x ρ' => rfl
  | stuck => rfl
def nV1 : R (B × Ev) → R (B × Ev)
  | .ok p => fin p.2 ((isB p.1).map fun c => .dat (.bl (!c)))
  | .err x ρ => .err x ρ
  | .stuck => .stuck
@[simp] theorem e_nV1 (c : Bool) : nV1 (.ok (.dat (.bl c), ρ)) = .ok (.dat (.bl (!c)), ρ) := rfl
@[simp] theorem e_cNotV (f : FE) : cNotV f ρ = nV1 (f ρ) := by
  unfold cNotV nV1
  cases f ρ with
  | ok p =>
    obtain ⟨b, ρ'⟩ := p
    simp only [ok_bind]
    cases isB b <;> rfl
  | err x ρ' => rfl
  | stuck => rfl
def ifE1 (f g : FE) : R (Bool × Ev) → R (B × Ev)
  | .ok p => if p.1 = true then f p.2 else g p.2
  | .err x ρ => .err x ρ
  | .stuck => .stuck
@[simp] theorem e_ifE1 (f g : FE) (c : Bool) : ifE1 f g (.ok (c, ρ)) = if c = true then f ρ else g ρ := rfl
@[simp] theorem e_cIfE (c : FT) (f g : FE) : cIfE c f g ρ = ifE1 f g (c ρ) := by
  unfold cIfE ifE1
  cases c ρ <;> rfl
/-! arguments, displays, calls -/
@[simp] theorem e_aNil : aNil ρ = .ok ([], ρ) := rfl
def ac2 (o : Opd) : R (List Opd × Ev) → R (List Opd × Ev)
  | .ok q => .ok (o :: q.1, q.2)
  | .err x ρ => .err x ρ
  | .stuck => .stuck
@[simp] theorem e_ac2 (o : Opd) (os : List Opd) : ac2 o (.ok (os, ρ)) = .ok (o :: os, ρ) := rfl
@[simp] theorem e_ac2e (o : Opd) (x : Exc) : ac2 o (.err x ρ) = .err x ρ := rfl
def ac1 (g : FA) : R (Opd × Ev) → R (List Opd × Ev)
  | .ok p => ac2 p.1 (g p.2)
  | .err x ρ => .err x ρ
  | .stuck => .stuck
@[simp] theorem e_ac1 (g : FA) (o : Opd) : ac1 g (.ok (o, ρ)) = ac2 o (g ρ) := rfl
@[simp] theorem e_ac1e (g : FA) (x : Exc) : ac1 g (.err x ρ) = .err x ρ := rfl
@[simp] theorem e_aCons (f : FO) (g : FA) : aCons f g ρ = ac1 g (f ρ) := by
  unfold aCons ac1
  cases f ρ with
  | ok p =>
    simp only [ok_bind]
    unfold ac2
    cases g p.2 <;> rfl
  | err x ρ' => rfl
  | stuck => rfl
@[simp] theorem e_vals_nil : vals [] = some [] := rfl
@[simp] theorem e_vals_cons (os : List Opd) : vals (.val d :: os) = (vals os).map (d :: ·) := rfl
def tu2 (ρ : Ev) : Option (List D) → R (B × Ev)
  | some ds => if ds.length ≤ sizeLine then .ok (.dat (.tup ds), ρ) else .stuck
  | none => .stuck
@[simp] theorem e_tu2 (ds : List D) : tu2 ρ (some ds) = if ds.length ≤ sizeLine then .ok (.dat (.tup ds), ρ) else .stuck := rfl
def tu1 : R (List Opd × Ev) → R (B × Ev)
  | .ok p => tu2 p.2 (vals p.1)
  | .err x ρ => .err x ρ
  | .stuck => .stuck
@[simp] theorem e_tu1 (os : List Opd) : tu1 (.ok (os, ρ)) = tu2 ρ (vals os) := rfl
@[simp] theorem e_tu1e (x : Exc) : tu1 (.err x ρ) = .err x ρ := rfl
@[simp] theorem e_cTup (f : FA) : cTup f ρ = tu1 (f ρ) := by
  unfold cTup tu1
  cases f ρ with
  | ok p =>
    simp only [ok_bind]
    show (ofO (vals p.1) >>= fun ds => if ds.length ≤ sizeLine then R.ok (B.dat (.tup ds), p.2) else .stuck) = _
    cases vals p.1 <;> rfl
  | err x ρ' => rfl
  | stuck => rfl
def li2 (ρ : Ev) : Option (List D) → R (B × Ev)
  | some ds => if ds.length ≤ sizeLine then .ok (.own ds, ρ) else .stuck
  | none => .stuck
@[simp] theorem e_li2 (ds : List D) : li2 ρ (some ds) = if ds.length ≤ sizeLine then .ok (.own ds, ρ) else .stuck := rfl
def li1 : R (List Opd × Ev) → R (B × Ev)
  | .ok p => li2 p.2 (vals p.1)
  | .err x ρ => .err x ρ
  | .stuck => .stuck
@[simp] theorem e_li1 (os : List Opd) : li1 (.ok (os, ρ)) = li2 ρ (vals os) := rfl
@[simp] theorem e_li1e (x : Exc) : li1 (.err x ρ) = .err x ρ := rfl
@[simp] theorem e_cLst (f : FA) : cLst f ρ = li1 (f ρ) := by
  unfold cLst li1
  cases f ρ with
  | ok p =>
    simp only [ok_bind]
    cases vals p.1 <;> rfl
  | err x ρ' => rfl
  | stuck => rfl
@[simp] theorem e_rds_nil : rds ρ [] = some [] := rfl
def rd2 : Option D → Option (List D) → Option (List D)
  | some d, some ds => some (d :: ds)
  | _, _ => none
@[simp] theorem e_rd2 (ds : List D) : rd2 (some d) (some ds) = some (d :: ds) := rfl
@[simp] theorem e_rds_cons (o : Opd) (os : List Opd) : rds ρ (o :: os) = rd2 (rd ρ o) (rds ρ os) := by
  show (match rd ρ o, rds ρ os with
    | some d, some ds => some (d :: ds)
    | _, _ => none) = _
  cases rd ρ o <;> cases rds ρ os <;> rfl
def cb2 (g : List D → Option B) (ρ : Ev) : Option (List D) → R (B × Ev)
  | some ds => fin ρ (g ds)
  | none => .stuck
@[simp] theorem e_cb2 (g : List D → Option B) (ds : List D) : cb2 g ρ (some ds) = fin ρ (g ds) := rfl
def cb1 (g : List D → Option B) : R (List Opd × Ev) → R (B × Ev)
  | .ok p => cb2 g p.2 (rds p.2 p.1)
  | .err x ρ => .err x ρ
  | .stuck => .stuck
@[simp] theorem e_cb1 (g : List D → Option B) (os : List Opd) : cb1 g (.ok (os, ρ)) = cb2 g ρ (rds ρ os) := rfl
@[simp] theorem e_cb1e (g : List D → Option B) (x : Exc) : cb1 g (.err x ρ) = .err x ρ := rfl
@[simp] theorem e_cCB (g : List D → Option B) (f : FA) : cCB g f ρ = cb1 g (f ρ) := by
  unfold cCB cb1
  cases f ρ with
  | ok p =>
    simp only [ok_bind]
    cases rds p.2 p.1 with
    | none => rfl
    | some ds =>
      simp only [ofO_some, ok_bind, e_cb2]
      cases g ds <;> rfl
  | err x ρ' => rfl
  | stuck => rfl
def mu4 (k : Nat) (ρ : Ev) : Option (D × List D) → R (B × Ev)
  | some q => .ok (.dat q.1, ρ.set k (.own q.2))
  | none => .stuck
@[simp] theorem e_mu4 (k : Nat) (ds : List D) : mu4 k ρ (some (d, ds)) = .ok (.dat d, ρ.set k (.own ds)) := rfl
def mu3 (k : Nat) (g : List D → List D → Option (D × List D)) (ρ : Ev) : Option (List D) → Option (List D) → R (B × Ev)
  | some ds, some as => mu4 k ρ (g ds as)
  | _, _ => .stuck
@[simp] theorem e_mu3 (k : Nat) (g : List D → List D → Option (D × List D)) (ds as : List D) : mu3 k g ρ (some ds) (some as) = mu4 k ρ (g ds as) := rfl
def mu2 (k : Nat) (g : List D → List D → Option (D × List D)) : R (List Opd × Ev) → R (B × Ev)
  | .ok p => mu3 k g p.2 (ownL p.2 k) (rds p.2 p.1)
  | .err x ρ => .err x ρ
  | .stuck => .stuck
@[simp] theorem e_mu2 (k : Nat) (g : List D → List D → Option (D × List D)) (os : List Opd) : mu2 k g (.ok (os, ρ)) = mu3 k g ρ (ownL ρ k) (rds ρ os) := rfl
def mu1 (k : Nat) (g : List D → List D → Option (D × List D)) (f : FA) (ρ : Ev) : Option (List D) → R (B × Ev)
  | some _ => mu2 k g (f ρ)
  | none => .stuck
@[simp] theorem e_mu1 (k : Nat) (g : List D → List D → Option (D × List D)) (f : FA) (ds : List D) : mu1 k g f ρ (some ds) = mu2 k g (f ρ) := rfl
@[simp] theorem e_cMut (k : Nat) (g : List D → List D → Option (D × List D)) (f : FA) : cMut k g f ρ = mu1 k g f ρ (ownL ρ k) := by
  unfold cMut mu1
  cases ownL ρ k with
  | none => rfl
  | some ds0 =>
    simp only [ofO_some, ok_bind]
    unfold mu2
    cases f ρ with
    | ok p =>
      simp only [ok_bind]
      cases ownL p.2 k with
      | none => rfl
      | some ds =>
        cases rds p.2 p.1 with
        | none => rfl
        | some as =>
          simp only [ofO_some, ok_bind, e_mu3]
          cases g ds as <;> rfl
    | err x ρ' => rfl
    | stuck => rfl
def ap3 (k : Nat) (ρ : Ev) : Option D → Option (List D) → R (B × Ev)
  | some d, some ds => if ds.length < sizeLine then .ok (.dat .non, ρ.set k (.own (ds ++ [d]))) else .stuck
  | _, _ => .stuck
@[simp] theorem e_ap3 (k : Nat) (ds : List D) : ap3 k ρ (some d) (some ds) = if ds.length < sizeLine then .ok (.dat .non, ρ.set k (.own (ds ++ [d]))) else .stuck := rfl
def ap2 (k : Nat) : R (B × Ev) → R (B × Ev)
  | .ok p => ap3 k p.2 (frz p.1) (ownL p.2 k)
  | .err x ρ => .err x ρ
  | .stuck => .stuck
@[simp] theorem e_ap2 (k : Nat) : ap2 k (.ok (b, ρ)) = ap3 k ρ (frz b) (ownL ρ k) := rfl
def ap1 (k : Nat) (f : FE) (ρ : Ev) : Option (List D) → R (B × Ev)
  | some _ => ap2 k (f ρ)
  | none => .stuck
@[simp] theorem e_ap1 (k : Nat) (f : FE) (ds : List D) : ap1 k f ρ (some ds) = ap2 k (f ρ) := rfl
@[simp] theorem e_cAppend (k : Nat) (f : FE) : cAppend k f ρ = ap1 k f ρ (ownL ρ k) := by
  unfold cAppend ap1
  cases ownL ρ k with
  | none => rfl
  | some ds0 =>
    simp only [ofO_some, ok_bind]
    rw [e_cD]
    unfold ap2
    cases f ρ with
    | ok p =>
      obtain ⟨b, ρ'⟩ := p
      rw [e_cD1]
      show _ = ap3 k ρ' (frz b) (ownL ρ' k)
      cases frz b with
      | none => rfl
      | some d =>
        simp only [e_cD2, ok_bind, e_frz_dat, ofO_some]
        cases ownL ρ' k <;> rfl
    | err x ρ' => rfl
    | stuck => rfl
@[simp] theorem e_cDnew : cDnew ρ = .ok (.odk [], ρ) := rfl
@[simp] theorem e_pNo : pNo ρ = .ok (none, ρ) := rfl
def ps3 (ρ : Ev) : Option Int → R (Option Int × Ev)
  | some i => .ok (some i, ρ)
  | none => .stuck
@[simp] theorem e_ps3 : ps3 ρ (some i) = .ok (some i, ρ) := rfl
def ps2 (ρ : Ev) : Option D → R (Option Int × Ev)
  | some d => ps3 ρ (intOf d)
  | none => .stuck
@[simp] theorem e_ps2 : ps2 ρ (some d) = ps3 ρ (intOf d) := rfl
def ps1 : R (Opd × Ev) → R (Option Int × Ev)
  | .ok p => ps2 p.2 (rd p.2 p.1)
  | .err x ρ => .err x ρ
  | .stuck => .stuck
@[simp] theorem e_ps1 (o : Opd) : ps1 (.ok (o, ρ)) = ps2 ρ (rd ρ o) := rfl
@[simp] theorem e_pSo (f : FO) : pSo f ρ = ps1 (f ρ) := by
  unfold pSo ps1
  cases f ρ with
  | ok p =>
    simp only [ok_bind]
    cases rd p.2 p.1 with
    | none => rfl
    | some d =>
      simp only [ofO_some, ok_bind, e_ps2]
      cases intOf d <;> rfl
  | err x ρ' => rfl
  | stuck => rfl
def sl3 (o : Opd) (l : Option Int) : R (Option Int × Ev) → R (B × Ev)
  | .ok w => c1b (fun d => gSl d l w.1) w.2 (rd w.2 o)
  | .err x ρ => .err x ρ
  | .stuck => .stuck
@[simp] theorem e_sl3 (o : Opd) (l u : Option Int) : sl3 o l (.ok (u, ρ)) = c1b (fun d => gSl d l u) ρ (rd ρ o) := rfl
def sl2 (o : Opd) (u : FP) : R (Option Int × Ev) → R (B × Ev)
  | .ok q => sl3 o q.1 (u q.2)
  | .err x ρ => .err x ρ
  | .stuck => .stuck
@[simp] theorem e_sl2 (o : Opd) (l : Option Int) (u : FP) : sl2 o u (.ok (l, ρ)) = sl3 o l (u ρ) := rfl
def sl1 (l u : FP) : R (Opd × Ev) → R (B × Ev)
  | .ok p => sl2 p.1 u (l p.2)
  | .err x ρ => .err x ρ
  | .stuck => .stuck
@[simp] theorem e_sl1 (o : Opd) (l u : FP) : sl1 l u (.ok (o, ρ)) = sl2 o u (l ρ) := rfl
@[simp] theorem e_cSl (f : FO) (l u : FP) : cSl f l u ρ = sl1 l u (f ρ) := by
  unfold cSl sl1
  cases f ρ with
  | ok p =>
    simp only [ok_bind]
    unfold sl2
    cases l p.2 with
    | ok q =>
      simp only [ok_bind]
      unfold sl3
      cases u q.2 with
      | ok w =>
        simp only [ok_bind]
        cases rd w.2 p.1 with
        | none => rfl
        | some d =>
          simp only [ofO_some, ok_bind, e_c1b]
          cases gSl d q.1 w.1 <;> rfl
      | err x ρ' => rfl
      | stuck => rfl
    | err x ρ' => rfl
    | stuck => rfl
  | err x ρ' => rfl
  | stuck => rfl
def lc2 (ρ0 : Ev) (vs : List Nat) : R (List D × Ev) → R (B × Ev)
  | .ok r => .ok (.own r.1, restE ρ0 r.2 vs)
  | .err x ρ => .err x ρ
  | .stuck => .stuck
@[simp] theorem e_lc2 (ρ0 : Ev) (vs : List Nat) (ds : List D) : lc2 ρ0 vs (.ok (ds, ρ)) = .ok (.own ds, restE ρ0 ρ vs) := rfl
def lc1 (p : Pat) (c : FT) (e : FE) (vs : List Nat) : R (List D × Ev) → R (B × Ev)
  | .ok q => lc2 q.2 vs (lcD p c e vs q.1 [] (wipeE q.2 vs))
  | .err x ρ => .err x ρ
  | .stuck => .stuck
@[simp] theorem e_lc1 (p : Pat) (c : FT) (e : FE) (vs : List Nat) (ds : List D) : lc1 p c e vs (.ok (ds, ρ)) = lc2 ρ vs (lcD p c e vs ds [] (wipeE ρ vs)) := rfl
@[simp] theorem e_cLc (p : Pat) (fi : FI) (c : FT) (e : FE) (vs : List Nat) : cLc p fi c e vs ρ = lc1 p c e vs (fi ρ) := by
  unfold cLc lc1
  cases fi ρ with
  | ok q =>
    simp only [ok_bind]
    unfold lc2
    cases lcD p c e vs q.1 [] (wipeE q.2 vs) <;> rfl
  | err x ρ' => rfl
  | stuck => rfl
@[simp] theorem e_wipe_nil : wipeE ρ [] = ρ := rfl
@[simp] theorem e_wipe_cons (v : Nat) (vs : List Nat) : wipeE ρ (v :: vs) = (wipeE ρ vs).set v .un := rfl
def kd1 : Option B → B
  | some (.dat d) => .dat d
  | _ => .un
@[simp] theorem e_kd1d : kd1 (some (.dat d)) = .dat d := rfl
@[simp] theorem e_kd1u : kd1 (some .un) = .un := rfl
@[simp] theorem e_kd1o (ds : List D) : kd1 (some (.own ds)) = .un := rfl
@[simp] theorem e_rest_nil (ρ0 : Ev) : restE ρ0 ρ [] = ρ := rfl
@[simp] theorem e_rest_cons (ρ0 : Ev) (v : Nat) (vs : List Nat) : restE ρ0 ρ (v :: vs) = restE ρ0 (ρ.set v (kd1 ρ0[v]?)) vs := by
  show restE ρ0 (ρ.set v (match ρ0[v]? with | some (.dat d) => .dat d | _ => .un)) vs = _
  congr 2
@[simp] theorem e_tYs : tYs ρ = .ok (true, ρ) := rfl
/-! calls of defs -/
def tk1 (b : B) : Option (List B × Ev) → Option (List B × Ev)
  | some p => some (b :: p.1, p.2)
  | none => none
@[simp] theorem e_tk1 (bs : List B) : tk1 b (some (bs, ρ)) = some (b :: bs, ρ) := rfl
def tk2 (k : Nat) (os : List Opd) (ρ : Ev) : Option B → Option (List B × Ev)
  | some b => tk1 b (takeArgs os (ρ.set k .un))
  | none => none
@[simp] theorem e_tk2 (k : Nat) (os : List Opd) : tk2 k os ρ (some b) = tk1 b (takeArgs os (ρ.set k .un)) := rfl
@[simp] theorem e_take_nil : takeArgs [] ρ = some ([], ρ) := rfl
@[simp] theorem e_take_val (os : List Opd) : takeArgs (.val d :: os) ρ = tk1 (.dat d) (takeArgs os ρ) := by
  show (takeArgs os ρ).map (fun p => (.dat d :: p.1, p.2)) = _
  cases takeArgs os ρ <;> rfl
@[simp] theorem e_take_var (os : List Opd) (k : Nat) : takeArgs (.var k :: os) ρ = tk2 k os ρ ρ[k]? := by
  show (ρ[k]?).bind (fun b => (takeArgs os (ρ.set k .un)).map fun p => (b :: p.1, p.2)) = _
  cases ρ[k]? with
  | none => rfl
  | some b =>
    show (takeArgs os (ρ.set k .un)).map (fun p => (b :: p.1, p.2)) = tk1 b (takeArgs os (ρ.set k .un))
    cases takeArgs os (ρ.set k .un) <;> rfl
def pu1 (k : Nat) (b : B) : Option Ev → Option Ev
  | some ρ => some (ρ.set k b)
  | none => none
@[simp] theorem e_pu1 (k : Nat) : pu1 k b (some ρ) = some (ρ.set k b) := rfl
@[simp] theorem e_put_nil : putArgs [] [] ρ = some ρ := rfl
@[simp] theorem e_put_val (os : List Opd) (bs : List B) : putArgs (.val d :: os) (b :: bs) ρ = putArgs os bs ρ := rfl
@[simp] theorem e_put_var (os : List Opd) (bs : List B) (k : Nat) : putArgs (.var k :: os) (b :: bs) ρ = pu1 k b (putArgs os bs ρ) := by
  show (putArgs os bs ρ).map (fun ρ' => ρ'.set k b) = _
  cases putArgs os bs ρ <;> rfl
def ca4 (ret : B) : Option Ev → R (B × Ev)
  | some ρ => .ok (ret, ρ)
  | none => .stuck
@[simp] theorem e_ca4 : ca4 b (some ρ) = .ok (b, ρ) := rfl
def ca5 (x : Exc) : Option Ev → R (B × Ev)
  | some ρ => .err x ρ
  | none => .stuck
@[simp] theorem e_ca5 (x : Exc) : ca5 x (some ρ) = .err x ρ := rfl
def ca3 (os : List Opd) (ρ : Ev) : FR → R (B × Ev)
  | .ok ret outs => ca4 ret (putArgs os outs ρ)
  | .er x outs => ca5 x (putArgs os outs ρ)
  | .stuck => .stuck
@[simp] theorem e_ca3 (os : List Opd) (outs : List B) : ca3 os ρ (.ok b outs) = ca4 b (putArgs os outs ρ) := rfl
@[simp] theorem e_ca3e (os : List Opd) (x : Exc) (outs : List B) : ca3 os ρ (.er x outs) = ca5 x (putArgs os outs ρ) := rfl
def ca2 (G : FG) (os : List Opd) : Option (List B × Ev) → R (B × Ev)
  | some q => ca3 os q.2 (G q.1)
  | none => .stuck
@[simp] theorem e_ca2 (G : FG) (os : List Opd) (bs : List B) : ca2 G os (some (bs, ρ)) = ca3 os ρ (G bs) := rfl
def ca1 (G : FG) : R (List Opd × Ev) → R (B × Ev)
  | .ok p => ca2 G p.1 (takeArgs p.1 p.2)
  | .err x ρ => .err x ρ
  | .stuck => .stuck
@[simp] theorem e_ca1 (G : FG) (os : List Opd) : ca1 G (.ok (os, ρ)) = ca2 G os (takeArgs os ρ) := rfl
@[simp] theorem e_ca1e (G : FG) (x : Exc) : ca1 G (.err x ρ) = .err x ρ := rfl
@[simp] theorem e_cCall (G : FG) (f : FA) : cCall G f ρ = ca1 G (f ρ) := by
  unfold cCall ca1
  cases f ρ with
  | ok p =>
    obtain ⟨os, ρ'⟩ := p
    simp only [ok_bind]
    cases takeArgs os ρ' with
    | none => rfl
    | some q =>
      simp only [ofO_some, ok_bind]
      show _ = ca3 os q.2 (G q.1)
      cases G q.1 with
      | ok ret outs =>
        show (ofO (putArgs os outs q.2) >>= fun ρ' => R.ok (ret, ρ')) = ca4 ret (putArgs os outs q.2)
        cases putArgs os outs q.2 <;> rfl
      | er x outs =>
        show (match putArgs os outs q.2 with | some ρ' => R.err x ρ' | none => .stuck) = ca5 x (putArgs os outs q.2)
        cases putArgs os outs q.2 <;> rfl
      | stuck => rfl
  | err x ρ' => rfl
  | stuck => rfl
/-! what is walked -/
def is2 (ρ : Ev) : Option (List D) → R (List D × Ev)
  | some ds => .ok (ds, ρ)
  | none => .stuck
@[simp] theorem e_is2 (ds : List D) : is2 ρ (some ds) = .ok (ds, ρ) := rfl
def is1 : R (Opd × Ev) → R (List D × Ev)
  | .ok (.val d, ρ) => is2 ρ (seqOf d)
  | .ok (.var _, _) => .stuck
  | .err x ρ => .err x ρ
  | .stuck => .stuck
@[simp] theorem e_is1 : is1 (.ok (.val d, ρ)) = is2 ρ (seqOf d) := rfl
@[simp] theorem e_iSeq (f : FO) : iSeq f ρ = is1 (f ρ) := by
  unfold iSeq
  cases f ρ with
  | ok p =>
    obtain ⟨o, ρ'⟩ := p
    cases o with
    | val d =>
      simp only [ok_bind, e_is1]
      cases seqOf d <;> rfl
    | var k => rfl
  | err x ρ' => rfl
  | stuck => rfl
def en2 (ρ : Ev) : Option (List D) → R (List D × Ev)
  | some ds => .ok (enumD ds, ρ)
  | none => .stuck
@[simp] theorem e_en2 (ds : List D) : en2 ρ (some ds) = .ok (enumD ds, ρ) := rfl
def en1 : R (Opd × Ev) → R (List D × Ev)
  | .ok (.val d, ρ) => en2 ρ (seqOf d)
  | .ok (.var _, _) => .stuck
  | .err x ρ => .err x ρ
  | .stuck => .stuck
@[simp] theorem e_en1 : en1 (.ok (.val d, ρ)) = en2 ρ (seqOf d) := rfl
@[simp] theorem e_iEnm (f : FO) : iEnm f ρ = en1 (f ρ) := by
  unfold iEnm
  cases f ρ with
  | ok p =>
    obtain ⟨o, ρ'⟩ := p
    cases o with
    | val d =>
      simp only [ok_bind, e_en1]
      cases seqOf d <;> rfl
    | var k => rfl
  | err x ρ' => rfl
  | stuck => rfl
def ir2 (g : List D → Option (List D)) (ρ : Ev) : Option (List D) → R (List D × Ev)
  | some ds => is2 ρ (g ds)
  | none => .stuck
@[simp] theorem e_ir2 (g : List D → Option (List D)) (ds : List D) : ir2 g ρ (some ds) = is2 ρ (g ds) := rfl
def ir1 (g : List D → Option (List D)) : R (List Opd × Ev) → R (List D × Ev)
  | .ok p => ir2 g p.2 (rds p.2 p.1)
  | .err x ρ => .err x ρ
  | .stuck => .stuck
@[simp] theorem e_ir1 (g : List D → Option (List D)) (os : List Opd) : ir1 g (.ok (os, ρ)) = ir2 g ρ (rds ρ os) := rfl
@[simp] theorem e_iRng (g : List D → Option (List D)) (f : FA) : iRng g f ρ = ir1 g (f ρ) := by
  unfold iRng ir1
  cases f ρ with
  | ok p =>
    simp only [ok_bind]
    cases rds p.2 p.1 with
    | none => rfl
    | some ds =>
      simp only [ofO_some, ok_bind, e_ir2]
      cases g ds <;> rfl
  | err x ρ' => rfl
  | stuck => rfl
@[simp] theorem e_pName (k : Nat) : pName k d ρ = some (ρ.set k (.dat d)) := rfl
def pl1 (ps : List Pat) (ds : List D) : Option Ev → Option Ev
  | some ρ => pList ps ds ρ
  | none => none
@[simp] theorem e_pl1 (ps : List Pat) (ds : List D) : pl1 ps ds (some ρ) = pList ps ds ρ := rfl
@[simp] theorem e_pTup_tup (ps : List Pat) (ds : List D) : pTup ps (.tup ds) ρ = if ds.length = ps.length then pList ps ds ρ else none := rfl
@[simp] theorem e_pTup_lst (ps : List Pat) (ds : List D) : pTup ps (.lst ds) ρ = if ds.length = ps.length then pList ps ds ρ else none := rfl
@[simp] theorem e_pList_nil : pList [] [] ρ = some ρ := rfl
@[simp] theorem e_pList_cons (p : Pat) (ps : List Pat) (ds : List D) : pList (p :: ps) (d :: ds) ρ = pl1 ps ds (p d ρ) := by
  show (p d ρ).bind (fun ρ1 => pList ps ds ρ1) = _
  cases p d ρ <;> rfl
/-! statements -/
@[simp] theorem e_sSeq (f g : FS) : sSeq f g ρ = (f ρ).then g := rfl
@[simp] theorem e_sNil : sNil ρ = .nx ρ := rfl
@[simp] theorem e_sBk : sBk ρ = .bk ρ := rfl
@[simp] theorem e_sCt : sCt ρ = .ct ρ := rfl
def sE1 : R (B × Ev) → Out
  | .ok p => .nx p.2
  | .err x ρ => .er x ρ
  | .stuck => .stuck
@[simp] theorem e_sE1 : sE1 (.ok (b, ρ)) = .nx ρ := rfl
@[simp] theorem e_sE1e (x : Exc) : sE1 (.err x ρ) = .er x ρ := rfl
@[simp] theorem e_sE (f : FE) : sE f ρ = sE1 (f ρ) := by
  unfold sE sE1
  cases f ρ <;> rfl
def sR1 : R (B × Ev) → Out
  | .ok p => .rt p.1 p.2
  | .err x ρ => .er x ρ
  | .stuck => .stuck
@[simp] theorem e_sR1 : sR1 (.ok (b, ρ)) = .rt b ρ := rfl
@[simp] theorem e_sR1e (x : Exc) : sR1 (.err x ρ) = .er x ρ := rfl
@[simp] theorem e_sRet (f : FE) : sRet f ρ = sR1 (f ρ) := by
  unfold sRet sR1
  cases f ρ <;> rfl
@[simp] theorem e_sRetN : sRetN ρ = .rt (.dat .non) ρ := rfl
def sI1 (f g : FS) : R (Bool × Ev) → Out
  | .ok p => if p.1 = true then f p.2 else g p.2
  | .err x ρ => .er x ρ
  | .stuck => .stuck
@[simp] theorem e_sI1 (f g : FS) (c : Bool) : sI1 f g (.ok (c, ρ)) = if c = true then f ρ else g ρ := rfl
@[simp] theorem e_sI1e (f g : FS) (x : Exc) : sI1 f g (.err x ρ) = .er x ρ := rfl
@[simp] theorem e_sIf (c : FT) (f g : FS) : sIf c f g ρ = sI1 f g (c ρ) := by
  unfold sIf sI1
  cases c ρ <;> rfl
def sS1 (k : Nat) : R (B × Ev) → Out
  | .ok p => .nx (p.2.set k p.1)
  | .err x ρ => .er x ρ
  | .stuck => .stuck
@[simp] theorem e_sS1 (k : Nat) : sS1 k (.ok (b, ρ)) = .nx (ρ.set k b) := rfl
@[simp] theorem e_sS1e (k : Nat) (x : Exc) : sS1 k (.err x ρ) = .er x ρ := rfl
@[simp] theorem e_sSet (k : Nat) (f : FE) : sSet k f ρ = sS1 k (f ρ) := by
  unfold sSet sS1
  cases f ρ <;> rfl
@[simp] theorem e_sSetD (k : Nat) (f : FE) : sSetD k f ρ = sS1 k (cD1 (f ρ)) := by
  unfold sSetD sS1 cD1
  cases f ρ with
  | ok p =>
    obtain ⟨b, ρ'⟩ := p
    simp only [out_ok]
    cases frz b <;> rfl
  | err x ρ' => rfl
  | stuck => rfl
def un3 : Option Ev → Out
  | some ρ => .nx ρ
  | none => .stuck
@[simp] theorem e_un3 : un3 (some ρ) = .nx ρ := rfl
def un2 (p : Pat) (ρ : Ev) : Option D → Out
  | some d => un3 (p d ρ)
  | none => .stuck
@[simp] theorem e_un2 (p : Pat) : un2 p ρ (some d) = un3 (p d ρ) := rfl
def un1 (p : Pat) : R (B × Ev) → Out
  | .ok q => un2 p q.2 (frz q.1)
  | .err x ρ => .er x ρ
  | .stuck => .stuck
@[simp] theorem e_un1 (p : Pat) : un1 p (.ok (b, ρ)) = un2 p ρ (frz b) := rfl
@[simp] theorem e_un1e (p : Pat) (x : Exc) : un1 p (.err x ρ) = .er x ρ := rfl
@[simp] theorem e_sUnp (p : Pat) (f : FE) : sUnp p f ρ = un1 p (f ρ) := by
  unfold sUnp un1
  rw [e_cD]
  cases f ρ with
  | ok q =>
    obtain ⟨b, ρ'⟩ := q
    rw [e_cD1]
    show _ = un2 p ρ' (frz b)
    cases frz b with
    | none => rfl
    | some d =>
      simp only [e_cD2, out_ok, e_frz_dat, out_ofO_some, e_un2]
      cases p d ρ' <;> rfl
  | err x ρ' => rfl
  | stuck => rfl
def fo1 (p : Pat) (body : FS) : R (List D × Ev) → Out
  | .ok q => forD p body q.1 q.2
  | .err x ρ => .er x ρ
  | .stuck => .stuck
@[simp] theorem e_fo1 (p : Pat) (body : FS) (ds : List D) : fo1 p body (.ok (ds, ρ)) = forD p body ds ρ := rfl
@[simp] theorem e_fo1e (p : Pat) (body : FS) (x : Exc) : fo1 p body (.err x ρ) = .er x ρ := rfl
@[simp] theorem e_sFor (p : Pat) (f : FI) (body : FS) : sFor p f body ρ = fo1 p body (f ρ) := by
  unfold sFor fo1
  cases f ρ <;> rfl
@[simp] theorem e_forD_nil (p : Pat) (body : FS) : forD p body [] ρ = .nx ρ := rfl
def fd2 (p : Pat) (body : FS) (ds : List D) : Out → Out
  | .nx ρ => forD p body ds ρ
  | .ct ρ => forD p body ds ρ
  | .bk ρ => .nx ρ
  | .rt b ρ => .rt b ρ
  | .er x ρ => .er x ρ
  | .stuck => .stuck
@[simp] theorem e_fd2n (p : Pat) (body : FS) (ds : List D) : fd2 p body ds (.nx ρ) = forD p body ds ρ := rfl
@[simp] theorem e_fd2c (p : Pat) (body : FS) (ds : List D) : fd2 p body ds (.ct ρ) = forD p body ds ρ := rfl
@[simp] theorem e_fd2b (p : Pat) (body : FS) (ds : List D) : fd2 p body ds (.bk ρ) = .nx ρ := rfl
@[simp] theorem e_fd2r (p : Pat) (body : FS) (ds : List D) : fd2 p body ds (.rt b ρ) = .rt b ρ := rfl
@[simp] theorem e_fd2e (p : Pat) (body : FS) (ds : List D) (x : Exc) : fd2 p body ds (.er x ρ) = .er x ρ := rfl
@[simp] theorem e_fd2i (p : Pat) (body : FS) (ds : List D) (c : Prop) [Decidable c] (o o' : Out) : fd2 p body ds (if c then o else o') = if c then fd2 p body ds o else fd2 p body ds o' := by split <;> rfl
def fd1 (p : Pat) (body : FS) (ds : List D) : Option Ev → Out
  | some ρ => fd2 p body ds (body ρ)
  | none => .stuck
@[simp] theorem e_fd1 (p : Pat) (body : FS) (ds : List D) : fd1 p body ds (some ρ) = fd2 p body ds (body ρ) := rfl
/-- one turn (not by simp: a body written out in full) -/
theorem forD_cons (p : Pat) (body : FS) (ds : List D) : forD p body (d :: ds) ρ = fd1 p body ds (p d ρ) := by
  unfold fd1
  simp only [forD]
  cases p d ρ with
  | none => rfl
  | some ρ1 =>
    simp only
    unfold fd2
    cases body ρ1 <;> rfl
def lt4 (p : Pat) (c : FT) (e : FE) (vs : List Nat) (ds acc : List D) : R (Opd × Ev) → R (List D × Ev)
  | .ok (.val d', ρ) => if acc.length < sizeLine then lcD p c e vs ds (acc ++ [d']) (wipeE ρ vs) else .stuck
  | _ => .stuck
@[simp] theorem e_lt4 (p : Pat) (c : FT) (e : FE) (vs : List Nat) (ds acc : List D) : lt4 p c e vs ds acc (.ok (.val d, ρ)) = if acc.length < sizeLine then lcD p c e vs ds (acc ++ [d]) (wipeE ρ vs) else .stuck := rfl
def lt3 (p : Pat) (c : FT) (e : FE) (vs : List Nat) (ds acc : List D) : R (Bool × Ev) → R (List D × Ev)
  | .ok (true, ρ) => lt4 p c e vs ds acc (cO e ρ)
  | .ok (false, ρ) => lcD p c e vs ds acc (wipeE ρ vs)
  | _ => .stuck
@[simp] theorem e_lt3t (p : Pat) (c : FT) (e : FE) (vs : List Nat) (ds acc : List D) : lt3 p c e vs ds acc (.ok (true, ρ)) = lt4 p c e vs ds acc (cO e ρ) := rfl
@[simp] theorem e_lt3f (p : Pat) (c : FT) (e : FE) (vs : List Nat) (ds acc : List D) : lt3 p c e vs ds acc (.ok (false, ρ)) = lcD p c e vs ds acc (wipeE ρ vs) := rfl
def lt1 (p : Pat) (c : FT) (e : FE) (vs : List Nat) (ds acc : List D) : Option Ev → R (List D × Ev)
  | some ρ => lt3 p c e vs ds acc (c ρ)
  | none => .stuck
@[simp] theorem e_lt1 (p : Pat) (c : FT) (e : FE) (vs : List Nat) (ds acc : List D) : lt1 p c e vs ds acc (some ρ) = lt3 p c e vs ds acc (c ρ) := rfl
@[simp] theorem e_lcD_nil (p : Pat) (c : FT) (e : FE) (vs : List Nat) (acc : List D) : lcD p c e vs [] acc ρ = .ok (acc, ρ) := rfl
theorem lcD_cons (p : Pat) (c : FT) (e : FE) (vs : List Nat) (ds acc : List D) : lcD p c e vs (d :: ds) acc ρ = lt1 p c e vs ds acc (p d ρ) := by
  unfold lt1
  simp only [lcD]
  cases p d ρ with
  | none => rfl
  | some ρ1 =>
    simp only
    unfold lt3
    cases c ρ1 with
    | ok q =>
      obtain ⟨t, ρ2⟩ := q
      cases t with
      | false => rfl
      | true =>
        simp only
        unfold lt4
        cases cO e ρ2 with
        | ok z =>
          obtain ⟨o, ρ3⟩ := z
          cases o <;> rfl
        | err x ρ3 => rfl
        | stuck => rfl
    | err x ρ2 => rfl
    | stuck => rfl
def pu5 (k : Nat) (ρ : Ev) : Option (List D) → Out
  | some ds => .nx (ρ.set k (.own ds))
  | none => .stuck
@[simp] theorem e_pu5 (k : Nat) (ds : List D) : pu5 k ρ (some ds) = .nx (ρ.set k (.own ds)) := rfl
def pu4 (k : Nat) (ρ : Ev) : Opd → Option (List D) → Option D → Out
  | .val d, some ds, some x => pu5 k ρ (putL ds d x)
  | _, _, _ => .stuck
@[simp] theorem e_pu4 (k : Nat) (ds : List D) : pu4 k ρ (.val d) (some ds) (some d') = pu5 k ρ (putL ds d d') := rfl
def pu3 (k : Nat) (o : Opd) : R (Opd × Ev) → Out
  | .ok q => pu4 k q.2 o (ownL q.2 k) (rd q.2 q.1)
  | .err x ρ => .er x ρ
  | .stuck => .stuck
@[simp] theorem e_pu3 (k : Nat) (o o' : Opd) : pu3 k o (.ok (o', ρ)) = pu4 k ρ o (ownL ρ k) (rd ρ o') := rfl
def pu2 (k : Nat) (fj : FO) (o : Opd) (ρ : Ev) : Option (List D) → Out
  | some _ => pu3 k o (fj ρ)
  | none => .stuck
@[simp] theorem e_pu2 (k : Nat) (fj : FO) (o : Opd) (ds : List D) : pu2 k fj o ρ (some ds) = pu3 k o (fj ρ) := rfl
def pp1 (k : Nat) (fj : FO) : R (Opd × Ev) → Out
  | .ok p => pu2 k fj p.1 p.2 (ownL p.2 k)
  | .err x ρ => .er x ρ
  | .stuck => .stuck
@[simp] theorem e_pp1 (k : Nat) (fj : FO) (o : Opd) : pp1 k fj (.ok (o, ρ)) = pu2 k fj o ρ (ownL ρ k) := rfl
@[simp] theorem e_sPut (k : Nat) (f : FE) (fj : FO) : sPut k f fj ρ = pp1 k fj (cO f ρ) := by
  unfold sPut pp1
  cases cO f ρ with
  | ok p =>
    obtain ⟨o, ρ'⟩ := p
    simp only [out_ok]
    cases ownL ρ' k with
    | none => rfl
    | some ds0 =>
      simp only [out_ofO_some]
      show _ = pu3 k o (fj ρ')
      unfold pu3
      cases fj ρ' with
      | ok q =>
        obtain ⟨o', ρ2⟩ := q
        simp only [out_ok]
        cases ownL ρ2 k with
        | none => cases o <;> rfl
        | some ds =>
          cases rd ρ2 o' with
          | none => cases o <;> rfl
          | some x =>
            cases o with
            | val d =>
              simp only [out_ofO_some, e_pu4]
              cases putL ds d x <;> rfl
            | var _ => rfl
      | err x ρ2 => rfl
      | stuck => rfl
  | err x ρ' => rfl
  | stuck => rfl
def au3 (k : Nat) (g : Int → Int → Int) (i : Int) (ρ : Ev) : Option D → Out
  | some (.int j) => .nx (ρ.set k (.dat (.int (g i j))))
  | _ => .stuck
@[simp] theorem e_au3 (k : Nat) (g : Int → Int → Int) : au3 k g i ρ (some (.int j)) = .nx (ρ.set k (.dat (.int (g i j)))) := rfl
def au2 (k : Nat) (g : Int → Int → Int) (i : Int) : R (Opd × Ev) → Out
  | .ok p => au3 k g i p.2 (rd p.2 p.1)
  | .err x ρ => .er x ρ
  | .stuck => .stuck
@[simp] theorem e_au2 (k : Nat) (g : Int → Int → Int) (o : Opd) : au2 k g i (.ok (o, ρ)) = au3 k g i ρ (rd ρ o) := rfl
def au1 (k : Nat) (g : Int → Int → Int) (f : FO) (ρ : Ev) : Option B → Out
  | some (.dat (.int i)) => au2 k g i (f ρ)
  | _ => .stuck
@[simp] theorem e_au1 (k : Nat) (g : Int → Int → Int) (f : FO) : au1 k g f ρ (some (.dat (.int i))) = au2 k g i (f ρ) := rfl
@[simp] theorem e_sAug (k : Nat) (g : Int → Int → Int) (f : FO) : sAug k g f ρ = au1 k g f ρ ρ[k]? := by
  unfold sAug
  cases ρ[k]? with
  | none => rfl
  | some b =>
    cases b with
    | dat d =>
      cases d with
      | int a =>
        simp only [e_au1]
        unfold au2
        cases f ρ with
        | ok p =>
          simp only [out_ok]
          unfold au3
          cases rd p.2 p.1 with
          | none => rfl
          | some d => cases d <;> rfl
        | err x ρ' => rfl
        | stuck => rfl
      | _ => rfl
    | _ => rfl
/-! a turn of a while -/
def wh2 (c : FT) (body : FS) (n : Nat) : Out → Out
  | .nx ρ => whileD c body n ρ
  | .ct ρ => whileD c body n ρ
  | .bk ρ => .nx ρ
  | .rt b ρ => .rt b ρ
  | .er x ρ => .er x ρ
  | .stuck => .stuck
@[simp] theorem e_wh2n (c : FT) (body : FS) (n : Nat) : wh2 c body n (.nx ρ) = whileD c body n ρ := rfl
@[simp] theorem e_wh2c (c : FT) (body : FS) (n : Nat) : wh2 c body n (.ct ρ) = whileD c body n ρ := rfl
@[simp] theorem e_wh2b (c : FT) (body : FS) (n : Nat) : wh2 c body n (.bk ρ) = .nx ρ := rfl
@[simp] theorem e_wh2r (c : FT) (body : FS) (n : Nat) : wh2 c body n (.rt b ρ) = .rt b ρ := rfl
@[simp] theorem e_wh2e (c : FT) (body : FS) (n : Nat) (x : Exc) : wh2 c body n (.er x ρ) = .er x ρ := rfl
def wh1 (c : FT) (body : FS) (n : Nat) : R (Bool × Ev) → Out
  | .ok p => if p.1 = true then wh2 c body n (body p.2) else .nx p.2
  | .err x ρ => .er x ρ
  | .stuck => .stuck
@[simp] theorem e_wh1 (c : FT) (body : FS) (n : Nat) (t : Bool) : wh1 c body n (.ok (t, ρ)) = if t = true then wh2 c body n (body ρ) else .nx ρ := rfl
theorem whileD_succ (c : FT) (body : FS) (n : Nat) : whileD c body (n + 1) ρ = wh1 c body n (c ρ) := by
  simp only [whileD]
  unfold wh1
  cases c ρ with
  | ok p =>
    simp only [out_ok]
    split
    · unfold wh2
      cases body p.2 <;> rfl
    · rfl
  | err x ρ' => rfl
  | stuck => rfl
/-! the operators -/
@[simp] theorem e_gAdd : gAdd (.int i) (.int j) = some (.dat (.int (i + j))) := rfl
@[simp] theorem e_gSub : gSub (.int i) (.int j) = some (.dat (.int (i - j))) := rfl
@[simp] theorem e_gMod : gMod (.int i) (.int j) = if 0 < j then some (.dat (.int (i % j))) else none := rfl
@[simp] theorem e_gDiv : gDiv (.int i) (.int j) = if 0 < j ∧ (j < 1073741824 ∨ j.natAbs.log2 < 9000) then some (.dat (.int (i / j))) else none := rfl
@[simp] theorem e_gCmp (p : Int → Int → Bool) : gCmp p (.int i) (.int j) = some (.dat (.bl (p i j))) := rfl
@[simp] theorem e_gPow : gPow (.int i) (.int j) = if 0 ≤ j ∧ j ≤ 1000000 ∧ i.natAbs < 2 ^ 64 then some (.dat (.int (i ^ j.toNat))) else none := rfl
@[simp] theorem e_gNeg : gNeg (.int i) = some (.dat (.int (-i))) := rfl
@[simp] theorem e_seq_lst (ds : List D) : seqOf (.lst ds) = some ds := rfl
@[simp] theorem e_seq_tup (ds : List D) : seqOf (.tup ds) = some ds := rfl
@[simp] theorem e_seq_scr (ds : List D) : seqOf (.scr ds) = some ds := rfl
@[simp] theorem e_lst_lst (ds : List D) : lstOf (.lst ds) = some ds := rfl
@[simp] theorem e_lst_scr (ds : List D) : lstOf (.scr ds) = some ds := rfl
@[simp] theorem e_len_lst (ds : List D) : gLen [.lst ds] = some (.dat (.int (ds.length : Nat))) := rfl
@[simp] theorem e_len_tup (ds : List D) : gLen [.tup ds] = some (.dat (.int (ds.length : Nat))) := rfl
@[simp] theorem e_len_scr (ds : List D) : gLen [.scr ds] = some (.dat (.int (ds.length : Nat))) := rfl
@[simp] theorem e_list_lst (ds : List D) : gList [.lst ds] = some (.own ds) := rfl
@[simp] theorem e_list_tup (ds : List D) : gList [.tup ds] = some (.own ds) := rfl
@[simp] theorem e_list_scr (ds : List D) : gList [.scr ds] = some (.own ds) := rfl
@[simp] theorem e_tuple_tup (ds : List D) : gTuple [.tup ds] = some (.dat (.tup ds)) := rfl
@[simp] theorem e_tuple_lst (ds : List D) : gTuple [.lst ds] = some (.dat (.tup ds)) := rfl
@[simp] theorem e_int_int : gInt [.int i] = some (.dat (.int i)) := rfl
@[simp] theorem e_int_bl (c : Bool) : gInt [.bl c] = some (.dat (.int (if c = true then 1 else 0))) := rfl
@[simp] theorem e_max2 : gMax2 [.int i, .int j] = some (.dat (.int (if j > i then j else i))) := rfl
@[simp] theorem e_min2 : gMin2 [.int i, .int j] = some (.dat (.int (if j < i then j else i))) := rfl
@[simp] theorem e_intOf : intOf (.int i) = some i := rfl
def is_r (s : String) (o : Option String) : Option B := match o with
  | some a => if ["bool", "int", "str", "list", "tuple", "dict"].contains s = true then some (B.dat (.bl (isTy a s))) else none
  | none => none
@[simp] theorem e_isi (s : String) : gIsi [d, .opq (.ty s)] = is_r s (tyN d) := by
  rfl
theorem is_r_some {a s : String} (h : ["bool", "int", "str", "list", "tuple", "dict"].contains s = true) : is_r s (some a) = some (.dat (.bl (isTy a s))) := if_pos h
@[simp] theorem is_r_bool {a : String} : is_r "bool" (some a) = some (.dat (.bl (isTy a "bool"))) := is_r_some (by decide)
@[simp] theorem is_r_int {a : String} : is_r "int" (some a) = some (.dat (.bl (isTy a "int"))) := is_r_some (by decide)
@[simp] theorem is_r_str {a : String} : is_r "str" (some a) = some (.dat (.bl (isTy a "str"))) := is_r_some (by decide)
@[simp] theorem is_r_list {a : String} : is_r "list" (some a) = some (.dat (.bl (isTy a "list"))) := is_r_some (by decide)
@[simp] theorem is_r_tuple {a : String} : is_r "tuple" (some a) = some (.dat (.bl (isTy a "tuple"))) := is_r_some (by decide)
@[simp] theorem is_r_dict {a : String} : is_r "dict" (some a) = some (.dat (.bl (isTy a "dict"))) := is_r_some (by decide)
@[simp] theorem e_sl_tup (ds : List D) (lo hi : Option Int) : gSl (.tup ds) lo hi = some (.dat (.tup (cutD ds lo hi))) := rfl
@[simp] theorem e_sl_lst (ds : List D) (lo hi : Option Int) : gSl (.lst ds) lo hi = some (.own (cutD ds lo hi)) := rfl
@[simp] theorem e_rev_tup (ds : List D) : gRev (.tup ds) = some (.dat (.tup ds.reverse)) := rfl
@[simp] theorem e_rev_lst (ds : List D) : gRev (.lst ds) = some (.own ds.reverse) := rfl
theorem outs_nil (Pr : List Nat) (k : Nat) : outsD Pr k 0 ρ = [] := by cases ρ <;> rfl
theorem outs_cons (Pr : List Nat) (k n : Nat) : outsD Pr k (n + 1) (b :: ρ) = (if Pr.contains k = true then b else .un) :: outsD Pr (k + 1) n ρ := rfl
end
/-- a def's end -/
def toR (Pr : List Nat) (n : Nat) : Out → FR
  | .rt b ρ => .ok b (outsD Pr 0 n ρ)
  | .nx ρ => .ok (.dat .non) (outsD Pr 0 n ρ)
  | .er x ρ => .er x (outsD Pr 0 n ρ)
  | _ => .stuck
theorem toF_at (Pr : List Nat) (n nN : Nat) (g : FS) (bs : List B) : toF Pr n nN g bs = toR Pr n (g (bs ++ List.replicate (nN - n) .un)) := by
  unfold toF toR
  cases g (bs ++ List.replicate (nN - n) .un) <;> rfl
@[simp] theorem e_toR_rt (Pr : List Nat) (n : Nat) (b : B) (ρ : Ev) : toR Pr n (.rt b ρ) = .ok b (outsD Pr 0 n ρ) := rfl
@[simp] theorem e_toR_nx (Pr : List Nat) (n : Nat) (ρ : Ev) : toR Pr n (.nx ρ) = .ok (.dat .non) (outsD Pr 0 n ρ) := rfl
@[simp] theorem e_toR_er (Pr : List Nat) (n : Nat) (x : Exc) (ρ : Ev) : toR Pr n (.er x ρ) = .er x (outsD Pr 0 n ρ) := rfl
@[simp] theorem e_toR_ite (Pr : List Nat) (n : Nat) (c : Prop) [Decidable c] (a b : Out) : toR Pr n (if c then a else b) = if c then toR Pr n a else toR Pr n b := by split <;> rfl
@[simp] theorem e_then_ite (c : Prop) [Decidable c] (a b : Out) (g : FS) : (if c then a else b).then g = if c then a.then g else b.then g := by split <;> rfl
/-! equality -/
theorem gEq_of {d e : D} (h : shp d = true) (h' : shp e = true) : gEq d e = some (.dat (.bl (eqD d e))) := by
  unfold gEq
  rw [h, h']
  rfl
theorem gNe_of {d e : D} (h : shp d = true) (h' : shp e = true) : gNe d e = some (.dat (.bl (!eqD d e))) := by
  unfold gNe
  rw [h, h']
  rfl
@[simp] theorem shp_int (i : Int) : shp (.int i) = true := by
  simp [shp, SeqAt.shaped, py, PyData.canLay0, PyData.depth]
@[simp] theorem shp_bl (i : Bool) : shp (.bl i) = true := by
  simp [shp, SeqAt.shaped, py, PyData.canLay0, PyData.depth]
@[simp] theorem shp_non : shp .non = true := by
  simp [shp, SeqAt.shaped, py, PyData.canLay0, PyData.depth]
theorem strOk_of (s : String) : PyData.strOk (Str.ofString s) = true := by
  unfold PyData.strOk
  rw [Str.ofString_eq_toList]
  simp only [List.all_toArray, List.all_map, List.all_eq_true, Function.comp, decide_eq_true_eq]
  intro c _
  have := c.valid
  unfold Char.toNat UInt32.isValidChar Nat.isValidChar at *
  omega
@[simp] theorem shp_str (s : String) : shp (.str (Str.ofString s)) = true := by
  simp [shp, SeqAt.shaped, py, PyData.canLay0, PyData.depth, strOk_of]
theorem ofString_inj {a b : String} : Str.ofString a = Str.ofString b ↔ a = b := by
  constructor
  · intro h
    rw [Str.ofString_eq_toList, Str.ofString_eq_toList] at h
    have h2 := congrArg Str.cps h
    simp only at h2
    have h3 : a.toList.map Char.toNat = b.toList.map Char.toNat := by simpa using h2
    have inj : Function.Injective Char.toNat := fun x y e => Char.toNat_inj.mp e
    have h4 : a.toList = b.toList := by
      refine List.map_inj_right (fun x y e => inj e) |>.mp h3
    exact String.toList_inj.mp h4
  · intro h
    rw [h]
@[simp] theorem eqD_int (i j : Int) : eqD (.int i) (.int j) = (i == j) := by simp [eqD, py, PyData.eqv]
@[simp] theorem eqD_bl (i j : Bool) : eqD (.bl i) (.bl j) = (i == j) := by simp [eqD, py, PyData.eqv]
@[simp] theorem eqD_str (i j : Str) : eqD (.str i) (.str j) = (i == j) := by simp [eqD, py, PyData.eqv]
@[simp] theorem gEq_int (i j : Int) : gEq (.int i) (.int j) = some (.dat (.bl (i == j))) := by rw [gEq_of (by simp) (by simp), eqD_int]
@[simp] theorem gEq_bl (i j : Bool) : gEq (.bl i) (.bl j) = some (.dat (.bl (i == j))) := by rw [gEq_of (by simp) (by simp), eqD_bl]
@[simp] theorem gNe_int (i j : Int) : gNe (.int i) (.int j) = some (.dat (.bl (!(i == j)))) := by rw [gNe_of (by simp) (by simp), eqD_int]
@[simp] theorem gEq_str (i j : String) : gEq (.str (Str.ofString i)) (.str (Str.ofString j)) = some (.dat (.bl (decide (i = j)))) := by
  rw [gEq_of (by simp) (by simp), eqD_str]
  congr 3
  rw [Bool.eq_iff_iff]
  simp [ofString_inj]
@[simp] theorem gNe_str (i j : String) : gNe (.str (Str.ofString i)) (.str (Str.ofString j)) = some (.dat (.bl (!decide (i = j)))) := by
  rw [gNe_of (by simp) (by simp), eqD_str]
  congr 4
  rw [Bool.eq_iff_iff]
  simp [ofString_inj]
/-! places -/
theorem atI_nat' {α : Type} (ds : List α) (k : Nat) : atI ds (k : Int) = ds[k]? := by
  unfold atI ixN
  rw [if_pos (by omega)]
  by_cases h : (k : Int) < ds.length
  · rw [if_pos h]
    simp
  · rw [if_neg h]
    rw [List.getElem?_eq_none (by omega)]
    rfl
@[simp] theorem atI_lit {α : Type} (ds : List α) (k : Nat) : atI ds (no_index (OfNat.ofNat k)) = ds[k]? := atI_nat' ds k
@[simp] theorem ixN_lit (n k : Nat) : ixN n (no_index (OfNat.ofNat k)) = if k < n then some k else none := by
  show ixN n (k : Int) = _
  unfold ixN
  rw [if_pos (by omega)]
  by_cases h : k < n
  · rw [if_pos (by omega), if_pos h]
    simp
  · rw [if_neg (by omega), if_neg h]
@[simp] theorem gIx_lst (ds : List D) (k : Int) : gIx (.lst ds) (.int k) = (atI ds k).map .dat := rfl
@[simp] theorem gIx_tup (ds : List D) (k : Int) : gIx (.tup ds) (.int k) = (atI ds k).map .dat := rfl
@[simp] theorem gIx_scr (ds : List D) (k : Int) : gIx (.scr ds) (.int k) = (atI ds k).map .dat := rfl
@[simp] theorem putL_int (ds : List D) (d : D) (k : Int) : putL ds d (.int k) = (ixN ds.length k).map fun j => ds.set j d := rfl
@[simp] theorem gExtend_lst (ds es : List D) : gExtend ds [.lst es] = if ds.length + es.length ≤ sizeLine then some (.non, ds ++ es) else none := rfl
@[simp] theorem le_sizeLine (k : Nat) : (no_index (OfNat.ofNat k) ≤ sizeLine) = decide (k ≤ 16777216) := by
  simp [sizeLine_eq, OfNat.ofNat]
theorem gMul_l {i j : Int} (h : small64 i = true) : gMul (.int i) (.int j) = some (.dat (.int (i * j))) := by
  unfold gMul
  simp only [h, Bool.true_or, if_true]
theorem gMul_r {i j : Int} (h : small64 j = true) : gMul (.int i) (.int j) = some (.dat (.int (i * j))) := by
  unfold gMul
  simp only [h, Bool.true_or, Bool.or_true, if_true]
theorem small_of {i : Int} (h0 : -18446744073709551616 < i) (h1 : i < 18446744073709551616) : small64 i = true := by
  unfold small64
  simp
  omega
@[simp] theorem small_lit (k : Nat) : small64 (no_index (OfNat.ofNat k)) = decide (k < 18446744073709551616) := by
  show small64 (k : Int) = _
  unfold small64
  rw [Bool.eq_iff_iff]
  simp
  omega
@[simp] theorem small_mod1 (x : Int) : small64 (x % 2147483647) = true := small_of (by have := Int.emod_nonneg x (show (2147483647 : Int) ≠ 0 by decide); omega) (by have := Int.emod_lt_of_pos x (show (0 : Int) < 2147483647 by decide); omega)
theorem ix_menu {α : Type} {ds : List α} {r : Int} (h0 : 0 ≤ r) (h1 : r < ds.length) : ∃ d ∈ ds, atI ds r = some d := by
  obtain ⟨k, rfl⟩ := Int.eq_ofNat_of_zero_le h0
  rw [atI_nat']
  have hk : k < ds.length := by omega
  exact ⟨ds[k], List.getElem_mem hk, List.getElem?_eq_getElem hk⟩
/-! shapes -/
def shn (n : Nat) (d : D) : Bool := PyData.canLay0 (py d) && decide (PyData.depth (py d) ≤ n)
theorem shp_shn (d : D) : shp d = shn 64 d := rfl
theorem shn_mono {n m : Nat} {d : D} (h : shn n d = true) (l : n ≤ m) : shn m d = true := by
  unfold shn at h ⊢
  rw [Bool.and_eq_true, decide_eq_true_eq] at h ⊢
  exact ⟨h.1, Nat.le_trans h.2 l⟩
@[simp] theorem shn_int (n : Nat) (i : Int) : shn n (.int i) = true := by
  simp [shn, py, PyData.canLay0, PyData.depth]
@[simp] theorem shn_bl (n : Nat) (i : Bool) : shn n (.bl i) = true := by
  simp [shn, py, PyData.canLay0, PyData.depth]
@[simp] theorem shn_non (n : Nat) : shn n .non = true := by
  simp [shn, py, PyData.canLay0, PyData.depth]
theorem shn_strOk (n : Nat) (s : Str) : shn n (.str s) = PyData.strOk s := by
  simp [shn, py, PyData.canLay0, PyData.depth]
@[simp] theorem shn_str (n : Nat) (s : String) : shn n (.str (Str.ofString s)) = true := by
  rw [shn_strOk, strOk_of]
theorem shnL (n : Nat) : ∀ ds : List D, (PyData.canLayAll0 (pyL ds) && decide (PyData.depthAll (pyL ds) ≤ n)) = ds.all (shn n)
  | [] => by simp [pyL, PyData.canLayAll0, PyData.depthAll]
  | d :: ds => by
    rw [List.all_cons, ← shnL n ds]
    simp only [pyL, PyData.canLayAll0, PyData.depthAll, shn]
    rw [Bool.eq_iff_iff]
    simp only [Bool.and_eq_true, decide_eq_true_eq, Nat.max_le]
    constructor
    · rintro ⟨⟨a, b⟩, c, d⟩
      exact ⟨⟨a, c⟩, b, d⟩
    · rintro ⟨⟨a, c⟩, b, d⟩
      exact ⟨⟨a, b⟩, c, d⟩
@[simp] theorem shn_tup (n : Nat) (ds : List D) : shn (n + 1) (.tup ds) = ds.all (shn n) := by
  rw [← shnL]
  simp [shn, py, PyData.canLay0, PyData.depth]
@[simp] theorem shn_lst (n : Nat) (ds : List D) : shn (n + 1) (.lst ds) = ds.all (shn n) := by
  rw [← shnL]
  simp [shn, py, PyData.canLay0, PyData.depth]
@[simp] theorem shn_scr (n : Nat) (ds : List D) : shn (n + 1) (.scr ds) = ds.all (shn n) := by
  rw [← shnL]
  simp [shn, py, PyData.canLay0, PyData.depth]
@[simp] theorem shp_tup (ds : List D) : shp (.tup ds) = ds.all (shn 63) := shn_tup 63 ds
@[simp] theorem shp_lst (ds : List D) : shp (.lst ds) = ds.all (shn 63) := shn_lst 63 ds
@[simp] theorem shp_scr (ds : List D) : shp (.scr ds) = ds.all (shn 63) := shn_scr 63 ds
theorem gIn_tup {d : D} {ds : List D} (h : shp d = true) (h' : shp (.tup ds) = true) : gIn d (.tup ds) = some (.dat (.bl (inD d ds))) := by
  show (if (shp d && shp (.tup ds)) = true then some (B.dat (.bl (inD d ds))) else none) = _
  rw [h, h']
  rfl
theorem gIn_lst {d : D} {ds : List D} (h : shp d = true) (h' : shp (.lst ds) = true) : gIn d (.lst ds) = some (.dat (.bl (inD d ds))) := by
  show (if (shp d && shp (.lst ds)) = true then some (B.dat (.bl (inD d ds))) else none) = _
  rw [h, h']
  rfl
theorem gNotIn_tup {d : D} {ds : List D} (h : shp d = true) (h' : shp (.tup ds) = true) : gNotIn d (.tup ds) = some (.dat (.bl (!inD d ds))) := by
  show (if (shp d && shp (.tup ds)) = true then some (B.dat (.bl (!inD d ds))) else none) = _
  rw [h, h']
  rfl
theorem gNotIn_lst {d : D} {ds : List D} (h : shp d = true) (h' : shp (.lst ds) = true) : gNotIn d (.lst ds) = some (.dat (.bl (!inD d ds))) := by
  show (if (shp d && shp (.lst ds)) = true then some (B.dat (.bl (!inD d ds))) else none) = _
  rw [h, h']
  rfl
/-! classes -/
@[simp] theorem ty_non : tyN .non = some "NoneType" := rfl
@[simp] theorem ty_bl (b : Bool) : tyN (.bl b) = some "bool" := rfl
@[simp] theorem ty_int (b : Int) : tyN (.int b) = some "int" := rfl
@[simp] theorem ty_str (b : Str) : tyN (.str b) = some "str" := rfl
@[simp] theorem ty_lst (b : List D) : tyN (.lst b) = some "list" := rfl
@[simp] theorem ty_scr (b : List D) : tyN (.scr b) = some "list" := rfl
@[simp] theorem ty_tup (b : List D) : tyN (.tup b) = some "tuple" := rfl
@[simp] theorem ty_dk (b : List (Key × D)) : tyN (.dk b) = some "dict" := rfl
@[simp] theorem ty_dt (b : List (List Key × D)) : tyN (.dt b) = some "dict" := rfl
mutual
/-- what can be asked for its class, through and through -/
def niceB : D → Bool
  | .non => true
  | .bl _ => true
  | .int _ => true
  | .str s => PyData.strOk s
  | .lst ds => niceL ds
  | .tup ds => niceL ds
  | .scr ds => niceL ds
  | .dk _ => true
  | .dt _ => true
  | .ins _ _ => false
  | .opq _ => false
def niceL : List D → Bool
  | [] => true
  | d :: ds => niceB d && niceL ds
end
theorem niceL_all : ∀ ds : List D, niceL ds = ds.all niceB
  | [] => rfl
  | d :: ds => by rw [niceL, List.all_cons, niceL_all ds]
@[simp] theorem nice_non : niceB .non = true := by simp [niceB]
@[simp] theorem nice_bl (b : Bool) : niceB (.bl b) = true := by simp [niceB]
@[simp] theorem nice_int (b : Int) : niceB (.int b) = true := by simp [niceB]
@[simp] theorem nice_str (s : String) : niceB (.str (Str.ofString s)) = true := by simp [niceB, strOk_of]
@[simp] theorem nice_lst (ds : List D) : niceB (.lst ds) = ds.all niceB := by simp [niceB, niceL_all]
@[simp] theorem nice_tup (ds : List D) : niceB (.tup ds) = ds.all niceB := by simp [niceB, niceL_all]
@[simp] theorem nice_dk (ds : List (Key × D)) : niceB (.dk ds) = true := by simp [niceB]
/-! cuts -/
@[simp] theorem cut_lo (ds : List D) (k : Nat) : cutD ds none (some (k : Int)) = ds.take k := by
  unfold cutD
  rw [HT.sIx_nat, HT.sIx_none]
  simp only [List.drop_zero, Nat.sub_zero]
  by_cases h : k ≤ ds.length
  · rw [Nat.min_eq_left h]
  · rw [Nat.min_eq_right (by omega), List.take_of_length_le (by omega), List.take_of_length_le (by omega)]
@[simp] theorem cut_hi (ds : List D) (k : Nat) : cutD ds (some (k : Int)) none = ds.drop k := by
  unfold cutD
  rw [HT.sIx_nat, HT.sIx_none]
  by_cases h : k ≤ ds.length
  · rw [Nat.min_eq_left h, List.take_of_length_le (by rw [List.length_drop]; omega)]
  · rw [Nat.min_eq_right (by omega), List.drop_eq_nil_of_le (by omega), List.drop_eq_nil_of_le (by omega)]
    simp
theorem cut_sub {ds : List D} {lo hi : Option Int} {d : D} (h : d ∈ cutD ds lo hi) : d ∈ ds := List.mem_of_mem_drop (List.mem_of_mem_take h)
/-! ranges -/
@[simp] theorem rng1_ok (n : Int) (h : rngOk n = true) : rng1 [.int n] = some (rngD 0 n.toNat) := by
  simp [rng1, h]
theorem rngOk_of {n : Int} (h0 : -4611686018427387904 ≤ n) (h1 : n < 4611686018427387904) : rngOk n = true := by
  unfold rngOk
  simp
  omega
theorem rngD_length (lo : Int) (n : Nat) : (rngD lo n).length = n := by simp [rngD]
/-! enumerate -/
def enumK : Nat → List D → List D
  | _, [] => []
  | k, d :: ds => .tup [.int (k : Int), d] :: enumK (k + 1) ds
theorem enumK_eq : ∀ (ds : List D) (k : Nat), (ds.mapIdx fun i d => D.tup [.int ((k + i : Nat) : Int), d]) = enumK k ds
  | [], k => rfl
  | d :: ds, k => by
    rw [List.mapIdx_cons, enumK, ← enumK_eq ds (k + 1)]
    simp only [Nat.add_zero, Nat.add_assoc, Nat.add_comm 1]
theorem enumD_eq (ds : List D) : enumD ds = enumK 0 ds := by
  rw [← enumK_eq ds 0]
  simp only [Nat.zero_add]
  rfl
theorem gEq_len {xs ys : List D} (h : xs.length ≠ ys.length) : gEq (.lst xs) (.lst ys) = some (.dat (.bl false)) := by
  unfold gEq
  split
  · have e : eqD (.lst xs) (.lst ys) = false := by
      have hl : ∀ zs : List D, (pyL zs).length = zs.length := fun zs => by
        induction zs with
        | nil => rfl
        | cons z zs ih => simp [pyL, ih]
      have hh : ∀ us vs : List PyData, us.length ≠ vs.length → PyData.eqvAll us vs = false := by
        intro us
        induction us with
        | nil =>
          intro vs h
          cases vs with
          | nil => exact absurd rfl h
          | cons v vs => simp [PyData.eqvAll]
        | cons u us ih =>
          intro vs h
          cases vs with
          | nil => simp [PyData.eqvAll]
          | cons v vs =>
            simp only [PyData.eqvAll]
            rw [ih vs (by simpa using h)]
            simp
      simp only [eqD, py, PyData.eqv]
      exact hh _ _ (by rw [hl, hl]; exact h)
    rw [e]
  · show (if xs.length = ys.length then (if eqEls xs ys = true then some (B.dat (.bl true)) else none) else some (B.dat (.bl false))) = _
    rw [if_neg h]
/-- xs == [] -/
theorem gEq_nil (xs : List D) : gEq (.lst xs) (.lst []) = some (.dat (.bl xs.isEmpty)) := by
  cases xs with
  | nil => rw [gEq_of (by simp) (by simp)]; rfl
  | cons x xs => rw [gEq_len (by simp)]; rfl
/-! comprehensions of data -/
theorem lc_fm {k : Nat} {c : FT} {e : FE} {g : D → D} {t : D → Bool} {ρ : Ev} (hk : ρ.set k .un = ρ) : ∀ (ds acc : List D), (∀ d ∈ ds, c (ρ.set k (.dat d)) = .ok (t d, ρ.set k (.dat d))) → (∀ d ∈ ds, t d = true → cO e (ρ.set k (.dat d)) = .ok (.val (g d), ρ.set k (.dat d))) → acc.length + ds.length ≤ sizeLine →
    lcD (pName k) c e [k] ds acc ρ = .ok (acc ++ (ds.filter t).map g, ρ)
  | [], acc, _, _, _ => by simp
  | d :: ds, acc, hc, he, hl => by
    have w : wipeE (ρ.set k (.dat d)) [k] = ρ := by
      show (ρ.set k (.dat d)).set k .un = ρ
      rw [List.set_set, hk]
    rw [lcD_cons, e_pName, e_lt1, hc d List.mem_cons_self]
    rw [List.length_cons] at hl
    cases q : t d with
    | false =>
      rw [e_lt3f, w, lc_fm hk ds acc (fun d m => hc d (List.mem_cons_of_mem _ m)) (fun d m => he d (List.mem_cons_of_mem _ m)) (by omega)]
      simp [q]
    | true =>
      rw [e_lt3t, he d List.mem_cons_self q, e_lt4, if_pos (by omega), w, lc_fm hk ds _ (fun d m => hc d (List.mem_cons_of_mem _ m)) (fun d m => he d (List.mem_cons_of_mem _ m)) (by rw [List.length_append, List.length_singleton]; omega)]
      simp [q]
theorem lc_map {k : Nat} {e : FE} {g : D → D} {ρ : Ev} (hk : ρ.set k .un = ρ) (ds : List D) (he : ∀ d ∈ ds, cO e (ρ.set k (.dat d)) = .ok (.val (g d), ρ.set k (.dat d))) (hl : ds.length ≤ sizeLine) : lcD (pName k) tYs e [k] ds [] ρ = .ok (ds.map g, ρ) := by
  rw [lc_fm (t := fun _ => true) (g := g) hk ds [] (fun d m => rfl) (fun d m _ => he d m) (by simpa using hl), List.filter_eq_self.mpr (fun _ _ => rfl)]
  rfl
theorem bls_map (p : D → Bool) : ∀ ds : List D, blsOf (ds.map fun d => .bl (p d)) = some (ds.map p)
  | [] => rfl
  | d :: ds => by
    rw [List.map_cons, blsOf, bls_map p ds]
    rfl
theorem gAll_map (p : D → Bool) (ds : List D) : gAll [.lst (ds.map fun d => .bl (p d))] = some (.dat (.bl (ds.all p))) := by
  show ((lstOf (.lst (ds.map fun d => .bl (p d)))).bind blsOf).map (fun bs => B.dat (.bl (bs.all id))) = _
  rw [e_lst_lst, Option.bind_some, bls_map]
  simp [List.all_map]
theorem gAdd_tup {xs ys : List D} (h : xs.length + ys.length ≤ 16777216) : gAdd (.tup xs) (.tup ys) = some (.dat (.tup (xs ++ ys))) := by
  show (if xs.length + ys.length ≤ sizeLine then some (B.dat (.tup (xs ++ ys))) else none) = _
  rw [if_pos (by rw [sizeLine_eq]; exact h)]
theorem gAdd_lst {xs ys : List D} (h : xs.length + ys.length ≤ 16777216) : gAdd (.lst xs) (.lst ys) = some (.own (xs ++ ys)) := by
  show (if xs.length + ys.length ≤ sizeLine then some (B.own (xs ++ ys)) else none) = _
  rw [if_pos (by rw [sizeLine_eq]; exact h)]
theorem cut_len (ds : List D) (lo hi : Option Int) : (cutD ds lo hi).length ≤ ds.length := by
  unfold Dl.cutD
  rw [List.length_take, List.length_drop]
  omega
theorem gMul_rep {xs : List D} {k : Int} (h0 : 0 ≤ k) (h1 : k ≤ 1000) (h2 : xs.length ≤ 1000) : gMul (.lst xs) (.int k) = some (.own (List.replicate k.toNat xs).flatten) := by
  show (if (decide (k < 2 ^ 30) && decide (-(2 ^ 30) < k) && decide (xs.length * k.toNat ≤ sizeLine)) = true then some (B.own (List.replicate k.toNat xs).flatten) else none) = _
  rw [if_pos]
  simp only [Bool.and_eq_true, decide_eq_true_eq]
  refine ⟨⟨by omega, by omega⟩, ?_⟩
  rw [sizeLine_eq]
  have : xs.length * k.toNat ≤ 1000 * 1000 := Nat.mul_le_mul h2 (by omega)
  omega
@[simp] theorem cut_lo_lit (ds : List D) (k : Nat) : cutD ds none (some (no_index (OfNat.ofNat k))) = ds.take k := cut_lo ds k
@[simp] theorem cut_hi_lit (ds : List D) (k : Nat) : cutD ds (some (no_index (OfNat.ofNat k))) none = ds.drop k := cut_hi ds k
end Dl
set_option Elab.async false
set_option linter.all false
set_option maxRecDepth 100000
namespace Dl
open PySem PySem.Spec L2
open PyProof.Rows hiding St
/-! ## the well: digits drawn -/
def m_digit : FS := (sSeq (sIf (cT (c2 gEq (cO (cCB gLen (aCons (cNO 0) aNil))) (cO (cC (.int 1)))))
  (sSeq (sSet 2 (c2 gIx (cNO 0) (cO (cC (.int 0))))) (sSeq (sPut 0 (c2 gIx (cO (cLst (aCons (cO (cC (.int 0))) (aCons (cNO 2) aNil)))) (cO (cCB gInt (aCons (cO (c2 gGe (cNO 2) (cO (c2 gPow (cO (cC (.int 10))) (cO (cC (.int 18))))))) aNil)))) (cO (cC (.int 0)))) (sE (cMut 0 gExtend (aCons (cO (cLst (aCons (cO (c2 gMod (cNO 2) (cO (cC (.int 2147483647))))) (aCons (cO (cC (.int 0))) aNil)))) aNil)))))
  sNil) (sSeq (sIf (cT (c2 gGt (cO (c2 gIx (cNO 0) (cO (cC (.int 0))))) (cO (cC (.int 0)))))
  (sSeq (sSet 3 (c2 gMod (cO (c2 gIx (cNO 0) (cO (cC (.int 0))))) (cNO 1))) (sSeq (sPut 0 (c2 gDiv (cO (c2 gIx (cNO 0) (cO (cC (.int 0))))) (cNO 1)) (cO (cC (.int 0)))) (sRet (cN 3))))
  sNil) (sSeq (sPut 0 (c2 gAdd (cO (c2 gIx (cNO 0) (cO (cC (.int 2))))) (cO (cC (.int 1)))) (cO (cC (.int 2)))) (sSeq (sSet 4 (c2 gMod (cO (c2 gMul (cO (c2 gAdd (cO (c2 gAdd (cO (c2 gIx (cNO 0) (cO (cC (.int 1))))) (cO (c2 gMul (cO (cC (.int 7919))) (cO (c2 gIx (cNO 0) (cO (cC (.int 2))))))))) (cO (cC (.int 1))))) (cO (cC (.int 48271))))) (cO (cC (.int 2147483647))))) (sSeq (sSet 4 (c2 gMod (cO (c2 gMul (cNO 4) (cO (c2 gAdd (cO (c2 gDiv (cNO 4) (cO (cC (.int 1009))))) (cO (cC (.int 69621))))))) (cO (cC (.int 2147483647))))) (sRet (c2 gMod (cO (c2 gMod (cO (c2 gMul (cNO 4) (cO (c2 gAdd (cO (c2 gDiv (cNO 4) (cO (cC (.int 2003))))) (cO (cC (.int 40692))))))) (cO (cC (.int 2147483399))))) (cNO 1))))))))
def f_digit : FG := toF [0] 2 5 m_digit
inductive Well where
  | raw (c : Int)
  | run (a s n : Int)
def Well.ds : Well → List D
  | .raw c => [.int c]
  | .run a s n => [.int a, .int s, .int n]
def Well.pre : Well → Int × Int × Int
  | .raw c => (if 1000000000000000000 ≤ c then c else 0, c % 2147483647, 0)
  | .run a s n => (a, s, n)
def mixA (s n : Int) : Int := (s + 7919 * n + 1) * 48271 % 2147483647
def mixB (m : Int) : Int := m * (m / 1009 + 69621) % 2147483647
def mixC (m : Int) : Int := m * (m / 2003 + 40692) % 2147483399
def Well.fig (w : Well) (b : Int) : Int := if 0 < w.pre.1 then w.pre.1 % b else mixC (mixB (mixA w.pre.2.1 (w.pre.2.2 + 1))) % b
def Well.aft (w : Well) (b : Int) : Well := if 0 < w.pre.1 then .run (w.pre.1 / b) w.pre.2.1 w.pre.2.2 else .run w.pre.1 w.pre.2.1 (w.pre.2.2 + 1)
theorem Well.lo (w : Well) {b : Int} (h : 0 < b) : 0 ≤ w.fig b := by
  unfold Well.fig
  split <;> exact Int.emod_nonneg _ (by omega)
theorem Well.hi (w : Well) {b : Int} (h : 0 < b) : w.fig b < b := by
  unfold Well.fig
  split <;> exact Int.emod_lt_of_pos _ h
theorem digit_eq (w : Well) {b : Int} (h0 : 0 < b) (h1 : b < 1073741824) : f_digit [.own w.ds, .dat (.int b)] = .ok (.dat (.int (w.fig b))) [.own (w.aft b).ds, .un] := by
  cases w with
  | raw c =>
    by_cases hc : 1000000000000000000 ≤ c
    · have hp : 0 < c := by omega
      simp [f_digit, toF_at, m_digit, outs_cons, outs_nil, gMul_l, gMul_r, mixA, mixB, mixC, h0, h1, Well.ds, Well.fig, Well.aft, Well.pre, hc, hp]
    · simp [f_digit, toF_at, m_digit, outs_cons, outs_nil, gMul_l, gMul_r, mixA, mixB, mixC, h0, h1, Well.ds, Well.fig, Well.aft, Well.pre, hc]
  | run a s n =>
    by_cases hc : 0 < a
    · simp [f_digit, toF_at, m_digit, outs_cons, outs_nil, gMul_l, gMul_r, mixA, mixB, mixC, h0, h1, Well.ds, Well.fig, Well.aft, Well.pre, hc]
    · simp [f_digit, toF_at, m_digit, outs_cons, outs_nil, gMul_l, gMul_r, mixA, mixB, mixC, h0, h1, Well.ds, Well.fig, Well.aft, Well.pre, hc]
theorem menu (w : Well) {ds : List D} {n : Int} (hn : n = (ds.length : Int)) (h0 : 0 < n) : ∃ d ∈ ds, gIx (.lst ds) (.int (w.fig n)) = some (.dat d) := by
  obtain ⟨d, hd, e⟩ := ix_menu (ds := ds) (w.lo h0) (by rw [← hn]; exact w.hi h0)
  exact ⟨d, hd, by rw [gIx_lst, e]; rfl⟩
end Dl
set_option Elab.async false
set_option linter.all false
set_option maxRecDepth 100000
set_option maxHeartbeats 1000000
namespace Dl
open PySem PySem.Spec L2
open PyProof.Rows hiding St
/-! ## what the printed derivations of asking defs lean on -/
section
variable {Y : Cx} {a : Str} {p1 p2 p3 p4 p5 pos : Pos}
end
section
variable {X : Cx} {k : Nat} {E : XK} {scope : Scope}
end
theorem blk_hu {X : Fam} {scope : Scope} (h : ∀ i, (X.at_ i).A.units + 65 < cLine) : ∀ i : (blkF X scope).Ix, ((blkF X scope).at_ i).A.units + 65 < cLine := fun i => h i.1
/-! ## evaluation of the new mirrors -/
section
variable {ρ : Ev} {b : B} {d : D}
@[simp] theorem e_sRaise (x : Str) : sRaise x ρ = .er ⟨x, none⟩ ρ := rfl
@[simp] theorem e_mask_nil : mask [] = [] := rfl
@[simp] theorem e_mask_dat : mask (.dat d :: ρ) = .dat d :: mask ρ := rfl
@[simp] theorem e_mask_un : mask (.un :: ρ) = .un :: mask ρ := rfl
@[simp] theorem e_mask_own (ds : List D) : mask (.own ds :: ρ) = .un :: mask ρ := rfl
@[simp] theorem e_mask_odk (ds : List (Key × D)) : mask (.odk ds :: ρ) = .un :: mask ρ := rfl
@[simp] theorem e_mask_odt (ds : List (List Key × D)) : mask (.odt ds :: ρ) = .un :: mask ρ := rfl
def th1 : R (B × Ev) → R D
  | .ok (.dat d, _) => .ok d
  | .err x _ => .err x []
  | _ => .stuck
@[simp] theorem e_th1 : th1 (.ok (.dat d, ρ)) = .ok d := rfl
@[simp] theorem e_th1e (x : Exc) : th1 (.err x ρ) = .err x [] := rfl
@[simp] theorem e_thunk (f : FE) : thunk f ρ = th1 (cD f (mask ρ)) := by
  unfold thunk th1
  cases cD f (mask ρ) with
  | ok p =>
    obtain ⟨b, ρ'⟩ := p
    cases b <;> rfl
  | err x ρ' => rfl
  | stuck => rfl
def la1 (ρ : Ev) : Out → R (B × Ev)
  | .rt b _ => cLam.fin2 ρ (frz b)
  | .nx _ => .ok (.dat .non, ρ)
  | _ => .stuck
@[simp] theorem e_la1 (ρ' : Ev) : la1 ρ (.rt b ρ') = cLam.fin2 ρ (frz b) := rfl
@[simp] theorem e_la1n (ρ' : Ev) : la1 ρ (.nx ρ') = .ok (.dat .non, ρ) := rfl
@[simp] theorem e_fin2 : cLam.fin2 ρ (some d) = .ok (.dat d, ρ) := rfl
@[simp] theorem e_cLam (n : Nat) (m : R D → FS) (fb : FE) : cLam n m fb ρ = la1 ρ (m (thunk fb ρ) (List.replicate n .un)) := by
  unfold cLam la1
  cases m (thunk fb ρ) (List.replicate n .un) <;> rfl
@[simp] theorem e_wO_nx (i : Nat) : wipeO i (.nx ρ) = .nx (ρ.set i .un) := rfl
@[simp] theorem e_wO_rt (i : Nat) : wipeO i (.rt b ρ) = .rt b (ρ.set i .un) := rfl
@[simp] theorem e_sLen (n : Nat) (g : FS) : sLen n g ρ = if ρ.length = n then g ρ else .stuck := rfl
def ak2 (i : Nat) (su : Exc → FS) (x : Exc) (ρ : Ev) : Option Bool → Out
  | some true => if i < ρ.length then wipeO i (su x (List.replicate ρ.length .un)) else .stuck
  | _ => .stuck
@[simp] theorem e_ak2 (i : Nat) (su : Exc → FS) (x : Exc) : ak2 i su x ρ (some true) = if i < ρ.length then wipeO i (su x (List.replicate ρ.length .un)) else .stuck := rfl
def ak1 (kd : AskK) (Rc : List (Str × List Str)) (c : Str) (i : Nat) (su : Exc → FS) (ρ : Ev) : R D → Out
  | .ok d => askRes kd d ρ
  | .err x _ => ak2 i su x ρ (subX Rc x.cls c)
  | .stuck => .stuck
@[simp] theorem e_ak1 (kd : AskK) (Rc : List (Str × List Str)) (c : Str) (i : Nat) (su : Exc → FS) : ak1 kd Rc c i su ρ (.ok d) = askRes kd d ρ := rfl
@[simp] theorem e_ak1e (kd : AskK) (Rc : List (Str × List Str)) (c : Str) (i : Nat) (su : Exc → FS) (x : Exc) (ρ' : Ev) : ak1 kd Rc c i su ρ (.err x ρ') = ak2 i su x ρ (subX Rc x.cls c) := rfl
@[simp] theorem e_sAsk (kd : AskK) (Rc : List (Str × List Str)) (c : Str) (i : Nat) (su : Exc → FS) (r : R D) : sAsk kd Rc c i su r ρ = ak1 kd Rc c i su ρ r := by
  unfold sAsk ak1
  cases r with
  | ok d => rfl
  | stuck => rfl
  | err x ρ' =>
    simp only
    unfold ak2
    cases subX Rc x.cls c with
    | none => rfl
    | some v => cases v <;> rfl
@[simp] theorem e_askRes1 (w : Str) : askRes (.ret w) d ρ = .rt (.dat (.tup [.str w, d])) ρ := rfl
@[simp] theorem e_askRes2 : askRes .retP d ρ = .rt (.dat d) ρ := rfl
@[simp] theorem e_askRes3 (k : Nat) (w : Str) : askRes (.set k w) d ρ = .nx (ρ.set k (.dat (.tup [.str w, d]))) := rfl
@[simp] theorem e_askRes4 : askRes .drop d ρ = .nx ρ := rfl
def ixe1 (ρ : Ev) : Option Bool → R (B × Ev)
  | some b => .ok (.dat (.bl b), ρ)
  | none => .stuck
@[simp] theorem e_cIsE (Rc : List (Str × List Str)) (c : Str) (x : Exc) : cIsE Rc c x ρ = ixe1 ρ (subX Rc x.cls c) := by
  unfold cIsE ixe1
  cases subX Rc x.cls c <;> rfl
@[simp] theorem e_ixe1 (v : Bool) : ixe1 ρ (some v) = .ok (.dat (.bl v), ρ) := rfl
end
end Dl
set_option Elab.async false
set_option linter.all false
set_option maxRecDepth 100000
set_option maxHeartbeats 1000000
namespace Dl
open PySem PySem.Spec L2
open PyProof.Rows hiding St
/-! ## an expression that only reads: while it runs, all that is owned stands still -/
def frzB : B → B
  | .dat d => .dat d
  | .own ds => .dat (.lst ds)
  | .odk ds => .dat (.dk ds)
  | .odt ds => .dat (.dt ds)
  | .ext o => .dat (frzO o)
  | .un => .un
theorem frzB_some {b : B} {d : D} (h : frz b = some d) : frzB b = .dat d := by
  cases b <;> simp only [frz] at h <;> first | (cases h; rfl) | cases h
theorem frzB_none {b : B} (h : frz b = none) : frzB b = .un := by
  cases b <;> simp only [frz] at h <;> first | rfl | cases h
theorem freezeAll {K : PySem.W.Frag} {T : List (Addr × Str)} {H : Hp} : ∀ {ρ : Ev} {σ : St} {F : Hp} {A : List Addr}, RepS K F H ρ σ A → Sub F H → ∃ F2, Go T A F H [] F2 H ∧ RepS K F2 H (ρ.map frzB) σ []
  | [], _, F, _, h, s => by
    cases h
    exact ⟨F, Go.refl s, .nil⟩
  | b :: ρ, [], F, A, h, s => nomatch h
  | b :: ρ, sv :: σ, F, A, h, s => by
    cases q : frz b with
    | some d =>
      obtain ⟨v, F1, A1, rfl, g1, r1, z⟩ := freeze (T := T) h s q
      obtain ⟨F2, g2, r2⟩ := freezeAll (T := T) r1 g1.sub
      refine ⟨F2, g1.trans g2, ?_⟩
      rw [List.map_cons, frzB_some q]
      exact r2.dat (Rp.mono g2.kF d z)
    | none =>
      obtain ⟨A1, r1, m1⟩ := RepS.tail h
      obtain ⟨F2, g2, r2⟩ := freezeAll (T := T) r1 s
      refine ⟨F2, g2.more m1, ?_⟩
      rw [List.map_cons, frzB_none q]
      exact r2.un
def flatD : D → Bool
  | .non => true
  | .bl _ => true
  | .int _ => true
  | .str _ => true
  | _ => false
theorem flat_any {K : PySem.W.Frag} {F F' : Hp} {d : D} {v : V} (h : flatD d = true) (r : Rp K F d v) : Rp K F' d v := by
  cases d <;> first
    | (simp [flatD] at h; done)
    | (unfold Rp at r ⊢; exact r)
def pur1 (ρ : Ev) : R (B × Ev) → R (B × Ev)
  | .ok (.dat d, _) => if flatD d = true then .ok (.dat d, ρ) else .stuck
  | .err x _ => match x.fs with
    | none => .err x ρ
    | some _ => .stuck
  | _ => .stuck
def cPure (f : FE) : FE := fun ρ => pur1 ρ (f (ρ.map frzB))
section
variable {X : Fam} {T : List (Addr × Str)} {W : WX}
end
theorem seq_nx {f g : FS} {ρ ρ' : Ev} {o : Out} (h : f ρ = .nx ρ') (k : g ρ' = o) : sSeq f g ρ = o := by
  rw [← k]
  show (f ρ).then g = _
  rw [h]
  rfl
section
variable {ρ : Ev} {b : B} {d : D}
@[simp] theorem e_cPure (f : FE) : cPure f ρ = pur1 ρ (f (ρ.map frzB)) := rfl
@[simp] theorem e_frzB1 : frzB (.dat d) = .dat d := rfl
@[simp] theorem e_frzB2 (ds : List D) : frzB (.own ds) = .dat (.lst ds) := rfl
@[simp] theorem e_frzB3 (ds : List (Key × D)) : frzB (.odk ds) = .dat (.dk ds) := rfl
@[simp] theorem e_frzB4 (ds : List (List Key × D)) : frzB (.odt ds) = .dat (.dt ds) := rfl
@[simp] theorem e_frzB5 : frzB .un = .un := rfl
@[simp] theorem e_pur1n (ρ' : Ev) : pur1 ρ (.ok (.dat .non, ρ')) = .ok (.dat .non, ρ) := rfl
@[simp] theorem e_pur1b (ρ' : Ev) (c : Bool) : pur1 ρ (.ok (.dat (.bl c), ρ')) = .ok (.dat (.bl c), ρ) := rfl
@[simp] theorem e_pur1i (ρ' : Ev) (c : Int) : pur1 ρ (.ok (.dat (.int c), ρ')) = .ok (.dat (.int c), ρ) := rfl
@[simp] theorem e_pur1s (ρ' : Ev) (c : Str) : pur1 ρ (.ok (.dat (.str c), ρ')) = .ok (.dat (.str c), ρ) := rfl
@[simp] theorem e_pur1e (ρ' : Ev) (x : Str) : pur1 ρ (.err ⟨x, none⟩ ρ') = .err ⟨x, none⟩ ρ := rfl
end
end Dl
set_option Elab.async false
set_option linter.all false
set_option maxRecDepth 100000
set_option maxHeartbeats 1000000
namespace Dl
open PySem PySem.Spec L2
open PyProof.Rows hiding St
/-! ## bools in a list: how many, and where -/
section
variable {K : PySem.W.Frag} {T : List (Addr × Str)}
end
section
variable {ρ : Ev} {b : B} {d : D}
def rm4 (ρ : Ev) : Option B → R (B × Ev)
  | some b => .ok (b, ρ)
  | none => .stuck
@[simp] theorem e_rm4 : rm4 ρ (some b) = .ok (b, ρ) := rfl
def rm3 (g : D → List D → Option B) (ρ : Ev) : Option D → Option (List D) → R (B × Ev)
  | some d, some as => rm4 ρ (g d as)
  | _, _ => .stuck
@[simp] theorem e_rm3 (g : D → List D → Option B) (as : List D) : rm3 g ρ (some d) (some as) = rm4 ρ (g d as) := rfl
def rm2 (g : D → List D → Option B) (o : Opd) : R (List Opd × Ev) → R (B × Ev)
  | .ok p => rm3 g p.2 (rd p.2 o) (rds p.2 p.1)
  | .err x ρ => .err x ρ
  | .stuck => .stuck
@[simp] theorem e_rm2 (g : D → List D → Option B) (o : Opd) (os : List Opd) : rm2 g o (.ok (os, ρ)) = rm3 g ρ (rd ρ o) (rds ρ os) := rfl
def rm1b (t : String) (g : D → List D → Option B) (f : FA) (o : Opd) (ρ : Ev) : Option D → R (B × Ev)
  | some d => if tyD d = some t then rm2 g o (f ρ) else .stuck
  | none => .stuck
@[simp] theorem e_rm1b (t : String) (g : D → List D → Option B) (f : FA) (o : Opd) : rm1b t g f o ρ (some d) = if tyD d = some t then rm2 g o (f ρ) else .stuck := rfl
def rm1 (t : String) (g : D → List D → Option B) (f : FA) : R (Opd × Ev) → R (B × Ev)
  | .ok p => rm1b t g f p.1 p.2 (rd p.2 p.1)
  | .err x ρ => .err x ρ
  | .stuck => .stuck
@[simp] theorem e_rm1 (t : String) (g : D → List D → Option B) (f : FA) (o : Opd) : rm1 t g f (.ok (o, ρ)) = rm1b t g f o ρ (rd ρ o) := rfl
@[simp] theorem e_cRM (t : String) (g : D → List D → Option B) (fo : FO) (f : FA) : cRM t g fo f ρ = rm1 t g f (fo ρ) := by
  unfold cRM rm1
  cases fo ρ with
  | ok p =>
    obtain ⟨o, ρ1⟩ := p
    simp only [ok_bind]
    cases rd ρ1 o with
    | none => rfl
    | some d0 =>
      simp only [ofO_some, ok_bind, e_rm1b]
      unfold cRM.tyOk
      split
      · simp only [ofO_some, ok_bind]
        unfold rm2
        cases f ρ1 with
        | ok q =>
          obtain ⟨os, ρ2⟩ := q
          simp only [ok_bind]
          cases rd ρ2 o with
          | none => rfl
          | some d =>
            simp only [ofO_some, ok_bind]
            cases rds ρ2 os with
            | none => rfl
            | some as =>
              simp only [ofO_some, ok_bind, e_rm3]
              cases g d as <;> rfl
        | err x ρ2 => rfl
        | stuck => rfl
      · rfl
  | err x ρ1 => rfl
  | stuck => rfl
@[simp] theorem ty_lstD (ds : List D) : tyD (.lst ds) = some "list" := rfl
end
/-! ## a call whose one argument goes over, whole -/
def cCall1 (G : FG) (f : FE) : FE := fun ρ => f ρ >>= fun z => match G [z.1] with
  | .ok ret _ => .ok (ret, z.2)
  | .er x _ => .err x z.2
  | .stuck => .stuck
section
variable {X : Fam} {T : List (Addr × Str)} {W : WX}
end
section
variable {ρ : Ev} {b : B}
def cal2 (ρ : Ev) : FR → R (B × Ev)
  | .ok ret _ => .ok (ret, ρ)
  | .er x _ => .err x ρ
  | .stuck => .stuck
@[simp] theorem e_cal2 (outs : List B) : cal2 ρ (.ok b outs) = .ok (b, ρ) := rfl
@[simp] theorem e_cal2e (x : Exc) (outs : List B) : cal2 ρ (.er x outs) = .err x ρ := rfl
def cal1 (G : FG) : R (B × Ev) → R (B × Ev)
  | .ok z => cal2 z.2 (G [z.1])
  | .err x ρ => .err x ρ
  | .stuck => .stuck
@[simp] theorem e_cal1 (G : FG) : cal1 G (.ok (b, ρ)) = cal2 ρ (G [b]) := rfl
@[simp] theorem e_cCall1 (G : FG) (f : FE) : cCall1 G f ρ = cal1 G (f ρ) := by
  unfold cCall1 cal1
  cases f ρ with
  | ok z =>
    obtain ⟨b, ρ1⟩ := z
    simp only [ok_bind]
    unfold cal2
    cases G [b] <;> rfl
  | err x ρ1 => rfl
  | stuck => rfl
end
end Dl
set_option Elab.async false
set_option linter.all false
set_option maxRecDepth 100000
set_option maxHeartbeats 2000000
namespace Dl
open PySem PySem.Spec L2
open PyProof.Rows hiding St
/-! ## a dict that a name owns: put, read, read with a default, the greatest value -/
def valD (kvs : List (Key × D)) (k : Key) : Option D := (kvs.find? fun kv => decide (kv.1 = k)).map (·.2)
def putD (kvs : List (Key × D)) (k : Key) (d : D) : List (Key × D) :=
  if (kvs.any fun kv => decide (kv.1 = k)) = true then kvs.map (fun kv => if kv.1 = k then (kv.1, d) else kv) else kvs ++ [(k, d)]
section
variable {K : PySem.W.Frag} {F : Hp}
theorem rpK_nil {ys : List (Key × V)} (h : RpK K F [] ys) : ys = [] := by
  unfold RpK at h
  exact h
theorem rpK_cons {k : Key} {d : D} {kvs : List (Key × D)} {ys : List (Key × V)} (h : RpK K F ((k, d) :: kvs) ys) : ∃ v ws, ys = (k, v) :: ws ∧ Rp K F d v ∧ RpK K F kvs ws := by
  unfold RpK at h
  exact h
theorem RpK.mk {k : Key} {d : D} {v : V} {kvs : List (Key × D)} {ys : List (Key × V)} (r : Rp K F d v) (h : RpK K F kvs ys) : RpK K F ((k, d) :: kvs) ((k, v) :: ys) := by
  unfold RpK
  exact ⟨v, ys, rfl, r, h⟩
theorem RpK.emp : RpK K F [] [] := by
  unfold RpK
  rfl
theorem RpK.len : ∀ {kvs : List (Key × D)} {ys : List (Key × V)}, RpK K F kvs ys → ys.length = kvs.length
  | [], ys, h => by rw [rpK_nil h]; rfl
  | (k, d) :: kvs, ys, h => by
    obtain ⟨v, ws, rfl, _, t⟩ := rpK_cons h
    rw [List.length_cons, List.length_cons, t.len]
theorem RpK.val (k : Key) : ∀ {kvs : List (Key × D)} {ys : List (Key × V)}, RpK K F kvs ys → (valD kvs k = none ∧ valV ys k = none) ∨ ∃ d v, valD kvs k = some d ∧ valV ys k = some v ∧ Rp K F d v
  | [], ys, h => by
    rw [rpK_nil h]
    exact .inl ⟨rfl, rfl⟩
  | (k', d) :: kvs, ys, h => by
    obtain ⟨v, ws, rfl, r, t⟩ := rpK_cons h
    by_cases e : k' = k
    · exact .inr ⟨d, v, by simp [valD, e], by simp [valV, e], r⟩
    · have e1 : valD ((k', d) :: kvs) k = valD kvs k := by simp [valD, e]
      have e2 : valV ((k', v) :: ws) k = valV ws k := by simp [valV, e]
      rw [e1, e2]
      exact t.val k
theorem RpK.app {k : Key} {d : D} {v : V} (r : Rp K F d v) : ∀ {kvs : List (Key × D)} {ys : List (Key × V)}, RpK K F kvs ys → RpK K F (kvs ++ [(k, d)]) (ys ++ [(k, v)])
  | [], ys, h => by
    rw [rpK_nil h]
    exact .mk r .emp
  | (k', d') :: kvs, ys, h => by
    obtain ⟨v', ws, rfl, r', t⟩ := rpK_cons h
    exact .mk r' (t.app r)
theorem RpK.upd {k : Key} {d : D} {v : V} (r : Rp K F d v) : ∀ {kvs : List (Key × D)} {ys : List (Key × V)}, RpK K F kvs ys → RpK K F (kvs.map fun kv => if kv.1 = k then (kv.1, d) else kv) (ys.map fun kv => if kv.1 = k then (kv.1, v) else kv) ∧ (kvs.any fun kv => decide (kv.1 = k)) = (ys.any fun kv => decide (kv.1 = k))
  | [], ys, h => by
    rw [rpK_nil h]
    exact ⟨.emp, rfl⟩
  | (k', d') :: kvs, ys, h => by
    obtain ⟨v', ws, rfl, r', t⟩ := rpK_cons h
    obtain ⟨u1, u2⟩ := t.upd (k := k) r
    refine ⟨?_, by rw [List.any_cons, List.any_cons, u2]⟩
    rw [List.map_cons, List.map_cons]
    by_cases e : k' = k
    · rw [if_pos e, if_pos e]
      exact .mk r u1
    · rw [if_neg e, if_neg e]
      exact .mk r' u1
theorem RpK.put {k : Key} {d : D} {v : V} {kvs : List (Key × D)} {ys : List (Key × V)} (h : RpK K F kvs ys) (r : Rp K F d v) : RpK K F (putD kvs k d) (putK ys k v) := by
  obtain ⟨u1, u2⟩ := h.upd (k := k) r
  unfold putD putK
  rw [u2]
  split
  · exact u1
  · exact h.app r
end
def odkOf (ρ : Ev) (i : Nat) : Option (List (Key × D)) := match ρ[i]? with
  | some (.odk kvs) => some kvs
  | _ => none
def keyD : D → Option Key
  | .int j => some (.inl j)
  | .str s => some (.inr s)
  | _ => none
def sDk (i : Nat) (f : FE) (fj : FO) : FS := fun ρ => (cO f ρ).out fun p => (ofO (odkOf p.2 i)).out fun _ => (fj p.2).out fun q => (ofO (odkOf q.2 i)).out fun kvs => (ofO ((rd q.2 q.1).bind keyD)).out fun k => match p.1 with
  | .val d => if kvs.length < 1000 then .nx (q.2.set i (.odk (putD kvs k d))) else .stuck
  | .var _ => .stuck
section
variable {X : Fam} {T : List (Addr × Str)} {W : WX} {P : List Nat}
/-- d[k] -/
def cDIx (i : Nat) (fj : FO) : FE := fun ρ => ofO (odkOf ρ i) >>= fun _ => fj ρ >>= fun q => ofO (odkOf q.2 i) >>= fun kvs => ofO ((rd q.2 q.1).bind keyD) >>= fun k => ofO (valD kvs k) >>= fun d => .ok (.dat d, q.2)
/-- d.get(k, z) -/
def cDGt (i : Nat) (fj fz : FO) : FE := fun ρ => ofO (odkOf ρ i) >>= fun _ => fj ρ >>= fun q => fz q.2 >>= fun u => ofO (odkOf u.2 i) >>= fun kvs => ofO ((rd u.2 q.1).bind keyD) >>= fun k => match u.1 with
  | .val z => .ok (.dat ((valD kvs k).getD z), u.2)
  | .var _ => .stuck
end
/-! ## max(d.values()) -/
/-! the mirror -/
section
variable {X : Fam} {T : List (Addr × Str)} {W : WX}
end
/-! evaluation -/
section
variable {ρ : Ev} {b : B} {d : D}
def okd : Option B → Option (List (Key × D))
  | some (.odk kvs) => some kvs
  | _ => none
@[simp] theorem e_okd (kvs : List (Key × D)) : okd (some (.odk kvs)) = some kvs := rfl
@[simp] theorem e_odkOf (i : Nat) : odkOf ρ i = okd ρ[i]? := by
  unfold odkOf okd
  cases ρ[i]? with
  | none => rfl
  | some b => cases b <;> rfl
@[simp] theorem e_keyI (j : Int) : keyD (.int j) = some (.inl j) := rfl
@[simp] theorem e_keyS (j : Str) : keyD (.str j) = some (.inr j) := rfl
def dk3 (i : Nat) (d : D) (ρ : Ev) : Option (List (Key × D)) → Option Key → Out
  | some kvs, some k => if kvs.length < 1000 then .nx (ρ.set i (.odk (putD kvs k d))) else .stuck
  | _, _ => .stuck
@[simp] theorem e_dk3 (i : Nat) (kvs : List (Key × D)) (k : Key) : dk3 i d ρ (some kvs) (some k) = if kvs.length < 1000 then .nx (ρ.set i (.odk (putD kvs k d))) else .stuck := rfl
def dk2 (i : Nat) (o : Opd) : R (Opd × Ev) → Out
  | .ok q => match o with
    | .val d => dk3 i d q.2 (odkOf q.2 i) ((rd q.2 q.1).bind keyD)
    | .var _ => .stuck
  | .err x ρ => .er x ρ
  | .stuck => .stuck
@[simp] theorem e_dk2 (i : Nat) (o : Opd) : dk2 i (.val d) (.ok (o, ρ)) = dk3 i d ρ (odkOf ρ i) ((rd ρ o).bind keyD) := rfl
def dk1b (i : Nat) (fj : FO) (o : Opd) (ρ : Ev) : Option (List (Key × D)) → Out
  | some _ => dk2 i o (fj ρ)
  | none => .stuck
@[simp] theorem e_dk1b (i : Nat) (fj : FO) (o : Opd) (kvs : List (Key × D)) : dk1b i fj o ρ (some kvs) = dk2 i o (fj ρ) := rfl
def dk1 (i : Nat) (fj : FO) : R (Opd × Ev) → Out
  | .ok p => dk1b i fj p.1 p.2 (odkOf p.2 i)
  | .err x ρ => .er x ρ
  | .stuck => .stuck
@[simp] theorem e_dk1 (i : Nat) (fj : FO) (o : Opd) : dk1 i fj (.ok (o, ρ)) = dk1b i fj o ρ (odkOf ρ i) := rfl
@[simp] theorem e_sDk (i : Nat) (f : FE) (fj : FO) : sDk i f fj ρ = dk1 i fj (cO f ρ) := by
  unfold sDk dk1
  cases cO f ρ with
  | err x ρ1 => rfl
  | stuck => rfl
  | ok p =>
    obtain ⟨o, ρ1⟩ := p
    show (ofO (odkOf ρ1 i)).out _ = dk1b i fj o ρ1 (odkOf ρ1 i)
    cases odkOf ρ1 i with
    | none => rfl
    | some k0 =>
      show (fj ρ1).out _ = dk2 i o (fj ρ1)
      cases fj ρ1 with
      | err x ρ2 => rfl
      | stuck => rfl
      | ok q =>
        obtain ⟨o2, ρ2⟩ := q
        unfold dk2
        simp only
        show (ofO (odkOf ρ2 i)).out _ = _
        cases odkOf ρ2 i with
        | none => cases o <;> rfl
        | some kvs =>
          show (ofO ((rd ρ2 o2).bind keyD)).out _ = _
          cases (rd ρ2 o2).bind keyD with
          | none => cases o <;> rfl
          | some k => cases o <;> rfl
def dx3 (ρ : Ev) : Option (List (Key × D)) → Option Key → R (B × Ev)
  | some kvs, some k => match valD kvs k with
    | some d => .ok (.dat d, ρ)
    | none => .stuck
  | _, _ => .stuck
def dx2 (i : Nat) : R (Opd × Ev) → R (B × Ev)
  | .ok q => dx3 q.2 (odkOf q.2 i) ((rd q.2 q.1).bind keyD)
  | .err x ρ => .err x ρ
  | .stuck => .stuck
@[simp] theorem e_dx2 (i : Nat) (o : Opd) : dx2 i (.ok (o, ρ)) = dx3 ρ (odkOf ρ i) ((rd ρ o).bind keyD) := rfl
def dx1 (i : Nat) (fj : FO) (ρ : Ev) : Option (List (Key × D)) → R (B × Ev)
  | some _ => dx2 i (fj ρ)
  | none => .stuck
@[simp] theorem e_dx1 (i : Nat) (fj : FO) (kvs : List (Key × D)) : dx1 i fj ρ (some kvs) = dx2 i (fj ρ) := rfl
@[simp] theorem e_cDIx (i : Nat) (fj : FO) : cDIx i fj ρ = dx1 i fj ρ (odkOf ρ i) := by
  unfold cDIx
  cases odkOf ρ i with
  | none => rfl
  | some k0 =>
    simp only [ofO_some, ok_bind, e_dx1]
    cases fj ρ with
    | err x ρ2 => rfl
    | stuck => rfl
    | ok q =>
      obtain ⟨o2, ρ2⟩ := q
      simp only [ok_bind, e_dx2]
      cases odkOf ρ2 i with
      | none => rfl
      | some kvs =>
        simp only [ofO_some, ok_bind]
        cases (rd ρ2 o2).bind keyD with
        | none => rfl
        | some k =>
          simp only [ofO_some, ok_bind]
          unfold dx3
          simp only
          cases valD kvs k <;> rfl
def dg4 (ρ : Ev) (o : Opd) : Option (List (Key × D)) → Option Key → R (B × Ev)
  | some kvs, some k => match o with
    | .val z => .ok (.dat ((valD kvs k).getD z), ρ)
    | .var _ => .stuck
  | _, _ => .stuck
@[simp] theorem e_dg4 (kvs : List (Key × D)) (k : Key) : dg4 ρ (.val d) (some kvs) (some k) = .ok (.dat ((valD kvs k).getD d), ρ) := rfl
def dg3 (i : Nat) (oj : Opd) : R (Opd × Ev) → R (B × Ev)
  | .ok u => dg4 u.2 u.1 (odkOf u.2 i) ((rd u.2 oj).bind keyD)
  | .err x ρ => .err x ρ
  | .stuck => .stuck
@[simp] theorem e_dg3 (i : Nat) (oj o : Opd) : dg3 i oj (.ok (o, ρ)) = dg4 ρ o (odkOf ρ i) ((rd ρ oj).bind keyD) := rfl
def dg2 (i : Nat) (fz : FO) : R (Opd × Ev) → R (B × Ev)
  | .ok q => dg3 i q.1 (fz q.2)
  | .err x ρ => .err x ρ
  | .stuck => .stuck
@[simp] theorem e_dg2 (i : Nat) (fz : FO) (o : Opd) : dg2 i fz (.ok (o, ρ)) = dg3 i o (fz ρ) := rfl
def dg1 (i : Nat) (fj fz : FO) (ρ : Ev) : Option (List (Key × D)) → R (B × Ev)
  | some _ => dg2 i fz (fj ρ)
  | none => .stuck
@[simp] theorem e_dg1 (i : Nat) (fj fz : FO) (kvs : List (Key × D)) : dg1 i fj fz ρ (some kvs) = dg2 i fz (fj ρ) := rfl
@[simp] theorem e_cDGt (i : Nat) (fj fz : FO) : cDGt i fj fz ρ = dg1 i fj fz ρ (odkOf ρ i) := by
  unfold cDGt
  cases odkOf ρ i with
  | none => rfl
  | some k0 =>
    simp only [ofO_some, ok_bind, e_dg1]
    cases fj ρ with
    | err x ρ2 => rfl
    | stuck => rfl
    | ok q =>
      obtain ⟨o2, ρ2⟩ := q
      simp only [ok_bind, e_dg2]
      cases fz ρ2 with
      | err x ρ3 => rfl
      | stuck => rfl
      | ok u =>
        obtain ⟨o3, ρ3⟩ := u
        simp only [ok_bind, e_dg3]
        cases odkOf ρ3 i with
        | none => rfl
        | some kvs =>
          simp only [ofO_some, ok_bind]
          cases (rd ρ3 o2).bind keyD with
          | none => rfl
          | some k => cases o3 <;> rfl
end
end Dl
set_option Elab.async false
set_option linter.all false
set_option maxRecDepth 100000
set_option maxHeartbeats 1000000
namespace Dl
open PySem PySem.Spec L2
open PyProof.Rows hiding St
/-! ## list.remove of an int -/
/-! ## xs < ys, lists of ints -/
section
variable {X : Fam} {K : PySem.W.Frag} {T : List (Addr × Str)}
end
end Dl
set_option Elab.async false
set_option linter.all false
set_option maxRecDepth 100000
set_option maxHeartbeats 1000000
namespace Dl
open PySem PySem.Spec L2
open PyProof.Rows hiding St
/-! ## an expression that only reads and gives a tuple of flat data -/
def noExt : Ev → Bool
  | [] => true
  | .ext _ :: _ => false
  | _ :: ρ => noExt ρ
def purT (ρ : Ev) : R (B × Ev) → R (B × Ev)
  | .ok (.dat (.tup ds), _) => if (ds.all flatD && noExt ρ) = true then .ok (.dat (.tup ds), ρ) else .stuck
  | .err x _ => match x.fs with
    | none => .err x ρ
    | some _ => .stuck
  | _ => .stuck
def cPureT (f : FE) : FE := fun ρ => purT ρ (f (ρ.map frzB))
section
variable {X : Fam} {T : List (Addr × Str)} {W : WX}
end
section
variable {ρ : Ev} {b : B} {d : D}
@[simp] theorem e_noExt0 : noExt [] = true := rfl
@[simp] theorem e_noExt1 : noExt (.un :: ρ) = noExt ρ := rfl
@[simp] theorem e_noExt2 : noExt (.dat d :: ρ) = noExt ρ := rfl
@[simp] theorem e_noExt3 (ds : List D) : noExt (.own ds :: ρ) = noExt ρ := rfl
@[simp] theorem e_noExt4 (ds : List (Key × D)) : noExt (.odk ds :: ρ) = noExt ρ := rfl
@[simp] theorem e_noExt5 (ds : List (List Key × D)) : noExt (.odt ds :: ρ) = noExt ρ := rfl
@[simp] theorem e_flat1 (i : Int) : flatD (.int i) = true := rfl
@[simp] theorem e_flat2 (i : Bool) : flatD (.bl i) = true := rfl
@[simp] theorem e_flat3 (i : Str) : flatD (.str i) = true := rfl
@[simp] theorem e_flat4 : flatD .non = true := rfl
@[simp] theorem e_cPureT (f : FE) : cPureT f ρ = purT ρ (f (ρ.map frzB)) := rfl
@[simp] theorem e_purT (ρ' : Ev) (ds : List D) : purT ρ (.ok (.dat (.tup ds), ρ')) = if (ds.all flatD && noExt ρ) = true then .ok (.dat (.tup ds), ρ) else .stuck := rfl
@[simp] theorem e_purTe (ρ' : Ev) (x : Str) : purT ρ (.err ⟨x, none⟩ ρ') = .err ⟨x, none⟩ ρ := rfl
end
end Dl
set_option Elab.async false
set_option linter.all false
set_option maxRecDepth 100000
set_option maxHeartbeats 4000000
namespace Dl
open PySem PySem.Spec L2
open PyProof.Rows hiding St
def isFromD (d : D) (lo hi : Int) : Bool := match d with
  | .int i => decide (lo ≤ i) && decide (i ≤ hi)
  | _ => false
def isWord : D → Bool
  | .str s => s == Str.ofString "read" || s == Str.ofString "write"
  | _ => false
def isStepD : D → Bool
  | .tup [a, b] => isWord a && isFromD b 0 100000000
  | _ => false
theorem tup_cases (ds : List D) : ds = [] ∨ (∃ a, ds = [a]) ∨ (∃ a b, ds = [a, b]) ∨ ∃ a b c es, ds = a :: b :: c :: es := by
  match ds with
  | [] => exact .inl rfl
  | [a] => exact .inr (.inl ⟨a, rfl⟩)
  | [a, b] => exact .inr (.inr (.inl ⟨a, b, rfl⟩))
  | a :: b :: c :: es => exact .inr (.inr (.inr ⟨a, b, c, es, rfl⟩))
theorem beq_comm' (a b : Str) : (a == b) = (b == a) := by
  rw [Bool.eq_iff_iff]
  simp only [beq_iff_eq]
  exact eq_comm
theorem inWords {s : Str} (h : PyData.strOk s = true) (ds : D → D) : gIn (.str s) (.tup [.str "read", .str "write"]) = some (.dat (.bl (isWord (.str s)))) := by
  rw [gIn_tup (by rw [shp_shn, shn_strOk, h]) (by simp)]
  simp [inD, isWord, beq_comm']
def badS (ds : List D) (k : Nat) : D → Bool
  | .tup [w, b] => inD (.tup [w, b]) (ds.take k) || (eqD w (.str "read") && inD (.tup [.str "write", b]) (ds.take k))
  | _ => false
def ordF (ds : List D) : Nat → List D → Bool
  | _, [] => true
  | k, s :: ss => !badS ds k s && ordF ds (k + 1) ss
def isDealD : D → Bool
  | .tup ds => decide (1 ≤ ds.length) && decide (ds.length ≤ 8) && (ds.all isStepD && ordF ds 0 ds)
  | _ => false
def noScr : D → Bool
  | .scr _ => false
  | _ => true
/-! ## dealings as pairs -/
abbrev Wb := Bool × Int
def wd (b : Bool) : D := .str (Str.ofString (if b = true then "write" else "read"))
def sd (p : Wb) : D := .tup [wd p.1, .int p.2]
def inB (p : Wb) : Prop := 0 ≤ p.2 ∧ p.2 ≤ 100000000
theorem step_sd {p : Wb} (h : inB p) : isStepD (sd p) = true := by
  obtain ⟨a, b⟩ := p
  cases a <;> simp [sd, wd, isStepD, isWord, isFromD, h.1, h.2]
theorem eqD_tup2 (a b c d : D) : eqD (.tup [a, b]) (.tup [c, d]) = (eqD a c && eqD b d) := by
  simp only [eqD, py, pyL, PyData.eqv, PyData.eqvAll, Bool.and_true]
theorem eqD_wd (a b : Bool) : eqD (wd a) (wd b) = decide (a = b) := by
  unfold wd
  rw [eqD_str]
  cases a <;> cases b <;> decide
theorem eqD_sd (p q : Wb) : eqD (sd p) (sd q) = decide (p = q) := by
  obtain ⟨a, b⟩ := p
  obtain ⟨c, e⟩ := q
  unfold sd
  rw [eqD_tup2, eqD_wd, eqD_int, Bool.eq_iff_iff]
  simp
theorem inD_sd (p : Wb) : ∀ ps : List Wb, inD (sd p) (ps.map sd) = decide (p ∈ ps)
  | [] => by
    rw [List.map_nil]
    rfl
  | q :: ps => by
    have ih := inD_sd p ps
    have e : inD (sd p) ((q :: ps).map sd) = (eqD (sd q) (sd p) || inD (sd p) (ps.map sd)) := by
      rw [List.map_cons]
      unfold inD
      rw [List.any_cons]
    rw [e, ih, eqD_sd, Bool.eq_iff_iff, Bool.or_eq_true, decide_eq_true_eq, decide_eq_true_eq, decide_eq_true_eq, List.mem_cons]
    exact or_congr eq_comm Iff.rfl
def badP (ps : List Wb) (k : Nat) (p : Wb) : Bool := decide (p ∈ ps.take k) || (!p.1 && decide ((true, p.2) ∈ ps.take k))
theorem badS_sd (ps : List Wb) (k : Nat) (p : Wb) : badS (ps.map sd) k (sd p) = badP ps k p := by
  have h1 := inD_sd p (ps.take k)
  have h2 := inD_sd (true, p.2) (ps.take k)
  rw [List.map_take] at h1 h2
  show (inD (sd p) ((ps.map sd).take k) || (eqD (wd p.1) (.str "read") && inD (sd (true, p.2)) ((ps.map sd).take k))) = _
  rw [h1, h2]
  obtain ⟨a, b⟩ := p
  cases a <;> simp [badP, wd, ofString_inj]
def ordP (ps : List Wb) : Nat → List Wb → Bool
  | _, [] => true
  | k, p :: r => !badP ps k p && ordP ps (k + 1) r
theorem ordF_sd (ps : List Wb) : ∀ (r : List Wb) (k : Nat), ordF (ps.map sd) k (r.map sd) = ordP ps k r
  | [], k => rfl
  | p :: r, k => by
    rw [List.map_cons, ordF, ordP, badS_sd, ordF_sd ps r]
theorem badP_take {ps qs : List Wb} {k j : Nat} (h : ps.take k = qs.take j) (p : Wb) : badP ps k p = badP qs j p := by
  unfold badP
  rw [h]
theorem ordP_snoc (p : Wb) : ∀ (r pre : List Wb), ordP (pre ++ r ++ [p]) pre.length (r ++ [p]) = (ordP (pre ++ r) pre.length r && !badP (pre ++ r) (pre ++ r).length p)
  | [], pre => by
    have h := badP_take (ps := pre ++ [] ++ [p]) (qs := pre ++ []) (k := pre.length) (j := (pre ++ []).length) (by simp) p
    simp only [List.nil_append, ordP, h, Bool.and_true, Bool.true_and]
  | q :: r, pre => by
    have ih := ordP_snoc p r (pre ++ [q])
    have h := badP_take (ps := pre ++ q :: r ++ [p]) (qs := pre ++ q :: r) (k := pre.length) (j := pre.length) (by simp) q
    have e : pre ++ [q] ++ r = pre ++ q :: r := by simp
    rw [e] at ih
    have l : (pre ++ [q]).length = pre.length + 1 := by simp
    rw [l] at ih
    rw [List.cons_append, ordP, ordP, h, ih, Bool.and_assoc]
/-- how many steps at a box -/
def cnt (b : Int) (ps : List Wb) : Nat := (ps.filter fun p => p.2 == b).length
structure Good (ps : List Wb) : Prop where
  box : ∀ p ∈ ps, inB p
  ord : ordP ps 0 ps = true
  few : ∀ b, cnt b ps ≤ 2
  few1 : ∀ b, (true, b) ∉ ps → cnt b ps ≤ 1
theorem Good.nil : Good [] := ⟨fun _ m => (nomatch m), rfl, fun _ => Nat.zero_le _, fun _ _ => Nat.zero_le _⟩
theorem isDeal_sd {ps : List Wb} (g : Good ps) (h0 : ps ≠ []) (h1 : ps.length ≤ 8) : isDealD (.tup (ps.map sd)) = true := by
  have hp := List.length_pos_iff.mpr h0
  have e := ordF_sd ps ps 0
  simp only [isDealD, List.length_map, e, g.ord, Bool.and_true, Bool.and_eq_true, decide_eq_true_eq, List.all_eq_true]
  refine ⟨⟨by omega, h1⟩, fun d m => ?_⟩
  obtain ⟨p, hp, rfl⟩ := List.mem_map.mp m
  exact step_sd (g.box p hp)
end Dl
set_option Elab.async false
set_option linter.all false
set_option maxRecDepth 100000
set_option maxHeartbeats 4000000
namespace Dl
open PySem PySem.Spec L2
open PyProof.Rows hiding St
/-! ## a second well; equal data; orders -/
abbrev W3 := Int × Int × Int
def wl (w : W3) : B := .own [.int w.1, .int w.2.1, .int w.2.2]
theorem small_mod {b : Int} (x : Int) (h0 : 0 < b) (h1 : b < 18446744073709551616) : small64 (x % b) = true := small_of (by have := Int.emod_nonneg x (show b ≠ 0 by omega); omega) (by have := Int.emod_lt_of_pos x h0; omega)
@[simp] theorem small_m2 (x : Int) : small64 (x % 2147483629) = true := small_mod x (by decide) (by decide)
@[simp] theorem small_m3 (x : Int) : small64 (x % 2147483587) = true := small_mod x (by decide) (by decide)
@[simp] theorem e_gClear (xs : List D) : gClear xs [] = some (.non, []) := rfl
@[simp] theorem e_gReverse (xs : List D) : gReverse xs [] = some (.non, xs.reverse) := rfl
def dl (ps : List Wb) : D := .tup (ps.map sd)
structure GoodD (ps : List Wb) : Prop where
  g : Good ps
  ne : ps ≠ []
  le : ps.length ≤ 8
theorem GoodD.is {ps : List Wb} (h : GoodD ps) : isDealD (dl ps) = true := isDeal_sd h.g h.ne h.le
end Dl
set_option Elab.async false
set_option linter.all false
set_option maxRecDepth 100000
set_option maxHeartbeats 1000000
namespace Dl
open PySem PySem.Spec L2
open PyProof.Rows hiding St
/-! ## list(range(a, b, step)), the step positive -/
section
variable {X : Fam} {T : List (Addr × Str)} {W : WX}
end
end Dl
set_option Elab.async false
set_option linter.all false
set_option maxRecDepth 100000
set_option maxHeartbeats 1000000
namespace Dl
open PySem PySem.Spec L2
open PyProof.Rows hiding St
/-! ## dicts whose keys are tuples of ints -/
section
variable {K : PySem.W.Frag} {F H : Hp}
end
/-! values under keys -/
def valT (kvs : List (List Key × D)) (k : List Key) : Option D := (kvs.find? fun kv => decide (kv.1 = k)).map (·.2)
def putT (kvs : List (List Key × D)) (k : List Key) (d : D) : List (List Key × D) :=
  if (kvs.any fun kv => decide (kv.1 = k)) = true then kvs.map (fun kv => if kv.1 = k then (kv.1, d) else kv) else kvs ++ [(k, d)]
section
variable {K : PySem.W.Frag} {F : Hp}
theorem rpT_nil {ys : List (List Key × V)} (h : RpT K F [] ys) : ys = [] := by
  unfold RpT at h
  exact h
theorem rpT_cons {k : List Key} {d : D} {kvs : List (List Key × D)} {ys : List (List Key × V)} (h : RpT K F ((k, d) :: kvs) ys) : ∃ v ws, ys = (k, v) :: ws ∧ Rp K F d v ∧ RpT K F kvs ws := by
  unfold RpT at h
  exact h
theorem RpT.mk {k : List Key} {d : D} {v : V} {kvs : List (List Key × D)} {ys : List (List Key × V)} (r : Rp K F d v) (h : RpT K F kvs ys) : RpT K F ((k, d) :: kvs) ((k, v) :: ys) := by
  unfold RpT
  exact ⟨v, ys, rfl, r, h⟩
theorem RpT.emp : RpT K F [] [] := by
  unfold RpT
  rfl
theorem RpT.len : ∀ {kvs : List (List Key × D)} {ys : List (List Key × V)}, RpT K F kvs ys → ys.length = kvs.length
  | [], ys, h => by rw [rpT_nil h]; rfl
  | (k, d) :: kvs, ys, h => by
    obtain ⟨v, ws, rfl, _, t⟩ := rpT_cons h
    rw [List.length_cons, List.length_cons, t.len]
theorem RpT.val (k : List Key) : ∀ {kvs : List (List Key × D)} {ys : List (List Key × V)}, RpT K F kvs ys → (valT kvs k = none ∧ valV ys k = none) ∨ ∃ d v, valT kvs k = some d ∧ valV ys k = some v ∧ Rp K F d v
  | [], ys, h => by
    rw [rpT_nil h]
    exact .inl ⟨rfl, rfl⟩
  | (k', d) :: kvs, ys, h => by
    obtain ⟨v, ws, rfl, r, t⟩ := rpT_cons h
    by_cases e : k' = k
    · exact .inr ⟨d, v, by simp [valT, e], by simp [valV, e], r⟩
    · have e1 : valT ((k', d) :: kvs) k = valT kvs k := by simp [valT, e]
      have e2 : valV ((k', v) :: ws) k = valV ws k := by simp [valV, e]
      rw [e1, e2]
      exact t.val k
theorem RpT.app {k : List Key} {d : D} {v : V} (r : Rp K F d v) : ∀ {kvs : List (List Key × D)} {ys : List (List Key × V)}, RpT K F kvs ys → RpT K F (kvs ++ [(k, d)]) (ys ++ [(k, v)])
  | [], ys, h => by
    rw [rpT_nil h]
    exact .mk r .emp
  | (k', d') :: kvs, ys, h => by
    obtain ⟨v', ws, rfl, r', t⟩ := rpT_cons h
    exact .mk r' (t.app r)
theorem RpT.upd {k : List Key} {d : D} {v : V} (r : Rp K F d v) : ∀ {kvs : List (List Key × D)} {ys : List (List Key × V)}, RpT K F kvs ys → RpT K F (kvs.map fun kv => if kv.1 = k then (kv.1, d) else kv) (ys.map fun kv => if kv.1 = k then (kv.1, v) else kv) ∧ (kvs.any fun kv => decide (kv.1 = k)) = (ys.any fun kv => decide (kv.1 = k))
  | [], ys, h => by
    rw [rpT_nil h]
    exact ⟨.emp, rfl⟩
  | (k', d') :: kvs, ys, h => by
    obtain ⟨v', ws, rfl, r', t⟩ := rpT_cons h
    obtain ⟨u1, u2⟩ := t.upd (k := k) r
    refine ⟨?_, by rw [List.any_cons, List.any_cons, u2]⟩
    rw [List.map_cons, List.map_cons]
    by_cases e : k' = k
    · rw [if_pos e, if_pos e]
      exact .mk r u1
    · rw [if_neg e, if_neg e]
      exact .mk r' u1
theorem RpT.put {k : List Key} {d : D} {v : V} {kvs : List (List Key × D)} {ys : List (List Key × V)} (h : RpT K F kvs ys) (r : Rp K F d v) : RpT K F (putT kvs k d) (putK ys k v) := by
  obtain ⟨u1, u2⟩ := h.upd (k := k) r
  unfold putT putK
  rw [u2]
  split
  · exact u1
  · exact h.app r
end
section
variable {X : Fam} {T : List (Addr × Str)} {W : WX} {P : List Nat}
end
end Dl
set_option Elab.async false
set_option linter.all false
set_option maxRecDepth 100000
set_option maxHeartbeats 1000000
namespace Dl
open PySem PySem.Spec L2
open PyProof.Rows hiding St
/-! ## {t: v}, t a tuple of ints -/
section
variable {prog : Program} {w : World} {A : Around} {E : Value → Shared → Prop} {s : Shared}
end
section
variable {X : Fam} {T : List (Addr × Str)} {W : WX}
/-! ## list(d), its keys tuples of ints -/
end
end Dl
set_option Elab.async false
set_option linter.all false
set_option maxRecDepth 100000
set_option maxHeartbeats 1000000
namespace Dl
open PySem PySem.Spec L2
open PyProof.Rows hiding St
/-! ## an expression that only reads and gives tuples within tuples, or a new list of such -/
mutual
def tupD : D → Bool
  | .non => true
  | .bl _ => true
  | .int _ => true
  | .str _ => true
  | .tup ds => tupDs ds
  | _ => false
def tupDs : List D → Bool
  | [] => true
  | d :: ds => tupD d && tupDs ds
end
/-- F, and the tuples of G -/
def addT (F G : Hp) : Hp := fun b => match G b with
  | some (.tup xs) => some (.tup xs)
  | _ => F b
theorem addT_tup {F G : Hp} {b : Addr} {xs : List V} (h : G b = some (.tup xs)) : addT F G b = some (.tup xs) := by
  unfold addT
  rw [h]
section
variable {K : PySem.W.Frag} {F G : Hp}
mutual
theorem tup_any (nb : NoTb G) : ∀ (d : D) {v : V}, tupD d = true → Rp K G d v → Rp K (addT F G) d v
  | .non, v, _, r => by unfold Rp at r ⊢; exact r
  | .bl _, v, _, r => by unfold Rp at r ⊢; exact r
  | .int _, v, _, r => by unfold Rp at r ⊢; exact r
  | .str _, v, _, r => by unfold Rp at r ⊢; exact r
  | .tup ds, v, h, r => by
    unfold tupD at h
    unfold Rp at r ⊢
    obtain ⟨a, xs, e, sq, rl⟩ := r
    refine ⟨a, xs, e, ?_, tups_any nb ds h rl⟩
    rcases sq with (z | ⟨o, z⟩) | z
    · exact .inl (.inl (addT_tup z))
    · exact absurd z (nb.2 a o xs)
    · exact .inr z
  | .lst _, v, h, _ => by simp [tupD] at h
  | .scr _, v, h, _ => by simp [tupD] at h
  | .dk _, v, h, _ => by simp [tupD] at h
  | .dt _, v, h, _ => by simp [tupD] at h
  | .ins _ _, v, h, _ => by simp [tupD] at h
  | .opq _, v, h, _ => by simp [tupD] at h
theorem tups_any (nb : NoTb G) : ∀ (ds : List D) {xs : List V}, tupDs ds = true → RpL K G ds xs → RpL K (addT F G) ds xs
  | [], xs, _, r => by unfold RpL at r ⊢; exact r
  | d :: ds, xs, h, r => by
    unfold tupDs at h
    rw [Bool.and_eq_true] at h
    unfold RpL at r ⊢
    obtain ⟨v, ws, e, r1, r2⟩ := r
    exact ⟨v, ws, e, tup_any nb d h.1 r1, tups_any nb ds h.2 r2⟩
end
end
section
variable {X : Fam} {T : List (Addr × Str)} {W : WX}
end
section
variable {ρ : Ev} {b : B} {d : D}
end
end Dl
set_option Elab.async false
set_option linter.all false
set_option maxRecDepth 100000
set_option maxHeartbeats 4000000
namespace Dl
open PySem PySem.Spec L2
open PyProof.Rows hiding St
/-! ## a tuple some times -/
section
variable {X : Fam} {K : PySem.W.Frag} {T : List (Addr × Str)}
end
end Dl
set_option Elab.async false
set_option linter.all false
set_option maxRecDepth 100000
set_option maxHeartbeats 1000000
namespace Dl
open PySem PySem.Spec L2
open PyProof.Rows hiding St
/-! ## an own exception with fields: its making -/
section
variable {X : Cx} {e : Expr} {es : List Expr} {ta : TA} {p1 p2 pos : Pos} {pl : Sem Bool} {x : Str} {C0 : Addr} {mc : Value}
end
/-- what such an __init__ promises -/
def spXI (K : PySem.W.Frag) (C : Addr) (fs : List Str) : Sp := fun vs H Q _ => vs.length = fs.length + 1 ∧ ∃ a ys, vs = .ref a :: ys ∧ OexC K C ∧ (∀ f ∈ fs, PySem.W.findIn K (.ref C) f = some none) ∧ H a = some (exo a C none) ∧
  ∀ dx, H dx = none → dx ≠ a → Q .non (upd (upd H dx (exd dx (fs.zip ys).reverse)) a (exo a C (some dx)))
section
variable {P : Program} {w : World} {K : PySem.W.Frag} {mg : Str → Option Value} {base : Heap}
end
/-- what is known of an own exception with fields -/
structure XFAt (P : Program) (w : World) (K : PySem.W.Frag) (mg : Str → Option Value) (base : Heap) (x : Str) (fs : List Str) : Prop where
  ex : ∃ (C fI : Addr) (fd : FuncData) (ps : List Str), mg x = some (.ref C) ∧ ClsN K x C ∧ OexC K C ∧ PySem.W.findIn K (.ref C) "__init__" = some (some (.ref fI)) ∧ PySem.W.typeIn K (.ref fI) = some (.type "function") ∧
    FnOk P w K mg base CX0 1 fI fd ps (spXI K C fs) ∧ Binds K fd ps [] ∧ ∀ f ∈ fs, PySem.W.findIn K (.ref C) f = some none
section
variable {X : Fam} {T : List (Addr × Str)} {W : WX} {Pr : List Nat}
end
/-! ## a def called in an except suite, handed the exception, that never raises -/
/-- such a def's promise; p: the exception that is handled -/
structure FnS (P : Program) (w : World) (K : PySem.W.Frag) (mg : Str → Option Value) (base : Heap) (k : Nat) (f : Addr) (fd : FuncData) (ps : List Str) (sp : Addr × Obj → Sp) : Prop where
  len : ∀ p vs H Q E, sp p vs H Q E → vs.length = ps.length
  run : ∀ (A : Around) (outer : List Env) (s : Shared) (H : Hp) (args : Args) (us : List Value) (vs : List V) (Q : VK) (p : Addr × Obj), L2H.RoomH k A → L2H.PinOk outer H s p → Env0 P w K mg base A outer s H →
    BindsTo s fd args (ps.zip us) → Vals vs us → sp p vs H Q E0 → codeAny (model P w) A (.call (.ref f) args) (CR CX0 outer P w H s Q E0) s
section
variable {P : Program} {w : World} {K : PySem.W.Frag} {mg : Str → Option Value} {base : Heap}
end
section
variable {X : Cx} {k : Nat} {f : Addr} {fd : FuncData} {ps : List Str} {sp : Addr × Obj → Sp} {x : Str} {q pos : Pos} {e : Expr} {es : List Expr} {t : TA} {p : Addr × Obj}
end
/-! ## reading a field of the exception -/
/-- of a class: its instances' field f may be read -/
structure XfAt (K : PySem.W.Frag) (c f : Str) : Prop where
  at_ : ∀ a, ClsN K c a → XfC K a ∧ PySem.W.findIn K (.ref a) f = some none
def lookF (fs : List (Str × D)) (f : Str) : Option D := fs.lookup f
section
variable {T : List (Addr × Str)} {W : WX}
/-! the def called there -/
def spPl (K : PySem.W.Frag) (T : List (Addr × Str)) (n : Nat) (m : Exc → FS) : Addr × Obj → Sp := fun p vs H Q _ => vs.length = 1 ∧ vs = [.ref p.1] ∧ ∃ F x cls d, (Zc cls d p.2 ∧ ∃ us, p.2.data = .fields us) ∧ (∃ C', cls = .ref C' ∧ ClsN K x.cls C') ∧ XfI K F x.fs d ∧ Sub F H ∧ NoTb F ∧ LamX.Tabs T H ∧
  PostT K T F H (m x (List.replicate n .un)) Q
structure PlAt (P : Program) (w : World) (K : PySem.W.Frag) (mg : Str → Option Value) (base : Heap) (T : List (Addr × Str)) (x : Str) (k n : Nat) (m : Exc → FS) : Prop where
  ex : ∃ (f : Addr) (fd : FuncData) (ps : List Str), FnS P w K mg base k f fd ps (spPl K T n m) ∧ mg x = some (.ref f) ∧ PySem.W.keepIn K (.ref f) = true ∧ Binds K fd ps []
end
end Dl
set_option Elab.async false
set_option linter.all false
set_option maxRecDepth 100000
set_option maxHeartbeats 1000000
namespace Dl
open PySem PySem.Spec L2
open PyProof.Rows hiding St
/-! ## evaluation of exceptions with fields -/
section
variable {ρ : Ev} {d : D}
def rf1 (x : Str) (fs : List Str) (ρ : Ev) : Option (List D) → Out
  | some ds => if ds.length = fs.length ∧ ds.length ≤ 900 then .er ⟨x, some (fs.zip ds).reverse⟩ ρ else .stuck
  | none => .stuck
@[simp] theorem e_rf1 (x : Str) (fs : List Str) (ds : List D) : rf1 x fs ρ (some ds) = if ds.length = fs.length ∧ ds.length ≤ 900 then .er ⟨x, some (fs.zip ds).reverse⟩ ρ else .stuck := rfl
end
end Dl
set_option Elab.async false
set_option linter.all false
set_option maxRecDepth 100000
set_option maxHeartbeats 1000000
namespace Dl
open PySem PySem.Spec L2
open PyProof.Rows hiding St
/-! ## calls of methods and of classes, what is raised told slot by slot -/
section
variable {X : Cx} {CX : CXT} {k : Nat} {f C : Addr} {fd : FuncData} {ps : List Str} {sp : Sp} {E : St → XK} {x m : Str} {p pos apos : Pos} {e o : Expr} {es : List Expr} {ta : TE} {t : TA} {pl : Sem Bool}
end
/-! ## fields -/
/-- of a class: its instances' field f is read and stored plainly -/
structure FldAt (K : PySem.W.Frag) (c f : Str) : Prop where
  at_ : ∀ a, ClsN K c a → Cls K a ∧ NoAttr K a f
def lookO (fs : List (Str × O)) (f : Str) : Option O := fs.lookup f
/-- a binding as a tree -/
def toO : B → Option O
  | .un => none
  | .dat d => some (.fz d)
  | .own ds => some (.lst (ds.map .fz))
  | .odk ds => some (.dk (ds.map fun p => (p.1, .fz p.2)))
  | .odt ds => some (.dt (ds.map fun p => (p.1, .fz p.2)))
  | .ext o => some o
section
variable {K : PySem.W.Frag} {F H : Hp}
theorem orepL_fz : ∀ {ds : List D} {xs : List V}, RpL K F ds xs → ORepL K F H (ds.map .fz) xs []
  | [], xs, h => by
    rw [h.inv0]
    unfold List.map ORepL
    exact ⟨rfl, rfl⟩
  | d :: ds, xs, h => by
    obtain ⟨v, ws, rfl, h1, h2⟩ := h.inv
    rw [List.map_cons]
    unfold ORepL
    refine ⟨v, ws, [], [], rfl, rfl, (fun a m => by cases m), ?_, orepL_fz h2⟩
    unfold ORep
    exact ⟨rfl, h1⟩
theorem orepK_fz : ∀ {ds : List (Key × D)} {xs : List (Key × V)}, RpK K F ds xs → ORepK K F H (ds.map fun p => (p.1, .fz p.2)) xs []
  | [], xs, h => by
    unfold RpK at h
    rw [h]
    unfold List.map ORepK
    exact ⟨rfl, rfl⟩
  | (k, d) :: ds, xs, h => by
    unfold RpK at h
    obtain ⟨v, ws, rfl, h1, h2⟩ := h
    rw [List.map_cons]
    unfold ORepK
    refine ⟨v, ws, [], [], rfl, rfl, (fun a m => by cases m), ?_, orepK_fz h2⟩
    unfold ORep
    exact ⟨rfl, h1⟩
theorem orepT_fz : ∀ {ds : List (List Key × D)} {xs : List (List Key × V)}, RpT K F ds xs → ORepT K F H (ds.map fun p => (p.1, .fz p.2)) xs []
  | [], xs, h => by
    unfold RpT at h
    rw [h]
    unfold List.map ORepT
    exact ⟨rfl, rfl⟩
  | (k, d) :: ds, xs, h => by
    unfold RpT at h
    obtain ⟨v, ws, rfl, h1, h2⟩ := h
    rw [List.map_cons]
    unfold ORepT
    refine ⟨v, ws, [], [], rfl, rfl, (fun a m => by cases m), ?_, orepT_fz h2⟩
    unfold ORep
    exact ⟨rfl, h1⟩
theorem toO_rep {b : B} {sv : Option V} {ft : List Addr} {o : O} (h : BRep K F H b sv ft) (e : toO b = some o) : ∃ v, sv = some v ∧ ORep K F H o v ft := by
  cases b with
  | un => cases e
  | dat d =>
    cases e
    obtain ⟨rfl, v, rfl, r⟩ := h
    refine ⟨v, rfl, ?_⟩
    unfold ORep
    exact ⟨rfl, r⟩
  | own ds =>
    cases e
    obtain ⟨l, xs, rfl, rfl, e1, n, r⟩ := h
    refine ⟨_, rfl, ?_⟩
    unfold ORep
    exact ⟨l, xs, [], rfl, rfl, e1, n, by simp, orepL_fz r⟩
  | odk ds =>
    cases e
    obtain ⟨l, xs, rfl, rfl, e1, n, r⟩ := h
    refine ⟨_, rfl, ?_⟩
    unfold ORep
    exact ⟨l, xs, [], rfl, rfl, e1, n, by simp, orepK_fz r⟩
  | odt ds =>
    cases e
    obtain ⟨l, xs, rfl, rfl, e1, n, r⟩ := h
    refine ⟨_, rfl, ?_⟩
    unfold ORep
    exact ⟨l, xs, [], rfl, rfl, e1, n, by simp, orepT_fz r⟩
  | ext o' =>
    cases e
    exact h
end
/-- a field of what an operand tells -/
def fldB (R : List Str) (f : Str) (ρ : Ev) : Opd → Option D
  | .val (.ins c fs) => if R.contains c = true then lookF fs f else none
  | .var i => match ρ[i]? with
    | some (.ext (.ins c os)) => if R.contains c = true then (match lookO os f with
      | some (.fz d) => some d
      | _ => none) else none
    | _ => none
  | _ => none
def cFld (R : List Str) (f : Str) (fo : FO) : FE := fun ρ => fo ρ >>= fun p => ofO (fldB R f p.2 p.1) >>= fun d => .ok (.dat d, p.2)
section
variable {X : Fam} {T : List (Addr × Str)} {W : WX} {Pr : List Nat}
/-! ### n.f = e -/
end
end Dl
set_option Elab.async false
set_option linter.all false
set_option maxRecDepth 100000
set_option maxHeartbeats 1000000
namespace Dl
open PySem PySem.Spec L2
open PyProof.Rows hiding St
/-! ## methods -/
structure MethAt (P : Program) (w : World) (K : PySem.W.Frag) (mg : Str → Option Value) (base : Heap) (T : List (Addr × Str)) (c m : Str) (n k : Nat) (G : FG) : Prop where
  ex : ∃ (C f : Addr) (fd : FuncData) (ps : List Str), ClsN K c C ∧ Cls K C ∧ Meth K C m f ∧ FnOk P w K mg base (L2.CX P w) k f fd ps (spD K T n G) ∧ Binds K fd ps []
section
variable {X : Fam} {T : List (Addr × Str)} {W : WX}
/-! ## a class called -/
structure MakeAt (P : Program) (w : World) (K : PySem.W.Frag) (mg : Str → Option Value) (base : Heap) (T : List (Addr × Str)) (c : Str) (n k : Nat) (G : FG) : Prop where
  ex : ∃ (C f : Addr) (fd : FuncData) (ps : List Str), ClsN K c C ∧ mg c = some (.ref C) ∧ Mk K C f ∧ FnOk P w K mg base (L2.CX P w) k f fd ps (spD K T n G) ∧ Binds K fd ps []
/-! ## isinstance(x, C), C an own class -/
structure IsCAt (K : PySem.W.Frag) (mg : Str → Option Value) (c : Str) (Rc : List (Str × Bool)) : Prop where
  ex : ∃ C, mg c = some (.ref C) ∧ (∀ b ∈ isTys, PySem.W.kitOne K (.type b) (.ref C) = some false) ∧ ∀ c' r, Rc.lookup c' = some r → ∀ a, ClsN K c' a → (Cls K a ∧ PySem.W.findIn K (.ref a) "__class__" = some (some (.builtin "object.__class__")) ∧
    PySem.W.specialIn K (.builtin "object.__class__") "__get__" = some (some (.builtin "getset_descriptor.__get__")) ∧ PySem.W.takesIn K (.builtin "object.__class__") = some true ∧ PySem.W.mroIn K a (.type "object") = some true) ∧ PySem.W.kitOne K (.ref a) (.ref C) = some r
def isC (Rc : List (Str × Bool)) (ρ : Ev) (o : Opd) : Option Bool := match rd ρ o with
  | some (.ins c' _) => Rc.lookup c'
  | some d => (tyN d).map fun _ => false
  | none => match o with
    | .var i => match ρ[i]? with
      | some (.ext (.ins c' _)) => Rc.lookup c'
      | _ => none
    | _ => none
def cIsC (Rc : List (Str × Bool)) (fo : FO) : FE := fun ρ => fo ρ >>= fun p => ofO (isC Rc p.2 p.1) >>= fun b => .ok (.dat (.bl b), p.2)
end
end Dl
set_option Elab.async false
set_option linter.all false
set_option maxRecDepth 100000
set_option maxHeartbeats 1000000
namespace Dl
open PySem PySem.Spec L2
open PyProof.Rows hiding St
/-! ## repr of frozen data (dicts: empty ones) -/
mutual
def toPy : D → Option PyData
  | .non => some .none
  | .bl b => some (.bool b)
  | .int i => some (.int i)
  | .str s => some (.str s)
  | .lst ds => (toPys ds).map .list
  | .tup ds => (toPys ds).map .tuple
  | .dk [] => some (.dict [])
  | .dt [] => some (.dict [])
  | _ => none
def toPys : List D → Option (List PyData)
  | [] => some []
  | d :: ds => (toPy d).bind fun p => (toPys ds).map fun ps => p :: ps
end
section
variable {K : PySem.W.Frag} {P : Program} {w : World} {H : Hp} {h : Heap}
def RK (P : Program) (w : World) (h : Heap) (u : Value) (p : PyData) : Prop := ∃ as bs, Reads h u p as ∧ ReadAtMost h p.depth bs ∧ ReprK P w bs h p.depth u p.shown
def RKs (P : Program) (w : World) (h : Heap) (us : List Value) (ps : List PyData) : Prop := ∃ as bs, ReadsAll h us ps as ∧ ReadAtMost h (PyData.depthAll ps) bs ∧ ReprAllK P w bs h (PyData.depthAll ps) us (PyData.shownAll ps)
/-- what stands at a list, a tuple, an empty dict -/
inductive Shp (P : Program) (w : World) (h : Heap) (a : Addr) : PyData → Prop
  | lst {o : Obj} {us : List Value} {n : Nat} {ps : List PyData} : h.get? a = some o → o.cls = .type "list" → o.data = .seq us.toArray n → RKs P w h us ps → Shp P w h a (.list ps)
  | tup {o : Obj} {us : Array Value} {n : Nat} {ps : List PyData} : h.get? a = some o → o.cls = .type "tuple" → o.data = .seq us n → RKs P w h us.toList ps → Shp P w h a (.tuple ps)
  | dct {o : Obj} {n : Nat} : h.get? a = some o → o.cls = .type "dict" → o.data = .dict #[] n → (a == sysModules) = false → Shp P w h a (.dict [])
/-- one level up: what stands here reads as p and is told as p, what is met on the way is no deeper -/
structure Told (P : Program) (w : World) (h : Heap) (a : Addr) (p : PyData) : Prop where
  all : ∃ as bs, Reads h (.ref a) p as ∧ ReadAtMost h p.depth (a :: bs) ∧ ReprK P w (a :: bs) h p.depth (.ref a) p.shown
theorem RKs.apart {us : List Value} {ps : List PyData} {a : Addr} {p : PyData} {as' : List Addr} (q : RKs P w h us ps) (r : Reads h (.ref a) p as') (e : p.depth = PyData.depthAll ps + 1) :
    ∃ bs, ReadAtMost h (PyData.depthAll ps) bs ∧ ReprAllK P w bs h (PyData.depthAll ps) us (PyData.shownAll ps) ∧ a ∉ bs ∧ ReadAtMost h p.depth (a :: bs) := by
  obtain ⟨_, bs, _, hb, hk⟩ := q
  exact ⟨bs, hb, hk, not_mem_of_deeper r (by omega) hb, .cons r (by omega) hb⟩
theorem Shp.told {a : Addr} {p : PyData} (s : Shp P w h a p) : Told P w h a p := by
  cases s with
  | lst h1 h2 h3 q =>
    rename_i o us n ps
    obtain ⟨as, _, r, _, _⟩ := id q
    have r' : Reads h (.ref a) (.list ps) (a :: as) := .list h1 h2 h3 (by simpa using r)
    have dp : (PyData.list ps).depth = PyData.depthAll ps + 1 := by simp only [PyData.depth]
    obtain ⟨bs, hb, hk, na, up⟩ := q.apart r' dp
    refine ⟨_, bs, r', up, ?_⟩
    rw [dp]
    show ReprK P w (a :: bs) h _ _ (PyData.shown (.list ps))
    unfold PyData.shown
    cases us with
    | nil =>
      cases r
      unfold PyData.shownAll
      rw [listText_nil]
      exact .listEmpty h1 h2 h3
    | cons x l =>
      refine .list h1 h2 h3 na ?_ fun i y e => hk.item i y (by rw [← e]; simp)
      rw [hk.length_eq, List.size_toArray]
  | tup h1 h2 h3 q =>
    rename_i o us n ps
    obtain ⟨as, _, r, _, _⟩ := id q
    have r' : Reads h (.ref a) (.tuple ps) as := .tuple h1 h2 h3 r
    have dp : (PyData.tuple ps).depth = PyData.depthAll ps + 1 := by simp only [PyData.depth]
    obtain ⟨bs, hb, hk, na, up⟩ := q.apart r' dp
    refine ⟨_, bs, r', up, ?_⟩
    rw [dp]
    show ReprK P w (a :: bs) h _ _ (PyData.shown (.tuple ps))
    unfold PyData.shown
    exact .tuple h1 h2 h3 na hk
  | dct h1 h2 h3 hs =>
    have r' : Reads h (.ref a) (.dict []) _ := .dict h1 h2 h3 (by simpa using ReadsAll.nil) (by simpa using ReadsAll.nil)
    refine ⟨_, [], r', ReadAtMost.cons (n := 0) r' (Nat.zero_le _) (fun _ m => nomatch m), ?_⟩
    simp only [PyData.depth, PyData.shown, PyData.shownKv, PyData.depthKv]
    exact ReprK.dict h1 h2 h3 hs (by simp) (by simpa using ReprEntriesK.nil)
theorem dK_shp {a : Addr} (ok : HOk P w H h) (e : Rd H a (.dK [])) : Shp P w h a (.dict []) := by
  obtain ⟨_, hs, vs, kv, o, es, ep, h1, hx, h3, _, pr, _⟩ := dk_rd ok e
  cases kv
  obtain ⟨es⟩ := es
  cases pr
  exact .dct h1 hx.1 h3 hs
theorem dT_shp {a : Addr} (ok : HOk P w H h) (e : H a = some (.dT [])) : Shp P w h a (.dict []) := by
  obtain ⟨_, hs, xs, kv, o, es, ep, h1, hx, h3, pr, _⟩ := dt_of ok e
  cases kv
  obtain ⟨es⟩ := es
  have : es = [] := by simpa using pr
  subst this
  exact .dct h1 hx.1 h3 hs
theorem sqT_shp {a : Addr} {xs : List V} {ps : List PyData} (ok : HOk P w H h) (kin : K.In h) (e : SqT K H a xs) (q : ∀ us, Vals xs us → RKs P w h us ps) : Shp P w h a (.tuple ps) := by
  rcases e with e | ⟨o, its, n, l, c, d, _, v⟩
  · obtain ⟨_, its, v, o, h1, h2, n, h3⟩ := e.ok ok
    exact .tup h1 h2 h3 (by simpa using q _ v)
  · exact .tup (kin _ _ l) c d (q _ v)
theorem lst_shp {a : Addr} {xs : List V} {ps : List PyData} (ok : HOk P w H h) (e : H a = some (.lst xs)) (q : ∀ us, Vals xs us → RKs P w h us ps) : Shp P w h a (.list ps) := by
  obtain ⟨_, its, n, v, h1⟩ := ok _ _ e
  exact .lst h1 rfl rfl (q _ v)
theorem RKs.nil : RKs P w h [] [] := ⟨[], [], .nil, fun _ m => (nomatch m), .nil⟩
theorem RKs.cons {u : Value} {us : List Value} {p : PyData} {ps : List PyData} (a : RK P w h u p) (b : RKs P w h us ps) : RKs P w h (u :: us) (p :: ps) := by
  obtain ⟨as, bs, r, hb, k⟩ := a
  obtain ⟨as', bs', r', hb', k'⟩ := b
  refine ⟨_, bs ++ bs', .cons r r', ?_, ?_⟩
  · simp only [PyData.depthAll]
    exact (hb.mono (Nat.le_max_left _ _)).append (hb'.mono (Nat.le_max_right _ _))
  · unfold PyData.shownAll
    have hd : PyData.depthAll (p :: ps) = max p.depth (PyData.depthAll ps) := by simp only [PyData.depthAll]
    rw [hd]
    have k1 := (k.more (as' := bs ++ bs') fun _ m => List.mem_append_left _ m).level_le (Nat.le_max_left p.depth (PyData.depthAll ps))
    have k2 := k'.more_le (as' := bs ++ bs') (fun _ m => List.mem_append_right _ m) (Nat.le_max_right p.depth (PyData.depthAll ps))
    exact .cons k1 k2
theorem Shp.rk {a : Addr} {p : PyData} (s : Shp P w h a p) : RK P w h (.ref a) p := by
  obtain ⟨as, bs, r, hb, k⟩ := s.told.all
  exact ⟨as, a :: bs, r, hb, k⟩
mutual
theorem rk_of (ok : HOk P w H h) (kin : K.In h) : ∀ (d : D) {v : V} {u : Value} {p : PyData}, Rp K H d v → RelV v u → toPy d = some p → p.showable = true → p.shown.length ≤ sizeLine → RK P w h u p
  | .non, v, u, p, r, rv, e, _, _ => by
    unfold Rp at r
    subst r
    simp only [toPy] at e
    cases e
    obtain rfl : u = .none := rv
    exact ⟨[], [], .none, fun _ m => (nomatch m), by simp only [PyData.shown]; exact .of_is ReprIs.none _ _ _⟩
  | .bl b, v, u, p, r, rv, e, _, _ => by
    unfold Rp at r
    subst r
    simp only [toPy] at e
    cases e
    obtain rfl : u = .bool b := rv
    exact ⟨[], [], .bool b, fun _ m => (nomatch m), by simp only [PyData.shown]; exact .of_is (ReprIs.bool b) _ _ _⟩
  | .int i, v, u, p, r, rv, e, hs, _ => by
    unfold Rp at r
    subst r
    simp only [toPy] at e
    cases e
    obtain ⟨t, rfl⟩ : ∃ t, u = .int i t := rv
    exact ⟨[], [], .int i t, fun _ m => (nomatch m), by simp only [PyData.shown]; exact .of_is (ReprIs.int t (by simpa [PyData.showable] using hs)) _ _ _⟩
  | .str x, v, u, p, r, rv, e, _, hz => by
    unfold Rp at r
    subst r
    simp only [toPy] at e
    cases e
    obtain ⟨t, rfl⟩ : ∃ t, u = .str x t := rv
    exact ⟨[], [], .str x t, fun _ m => (nomatch m), by simp only [PyData.shown]; exact .of_is (ReprIs.str x t (by simpa only [PyData.shown] using hz)) _ _ _⟩
  | .lst ds, v, u, p, r, rv, e, hs, hz => by
    unfold Rp at r
    obtain ⟨a, xs, rfl, h1, h2⟩ := r
    obtain rfl : u = .ref a := rv
    simp only [toPy] at e
    cases q : toPys ds with
    | none =>
      rw [q] at e
      cases e
    | some ps =>
      rw [q] at e
      cases e
      have hz' : (listText (PyData.shownAll ps)).length ≤ sizeLine := by simpa only [PyData.shown] using hz
      exact (lst_shp ok h1 fun us vv => rks_of ok kin ds h2 vv q (by simpa [PyData.showable] using hs) (fun t ht => Nat.le_trans (listText_mem_le ht) hz')).rk
  | .tup ds, v, u, p, r, rv, e, hs, hz => by
    unfold Rp at r
    obtain ⟨a, xs, rfl, h1, h2⟩ := r
    obtain rfl : u = .ref a := rv
    simp only [toPy] at e
    cases q : toPys ds with
    | none =>
      rw [q] at e
      cases e
    | some ps =>
      rw [q] at e
      cases e
      have hz' : (tupleText (PyData.shownAll ps)).length ≤ sizeLine := by simpa only [PyData.shown] using hz
      exact (sqT_shp ok kin h1 fun us vv => rks_of ok kin ds h2 vv q (by simpa [PyData.showable] using hs) (fun t ht => Nat.le_trans (tupleText_mem_le ht) hz')).rk
  | .dk [], v, u, p, r, rv, e, _, _ => by
    unfold Rp at r
    obtain ⟨a, xs, rfl, h1, h2⟩ := r
    unfold RpK at h2
    subst h2
    obtain rfl : u = .ref a := rv
    simp only [toPy] at e
    cases e
    exact (dK_shp ok h1).rk
  | .dt [], v, u, p, r, rv, e, _, _ => by
    unfold Rp at r
    obtain ⟨a, xs, rfl, h1, h2⟩ := r
    unfold RpT at h2
    subst h2
    obtain rfl : u = .ref a := rv
    simp only [toPy] at e
    cases e
    exact (dT_shp ok h1).rk
  | .dk (_ :: _), v, u, p, r, rv, e, _, _ => by simp [toPy] at e
  | .dt (_ :: _), v, u, p, r, rv, e, _, _ => by simp [toPy] at e
  | .scr _, v, u, p, r, rv, e, _, _ => by simp [toPy] at e
  | .ins _ _, v, u, p, r, rv, e, _, _ => by simp [toPy] at e
  | .opq _, v, u, p, r, rv, e, _, _ => by simp [toPy] at e
theorem rks_of (ok : HOk P w H h) (kin : K.In h) : ∀ (ds : List D) {vs : List V} {us : List Value} {ps : List PyData}, RpL K H ds vs → Vals vs us → toPys ds = some ps → PyData.showableAll ps = true → (∀ t ∈ PyData.shownAll ps, t.length ≤ sizeLine) → RKs P w h us ps
  | [], vs, us, ps, r, rv, e, _, _ => by
    unfold RpL at r
    subst r
    cases rv
    simp only [toPys] at e
    cases e
    exact .nil
  | d :: ds, vs, us, ps, r, rv, e, hs, hz => by
    unfold RpL at r
    obtain ⟨v, ws, rfl, h1, h2⟩ := r
    cases rv with
    | cons r1 r2 =>
    simp only [toPys] at e
    cases q : toPy d with
    | none =>
      rw [q] at e
      cases e
    | some p =>
      rw [q] at e
      cases q2 : toPys ds with
      | none =>
        rw [q2] at e
        cases e
      | some ps' =>
        rw [q2] at e
        cases e
        have hs' : p.showable = true ∧ PyData.showableAll ps' = true := by simpa [PyData.showableAll] using hs
        exact .cons (rk_of ok kin d h1 r1 q hs'.1 (hz _ (by simp only [PyData.shownAll]; exact List.mem_cons_self ..))) (rks_of ok kin ds h2 r2 q2 hs'.2 fun t ht => hz t (by simp only [PyData.shownAll]; exact List.mem_cons_of_mem _ ht))
end
/-- the shape at the top -/
theorem shpTop (ok : HOk P w H h) (kin : K.In h) : ∀ (d : D) {v : V} {a : Addr} {p : PyData}, Rp K H d v → RelV v (.ref a) → toPy d = some p → p.showable = true → p.shown.length ≤ sizeLine → Shp P w h a p
  | .non, v, u, p, r, rv, e, _, _ => by
    unfold Rp at r
    subst r
    cases rv
  | .bl b, v, u, p, r, rv, e, _, _ => by
    unfold Rp at r
    subst r
    cases rv
  | .int i, v, u, p, r, rv, e, hs, _ => by
    unfold Rp at r
    subst r
    obtain ⟨t, e⟩ : ∃ t, Value.ref u = .int i t := rv
    cases e
  | .str x, v, u, p, r, rv, e, _, hz => by
    unfold Rp at r
    subst r
    obtain ⟨t, e⟩ : ∃ t, Value.ref u = .str x t := rv
    cases e
  | .lst ds, v, u, p, r, rv, e, hs, hz => by
    unfold Rp at r
    obtain ⟨a, xs, rfl, h1, h2⟩ := r
    have z : Value.ref u = .ref a := rv
    cases z
    simp only [toPy] at e
    cases q : toPys ds with
    | none =>
      rw [q] at e
      cases e
    | some ps =>
      rw [q] at e
      cases e
      have hz' : (listText (PyData.shownAll ps)).length ≤ sizeLine := by simpa only [PyData.shown] using hz
      exact (lst_shp ok h1 fun us vv => rks_of ok kin ds h2 vv q (by simpa [PyData.showable] using hs) (fun t ht => Nat.le_trans (listText_mem_le ht) hz'))
  | .tup ds, v, u, p, r, rv, e, hs, hz => by
    unfold Rp at r
    obtain ⟨a, xs, rfl, h1, h2⟩ := r
    have z : Value.ref u = .ref a := rv
    cases z
    simp only [toPy] at e
    cases q : toPys ds with
    | none =>
      rw [q] at e
      cases e
    | some ps =>
      rw [q] at e
      cases e
      have hz' : (tupleText (PyData.shownAll ps)).length ≤ sizeLine := by simpa only [PyData.shown] using hz
      exact (sqT_shp ok kin h1 fun us vv => rks_of ok kin ds h2 vv q (by simpa [PyData.showable] using hs) (fun t ht => Nat.le_trans (tupleText_mem_le ht) hz'))
  | .dk [], v, u, p, r, rv, e, _, _ => by
    unfold Rp at r
    obtain ⟨a, xs, rfl, h1, h2⟩ := r
    unfold RpK at h2
    subst h2
    have z : Value.ref u = .ref a := rv
    cases z
    simp only [toPy] at e
    cases e
    exact (dK_shp ok h1)
  | .dt [], v, u, p, r, rv, e, _, _ => by
    unfold Rp at r
    obtain ⟨a, xs, rfl, h1, h2⟩ := r
    unfold RpT at h2
    subst h2
    have z : Value.ref u = .ref a := rv
    cases z
    simp only [toPy] at e
    cases e
    exact (dT_shp ok h1)
  | .dk (_ :: _), v, u, p, r, rv, e, _, _ => by simp [toPy] at e
  | .dt (_ :: _), v, u, p, r, rv, e, _, _ => by simp [toPy] at e
  | .scr _, v, u, p, r, rv, e, _, _ => by simp [toPy] at e
  | .ins _ _, v, u, p, r, rv, e, _, _ => by simp [toPy] at e
  | .opq _, v, u, p, r, rv, e, _, _ => by simp [toPy] at e
/-- repr of what stands there -/
theorem Shp.call {a : Addr} {p : PyData} (sh : Shp P w h a p) (hsz : p.shown.length ≤ sizeLine) {A : Around} {E : Value → Shared → Prop} {s : Shared} {Q : Value → Shared → Prop} (hh : s.heap = h) (hg : A.guards = some []) (hu : A.units + (p.depth + 2) < cLine)
    (hQ : ∀ h' u tk, (∀ b o, s.heap.get? b = some o → h'.get? b = some o) → Q (.str p.shown u) { s with heap := h', toks := tk }) : wpAny (model P w) A (call (.builtin "repr") [.ref a]) Q E s := by
  subst hh
  have hu1 : A.units + 1 < cLine := by omega
  have same : ∀ b o, s.heap.get? b = some o → s.heap.get? b = some o := fun _ _ e => e
  cases sh with
  | lst h1 h2 h3 q =>
    rename_i o us n ps
    obtain ⟨as, _, r, _, _⟩ := id q
    have dp : (PyData.list ps).depth = PyData.depthAll ps + 1 := by simp only [PyData.depth]
    have sh : (PyData.list ps).shown = listText (PyData.shownAll ps) := by simp only [PyData.shown]
    obtain ⟨bs, _, hk, na, _⟩ := q.apart (.list h1 h2 h3 (by simpa using r)) dp
    rw [sh] at hQ hsz
    refine call_repr_slot hu1 ⟨o, h1, h2⟩ PySem.F.slot_list_repr.toG ?_
    cases us with
    | nil =>
      cases r
      have z : listText (PyData.shownAll []) = ("[]" : Str) := by unfold PyData.shownAll; exact listText_nil
      rw [z] at hQ
      exact call_list_repr_empty ⟨o, h1, h2⟩ h1 h3 ⟨_, _, rfl, hQ _ _ _ same⟩
    | cons x l =>
      refine call_list_reprK h1 h2 h3 na (by rw [hk.length_eq, List.size_toArray]) (fun i y e => hk.item i y (by rw [← e]; simp)) (A := A.in1) hg (fun _ _ => Clear.nil _) ?_ same (fun h' u tk k => ⟨_, _, rfl, hQ h' u tk k⟩) hsz
      show A.units + 1 + _ < cLine
      omega
  | tup h1 h2 h3 q =>
    rename_i o us n ps
    obtain ⟨as, _, r, _, _⟩ := id q
    have dp : (PyData.tuple ps).depth = PyData.depthAll ps + 1 := by simp only [PyData.depth]
    have sh : (PyData.tuple ps).shown = tupleText (PyData.shownAll ps) := by simp only [PyData.shown]
    obtain ⟨bs, _, hk, na, _⟩ := q.apart (.tuple h1 h2 h3 r) dp
    rw [sh] at hQ hsz
    refine call_repr_slot hu1 ⟨o, h1, h2⟩ PySem.F.slot_tuple_repr ?_
    refine call_tuple_reprK h1 h2 h3 na hk (A := A.in1) hg (fun _ _ => Clear.nil _) ?_ same (fun h' u tk k => ⟨_, _, rfl, hQ h' u tk k⟩) hsz
    show A.units + 1 + _ < cLine
    omega
  | dct h1 h2 h3 hs =>
    rename_i o n
    have sh : (PyData.dict []).shown = dictText [] := by simp only [PyData.shown, PyData.shownKv]
    rw [sh] at hQ hsz
    refine call_repr_slot hu1 ⟨o, h1, h2⟩ PySem.F.slot_dict_repr ?_
    refine call_dict_reprK (as := []) (d := 0) h1 h2 h3 hs (by simp) (by simpa using ReprEntriesK.nil) (A := A.in1) hg (fun _ _ => Clear.nil _) ?_ same (fun h' u tk k => ⟨_, _, rfl, hQ h' u tk k⟩) hsz
    show A.units + 1 + _ < cLine
    omega
end
def gRepr : List D → Option B
  | [d] => (toPy d).bind fun p => if p.showable = true ∧ p.shown.length ≤ sizeLine ∧ p.depth ≤ 60 then some (.dat (.str p.shown)) else none
  | _ => none
abbrev rRepr (K : PySem.W.Frag) : List V → Hp → VK → Prop := fun xs H Q => ∃ x d p, xs = [x] ∧ Rp K H d x ∧ toPy d = some p ∧ p.showable = true ∧ p.shown.length ≤ sizeLine ∧ p.depth ≤ 60 ∧ Q (.str p.shown) H
theorem cr_repr0 {X : Cx} (hg : X.A.guards = some []) (hu : X.A.units + 65 < cLine) : CallR X (.builtin "repr") (rRepr X.K) := by
  intro pins s σ H xs us Q I r q
  obtain ⟨x, d, p, rfl, h1, h2, h3, h4, h5, q⟩ := q
  obtain ⟨u, rfl, hr⟩ := vals1 r
  have ok := I.hok
  have kin := I.kIn
  have prim : (∃ a, u = .ref a) ∨ ∀ a, u ≠ .ref a := by
    cases u <;> first
      | exact .inl ⟨_, rfl⟩
      | exact .inr fun a z => nomatch z
  rcases prim with ⟨a, rfl⟩ | np
  · exact (shpTop ok kin d h1 hr h2 h3 h4).call h4 rfl hg (by omega) fun h' u tk hk => ⟨.str p.shown, H, I.kept hk, ⟨u, rfl⟩, q⟩
  · cases d with
    | non =>
      unfold Rp at h1
      subst h1
      obtain rfl : u = .none := hr
      simp only [toPy] at h2
      cases h2
      simp only [PyData.shown] at q
      exact PySem.P.repr_of_none ⟨.str _, H, I.tok _, ⟨_, rfl⟩, q⟩
    | bl b =>
      unfold Rp at h1
      subst h1
      obtain rfl : u = .bool b := hr
      simp only [toPy] at h2
      cases h2
      simp only [PyData.shown] at q
      exact PySem.P.repr_of_bool ⟨.str _, H, I.tok _, ⟨_, rfl⟩, q⟩
    | int i =>
      unfold Rp at h1
      subst h1
      obtain ⟨t, rfl⟩ : ∃ t, u = .int i t := hr
      simp only [toPy] at h2
      cases h2
      simp only [PyData.shown] at q
      exact PySem.P.repr_of_int (by simpa [PyData.showable] using h3) ⟨.str _, H, I.tok _, ⟨_, rfl⟩, q⟩
    | str y =>
      unfold Rp at h1
      subst h1
      obtain ⟨t, rfl⟩ : ∃ t, u = .str y t := hr
      simp only [toPy] at h2
      cases h2
      simp only [PyData.shown] at q h4
      exact PySem.P.repr_of_str ⟨.str _, H, I.tok _, ⟨_, rfl⟩, q⟩ h4
    | lst ds =>
      unfold Rp at h1
      obtain ⟨a, xs, rfl, _, _⟩ := h1
      exact absurd hr (np a)
    | tup ds =>
      unfold Rp at h1
      obtain ⟨a, xs, rfl, _, _⟩ := h1
      exact absurd hr (np a)
    | dk ds =>
      unfold Rp at h1
      obtain ⟨a, xs, rfl, _, _⟩ := h1
      exact absurd hr (np a)
    | dt ds =>
      unfold Rp at h1
      obtain ⟨a, xs, rfl, _, _⟩ := h1
      exact absurd hr (np a)
    | scr ds => simp [toPy] at h2
    | ins c ds => simp [toPy] at h2
    | opq v => simp [toPy] at h2
section
variable {X : Fam} {T : List (Addr × Str)} {K : PySem.W.Frag}
theorem cr_repr (hg : ∀ i, (X.at_ i).A.guards = some []) (hu : ∀ i, (X.at_ i).A.units + 65 < cLine) : ∀ i, CallR (X.at_ i) (.builtin "repr") (rRepr X.K) := fun i => by
  rw [← X.hK i]
  exact cr_repr0 (hg i) (hu i)
theorem vl_repr : VL K T (rRepr K) gRepr := by
  intro F H A ρ σ ds vs b Q s r p e f
  unfold gRepr at e
  split at e
  · rename_i d
    obtain ⟨v, rfl, hv⟩ := Paired.one p
    cases q : toPy d with
    | none =>
      rw [q] at e
      cases e
    | some pd =>
      rw [q] at e
      simp only [Option.bind] at e
      split at e
      · rename_i c
        cases e
        exact ⟨v, d, pd, rfl, RpTop.rp s hv, q, c.1, c.2.1, c.2.2, f.dat s r rp_str⟩
      · cases e
  · cases e
end
end Dl
set_option Elab.async false
set_option linter.all false
set_option maxRecDepth 100000
namespace Dl
open PySem PySem.Spec L2
open PyProof.Rows hiding St
/-! ## a def that is called where no repr is under way: it may call repr -/
section
variable {P : Program} {w : World} {K : PySem.W.Frag} {mg : Str → Option Value} {base : Heap}
structure FnG (P : Program) (w : World) (K : PySem.W.Frag) (mg : Str → Option Value) (base : Heap) (k : Nat) (f : Addr) (fd : FuncData) (ps : List Str) (sp : Sp) : Prop where
  len : ∀ vs H Q E, sp vs H Q E → vs.length = ps.length
  run : ∀ (A : Around), A.guards = some [] → ∀ (outer : List Env) (s : Shared) (H : Hp) (args : Args) (us : List Value) (vs : List V) (Q : VK) (E : XK), Room k A → Env0 P w K mg base A outer s H → BindsTo s fd args (ps.zip us) → Vals vs us → sp vs H Q E →
    codeAny (model P w) A (.call (.ref f) args) (CR (L2.CX P w) outer P w H s Q E) s
theorem FnG.imp {k : Nat} {f : Addr} {fd : FuncData} {ps : List Str} {sp sp' : Sp} (F : FnG P w K mg base k f fd ps sp) (h : ∀ vs H Q E, sp' vs H Q E → sp vs H Q E) : FnG P w K mg base k f fd ps sp' :=
  ⟨fun vs H Q E q => F.len vs H Q E (h _ _ _ _ q), fun A hg outer s H args us vs Q E hr he hb hv hs => F.run A hg outer s H args us vs Q E hr he hb hv (h _ _ _ _ hs)⟩
/-- THE RULE for such a def: its body is run where no repr is under way -/
theorem fn_dG {x qual : Str} {st : Stmt} {f : Addr} {fd : FuncData} {N ps : List Str} {k : Nat} {T : List (Addr × Str)} {g : FS} (Pr : List Nat) (F : Fun K x qual st f fd) (S : FnScope N ps (defScope st)) (hPr : ∀ j ∈ Pr, j < ps.length)
    (hbody : ∀ (cdv : Value) (A : Around) (outer : List Env) (s : Shared) (H : Hp) (E : XK), A.guards = some [] → Room k (A.deeper (envOfC qual (defScope st) s.heap.objs.size f cdv)) →
      DSs (oneF (cxOf (L2.CX P w) P w K mg base N qual (defScope st) f cdv A outer s H E)) T (fun cls d _ H => E cls d H) Pr (defBody st) g) : FnG P w K mg base (k + 1) f fd ps (spD K T ps.length (toF Pr ps.length N.length g)) := by
  obtain ⟨oc, od, kV, doc, pm, an, cdv, ct, osl, rfl, lk, hcd⟩ := F.ex
  refine ⟨fun vs H Q E h => h.1, fun A hg outer s H args us vs Q E hr e0 hb r hsp => ?_⟩
  -- the promise of a def for which this Around alone counts: its reading is asked for here
  have hl : vs.length = ps.length := hsp.1
  have kin : K.In s.heap := e0.mod.kin.keeps fun b o e => (e0.bs b o e).1
  have nl : s.heap.NoLimit := e0.mod.nolimit.keeps fun b o e => (e0.bs b o e).1
  refine codeAny_call_function hr.depth (kin _ _ lk) rfl S.co S.gen rfl (PySem.W.codeRec_of kin hcd) (hb _ _ _ _ ?_)
  refine wpAny_newFunctionEnv_cells S.kind (fun ⟨n, v⟩ hy => ?_) fun env he s1 q => ?_
  · rcases S.par n (List.of_mem_zip hy).1 with z | z
    · exact .inl z
    · exact .inr ⟨z, PySem.W.cellsFrom_some _ _ _ (.inl z)⟩
  subst he
  refine ⟨nl.keeps q.toInCall.keep, codeAny_func ?_⟩
  have I : Inv (cxOf (L2.CX P w) P w K mg base N qual (defScope st) f cdv A outer s H E) [] (L2.start N vs) H s1 := inv_start S hr.hd e0 hl r q
  obtain ⟨_, F0, A0, bs, sub, ntb, tab, rep, p⟩ := hsp
  obtain ⟨t, pss, sound⟩ := hbody cdv A outer s H E hg (hr.deeper _)
  have run : t { nx := fun _ H' => Q .non H', rt := Q } (L2.start N vs) H := by
    refine sound (fun i h => nomatch (show i ∈ ([] : List Nat) from h)) _ F0 H A0 (bs ++ List.replicate (N.length - ps.length) .un) _ ⟨sub, tab, ?_, trivial, ntb⟩ ?_
    · have q := RepS.join rep (rep_uns (K := K) (F := F0) (H := H) (N.length - ps.length)) fun a m z => by cases z
      rw [List.append_nil] at q
      unfold L2.start
      rw [hl]
      exact q
    · have keep : ∀ {σ' : St}, Keep Pr (L2.start N vs) σ' → ∀ i, i < ps.length → Pr.contains (0 + i) = true → σ'[i]? = (vs.map some)[i]? := fun k i hi hc => by
        rw [Nat.zero_add] at hc
        rw [k i (by simpa using hc)]
        unfold L2.start
        rw [List.getElem?_append_left (by rw [List.length_map, hl]; exact hi)]
      unfold toF at p
      cases q : g (bs ++ List.replicate (N.length - ps.length) .un) with
      | stuck =>
        rw [q] at p
        exact p.elim
      | bk ρ =>
        rw [q] at p
        exact p.elim
      | ct ρ =>
        rw [q] at p
        exact p.elim
      | nx ρ =>
        rw [q] at p
        intro σ' F' H' A' g' r' k'
        obtain ⟨A2, r2, m2⟩ := outs_ok Pr ps.length 0 r' (svs := vs.map some) (by rw [List.length_map]; exact hl) fun i hi hc _ => keep k' i hi hc
        exact p .non F' H' A2 (g'.less m2) (r2.dat rp_non)
      | rt b ρ =>
        rw [q] at p
        intro v σ' F' H' A' g' r' k'
        obtain ⟨ft, A1, rfl, kb, t', dj⟩ := r'.head
        obtain ⟨A2, r2, m2⟩ := outs_ok Pr ps.length 0 t' (svs := vs.map some) (by rw [List.length_map]; exact hl) fun i hi hc _ => keep k' i hi hc
        exact p v F' H' (ft ++ A2) (g'.less fun a m => by
          rcases List.mem_append.mp m with z | z
          · exact List.mem_append_left _ z
          · exact List.mem_append_right _ (m2 a z)) (.cons kb r2 fun a m z => dj a m (m2 a z))
      | er x ρ =>
        rw [q] at p
        intro σ' F' H' A' cls dd g' r' k' rx
        obtain ⟨A2, r2, m2⟩ := outs_ok Pr ps.length 0 r' (svs := vs.map some) (by rw [List.length_map]; exact hl) fun i hi hc _ => keep k' i hi hc
        exact p F' H' A2 cls dd (g'.less m2) r2 rx
  refine wpAny_mono ((pss ()).run [] s1 (L2.start N vs) H _ I run) (fun fl s' hs => ?_) fun e s' hs => hs
  cases fl with
  | ret u =>
    obtain ⟨v, σ', H', J, rv, z⟩ := hs
    exact ⟨v, H', J.os, J.bare, J.base, J.hok, rv, z⟩
  | next =>
    obtain ⟨σ', H', J, z⟩ := hs
    exact ⟨.non, H', J.os, J.bare, J.base, J.hok, rfl, z⟩
  | brk => exact hs.elim fun _ h => h.elim fun _ h => h.2.elim
  | cont => exact hs.elim fun _ h => h.elim fun _ h => h.2.elim
theorem law_endG {T : List (Addr × Str)} {k : Nat} {f : Addr} {fd : FuncData} {ps : List Str} {G : FG} (F : FnG P w K mg base k f fd ps (spD K T 1 G))
    (hG : ∀ ns : List Int, ns.length ≤ 63 → (∀ z ∈ ns, Builtin.Int.intBits z ≤ 1048576) → ∃ outs, G [.dat (.scr (ns.map .int))] = .ok (.dat (.bl true)) outs) : FnG P w K mg base k f fd ps (spLawB K T) := by
  refine F.imp fun vs H Q E h => ?_
  obtain ⟨hT, a, ns, rfl, hS, hl, hb, q⟩ := h
  obtain ⟨outs, e⟩ := hG ns hl hb
  obtain ⟨F0, sub, ntb, hS'⟩ : ∃ F0 : Hp, Sub F0 H ∧ NoTb F0 ∧ SqL K F0 a (ns.map V.int) := by
    rcases hS with hS | hS
    · refine ⟨fun b => if b = a then H a else none, fun b o e => ?_, ⟨fun b ps e => ?_, fun b o xs e => ?_⟩, ?_⟩
      · by_cases z : b = a
        · subst z
          simpa using e
        · simp [z] at e
      · by_cases z : b = a
        · subst z
          simp at e
          rcases hS with hS | ⟨o, hS⟩ <;> rw [hS] at e <;> cases e
        · simp [z] at e
      · by_cases z : b = a
        · subst z
          simp at e
          rcases hS with hS | ⟨o, hS⟩ <;> rw [hS] at e <;> cases e
        · simp [z] at e
      · rcases hS with hS | ⟨o, hS⟩
        · exact .inl (.inl (by simpa using hS))
        · exact .inl (.inr ⟨o, by simpa using hS⟩)
    · exact ⟨fun _ => none, (fun b o e => by cases e), ⟨(fun b ps e => by cases e), (fun b o xs e => by cases e)⟩, .inr hS⟩
  have r0 : RepS K F0 H [] [] [] := .nil
  refine ⟨rfl, F0, [], [.dat (.scr (ns.map .int))], sub, ntb, hT, ?_, ?_⟩
  · refine r0.dat ?_
    unfold Rp
    exact ⟨a, ns.map V.int, rfl, hS', RpL.ints⟩
  · rw [e]
    intro v F' H' A' g r
    obtain ⟨v', e1, z, _⟩ := r.dat_inv
    cases e1
    unfold Rp at z
    subst z
    exact q H'
/-- the call of the law, where no repr is under way. A heap that tracks the script alone: nothing where the script is the module's own -/
theorem call_G {k : Nat} {fa a : Addr} {fd : FuncData} {x : Str} {sp : Sp} {mb : Str → Option Value} {s : Shared} {vs : List Value} {ns : List Int}
    (KX : K.In s.heap) (hns : s.heap.Ns mainGlobals mg) (hb : s.heap.Ns builtinsNs mb) (hbb : ∀ x : Str, x ≠ "__name__" → mb x = bootBuiltins x) (hlim : s.heap.NoLimit) (hg : s.gens = #[])
    (ha : s.heap.get? a = some { cls := .type "list", data := .seq vs.toArray }) (hi : IntsAre vs ns) (hl : ns.length ≤ sizeLine) (hr : Room k callerA)
    (F : ∀ base : Heap, K.In base → base.Ns mainGlobals mg → FnG P w K mg base k fa fd [x] sp) (hbind : ∀ (s : Shared) (u : Value), BindsTo s fd ⟨[u], []⟩ [(x, u)])
    (hsp : ∀ H : Hp, Only H → SqL K H a (ns.map V.int) → sp [.ref a] H (fun v _ => v = .bl true) fun _ _ _ => False)
    (hCX : ∀ H e s', L2.CX P w [] H s (fun _ _ _ => False) e s' → False) :
    codeAny (model P w) callerA (.call (.ref fa) ⟨[.ref a], []⟩) (fun r s' => r = .ok (.ret (.bool true)) ∧ OldK s.heap s'.heap ∧ s'.os = s.os ∧ AllBare s'.gens) s := by
  obtain ⟨H, only, hS, hok, hA, hK⟩ : ∃ H : Hp, Only H ∧ SqL K H a (ns.map V.int) ∧ HOk P w H s.heap ∧ (∀ b, H b ≠ none → b = a) ∧ (H a ≠ none → K.lookup a = none) := by
    have rv := vals_ints hi
    have two : K.lookup a = none ∨ ∃ o, K.lookup a = some o := by
      cases K.lookup a with
      | none => exact .inl rfl
      | some o => exact .inr ⟨o, rfl⟩
    rcases two with hk | ⟨o, hk⟩
    rotate_left
    · have e := (KX a o hk).symm.trans ha
      cases e
      exact ⟨fun _ => none, fun _ => .inl rfl, .inr ⟨_, vs.toArray, _, hk, rfl, rfl, rfl, by rw [List.size_toArray, hi.length]; exact hl, by simpa using rv⟩, (fun _ _ z => nomatch z), (fun _ z => (z rfl).elim), fun z => (z rfl).elim⟩
    · let o : HO := .frz { cls := .type "list", data := .seq vs.toArray } (.lst (ns.map V.int))
      have at_ : ∀ b u, upd (fun _ => none) a o b = some u → b = a ∧ u = o := fun b u z => by
        by_cases h : b = a
        · rw [h, upd_same] at z
          exact ⟨h, (Option.some.inj z).symm⟩
        · rw [upd_ne h] at z
          cases z
      refine ⟨upd (fun _ => none) a o, fun b => ?_, .inl (.inr ⟨_, upd_same⟩), fun b u z => ?_, fun b z => ?_, fun _ => hk⟩
      · cases z : upd (fun _ => none) a o b with
        | none => exact .inl rfl
        | some u => exact .inr ⟨{ cls := .type "list", data := .seq vs.toArray }, ns.map V.int, by rw [(at_ b u z).2]⟩
      · obtain ⟨rfl, rfl⟩ := at_ b u z
        have hz : (ns.map V.int).length ≤ sizeLine := by simpa using hl
        exact ⟨ha, hz, vs, _, rv, ha⟩
      · cases q : upd (fun _ => none) a o b with
        | none => exact (z q).elim
        | some u => exact (at_ b u q).1
  have up : ∀ {b : Addr} {o : Obj}, s.heap.get? b = some o → H b = none → (hidT s.heap H).get? b = some o := fun e n => hidT_get e n
  have dct : ∀ {b : Addr} {o : Obj} {es : Array DictEntry} {n : Nat}, s.heap.get? b = some o → o.data = .dict es n → H b = none := fun {b o es n} e d => by
    cases q : H b with
    | none => rfl
    | some u =>
      obtain rfl := hA b (by rw [q]; simp)
      cases ha.symm.trans e
      cases d
  have ns' : ∀ {b : Addr} {m : Str → Option Value}, s.heap.Ns b m → (hidT s.heap H).Ns b m := fun ⟨o, es, n, e, d, r⟩ => ⟨o, es, n, up e (dct e d), d, r⟩
  have kb : K.In (hidT s.heap H) := fun b o e => up (KX b o e) (by
    cases q : H b with
    | none => rfl
    | some u =>
      obtain rfl := hA b (by rw [q]; simp)
      exact nomatch (hK (by rw [q]; simp)).symm.trans e)
  have e0 : Env0 P w K mg (hidT s.heap H) callerA [] s H :=
    ⟨rfl, ⟨kb, ns' hns, ⟨mb, ns' hb, hbb⟩, hlim.elim fun mc h => ⟨mc, ns' h.1, h.2⟩⟩, fun b o e => of_hidT e, Nat.le_of_eq (hidT_size _ _), trivial, (fun b m => nomatch (show b ∈ ([] : List Addr) from m)), hok, AllBare.of_eq hg⟩
  refine codeAny_mono ((F _ kb (ns' hns)).run callerA rfl [] s H ⟨[.ref a], []⟩ [.ref a] [.ref a] _ _ hr e0 (hbind s (.ref a)) (.cons rfl .nil) (hsp H only hS)) fun r s' h => ?_
  match r, h with
  | .error e, h => exact (hCX H e s' h).elim
  | .ok .next, h => exact False.elim h
  | .ok .brk, h => exact False.elim h
  | .ok .cont, h => exact False.elim h
  | .ok (.ret u), h =>
    obtain ⟨v, G, hos, hbare, un, hokG, rv, hv⟩ := h
    have hv : v = .bl true := hv
    rw [hv] at rv
    have hu : u = Value.bool true := rv
    rw [hu]
    refine ⟨rfl, .of_keep fun b o e => ?_, hos, hbare⟩
    rcases only b with z | ⟨ob, xs, z⟩
    · exact un.keep b o e z (fun m => (nomatch (show b ∈ ([] : List Addr) from m))) (by simp)
    · have e1 := (hok b _ z).1
      rw [e] at e1
      cases e1
      exact (hokG b _ (un.frzs b _ _ z)).1
end
theorem walk_lawG {l : PySem.W.OpenLaw} {q : Program} {loose : List Str} {XP : (Str → Option Value) → Heap → Prop} {YP : World → Heap → Prop} {d : DefRec} {K : Params → PySem.W.Frag} {k : Nat} {x : Str} (hn : l.most = some 63) (hdf : d.params.defaults = []) (hr : Room k callerA)
    (hY : ∀ (w : World) (h : Heap), YP w h → (K w.params).In h)
    (F : ∀ (w : World) (mg : Str → Option Value) (fa : Addr) (h : Heap), (K w.params).In h → h.Ns mainGlobals mg → mg d.name = some (.ref fa) →
      ∃ fd : FuncData, (∀ (s : Shared) (u : Value), BindsTo s fd ⟨[u], []⟩ [(x, u)]) ∧ ∀ base : Heap, (K w.params).In base → base.Ns mainGlobals mg → FnG l.prog w (K w.params) mg base k fa fd [x] (spLawB (K w.params) [])) :
    PySem.W.WalkO q loose XP YP l.row.toRowW d [] (fun f vs => PySem.call f vs) := by
  refine Att.attach_callB hn hdf fun w s₀ s₁ mg mb fa o pm cd doc a vs ns G Y ho hd hcd hmg hobj hints hlen hbits hg => ?_
  have KX := hY w _ Y
  obtain ⟨fd, hb, hF⟩ := F w mg fa _ KX G.T.g hmg
  refine call_G KX G.T.g G.T.b G.T.builtins G.T.nolimit hg hobj hints (Nat.le_trans hlen (by decide)) hr hF hb (fun H hO hS => ⟨(fun _ m => nomatch m), a, ns, rfl, hS, hlen, hbits, fun _ => rfl⟩) fun H e s' z => ?_
  obtain ⟨_, _, _, _, _, _, _, _, _, _, _, _, e⟩ := z
  exact e
end Dl
set_option Elab.async false
set_option linter.all false
set_option maxRecDepth 100000
set_option maxHeartbeats 1000000
namespace Dl
open PySem PySem.Spec L2
open PyProof.Rows hiding St
/-! ## programs: what is judged -/
/-- what may be compared with a text -/
def cmpB : D → Bool
  | .dk _ => true
  | d => shp d
def isS (s : String) : D → Bool
  | .str t => t == Str.ofString s
  | _ => false
theorem eqD_isS {d : D} (h : shp d = true) (s : String) : eqD d (.str (Str.ofString s)) = isS s d := by
  cases d <;> simp [eqD, py, PyData.eqv, isS]
@[simp] theorem shp_dk (ks : List (Key × D)) : shp (.dk ks) = false := by
  simp [shp, SeqAt.shaped, py, PyData.canLay0]
theorem gEq_isS {d : D} (h : cmpB d = true) (s : String) : gEq d (.str (Str.ofString s)) = some (.dat (.bl (isS s d))) := by
  cases d <;> first
    | (rw [gEq_of h (by simp), eqD_isS h]; done)
    | (simp [gEq, dkStr, lstOf, isS]; done)
def slB : D → Bool
  | .tup [x, _] => cmpB x
  | _ => true
def stB : D → Bool
  | .tup [a, b] => cmpB a && slB b
  | _ => true
def pgB : D → Bool
  | .tup [_, .tup ss] => ss.all stB
  | _ => true
def isSlotD (n : Int) : D → Bool
  | .tup [x, y] => (isS "box" x && isFromD y 0 999999) || (isS "key" x && isFromD y 0 (n - 1))
  | _ => false
def isStpD (n : Int) : D → Bool
  | .tup [a, b] => isWord a && isSlotD n b
  | _ => false
def areTabD : D → Bool
  | .tup ts => decide (ts.length ≤ 3) && ts.all fun d => isFromD d 1 9
  | _ => false
def slotOf : D → D
  | .tup [_, s] => s
  | _ => .non
def coverD (n : Nat) (ss : List D) : Bool := (rngD 0 n).all fun k => inD (.tup [.str (Str.ofString "key"), k]) (ss.map slotOf)
def isProgD : D → Bool
  | .tup [.tup ts, .tup ss] => areTabD (.tup ts) && (decide (1 ≤ ss.length) && decide (ss.length ≤ 6)) && ss.all (isStpD ts.length) && ordF ss 0 ss && coverD ts.length ss
  | _ => false
def areProgD : D → Bool
  | .lst ds => decide (1 ≤ ds.length) && decide (ds.length ≤ 4) && ds.all isProgD
  | _ => false
/-! ## slots as numbers: a box's own, a key's below nought -/
def slotD (i : Int) : D := .tup [.str (Str.ofString (if 0 ≤ i then "box" else "key")), .int (if 0 ≤ i then i else -1 - i)]
def stp (p : Wb) : D := .tup [wd p.1, slotD p.2]
def okC (n : Int) (i : Int) : Prop := (0 ≤ i ∨ -n ≤ i) ∧ i ≤ 999999
theorem slot_inv {n : Int} {d : D} (h : isSlotD n d = true) : ∃ i, d = slotD i ∧ okC n i := by
  unfold isSlotD at h
  split at h
  · rename_i x y
    rw [Bool.or_eq_true, Bool.and_eq_true, Bool.and_eq_true] at h
    rcases h with ⟨h1, h2⟩ | ⟨h1, h2⟩
    · unfold isS at h1
      split at h1
      · unfold isFromD at h2
        split at h2
        · rename_i t _ i
          simp at h2
          exact ⟨i, by rw [eq_of_beq h1]; simp [slotD, h2.1], by unfold okC; omega⟩
        · cases h2
      · cases h1
    · unfold isS at h1
      split at h1
      · unfold isFromD at h2
        split at h2
        · rename_i t _ i
          simp at h2
          refine ⟨-1 - i, ?_, by unfold okC; omega⟩
          have : ¬ (0 ≤ -1 - i) := by omega
          rw [eq_of_beq h1]
          simp only [slotD, if_neg this]
          congr 4
          omega
        · cases h2
      · cases h1
  · cases h
theorem slot_ok {n i : Int} (h : okC n i) : isSlotD n (slotD i) = true := by
  unfold okC at h
  by_cases c : 0 ≤ i
  · simp [slotD, isSlotD, isS, isFromD, c]
    exact .inl h.2
  · simp [slotD, isSlotD, isS, isFromD, c]
    exact .inr (by omega)
theorem stp_inv {n : Int} {d : D} (h : isStpD n d = true) : ∃ p : Wb, d = stp p ∧ okC n p.2 := by
  unfold isStpD at h
  split at h
  · rename_i a b
    rw [Bool.and_eq_true] at h
    obtain ⟨i, rfl, hi⟩ := slot_inv h.2
    have h1 := h.1
    unfold isWord at h1
    split at h1
    · rw [Bool.or_eq_true] at h1
      rcases h1 with h1 | h1
      · exact ⟨(false, i), by rw [eq_of_beq h1]; rfl, hi⟩
      · exact ⟨(true, i), by rw [eq_of_beq h1]; rfl, hi⟩
    · cases h1
  · cases h
theorem stp_ok {n : Int} {p : Wb} (h : okC n p.2) : isStpD n (stp p) = true := by
  have := slot_ok h
  obtain ⟨w, i⟩ := p
  cases w <;> simp [stp, isStpD, isWord, wd, this]
theorem shn_slotD (i : Int) : shn 1 (slotD i) = true := by
  unfold slotD
  rw [show (1 : Nat) = 0 + 1 from rfl, shn_tup]
  simp
theorem shn_stp (p : Wb) : shn 2 (stp p) = true := by
  unfold stp
  rw [show (2 : Nat) = 1 + 1 from rfl, shn_tup]
  simp [wd, shn_slotD]
theorem eqD_slotD (i j : Int) : eqD (slotD i) (slotD j) = decide (i = j) := by
  unfold slotD
  rw [eqD_tup2, eqD_str, eqD_int]
  rw [Bool.eq_iff_iff]
  simp only [Bool.and_eq_true, beq_iff_eq, decide_eq_true_eq, ofString_inj]
  by_cases c : 0 ≤ i
  · by_cases c' : 0 ≤ j <;> simp [c, c'] <;> omega
  · by_cases c' : 0 ≤ j <;> simp [c, c'] <;> omega
theorem eqD_stp (p q : Wb) : eqD (stp p) (stp q) = decide (p = q) := by
  unfold stp
  rw [eqD_tup2, eqD_wd, eqD_slotD, Bool.eq_iff_iff]
  simp only [Bool.and_eq_true, decide_eq_true_eq]
  exact ⟨fun h => Prod.ext h.1 h.2, fun h => by rw [h]; exact ⟨rfl, rfl⟩⟩
theorem inD_stp (p : Wb) : ∀ ps : List Wb, inD (stp p) (ps.map stp) = decide (p ∈ ps)
  | [] => rfl
  | q :: ps => by
    have ih := inD_stp p ps
    unfold inD at ih ⊢
    rw [List.map_cons, List.any_cons, ih, eqD_stp, Bool.eq_iff_iff]
    simp only [Bool.or_eq_true, decide_eq_true_eq, List.mem_cons]
    exact ⟨fun h => h.imp Eq.symm id, fun h => h.imp Eq.symm id⟩
theorem inD_slotD (i : Int) : ∀ is : List Int, inD (slotD i) (is.map slotD) = decide (i ∈ is)
  | [] => rfl
  | q :: ps => by
    have ih := inD_slotD i ps
    unfold inD at ih ⊢
    rw [List.map_cons, List.any_cons, ih, eqD_slotD, Bool.eq_iff_iff]
    simp only [Bool.or_eq_true, decide_eq_true_eq, List.mem_cons]
    exact ⟨fun h => h.imp Eq.symm id, fun h => h.imp Eq.symm id⟩
theorem badS_stp (ps : List Wb) (k : Nat) (p : Wb) : badS (ps.map stp) k (stp p) = badP ps k p := by
  have h1 := inD_stp p (ps.take k)
  have h2 := inD_stp (true, p.2) (ps.take k)
  rw [List.map_take] at h1 h2
  show (inD (stp p) ((ps.map stp).take k) || (eqD (wd p.1) (.str "read") && inD (stp (true, p.2)) ((ps.map stp).take k))) = _
  rw [h1, h2]
  obtain ⟨a, b⟩ := p
  cases a <;> simp [badP, wd, ofString_inj]
theorem ordF_stp (ps : List Wb) : ∀ (r : List Wb) (k : Nat), ordF (ps.map stp) k (r.map stp) = ordP ps k r
  | [], k => rfl
  | p :: r, k => by
    rw [List.map_cons, ordF, ordP, badS_stp, ordF_stp ps r]
theorem ordP_add {ps : List Wb} {p : Wb} (h : ordP ps 0 ps = true) (h1 : p ∉ ps) (h2 : (true, p.2) ∉ ps) : ordP (ps ++ [p]) 0 (ps ++ [p]) = true := by
  have e := ordP_snoc p ps []
  rw [List.nil_append] at e
  rw [List.length_nil] at e
  rw [e, h]
  simp [badP, h1, h2]
theorem slots_stp (ps : List Wb) : (ps.map stp).map slotOf = (ps.map (·.2)).map slotD := by
  rw [List.map_map, List.map_map]
  rfl
theorem keyD_slotD (k : Nat) : D.tup [.str (Str.ofString "key"), .int (k : Int)] = slotD (-1 - (k : Int)) := by
  have : ¬ 0 ≤ -1 - (k : Int) := by omega
  simp only [slotD, if_neg this]
  congr 4
  omega
theorem cover_stp {n : Nat} {ps : List Wb} (h : ∀ k : Nat, k < n → ∃ p ∈ ps, p.2 = -1 - (k : Int)) : coverD n (ps.map stp) = true := by
  unfold coverD
  rw [List.all_eq_true]
  intro d m
  unfold rngD at m
  obtain ⟨k, hk, rfl⟩ := List.mem_map.mp m
  simp only [List.mem_range] at hk
  obtain ⟨p, hp, e⟩ := h k hk
  rw [slots_stp]
  have : D.tup [.str (Str.ofString "key"), .int (0 + (k : Int))] = slotD (-1 - (k : Int)) := by rw [Int.zero_add]; exact keyD_slotD k
  rw [this, inD_slotD, decide_eq_true_eq]
  exact List.mem_map.mpr ⟨p, hp, e⟩
/-- a program -/
structure Prg (ts : List Int) (ps : List Wb) : Prop where
  tl : ts.length ≤ 3
  tr : ∀ t ∈ ts, 1 ≤ t ∧ t ≤ 9
  ne : ps ≠ []
  le : ps.length ≤ 6
  ok : ∀ p ∈ ps, okC ts.length p.2
  od : ordP ps 0 ps = true
  cv : ∀ k : Nat, k < ts.length → ∃ p ∈ ps, p.2 = -1 - (k : Int)
def prg (ts : List Int) (ps : List Wb) : D := .tup [.tup (ts.map .int), .tup (ps.map stp)]
theorem Prg.is {ts : List Int} {ps : List Wb} (g : Prg ts ps) : isProgD (prg ts ps) = true := by
  have h1 := List.length_pos_iff.mpr g.ne
  have h2 := g.tl
  have h3 := g.le
  have e1 : (ts.map D.int).all (fun d => isFromD d 1 9) = true := by
    rw [List.all_eq_true]
    intro d m
    obtain ⟨t, ht, rfl⟩ := List.mem_map.mp m
    have := g.tr t ht
    simp [isFromD, this.1, this.2]
  have e2 : (ps.map stp).all (isStpD ts.length) = true := by
    rw [List.all_eq_true]
    intro d m
    obtain ⟨p, hp, rfl⟩ := List.mem_map.mp m
    exact stp_ok (g.ok p hp)
  have e3 := cover_stp g.cv
  have e4 := g.od
  simp only [prg, isProgD, areTabD, List.length_map, e1, e2, ordF_stp, e3, e4, Bool.and_true, Bool.and_eq_true, decide_eq_true_eq]
  omega
end Dl
set_option Elab.async false
set_option linter.all false
set_option maxRecDepth 100000
namespace Dl
open PySem PySem.Spec L2
open PyProof.Rows hiding St
/-! ## a list that stands still from here on -/
def frzI (i : Nat) (ρ : Ev) : Ev := match ρ[i]? with
  | some (.own ds) => ρ.set i (.dat (.lst ds))
  | _ => ρ
theorem freezeAt {K : PySem.W.Frag} {T : List (Addr × Str)} {F H : Hp} {ρ : Ev} {σ : St} {A : List Addr} (i : Nat) (h : RepS K F H ρ σ A) (s : Sub F H) : ∃ F2 A2, Go T A F H A2 F2 H ∧ RepS K F2 H (frzI i ρ) σ A2 := by
  unfold frzI
  split
  · rename_i ds e
    obtain ⟨sv, ft, es, _, _⟩ := h.get e
    obtain ⟨A1, r1, m1, _⟩ := h.takeOut e es
    obtain ⟨v, F2, A2, rfl, g, r2, z⟩ := freeze (T := T) r1 s (d := .lst ds) rfl
    obtain ⟨A3, r3, m3⟩ := (r2.dat z).putBack es
    rw [List.set_set] at r3
    exact ⟨F2, A3, (g.more m1).less m3, r3⟩
  · exact ⟨F, A, Go.refl s, h⟩
section
variable {X : Fam} {T : List (Addr × Str)} {W : WX}
theorem ds_frzI (i : Nat) {P : List Nat} {st : Stmt} {g : FS} (h : DS X T W P st g) : DS X T W P st (fun ρ => g (frzI i ρ)) := by
  obtain ⟨t, pt, s⟩ := h
  refine ⟨t, pt, fun hps σ F H A ρ E a p => ?_⟩
  obtain ⟨F2, A2, g1, r1⟩ := freezeAt (T := T) i a.rep a.sub
  exact s hps σ F2 H A2 (frzI i ρ) E (a.next g1 r1) (p.after g1 fun _ _ => rfl)
end
theorem e_frzI {i : Nat} {ρ : Ev} {ds : List D} (h : ρ[i]? = some (.own ds)) : frzI i ρ = ρ.set i (.dat (.lst ds)) := by
  unfold frzI
  rw [h]
end Dl
set_option Elab.async false
set_option linter.all false
set_option maxRecDepth 100000
namespace Dl
open PySem PySem.Spec L2
open PyProof.Rows hiding St
/-! ## zip of two lists, of two tuples -/
def zipD (ds es : List D) : List D := (ds.zip es).map fun p => .tup [p.1, p.2]
section
variable {K : PySem.W.Frag} {T : List (Addr × Str)}
end
/-- what two operands give -/
def zip2 : List Opd → Option (List D)
  | [.val (.lst ds), .val (.lst es)] => some (zipD ds es)
  | [.val (.tup ds), .val (.tup es)] => some (zipD ds es)
  | _ => none
def iZip (f : FA) : FI := fun ρ => f ρ >>= fun p => ofO (zip2 p.1) >>= fun xs => .ok (xs, p.2)
section
variable {X : Fam} {T : List (Addr × Str)} {W : WX}
end
end Dl
namespace Dl
end Dl
set_option Elab.async false
set_option linter.all false
set_option maxRecDepth 100000
namespace Dl
open PySem PySem.Spec L2
open PyProof.Rows hiding St
/-! ## evaluation: fields, isinstance of an own class, an own class called -/
section
variable {ρ : Ev}
def fcB (ρ : Ev) : Option D → R (B × Ev)
  | some d => .ok (.dat d, ρ)
  | none => .stuck
@[simp] theorem e_fcB (d : D) : fcB ρ (some d) = .ok (.dat d, ρ) := rfl
def fcA (S : List Str) (f : Str) : R (Opd × Ev) → R (B × Ev)
  | .ok p => fcB p.2 (fldB S f p.2 p.1)
  | .err x ρ => .err x ρ
  | .stuck => .stuck
@[simp] theorem e_fcA (S : List Str) (f : Str) (o : Opd) : fcA S f (.ok (o, ρ)) = fcB ρ (fldB S f ρ o) := rfl
@[simp] theorem e_cFld (S : List Str) (f : Str) (fo : FO) : cFld S f fo ρ = fcA S f (fo ρ) := by
  unfold cFld fcA
  cases fo ρ with
  | ok p =>
    simp only [ok_bind]
    cases fldB S f p.2 p.1 <;> rfl
  | err x ρ' => rfl
  | stuck => rfl
def icB (ρ : Ev) : Option Bool → R (B × Ev)
  | some b => .ok (.dat (.bl b), ρ)
  | none => .stuck
@[simp] theorem e_icB (b : Bool) : icB ρ (some b) = .ok (.dat (.bl b), ρ) := rfl
def icA (Rc : List (Str × Bool)) : R (Opd × Ev) → R (B × Ev)
  | .ok p => icB p.2 (isC Rc p.2 p.1)
  | .err x ρ => .err x ρ
  | .stuck => .stuck
@[simp] theorem e_icA (Rc : List (Str × Bool)) (o : Opd) : icA Rc (.ok (o, ρ)) = icB ρ (isC Rc ρ o) := rfl
@[simp] theorem e_cIsC (Rc : List (Str × Bool)) (fo : FO) : cIsC Rc fo ρ = icA Rc (fo ρ) := by
  unfold cIsC icA
  cases fo ρ with
  | ok p =>
    simp only [ok_bind]
    cases isC Rc p.2 p.1 <;> rfl
  | err x ρ' => rfl
  | stuck => rfl
end
def zpB (ρ : Ev) : Option (List D) → R (List D × Ev)
  | some ds => .ok (ds, ρ)
  | none => .stuck
@[simp] theorem e_zpB {ρ : Ev} (ds : List D) : zpB ρ (some ds) = .ok (ds, ρ) := rfl
def zpA : R (List Opd × Ev) → R (List D × Ev)
  | .ok p => zpB p.2 (zip2 p.1)
  | .err x ρ => .err x ρ
  | .stuck => .stuck
@[simp] theorem e_zpA {ρ : Ev} (os : List Opd) : zpA (.ok (os, ρ)) = zpB ρ (zip2 os) := rfl
@[simp] theorem e_iZip {ρ : Ev} (f : FA) : iZip f ρ = zpA (f ρ) := by
  unfold iZip zpA
  cases f ρ with
  | ok p =>
    simp only [ok_bind]
    cases zip2 p.1 <;> rfl
  | err x ρ' => rfl
  | stuck => rfl
@[simp] theorem zip2_lst (ds es : List D) : zip2 [.val (.lst ds), .val (.lst es)] = some (zipD ds es) := rfl
@[simp] theorem zip2_tup (ds es : List D) : zip2 [.val (.tup ds), .val (.tup es)] = some (zipD ds es) := rfl
end Dl
set_option Elab.async false
set_option linter.all false
set_option maxRecDepth 100000
set_option maxHeartbeats 1000000
namespace Dl
open PySem PySem.Spec L2
open PyProof.Rows hiding St
/-! ## a comprehension of two clauses -/
def lcD2 (p : Pat) (c : FT) (fi1 : FI) (p1 : Pat) (c1 : FT) (e : FE) (vs vs1 : List Nat) : List D → List D → Ev → R (List D × Ev)
  | [], acc, ρ => .ok (acc, ρ)
  | d :: ds, acc, ρ => match p d ρ with
    | none => .stuck
    | some ρ1 => match c ρ1 with
      | .ok (true, ρ2) => match fi1 ρ2 with
        | .ok (ds1, ρ3) => match lcD p1 c1 e vs1 ds1 acc (wipeE ρ3 vs1) with
          | .ok (acc', ρ4) => lcD2 p c fi1 p1 c1 e vs vs1 ds acc' (wipeE ρ4 vs)
          | _ => .stuck
        | _ => .stuck
      | .ok (false, ρ2) => lcD2 p c fi1 p1 c1 e vs vs1 ds acc (wipeE ρ2 vs)
      | _ => .stuck
def cLc2 (p : Pat) (fi : FI) (c : FT) (p1 : Pat) (fi1 : FI) (c1 : FT) (e : FE) (vs vs1 : List Nat) : FE := fun ρ => fi ρ >>= fun q => lcD2 p c fi1 p1 c1 e vs vs1 q.1 [] (wipeE q.2 vs) >>= fun r => .ok (.own r.1, restE q.2 r.2 vs)
section
variable {X : Fam} {T : List (Addr × Str)} {W : WX}
theorem kept_wipe (σ : St) (vs1 : List Nat) : Kept vs1 σ (wipe σ vs1) := ⟨by
  induction vs1 with
  | nil => rfl
  | cons v vs ih => show ((wipe σ vs).set v none).length = _; rw [List.length_set, ih], fun j hj => wipe_get σ vs1 j hj⟩
theorem lc2_run {scope : Scope} {p p1 : Pat} {fi fi1 : FI} {fc fc1 : FT} {fe : FE} {vs vs1 ws ws1 : List Nat} {wi wi1 : TI} {g g1 : TG} {tt tt1 : TT} {te : TE} {σ : St} {F H : Hp} {A : List Addr} {ρ : Ev} {Q : VK} (hws : ∀ i ∈ ws, i ∈ vs) (hws1 : ∀ i ∈ ws1, i ∈ vs1) (hvv : ∀ i ∈ vs1, i ∈ vs) (hnd : vs.Nodup)
    (si : ∀ σ F H A ρ R, At X T F H ρ σ A → Post X.K T W σ F H A (fi ρ) (fun ds ρ' F' H' A' => ∀ J, RepS X.K F' H' ρ' σ A' → Srv X.K T J F' ds → R J H') → wi σ H R)
    (si1 : ∀ σ F H A ρ R, At (blkF X scope) T F H ρ σ A → Post X.K T W0 σ F H A (fi1 ρ) (fun ds ρ' F' H' A' => ∀ J, RepS X.K F' H' ρ' σ A' → Srv X.K T J F' ds → R J H') → wi1 σ H R)
    (sg : PatOk X.K ws p g) (sg1 : PatOk X.K ws1 p1 g1)
    (st : ∀ σ F H A ρ Q, At (blkF X scope) T F H ρ σ A → Post X.K T W0 σ F H A (fc ρ) (fun c ρ' F' H' A' => RepS X.K F' H' ρ' σ A' → Q c H') → tt σ H Q)
    (st1 : ∀ σ F H A ρ Q, At (blkF X scope) T F H ρ σ A → Post X.K T W0 σ F H A (fc1 ρ) (fun c ρ' F' H' A' => RepS X.K F' H' ρ' σ A' → Q c H') → tt1 σ H Q)
    (se : ∀ σ F H A ρ Q, At (blkF X scope) T F H ρ σ A → Post X.K T W0 σ F H A (cO fe ρ) (fun o ρ' F' H' A' => ∀ v, RepS X.K F' H' ρ' σ A' → OpdR X.K F' σ o v → Q v H') → te σ H Q)
    (a : At X T F H ρ σ A) (pp : Post X.K T W σ F H A (cLc2 p fi fc p1 fi1 fc1 fe vs vs1 ρ) (fun b ρ' F' H' A' => ∀ v, RepS X.K F' H' (b :: ρ') (some v :: σ) A' → Q v H')) : tLc2 wi g tt wi1 g1 tt1 te vs vs1 σ H Q := by
  refine si σ F H A ρ _ a ?_
  refine pp.bind.imp fun ds ρ1 F1 H1 A1 g1' p1' J r1 sv Dd nD => ?_
  have at1 : At X T F1 H1 ρ1 σ A1 := a.next g1' r1
  simp only at p1'
  obtain ⟨Aw, rw_, mw⟩ := r1.wiped vs
  obtain ⟨rw1, nDA⟩ := rw_.fresh (o := .lst []) nD
  have g0 : Go T A1 F1 H1 ([Dd] ++ Aw) F1 (upd H1 Dd (.lst [])) := (Go.fresh g1'.sub nD).less fun a m => by
    rcases List.mem_append.mp m with z | z
    · exact List.mem_append_left _ z
    · exact List.mem_append_right _ (mw a z)
  refine ⟨fun i m H' => m = ds.length - i ∧ ∃ F' A' ρ' acc xs, Go T A1 F1 H1 ([Dd] ++ A') F' H' ∧ RepS X.K F' H' ρ' (wipe σ vs) A' ∧ Dd ∉ A' ∧ H' Dd = some (.lst xs) ∧ F' Dd = none ∧ RpL X.K F' acc xs ∧
    Post X.K T W σ F' H' ([Dd] ++ A') (lcD2 p fc fi1 p1 fc1 fe vs vs1 (ds.drop i) acc ρ' >>= fun r => R.ok (B.own r.1, restE ρ1 r.2 vs)) (fun b ρ' F' H' A' => ∀ v, RepS X.K F' H' (b :: ρ') (some v :: σ) A' → Q v H'),
    ⟨ds.length, by simp, F1, Aw, wipeE ρ1 vs, [], [], g0, rw1, nDA, upd_same, fresh_F g1'.sub nD, .nil, by simpa using p1'.after g0⟩, ?_⟩
  rintro i m H' ⟨rfl, F', A', ρ', acc, xs, g', r', nA, eD, nF, ra, p'⟩
  obtain ⟨v1, v2⟩ := sv i F' H' g'.kF g'.sub
  cases q : ds[i]? with
  | none =>
    have hl : ds.length ≤ i := List.getElem?_eq_none_iff.mp q
    rw [List.drop_eq_nil_of_le hl] at p'
    simp only [lcD2, ok_bind] at p'
    refine .inl ⟨v2 hl, ?_⟩
    obtain ⟨A2, r2, m2⟩ := RepS.restore r1 g'.kF vs hnd r'
    have rr : RepS X.K F' H' (B.own acc :: restE ρ1 ρ' vs) (some (V.ref Dd) :: σ) ([Dd] ++ A2) := .cons (ft := [Dd]) ⟨Dd, xs, rfl, rfl, eD, nF, ra⟩ r2 fun a m z => by
      rw [List.mem_singleton] at m
      exact nA (m ▸ m2 a z)
    exact p'.now ((Go.refl g'.sub).less fun a m => by
      rcases List.mem_append.mp m with z | z
      · exact List.mem_append_left _ z
      · exact List.mem_append_right _ (m2 a z)) _ rr
  | some d =>
    obtain ⟨w1, w2⟩ := v1 d q
    obtain ⟨hi', he'⟩ := List.getElem?_eq_some_iff.mp q
    have ed : ds.drop i = d :: ds.drop (i + 1) := by
      rw [← he']
      exact List.drop_eq_getElem_cons hi'
    rw [ed] at p'
    refine .inr ⟨w1, fun H2 => ∃ F2 A2 ρ2 acc xs, Go T A1 F1 H1 ([Dd] ++ A2) F2 H2 ∧ RepS X.K F2 H2 ρ2 (wipe σ vs) A2 ∧ Dd ∉ A2 ∧ H2 Dd = some (.lst xs) ∧ F2 Dd = none ∧ RpL X.K F2 acc xs ∧
      Post X.K T W σ F2 H2 ([Dd] ++ A2) (lcD2 p fc fi1 p1 fc1 fe vs vs1 (ds.drop (i + 1)) acc ρ2 >>= fun r => R.ok (B.own r.1, restE ρ1 r.2 vs)) (fun b ρ' F' H' A' => ∀ v, RepS X.K F' H' (b :: ρ') (some v :: σ) A' → Q v H'), fun H2 n => ⟨ds.length - (i + 1), by omega, rfl, n⟩, fun x H2 y => ?_⟩
    obtain ⟨F2, e2, e3⟩ := w2 x H2 y
    obtain ⟨g2, r2⟩ := e3 A' ρ' (wipe σ vs) r'
    have rD : BRep X.K F' H' (B.own acc) (some (V.ref Dd)) [Dd] := ⟨Dd, xs, rfl, rfl, eD, nF, ra⟩
    have dj : ∀ a ∈ [Dd], a ∉ A' := fun a m z => by
      rw [List.mem_singleton] at m
      exact nA (m ▸ z)
    obtain ⟨rD2, dj2⟩ := g2.keepB rD dj
    simp only [lcD2] at p'
    cases qp : p d ρ' with
    | none =>
      rw [qp] at p'
      exact p'.elim
    | some ρ3 =>
      rw [qp] at p'
      simp only at p'
      refine sg (wipe σ vs) F2 H2 A' ρ' d x ρ3 _ g2.sub r2 e2 qp fun σ3 A3 r3 k3 m3 => ?_
      have ew : wipe σ3 vs = wipe σ vs := (wipe_eq k3 hws).trans (wipe_wipe σ vs)
      refine ⟨ew, ?_⟩
      have g3 : Go T A' F' H' A3 F2 H2 := g2.less m3
      have dj3 : ∀ a ∈ [Dd], a ∉ A3 := fun a m z => dj2 a m (m3 a z)
      have G3 : Go T A1 F1 H1 ([Dd] ++ A3) F2 H2 := g'.trans g3.beside
      refine st σ3 F2 H2 A3 ρ3 _ ⟨g3.sub, (G3.tab at1.tab), r3, trivial, G3.ntb at1.ntb⟩ ?_
      cases qc : fc ρ3 with
      | stuck =>
        rw [qc] at p'
        exact p'.elim
      | err z ρ4 =>
        rw [qc] at p'
        exact p'.elim
      | ok z =>
        obtain ⟨c, ρ4⟩ := z
        rw [qc] at p'
        intro F4 H4 A4 g4 r4
        obtain ⟨rD4, dj4⟩ := g4.keepB rD2 dj3
        have G4 : Go T A1 F1 H1 ([Dd] ++ A4) F4 H4 := G3.trans g4.beside
        have g34 : Go T ([Dd] ++ A') F' H' ([Dd] ++ A4) F4 H4 := (g3.trans g4).beside
        cases c with
        | false =>
          refine iteF ?_
          simp only at p'
          obtain ⟨A5, r5, m5⟩ := r4.wiped vs
          rw [ew] at r5
          obtain ⟨l4, xs4, e4, ef4, el4, nl4, rl4⟩ := rD4
          cases e4
          refine ⟨F4, A5, wipeE ρ4 vs, acc, xs4, G4.less ?_, r5, fun z => dj4 Dd (by simp) (m5 _ z), el4, nl4, rl4, (p'.after (g34.less ?_))⟩ <;>
          · intro b m
            rcases List.mem_append.mp m with z | z
            · exact List.mem_append_left _ z
            · exact List.mem_append_right _ (m5 b z)
        | true =>
          refine iteT ?_
          simp only at p'
          refine si1 σ3 F4 H4 A4 ρ4 _ ⟨g4.sub, G4.tab at1.tab, r4, trivial, G4.ntb at1.ntb⟩ ?_
          cases qi : fi1 ρ4 with
          | stuck =>
            rw [qi] at p'
            exact p'.elim
          | err z ρ5 =>
            rw [qi] at p'
            exact p'.elim
          | ok z =>
            obtain ⟨ds1, ρ5⟩ := z
            rw [qi] at p'
            simp only at p'
            intro F5 H5 A5 g5 J1 r5 sv1
            obtain ⟨rD5, dj5⟩ := g5.keepB rD4 dj4
            have G5 : Go T A1 F1 H1 ([Dd] ++ A5) F5 H5 := G4.trans g5.beside
            have g35 : Go T ([Dd] ++ A') F' H' ([Dd] ++ A5) F5 H5 := g34.trans g5.beside
            obtain ⟨B5, rw5, mw5⟩ := r5.wiped vs1
            obtain ⟨l5, xs5, e5, ef5, el5, nl5, rl5⟩ := rD5
            cases e5
            have shr : ∀ b ∈ [Dd] ++ B5, b ∈ [Dd] ++ A5 := fun b m => by
              rcases List.mem_append.mp m with z | z
              · exact List.mem_append_left _ z
              · exact List.mem_append_right _ (mw5 b z)
            have ewv : ∀ σ' : St, wipe (wipe σ' vs1) vs = wipe σ' vs := fun σ' => wipe_eq (kept_wipe σ' vs1) hvv
            refine ⟨fun j k H' => k = ds1.length - j ∧ ∃ F' A' ρ' acc xs, Go T A1 F1 H1 ([Dd] ++ A') F' H' ∧ Sub F5 F' ∧ RepS X.K F' H' ρ' (wipe σ3 vs1) A' ∧ Dd ∉ A' ∧ H' Dd = some (.lst xs) ∧ F' Dd = none ∧ RpL X.K F' acc xs ∧
              Post X.K T W σ F' H' ([Dd] ++ A') ((match lcD p1 fc1 fe vs1 (ds1.drop j) acc ρ' with | .ok (acc', ρ4) => lcD2 p fc fi1 p1 fc1 fe vs vs1 (ds.drop (i + 1)) acc' (wipeE ρ4 vs) | _ => .stuck) >>= fun r => R.ok (B.own r.1, restE ρ1 r.2 vs)) (fun b ρ' F' H' A' => ∀ v, RepS X.K F' H' (b :: ρ') (some v :: σ) A' → Q v H'),
              ⟨ds1.length, by simp, F5, B5, wipeE ρ5 vs1, acc, xs5, G5.less shr, Sub.refl F5, rw5, fun z => dj5 Dd (by simp) (mw5 _ z), el5, nl5, rl5, by simpa using p'.after (g35.less shr)⟩, ?_⟩
            clear p'
            rintro j k H6 ⟨rfl, F6, A6, ρ6, acc6, xs6, G6, s6, r6, nA6, eD6, nF6, ra6, p6⟩
            obtain ⟨u1, u2⟩ := sv1 j F6 H6 s6 G6.sub
            cases qj : ds1[j]? with
            | none =>
              have hl : ds1.length ≤ j := List.getElem?_eq_none_iff.mp qj
              rw [List.drop_eq_nil_of_le hl] at p6
              simp only [lcD] at p6
              obtain ⟨A7, r7, m7⟩ := r6.wiped vs
              rw [ewv, ew] at r7
              have shr7 : ∀ b ∈ [Dd] ++ A7, b ∈ [Dd] ++ A6 := fun b m => by
                rcases List.mem_append.mp m with z | z
                · exact List.mem_append_left _ z
                · exact List.mem_append_right _ (m7 b z)
              exact .inl ⟨u2 hl, F6, A7, wipeE ρ6 vs, acc6, xs6, G6.less shr7, r7, fun z => nA6 (m7 _ z), eD6, nF6, ra6, p6.after ((Go.refl G6.sub).less shr7)⟩
            | some d1 =>
              obtain ⟨y1, y2⟩ := u1 d1 qj
              obtain ⟨hj', hd'⟩ := List.getElem?_eq_some_iff.mp qj
              have ed1 : ds1.drop j = d1 :: ds1.drop (j + 1) := by
                rw [← hd']
                exact List.drop_eq_getElem_cons hj'
              rw [ed1] at p6
              refine .inr ⟨y1, fun H' => ∃ F' A' ρ' acc xs, Go T A1 F1 H1 ([Dd] ++ A') F' H' ∧ Sub F5 F' ∧ RepS X.K F' H' ρ' (wipe σ3 vs1) A' ∧ Dd ∉ A' ∧ H' Dd = some (.lst xs) ∧ F' Dd = none ∧ RpL X.K F' acc xs ∧
                Post X.K T W σ F' H' ([Dd] ++ A') ((match lcD p1 fc1 fe vs1 (ds1.drop (j + 1)) acc ρ' with | .ok (acc', ρ4) => lcD2 p fc fi1 p1 fc1 fe vs vs1 (ds.drop (i + 1)) acc' (wipeE ρ4 vs) | _ => .stuck) >>= fun r => R.ok (B.own r.1, restE ρ1 r.2 vs)) (fun b ρ' F' H' A' => ∀ v, RepS X.K F' H' (b :: ρ') (some v :: σ) A' → Q v H'), fun H' n => ⟨ds1.length - (j + 1), by omega, rfl, n⟩, fun x1 H7 y7 => ?_⟩
              obtain ⟨F7, z2, z3⟩ := y2 x1 H7 y7
              obtain ⟨g7, r7⟩ := z3 A6 ρ6 (wipe σ3 vs1) r6
              have rD6 : BRep X.K F6 H6 (B.own acc6) (some (V.ref Dd)) [Dd] := ⟨Dd, xs6, rfl, rfl, eD6, nF6, ra6⟩
              have dj6 : ∀ a ∈ [Dd], a ∉ A6 := fun a m z => by
                rw [List.mem_singleton] at m
                exact nA6 (m ▸ z)
              obtain ⟨rD7, dj7⟩ := g7.keepB rD6 dj6
              simp only [lcD] at p6
              cases qp1 : p1 d1 ρ6 with
              | none =>
                rw [qp1] at p6
                exact p6.elim
              | some ρ8 =>
                rw [qp1] at p6
                simp only at p6
                refine sg1 (wipe σ3 vs1) F7 H7 A6 ρ6 d1 x1 ρ8 _ g7.sub r7 z2 qp1 fun σ8 A8 r8 k8 m8 => ?_
                have ew8 : wipe σ8 vs1 = wipe σ3 vs1 := (wipe_eq k8 hws1).trans (wipe_wipe σ3 vs1)
                refine ⟨ew8, ?_⟩
                have g8 : Go T A6 F6 H6 A8 F7 H7 := g7.less m8
                have dj8 : ∀ a ∈ [Dd], a ∉ A8 := fun a m z => dj7 a m (m8 a z)
                have G8 : Go T A1 F1 H1 ([Dd] ++ A8) F7 H7 := G6.trans g8.beside
                refine st1 σ8 F7 H7 A8 ρ8 _ ⟨g8.sub, (G8.tab at1.tab), r8, trivial, G8.ntb at1.ntb⟩ ?_
                cases qc1 : fc1 ρ8 with
                | stuck =>
                  rw [qc1] at p6
                  exact p6.elim
                | err z ρ9 =>
                  rw [qc1] at p6
                  exact p6.elim
                | ok z =>
                  obtain ⟨c9, ρ9⟩ := z
                  rw [qc1] at p6
                  intro F9 H9 A9 g9 r9
                  obtain ⟨rD9, dj9⟩ := g9.keepB rD7 dj8
                  have G9 : Go T A1 F1 H1 ([Dd] ++ A9) F9 H9 := G8.trans g9.beside
                  have g89 : Go T ([Dd] ++ A6) F6 H6 ([Dd] ++ A9) F9 H9 := (g8.trans g9).beside
                  cases c9 with
                  | false =>
                    refine iteF ?_
                    simp only at p6
                    obtain ⟨A10, r10, m10⟩ := r9.wiped vs1
                    rw [ew8] at r10
                    obtain ⟨l9, xs9, e9, ef9, el9, nl9, rl9⟩ := rD9
                    cases e9
                    refine ⟨F9, A10, wipeE ρ9 vs1, acc6, xs9, G9.less ?_, s6.trans g89.kF, r10, fun z => dj9 Dd (by simp) (m10 _ z), el9, nl9, rl9, (p6.after (g89.less ?_))⟩ <;>
                    · intro b m
                      rcases List.mem_append.mp m with z | z
                      · exact List.mem_append_left _ z
                      · exact List.mem_append_right _ (m10 b z)
                  | true =>
                    refine iteT ?_
                    simp only at p6
                    refine se σ8 F9 H9 A9 ρ9 _ ⟨g9.sub, G9.tab at1.tab, r9, trivial, G9.ntb at1.ntb⟩ ?_
                    cases qe : cO fe ρ9 with
                    | stuck =>
                      rw [qe] at p6
                      exact p6.elim
                    | err z ρ10 =>
                      rw [qe] at p6
                      exact p6.elim
                    | ok z =>
                      obtain ⟨o, ρ10⟩ := z
                      rw [qe] at p6
                      cases o with
                      | var _ => exact p6.elim
                      | val d' =>
                        simp only at p6
                        intro F10 H10 A10 g10 v r10 o10
                        obtain ⟨rD10, dj10⟩ := g10.keepB rD9 dj9
                        obtain ⟨l10, xs10, e10, ef10, el10, nl10, rl10⟩ := rD10
                        cases e10
                        by_cases hsz : acc6.length < sizeLine
                        · rw [if_pos hsz] at p6
                          refine ⟨xs10, el10, by rw [← rl10.length]; exact hsz, ?_⟩
                          obtain ⟨A11, r11, m11⟩ := r10.wiped vs1
                          rw [ew8] at r11
                          have nD11 : Dd ∉ A11 := fun z => dj10 Dd (by simp) (m11 _ z)
                          have gw : Go T ([Dd] ++ A10) F10 H10 ([Dd] ++ A10) F10 (upd H10 Dd (.lst (xs10 ++ [v]))) := Go.write g10.sub (by simp) nl10 el10 (fun _ z => by cases z) (fun _ z => by cases z)
                          have G11 : Go T A1 F1 H1 ([Dd] ++ A10) F10 (upd H10 Dd (.lst (xs10 ++ [v]))) := (G9.trans g10.beside).trans gw
                          have g11 : Go T ([Dd] ++ A6) F6 H6 ([Dd] ++ A10) F10 (upd H10 Dd (.lst (xs10 ++ [v]))) := (g89.trans g10.beside).trans gw
                          have r12 : RepS X.K F10 (upd H10 Dd (.lst (xs10 ++ [v]))) (wipeE ρ10 vs1) (wipe σ3 vs1) A11 := r11.stab (Sub.refl F10) (fun a m => upd_ne fun z => nD11 (by rw [← z]; exact m)) (fun a m => (r11.live a m).2)
                          refine ⟨F10, A11, wipeE ρ10 vs1, acc6 ++ [d'], xs10 ++ [v], G11.less ?_, s6.trans g11.kF, r12, nD11, upd_same, nl10, rl10.append (.cons o10 .nil), (p6.after (g11.less ?_))⟩ <;>
                          · intro b m
                            rcases List.mem_append.mp m with z | z
                            · exact List.mem_append_left _ z
                            · exact List.mem_append_right _ (m11 b z)
                        · rw [if_neg hsz] at p6
                          exact p6.elim
/-- y = [..], of two clauses -/
theorem ds_setLc2 (i : Nat) {P : List Nat} {y : Str} {py : Pos} {elt tg iter tg1 iter1 : Expr} {ifs ifs1 : List Expr} {scope : Scope} {p p1 : Pat} {fi fi1 : FI} {fc fc1 : FT} {fe : FE} {ws ws1 : List Nat} {pos spos : Pos} (own : List (Str × Nat)) (vs1 : List Nat) (hP : i ∉ P) (hc : ∀ i, (X.at_ i).calm = true) (hN : ∀ i, (X.at_ i).N.Nodup) (hi : DI X T W tg iter fi) (ok : ∀ i, BlkOk (X.at_ i).N (X.at_ i).env.scope scope own)
    (hg : DG (blkF X scope) ws tg p) (ht : DTs (blkF X scope) T W0 ifs fc) (hi1 : DI (blkF X scope) T W0 tg1 iter1 fi1) (hg1 : DG (blkF X scope) ws1 tg1 p1) (ht1 : DTs (blkF X scope) T W0 ifs1 fc1) (he : DE (blkF X scope) T W0 elt fe) (hy : ∀ j, (X.at_ j).N[i]? = some y := by intro _; rfl) (hyl : ∀ j, (X.at_ j).env.scope.names.lookup y = some .local := by intro _; rfl)
    (hsw : ∀ j, swapsWith (.ListComp elt [⟨tg, iter, ifs, 0⟩, ⟨tg1, iter1, ifs1, 0⟩] scope pos) (some (.Name y py)) spos.line (X.at_ j).env = pure true := by intro _; exact sw_true rfl rfl rfl (by decide +kernel))
    (hws : ∀ i ∈ ws, i ∈ own.map (·.2) := by decide) (hws1 : ∀ i ∈ ws1, i ∈ vs1 := by decide) (hvv : ∀ i ∈ vs1, i ∈ own.map (·.2) := by decide) (hnd : (own.map (·.2)).Nodup := by decide) (hs : ∀ i x, foldedSetIterable iter (X.at_ i).env x = pure x := by intro _ _; rfl) (hs1 : ∀ env x, foldedSetIterable iter1 env x = pure x := by intro _ _; rfl) :
    DS X T W P (.Assign [.Name y py] (.ListComp elt [⟨tg, iter, ifs, 0⟩, ⟨tg1, iter1, ifs1, 0⟩] scope pos) spos) (sSet i (cLc2 p fi fc p1 fi1 fc1 fe (own.map (·.2)) vs1)) := by
  obtain ⟨wi, pi, si⟩ := hi
  obtain ⟨wi1, pi1, si1⟩ := hi1
  obtain ⟨g, pg, sg⟩ := hg
  obtain ⟨g1, pg1, sg1⟩ := hg1
  obtain ⟨tt, pt, st⟩ := ht
  obtain ⟨tt1, pt1, st1⟩ := ht1
  obtain ⟨te, pe, se⟩ := do_e he
  refine ⟨_, fun j => ps_setLc2 (hc j) (hN j) (hy j) (hyl j) (hsw j) (pi j) (ok j) hvv (fun s H C cl fp => pg (j, s, H, C, cl, fp)) (fun s H C cl fp => pt (j, s, H, C, cl, fp)) (fun s H C cl fp => pi1 (j, s, H, C, cl, fp)) (fun s H C cl fp => pg1 (j, s, H, C, cl, fp)) (fun s H C cl fp => pt1 (j, s, H, C, cl, fp)) (fun s H C cl fp => pe (j, s, H, C, cl, fp)) (hs j) hs1, fun hps σ F H A ρ E a pp => ?_⟩
  refine lc2_run (Q := fun x H1 => gName i x σ H1 E.nx) hws hws1 hvv hnd si si1 sg sg1 st st1 se a ?_
  refine pp.out.imp fun b ρ1 F1 H1 A1 g1 p1 v r => ?_
  obtain ⟨A2, r2, m⟩ := r.store (i := i)
  exact p1.nowN ((Go.refl g1.sub).less m) r2 (Keep.set hP)
end
end Dl
set_option Elab.async false
set_option linter.all false
set_option maxRecDepth 100000
set_option maxHeartbeats 1000000
namespace Dl
open PySem PySem.Spec L2
open PyProof.Rows hiding St
/-! ## places within what is owned -/
inductive Stp where
  | f (n : Str)
  | k (k : Key)
  | i (n : Nat)
  | t (n : Nat)
def lookK (kvs : List (Key × O)) (k : Key) : Option O := (kvs.find? fun kv => decide (kv.1 = k)).map (·.2)
def modF (n : Str) (x : O) : List (Str × O) → List (Str × O)
  | [] => []
  | (m, o) :: r => if (n == m) = true then (m, x) :: r else (m, o) :: modF n x r
def modK (k : Key) (x : O) : List (Key × O) → List (Key × O)
  | [] => []
  | (m, o) :: r => if m = k then (m, x) :: r else (m, o) :: modK k x r
def subO : List Stp → O → Option O
  | [], o => some o
  | .f n :: p, .ins _ fs => (lookO fs n).bind (subO p)
  | .k k :: p, .dk kvs => (lookK kvs k).bind (subO p)
  | .i n :: p, .lst os => (os[n]?).bind (subO p)
  | .t n :: p, .tup os => (os[n]?).bind (subO p)
  | _, _ => none
/-- x put in the place -/
def putAt : List Stp → O → O → O
  | [], x, _ => x
  | .f n :: p, x, .ins c fs => match lookO fs n with
    | some o => .ins c (modF n (putAt p x o) fs)
    | none => .ins c fs
  | .k k :: p, x, .dk kvs => match lookK kvs k with
    | some o => .dk (modK k (putAt p x o) kvs)
    | none => .dk kvs
  | .i n :: p, x, .lst os => match os[n]? with
    | some o => .lst (os.set n (putAt p x o))
    | none => .lst os
  | .t n :: p, x, .tup os => match os[n]? with
    | some o => .tup (os.set n (putAt p x o))
    | none => .tup os
  | _, _, o => o
/-- the value at a place -/
def VAt (H : Hp) : List Stp → V → V → Prop
  | [], v, w => v = w
  | .f n :: p, v, w => ∃ a C dx ys u, v = .ref a ∧ H a = some (.ins C dx ys) ∧ ys.lookup n = some u ∧ VAt H p u w
  | .k k :: p, v, w => ∃ a ys u, v = .ref a ∧ H a = some (.dK ys) ∧ valV ys k = some u ∧ VAt H p u w
  | .i n :: p, v, w => ∃ a ys u, v = .ref a ∧ H a = some (.lst ys) ∧ ys[n]? = some u ∧ VAt H p u w
  | .t n :: p, v, w => ∃ a ys u, v = .ref a ∧ H a = some (.tup ys) ∧ ys[n]? = some u ∧ VAt H p u w
theorem VAt.one {H : Hp} : ∀ {p : List Stp} {v w w' : V}, VAt H p v w → VAt H p v w' → w = w'
  | [], v, w, w', h, h' => (show v = w from h).symm.trans h'
  | .f n :: p, v, w, w', h, h' => by
    obtain ⟨a, C, dx, ys, u, rfl, e, l, r⟩ := h
    obtain ⟨a', C', dx', ys', u', e1, e', l', r'⟩ := h'
    cases e1
    rw [e] at e'
    cases e'
    rw [l] at l'
    cases l'
    exact r.one r'
  | .k n :: p, v, w, w', h, h' => by
    obtain ⟨a, ys, u, rfl, e, l, r⟩ := h
    obtain ⟨a', ys', u', e1, e', l', r'⟩ := h'
    cases e1
    rw [e] at e'
    cases e'
    rw [l] at l'
    cases l'
    exact r.one r'
  | .i n :: p, v, w, w', h, h' => by
    obtain ⟨a, ys, u, rfl, e, l, r⟩ := h
    obtain ⟨a', ys', u', e1, e', l', r'⟩ := h'
    cases e1
    rw [e] at e'
    cases e'
    rw [l] at l'
    cases l'
    exact r.one r'
  | .t n :: p, v, w, w', h, h' => by
    obtain ⟨a, ys, u, rfl, e, l, r⟩ := h
    obtain ⟨a', ys', u', e1, e', l', r'⟩ := h'
    cases e1
    rw [e] at e'
    cases e'
    rw [l] at l'
    cases l'
    exact r.one r'
/-- nothing that stood there changed -/
def Ext (H H' : Hp) : Prop := ∀ a o, H a = some o → (∀ ps, o ≠ .tbl ps) → H' a = some o
theorem Ext.refl (H : Hp) : Ext H H := fun _ _ e _ => e
theorem Ext.trans {H H1 H2 : Hp} (a : Ext H H1) (b : Ext H1 H2) : Ext H H2 := fun x o e n => b x o (a x o e n) n
theorem VAt.ext {H H' : Hp} (x : Ext H H') : ∀ {p : List Stp} {v w : V}, VAt H p v w → VAt H' p v w
  | [], v, w, h => h
  | .f n :: p, v, w, h => by
    obtain ⟨a, C, dx, ys, u, rfl, e, l, r⟩ := h
    exact ⟨a, C, dx, ys, u, rfl, x _ _ e (fun _ z => by cases z), l, r.ext x⟩
  | .k n :: p, v, w, h => by
    obtain ⟨a, ys, u, rfl, e, l, r⟩ := h
    exact ⟨a, ys, u, rfl, x _ _ e (fun _ z => by cases z), l, r.ext x⟩
  | .i n :: p, v, w, h => by
    obtain ⟨a, ys, u, rfl, e, l, r⟩ := h
    exact ⟨a, ys, u, rfl, x _ _ e (fun _ z => by cases z), l, r.ext x⟩
  | .t n :: p, v, w, h => by
    obtain ⟨a, ys, u, rfl, e, l, r⟩ := h
    exact ⟨a, ys, u, rfl, x _ _ e (fun _ z => by cases z), l, r.ext x⟩
section
variable {K : PySem.W.Frag} {F H : Hp}
/-- how a part is put back -/
def Back (K : PySem.W.Frag) (F H : Hp) (A A1 : List Addr) (u : V) (P : Hp → Hp → O → List Addr → Prop) : Prop :=
  ∀ {F2 H2 : Hp} {x : O} {A2 : List Addr}, Sub F F2 → (∀ a ∈ A, a ∉ A1 → H2 a = H a) → (∀ a ∈ A, a ∉ A1 → F2 a = none) → ORep K F2 H2 x u A2 → (∀ a ∈ A2, a ∈ A → a ∈ A1) → ∃ A3, P F2 H2 x A3 ∧ ∀ a ∈ A3, a ∈ A2 ∨ (a ∈ A ∧ a ∉ A1)
theorem focF {n : Str} : ∀ {fs : List (Str × O)} {ys : List (Str × V)} {A : List Addr} {o : O}, ORepF K F H fs ys A → lookO fs n = some o → ∃ u A1, ys.lookup n = some u ∧ ORep K F H o u A1 ∧ (∀ a ∈ A1, a ∈ A) ∧ Back K F H A A1 u fun F2 H2 x A3 => ORepF K F2 H2 (modF n x fs) ys A3
  | [], ys, A, o, h, e => by cases e
  | (g, o0) :: fs, ys, A, o, h, e => by
    unfold ORepF at h
    obtain ⟨v, ws, A1, A2, rfl, rfl, dj, h1, h2⟩ := h
    unfold lookO at e
    rw [List.lookup_cons] at e
    by_cases q : (n == g) = true
    · rw [q] at e
      cases e
      refine ⟨v, A1, by rw [List.lookup_cons, q], h1, fun a m => List.mem_append_left _ m, fun {F2 H2 x B} s k kf r d => ?_⟩
      have nA : ∀ a ∈ A2, a ∉ A1 := fun a m z => dj a z m
      refine ⟨B ++ A2, ?_, fun a m => ?_⟩
      · unfold modF
        simp only []
        rw [if_pos q]
        unfold ORepF
        exact ⟨v, ws, B, A2, rfl, rfl, fun a m z => dj a (d a m (List.mem_append_right _ z)) z, r, O.stabF fs h2 s (fun a m => k a (List.mem_append_right _ m) (nA a m)) fun a m => kf a (List.mem_append_right _ m) (nA a m)⟩
      · rcases List.mem_append.mp m with m | m
        · exact .inl m
        · exact .inr ⟨List.mem_append_right _ m, nA a m⟩
    · have q' : (n == g) = false := by simpa using q
      rw [q'] at e
      obtain ⟨u, B1, l, r0, sb, bk⟩ := focF h2 e
      have nA : ∀ a ∈ A1, a ∉ B1 := fun a m z => dj a m (sb a z)
      refine ⟨u, B1, by rw [List.lookup_cons, q']; exact l, r0, fun a m => List.mem_append_right _ (sb a m), fun {F2 H2 x B} s k kf r d => ?_⟩
      obtain ⟨A3, r3, m3⟩ := bk s (fun a m z => k a (List.mem_append_right _ m) z) (fun a m z => kf a (List.mem_append_right _ m) z) r fun a m z => d a m (List.mem_append_right _ z)
      refine ⟨A1 ++ A3, ?_, fun a m => ?_⟩
      · unfold modF
        simp only []
        rw [if_neg q]
        unfold ORepF
        refine ⟨v, ws, A1, A3, rfl, rfl, fun a m z => ?_, O.stab o0 h1 s (fun a m => k a (List.mem_append_left _ m) (nA a m)) fun a m => kf a (List.mem_append_left _ m) (nA a m), r3⟩
        rcases m3 a z with y | y
        · exact nA a m (d a y (List.mem_append_left _ m))
        · exact dj a m y.1
      · rcases List.mem_append.mp m with m | m
        · exact .inr ⟨List.mem_append_left _ m, nA a m⟩
        · exact (m3 a m).imp id fun y => ⟨List.mem_append_right _ y.1, y.2⟩
theorem focK {n : Key} : ∀ {fs : List (Key × O)} {ys : List (Key × V)} {A : List Addr} {o : O}, ORepK K F H fs ys A → lookK fs n = some o → ∃ u A1, valV ys n = some u ∧ ORep K F H o u A1 ∧ (∀ a ∈ A1, a ∈ A) ∧ Back K F H A A1 u fun F2 H2 x A3 => ORepK K F2 H2 (modK n x fs) ys A3
  | [], ys, A, o, h, e => by cases e
  | (g, o0) :: fs, ys, A, o, h, e => by
    unfold ORepK at h
    obtain ⟨v, ws, A1, A2, rfl, rfl, dj, h1, h2⟩ := h
    by_cases q : g = n
    · have e' : o0 = o := by simpa [lookK, q] using e
      subst e'
      refine ⟨v, A1, by simp [valV, q], h1, fun a m => List.mem_append_left _ m, fun {F2 H2 x B} s k kf r d => ?_⟩
      have nA : ∀ a ∈ A2, a ∉ A1 := fun a m z => dj a z m
      refine ⟨B ++ A2, ?_, fun a m => ?_⟩
      · unfold modK
        simp only []
        rw [if_pos q]
        unfold ORepK
        exact ⟨v, ws, B, A2, rfl, rfl, fun a m z => dj a (d a m (List.mem_append_right _ z)) z, r, O.stabK fs h2 s (fun a m => k a (List.mem_append_right _ m) (nA a m)) fun a m => kf a (List.mem_append_right _ m) (nA a m)⟩
      · rcases List.mem_append.mp m with m | m
        · exact .inl m
        · exact .inr ⟨List.mem_append_right _ m, nA a m⟩
    · have e' : lookK fs n = some o := by simpa [lookK, q] using e
      obtain ⟨u, B1, l, r0, sb, bk⟩ := focK h2 e'
      have nA : ∀ a ∈ A1, a ∉ B1 := fun a m z => dj a m (sb a z)
      have l' : valV ((g, v) :: ws) n = some u := by
        rw [← l]
        simp [valV, q]
      refine ⟨u, B1, l', r0, fun a m => List.mem_append_right _ (sb a m), fun {F2 H2 x B} s k kf r d => ?_⟩
      obtain ⟨A3, r3, m3⟩ := bk s (fun a m z => k a (List.mem_append_right _ m) z) (fun a m z => kf a (List.mem_append_right _ m) z) r fun a m z => d a m (List.mem_append_right _ z)
      refine ⟨A1 ++ A3, ?_, fun a m => ?_⟩
      · unfold modK
        simp only []
        rw [if_neg q]
        unfold ORepK
        refine ⟨v, ws, A1, A3, rfl, rfl, fun a m z => ?_, O.stab o0 h1 s (fun a m => k a (List.mem_append_left _ m) (nA a m)) fun a m => kf a (List.mem_append_left _ m) (nA a m), r3⟩
        rcases m3 a z with y | y
        · exact nA a m (d a y (List.mem_append_left _ m))
        · exact dj a m y.1
      · rcases List.mem_append.mp m with m | m
        · exact .inr ⟨List.mem_append_left _ m, nA a m⟩
        · exact (m3 a m).imp id fun y => ⟨List.mem_append_right _ y.1, y.2⟩
theorem focL : ∀ {n : Nat} {fs : List O} {ys : List V} {A : List Addr} {o : O}, ORepL K F H fs ys A → fs[n]? = some o → ∃ u A1, ys[n]? = some u ∧ ORep K F H o u A1 ∧ (∀ a ∈ A1, a ∈ A) ∧ Back K F H A A1 u fun F2 H2 x A3 => ORepL K F2 H2 (fs.set n x) ys A3
  | n, [], ys, A, o, h, e => by simp at e
  | 0, o0 :: fs, ys, A, o, h, e => by
    unfold ORepL at h
    obtain ⟨v, ws, A1, A2, rfl, rfl, dj, h1, h2⟩ := h
    have e' : o0 = o := by simpa using e
    subst e'
    refine ⟨v, A1, rfl, h1, fun a m => List.mem_append_left _ m, fun {F2 H2 x B} s k kf r d => ?_⟩
    have nA : ∀ a ∈ A2, a ∉ A1 := fun a m z => dj a z m
    refine ⟨B ++ A2, ?_, fun a m => ?_⟩
    · simp only []
      rw [List.set_cons_zero]
      unfold ORepL
      exact ⟨v, ws, B, A2, rfl, rfl, fun a m z => dj a (d a m (List.mem_append_right _ z)) z, r, O.stabL fs h2 s (fun a m => k a (List.mem_append_right _ m) (nA a m)) fun a m => kf a (List.mem_append_right _ m) (nA a m)⟩
    · rcases List.mem_append.mp m with m | m
      · exact .inl m
      · exact .inr ⟨List.mem_append_right _ m, nA a m⟩
  | n + 1, o0 :: fs, ys, A, o, h, e => by
    unfold ORepL at h
    obtain ⟨v, ws, A1, A2, rfl, rfl, dj, h1, h2⟩ := h
    obtain ⟨u, B1, l, r0, sb, bk⟩ := focL (n := n) h2 (by simpa using e)
    have nA : ∀ a ∈ A1, a ∉ B1 := fun a m z => dj a m (sb a z)
    refine ⟨u, B1, by simpa using l, r0, fun a m => List.mem_append_right _ (sb a m), fun {F2 H2 x B} s k kf r d => ?_⟩
    obtain ⟨A3, r3, m3⟩ := bk s (fun a m z => k a (List.mem_append_right _ m) z) (fun a m z => kf a (List.mem_append_right _ m) z) r fun a m z => d a m (List.mem_append_right _ z)
    refine ⟨A1 ++ A3, ?_, fun a m => ?_⟩
    · simp only []
      rw [List.set_cons_succ]
      unfold ORepL
      refine ⟨v, ws, A1, A3, rfl, rfl, fun a m z => ?_, O.stab o0 h1 s (fun a m => k a (List.mem_append_left _ m) (nA a m)) fun a m => kf a (List.mem_append_left _ m) (nA a m), r3⟩
      rcases m3 a z with y | y
      · exact nA a m (d a y (List.mem_append_left _ m))
      · exact dj a m y.1
    · rcases List.mem_append.mp m with m | m
      · exact .inr ⟨List.mem_append_left _ m, nA a m⟩
      · exact (m3 a m).imp id fun y => ⟨List.mem_append_right _ y.1, y.2⟩
/-- the part at a place, and how another one is put there -/
theorem focus (su : Sub F H) : ∀ {p : List Stp} {o o' : O} {v : V} {A : List Addr}, ORep K F H o v A → subO p o = some o' → ∃ w A1, VAt H p v w ∧ ORep K F H o' w A1 ∧ (∀ a ∈ A1, a ∈ A) ∧ Back K F H A A1 w fun F2 H2 x A3 => ORep K F2 H2 (putAt p x o) v A3
  | [], o, o', v, A, h, e => by
    cases e
    exact ⟨v, A, rfl, h, fun a m => m, fun {F2 H2 x B} s k kf r d => ⟨B, r, fun a m => .inl m⟩⟩
  | .f n :: p, o, o', v, A, h, e => by
    cases o with
    | ins c fs =>
      have e2 : (lookO fs n).bind (subO p) = some o' := e
      obtain ⟨o1, l1, e3⟩ := Option.bind_eq_some_iff.mp e2
      unfold ORep at h
      obtain ⟨l, C, dx, xs, A0, rfl, rfl, nc, el, ed, fl, fd, ne, d1, d2, r⟩ := h
      obtain ⟨u, A1, lu, r1, s1, bk1⟩ := focF r l1
      obtain ⟨w, A2, va, r2, s2, bk2⟩ := focus su r1 e3
      have in0 : ∀ a ∈ A2, a ∈ A0 := fun a m => s1 a (s2 a m)
      have nl : l ∉ A2 := fun z => d1 (in0 l z)
      have nd : dx ∉ A2 := fun z => d2 (in0 dx z)
      refine ⟨w, A2, ⟨l, C, dx, xs, u, rfl, el, lu, va⟩, r2, fun a m => List.mem_cons_of_mem _ (List.mem_cons_of_mem _ (in0 a m)), fun {F2 H2 x B} s k kf rx dB => ?_⟩
      have k0 : ∀ a ∈ A0, a ∉ A2 → H2 a = H a := fun a m z => k a (List.mem_cons_of_mem _ (List.mem_cons_of_mem _ m)) z
      have kf0 : ∀ a ∈ A0, a ∉ A2 → F2 a = none := fun a m z => kf a (List.mem_cons_of_mem _ (List.mem_cons_of_mem _ m)) z
      have dB0 : ∀ a ∈ B, a ∈ A0 → a ∈ A2 := fun a m z => dB a m (List.mem_cons_of_mem _ (List.mem_cons_of_mem _ z))
      obtain ⟨A3, r3, m3⟩ := bk2 s (fun a m z => k0 a (s1 a m) z) (fun a m z => kf0 a (s1 a m) z) rx fun a m z => dB0 a m (s1 a z)
      obtain ⟨A4, r4, m4⟩ := bk1 s (fun a m z => k0 a m fun y => z (s2 a y)) (fun a m z => kf0 a m fun y => z (s2 a y)) r3 fun a m z => by
        rcases m3 a m with y | y
        · exact s2 a (dB0 a y z)
        · exact y.1
      have in4 : ∀ a ∈ A4, a ∈ B ∨ (a ∈ A0 ∧ a ∉ A2) := fun a m => by
        rcases m4 a m with y | y
        · rcases m3 a y with y | y
          · exact .inl y
          · exact .inr ⟨s1 a y.1, y.2⟩
        · exact .inr ⟨y.1, fun z => y.2 (s2 a z)⟩
      refine ⟨l :: dx :: A4, ?_, fun a m => ?_⟩
      · show ORep K F2 H2 (match lookO fs n with | some o => .ins c (modF n (putAt p x o) fs) | none => .ins c fs) _ _
        rw [l1]
        unfold ORep
        refine ⟨l, C, dx, xs, A4, rfl, rfl, nc, (k l List.mem_cons_self nl).trans el, (k dx (List.mem_cons_of_mem _ List.mem_cons_self) nd).trans ed, kf l List.mem_cons_self nl, kf dx (List.mem_cons_of_mem _ List.mem_cons_self) nd, ne, fun z => ?_, fun z => ?_, r4⟩
        · rcases in4 l z with y | y
          · exact nl (dB l y List.mem_cons_self)
          · exact d1 y.1
        · rcases in4 dx z with y | y
          · exact nd (dB dx y (List.mem_cons_of_mem _ List.mem_cons_self))
          · exact d2 y.1
      · rcases List.mem_cons.mp m with rfl | m
        · exact .inr ⟨List.mem_cons_self, nl⟩
        · rcases List.mem_cons.mp m with rfl | m
          · exact .inr ⟨List.mem_cons_of_mem _ List.mem_cons_self, nd⟩
          · exact (in4 a m).imp id fun y => ⟨List.mem_cons_of_mem _ (List.mem_cons_of_mem _ y.1), y.2⟩
    | _ => cases e
  | .k n :: p, o, o', v, A, h, e => by
    cases o with
    | dk fs =>
      have e2 : (lookK fs n).bind (subO p) = some o' := e
      obtain ⟨o1, l1, e3⟩ := Option.bind_eq_some_iff.mp e2
      unfold ORep at h
      obtain ⟨l, xs, A0, rfl, rfl, el, fl, d1, r⟩ := h
      obtain ⟨u, A1, lu, r1, s1, bk1⟩ := focK r l1
      obtain ⟨w, A2, va, r2, s2, bk2⟩ := focus su r1 e3
      have in0 : ∀ a ∈ A2, a ∈ A0 := fun a m => s1 a (s2 a m)
      have nl : l ∉ A2 := fun z => d1 (in0 l z)
      refine ⟨w, A2, ⟨l, xs, u, rfl, el, lu, va⟩, r2, fun a m => List.mem_cons_of_mem _ (in0 a m), fun {F2 H2 x B} s k kf rx dB => ?_⟩
      have k0 : ∀ a ∈ A0, a ∉ A2 → H2 a = H a := fun a m z => k a (List.mem_cons_of_mem _ m) z
      have kf0 : ∀ a ∈ A0, a ∉ A2 → F2 a = none := fun a m z => kf a (List.mem_cons_of_mem _ m) z
      have dB0 : ∀ a ∈ B, a ∈ A0 → a ∈ A2 := fun a m z => dB a m (List.mem_cons_of_mem _ z)
      obtain ⟨A3, r3, m3⟩ := bk2 s (fun a m z => k0 a (s1 a m) z) (fun a m z => kf0 a (s1 a m) z) rx fun a m z => dB0 a m (s1 a z)
      obtain ⟨A4, r4, m4⟩ := bk1 s (fun a m z => k0 a m fun y => z (s2 a y)) (fun a m z => kf0 a m fun y => z (s2 a y)) r3 fun a m z => by
        rcases m3 a m with y | y
        · exact s2 a (dB0 a y z)
        · exact y.1
      have in4 : ∀ a ∈ A4, a ∈ B ∨ (a ∈ A0 ∧ a ∉ A2) := fun a m => by
        rcases m4 a m with y | y
        · rcases m3 a y with y | y
          · exact .inl y
          · exact .inr ⟨s1 a y.1, y.2⟩
        · exact .inr ⟨y.1, fun z => y.2 (s2 a z)⟩
      refine ⟨l :: A4, ?_, fun a m => ?_⟩
      · show ORep K F2 H2 (match lookK fs n with | some o => .dk (modK n (putAt p x o) fs) | none => .dk fs) _ _
        rw [l1]
        unfold ORep
        refine ⟨l, xs, A4, rfl, rfl, (k l List.mem_cons_self nl).trans el, kf l List.mem_cons_self nl, fun z => ?_, r4⟩
        rcases in4 l z with y | y
        · exact nl (dB l y List.mem_cons_self)
        · exact d1 y.1
      · rcases List.mem_cons.mp m with rfl | m
        · exact .inr ⟨List.mem_cons_self, nl⟩
        · exact (in4 a m).imp id fun y => ⟨List.mem_cons_of_mem _ y.1, y.2⟩
    | _ => cases e
  | .i n :: p, o, o', v, A, h, e => by
    cases o with
    | lst fs =>
      have e2 : (fs[n]?).bind (subO p) = some o' := e
      obtain ⟨o1, l1, e3⟩ := Option.bind_eq_some_iff.mp e2
      unfold ORep at h
      obtain ⟨l, xs, A0, rfl, rfl, el, fl, d1, r⟩ := h
      obtain ⟨u, A1, lu, r1, s1, bk1⟩ := focL r l1
      obtain ⟨w, A2, va, r2, s2, bk2⟩ := focus su r1 e3
      have in0 : ∀ a ∈ A2, a ∈ A0 := fun a m => s1 a (s2 a m)
      have nl : l ∉ A2 := fun z => d1 (in0 l z)
      refine ⟨w, A2, ⟨l, xs, u, rfl, el, lu, va⟩, r2, fun a m => List.mem_cons_of_mem _ (in0 a m), fun {F2 H2 x B} s k kf rx dB => ?_⟩
      have k0 : ∀ a ∈ A0, a ∉ A2 → H2 a = H a := fun a m z => k a (List.mem_cons_of_mem _ m) z
      have kf0 : ∀ a ∈ A0, a ∉ A2 → F2 a = none := fun a m z => kf a (List.mem_cons_of_mem _ m) z
      have dB0 : ∀ a ∈ B, a ∈ A0 → a ∈ A2 := fun a m z => dB a m (List.mem_cons_of_mem _ z)
      obtain ⟨A3, r3, m3⟩ := bk2 s (fun a m z => k0 a (s1 a m) z) (fun a m z => kf0 a (s1 a m) z) rx fun a m z => dB0 a m (s1 a z)
      obtain ⟨A4, r4, m4⟩ := bk1 s (fun a m z => k0 a m fun y => z (s2 a y)) (fun a m z => kf0 a m fun y => z (s2 a y)) r3 fun a m z => by
        rcases m3 a m with y | y
        · exact s2 a (dB0 a y z)
        · exact y.1
      have in4 : ∀ a ∈ A4, a ∈ B ∨ (a ∈ A0 ∧ a ∉ A2) := fun a m => by
        rcases m4 a m with y | y
        · rcases m3 a y with y | y
          · exact .inl y
          · exact .inr ⟨s1 a y.1, y.2⟩
        · exact .inr ⟨y.1, fun z => y.2 (s2 a z)⟩
      refine ⟨l :: A4, ?_, fun a m => ?_⟩
      · show ORep K F2 H2 (match fs[n]? with | some o => .lst (fs.set n (putAt p x o)) | none => .lst fs) _ _
        rw [l1]
        unfold ORep
        refine ⟨l, xs, A4, rfl, rfl, (k l List.mem_cons_self nl).trans el, kf l List.mem_cons_self nl, fun z => ?_, r4⟩
        rcases in4 l z with y | y
        · exact nl (dB l y List.mem_cons_self)
        · exact d1 y.1
      · rcases List.mem_cons.mp m with rfl | m
        · exact .inr ⟨List.mem_cons_self, nl⟩
        · exact (in4 a m).imp id fun y => ⟨List.mem_cons_of_mem _ y.1, y.2⟩
    | _ => cases e
  | .t n :: p, o, o', v, A, h, e => by
    cases o with
    | tup fs =>
      have e2 : (fs[n]?).bind (subO p) = some o' := e
      obtain ⟨o1, l1, e3⟩ := Option.bind_eq_some_iff.mp e2
      unfold ORep at h
      obtain ⟨l, xs, rfl, el, r⟩ := h
      obtain ⟨u, A1, lu, r1, s1, bk1⟩ := focL r l1
      obtain ⟨w, A2, va, r2, s2, bk2⟩ := focus su r1 e3
      have in0 : ∀ a ∈ A2, a ∈ A := fun a m => s1 a (s2 a m)
      refine ⟨w, A2, ⟨l, xs, u, rfl, su _ _ el, lu, va⟩, r2, in0, fun {F2 H2 x B} s k kf rx dB => ?_⟩
      obtain ⟨A3, r3, m3⟩ := bk2 s (fun a m z => k a (s1 a m) z) (fun a m z => kf a (s1 a m) z) rx fun a m z => dB a m (s1 a z)
      obtain ⟨A4, r4, m4⟩ := bk1 s (fun a m z => k a m fun y => z (s2 a y)) (fun a m z => kf a m fun y => z (s2 a y)) r3 fun a m z => by
        rcases m3 a m with y | y
        · exact s2 a (dB a y z)
        · exact y.1
      refine ⟨A4, ?_, fun a m => ?_⟩
      · show ORep K F2 H2 (match fs[n]? with | some o => .tup (fs.set n (putAt p x o)) | none => .tup fs) _ _
        rw [l1]
        unfold ORep
        exact ⟨l, xs, rfl, s _ _ el, r4⟩
      · rcases m4 a m with y | y
        · rcases m3 a y with y | y
          · exact .inl y
          · exact .inr ⟨s1 a y.1, y.2⟩
        · exact .inr ⟨y.1, fun z => y.2 (s2 a z)⟩
    | _ => cases e
end
end Dl
set_option Elab.async false
set_option linter.all false
set_option maxRecDepth 100000
set_option maxHeartbeats 1000000
namespace Dl
open PySem PySem.Spec L2
open PyProof.Rows hiding St
/-! ## what is read while all that is owned stands still -/
/-- the datum g, read; nothing that stands there changes -/
def DF (X : Fam) (T : List (Addr × Str)) (e : Expr) (g : Ev → Option D) : Prop := ∃ t, (∀ i, PE (X.at_ i) e t) ∧ ∀ σ F H A ρ d Q, At X T F H ρ σ A → g ρ = some d →
  (∀ v F' H', Ext H H' → Go T A F H A F' H' → RepS X.K F' H' ρ σ A → Rp X.K F' d v → Q v H') → t σ H Q
/-- an expression told while all stands still -/
def stl (f : FE) (ρ : Ev) : Option D := match f (ρ.map frzB) with
  | .ok (.dat d, _) => if flatD d = true then some d else none
  | _ => none
section
variable {X : Fam} {T : List (Addr × Str)} {W : WX} {P : List Nat}
theorem df_of {e : Expr} {f : FE} (h : DE X T W e f) : DF X T e (stl f) := by
  obtain ⟨t, pe, s⟩ := h
  refine ⟨t, pe, fun σ F H A ρ d Q at_ eg k => ?_⟩
  obtain ⟨F2, g0, r0⟩ := freezeAll (T := T) at_.rep at_.sub
  refine s σ F2 H [] (ρ.map frzB) Q ⟨g0.sub, g0.tab at_.tab, r0, X.mono at_.inv g0.kF fun _ _ => rfl, g0.ntb at_.ntb⟩ ?_
  unfold stl at eg
  split at eg
  · rename_i d' ρ' q
    split at eg
    · rename_i hf
      cases eg
      rw [q]
      intro F' H' A' g v r
      obtain ⟨v', e1, rd, _⟩ := r.dat_inv
      cases e1
      have eN : LamX.ExtN H H' := fun b o e nt => g.kH b o e (fun z => nomatch z) nt
      have r1 : RepS X.K F H' ρ σ A := at_.rep.stab (Sub.refl F) (fun b mb => by
        obtain ⟨⟨o, e, nt⟩, _⟩ := at_.rep.live b mb
        rw [e]
        exact eN b o e nt) fun b mb => (at_.rep.live b mb).2
      exact k v F H' (fun a o e n => eN a o e n) (go_ext at_.sub at_.ntb eN (g.tab at_.tab)) r1 (flat_any hf rd)
    · cases eg
  · cases eg
/-! ## places, told -/
/-- e is the place that q tells, within what is owned -/
def DQ (X : Fam) (T : List (Addr × Str)) (e : Expr) (q : Ev → Option (Nat × List Stp)) : Prop := ∃ t, (∀ i, PE (X.at_ i) e t) ∧ ∀ σ F H A ρ i p o0 o Q, At X T F H ρ σ A → q ρ = some (i, p) → ρ[i]? = some (.ext o0) → subO p o0 = some o →
  (∀ v w F' H', σ[i]? = some (some v) → VAt H' p v w → Ext H H' → Go T A F H A F' H' → RepS X.K F' H' ρ σ A → Q w H') → t σ H Q
theorem ext_at {K : PySem.W.Frag} {F H : Hp} {ρ : Ev} {σ : St} {A : List Addr} {i : Nat} {o : O} (r : RepS K F H ρ σ A) (q : ρ[i]? = some (.ext o)) : ∃ v ft, σ[i]? = some (some v) ∧ ORep K F H o v ft ∧ ∀ a ∈ ft, a ∈ A := by
  obtain ⟨sv, ft, e1, k, m⟩ := r.get q
  obtain ⟨v, rfl, k⟩ := k
  exact ⟨v, ft, e1, k, m⟩
theorem dq_n (i : Nat) {x : Str} {pos : Pos} (hN : ∀ j, (X.at_ j).N[i]? = some x := by intro _; rfl) (hv : ∀ j, Vis (X.at_ j).env.scope x := by intro _; first | exact Or.inl rfl | exact Or.inr (Or.inl rfl) | exact Or.inr (Or.inr rfl)) (hd : (x == ("__debug__" : Str)) = false := by decide)
    (hcd : (x == ("__classdict__" : Str)) = false := by decide) : DQ X T (.Name x pos) (fun _ => some (i, [])) := by
  refine ⟨_, fun j => pe_var (hN j) (hv j) hd hcd, fun σ F H A ρ j p o0 o Q at_ eq eo es k => ?_⟩
  cases eq
  obtain ⟨v, ft, e1, r, _⟩ := ext_at at_.rep eo
  exact ⟨v, e1, k v v F H e1 rfl (Ext.refl H) (Go.refl at_.sub) at_.rep⟩
theorem sub_snoc {s : Stp} : ∀ {p : List Stp} {o o' : O}, subO (p ++ [s]) o = some o' → ∃ o1, subO p o = some o1 ∧ subO [s] o1 = some o'
  | [], o, o', h => ⟨o, rfl, h⟩
  | .f n :: p, o, o', h => by
    cases o with
    | ins c fs =>
      have h : (lookO fs n).bind (subO (p ++ [s])) = some o' := h
      obtain ⟨o1, e1, e2⟩ := Option.bind_eq_some_iff.mp h
      obtain ⟨o2, e3, e4⟩ := sub_snoc e2
      exact ⟨o2, by show (lookO fs n).bind (subO p) = _; rw [e1]; exact e3, e4⟩
    | _ => cases h
  | .k n :: p, o, o', h => by
    cases o with
    | dk fs =>
      have h : (lookK fs n).bind (subO (p ++ [s])) = some o' := h
      obtain ⟨o1, e1, e2⟩ := Option.bind_eq_some_iff.mp h
      obtain ⟨o2, e3, e4⟩ := sub_snoc e2
      exact ⟨o2, by show (lookK fs n).bind (subO p) = _; rw [e1]; exact e3, e4⟩
    | _ => cases h
  | .i n :: p, o, o', h => by
    cases o with
    | lst fs =>
      have h : (fs[n]?).bind (subO (p ++ [s])) = some o' := h
      obtain ⟨o1, e1, e2⟩ := Option.bind_eq_some_iff.mp h
      obtain ⟨o2, e3, e4⟩ := sub_snoc e2
      exact ⟨o2, by show (fs[n]?).bind (subO p) = _; rw [e1]; exact e3, e4⟩
    | _ => cases h
  | .t n :: p, o, o', h => by
    cases o with
    | tup fs =>
      have h : (fs[n]?).bind (subO (p ++ [s])) = some o' := h
      obtain ⟨o1, e1, e2⟩ := Option.bind_eq_some_iff.mp h
      obtain ⟨o2, e3, e4⟩ := sub_snoc e2
      exact ⟨o2, by show (fs[n]?).bind (subO p) = _; rw [e1]; exact e3, e4⟩
    | _ => cases h
/-- the part that stands at a told place -/
theorem at_place {K : PySem.W.Frag} {F H : Hp} {ρ : Ev} {σ : St} {A : List Addr} {i : Nat} {p : List Stp} {o0 o : O} {v w : V} (su : Sub F H) (r : RepS K F H ρ σ A) (eo : ρ[i]? = some (.ext o0)) (es : subO p o0 = some o) (ev : σ[i]? = some (some v)) (hw : VAt H p v w) : ∃ A1, ORep K F H o w A1 ∧ ∀ a ∈ A1, a ∈ A := by
  obtain ⟨v', ft, e1, r0, m⟩ := ext_at r eo
  rw [ev] at e1
  cases e1
  obtain ⟨w', A1, va, r1, s1, _⟩ := focus su r0 es
  cases hw.one va
  exact ⟨A1, r1, fun a z => m a (s1 a z)⟩
/-- the place's content is changed where it stands; E: what comes to be owned there -/
theorem put_place {K : PySem.W.Frag} {T : List (Addr × Str)} {F H : Hp} {ρ : Ev} {σ : St} {A E : List Addr} {i : Nat} {p : List Stp} {o0 o x : O} {v w : V} {l : Addr} {u u' : HO} (s : Sub F H) (r : RepS K F H ρ σ A) (eo : ρ[i]? = some (.ext o0)) (es : subO p o0 = some o) (ev : σ[i]? = some (some v)) (hw : VAt H p v w) (hE : ∀ a ∈ E, a ∉ A)
    (hl : ∀ A1, (∀ a ∈ A1, a ∈ A) → ORep K F H o w A1 → l ∈ A1 ∧ H l = some u ∧ F l = none ∧ ∃ A2, ORep K F (upd H l u') x w A2 ∧ ∀ a ∈ A2, a ∈ A1 ∨ a ∈ E)
    (n1 : ∀ ps, u ≠ .tbl ps) (n2 : ∀ φ, u ≠ .ext φ) (n3 : ∀ ps, u' ≠ .tbl ps) : Go T (E ++ A) F H (E ++ A) F (upd H l u') ∧ ∃ A', RepS K F (upd H l u') (ρ.set i (.ext (putAt p x o0))) σ A' ∧ ∀ a ∈ A', a ∈ E ++ A := by
  obtain ⟨B, rt, mB, _⟩ := r.takeOut eo ev
  obtain ⟨ft', A', rfl, kb, tl, dj⟩ := rt.head
  obtain ⟨v2, e2, kb⟩ := kb
  cases e2
  obtain ⟨w2, A1', va2, r1', s1', bk'⟩ := focus s kb es
  cases hw.one va2
  obtain ⟨lA', el, fl, A2', rx', sx'⟩ := hl A1' (fun a ma => mB a (List.mem_append_left _ (s1' a ma))) r1'
  have lm : l ∈ A := mB l (List.mem_append_left _ (s1' l lA'))
  have gw : Go T (E ++ A) F H (E ++ A) F (upd H l u') := Go.write s (List.mem_append_right _ lm) fl el n1 n2 n3
  refine ⟨gw, ?_⟩
  obtain ⟨A4, r4, m4⟩ := bk' (Sub.refl F) (fun a ma na => upd_ne fun z => na (by rw [z]; exact lA')) (fun a ma na => (O.live o0 kb a ma).2) rx' fun a ma mf => (sx' a ma).elim id fun z => absurd (mB a (List.mem_append_left _ mf)) (hE a z)
  have in4 : ∀ a ∈ A4, a ∈ ft' ∨ a ∈ E := fun a ma => by
    rcases m4 a ma with y | y
    · exact (sx' a y).imp (s1' a) id
    · exact .inl y.1
  have tl2 : RepS K F (upd H l u') (ρ.set i .un) σ A' := tl.stab (Sub.refl F) (fun a ma => upd_ne fun z => dj l (s1' l lA') (by rw [← z]; exact ma)) fun a ma => (tl.live a ma).2
  have hd : RepS K F (upd H l u') (B.ext (putAt p x o0) :: ρ.set i .un) (some v :: σ) (A4 ++ A') := .cons (ft := A4) ⟨v, rfl, r4⟩ tl2 fun a ma z => (in4 a ma).elim (fun y => dj a y z) fun y => hE a y (mB a (List.mem_append_right _ z))
  obtain ⟨A5, r5, m5⟩ := hd.putBack (i := i) ev
  refine ⟨A5, by rw [List.set_set] at r5; exact r5, fun a ma => ?_⟩
  rcases List.mem_append.mp (m5 a ma) with y | y
  · exact (in4 a y).elim (fun z => List.mem_append_right _ (mB a (List.mem_append_left _ z))) (List.mem_append_left _)
  · exact List.mem_append_right _ (mB a (List.mem_append_right _ y))
end
end Dl
set_option Elab.async false
set_option linter.all false
set_option maxRecDepth 100000
set_option maxHeartbeats 1000000
namespace Dl
open PySem PySem.Spec L2
open PyProof.Rows hiding St
/-! ## what stands at a place, changed -/
section
variable {K : PySem.W.Frag} {F H F' H' : Hp}
theorem orepL_snoc {d : D} {v : V} (h : Rp K F d v) : ∀ {os : List O} {xs : List V} {A : List Addr}, ORepL K F H os xs A → ORepL K F H (os ++ [.fz d]) (xs ++ [v]) A
  | [], xs, A, r => by
    unfold ORepL at r
    obtain ⟨rfl, rfl⟩ := r
    show ORepL K F H [.fz d] [v] []
    unfold ORepL
    refine ⟨v, [], [], [], rfl, rfl, (fun a m => by cases m), ?_, ?_⟩
    · unfold ORep
      exact ⟨rfl, h⟩
    · unfold ORepL
      exact ⟨rfl, rfl⟩
  | o :: os, xs, A, r => by
    unfold ORepL at r
    obtain ⟨v0, ws, A1, A2, rfl, rfl, dj, r1, r2⟩ := r
    show ORepL K F H (o :: (os ++ [.fz d])) (v0 :: (ws ++ [v])) (A1 ++ A2)
    unfold ORepL
    exact ⟨v0, _, A1, A2, rfl, rfl, dj, r1, orepL_snoc h r2⟩
theorem orepL_len : ∀ {os : List O} {xs : List V} {A : List Addr}, ORepL K F H os xs A → xs.length = os.length
  | [], xs, A, r => by
    unfold ORepL at r
    rw [r.1]
    rfl
  | o :: os, xs, A, r => by
    unfold ORepL at r
    obtain ⟨v0, ws, A1, A2, rfl, rfl, dj, r1, r2⟩ := r
    rw [List.length_cons, List.length_cons, orepL_len r2]
end
/-- the part at a place -/
def plc (ρ : Ev) (z : Nat × List Stp) : Option (O × O) := match ρ[z.1]? with
  | some (.ext o0) => (subO z.2 o0).map fun o => (o0, o)
  | _ => none
theorem plc_some {ρ : Ev} {z : Nat × List Stp} {o0 o : O} (h : plc ρ z = some (o0, o)) : ρ[z.1]? = some (.ext o0) ∧ subO z.2 o0 = some o := by
  unfold plc at h
  split at h
  · rename_i o1 e
    obtain ⟨o2, e2, e3⟩ := Option.map_eq_some_iff.mp h
    cases e3
    exact ⟨e, e2⟩
  · cases h
def setP (ρ : Ev) (z : Nat × List Stp) (o0 x : O) : Ev := ρ.set z.1 (.ext (putAt z.2 x o0))
/-- E.append(x) -/
def pApp (q : Ev → Option (Nat × List Stp)) (g : Ev → Option D) (ρ : Ev) : Option Ev := (q ρ).bind fun z => (g ρ).bind fun d => (plc ρ z).bind fun y => match y.2 with
  | .lst os => if os.length < sizeLine then some (setP ρ z y.1 (.lst (os ++ [.fz d]))) else none
  | _ => none
def cPApp (q : Ev → Option (Nat × List Stp)) (g : Ev → Option D) : FE := fun ρ => (ofO (pApp q g ρ)) >>= fun ρ' => .ok (.dat .non, ρ')
section
variable {X : Fam} {T : List (Addr × Str)} {W : WX} {P : List Nat}
theorem de_papp {e x : Expr} {q : Ev → Option (Nat × List Stp)} {g : Ev → Option D} {apos cpos : Pos} (h : DQ X T e q) (k : DF X T x g)
    (hbase : ∀ j, attributeBase e "append" (X.at_ j).env (eval e (X.at_ j).env) = eval e (X.at_ j).env := by intro _; rfl)
    (hfew : ∀ j, ((backTo cpos (starEach [x] (X.at_ j).env)).all (fun x => !x.1) && (backToKw cpos (keywordEach [] (X.at_ j).env)).all (fun x => x.1.isSome)
      && decide ([x].length + ([] : List Keyword).length + (if ([] : List Keyword).isEmpty then 0 else 1) < 30)) = true := by intro _; rfl)
    (hline : (apos.endLine == cpos.line) = true := by rfl) (hs : ∀ j, starEach [x] (X.at_ j).env = (false, eval x (X.at_ j).env) :: starEach [] (X.at_ j).env := by intro _; rfl) (hplain : ∀ j, (backTo cpos (starEach [] (X.at_ j).env)).any (·.1) = false := by intro _; rfl) :
    DE X T W (.Call (.Attribute e "append" apos) [x] [] cpos) (cPApp q g) := by
  obtain ⟨t, pe, s⟩ := h
  obtain ⟨tx, px, sx⟩ := k
  refine ⟨tBM X.K "list" rAppend t (tCons tx tNil), fun j => ?_, fun σ F H A ρ Q a p => ?_⟩
  · rw [← X.hK j]
    exact pe_bm PySem.F.plainAttrs_list PySem.F.slot_list_append PySem.F.type_list_append mt_append (pe j) (pa_cons (px j) pa_nil (hs j)) (hbase j) (hfew j) hline (hs j) (hplain j)
  · obtain ⟨ρ', e0, p⟩ := p.opt
    unfold pApp at e0
    obtain ⟨z, e1, e0⟩ := Option.bind_eq_some_iff.mp e0
    obtain ⟨d, e2, e0⟩ := Option.bind_eq_some_iff.mp e0
    obtain ⟨⟨o0, o⟩, e3, e0⟩ := Option.bind_eq_some_iff.mp e0
    obtain ⟨eo, es⟩ := plc_some e3
    cases o with
    | lst os =>
      simp only at e0
      split at e0
      · rename_i hl
        cases e0
        obtain ⟨i, pp⟩ := z
        refine s σ F H A ρ i pp o0 _ _ a e1 eo es fun v w F1 H1 ev va x1 g1 r1 => ?_
        obtain ⟨A1, ro, _⟩ := at_place g1.sub r1 eo es ev va
        unfold ORep at ro
        obtain ⟨l, xs, A0, rfl, rfl, el, fl, nl, rl⟩ := ro
        refine ⟨.inl ⟨rfl, _, SqL.of el⟩, ?_⟩
        refine sx σ F1 H1 A ρ d _ (a.next g1 r1) e2 fun vd F2 H2 x2 g2 r2 rd => ?_
        have va2 := va.ext x2
        have el2 : H2 l = some (.lst xs) := x2 _ _ el fun _ z => by cases z
        refine ⟨l, xs, vd, rfl, rfl, el2, by rw [orepL_len rl]; exact hl, ?_⟩
        obtain ⟨gw, A', r3, m3⟩ := put_place (T := T) (E := []) (x := .lst (os ++ [.fz d])) (l := l) (u := .lst xs) (u' := .lst (xs ++ [vd])) g2.sub r2 eo es ev va2 (fun a m => by cases m) (fun B sB rB => by
          unfold ORep at rB
          obtain ⟨l', xs', A0', e1', rfl, el', fl', nl', rl'⟩ := rB
          cases e1'
          rw [el2] at el'
          cases el'
          refine ⟨List.mem_cons_self, el2, fl', l :: A0', ?_, fun a m => .inl m⟩
          unfold ORep
          refine ⟨l, _, A0', rfl, rfl, upd_same, fl', nl', orepL_snoc rd ?_⟩
          exact O.stabL os rl' (Sub.refl F2) (fun a m => upd_ne fun z => nl' (by rw [← z]; exact m)) fun a m => (O.lvL os rl' a m).2) (fun _ z => by cases z) (fun _ z => by cases z) (fun _ z => by cases z)
        exact p.now ((g1.trans g2).trans (gw.less fun a m => by simpa using m3 a m)) .non (r3.dat rp_non)
      · cases e0
    | _ => cases e0
end
end Dl
set_option Elab.async false
set_option linter.all false
set_option maxRecDepth 100000
set_option maxHeartbeats 1000000
namespace Dl
open PySem PySem.Spec L2
open PyProof.Rows hiding St
/-! ## more of it: keys that are tuples, setdefault, pop, fields counted up -/
section
variable {X : Fam} {T : List (Addr × Str)} {W : WX} {P : List Nat}
end
end Dl
set_option Elab.async false
set_option linter.all false
set_option maxRecDepth 100000
set_option maxHeartbeats 1000000
namespace Dl
open PySem PySem.Spec L2
open PyProof.Rows hiding St
/-! ## the turns of a clause, told once for all kinds of comprehensions -/
section
variable {prog : Program} {w : World}
abbrev NoE : Value → Shared → Prop := fun _ _ => False
/-- from what its source, its target, its tests and its body do, what one turn of a clause does -/
def Clz (prog : Program) (w : World) (e : Expr) (d : Nat) (tg : Expr) (ifs : List Expr) (acc : Value) (en : Env) (body : Around → (Shared → Prop) → Shared → Prop) : Prop :=
  ∀ (A : Around) (E : Value → Shared → Prop) (it : Value) (Q : PySem.Fin → Shared → Prop) (s : Shared),
    wpAny (model prog w) A (pyNext it) (fun r s1 => match r with
      | none => Q (.done .next) s1
      | some v => wpAny (model prog w) A (letOwnedTupleGo tg it v) (fun _ s2 => wpAny (model prog w) A (assign tg en v) (fun _ s3 =>
        wpAny (model prog w) A (forIn ifs true fun c r => if r = true then do let ok ← isTrue c en (eval c en); pure (ForInStep.yield ok) else pure (ForInStep.yield r)) (fun ok s4 =>
          if ok = true then body A (Q (.again (.compLoop e d it acc en))) s4 else Q (.again (.compLoop e d it acc en)) s4) NoE s3) NoE s2) NoE s1) NoE s →
    wpAny (model prog w) A (compTurn e d it acc en) Q E s
variable {kx vx tg src tg1 src1 : Expr} {ifs ifs1 : List Expr} {scope : Scope} {pos : Pos} {D : Addr} {en : Env}
/-- the loop of such a clause -/
theorem clz_loop {gens : List Comprehension} {d : Nat} {acc : Value} {A : Around} {R : Result → Shared → Prop} {s : Shared} {it : Value} {body : Around → (Shared → Prop) → Shared → Prop} (mono : ∀ A (P P' : Shared → Prop) s, (∀ s, P s → P' s) → body A P s → body A P' s) (hz : Clz prog w (.DictComp kx vx gens scope pos) d tg ifs acc en body) (I : Nat → Shared → Prop)
    (step : ∀ n s, I n s → wpAny (model prog w) A (pyNext it) (fun r s1 => match r with
      | none => R (.ok .next) s1
      | some v => wpAny (model prog w) A (letOwnedTupleGo tg it v) (fun _ s2 => wpAny (model prog w) A (assign tg en v) (fun _ s3 =>
        wpAny (model prog w) A (forIn ifs true fun c r => if r = true then do let ok ← isTrue c en (eval c en); pure (ForInStep.yield ok) else pure (ForInStep.yield r)) (fun ok s4 =>
          if ok = true then body A (fun s5 => ∃ m, m < n ∧ I m s5) s4 else ∃ m, m < n ∧ I m s4) NoE s3) NoE s2) NoE s1) NoE s)
    (n : Nat) (h : I n s) : codeAny (model prog w) A (.compLoop (.DictComp kx vx gens scope pos) d it acc en) R s := by
  refine codeAny_loop rfl I (fun n s hI => ?_) n h
  show wpAny (model prog w) A (Sem.onRaise (compTurn (.DictComp kx vx gens scope pos) d it acc en) (fun x => do noteFrame x en; theTreesLotGoes x)) _ _ s
  refine wpAny_noted (env := en) ?_
  refine hz _ _ _ _ _ (thnF (step n s hI) fun r s1 h1 => ?_)
  rcases r with _ | v
  · exact h1
  refine thnF h1 fun _ s2 h2 => thnF h2 fun _ s3 h3 => thnF h3 fun ok s4 h4 => ?_
  rcases ok with _ | _
  · exact ⟨rfl, h4⟩
  · exact mono _ _ _ _ (fun s h => ⟨rfl, h⟩) h4
end
/-- the turns of a clause within a block, by what a turn needs -/
theorem turns {Y : Cx} {P : List (Addr × Obj)} {kx vx tg : Expr} {gens : List Comprehension} {scope : Scope} {pos : Pos} {ifs : List Expr} {d : Nat} {acc : Value} {body : Around → (Shared → Prop) → Shared → Prop} {J : It} {fp : List Addr} {it : Addr} {tn : Nat → Heap → Prop} {g : TG} {tt : TT} {B : St → Hp → (Hp → Prop) → Prop} {σ : St} (vs : List Nat) {Out : Hp → Prop} {R : Result → Shared → Prop} {W : Nat → Nat → Hp → Prop}
    (hx : Y.xe = NoE) (hc : Y.calm = true) (T : Turn Y.prog Y.w Y.K tg J fp it tn) (pg : PG Y tg g) (pt : PTs Y ifs tt) (mono : ∀ A (P P' : Shared → Prop) s, (∀ s, P s → P' s) → body A P s → body A P' s) (hz : Clz Y.prog Y.w (.DictComp kx vx gens scope pos) d tg ifs acc Y.env body)
    (hb : ∀ pins σ2 H Nx s, wipe σ2 vs = wipe σ vs → Inv Y (P ++ pins) σ2 H s → B σ2 H Nx → body Y.A (fun s' => ∃ σ' H', Inv Y (P ++ pins) σ' H' s' ∧ (wipe σ vs).length = σ'.length ∧ (∀ (j : Nat) v, (wipe σ vs)[j]? = some (some v) → σ'[j]? = some (some v)) ∧ Nx H') s)
    (stat : ∀ σ' H' s', Inv Y P σ' H' s' → (∀ b ∈ fp, H' b = none) → ∀ b ∈ fp, FpOk Y P H' b)
    (out : ∀ s H, Inv Y P (wipe σ vs) H s → Out H → R (.ok .next) s)
    (hw : ∀ i m H, W i m H → (J.stop i H ∧ Out H) ∨ (J.go i H ∧ ∃ Nx : Hp → Prop, (∀ H', Nx H' → ∃ m', m' < m ∧ W (i + 1) m' H') ∧ ∀ x H', J.yld i H x H' → g x (wipe σ vs) H' fun σ2 H2 => wipe σ2 vs = wipe σ vs ∧ tt σ2 H2 fun b H3 => if b = true then B σ2 H3 Nx else Nx H3))
    {s : Shared} {H : Hp} (I : Inv Y P (wipe σ vs) H s) (st : tn 0 s.heap) (nf : ∀ b ∈ fp, H b = none) (m : Nat) (w0 : W 0 m H) :
    codeAny (model Y.prog Y.w) Y.A (.compLoop (.DictComp kx vx gens scope pos) d (.ref it) acc Y.env) R s := by
  refine clz_loop mono hz (fun n s' => ∃ i H', Inv Y P (wipe σ vs) H' s' ∧ tn i s'.heap ∧ (∀ b ∈ fp, H' b = none) ∧ W i n H') (fun n s1 q => ?_) m ⟨0, H, I, st, nf, w0⟩
  obtain ⟨i, H1, I1, st1, nf1, w1⟩ := q
  rcases hw i n H1 w1 with ⟨hstop, ho⟩ | ⟨hgo, Nx, hN, hs⟩
  · exact thn (T.done Y rfl rfl rfl hc i P s1 _ H1 NoE I1 (stat _ _ _ I1 nf1) st1 hstop) fun r s2 z => by
      obtain ⟨rfl, I2⟩ := z
      exact out _ _ I2 ho
  · refine thn (T.item Y rfl rfl rfl hc i P s1 _ H1 NoE I1 (stat _ _ _ I1 nf1) st1 hgo) fun r s2 z => ?_
    obtain ⟨u, rfl, z⟩ := z
    refine thn z fun _ s3 z => ?_
    obtain ⟨x, H3, I3, r3, y3, st3, nf3⟩ := z
    have I3p := I3.pinned (stat _ _ _ I3 nf3) (T.obj _ _ st3)
    have q4 := pg.run _ s3 _ H3 x u _ I3p r3 (hs x H3 y3)
    rw [hx] at q4
    refine thn q4 fun _ s4 z => ?_
    obtain ⟨σ4, H4, I4, ew, q5⟩ := z
    have q6 := pt.run _ s4 σ4 H4 _ I4 q5
    rw [hx] at q6
    refine thn q6 fun b s5 z => ?_
    obtain ⟨H5, I5, q7⟩ := z
    have close : ∀ s' σ' H', Inv Y (P ++ pinsAt fp s3.heap) σ' H' s' → (wipe σ vs).length = σ'.length → (∀ (j : Nat) v, (wipe σ vs)[j]? = some (some v) → σ'[j]? = some (some v)) → Nx H' → ∃ m, m < n ∧ ∃ i H', Inv Y P (wipe σ vs) H' s' ∧ tn i s'.heap ∧ (∀ b ∈ fp, H' b = none) ∧ W i m H' := fun s' σ' H' I' hl hk nx => by
      obtain ⟨m', hm, w'⟩ := hN H' nx
      have held : ∀ b ∈ fp, ∀ o, s3.heap.get? b = some o → s'.heap.get? b = some o ∧ H' b = none := fun b hb o e => by
        obtain ⟨p1, p2, _⟩ := I'.pin (b, o) (List.mem_append_right _ (List.mem_append_right _ (mem_pinsAt hb e)))
        exact ⟨p1, p2⟩
      exact ⟨m', hm, i + 1, H', I'.unpinned.weak hl hk, T.keep _ _ _ st3 fun b hb o e => (held b hb o e).1, fun b hb => by
        obtain ⟨o, e, _⟩ := T.obj _ _ st3 b hb
        exact (held b hb o e).2, w'⟩
    rcases b with _ | _
    · rw [if_neg (by decide)] at q7 ⊢
      exact close s5 σ4 H5 I5 (by rw [← ew, wipe_length]) (fun j v e => by
        rw [← ew] at e
        exact (wipe_some e).1) q7
    · rw [if_pos rfl] at q7 ⊢
      exact mono _ _ _ _ (fun s' z => by
        obtain ⟨σ', H', I', hl, hk, nx⟩ := z
        exact close s' σ' H' I' hl hk nx) (hb _ σ4 H5 Nx s5 ew I5 q7)
/-! ## {k: v for .. in .. for .. in ..} -/
section
variable {X : Cx} {kx vx tg iter tg1 iter1 : Expr} {ifs ifs1 : List Expr} {scope : Scope} {own : List (Str × Nat)} {vs1 : List Nat} {pos : Pos} {wi wi1 : TI} {g g1 : TG} {tt tt1 : TT} {tk tv : TE}
end
end Dl
set_option Elab.async false
set_option linter.all false
set_option maxRecDepth 100000
set_option maxHeartbeats 1000000
namespace Dl
open PySem PySem.Spec L2
open PyProof.Rows hiding St
/-! ## the turns of a clause over data, for whatever is gathered -/
section
variable {X : Fam} {T : List (Addr × Str)} {W : WX}
/-! ## {k: v for ..} -/
end
end Dl
set_option Elab.async false
set_option linter.all false
set_option maxRecDepth 100000
set_option maxHeartbeats 1000000
namespace Dl
open PySem PySem.Spec L2
open PyProof.Rows hiding St
/-! ## & of two ints; a dict read, and a key looked for, whatever holds the dict -/
section
variable {X : Fam} {T : List (Addr × Str)} {W : WX} {K : PySem.W.Frag}
end
end Dl
set_option Elab.async false
set_option linter.all false
set_option maxRecDepth 100000
set_option maxHeartbeats 1000000
namespace Dl
open PySem PySem.Spec L2
open PyProof.Rows hiding St
/-! ## len(set(ns)), ints that may stand there more than once -/
section
variable {X : Fam} {T : List (Addr × Str)} {W : WX} {K : PySem.W.Frag}
end
end Dl
set_option Elab.async false
set_option linter.all false
set_option maxRecDepth 100000
set_option maxHeartbeats 1000000
namespace Dl
open PySem PySem.Spec L2
open PyProof.Rows hiding St
/-! ## xs.index(x), of data -/
section
variable {K : PySem.W.Frag} {T : List (Addr × Str)} {X : Fam}
/-- xs.insert(i, x) -/
def stand : D → Bool
  | .lst _ => false
  | .dk _ => false
  | .dt _ => false
  | _ => true
end
end Dl
set_option Elab.async false
set_option linter.all false
set_option maxRecDepth 100000
set_option maxHeartbeats 1000000
namespace Dl
open PySem PySem.Spec L2
open PyProof.Rows hiding St
/-! ## a def reached by another name -/
structure DefAl (K : PySem.W.Frag) (mg : Str → Option Value) (y x : Str) (st : Stmt) (ps : List Str) (f : Addr) (fd : FuncData) : Prop where
  fn : Fun K x x st f fd
  g : mg y = some (.ref f)
  b : Binds K fd ps []
theorem DefAl.at {P : Program} {w : World} {K : PySem.W.Frag} {mg : Str → Option Value} {base : Heap} {T : List (Addr × Str)} {y x : Str} {st : Stmt} {ps : List Str} {f : Addr} {fd : FuncData} {n k : Nat} {G : FG} (d : DefAl K mg y x st ps f fd) (F : FnOk P w K mg base (L2.CX P w) k f fd ps (spD K T n G)) : FnAt P w K mg base T y n k G :=
  ⟨f, fd, ps, F, d.g, d.fn.kp, d.b⟩
end Dl
set_option Elab.async false
set_option linter.all false
set_option maxRecDepth 100000
set_option maxHeartbeats 1000000
namespace Dl
open PySem PySem.Spec L2
open PyProof.Rows hiding St
/-! ## d.get(k, z), whatever holds the dict -/
section
variable {X : Fam} {T : List (Addr × Str)} {W : WX}
end
end Dl
set_option Elab.async false
set_option linter.all false
set_option maxRecDepth 100000
set_option maxHeartbeats 1000000
namespace Dl
open PySem PySem.Spec L2
open PyProof.Rows hiding St
/-! ## E.f op= d, whole numbers -/
section
variable {X : Fam} {T : List (Addr × Str)} {W : WX} {P : List Nat}
end
end Dl
set_option Elab.async false
set_option linter.all false
set_option maxRecDepth 100000
set_option maxHeartbeats 1000000
namespace Dl
open PySem PySem.Spec L2
open PyProof.Rows hiding St
/-! ## the way to a dict stays when the dict is changed -/
section
variable {K : PySem.W.Frag} {F H : Hp}
/-- one step further -/
theorem way_snoc {H : Hp} {s : Stp} {u : V} : ∀ {p : List Stp} {v w : V}, VAt H p v w → VAt H [s] w u → VAt H (p ++ [s]) v u
  | [], v, w, h, k => by
    have e : v = w := h
    rw [e]
    exact k
  | .f n :: p, v, w, h, k => by
    obtain ⟨a, C, dx, ys, u1, e1, e2, e3, r⟩ := h
    exact ⟨a, C, dx, ys, u1, e1, e2, e3, way_snoc r k⟩
  | .k n :: p, v, w, h, k => by
    obtain ⟨a, ys, u1, e1, e2, e3, r⟩ := h
    exact ⟨a, ys, u1, e1, e2, e3, way_snoc r k⟩
  | .i n :: p, v, w, h, k => by
    obtain ⟨a, ys, u1, e1, e2, e3, r⟩ := h
    exact ⟨a, ys, u1, e1, e2, e3, way_snoc r k⟩
  | .t n :: p, v, w, h, k => by
    obtain ⟨a, ys, u1, e1, e2, e3, r⟩ := h
    exact ⟨a, ys, u1, e1, e2, e3, way_snoc r k⟩
end
/-! ## E.setdefault(k, []).append(x) -/
section
variable {X : Fam} {T : List (Addr × Str)} {W : WX}
end
end Dl
set_option Elab.async false
set_option linter.all false
set_option maxRecDepth 100000
set_option maxHeartbeats 1000000
namespace Dl
open PySem PySem.Spec L2
open PyProof.Rows hiding St
/-! ## what only reads, with data as its worth; frozen dicts with tuples as keys; an owned thing put under a key -/
section
variable {X : Fam} {T : List (Addr × Str)} {W : WX} {K : PySem.W.Frag}
/-! ### E[k] = what is owned -/
def few1 (kvs : List (Key × O)) (k : Key) : Bool := decide ((kvs.filter fun kv => decide (kv.1 = k)).length ≤ 1)
variable {P : List Nat}
end
end Dl
set_option Elab.async false
set_option linter.all false
set_option maxRecDepth 100000
set_option maxHeartbeats 1000000
namespace Dl
open PySem PySem.Spec L2
open PyProof.Rows hiding St
/-! ## tests that only read; a part of an owned thing that stands still from here on -/
def tPur1 (ρ : Ev) : R (Bool × Ev) → R (Bool × Ev)
  | .ok (c, _) => .ok (c, ρ)
  | .err x _ => match x.fs with
    | none => .err x ρ
    | some _ => .stuck
  | .stuck => .stuck
def tPure (f : FT) : FT := fun ρ => tPur1 ρ (f (ρ.map frzB))
section
variable {X : Fam} {T : List (Addr × Str)} {W : WX} {P : List Nat}
theorem dt_pure {e : Expr} {f : FT} (h : DT X T W e f) : DT X T W e (tPure f) := by
  obtain ⟨t, pe, s⟩ := h
  refine ⟨t, pe, fun σ F H A ρ Q at_ p => ?_⟩
  obtain ⟨F2, g0, r0⟩ := freezeAll (T := T) at_.rep at_.sub
  refine s σ F2 H [] (ρ.map frzB) Q ⟨g0.sub, g0.tab at_.tab, r0, X.mono at_.inv g0.kF fun _ _ => rfl, g0.ntb at_.ntb⟩ ?_
  have ext : ∀ {A' : List Addr} {F' H' : Hp}, Go T [] F2 H A' F' H' → Go T A F H A F H' ∧ RepS X.K F H' ρ σ A := fun {A' F' H'} g => by
    have eN : LamX.ExtN H H' := fun b o e nt => g.kH b o e (fun z => nomatch z) nt
    refine ⟨go_ext at_.sub at_.ntb eN (g.tab at_.tab), at_.rep.stab (Sub.refl F) (fun b mb => ?_) fun b mb => (at_.rep.live b mb).2⟩
    obtain ⟨⟨o, e, nt⟩, _⟩ := at_.rep.live b mb
    rw [e]
    exact eN b o e nt
  unfold tPure at p
  cases q : f (ρ.map frzB) with
  | stuck =>
    rw [q] at p
    exact p.elim
  | err x ρ' =>
    rw [q] at p
    unfold tPur1 at p
    cases qx : x.fs with
    | some _ =>
      simp only [qx] at p
      exact p.elim
    | none =>
      simp only [qx] at p
      intro F' H' A' cls dd g _ rx
      obtain ⟨g1, r1⟩ := ext g
      refine p F H' A cls dd g1 r1 ?_
      unfold RepX at rx ⊢
      rw [qx] at rx ⊢
      exact rx
  | ok z =>
    obtain ⟨c, ρ'⟩ := z
    rw [q] at p
    unfold tPur1 at p
    intro F' H' A' g r
    obtain ⟨g1, r1⟩ := ext g
    exact p F H' A g1 r1
/-! ### a part stands still -/
end
end Dl
set_option Elab.async false
set_option linter.all false
set_option maxRecDepth 100000
set_option maxHeartbeats 1000000
namespace Dl
open PySem PySem.Spec L2
open PyProof.Rows hiding St
/-! ## calls by names, and with arguments left out -/
inductive Src where
  | a (i : Nat)
  | c (d : D)
def constV : D → V
  | .bl b => .bl b
  | .int i => .int i
  | .str s => .str s
  | _ => .non
def arrV1 (vs : List V) : Src → V
  | .a i => vs.getD i .non
  | .c d => constV d
def arrV (ss : List Src) (vs : List V) : List V := ss.map (arrV1 vs)
section
variable {K : PySem.W.Frag} {F : Hp} {σ : St}
end
section
variable {X : Cx} {CX : CXT} {k n : Nat} {f C : Addr} {fd : FuncData} {ps ks : List Str} {sp : Sp} {E : St → XK} {x m : Str} {p pos apos : Pos} {e o : Expr} {es : List Expr} {kws : List Keyword} {ta : TE} {t tk : TA} {g : List Value → List Value → List Value} {gV : List V → List V → List V}
end
/-! ### over data -/
section
variable {X : Fam} {T : List (Addr × Str)} {W : WX}
structure KFn (P : Program) (w : World) (K : PySem.W.Frag) (mg : Str → Option Value) (base : Heap) (T : List (Addr × Str)) (x : Str) (n : Nat) (ks : List Str) (ss : List Src) (k : Nat) (G : FG) : Prop where
  ex : ∃ (f : Addr) (fd : FuncData) (ps : List Str) (g : List Value → List Value → List Value), FnOk P w K mg base (L2.CX P w) k f fd ps (spD K T ss.length G) ∧ mg x = some (.ref f) ∧ PySem.W.keepIn K (.ref f) = true ∧ KBn K fd ps n ks g fun vs zs => arrV ss (vs ++ zs)
def selfArr (ss : List Src) (vs zs : List V) : List V := match vs with
  | v :: r => v :: arrV ss (r ++ zs)
  | [] => []
structure KMeth (P : Program) (w : World) (K : PySem.W.Frag) (mg : Str → Option Value) (base : Heap) (T : List (Addr × Str)) (c m : Str) (n : Nat) (ks : List Str) (ss : List Src) (k : Nat) (G : FG) : Prop where
  ex : ∃ (C f : Addr) (fd : FuncData) (ps : List Str) (g : List Value → List Value → List Value), ClsN K c C ∧ Cls K C ∧ Meth K C m f ∧ FnOk P w K mg base (L2.CX P w) k f fd ps (spD K T (ss.length + 1) G) ∧ KBn K fd ps (n + 1) ks g (selfArr ss)
structure KMake (P : Program) (w : World) (K : PySem.W.Frag) (mg : Str → Option Value) (base : Heap) (T : List (Addr × Str)) (c : Str) (n : Nat) (ks : List Str) (ss : List Src) (k : Nat) (G : FG) : Prop where
  ex : ∃ (C f : Addr) (fd : FuncData) (ps : List Str) (g : List Value → List Value → List Value), ClsN K c C ∧ mg c = some (.ref C) ∧ Mk K C f ∧ FnOk P w K mg base (L2.CX P w) k f fd ps (spD K T (ss.length + 1) G) ∧ KBn K fd ps (n + 1) ks g (selfArr ss)
end
end Dl
set_option Elab.async false
set_option linter.all false
set_option maxRecDepth 100000
set_option maxHeartbeats 1000000
namespace Dl
open PySem PySem.Spec L2
open PyProof.Rows hiding St
/-! ## how such a call binds -/
section
variable {K : PySem.W.Frag} {fd : FuncData} {ps ks : List Str} {n : Nat} {ss : List Src}
end
end Dl
set_option Elab.async false
set_option linter.all false
set_option maxRecDepth 100000
set_option maxHeartbeats 4000000
namespace Dl
open PySem PySem.Spec L2
open FbM (Rec rec_new)
open PyProof.Rows hiding St
/-! ## min(xs, key=f), f an own def -/
section
variable {X : Cx} {pins : List (Addr × Obj)} {σ : L2.St} {A : Around} {kk : Nat} {l it S q : Addr} {fd : FuncData} {ps : List Str} {sp : Sp} {xs : List V} {Q : VK} {R : Result → Shared → Prop}
end
end Dl
set_option Elab.async false
set_option linter.all false
set_option maxRecDepth 100000
set_option maxHeartbeats 1000000
namespace Dl
open PySem PySem.Spec L2
open PyProof.Rows hiding St
/-! ## the first of those with the least key -/
section
variable {K : PySem.W.Frag} {T : List (Addr × Str)} {F H : Hp}
end
section
variable {X : Fam} {T : List (Addr × Str)} {W : WX}
end
end Dl
set_option Elab.async false
set_option linter.all false
set_option maxRecDepth 100000
set_option maxHeartbeats 1000000
namespace Dl
open PySem PySem.Spec L2
open PyProof.Rows hiding St
/-! ## max(xs), min(xs) of whole numbers -/
section
variable {K : PySem.W.Frag} {T : List (Addr × Str)} {X : Fam}
end
end Dl
set_option Elab.async false
set_option linter.all false
set_option maxRecDepth 100000
set_option maxHeartbeats 1000000
namespace Dl
open PySem PySem.Spec L2
open PyProof.Rows hiding St
/-! ## {k: v}, its key a whole number or a text -/
section
variable {X : Fam} {T : List (Addr × Str)} {W : WX}
end
end Dl
set_option Elab.async false
set_option linter.all false
set_option maxRecDepth 100000
set_option maxHeartbeats 1000000
namespace Dl
open PySem PySem.Spec L2
open PyProof.Rows hiding St
/-! ## a method that changes what was just told, and is then dropped -/
section
variable {X : Fam} {T : List (Addr × Str)} {W : WX}
end
end Dl
set_option Elab.async false
set_option linter.all false
set_option maxRecDepth 100000
set_option maxHeartbeats 1000000
namespace Dl
open PySem PySem.Spec L2
open PyProof.Rows hiding St
/-! ## the end of a law of which several defs make lambdas: (code, table, name) of each -/
end Dl
set_option Elab.async false
set_option linter.all false
set_option maxRecDepth 100000
set_option maxHeartbeats 1000000
namespace Dl
open PySem PySem.Spec L2
open PyProof.Rows hiding St
/-! ## a dict locked: what was frozen still stands for its data -/
section
variable {K : PySem.W.Frag} {F H : Hp} {a : Addr} {o : Obj} {ys : List (Key × V)}
theorem lock_ne {b : Addr} {u : HO} (h : F a = some (.dK ys)) (e : F b = some u) (n : ∀ zs, u ≠ .dK zs) : upd F a (.frz o (.dK ys)) b = some u := by
  rw [upd_ne fun z => by
    subst z
    rw [h] at e
    cases e
    exact n _ rfl]
  exact e
theorem lock_rd {b : Addr} {u : HO} (h : F a = some (.dK ys)) (e : Rd F b u) : Rd (upd F a (.frz o (.dK ys))) b u := by
  by_cases z : b = a
  · subst z
    rcases e with e | ⟨o', e⟩
    · rw [h] at e
      cases e
      exact .inr ⟨o, upd_same⟩
    · rw [h] at e
      cases e
  · rcases e with e | ⟨o', e⟩
    · exact .inl (by rw [upd_ne z]; exact e)
    · exact .inr ⟨o', by rw [upd_ne z]; exact e⟩
theorem lock_sqL {b : Addr} {xs : List V} (h : F a = some (.dK ys)) (e : SqL K F b xs) : SqL K (upd F a (.frz o (.dK ys))) b xs := by
  rcases e with e | e
  · exact .inl (lock_rd h e)
  · exact .inr e
theorem lock_sqT {b : Addr} {xs : List V} (h : F a = some (.dK ys)) (e : SqT K F b xs) : SqT K (upd F a (.frz o (.dK ys))) b xs := by
  rcases e with e | e
  · exact .inl (lock_rd h e)
  · exact .inr e
mutual
theorem Rp.lock (q : F a = some (.dK ys)) : ∀ (d : D) {v : V}, Rp K F d v → Rp K (upd F a (.frz o (.dK ys))) d v
  | .non, _, h => by unfold Rp at h ⊢; exact h
  | .bl b, _, h => by unfold Rp at h ⊢; exact h
  | .int i, _, h => by unfold Rp at h ⊢; exact h
  | .str i, _, h => by unfold Rp at h ⊢; exact h
  | .lst ds, _, h => by
    unfold Rp at h ⊢
    obtain ⟨b, xs, e1, h1, h2⟩ := h
    exact ⟨b, xs, e1, lock_ne q h1 (fun _ z => nomatch z), RpL.lock q ds h2⟩
  | .tup ds, _, h => by
    unfold Rp at h ⊢
    obtain ⟨b, xs, e1, h1, h2⟩ := h
    exact ⟨b, xs, e1, lock_sqT q h1, RpL.lock q ds h2⟩
  | .scr ds, _, h => by
    unfold Rp at h ⊢
    obtain ⟨b, xs, e1, h1, h2⟩ := h
    exact ⟨b, xs, e1, lock_sqL q h1, RpL.lock q ds h2⟩
  | .dk ds, _, h => by
    unfold Rp at h ⊢
    obtain ⟨b, xs, e1, h1, h2⟩ := h
    exact ⟨b, xs, e1, lock_rd q h1, RpK.lock q ds h2⟩
  | .dt ds, _, h => by
    unfold Rp at h ⊢
    obtain ⟨b, xs, e1, h1, h2⟩ := h
    exact ⟨b, xs, e1, lock_ne q h1 (fun _ z => nomatch z), RpT.lock q ds h2⟩
  | .ins c ds, _, h => by
    unfold Rp at h ⊢
    obtain ⟨b, C, dx, xs, e1, nC, h1, h0, h2⟩ := h
    exact ⟨b, C, dx, xs, e1, nC, lock_ne q h1 (fun _ z => nomatch z), lock_ne q h0 (fun _ z => nomatch z), RpF.lock q ds h2⟩
  | .opq w, _, h => by unfold Rp at h ⊢; exact h
theorem RpL.lock (q : F a = some (.dK ys)) : ∀ (ds : List D) {vs : List V}, RpL K F ds vs → RpL K (upd F a (.frz o (.dK ys))) ds vs
  | [], _, h => by unfold RpL at h ⊢; exact h
  | d :: ds, _, h => by
    unfold RpL at h ⊢
    obtain ⟨v, ws, e1, h1, h2⟩ := h
    exact ⟨v, ws, e1, Rp.lock q d h1, RpL.lock q ds h2⟩
theorem RpK.lock (q : F a = some (.dK ys)) : ∀ (ds : List (Key × D)) {vs : List (Key × V)}, RpK K F ds vs → RpK K (upd F a (.frz o (.dK ys))) ds vs
  | [], _, h => by unfold RpK at h ⊢; exact h
  | (k, d) :: ds, _, h => by
    unfold RpK at h ⊢
    obtain ⟨v, ws, e1, h1, h2⟩ := h
    exact ⟨v, ws, e1, Rp.lock q d h1, RpK.lock q ds h2⟩
theorem RpT.lock (q : F a = some (.dK ys)) : ∀ (ds : List (List Key × D)) {vs : List (List Key × V)}, RpT K F ds vs → RpT K (upd F a (.frz o (.dK ys))) ds vs
  | [], _, h => by unfold RpT at h ⊢; exact h
  | (k, d) :: ds, _, h => by
    unfold RpT at h ⊢
    obtain ⟨v, ws, e1, h1, h2⟩ := h
    exact ⟨v, ws, e1, Rp.lock q d h1, RpT.lock q ds h2⟩
theorem RpF.lock (q : F a = some (.dK ys)) : ∀ (ds : List (Str × D)) {vs : List (Str × V)}, RpF K F ds vs → RpF K (upd F a (.frz o (.dK ys))) ds vs
  | [], _, h => by unfold RpF at h ⊢; exact h
  | (k, d) :: ds, _, h => by
    unfold RpF at h ⊢
    obtain ⟨v, ws, e1, h1, h2⟩ := h
    exact ⟨v, ws, e1, Rp.lock q d h1, RpF.lock q ds h2⟩
end
theorem RepS.lock (q : F a = some (.dK ys)) {H' : Hp} : ∀ {ρ : Ev} {σ : St}, RepS K F H (ρ.map frzB) σ [] → RepS K (upd F a (.frz o (.dK ys))) H' (ρ.map frzB) σ []
  | [], _, h => by
    cases h
    exact .nil
  | b :: ρ, [], h => nomatch h
  | b :: ρ, sv :: σ, h => by
    cases z : frz b with
    | some d =>
      rw [List.map_cons, frzB_some z] at h ⊢
      obtain ⟨v, e, r, t⟩ := h.dat_inv
      cases e
      exact (RepS.lock q t).dat (Rp.lock q d r)
    | none =>
      rw [List.map_cons, frzB_none z] at h ⊢
      obtain ⟨A1, t, m⟩ := RepS.tail h
      have : A1 = [] := List.eq_nil_iff_forall_not_mem.mpr fun x y => nomatch m x y
      subst this
      exact (RepS.lock q t).un
end
/-! ## a dict that is read by a name, or by a field of a name -/
/-- at σ and F the source lies at d -/
structure KLoc where
  P : St → Hp → Addr → Prop
  ps : List Nat
  mono : ∀ {σ σ' : St} {F F' : Hp} {d : Addr}, P σ F d → Sub F F' → (∀ j ∈ ps, σ'[j]? = σ[j]?) → P σ' F' d
  lock : ∀ {σ : St} {F : Hp} {d : Addr} {o : Obj} {ys : List (Key × V)}, P σ F d → F d = some (.dK ys) → P σ (upd F d (.frz o (.dK ys))) d
end Dl
set_option Elab.async false
set_option linter.all false
set_option maxRecDepth 100000
set_option maxHeartbeats 1000000
namespace Dl
open PySem PySem.Spec L2
open PyProof.Rows hiding St
/-! ## [.. for x in d ..]: a dict's keys, the dict locked -/
theorem RpK.keys {K : PySem.W.Frag} {F : Hp} : ∀ {kvs : List (Key × D)} {ys : List (Key × V)}, RpK K F kvs ys → kvs.map (·.1) = ys.map (·.1)
  | [], _, h => by unfold RpK at h; rw [h]; rfl
  | (k, d) :: kvs, _, h => by
    unfold RpK at h
    obtain ⟨v, ws, rfl, _, h2⟩ := h
    rw [List.map_cons, List.map_cons, h2.keys]
section
variable {X : Fam} {T : List (Addr × Str)} {W : WX}
end
end Dl
set_option Elab.async false
set_option linter.all false
set_option maxRecDepth 100000
set_option maxHeartbeats 1000000
namespace Dl
open PySem PySem.Spec L2
open PyProof.Rows hiding St
/-! ## E[n], a place within an owned list or tuple -/
def stepI (o : O) (k : Int) : Option Stp := match o with
  | .lst os => if 0 ≤ k ∧ k < (os.length : Int) then some (.i k.toNat) else none
  | .tup os => if 0 ≤ k ∧ k < (os.length : Int) then some (.t k.toNat) else none
  | _ => none
def qI (q : Ev → Option (Nat × List Stp)) (g : Ev → Option D) (ρ : Ev) : Option (Nat × List Stp) := (q ρ).bind fun z => ((g ρ).bind intOf).bind fun k => (plc ρ z).bind fun y => (stepI y.2 k).map fun s => (z.1, z.2 ++ [s])
theorem atI_nat2 {α : Type} {xs : List α} {k : Int} {u : α} (h0 : 0 ≤ k) (h1 : k < (xs.length : Int)) (e : xs[k.toNat]? = some u) : atI xs k = some u := by
  unfold atI ixN
  rw [if_pos h0, if_pos h1]
  exact e
section
variable {X : Fam} {T : List (Addr × Str)} {W : WX}
theorem dq_i {e ek : Expr} {q : Ev → Option (Nat × List Stp)} {g : Ev → Option D} {pos : Pos} (k : DQ X T e q) (hg : DF X T ek g) (hs : PlainIx ek := by exact fun _ _ => rfl) : DQ X T (.Subscript e ek pos) (qI q g) := by
  obtain ⟨t, pe, s⟩ := k
  obtain ⟨tk, pk, sk⟩ := hg
  refine ⟨_, fun j => pe_ix (or_ix j) (pe j) (pk j) hs, fun σ F H A ρ i p o0 o Q at_ eq eo es k => ?_⟩
  unfold qI at eq
  obtain ⟨z, e1, e2⟩ := Option.bind_eq_some_iff.mp eq
  obtain ⟨n, e3, e4⟩ := Option.bind_eq_some_iff.mp e2
  obtain ⟨d, e5, e6⟩ := Option.bind_eq_some_iff.mp e3
  obtain ⟨y, e7, e8⟩ := Option.bind_eq_some_iff.mp e4
  obtain ⟨s0, e9, e10⟩ := Option.map_eq_some_iff.mp e8
  obtain ⟨j, p'⟩ := z
  cases e10
  obtain ⟨o0', o1⟩ := y
  obtain ⟨eo', es'⟩ := plc_some e7
  rw [eo] at eo'
  cases eo'
  obtain ⟨o1', e11, e12⟩ := sub_snoc es
  rw [es'] at e11
  cases e11
  have ed := intOf_some e6
  subst ed
  refine s σ F H A ρ j p' o0 o1 _ at_ e1 eo es' fun v w F1 H1 ev va x1 g1 r1 => ?_
  refine sk σ F1 H1 A ρ _ _ (at_.next g1 r1) e5 fun vk F2 H2 x2 g2 r2 rk => ?_
  have va2 := va.ext x2
  obtain ⟨A1, ro, _⟩ := at_place g2.sub r2 eo es' ev va2
  have rk : vk = .int n := by unfold Rp at rk; exact rk
  subst rk
  obtain ⟨u, _, vu, _, _, _⟩ := focus g2.sub ro e12
  unfold stepI at e9
  cases o1 with
  | lst os =>
    simp only at e9
    split at e9
    · rename_i hk
      cases e9
      obtain ⟨l, ys, u', eu1, eu2, eu3, eu4⟩ := vu
      have ro' := ro
      unfold ORep at ro'
      obtain ⟨l', xs, A0, el1, _, el2, _, _, rl⟩ := ro'
      rw [el1] at eu1
      cases eu1
      rw [el2] at eu2
      cases eu2
      have len := orepL_len rl
      refine .inl ⟨l, ys, n, u', el1, rfl, SqL.of el2, atI_nat2 hk.1 (by rw [len]; exact hk.2) eu3, ?_⟩
      exact k v u' F2 H2 ev (way_snoc va2 ⟨l, ys, u', el1, el2, eu3, rfl⟩) (x1.trans x2) (g1.trans g2) r2
    · cases e9
  | tup os =>
    simp only at e9
    split at e9
    · rename_i hk
      cases e9
      obtain ⟨l, ys, u', eu1, eu2, eu3, eu4⟩ := vu
      have ro' := ro
      unfold ORep at ro'
      obtain ⟨l', xs, el1, el2, rl⟩ := ro'
      rw [el1] at eu1
      cases eu1
      have el3 := g2.sub _ _ el2
      rw [el3] at eu2
      cases eu2
      have len := orepL_len rl
      refine .inr (.inl ⟨l, ys, n, u', el1, rfl, SqT.of el3, atI_nat2 hk.1 (by rw [len]; exact hk.2) eu3, ?_⟩)
      exact k v u' F2 H2 ev (way_snoc va2 ⟨l, ys, u', el1, el3, eu3, rfl⟩) (x1.trans x2) (g1.trans g2) r2
    · cases e9
  | _ => cases e9
/-! ## E.clear(), E.reverse() -/
def pMd (m : List O → List O) (q : Ev → Option (Nat × List Stp)) (ρ : Ev) : Option Ev := (q ρ).bind fun z => (plc ρ z).bind fun y => match y.2 with
  | .lst os => some (setP ρ z y.1 (.lst (m os)))
  | _ => none
def cPMd (m : List O → List O) (q : Ev → Option (Nat × List Stp)) : FE := fun ρ => (ofO (pMd m q ρ)) >>= fun ρ' => .ok (.dat .non, ρ')
theorem orepL_rev {K : PySem.W.Frag} {F H : Hp} : ∀ {os : List O} {xs : List V} {A : List Addr}, ORepL K F H os xs A → ∃ A', ORepL K F H os.reverse xs.reverse A' ∧ ∀ a, a ∈ A' ↔ a ∈ A
  | [], xs, A, h => by
    unfold ORepL at h
    obtain ⟨rfl, rfl⟩ := h
    exact ⟨[], by unfold ORepL; exact ⟨rfl, rfl⟩, fun a => Iff.rfl⟩
  | o :: os, xs, A, h => by
    unfold ORepL at h
    obtain ⟨v, ws, A1, A2, rfl, rfl, dj, h1, h2⟩ := h
    obtain ⟨A3, h3, m3⟩ := orepL_rev h2
    have app : ∀ {ps : List O} {vs : List V} {B : List Addr}, ORepL K F H ps vs B → (∀ a ∈ B, a ∉ A1) → ORepL K F H (ps ++ [o]) (vs ++ [v]) (B ++ A1) := by
      intro ps
      induction ps with
      | nil =>
        intro vs B r _
        unfold ORepL at r
        obtain ⟨rfl, rfl⟩ := r
        show ORepL K F H [o] [v] ([] ++ A1)
        unfold ORepL
        refine ⟨v, [], A1, [], rfl, ?_, ?_, h1, ?_⟩
        · simp
        · intro a _ z
          cases z
        · unfold ORepL
          exact ⟨rfl, rfl⟩
      | cons p ps ih =>
        intro vs B r d
        unfold ORepL at r
        obtain ⟨u, us, B1, B2, rfl, rfl, dj', r1, r2⟩ := r
        show ORepL K F H (p :: (ps ++ [o])) (u :: (us ++ [v])) _
        unfold ORepL
        refine ⟨u, us ++ [v], B1, B2 ++ A1, rfl, by rw [List.append_assoc], fun a m z => ?_, r1, ih r2 fun a m => d a (List.mem_append_right _ m)⟩
        rcases List.mem_append.mp z with z | z
        · exact dj' a m z
        · exact d a (List.mem_append_left _ m) z
    refine ⟨A3 ++ A1, ?_, fun a => ?_⟩
    · rw [List.reverse_cons, List.reverse_cons]
      exact app h3 fun a m z => dj a z ((m3 a).mp m)
    · rw [List.mem_append, List.mem_append, m3 a]
      exact or_comm
theorem de_pmd {e : Expr} {name : Str} {id : String} {r : V → List V → Hp → VK → Prop} {m : List O → List O} {mv : List V → List V} {q : Ev → Option (Nat × List Stp)} {apos cpos : Pos} (h : DQ X T e q) (slot : Slot "list" name id) (hty : typeOf (.builtin id) = pure (.type "method_descriptor")) (hm : ∀ j, MtR (X.at_ j) id r)
    (hr : ∀ l xs H Q, H l = some (.lst xs) → Q .non (upd H l (.lst (mv xs))) → r (.ref l) [] H Q)
    (hmv : ∀ F H (os : List O) xs A, ORepL X.K F H os xs A → ∃ A', ORepL X.K F H (m os) (mv xs) A' ∧ ∀ a ∈ A', a ∈ A)
    (hbase : ∀ j, attributeBase e name (X.at_ j).env (eval e (X.at_ j).env) = eval e (X.at_ j).env := by intro _; rfl) (hline : (apos.endLine == cpos.line) = true := by rfl) :
    DE X T W (.Call (.Attribute e name apos) [] [] cpos) (cPMd m q) := by
  obtain ⟨t, pe, s⟩ := h
  refine ⟨tBM0 X.K "list" r t, fun j => ?_, fun σ F H A ρ Q a p => ?_⟩
  · rw [← X.hK j]
    exact pe_bm0 PySem.F.plainAttrs_list slot hty (hm j) (pe j) (hbase j) hline
  · obtain ⟨ρ', e0, p⟩ := p.opt
    unfold pMd at e0
    obtain ⟨z, e1, e0⟩ := Option.bind_eq_some_iff.mp e0
    obtain ⟨⟨o0, o⟩, e3, e0⟩ := Option.bind_eq_some_iff.mp e0
    obtain ⟨eo, es⟩ := plc_some e3
    cases o with
    | lst os =>
      cases e0
      obtain ⟨i, pp⟩ := z
      refine s σ F H A ρ i pp o0 _ _ a e1 eo es fun v w F1 H1 ev va x1 g1 r1 => ?_
      obtain ⟨A1, ro, _⟩ := at_place g1.sub r1 eo es ev va
      unfold ORep at ro
      obtain ⟨l, xs, A0, rfl, rfl, el, fl, nl, rl⟩ := ro
      refine ⟨.inl ⟨rfl, _, SqL.of el⟩, hr l xs H1 _ el ?_⟩
      obtain ⟨gw, A', r3, m3⟩ := put_place (T := T) (E := []) (x := .lst (m os)) (l := l) (u := .lst xs) (u' := .lst (mv xs)) g1.sub r1 eo es ev va (fun a m => by cases m) (fun B sB rB => by
        unfold ORep at rB
        obtain ⟨l', xs', A0', e1', rfl, el', fl', nl', rl'⟩ := rB
        cases e1'
        rw [el] at el'
        cases el'
        have rs : ORepL X.K F1 (upd H1 l (.lst (mv xs))) os xs A0' := O.stabL os rl' (Sub.refl F1) (fun a m => upd_ne fun z => nl' (by rw [← z]; exact m)) fun a m => (O.lvL os rl' a m).2
        obtain ⟨A2, r2, m2⟩ := hmv _ _ _ _ _ rs
        refine ⟨List.mem_cons_self, el, fl', l :: A2, ?_, fun a ma => .inl ?_⟩
        · unfold ORep
          exact ⟨l, _, A2, rfl, rfl, upd_same, fl', fun z => nl' (m2 l z), r2⟩
        · rcases List.mem_cons.mp ma with rfl | ma
          · exact List.mem_cons_self
          · exact List.mem_cons_of_mem _ (m2 a ma)) (fun _ z => by cases z) (fun _ z => by cases z) (fun _ z => by cases z)
      exact p.now (g1.trans (gw.less fun a m => by simpa using m3 a m)) .non (r3.dat rp_non)
    | _ => cases e0
theorem rev_ok {K : PySem.W.Frag} : ∀ F H (os : List O) xs A, ORepL K F H os xs A → ∃ A', ORepL K F H os.reverse xs.reverse A' ∧ ∀ a ∈ A', a ∈ A := fun F H os xs A h => by
  obtain ⟨A', r, m⟩ := orepL_rev h
  exact ⟨A', r, fun a z => (m a).mp z⟩
/-! ## (d, x): a tuple whose second part is owned -/
def cTup2O (g : Ev → Option D) (f : FE) : FE := fun ρ => match g ρ with
  | some d => f ρ >>= fun p => ofO (toO p.1) >>= fun o => .ok (.ext (.tup [.fz d, o]), p.2)
  | none => .stuck
theorem de_tup2O {e1 e2 : Expr} {g : Ev → Option D} {f : FE} {k pos} (h : DF X T e1 g) (h2 : DE X T W e2 f) (hs1 : ∀ i, starEach [e1, e2] (X.at_ i).env = (false, eval e1 (X.at_ i).env) :: starEach [e2] (X.at_ i).env := by intro _; rfl)
    (hs2 : ∀ i, starEach [e2] (X.at_ i).env = (false, eval e2 (X.at_ i).env) :: starEach [] (X.at_ i).env := by intro _; rfl) : DE X T W (.Tuple [e1, e2] k pos) (cTup2O g f) := by
  obtain ⟨t1, p1, s1⟩ := h
  obtain ⟨t2, p2, s2⟩ := h2
  refine ⟨_, fun i => pe_tup (pa_cons (p1 i) (pa_cons (p2 i) pa_nil (hs2 i)) (hs1 i)), fun σ F H A ρ Q a p => ?_⟩
  unfold cTup2O at p
  cases eg : g ρ with
  | none => rw [eg] at p; exact p.elim
  | some d =>
    rw [eg] at p
    simp only at p
    refine s1 σ F H A ρ d _ a eg fun v1 F1 H1 x1 g1 r1 rd1 => ?_
    refine s2 σ F1 H1 A ρ _ (a.next g1 r1) ?_
    refine (p.after g1).bind.imp fun b ρ2 F2 H2 A2 g2 q2 v2 r2 => ⟨by rw [sizeLine_eq]; simp, fun pn n => ?_⟩
    obtain ⟨o, eo, q3⟩ := q2.opt
    have gl := Go.laid (T := T) (A := A2) (o := .tup [v1, v2]) g2.sub n
    have rl := r2.laid (o := .tup [v1, v2]) g2.sub n
    obtain ⟨ft', A', rfl, kb, tl, dj⟩ := rl.head
    obtain ⟨vo, ev, ro⟩ := toO_rep kb eo
    cases ev
    have rd : Rp X.K (upd F2 pn (.tup [v1, v2])) d v1 := Rp.mono (g2.trans gl).kF d rd1
    have orp : ORep X.K (upd F2 pn (.tup [v1, v2])) (upd H2 pn (.tup [v1, v2])) (.tup [.fz d, o]) (.ref pn) ft' := by
      unfold ORep
      refine ⟨pn, [v1, v2], rfl, upd_same, ?_⟩
      unfold ORepL
      refine ⟨v1, [v2], [], ft', rfl, rfl, ?_, ?_, ?_⟩
      · intro a m
        cases m
      · unfold ORep
        exact ⟨rfl, rd⟩
      · unfold ORepL
        refine ⟨v2, [], ft', [], rfl, ?_, ?_, ro, ?_⟩
        · simp
        · intro a _ z
          cases z
        · unfold ORepL
          exact ⟨rfl, rfl⟩
    exact q3.now gl (.ref pn) (.cons (ft := ft') ⟨.ref pn, rfl, orp⟩ tl dj)
end
end Dl
set_option Elab.async false
set_option linter.all false
set_option maxRecDepth 100000
set_option maxHeartbeats 1000000
namespace Dl
open PySem PySem.Spec L2
open PyProof.Rows hiding St
/-! ## sorted(xs) of data -/
def leD (d e : D) : Bool := PySem.W.dataLe false (fun d => py d) d e
def sortD (ds : List D) : List D := ds.mergeSort leD
def alikeD (ds : List D) : Bool := ds.all fun d => ds.all fun e => PySem.W.alike (py d) (py e)
def tupOne : PyData → Bool
  | .tuple (_ :: _) => true
  | _ => false
def noTup : PyData → Bool
  | .none => false
  | .tuple _ => false
  | _ => true
def sortOk (ds : List D) : Bool := ds.all (fun d => shp d && decide ((py d).depth ≤ 60)) && alikeD ds && (ds.all (fun d => tupOne (py d)) || ds.all (fun d => noTup (py d))) && decide (ds.length ≤ sizeLine)
/-- the rule -/
def rSortedD (K : PySem.W.Frag) : List V → Hp → VK → Prop := fun vs H Q => ∃ (a : Addr) (bs : List (V × PyData)), vs = [V.ref a] ∧ SqL K H a (bs.map (·.1)) ∧ (∀ b ∈ bs, Dp K H b.1 b.2 ∧ b.2.depth ≤ 60) ∧ PySem.W.AllAlike (bs.map (·.2)) ∧ PySem.W.Sortable (bs.map (·.2)) ∧ bs.length ≤ sizeLine ∧
  ∀ p, H p = none → Q (.ref p) (upd H p (.lst ((bs.mergeSort (PySem.W.dataLe false (·.2))).map (·.1))))
theorem each_vals {K : PySem.W.Frag} : ∀ {bs : List (V × PyData)} {us : List Value}, Vals (bs.map (·.1)) us → PySem.W.EachIs (fun u b => RelV b.1 u) us bs
  | [], us, h => by
    cases h
    exact .nil
  | b :: bs, us, h => by
    cases h with
    | cons h1 h2 => exact .cons h1 (each_vals (K := K) h2)
theorem vals_each : ∀ {bs : List (V × PyData)} {us : List Value}, PySem.W.EachIs (fun u b => RelV b.1 u) us bs → Vals (bs.map (·.1)) us
  | [], us, h => by
    cases h
    exact .nil
  | b :: bs, us, h => by
    cases h with
    | cons h1 h2 => exact .cons h1 (vals_each h2)
theorem each_reads {X : Cx} {pins : List (Addr × Obj)} {σ : L2.St} {H : Hp} {s : Shared} (I : Inv X pins σ H s) : ∀ {bs : List (V × PyData)} {us : List Value}, PySem.W.EachIs (fun u b => RelV b.1 u) us bs → (∀ b ∈ bs, Dp X.K H b.1 b.2) →
    PySem.W.EachIs (fun v b => ∃ as, Reads s.heap v b.2 as) us bs
  | [], us, h, _ => by
    cases h
    exact .nil
  | b :: bs, us, h, k => by
    cases h with
    | cons h1 h2 => exact .cons (Dp.reads I _ _ _ (k b List.mem_cons_self) h1) (each_reads I h2 fun b m => k b (List.mem_cons_of_mem _ m))
theorem cr_sortedD {X : Cx} (hu : X.A.units + 65 < cLine) : CallR X (.builtin "sorted") (rSortedD X.K) := by
  intro pins s σ H vs us Q I r h
  obtain ⟨a, bs, rfl, hs, hd, hal, hk, hl, q⟩ := h
  obtain ⟨its, rv, pl, hz⟩ := I.list hs
  obtain ⟨u, rfl, ru⟩ := vals1 r
  obtain rfl : u = Value.ref a := ru
  have ev := each_vals (K := X.K) rv
  refine PySem.W.sorted_data (enc := fun b : V × PyData => b.2) pl.isList ev (each_reads I ev fun b m => (hd b m).1) hal hk hl (fun b m => by have := (hd b m).2; omega) fun out ho eo => ?_
  obtain ⟨c, hc⟩ := PyProof.Rows.sortedAll_at s.heap its out.toArray
  have rv2 := vals_each eo
  have n : H (s.heap.objs.size + 1) = none := I.hok.fresh (Nat.le_succ _)
  refine ⟨.ref (s.heap.objs.size + 1), upd H (s.heap.objs.size + 1) (.lst ((bs.mergeSort (PySem.W.dataLe false (·.2))).map (·.1))), I.laid (t' := s.toks) (fun b o e => PyProof.Rows.sortedAll_old e) (Nat.le_succ _) ⟨?_, out, c, rv2, hc⟩, rfl, q _ n⟩
  rw [List.length_map, List.length_mergeSort]
  exact hl
theorem cr_sortedXD {X : Fam} (hu : ∀ i, (X.at_ i).A.units + 65 < cLine) : ∀ i, CallR (X.at_ i) (.builtin "sorted") (rSortedD X.K) := fun i => by
  rw [← X.hK i]
  exact cr_sortedD (hu i)
def gSortedD : List D → Option B
  | [d] => (lstOf d).bind fun ds => if sortOk ds = true then some (.own (sortD ds)) else none
  | _ => none
theorem pairs_of {K : PySem.W.Frag} {F : Hp} : ∀ {ds : List D} {vs : List V}, RpL K F ds vs → ∃ cs : List (V × D), cs.map (·.1) = vs ∧ cs.map (·.2) = ds ∧ ∀ c ∈ cs, Rp K F c.2 c.1
  | [], vs, h => by
    unfold RpL at h
    exact ⟨[], h.symm, rfl, fun c m => nomatch m⟩
  | d :: ds, vs, h => by
    obtain ⟨v, ws, rfl, h1, h2⟩ := h.inv
    obtain ⟨cs, e1, e2, e3⟩ := pairs_of h2
    refine ⟨(v, d) :: cs, by rw [List.map_cons, e1], by rw [List.map_cons, e2], fun c m => ?_⟩
    rcases List.mem_cons.mp m with rfl | m
    · exact h1
    · exact e3 c m
theorem rpl_of {K : PySem.W.Frag} {F : Hp} : ∀ {cs : List (V × D)}, (∀ c ∈ cs, Rp K F c.2 c.1) → RpL K F (cs.map (·.2)) (cs.map (·.1))
  | [], _ => .nil
  | c :: cs, h => .cons (h c List.mem_cons_self) (rpl_of fun c m => h c (List.mem_cons_of_mem _ m))
theorem vl_sortedD {K : PySem.W.Frag} {T : List (Addr × Str)} : VL K T (rSortedD K) gSortedD := by
  intro F H A ρ σ ds vs b Q s r p e f
  unfold gSortedD at e
  split at e
  · rename_i d
    obtain ⟨v, rfl, hv⟩ := Paired.one p
    obtain ⟨es, q, e⟩ := Option.bind_eq_some_iff.mp e
    split at e
    · rename_i ok
      cases e
      unfold sortOk at ok
      rw [Bool.and_eq_true, Bool.and_eq_true, Bool.and_eq_true, decide_eq_true_eq] at ok
      obtain ⟨⟨⟨ok1, ok2⟩, ok3⟩, ok4⟩ := ok
      obtain ⟨a, us, rfl, h1, h2⟩ := top_lstOf s hv q
      obtain ⟨cs, e1, e2, e3⟩ := pairs_of h2
      have eb : (cs.map fun c => (c.1, py c.2)).map (·.1) = us := by rw [List.map_map, ← e1]; rfl
      have eb2 : (cs.map fun c => (c.1, py c.2)).map (·.2) = es.map py := by rw [List.map_map, ← e2, List.map_map]; rfl
      have hc : ∀ c ∈ cs, c.2 ∈ es := fun c m => by rw [← e2]; exact List.mem_map.mpr ⟨c, m, rfl⟩
      have srt : ((cs.map fun c => (c.1, py c.2)).mergeSort (PySem.W.dataLe false (·.2))) = (cs.mergeSort fun c c' => leD c.2 c'.2).map fun c => (c.1, py c.2) := by
        rw [List.map_mergeSort]
        exact fun a _ b _ => rfl
      have srt2 : (cs.mergeSort fun c c' => leD c.2 c'.2).map (·.2) = sortD es := by
        unfold sortD
        rw [← e2, List.map_mergeSort]
        exact fun a _ b _ => rfl
      refine ⟨a, cs.map fun c => (c.1, py c.2), rfl, by rw [eb]; exact h1, fun b m => ?_, ?_, ?_, ?_, fun p n => ?_⟩
      · obtain ⟨c, mc, rfl⟩ := List.mem_map.mp m
        have sh := List.all_eq_true.mp ok1 _ (hc c mc)
        rw [Bool.and_eq_true, decide_eq_true_eq] at sh
        exact ⟨shp_dp (Rp.mono s _ (e3 c mc)) sh.1, sh.2⟩
      · rw [eb2]
        intro d hd d' hd'
        obtain ⟨x, mx, rfl⟩ := List.mem_map.mp hd
        obtain ⟨y, my, rfl⟩ := List.mem_map.mp hd'
        exact List.all_eq_true.mp (List.all_eq_true.mp ok2 x mx) y my
      · rw [eb2]
        rw [Bool.or_eq_true] at ok3
        rcases ok3 with ok3 | ok3
        · refine .inl fun d hd => ?_
          obtain ⟨x, mx, rfl⟩ := List.mem_map.mp hd
          have := List.all_eq_true.mp ok3 x mx
          unfold tupOne at this
          split at this
          · rename_i y ys e
            exact ⟨y, ys, e⟩
          · cases this
        · refine .inr fun d hd => ?_
          obtain ⟨x, mx, rfl⟩ := List.mem_map.mp hd
          have := List.all_eq_true.mp ok3 x mx
          unfold noTup at this
          refine ⟨fun z => ?_, fun xs z => ?_⟩ <;> (rw [z] at this; cases this)
      · have l1 : cs.length = es.length := by rw [← e2, List.length_map]
        rw [List.length_map, l1]
        exact ok4
      · rw [srt, List.map_map]
        have rl : RpL K F ((cs.mergeSort fun c c' => leD c.2 c'.2).map (·.2)) ((cs.mergeSort fun c c' => leD c.2 c'.2).map (·.1)) := rpl_of fun c m => e3 c ((List.mergeSort_perm _ _).mem_iff.mp m)
        rw [srt2] at rl
        exact f.lst s r rl p n
    · cases e
  · cases e
end Dl
set_option Elab.async false
set_option linter.all false
set_option maxRecDepth 100000
set_option maxHeartbeats 1000000
namespace Dl
open PySem PySem.Spec L2
open PyProof.Rows hiding St
/-! ## several except clauses, each with a name of its own -/
abbrev ClA := Value × Nat × (Addr → Value → Option Addr → TS)
/-- what the clauses want of the exception, in their order -/
def wCls (K : PySem.W.Frag) (Wo : WX) (D : Ends) : List ClA → WX
  | [] => Wo
  | c :: r => wAs K c.1 c.2.1 c.2.2 (wCls K Wo D r) D
/-- a clause that is read rightly -/
structure ClOk (X : Cx) (h : ExceptHandler) (c : ClA) : Prop where
  ex : ∃ (x n : Str) (b0 : Stmt) (ss : List Stmt) (p1 p2 : Pos), h = .ExceptHandler (some (.Name x p1)) (some n) (b0 :: ss) p2 ∧ X.N[c.2.1]? = some n ∧ X.env.kindOf n = some .local ∧ Names X x c.1 ∧
    ∀ (a : Addr) (oe : Obj) (cls : Value) (d : Option Addr) (pn : List (Addr × Obj)), Zc cls d oe → (∃ vs, oe.data = .fields vs) → PSs (X.suite a ((a, oe) :: pn)) (b0 :: ss) (c.2.2 a cls d)
/-- the exception a flies amid the clauses of the frame: s0 is where it was caught -/
structure Amid (X : Cx) (pins : List (Addr × Obj)) (σ : L2.St) (H : Hp) (s s0 : Shared) (Bs : Heap) (a : Addr) (cls : Value) (d : Option Addr) : Prop where
  ok : X.Ok
  fly : HandSPX.FlyingZ Bs (X.env :: X.outer) a (Zc cls d) s.heap
  inv : Inv X pins σ H s0
  nb : ∀ b o, s0.heap.get? b = some o → b ∉ frs X.stack → Bs.get? b = some o
  up : s0.heap.UpToSlots s.heap
  os : s.os = s0.os
  ag : AllBare s.gens
  na : H a = none
section
variable {X : Cx} {pins : List (Addr × Obj)} {σ : L2.St} {H : Hp} {s s0 : Shared} {Bs : Heap} {a : Addr} {cls : Value} {d : Option Addr}
theorem Amid.here (m : Amid X pins σ H s s0 Bs a cls d) : Inv X pins σ H s := m.inv.landed m.nb m.fly.1 m.up m.os m.ag
theorem Amid.obj (m : Amid X pins σ H s s0 Bs a cls d) (hf : X.env.frame = some X.env.locals) (hs : X.stack = X.env :: X.outer) : ∃ oe vs, s.heap.get? a = some oe ∧ Zc cls d oe ∧ oe.data = .fields vs ∧ Inv (X.suite a ((a, oe) :: (X.pn ++ pins))) [] σ H s := by
  obtain ⟨oe, vs, e1, e2, e3⟩ := m.fly.there
  have far : a ∉ frs (X.env :: X.outer) := fun z => by
    obtain ⟨_, o2, e4, nf⟩ := m.fly.2.2.1.mem z
    cases e1.symm.trans e4
    exact nf _ e3
  refine ⟨oe, vs, e1, e2, e3, m.here.suite e1 e3 m.na (fun z => far ?_) fun z => ?_⟩
  · exact List.mem_filterMap.mpr ⟨X.env, List.mem_cons_self, by rw [z]; exact hf⟩
  · obtain ⟨en, me, q⟩ := List.mem_filterMap.mp z
    exact far (List.mem_filterMap.mpr ⟨en, List.mem_cons_of_mem _ me, q⟩)
theorem Amid.move {h' : Heap} (m : Amid X pins σ H s s0 Bs a cls d) (f : HandSPX.FlyingZ Bs (X.env :: X.outer) a (Zc cls d) h') (u : s.heap.UpToSlots h') : Amid X pins σ H { s with heap := h' } s0 Bs a cls d :=
  ⟨m.ok, f, m.inv, m.nb, m.up.trans u, m.os, m.ag, m.na⟩
/-- its class is looked at -/
theorem Amid.asks (m : Amid X pins σ H s s0 Bs a cls d) (hf : X.env.frame = some X.env.locals) (hs : X.stack = X.env :: X.outer) {x : Str} {c : Value} {b : Bool} {np : Pos} {Q : Bool → Shared → Prop} {E1 E2 : Value → Shared → Prop} (hc : Names X x c) (e : PySem.W.exmOne X.K cls c = some b) (q : Q b s) :
    wpAny (model X.prog X.w) (X.A.mark (some (.ref a))) (eval (.Name x np) X.env) (fun u s1 => wpAny (model X.prog X.w) (X.A.mark (some (.ref a))) (excMatches (.ref a) u) Q E1 s1) E2 s := by
  obtain ⟨oe, vs, e1, e2, e3, S⟩ := m.obj hf hs
  have look := PySem.W.exm_one (M := model X.prog X.w) m.here.kIn (fun A Q E t k y => wpAny_typeOf_ref (k _ _ e1) (by rw [e2.1]; exact y)) e
  rcases hc with ⟨g, nd, g2 | ⟨g2, g3, g4⟩⟩
  · exact ld_glob (X := X.suite a ((a, oe) :: (X.pn ++ pins))) S g g2 (look.here q) nd
  · exact ld_blt (X := X.suite a ((a, oe) :: (X.pn ++ pins))) S g g2 g3 (look.here q) g4 nd
/-- no clause is left: it flies on -/
theorem Amid.gone (m : Amid X pins σ H s s0 Bs a cls d) (hf : X.env.frame = some X.env.locals) (hs : X.stack = X.env :: X.outer) {Wo : WX} (tk : Takes X Wo) {D : Ends} (w : Wo cls d σ H) : wpAny (model X.prog X.w) X.A (handleBy (.ref a) X.env []) (SP X pins D) X.xe s := by
  refine wpAny_handleBy_nil ?_
  obtain ⟨_, _, _, oe, vs, tv, ot, ts, e1, _, e3, e4, _⟩ := id m.fly
  have on : wpAny (model X.prog X.w) X.A (setFlight (.ref a) X.env.frame) (fun _ t => wpAny (model X.prog X.w) X.A (throw (.ref a) : Sem Flow) (SP X pins D) X.xe t) X.xe s := by
    rw [hf]
    exact HandSPX.setFlight_upZ m.fly fun h' held u => wpAny_throw (tk _ _ ⟨a, Bs, s0, pins, σ, H, cls, d, rfl, m.inv, m.nb, m.up.trans u, .inr (.inr (hs ▸ held)), m.na, m.os, m.ag, w⟩)
  unfold PySem.passOn
  refine wpAny_bind (wpAny_field e1 e3 e4 ?_)
  rw [if_neg (by simp)]
  first
    | exact wpAny_bind on
    | exact wpAny_bind (wpAny_pure (wpAny_bind on))
/-- the clauses, one after another -/
theorem Amid.clauses (hf : X.env.frame = some X.env.locals) (hs : X.stack = X.env :: X.outer) (hN : X.N.Nodup) {Wo : WX} (tk : Takes X Wo) {D : Ends} : ∀ (hds : List ExceptHandler) (cs : List ClA) {s : Shared}, Amid X pins σ H s s0 Bs a cls d → Paired (ClOk X) hds cs → wCls X.K Wo D cs cls d σ H →
    wpAny (model X.prog X.w) X.A (handleBy (.ref a) X.env hds) (SP X pins D) X.xe s
  | [], cs, s, m, p, w => by
    cases p
    exact m.gone hf hs tk w
  | h :: hds, cs, s, m, p, w => by
    cases p with
    | cons p1 p2 =>
      rename_i c cs
      obtain ⟨x, n, b0, ss, np, pos', rfl, hi, hl, hc, su⟩ := p1.ex
      obtain ⟨b, eb, yes, no⟩ := w
      refine wpAny_handleBy_cons (codeAny_handlers_test (m.asks hf hs hc eb ?_)) (by intro z; cases z)
      cases b with
      | false => exact Amid.clauses hf hs hN tk hds cs m p2 (no rfl)
      | true =>
        refine codeAny_handlers_suite_as (HandSPX.lands_againZ m.fly fun h' f u => ?_)
        have m2 := m.move f u
        obtain ⟨oe, vs, e1, e2, e3, S⟩ := m2.obj hf hs
        refine store_ok (X := X.suite a ((a, oe) :: (X.pn ++ pins))) (v := .ref a) S hN hi (.inl hl) rfl (fun t St => ?_) (.inr hl)
        refine wpAny_mono ((su a oe cls d (X.pn ++ pins) e2 ⟨_, e3⟩).run [] t _ H _ St (yes rfl a m.na)) (fun fl t2 q => ?_) fun _ _ z => z.elim
        cases fl with
        | next =>
          obtain ⟨σ2, H2, S2, q2⟩ := q
          exact gone_ok (S2.unsuite m.ok) hN hi hl fun t3 J => ⟨_, _, J, q2⟩
        | brk =>
          obtain ⟨σ2, H2, S2, q2⟩ := q
          exact gone_ok (S2.unsuite m.ok) hN hi hl fun t3 J => ⟨_, _, J, q2⟩
        | cont =>
          obtain ⟨σ2, H2, S2, q2⟩ := q
          exact gone_ok (S2.unsuite m.ok) hN hi hl fun t3 J => ⟨_, _, J, q2⟩
        | ret v =>
          obtain ⟨v2, σ2, H2, S2, r2, q2⟩ := q
          exact gone_ok (S2.unsuite m.ok) hN hi hl fun t3 J => ⟨_, _, _, J, r2, q2⟩
/-- try, with clauses that bear names -/
theorem ps_clauses {body : List Stmt} {h0 : ExceptHandler} {hds : List ExceptHandler} {cs : List ClA} {pos : Pos} {tb : WX → TS} {Wo : WX} (hs : X.stack = X.env :: X.outer) (hf : X.env.frame = some X.env.locals) (hN : X.N.Nodup) (tk : Takes X Wo)
    (hb : ∀ (W : WX) (pn : List (Addr × Obj)) (xe : Value → Shared → Prop), Takes (X.tr pn xe) W → PassesOwn (model X.prog X.w) X.A X.env xe → PSs (X.tr pn xe) body (tb W)) (hh : Paired (ClOk X) (h0 :: hds) cs) :
    PS X (.Try body (h0 :: hds) [] [] pos) (fun D σ H => tb (wCls X.K Wo D cs) D σ H) := by
  refine ⟨fun pins s σ H D I h => wpAny_Try_except (wpAny_mono ((hb (wCls X.K Wo D cs) (X.pn ++ pins) _ ?_ PassesOwn.looking).run [] s σ H D (I.toTry _) h) ?_ fun _ _ z => z)⟩
  · rintro u t ⟨a, Bs, t0, pn', σ1, H1, cls, d, rfl, J, nb, up, sky, na, os, ag, w⟩
    have ok := I.ok
    refine Sky.land Zc.steady (by rw [ok.frames, hs]) hf (by rw [← hs]; exact sky) fun h' f u => ?_
    exact Amid.clauses hf hs hN tk (h0 :: hds) cs ⟨ok, f, J.ofTry ok, nb, up.trans u, os, ag, na⟩ hh w
  · intro fl t q
    have ok := I.ok
    cases fl with
    | next =>
      obtain ⟨σ1, H1, J, q⟩ := q
      exact wpAny_execs_nil ⟨σ1, H1, J.ofTry ok, q⟩
    | brk =>
      obtain ⟨σ1, H1, J, q⟩ := q
      exact ⟨σ1, H1, J.ofTry ok, q⟩
    | cont =>
      obtain ⟨σ1, H1, J, q⟩ := q
      exact ⟨σ1, H1, J.ofTry ok, q⟩
    | ret v =>
      obtain ⟨v1, σ1, H1, J, r, q⟩ := q
      exact ⟨v1, σ1, H1, J.ofTry ok, r, q⟩
end
end Dl
set_option Elab.async false
set_option linter.all false
set_option maxRecDepth 100000
set_option maxHeartbeats 1000000
namespace Dl
open PySem PySem.Spec L2
open PyProof.Rows hiding St
/-! ## try, two clauses with names -/
section
variable {X : Fam} {T : List (Addr × Str)} {W : WX} {P : List Nat}
/-- the suite of a clause that fits -/
theorem suite_sound {i : Nat} {b0 : Stmt} {suite : List Stmt} {x : Exc} {su : Exc → FS} {σ σ' : St} {F H F' H' : Hp} {A A' : List Addr} {ρ ρ' : Ev} {E : Ends} {C' a : Addr} {dd : Option Addr} (hP : i ∉ P) (hps : ∀ i ∈ X.ps, i ∈ P)
    (hsu : ∀ (x : Exc) (a : Addr) (cls : Value) (d : Option Addr), (∃ C', cls = .ref C' ∧ ClsN X.K x.cls C') → DSs (suF X x i a cls d) T W0 (i :: P) (b0 :: suite) (su x)) (at_ : At X T F H ρ σ A) (g : Go T A F H A' F' H') (r : RepS X.K F' H' ρ' σ' A') (k : Keep P σ σ') (nC' : ClsN X.K x.cls C') (hfs : XfI X.K F' x.fs dd)
    (p : PostS X.K T W P σ F H A (if i < ρ'.length then wipeO i (su x (ρ'.set i .un)) else .stuck) E) : tU (suF X ⟨"", none⟩ i a (.ref C') dd) (b0 :: suite) { nx := fun σ' H' => E.nx (σ'.set i none) H', rt := E.rt, bk := fun σ' H' => E.bk (σ'.set i none) H', ct := fun σ' H' => E.ct (σ'.set i none) H' } (σ'.set i (some (.ref a))) H' := by
  split at p
  · rename_i hlt
    have hlt' : i < σ'.length := by rw [← r.length]; exact hlt
    obtain ⟨t, ht, sound⟩ := hsu x a (.ref C') dd ⟨C', rfl, nC'⟩
    refine ⟨t, ht, ?_⟩
    obtain ⟨A2, r2, m2⟩ := r.set (i := i) (b' := .un) (sv' := some (.ref a)) (ft' := []) rfl (fun a z => by cases z)
    have m2' : ∀ z ∈ A2, z ∈ A' := fun z hz => (m2 z hz).elim id fun h => by cases h
    have g2 : Go T A F H A2 F' H' := g.less m2'
    have hgi : (σ'.set i (some (.ref a)))[i]? = some (some (.ref a)) := List.getElem?_set_self hlt'
    have nps : i ∉ X.ps := fun h => hP (hps i h)
    have iv : X.inv (σ'.set i (some (.ref a))) F' := X.mono at_.inv g.kF fun j m => by
      rw [List.getElem?_set_ne fun z => nps (by rw [z]; exact m)]
      exact k j (hps j m)
    refine sound (fun j hj => ?_) (σ'.set i (some (.ref a))) F' H' A2 (ρ'.set i .un) _ ⟨g2.sub, g2.tab at_.tab, r2, ⟨iv, hgi, hfs⟩, g2.ntb at_.ntb⟩ ?_
    · rcases List.mem_cons.mp hj with z | z
      · rw [z]
        exact List.mem_cons_self
      · exact List.mem_cons_of_mem _ (hps j z)
    · have kk : ∀ {σ2 : St}, Keep (i :: P) (σ'.set i (some (.ref a))) σ2 → Keep P σ σ2 := fun {σ2} h j hj => by
        rw [h j (List.mem_cons_of_mem _ hj), List.getElem?_set_ne fun z => hP (by rw [z]; exact hj)]
        exact k j hj
      have wipeS : ∀ {ρ2 : Ev} {σ2 : St} {F2 H2 : Hp} {A2' : List Addr}, RepS X.K F2 H2 ρ2 σ2 A2' → ∃ A3, RepS X.K F2 H2 (ρ2.set i .un) (σ2.set i none) A3 ∧ ∀ z ∈ A3, z ∈ A2' := fun {ρ2 σ2 F2 H2 A2'} h => by
        obtain ⟨A3, r3, m3⟩ := h.set (i := i) (b' := .un) (sv' := none) (ft' := []) rfl (fun a z => by cases z)
        exact ⟨A3, r3, fun z hz => (m3 z hz).elim id fun h => by cases h⟩
      have keepW : ∀ {σ2 : St}, Keep P σ σ2 → Keep P σ (σ2.set i none) := fun {σ2} h j hj => by
        rw [List.getElem?_set_ne fun z => hP (by rw [z]; exact hj)]
        exact h j hj
      cases qu : su x (ρ'.set i .un) with
      | nx ρ2 =>
        rw [qu] at p
        intro σ3 F3 H3 A3 g3 r3 k3
        obtain ⟨A4, r4, m4⟩ := wipeS r3
        exact p (σ3.set i none) F3 H3 A4 ((g2.trans g3).less m4) r4 (keepW (kk k3))
      | bk ρ2 =>
        rw [qu] at p
        intro σ3 F3 H3 A3 g3 r3 k3
        obtain ⟨A4, r4, m4⟩ := wipeS r3
        exact p (σ3.set i none) F3 H3 A4 ((g2.trans g3).less m4) r4 (keepW (kk k3))
      | ct ρ2 =>
        rw [qu] at p
        intro σ3 F3 H3 A3 g3 r3 k3
        obtain ⟨A4, r4, m4⟩ := wipeS r3
        exact p (σ3.set i none) F3 H3 A4 ((g2.trans g3).less m4) r4 (keepW (kk k3))
      | rt b ρ2 =>
        rw [qu] at p
        intro v σ3 F3 H3 A3 g3 r3 k3
        obtain ⟨ft, A1, rfl, kb, t3, dj⟩ := r3.head
        obtain ⟨A4, r4, m4⟩ := wipeS t3
        exact p v (σ3.set i none) F3 H3 (ft ++ A4) ((g2.trans g3).less fun z hz => by
          rcases List.mem_append.mp hz with y | y
          · exact List.mem_append_left _ y
          · exact List.mem_append_right _ (m4 z y)) (.cons kb r4 fun z hz hy => dj z hz (m4 z hy)) (keepW (kk k3))
      | er x2 ρ2 =>
        rw [qu] at p
        exact p.elim
      | stuck =>
        rw [qu] at p
        exact p.elim
  · exact p.elim
def sTry2 (R : List (Str × List Str)) (c1 : Str) (i1 : Nat) (su1 : Exc → FS) (c2 : Str) (i2 : Nat) (su2 : Exc → FS) (bd : FS) : FS := fun ρ => match bd ρ with
  | .er x ρ' => match subX R x.cls c1 with
    | some true => if i1 < ρ'.length then wipeO i1 (su1 x (ρ'.set i1 .un)) else .stuck
    | some false => match subX R x.cls c2 with
      | some true => if i2 < ρ'.length then wipeO i2 (su2 x (ρ'.set i2 .un)) else .stuck
      | some false => .er x ρ'
      | none => .stuck
    | none => .stuck
  | o => o
theorem ds_try2 {c1 n1 c2 n2 : Str} {i1 i2 : Nat} {R : List (Str × List Str)} {C1 C2 : Addr} {body ss1 ss2 : List Stmt} {b1 b2 : Stmt} {np1 np2 pos pos1 pos2 : Pos} {bd : FS} {su1 su2 : Exc → FS} (xa1 : ExcsAt X.K R c1 C1) (xa2 : ExcsAt X.K R c2 C2) (hs : ∀ j, (X.at_ j).stack = (X.at_ j).env :: (X.at_ j).outer) (hf : ∀ j, (X.at_ j).env.frame = some (X.at_ j).env.locals)
    (hN : ∀ j, (X.at_ j).N.Nodup) (hi1 : ∀ j, (X.at_ j).N[i1]? = some n1) (hl1 : ∀ j, (X.at_ j).env.kindOf n1 = some .local) (hi2 : ∀ j, (X.at_ j).N[i2]? = some n2) (hl2 : ∀ j, (X.at_ j).env.kindOf n2 = some .local) (hc1 : ∀ j, Names (X.at_ j) c1 (.ref C1)) (hc2 : ∀ j, Names (X.at_ j) c2 (.ref C2)) (tk : ∀ j, Takes (X.at_ j) W) (hP1 : i1 ∉ P) (hP2 : i2 ∉ P)
    (hb : ∀ W', DSs (trF X W') T W' P body bd) (hsu1 : ∀ (x : Exc) (a : Addr) (cls : Value) (d : Option Addr), (∃ C', cls = .ref C' ∧ ClsN X.K x.cls C') → DSs (suF X x i1 a cls d) T W0 (i1 :: P) (b1 :: ss1) (su1 x))
    (hsu2 : ∀ (x : Exc) (a : Addr) (cls : Value) (d : Option Addr), (∃ C', cls = .ref C' ∧ ClsN X.K x.cls C') → DSs (suF X x i2 a cls d) T W0 (i2 :: P) (b2 :: ss2) (su2 x)) :
    DS X T W P (.Try body [.ExceptHandler (some (.Name c1 np1)) (some n1) (b1 :: ss1) pos1, .ExceptHandler (some (.Name c2 np2)) (some n2) (b2 :: ss2) pos2] [] [] pos) (sTry2 R c1 i1 su1 c2 i2 su2 bd) := by
  refine ⟨fun E σ H => Classical.choose (hb (wCls X.K W E [(.ref C1, i1, fun a cls d => tU (suF X ⟨"", none⟩ i1 a cls d) (b1 :: ss1)), (.ref C2, i2, fun a cls d => tU (suF X ⟨"", none⟩ i2 a cls d) (b2 :: ss2))])) E σ H, fun j => ?_, fun hps σ F H A ρ E at_ p => ?_⟩
  · rw [← X.hK j]
    refine ps_clauses (X := X.at_ j) (tb := fun W' => Classical.choose (hb W')) (hs j) (hf j) (hN j) (tk j) (fun W' pn xe t po => (Classical.choose_spec (hb W')).1 ⟨j, pn, xe, t, po⟩) (.cons ⟨_, _, _, _, _, _, rfl, hi1 j, hl1 j, hc1 j, fun a oe cls d pn hz hv => pss_U (X := suF X ⟨"", none⟩ i1 a cls d) ⟨j, oe, pn, hz, hv⟩⟩ (.cons ⟨_, _, _, _, _, _, rfl, hi2 j, hl2 j, hc2 j, fun a oe cls d pn hz hv => pss_U (X := suF X ⟨"", none⟩ i2 a cls d) ⟨j, oe, pn, hz, hv⟩⟩ .nil))
  · refine (Classical.choose_spec (hb (wCls X.K W E [(.ref C1, i1, fun a cls d => tU (suF X ⟨"", none⟩ i1 a cls d) (b1 :: ss1)), (.ref C2, i2, fun a cls d => tU (suF X ⟨"", none⟩ i2 a cls d) (b2 :: ss2))]))).2 hps σ F H A ρ E ⟨at_.sub, at_.tab, at_.rep, at_.inv, at_.ntb⟩ ?_
    unfold sTry2 at p
    cases q : bd ρ with
    | nx ρ' =>
      rw [q] at p
      exact p
    | rt b ρ' =>
      rw [q] at p
      exact p
    | bk ρ' =>
      rw [q] at p
      exact p
    | ct ρ' =>
      rw [q] at p
      exact p
    | stuck =>
      rw [q] at p
      exact p
    | er x ρ' =>
      rw [q] at p
      simp only at p
      intro σ' F' H' A' cls dd g r k rx
      obtain ⟨⟨C', rfl, nC'⟩, hfs⟩ := id rx
      cases qs : subX R x.cls c1 with
      | none =>
        rw [qs] at p
        exact p.elim
      | some b =>
        rw [qs] at p
        have hm := xa1.sub x.cls b qs C' nC'
        cases b with
        | true => exact ⟨true, hm, fun _ a na => suite_sound hP1 hps hsu1 at_ g r k nC' hfs p, fun z => Bool.noConfusion z⟩
        | false =>
          refine ⟨false, hm, fun z => Bool.noConfusion z, fun _ => ?_⟩
          simp only at p
          cases qt : subX R x.cls c2 with
          | none =>
            rw [qt] at p
            exact p.elim
          | some b =>
            rw [qt] at p
            have hm2 := xa2.sub x.cls b qt C' nC'
            cases b with
            | true => exact ⟨true, hm2, fun _ a na => suite_sound hP2 hps hsu2 at_ g r k nC' hfs p, fun z => Bool.noConfusion z⟩
            | false => exact ⟨false, hm2, fun z => Bool.noConfusion z, fun _ => p σ' F' H' A' _ dd g r k rx⟩
end
end Dl
set_option Elab.async false
set_option linter.all false
set_option maxRecDepth 100000
set_option maxHeartbeats 8000000
namespace Law
open PySem PySem.Spec L2 Dl
open PyProof.Rows hiding St
def top (i : Nat) : Stmt := PySem.Challenge.pw_asifalone_k73_sights_told.main.body.getD i (.Pass ⟨0, 0, 0, 0⟩)
abbrev s_law_digit : Stmt := top 27
abbrev N_law_digit : List Str := ["_law_state", "_law_base", "_law_cell", "_law_found", "_law_number"]
theorem sc_law_digit : FnScope N_law_digit ["_law_state", "_law_base"] (defScope s_law_digit) := ⟨rfl, rfl, rfl, by decide +kernel, rfl, by decide +kernel, by decide +kernel⟩
abbrev s_law_of : Stmt := top 28
abbrev N_law_of : List Str := ["_law_state", "_law_some"]
theorem sc_law_of : FnScope N_law_of ["_law_state", "_law_some"] (defScope s_law_of) := ⟨rfl, rfl, rfl, by decide +kernel, rfl, by decide +kernel, by decide +kernel⟩
abbrev s_law_cell_at : Stmt := top 26
abbrev N_law_cell_at : List Str := ["_law_script", "_law_k"]
theorem sc_law_cell_at : FnScope N_law_cell_at ["_law_script", "_law_k"] (defScope s_law_cell_at) := ⟨rfl, rfl, rfl, by decide +kernel, rfl, by decide +kernel, by decide +kernel⟩
abbrev s_law_steps : Stmt := top 29
abbrev N_law_steps : List Str := ["_law_state", "_law_slots", "_law_most", "_law_rows", "_law_left", "_law_slot", "_law_way", "_law_steps_here", "_law_k", "_law_row"]
theorem sc_law_steps : FnScope N_law_steps ["_law_state", "_law_slots", "_law_most"] (defScope s_law_steps) := ⟨rfl, rfl, rfl, by decide +kernel, rfl, by decide +kernel, by decide +kernel⟩
abbrev s_law_program : Stmt := top 30
abbrev N_law_program : List Str := ["_law_state", "_law_keys_most", "_law_most", "_law_many", "_law_tables", "_law_k", "_law_slots", "_law_box"]
theorem sc_law_program : FnScope N_law_program ["_law_state", "_law_keys_most", "_law_most"] (defScope s_law_program) := ⟨rfl, rfl, rfl, by decide +kernel, rfl, by decide +kernel, by decide +kernel⟩
abbrev s_law_spots : Stmt := top 31
abbrev N_law_spots : List Str := ["_law_tables", "_law_others", "_law_rows", "_law_table", "_law_later", "_law_row", "_law_place", "_law_k"]
theorem sc_law_spots : FnScope N_law_spots ["_law_tables", "_law_others"] (defScope s_law_spots) := ⟨rfl, rfl, rfl, by decide +kernel, rfl, by decide +kernel, by decide +kernel⟩
abbrev s_law_sights : Stmt := top 32
abbrev N_law_sights : List Str := ["_law_some", "_law_number", "_law_found", "_law_k", "_law_spots_here"]
theorem sc_law_sights : FnScope N_law_sights ["_law_some", "_law_number"] (defScope s_law_sights) := ⟨rfl, rfl, rfl, by decide +kernel, rfl, by decide +kernel, by decide +kernel⟩
abbrev s_is_from : Stmt := top 6
abbrev N_is_from : List Str := ["thing", "low", "high"]
theorem sc_is_from : FnScope N_is_from ["thing", "low", "high"] (defScope s_is_from) := ⟨rfl, rfl, rfl, by decide +kernel, rfl, by decide +kernel, by decide +kernel⟩
abbrev s_are_tables : Stmt := top 16
abbrev N_are_tables : List Str := ["thing", "table"]
theorem sc_are_tables : FnScope N_are_tables ["thing"] (defScope s_are_tables) := ⟨rfl, rfl, rfl, by decide +kernel, rfl, by decide +kernel, by decide +kernel⟩
abbrev s_in_order : Stmt := top 7
abbrev N_in_order : List Str := ["steps", "at", "step"]
theorem sc_in_order : FnScope N_in_order ["steps"] (defScope s_in_order) := ⟨rfl, rfl, rfl, by decide +kernel, rfl, by decide +kernel, by decide +kernel⟩
abbrev s_is_slot : Stmt := top 14
abbrev N_is_slot : List Str := ["thing", "many"]
theorem sc_is_slot : FnScope N_is_slot ["thing", "many"] (defScope s_is_slot) := ⟨rfl, rfl, rfl, by decide +kernel, rfl, by decide +kernel, by decide +kernel⟩
abbrev s_is_slot_step : Stmt := top 15
abbrev N_is_slot_step : List Str := ["thing", "many"]
theorem sc_is_slot_step : FnScope N_is_slot_step ["thing", "many"] (defScope s_is_slot_step) := ⟨rfl, rfl, rfl, by decide +kernel, rfl, by decide +kernel, by decide +kernel⟩
abbrev s_is_program : Stmt := top 17
abbrev N_is_program : List Str := ["thing", "tables", "steps", "step", "slots", "word", "slot", "place"]
theorem sc_is_program : FnScope N_is_program ["thing"] (defScope s_is_program) := ⟨rfl, rfl, rfl, by decide +kernel, rfl, by decide +kernel, by decide +kernel⟩
abbrev s_are_programs : Stmt := top 18
abbrev N_are_programs : List Str := ["thing", "program"]
theorem sc_are_programs : FnScope N_are_programs ["thing"] (defScope s_are_programs) := ⟨rfl, rfl, rfl, by decide +kernel, rfl, by decide +kernel, by decide +kernel⟩
abbrev s_sure_programs : Stmt := top 19
abbrev N_sure_programs : List Str := ["thing"]
theorem sc_sure_programs : FnScope N_sure_programs ["thing"] (defScope s_sure_programs) := ⟨rfl, rfl, rfl, by decide +kernel, rfl, by decide +kernel, by decide +kernel⟩
abbrev s_sure_program_number : Stmt := top 23
abbrev N_sure_program_number : List Str := ["programs", "number"]
theorem sc_sure_program_number : FnScope N_sure_program_number ["programs", "number"] (defScope s_sure_program_number) := ⟨rfl, rfl, rfl, by decide +kernel, rfl, by decide +kernel, by decide +kernel⟩
abbrev s_all_spots : Stmt := top 21
abbrev N_all_spots : List Str := ["tables", "others", "rows", "table", "places", "place", "other", "row"]
theorem sc_all_spots : FnScope N_all_spots ["tables", "others"] (defScope s_all_spots) := ⟨rfl, rfl, rfl, by decide +kernel, rfl, by decide +kernel, by decide +kernel⟩
abbrev s_all_sights : Stmt := top 22
abbrev N_all_sights : List Str := ["programs", "number", "tables", "found", "one", "program", "spots"]
theorem sc_all_sights : FnScope N_all_sights ["programs", "number"] (defScope s_all_sights) := ⟨rfl, rfl, rfl, by decide +kernel, rfl, by decide +kernel, by decide +kernel⟩
abbrev s_sights : Stmt := top 24
abbrev N_sights : List Str := ["programs", "number"]
theorem sc_sights : FnScope N_sights ["programs", "number"] (defScope s_sights) := ⟨rfl, rfl, rfl, by decide +kernel, rfl, by decide +kernel, by decide +kernel⟩
abbrev s_law_told : Stmt := top 37
abbrev N_law_told : List Str := ["_law_some", "_law_number", "e"]
theorem sc_law_told : FnScope N_law_told ["_law_some", "_law_number"] (defScope s_law_told) := ⟨rfl, rfl, rfl, by decide +kernel, rfl, by decide +kernel, by decide +kernel⟩
abbrev s_law_keys : Stmt := top 35
abbrev N_law_keys : List Str := ["_law_state", "_law_tables", "_law_left", "_law_table"]
theorem sc_law_keys : FnScope N_law_keys ["_law_state", "_law_tables"] (defScope s_law_keys) := ⟨rfl, rfl, rfl, by decide +kernel, rfl, by decide +kernel, by decide +kernel⟩
abbrev s_law_sight_of : Stmt := top 36
abbrev N_law_sight_of : List Str := ["_law_some", "_law_number", "_law_first", "_law_other", "_law_worths", "_law_spots_here", "_law_k", "_law_place", "_law_j"]
theorem sc_law_sight_of : FnScope N_law_sight_of ["_law_some", "_law_number", "_law_first", "_law_other", "_law_worths"] (defScope s_law_sight_of) := ⟨rfl, rfl, rfl, by decide +kernel, rfl, by decide +kernel, by decide +kernel⟩
abbrev s_law_is_sight : Stmt := top 38
abbrev N_law_is_sight : List Str := ["_law_thing", "_law_part"]
theorem sc_law_is_sight : FnScope N_law_is_sight ["_law_thing"] (defScope s_law_is_sight) := ⟨rfl, rfl, rfl, by decide +kernel, rfl, by decide +kernel, by decide +kernel⟩
abbrev s_law_right : Stmt := top 39
abbrev N_law_right : List Str := ["_law_state", "_law_some", "_law_number", "_law_due", "_law_turn", "_law_found", "_law_one", "_law_other", "_law_first"]
theorem sc_law_right : FnScope N_law_right ["_law_state", "_law_some", "_law_number"] (defScope s_law_right) := ⟨rfl, rfl, rfl, by decide +kernel, rfl, by decide +kernel, by decide +kernel⟩
abbrev s_law : Stmt := top 40
abbrev N_law : List Str := ["_law_script", "_law_cell", "_law_state", "_law_some", "_law_k", "_law_kept", "_law_number", "_law_odd", "_law_bad"]
theorem sc_law : FnScope N_law ["_law_script"] (defScope s_law) := ⟨rfl, rfl, rfl, by decide +kernel, rfl, by decide +kernel, by decide +kernel⟩
def dlen : D → Nat | D.lst xs => xs.length | _ => 0
def w_law_steps_1 : Ev → Nat := fun ρ => match ρ[3]? with | some (B.own ds) => (ds.map dlen).sum + 1 | some (B.dat (D.lst ds)) => (ds.map dlen).sum + 1 | _ => 0
def R_cls : List (Str × List Str) := [("NoNumber", ["NoNumber", "AloneError", "ValueError"]), ("NoPrograms", ["NoPrograms", "AloneError", "ValueError"])]
def q_law_digit_1 : FS := (sIf (cT (c2 gEq (cO (cCB gLen (aCons (cNO 0) aNil))) (cO (cC (.int 1)))))
  (sSeq (sSet 2 (c2 gIx (cNO 0) (cO (cC (.int 0))))) (sSeq (sPut 0 (c2 gIx (cO (cLst (aCons (cO (cC (.int 0))) (aCons (cNO 2) aNil)))) (cO (cCB gInt (aCons (cO (c2 gGe (cNO 2) (cO (c2 gPow (cO (cC (.int 10))) (cO (cC (.int 18))))))) aNil)))) (cO (cC (.int 0)))) (sE (cMut 0 gExtend (aCons (cO (cLst (aCons (cO (c2 gMod (cNO 2) (cO (cC (.int 2147483647))))) (aCons (cO (cC (.int 0))) aNil)))) aNil)))))
  sNil)
@[simp] theorem uq_law_digit_1 (s : Ev) : q_law_digit_1 s = (sIf (cT (c2 gEq (cO (cCB gLen (aCons (cNO 0) aNil))) (cO (cC (.int 1)))))
  (sSeq (sSet 2 (c2 gIx (cNO 0) (cO (cC (.int 0))))) (sSeq (sPut 0 (c2 gIx (cO (cLst (aCons (cO (cC (.int 0))) (aCons (cNO 2) aNil)))) (cO (cCB gInt (aCons (cO (c2 gGe (cNO 2) (cO (c2 gPow (cO (cC (.int 10))) (cO (cC (.int 18))))))) aNil)))) (cO (cC (.int 0)))) (sE (cMut 0 gExtend (aCons (cO (cLst (aCons (cO (c2 gMod (cNO 2) (cO (cC (.int 2147483647))))) (aCons (cO (cC (.int 0))) aNil)))) aNil)))))
  sNil) s := rfl
def q_law_digit_2 : FS := (sIf (cT (c2 gGt (cO (c2 gIx (cNO 0) (cO (cC (.int 0))))) (cO (cC (.int 0)))))
  (sSeq (sSet 3 (c2 gMod (cO (c2 gIx (cNO 0) (cO (cC (.int 0))))) (cNO 1))) (sSeq (sPut 0 (c2 gDiv (cO (c2 gIx (cNO 0) (cO (cC (.int 0))))) (cNO 1)) (cO (cC (.int 0)))) (sRet (cN 3))))
  sNil)
@[simp] theorem uq_law_digit_2 (s : Ev) : q_law_digit_2 s = (sIf (cT (c2 gGt (cO (c2 gIx (cNO 0) (cO (cC (.int 0))))) (cO (cC (.int 0)))))
  (sSeq (sSet 3 (c2 gMod (cO (c2 gIx (cNO 0) (cO (cC (.int 0))))) (cNO 1))) (sSeq (sPut 0 (c2 gDiv (cO (c2 gIx (cNO 0) (cO (cC (.int 0))))) (cNO 1)) (cO (cC (.int 0)))) (sRet (cN 3))))
  sNil) s := rfl
def q_law_digit_3 : FS := (sPut 0 (c2 gAdd (cO (c2 gIx (cNO 0) (cO (cC (.int 2))))) (cO (cC (.int 1)))) (cO (cC (.int 2))))
@[simp] theorem uq_law_digit_3 (s : Ev) : q_law_digit_3 s = (sPut 0 (c2 gAdd (cO (c2 gIx (cNO 0) (cO (cC (.int 2))))) (cO (cC (.int 1)))) (cO (cC (.int 2)))) s := rfl
def q_law_digit_4 : FS := (sSet 4 (c2 gMod (cO (c2 gMul (cO (c2 gAdd (cO (c2 gAdd (cO (c2 gIx (cNO 0) (cO (cC (.int 1))))) (cO (c2 gMul (cO (cC (.int 7919))) (cO (c2 gIx (cNO 0) (cO (cC (.int 2))))))))) (cO (cC (.int 1))))) (cO (cC (.int 48271))))) (cO (cC (.int 2147483647)))))
@[simp] theorem uq_law_digit_4 (s : Ev) : q_law_digit_4 s = (sSet 4 (c2 gMod (cO (c2 gMul (cO (c2 gAdd (cO (c2 gAdd (cO (c2 gIx (cNO 0) (cO (cC (.int 1))))) (cO (c2 gMul (cO (cC (.int 7919))) (cO (c2 gIx (cNO 0) (cO (cC (.int 2))))))))) (cO (cC (.int 1))))) (cO (cC (.int 48271))))) (cO (cC (.int 2147483647))))) s := rfl
def q_law_digit_5 : FS := (sSet 4 (c2 gMod (cO (c2 gMul (cNO 4) (cO (c2 gAdd (cO (c2 gDiv (cNO 4) (cO (cC (.int 1009))))) (cO (cC (.int 69621))))))) (cO (cC (.int 2147483647)))))
@[simp] theorem uq_law_digit_5 (s : Ev) : q_law_digit_5 s = (sSet 4 (c2 gMod (cO (c2 gMul (cNO 4) (cO (c2 gAdd (cO (c2 gDiv (cNO 4) (cO (cC (.int 1009))))) (cO (cC (.int 69621))))))) (cO (cC (.int 2147483647))))) s := rfl
def q_law_digit_6 : FS := (sRet (c2 gMod (cO (c2 gMod (cO (c2 gMul (cNO 4) (cO (c2 gAdd (cO (c2 gDiv (cNO 4) (cO (cC (.int 2003))))) (cO (cC (.int 40692))))))) (cO (cC (.int 2147483399))))) (cNO 1)))
@[simp] theorem uq_law_digit_6 (s : Ev) : q_law_digit_6 s = (sRet (c2 gMod (cO (c2 gMod (cO (c2 gMul (cNO 4) (cO (c2 gAdd (cO (c2 gDiv (cNO 4) (cO (cC (.int 2003))))) (cO (cC (.int 40692))))))) (cO (cC (.int 2147483399))))) (cNO 1))) s := rfl
def m_law_digit : FS := (sSeq q_law_digit_1 (sSeq q_law_digit_2 (sSeq q_law_digit_3 (sSeq q_law_digit_4 (sSeq q_law_digit_5 q_law_digit_6)))))
def f_law_digit : FG := toF [0] 2 5 m_law_digit
def m_law_of : FS := (sRet (c2 gIx (cNO 1) (cO (cCall f_law_digit (aCons (cNO 0) (aCons (cO (cCB gLen (aCons (cNO 1) aNil))) aNil))))))
def f_law_of : FG := toF [0] 2 2 m_law_of
def m_law_cell_at : FS := (sSeq (sIf (cT (c2 gLt (cNO 1) (cO (cCB gLen (aCons (cNO 0) aNil)))))
  (sRet (c2 gIx (cNO 0) (cNO 1)))
  sNil) (sRet (cC (.int 0))))
def f_law_cell_at : FG := toF [] 2 2 m_law_cell_at
-- measure wanted: def w_law_steps_1 : Ev → Nat
def b_law_steps_1 : FS := (sSeq (sSet 6 (cD (cCall f_law_digit (aCons (cNO 0) (aCons (cO (cC (.int 3))) aNil))))) (sIf (cAndT (cT (c2 gEq (cNO 6) (cO (cC (.int 2))))) (cT (c2 gGt (cNO 4) (cO (cC (.int 0))))))
  (sSeq (sE (cAppend 3 (cLst (aCons (cO (cTup (aCons (cO (cC (.str "read"))) (aCons (cNO 5) aNil)))) (aCons (cO (cTup (aCons (cO (cC (.str "write"))) (aCons (cNO 5) aNil)))) aNil))))) (sSet 4 (c2 gSub (cNO 4) (cO (cC (.int 1))))))
  (sE (cAppend 3 (cLst (aCons (cO (cTup (aCons (cO (c2 gIx (cO (cLst (aCons (cO (cC (.str "read"))) (aCons (cO (cC (.str "write"))) aNil)))) (cO (c2 gMod (cNO 6) (cO (cC (.int 2))))))) (aCons (cNO 5) aNil)))) aNil))))))
theorem ub_law_steps_1 (s : Ev) : b_law_steps_1 s = (sSeq (sSet 6 (cD (cCall f_law_digit (aCons (cNO 0) (aCons (cO (cC (.int 3))) aNil))))) (sIf (cAndT (cT (c2 gEq (cNO 6) (cO (cC (.int 2))))) (cT (c2 gGt (cNO 4) (cO (cC (.int 0))))))
  (sSeq (sE (cAppend 3 (cLst (aCons (cO (cTup (aCons (cO (cC (.str "read"))) (aCons (cNO 5) aNil)))) (aCons (cO (cTup (aCons (cO (cC (.str "write"))) (aCons (cNO 5) aNil)))) aNil))))) (sSet 4 (c2 gSub (cNO 4) (cO (cC (.int 1))))))
  (sE (cAppend 3 (cLst (aCons (cO (cTup (aCons (cO (c2 gIx (cO (cLst (aCons (cO (cC (.str "read"))) (aCons (cO (cC (.str "write"))) aNil)))) (cO (c2 gMod (cNO 6) (cO (cC (.int 2))))))) (aCons (cNO 5) aNil)))) aNil)))))) s := rfl
def e_law_steps_2 : FE := (cN 9)
theorem ue_law_steps_2 (s : Ev) : e_law_steps_2 s = (cN 9) s := rfl
def c_law_steps_3 : FT := (cT (c2 gNe (cNO 9) (cO (cLst aNil))))
theorem uc_law_steps_3 (s : Ev) : c_law_steps_3 s = (cT (c2 gNe (cNO 9) (cO (cLst aNil)))) s := rfl
def b_law_steps_4 : FS := (sSeq (sSet 8 (cD (cCall f_law_digit (aCons (cNO 0) (aCons (cO (cCB gLen (aCons (cNO 3) aNil))) aNil))))) (sSeq (sE (cAppend 7 (c2 gIx (cO (c2 gIx (cNO 3) (cNO 8))) (cO (cC (.int 0)))))) (sSeq (sPut 3 (cSl (cO (c2 gIx (cNO 3) (cNO 8))) (pSo (cO (cC (.int 1)))) pNo) (cNO 8)) (fun ρ => (sSet 3 (cLc (pName 9) (iSeq (cNO 3)) c_law_steps_3 e_law_steps_2 [9])) (frzI 3 ρ)))))
theorem ub_law_steps_4 (s : Ev) : b_law_steps_4 s = (sSeq (sSet 8 (cD (cCall f_law_digit (aCons (cNO 0) (aCons (cO (cCB gLen (aCons (cNO 3) aNil))) aNil))))) (sSeq (sE (cAppend 7 (c2 gIx (cO (c2 gIx (cNO 3) (cNO 8))) (cO (cC (.int 0)))))) (sSeq (sPut 3 (cSl (cO (c2 gIx (cNO 3) (cNO 8))) (pSo (cO (cC (.int 1)))) pNo) (cNO 8)) (fun ρ => (sSet 3 (cLc (pName 9) (iSeq (cNO 3)) c_law_steps_3 e_law_steps_2 [9])) (frzI 3 ρ))))) s := rfl
def t_law_steps_5 : FT := (cT (c2 gNe (cNO 3) (cO (cLst aNil))))
theorem ut_law_steps_5 (s : Ev) : t_law_steps_5 s = (cT (c2 gNe (cNO 3) (cO (cLst aNil)))) s := rfl
def m_law_steps : FS := (sSeq (sSet 3 (cLst aNil)) (sSeq (sSet 4 (c2 gSub (cNO 2) (cO (cCB gLen (aCons (cNO 1) aNil))))) (sSeq (sFor (pName 5) (iSeq (cNO 1))
  b_law_steps_1) (sSeq (sSet 7 (cLst aNil)) (sSeq (fun ρ => whileD t_law_steps_5
  b_law_steps_4 (w_law_steps_1 ρ) ρ) (sRet (cCB gTuple (aCons (cNO 7) aNil))))))))
def f_law_steps : FG := toF [0, 1] 3 10 m_law_steps
def e_law_program_1 : FE := (cCall f_law_of (aCons (cNO 0) (aCons (cO (cLst (aCons (cO (cC (.int 1))) (aCons (cO (cC (.int 1))) (aCons (cO (cC (.int 1))) (aCons (cO (cC (.int 2))) (aCons (cO (c2 gAdd (cO (cC (.int 1))) (cO (cCall f_law_digit (aCons (cNO 0) (aCons (cO (cC (.int 9))) aNil)))))) aNil))))))) aNil)))
theorem ue_law_program_1 (s : Ev) : e_law_program_1 s = (cCall f_law_of (aCons (cNO 0) (aCons (cO (cLst (aCons (cO (cC (.int 1))) (aCons (cO (cC (.int 1))) (aCons (cO (cC (.int 1))) (aCons (cO (cC (.int 2))) (aCons (cO (c2 gAdd (cO (cC (.int 1))) (cO (cCall f_law_digit (aCons (cNO 0) (aCons (cO (cC (.int 9))) aNil)))))) aNil))))))) aNil))) s := rfl
def e_law_program_2 : FE := (cTup (aCons (cO (cC (.str "key"))) (aCons (cNO 5) aNil)))
theorem ue_law_program_2 (s : Ev) : e_law_program_2 s = (cTup (aCons (cO (cC (.str "key"))) (aCons (cNO 5) aNil))) s := rfl
def b_law_program_3 : FS := (sSeq (sSet 7 (cD (cCall f_law_of (aCons (cNO 0) (aCons (cO (cLst (aCons (cO (cC (.int 0))) (aCons (cO (cC (.int 0))) (aCons (cO (cC (.int 1))) (aCons (cO (cC (.int 2))) (aCons (cO (cCall f_law_digit (aCons (cNO 0) (aCons (cO (c2 gPow (cO (cC (.int 10))) (cO (cC (.int 6))))) aNil)))) aNil))))))) aNil))))) (sIf (cT (c2 gNotIn (cO (cTup (aCons (cO (cC (.str "box"))) (aCons (cNO 7) aNil)))) (cNO 6)))
  (sE (cAppend 6 (cTup (aCons (cO (cC (.str "box"))) (aCons (cNO 7) aNil)))))
  sNil))
theorem ub_law_program_3 (s : Ev) : b_law_program_3 s = (sSeq (sSet 7 (cD (cCall f_law_of (aCons (cNO 0) (aCons (cO (cLst (aCons (cO (cC (.int 0))) (aCons (cO (cC (.int 0))) (aCons (cO (cC (.int 1))) (aCons (cO (cC (.int 2))) (aCons (cO (cCall f_law_digit (aCons (cNO 0) (aCons (cO (c2 gPow (cO (cC (.int 10))) (cO (cC (.int 6))))) aNil)))) aNil))))))) aNil))))) (sIf (cT (c2 gNotIn (cO (cTup (aCons (cO (cC (.str "box"))) (aCons (cNO 7) aNil)))) (cNO 6)))
  (sE (cAppend 6 (cTup (aCons (cO (cC (.str "box"))) (aCons (cNO 7) aNil)))))
  sNil)) s := rfl
def q_law_program_1 : FS := (sSet 3 (cD (cCall f_law_digit (aCons (cNO 0) (aCons (cO (c2 gAdd (cNO 1) (cO (cC (.int 1))))) aNil)))))
@[simp] theorem uq_law_program_1 (s : Ev) : q_law_program_1 s = (sSet 3 (cD (cCall f_law_digit (aCons (cNO 0) (aCons (cO (c2 gAdd (cNO 1) (cO (cC (.int 1))))) aNil))))) s := rfl
def q_law_program_2 : FS := (sSet 4 (cD (cCB gTuple (aCons (cO (cLc (pName 5) (iRng rng1 (aCons (cNO 3) aNil)) tYs e_law_program_1 [5])) aNil))))
@[simp] theorem uq_law_program_2 (s : Ev) : q_law_program_2 s = (sSet 4 (cD (cCB gTuple (aCons (cO (cLc (pName 5) (iRng rng1 (aCons (cNO 3) aNil)) tYs e_law_program_1 [5])) aNil)))) s := rfl
def q_law_program_3 : FS := (sSet 6 (cLc (pName 5) (iRng rng1 (aCons (cNO 3) aNil)) tYs e_law_program_2 [5]))
@[simp] theorem uq_law_program_3 (s : Ev) : q_law_program_3 s = (sSet 6 (cLc (pName 5) (iRng rng1 (aCons (cNO 3) aNil)) tYs e_law_program_2 [5])) s := rfl
def q_law_program_4 : FS := (sFor (pName 5) (iRng rng1 (aCons (cO (cCall f_law_digit (aCons (cNO 0) (aCons (cO (cC (.int 3))) aNil)))) aNil))
  b_law_program_3)
@[simp] theorem uq_law_program_4 (s : Ev) : q_law_program_4 s = (sFor (pName 5) (iRng rng1 (aCons (cO (cCall f_law_digit (aCons (cNO 0) (aCons (cO (cC (.int 3))) aNil)))) aNil))
  b_law_program_3) s := rfl
def q_law_program_5 : FS := (sIf (cT (c2 gEq (cNO 6) (cO (cLst aNil))))
  (sSet 6 (cLst (aCons (cO (cTup (aCons (cO (cC (.str "box"))) (aCons (cO (cCall f_law_digit (aCons (cNO 0) (aCons (cO (cC (.int 3))) aNil)))) aNil)))) aNil)))
  sNil)
@[simp] theorem uq_law_program_5 (s : Ev) : q_law_program_5 s = (sIf (cT (c2 gEq (cNO 6) (cO (cLst aNil))))
  (sSet 6 (cLst (aCons (cO (cTup (aCons (cO (cC (.str "box"))) (aCons (cO (cCall f_law_digit (aCons (cNO 0) (aCons (cO (cC (.int 3))) aNil)))) aNil)))) aNil)))
  sNil) s := rfl
def q_law_program_6 : FS := (fun ρ => (sRet (cTup (aCons (cNO 4) (aCons (cO (cCall f_law_steps (aCons (cNO 0) (aCons (cNO 6) (aCons (cNO 2) aNil))))) aNil)))) (frzI 6 ρ))
@[simp] theorem uq_law_program_6 (s : Ev) : q_law_program_6 s = (fun ρ => (sRet (cTup (aCons (cNO 4) (aCons (cO (cCall f_law_steps (aCons (cNO 0) (aCons (cNO 6) (aCons (cNO 2) aNil))))) aNil)))) (frzI 6 ρ)) s := rfl
def m_law_program : FS := (sSeq q_law_program_1 (sSeq q_law_program_2 (sSeq q_law_program_3 (sSeq q_law_program_4 (sSeq q_law_program_5 q_law_program_6)))))
def f_law_program : FG := toF [0] 3 8 m_law_program
def e_law_spots_1 : FE := (cN 7)
theorem ue_law_spots_1 (s : Ev) : e_law_spots_1 s = (cN 7) s := rfl
def c_law_spots_2 : FT := (cT (c2 gEq (cO (c2 gIx (cNO 1) (cNO 7))) (cNO 3)))
theorem uc_law_spots_2 (s : Ev) : c_law_spots_2 s = (cT (c2 gEq (cO (c2 gIx (cNO 1) (cNO 7))) (cNO 3))) s := rfl
def b_law_spots_3 : FS := (sIf (cOrT (cT (c2 gEq (cNO 6) (cO (c1 gNeg (cO (cC (.int 1))))))) (cT (c2 gNotIn (cNO 6) (cNO 5))))
  (sE (cAppend 4 (c2 gAdd (cNO 5) (cO (cTup (aCons (cNO 6) aNil))))))
  sNil)
theorem ub_law_spots_3 (s : Ev) : b_law_spots_3 s = (sIf (cOrT (cT (c2 gEq (cNO 6) (cO (c1 gNeg (cO (cC (.int 1))))))) (cT (c2 gNotIn (cNO 6) (cNO 5))))
  (sE (cAppend 4 (c2 gAdd (cNO 5) (cO (cTup (aCons (cNO 6) aNil))))))
  sNil) s := rfl
def b_law_spots_4 : FS := (sFor (pName 6) (iSeq (cO (c2 gAdd (cO (cLst (aCons (cO (c1 gNeg (cO (cC (.int 1))))) aNil))) (cO (cLc (pName 7) (iRng rng1 (aCons (cO (cCB gLen (aCons (cNO 1) aNil))) aNil)) c_law_spots_2 e_law_spots_1 [7])))))
  b_law_spots_3)
theorem ub_law_spots_4 (s : Ev) : b_law_spots_4 s = (sFor (pName 6) (iSeq (cO (c2 gAdd (cO (cLst (aCons (cO (c1 gNeg (cO (cC (.int 1))))) aNil))) (cO (cLc (pName 7) (iRng rng1 (aCons (cO (cCB gLen (aCons (cNO 1) aNil))) aNil)) c_law_spots_2 e_law_spots_1 [7])))))
  b_law_spots_3) s := rfl
def b_law_spots_5 : FS := (sSeq (sSet 4 (cLst aNil)) (sSeq (sFor (pName 5) (iSeq (cNO 2))
  b_law_spots_4) (sSet 2 (cD (cN 4)))))
theorem ub_law_spots_5 (s : Ev) : b_law_spots_5 s = (sSeq (sSet 4 (cLst aNil)) (sSeq (sFor (pName 5) (iSeq (cNO 2))
  b_law_spots_4) (sSet 2 (cD (cN 4))))) s := rfl
def m_law_spots : FS := (sSeq (sSet 2 (cD (cLst (aCons (cO (cTup aNil)) aNil)))) (sSeq (sFor (pName 3) (iSeq (cNO 0))
  b_law_spots_5) (sRet (cN 2))))
def f_law_spots : FG := toF [] 2 8 m_law_spots
def e_law_sights_1 : FE := (cTup (aCons (cNO 3) (aCons (cNO 4) aNil)))
theorem ue_law_sights_1 (s : Ev) : e_law_sights_1 s = (cTup (aCons (cNO 3) (aCons (cNO 4) aNil))) s := rfl
def b_law_sights_2 : FS := (sSet 2 (cD (c2 gAdd (cNO 2) (cO (cLc (pName 4) (iSeq (cO (cCall f_law_spots (aCons (cO (c2 gIx (cO (c2 gIx (cNO 0) (cNO 3))) (cO (cC (.int 0))))) (aCons (cO (c2 gIx (cO (c2 gIx (cNO 0) (cNO 1))) (cO (cC (.int 0))))) aNil))))) tYs e_law_sights_1 [4])))))
theorem ub_law_sights_2 (s : Ev) : b_law_sights_2 s = (sSet 2 (cD (c2 gAdd (cNO 2) (cO (cLc (pName 4) (iSeq (cO (cCall f_law_spots (aCons (cO (c2 gIx (cO (c2 gIx (cNO 0) (cNO 3))) (cO (cC (.int 0))))) (aCons (cO (c2 gIx (cO (c2 gIx (cNO 0) (cNO 1))) (cO (cC (.int 0))))) aNil))))) tYs e_law_sights_1 [4]))))) s := rfl
def m_law_sights : FS := (sSeq (sSet 2 (cD (cLst aNil))) (sSeq (sFor (pName 3) (iRng rng1 (aCons (cO (cCB gLen (aCons (cNO 0) aNil))) aNil))
  b_law_sights_2) (sRet (cCB gSortedD (aCons (cNO 2) aNil)))))
def f_law_sights : FG := toF [] 2 5 m_law_sights
def m_is_from : FS := (sRet (cAndV (cCB gIsi (aCons (cNO 0) (aCons (cO (cC (.opq (.ty "int")))) aNil))) (cAndV (cNotV (cCB gIsi (aCons (cNO 0) (aCons (cO (cC (.opq (.ty "bool")))) aNil)))) (cChain gLe gLe (cNO 1) (cNO 0) (cNO 2)))))
def f_is_from : FG := toF [] 3 3 m_is_from
def e_are_tables_1 : FE := (cCall f_is_from (aCons (cNO 1) (aCons (cO (cC (.int 1))) (aCons (cO (cC (.int 9))) aNil))))
theorem ue_are_tables_1 (s : Ev) : e_are_tables_1 s = (cCall f_is_from (aCons (cNO 1) (aCons (cO (cC (.int 1))) (aCons (cO (cC (.int 9))) aNil)))) s := rfl
def m_are_tables : FS := (sSeq (sIf (cOrT (cNotT (cT (cCB gIsi (aCons (cNO 0) (aCons (cO (cC (.opq (.ty "tuple")))) aNil))))) (cT (c2 gGt (cO (cCB gLen (aCons (cNO 0) aNil))) (cO (cC (.int 3))))))
  (sRet (cC (.bl false)))
  sNil) (sRet (cCB gAll (aCons (cO (cLc (pName 1) (iSeq (cNO 0)) tYs e_are_tables_1 [1])) aNil))))
def f_are_tables : FG := toF [] 1 2 m_are_tables
def b_in_order_1 : FS := (sIf (cOrT (cT (c2 gIn (cNO 2) (cO (cSl (cNO 0) pNo (pSo (cNO 1)))))) (cAndT (cT (c2 gEq (cO (c2 gIx (cNO 2) (cO (cC (.int 0))))) (cO (cC (.str "read"))))) (cT (c2 gIn (cO (cTup (aCons (cO (cC (.str "write"))) (aCons (cO (c2 gIx (cNO 2) (cO (cC (.int 1))))) aNil)))) (cO (cSl (cNO 0) pNo (pSo (cNO 1))))))))
  (sRet (cC (.bl false)))
  sNil)
theorem ub_in_order_1 (s : Ev) : b_in_order_1 s = (sIf (cOrT (cT (c2 gIn (cNO 2) (cO (cSl (cNO 0) pNo (pSo (cNO 1)))))) (cAndT (cT (c2 gEq (cO (c2 gIx (cNO 2) (cO (cC (.int 0))))) (cO (cC (.str "read"))))) (cT (c2 gIn (cO (cTup (aCons (cO (cC (.str "write"))) (aCons (cO (c2 gIx (cNO 2) (cO (cC (.int 1))))) aNil)))) (cO (cSl (cNO 0) pNo (pSo (cNO 1))))))))
  (sRet (cC (.bl false)))
  sNil) s := rfl
def m_in_order : FS := (sSeq (sFor (pTup [(pName 1), (pName 2)]) (iEnm (cNO 0))
  b_in_order_1) (sRet (cC (.bl true))))
def f_in_order : FG := toF [] 1 3 m_in_order
def m_is_slot : FS := (sSeq (sIf (cOrT (cNotT (cT (cCB gIsi (aCons (cNO 0) (aCons (cO (cC (.opq (.ty "tuple")))) aNil))))) (cOrT (cT (c2 gNe (cO (cCB gLen (aCons (cNO 0) aNil))) (cO (cC (.int 2))))) (cNotT (cT (cCB gIsi (aCons (cO (c2 gIx (cNO 0) (cO (cC (.int 0))))) (aCons (cO (cC (.opq (.ty "str")))) aNil)))))))
  (sRet (cC (.bl false)))
  sNil) (sSeq (sIf (cT (c2 gEq (cO (c2 gIx (cNO 0) (cO (cC (.int 0))))) (cO (cC (.str "box")))))
  (sRet (cCall f_is_from (aCons (cO (c2 gIx (cNO 0) (cO (cC (.int 1))))) (aCons (cO (cC (.int 0))) (aCons (cO (c2 gSub (cO (cC (.int 1000000))) (cO (cC (.int 1))))) aNil)))))
  sNil) (sRet (cAndV (c2 gEq (cO (c2 gIx (cNO 0) (cO (cC (.int 0))))) (cO (cC (.str "key")))) (cCall f_is_from (aCons (cO (c2 gIx (cNO 0) (cO (cC (.int 1))))) (aCons (cO (cC (.int 0))) (aCons (cO (c2 gSub (cNO 1) (cO (cC (.int 1))))) aNil))))))))
def f_is_slot : FG := toF [] 2 2 m_is_slot
def m_is_slot_step : FS := (sSeq (sIf (cOrT (cNotT (cT (cCB gIsi (aCons (cNO 0) (aCons (cO (cC (.opq (.ty "tuple")))) aNil))))) (cOrT (cT (c2 gNe (cO (cCB gLen (aCons (cNO 0) aNil))) (cO (cC (.int 2))))) (cNotT (cT (cCB gIsi (aCons (cO (c2 gIx (cNO 0) (cO (cC (.int 0))))) (aCons (cO (cC (.opq (.ty "str")))) aNil)))))))
  (sRet (cC (.bl false)))
  sNil) (sRet (cAndV (c2 gIn (cO (c2 gIx (cNO 0) (cO (cC (.int 0))))) (cO (cC (.tup [(.str "read"), (.str "write")])))) (cCall f_is_slot (aCons (cO (c2 gIx (cNO 0) (cO (cC (.int 1))))) (aCons (cNO 1) aNil))))))
def f_is_slot_step : FG := toF [] 2 2 m_is_slot_step
def e_is_program_1 : FE := (cCall f_is_slot_step (aCons (cNO 3) (aCons (cO (cCB gLen (aCons (cNO 1) aNil))) aNil)))
theorem ue_is_program_1 (s : Ev) : e_is_program_1 s = (cCall f_is_slot_step (aCons (cNO 3) (aCons (cO (cCB gLen (aCons (cNO 1) aNil))) aNil))) s := rfl
def e_is_program_2 : FE := (cN 6)
theorem ue_is_program_2 (s : Ev) : e_is_program_2 s = (cN 6) s := rfl
def e_is_program_3 : FE := (c2 gIn (cO (cTup (aCons (cO (cC (.str "key"))) (aCons (cNO 7) aNil)))) (cNO 4))
theorem ue_is_program_3 (s : Ev) : e_is_program_3 s = (c2 gIn (cO (cTup (aCons (cO (cC (.str "key"))) (aCons (cNO 7) aNil)))) (cNO 4)) s := rfl
def q_is_program_1 : FS := (sIf (cOrT (cNotT (cT (cCB gIsi (aCons (cNO 0) (aCons (cO (cC (.opq (.ty "tuple")))) aNil))))) (cOrT (cT (c2 gNe (cO (cCB gLen (aCons (cNO 0) aNil))) (cO (cC (.int 2))))) (cNotT (cT (cCall f_are_tables (aCons (cO (c2 gIx (cNO 0) (cO (cC (.int 0))))) aNil))))))
  (sRet (cC (.bl false)))
  sNil)
@[simp] theorem uq_is_program_1 (s : Ev) : q_is_program_1 s = (sIf (cOrT (cNotT (cT (cCB gIsi (aCons (cNO 0) (aCons (cO (cC (.opq (.ty "tuple")))) aNil))))) (cOrT (cT (c2 gNe (cO (cCB gLen (aCons (cNO 0) aNil))) (cO (cC (.int 2))))) (cNotT (cT (cCall f_are_tables (aCons (cO (c2 gIx (cNO 0) (cO (cC (.int 0))))) aNil))))))
  (sRet (cC (.bl false)))
  sNil) s := rfl
def q_is_program_2 : FS := (sIf (cOrT (cNotT (cT (cCB gIsi (aCons (cNO 2) (aCons (cO (cC (.opq (.ty "tuple")))) aNil))))) (cNotT (cT (cChain gLe gLe (cO (cC (.int 1))) (cO (cCB gLen (aCons (cNO 2) aNil))) (cO (cC (.int 6)))))))
  (sRet (cC (.bl false)))
  sNil)
@[simp] theorem uq_is_program_2 (s : Ev) : q_is_program_2 s = (sIf (cOrT (cNotT (cT (cCB gIsi (aCons (cNO 2) (aCons (cO (cC (.opq (.ty "tuple")))) aNil))))) (cNotT (cT (cChain gLe gLe (cO (cC (.int 1))) (cO (cCB gLen (aCons (cNO 2) aNil))) (cO (cC (.int 6)))))))
  (sRet (cC (.bl false)))
  sNil) s := rfl
def q_is_program_3 : FS := (sIf (cOrT (cNotT (cT (cCB gAll (aCons (cO (cLc (pName 3) (iSeq (cNO 2)) tYs e_is_program_1 [3])) aNil)))) (cNotT (cT (cCall f_in_order (aCons (cNO 2) aNil)))))
  (sRet (cC (.bl false)))
  sNil)
@[simp] theorem uq_is_program_3 (s : Ev) : q_is_program_3 s = (sIf (cOrT (cNotT (cT (cCB gAll (aCons (cO (cLc (pName 3) (iSeq (cNO 2)) tYs e_is_program_1 [3])) aNil)))) (cNotT (cT (cCall f_in_order (aCons (cNO 2) aNil)))))
  (sRet (cC (.bl false)))
  sNil) s := rfl
def q_is_program_4 : FS := (sSet 4 (cD (cLc (pTup [(pName 5), (pName 6)]) (iSeq (cNO 2)) tYs e_is_program_2 [5, 6])))
@[simp] theorem uq_is_program_4 (s : Ev) : q_is_program_4 s = (sSet 4 (cD (cLc (pTup [(pName 5), (pName 6)]) (iSeq (cNO 2)) tYs e_is_program_2 [5, 6]))) s := rfl
def q_is_program_5 : FS := (sRet (cCB gAll (aCons (cO (cLc (pName 7) (iRng rng1 (aCons (cO (cCB gLen (aCons (cNO 1) aNil))) aNil)) tYs e_is_program_3 [7])) aNil)))
@[simp] theorem uq_is_program_5 (s : Ev) : q_is_program_5 s = (sRet (cCB gAll (aCons (cO (cLc (pName 7) (iRng rng1 (aCons (cO (cCB gLen (aCons (cNO 1) aNil))) aNil)) tYs e_is_program_3 [7])) aNil))) s := rfl
def m_is_program : FS := (sSeq q_is_program_1 (sSeq (sUnp (pTup [(pName 1), (pName 2)]) (cN 0)) (sSeq q_is_program_2 (sSeq q_is_program_3 (sSeq q_is_program_4 q_is_program_5)))))
def f_is_program : FG := toF [] 1 8 m_is_program
def e_are_programs_1 : FE := (cCall f_is_program (aCons (cNO 1) aNil))
theorem ue_are_programs_1 (s : Ev) : e_are_programs_1 s = (cCall f_is_program (aCons (cNO 1) aNil)) s := rfl
def m_are_programs : FS := (sSeq (sIf (cOrT (cNotT (cT (cCB gIsi (aCons (cNO 0) (aCons (cO (cC (.opq (.ty "list")))) aNil))))) (cNotT (cT (cChain gLe gLe (cO (cC (.int 1))) (cO (cCB gLen (aCons (cNO 0) aNil))) (cO (cC (.int 4)))))))
  (sRet (cC (.bl false)))
  sNil) (sRet (cCB gAll (aCons (cO (cLc (pName 1) (iSeq (cNO 0)) tYs e_are_programs_1 [1])) aNil))))
def f_are_programs : FG := toF [] 1 2 m_are_programs
def m_sure_programs : FS := (sIf (cNotT (cT (cCall f_are_programs (aCons (cNO 0) aNil))))
  (sRaise "NoPrograms")
  sNil)
def f_sure_programs : FG := toF [] 1 1 m_sure_programs
def m_sure_program_number : FS := (sSeq (sE (cCall f_sure_programs (aCons (cNO 0) aNil))) (sIf (cNotT (cT (cCall f_is_from (aCons (cNO 1) (aCons (cO (cC (.int 0))) (aCons (cO (c2 gSub (cO (cCB gLen (aCons (cNO 0) aNil))) (cO (cC (.int 1))))) aNil))))))
  (sRaise "NoNumber")
  sNil))
def f_sure_program_number : FG := toF [] 2 2 m_sure_program_number
def e_all_spots_1 : FE := (cN 5)
theorem ue_all_spots_1 (s : Ev) : e_all_spots_1 s = (cN 5) s := rfl
def c_all_spots_2 : FT := (cT (c2 gEq (cNO 6) (cNO 3)))
theorem uc_all_spots_2 (s : Ev) : c_all_spots_2 s = (cT (c2 gEq (cNO 6) (cNO 3))) s := rfl
def e_all_spots_3 : FE := (c2 gAdd (cNO 7) (cO (cTup (aCons (cNO 5) aNil))))
theorem ue_all_spots_3 (s : Ev) : e_all_spots_3 s = (c2 gAdd (cNO 7) (cO (cTup (aCons (cNO 5) aNil)))) s := rfl
def c_all_spots_4 : FT := (cOrT (cT (c2 gEq (cNO 5) (cO (c1 gNeg (cO (cC (.int 1))))))) (cT (c2 gNotIn (cNO 5) (cNO 7))))
theorem uc_all_spots_4 (s : Ev) : c_all_spots_4 s = (cOrT (cT (c2 gEq (cNO 5) (cO (c1 gNeg (cO (cC (.int 1))))))) (cT (c2 gNotIn (cNO 5) (cNO 7)))) s := rfl
def b_all_spots_5 : FS := (sSeq (sSet 4 (cD (c2 gAdd (cO (cLst (aCons (cO (c1 gNeg (cO (cC (.int 1))))) aNil))) (cO (cLc (pTup [(pName 5), (pName 6)]) (iEnm (cNO 1)) c_all_spots_2 e_all_spots_1 [5, 6]))))) (sSetD 2 (cLc2 (pName 7) (iSeq (cNO 2)) tYs (pName 5) (iSeq (cNO 4)) c_all_spots_4 e_all_spots_3 [7, 5] [5])))
theorem ub_all_spots_5 (s : Ev) : b_all_spots_5 s = (sSeq (sSet 4 (cD (c2 gAdd (cO (cLst (aCons (cO (c1 gNeg (cO (cC (.int 1))))) aNil))) (cO (cLc (pTup [(pName 5), (pName 6)]) (iEnm (cNO 1)) c_all_spots_2 e_all_spots_1 [5, 6]))))) (sSetD 2 (cLc2 (pName 7) (iSeq (cNO 2)) tYs (pName 5) (iSeq (cNO 4)) c_all_spots_4 e_all_spots_3 [7, 5] [5]))) s := rfl
def m_all_spots : FS := (sSeq (sSet 2 (cD (cLst (aCons (cO (cTup aNil)) aNil)))) (sSeq (sFor (pName 3) (iSeq (cNO 0))
  b_all_spots_5) (sRet (cN 2))))
def f_all_spots : FG := toF [] 2 8 m_all_spots
def e_all_sights_1 : FE := (cTup (aCons (cNO 4) (aCons (cNO 6) aNil)))
theorem ue_all_sights_1 (s : Ev) : e_all_sights_1 s = (cTup (aCons (cNO 4) (aCons (cNO 6) aNil))) s := rfl
def m_all_sights : FS := (sSeq (sSet 2 (c2 gIx (cO (c2 gIx (cNO 0) (cNO 1))) (cO (cC (.int 0))))) (sSeq (sSetD 3 (cLc2 (pTup [(pName 4), (pName 5)]) (iEnm (cNO 0)) tYs (pName 6) (iSeq (cO (cCall f_all_spots (aCons (cO (c2 gIx (cNO 5) (cO (cC (.int 0))))) (aCons (cNO 2) aNil))))) tYs e_all_sights_1 [4, 5, 6] [6])) (sRet (cCB gSortedD (aCons (cNO 3) aNil)))))
def f_all_sights : FG := toF [] 2 7 m_all_sights
def m_sights : FS := (sSeq (sE (cCall f_sure_program_number (aCons (cNO 0) (aCons (cNO 1) aNil)))) (sRet (cCall f_all_sights (aCons (cNO 0) (aCons (cNO 1) aNil)))))
def f_sights : FG := toF [] 2 2 m_sights
def m_law_told : FS := (sTry2 R_cls "NoPrograms" 2 (fun x' => (sRet (cTup (aCons (cO (cC (.str "programs"))) (aCons (cO (cIsE R_cls "NoNumber" x')) aNil))))) "NoNumber" 2 (fun x' => (sRet (cTup (aCons (cO (cC (.str "number"))) (aCons (cO (cIsE R_cls "NoPrograms" x')) aNil))))) (sRet (cTup2O (stl (cC (.str "told"))) (cCall f_sights (aCons (cNO 0) (aCons (cNO 1) aNil))))))
def f_law_told : FG := toF [] 2 3 m_law_told
def e_law_keys_1 : FE := (cMut 2 gPop (aCons (cO (cCall f_law_digit (aCons (cNO 0) (aCons (cO (cCB gLen (aCons (cNO 2) aNil))) aNil)))) aNil))
def m_law_keys : FS := (sSeq (sSet 2 (cLst (aCons (cO (cC (.int 0))) (aCons (cO (cC (.int 1))) (aCons (cO (cC (.int 2))) (aCons (cO (cC (.int 3))) aNil)))))) (sRet (cCB gTuple (aCons (cO (cLc (pName 3) (iSeq (cNO 1)) tYs e_law_keys_1 [3])) aNil))))
def f_law_keys : FG := toF [0] 2 4 m_law_keys
def b_law_sight_of_1 : FS := (sIf (cAndT (cT (c2 gEq (cO (c2 gIx (cNO 2) (cNO 8))) (cO (c2 gIx (cNO 4) (cNO 6))))) (cT (c2 gEq (cO (c2 gIx (cO (c2 gIx (cO (c2 gIx (cNO 0) (cNO 1))) (cO (cC (.int 0))))) (cNO 8))) (cO (c2 gIx (cO (c2 gIx (cO (c2 gIx (cNO 0) (cNO 3))) (cO (cC (.int 0))))) (cNO 6))))))
  (sSet 7 (cD (cN 8)))
  sNil)
def b_law_sight_of_2 : FS := (sSeq (sSet 7 (cD (c1 gNeg (cO (cC (.int 1)))))) (sSeq (sFor (pName 8) (iRng rng1 (aCons (cO (cCB gLen (aCons (cNO 2) aNil))) aNil))
  b_law_sight_of_1) (sE (cAppend 5 (cN 7)))))
def m_law_sight_of : FS := (sSeq (sSet 5 (cLst aNil)) (sSeq (sFor (pName 6) (iRng rng1 (aCons (cO (cCB gLen (aCons (cNO 4) aNil))) aNil))
  b_law_sight_of_2) (sRet (cTup (aCons (cNO 3) (aCons (cO (cCB gTuple (aCons (cNO 5) aNil))) aNil))))))
def f_law_sight_of : FG := toF [] 5 9 m_law_sight_of
def b_law_is_sight_1 : FS := (sIf (cOrT (cNotT (cT (cCB gIsi (aCons (cNO 1) (aCons (cO (cC (.opq (.ty "int")))) aNil))))) (cT (cCB gIsi (aCons (cNO 1) (aCons (cO (cC (.opq (.ty "bool")))) aNil)))))
  (sRet (cC (.bl false)))
  sNil)
theorem ub_law_is_sight_1 (s : Ev) : b_law_is_sight_1 s = (sIf (cOrT (cNotT (cT (cCB gIsi (aCons (cNO 1) (aCons (cO (cC (.opq (.ty "int")))) aNil))))) (cT (cCB gIsi (aCons (cNO 1) (aCons (cO (cC (.opq (.ty "bool")))) aNil)))))
  (sRet (cC (.bl false)))
  sNil) s := rfl
def m_law_is_sight : FS := (sSeq (sIf (cOrT (cNotT (cT (cCB gIsi (aCons (cNO 0) (aCons (cO (cC (.opq (.ty "tuple")))) aNil))))) (cOrT (cT (c2 gNe (cO (cCB gLen (aCons (cNO 0) aNil))) (cO (cC (.int 2))))) (cNotT (cT (cCB gIsi (aCons (cO (c2 gIx (cNO 0) (cO (cC (.int 1))))) (aCons (cO (cC (.opq (.ty "tuple")))) aNil)))))))
  (sRet (cC (.bl false)))
  sNil) (sSeq (sFor (pName 1) (iSeq (cO (c2 gAdd (cO (cTup (aCons (cO (c2 gIx (cNO 0) (cO (cC (.int 0))))) aNil))) (cO (c2 gIx (cNO 0) (cO (cC (.int 1))))))))
  b_law_is_sight_1) (sRet (cC (.bl true)))))
def f_law_is_sight : FG := toF [] 1 2 m_law_is_sight
def e_law_right_1 : FE := (cN 6)
def c_law_right_2 : FT := (cNotT (cT (cCall f_law_is_sight (aCons (cNO 6) aNil))))
theorem uc_law_right_2 (s : Ev) : c_law_right_2 s = (cNotT (cT (cCall f_law_is_sight (aCons (cNO 6) aNil)))) s := rfl
def q_law_right_1 : FS := (sSet 5 (cCall f_law_told (aCons (cNO 1) (aCons (cNO 2) aNil))))
@[simp] theorem uq_law_right_1 (s : Ev) : q_law_right_1 s = (sSet 5 (cCall f_law_told (aCons (cNO 1) (aCons (cNO 2) aNil)))) s := rfl
def q_law_right_2 : FS := (sIf (tPure (cOrT (cT (c2 gNe (cO (c2 gIx (cNO 5) (cO (cC (.int 0))))) (cO (cC (.str "told"))))) (cOrT (cNotT (cT (cCB gIsi (aCons (cO (c2 gIx (cNO 5) (cO (cC (.int 1))))) (aCons (cO (cC (.opq (.ty "list")))) aNil))))) (cT (c2 gNe (cO (c2 gIx (cNO 5) (cO (cC (.int 1))))) (cNO 3))))))
  (sRet (cC (.bl false)))
  sNil)
@[simp] theorem uq_law_right_2 (s : Ev) : q_law_right_2 s = (sIf (tPure (cOrT (cT (c2 gNe (cO (c2 gIx (cNO 5) (cO (cC (.int 0))))) (cO (cC (.str "told"))))) (cOrT (cNotT (cT (cCB gIsi (aCons (cO (c2 gIx (cNO 5) (cO (cC (.int 1))))) (aCons (cO (cC (.opq (.ty "list")))) aNil))))) (cT (c2 gNe (cO (c2 gIx (cNO 5) (cO (cC (.int 1))))) (cNO 3))))))
  (sRet (cC (.bl false)))
  sNil) s := rfl
def q_law_right_3 : FS := (sIf (tPure (cT (c2 gNe (cO (cLc (pName 6) (iSeq (cO (c2 gIx (cNO 5) (cO (cC (.int 1)))))) c_law_right_2 e_law_right_1 [6])) (cO (cLst aNil)))))
  (sRet (cC (.bl false)))
  sNil)
@[simp] theorem uq_law_right_3 (s : Ev) : q_law_right_3 s = (sIf (tPure (cT (c2 gNe (cO (cLc (pName 6) (iSeq (cO (c2 gIx (cNO 5) (cO (cC (.int 1)))))) c_law_right_2 e_law_right_1 [6])) (cO (cLst aNil)))))
  (sRet (cC (.bl false)))
  sNil) s := rfl
def q_law_right_4 : FS := (sE (cPMd List.reverse (qI (fun _ => some (5, [])) (stl (cC (.int 1))))))
@[simp] theorem uq_law_right_4 (s : Ev) : q_law_right_4 s = (sE (cPMd List.reverse (qI (fun _ => some (5, [])) (stl (cC (.int 1)))))) s := rfl
def q_law_right_5 : FS := (sE (cPApp (qI (fun _ => some (5, [])) (stl (cC (.int 1)))) (stl (cC .non))))
@[simp] theorem uq_law_right_5 (s : Ev) : q_law_right_5 s = (sE (cPApp (qI (fun _ => some (5, [])) (stl (cC (.int 1)))) (stl (cC .non)))) s := rfl
def b_law_right_3 : FS := (sSeq q_law_right_1 (sSeq q_law_right_2 (sSeq q_law_right_3 (sSeq q_law_right_4 q_law_right_5))))
theorem ub_law_right_3 (s : Ev) : b_law_right_3 s = (sSeq q_law_right_1 (sSeq q_law_right_2 (sSeq q_law_right_3 (sSeq q_law_right_4 q_law_right_5)))) s := rfl
def b_law_right_4 : FS := (sSeq (sSet 7 (cD (cCall f_law_digit (aCons (cNO 0) (aCons (cO (cCB gLen (aCons (cNO 1) aNil))) aNil))))) (sSeq (sSet 8 (cD (cCall f_law_keys (aCons (cNO 0) (aCons (cO (c2 gIx (cO (c2 gIx (cNO 1) (cNO 2))) (cO (cC (.int 0))))) aNil))))) (sIf (cT (c2 gNotIn (cO (cCall f_law_sight_of (aCons (cNO 1) (aCons (cNO 2) (aCons (cNO 8) (aCons (cNO 7) (aCons (cO (cCall f_law_keys (aCons (cNO 0) (aCons (cO (c2 gIx (cO (c2 gIx (cNO 1) (cNO 7))) (cO (cC (.int 0))))) aNil)))) aNil))))))) (cNO 3)))
  (sRet (cC (.bl false)))
  sNil)))
theorem ub_law_right_4 (s : Ev) : b_law_right_4 s = (sSeq (sSet 7 (cD (cCall f_law_digit (aCons (cNO 0) (aCons (cO (cCB gLen (aCons (cNO 1) aNil))) aNil))))) (sSeq (sSet 8 (cD (cCall f_law_keys (aCons (cNO 0) (aCons (cO (c2 gIx (cO (c2 gIx (cNO 1) (cNO 2))) (cO (cC (.int 0))))) aNil))))) (sIf (cT (c2 gNotIn (cO (cCall f_law_sight_of (aCons (cNO 1) (aCons (cNO 2) (aCons (cNO 8) (aCons (cNO 7) (aCons (cO (cCall f_law_keys (aCons (cNO 0) (aCons (cO (c2 gIx (cO (c2 gIx (cNO 1) (cNO 7))) (cO (cC (.int 0))))) aNil)))) aNil))))))) (cNO 3)))
  (sRet (cC (.bl false)))
  sNil))) s := rfl
def m_law_right : FS := (sSeq (sSet 3 (cD (cCall f_law_sights (aCons (cNO 1) (aCons (cNO 2) aNil))))) (sSeq (sFor (pName 4) (iRng rng1 (aCons (cO (cC (.int 2))) aNil))
  b_law_right_3) (sSeq (sFor (pName 4) (iRng rng1 (aCons (cO (cC (.int 4))) aNil))
  b_law_right_4) (sRet (cC (.bl true))))))
def f_law_right : FG := toF [0] 3 9 m_law_right
def e_law_1 : FE := (cCall f_law_program (aCons (cNO 2) (aCons (cO (cC (.int 3))) (aCons (cO (cC (.int 6))) aNil))))
theorem ue_law_1 (s : Ev) : e_law_1 s = (cCall f_law_program (aCons (cNO 2) (aCons (cO (cC (.int 3))) (aCons (cO (cC (.int 6))) aNil)))) s := rfl
def q_law_1 : FS := (sSetD 3 (cLc (pName 4) (iRng rng1 (aCons (cO (c2 gAdd (cO (cC (.int 1))) (cO (cCall f_law_digit (aCons (cNO 2) (aCons (cO (cC (.int 4))) aNil)))))) aNil)) tYs e_law_1 [4]))
@[simp] theorem uq_law_1 (s : Ev) : q_law_1 s = (sSetD 3 (cLc (pName 4) (iRng rng1 (aCons (cO (c2 gAdd (cO (cC (.int 1))) (cO (cCall f_law_digit (aCons (cNO 2) (aCons (cO (cC (.int 4))) aNil)))))) aNil)) tYs e_law_1 [4])) s := rfl
def q_law_2 : FS := (sSet 6 (cD (cCall f_law_digit (aCons (cNO 2) (aCons (cO (cCB gLen (aCons (cNO 3) aNil))) aNil)))))
@[simp] theorem uq_law_2 (s : Ev) : q_law_2 s = (sSet 6 (cD (cCall f_law_digit (aCons (cNO 2) (aCons (cO (cCB gLen (aCons (cNO 3) aNil))) aNil))))) s := rfl
def q_law_3 : FS := (sIf (cNotT (cT (cCall f_law_right (aCons (cNO 2) (aCons (cNO 3) (aCons (cNO 6) aNil))))))
  (sRet (cC (.bl false)))
  sNil)
@[simp] theorem uq_law_3 (s : Ev) : q_law_3 s = (sIf (cNotT (cT (cCall f_law_right (aCons (cNO 2) (aCons (cNO 3) (aCons (cNO 6) aNil))))))
  (sRet (cC (.bl false)))
  sNil) s := rfl
def q_law_4 : FS := (sSet 7 (cD (cCall f_law_of (aCons (cNO 2) (aCons (cO (cLst (aCons (cO (c1 gNeg (cO (cC (.int 1))))) (aCons (cO (cCB gLen (aCons (cNO 3) aNil))) (aCons (cO (cC (.bl true))) (aCons (cO (cC .non)) (aCons (cO (cC (.str "0"))) (aCons (cO (cTup (aCons (cO (cC (.int 0))) aNil))) (aCons (cO (cLst (aCons (cO (cC (.int 0))) aNil))) (aCons (cO (c2 gPow (cO (cC (.int 10))) (cO (cC (.int 40))))) aNil)))))))))) aNil)))))
@[simp] theorem uq_law_4 (s : Ev) : q_law_4 s = (sSet 7 (cD (cCall f_law_of (aCons (cNO 2) (aCons (cO (cLst (aCons (cO (c1 gNeg (cO (cC (.int 1))))) (aCons (cO (cCB gLen (aCons (cNO 3) aNil))) (aCons (cO (cC (.bl true))) (aCons (cO (cC .non)) (aCons (cO (cC (.str "0"))) (aCons (cO (cTup (aCons (cO (cC (.int 0))) aNil))) (aCons (cO (cLst (aCons (cO (cC (.int 0))) aNil))) (aCons (cO (c2 gPow (cO (cC (.int 10))) (cO (cC (.int 40))))) aNil)))))))))) aNil))))) s := rfl
def q_law_5 : FS := (sIf (cOrT (cT (c2 gNe (cO (cCall f_law_told (aCons (cNO 3) (aCons (cNO 7) aNil)))) (cO (cTup (aCons (cO (cC (.str "number"))) (aCons (cO (cC (.bl false))) aNil)))))) (cT (c2 gNe (cO (cCB gRepr (aCons (cNO 3) aNil))) (cNO 5))))
  (sRet (cC (.bl false)))
  sNil)
@[simp] theorem uq_law_5 (s : Ev) : q_law_5 s = (sIf (cOrT (cT (c2 gNe (cO (cCall f_law_told (aCons (cNO 3) (aCons (cNO 7) aNil)))) (cO (cTup (aCons (cO (cC (.str "number"))) (aCons (cO (cC (.bl false))) aNil)))))) (cT (c2 gNe (cO (cCB gRepr (aCons (cNO 3) aNil))) (cNO 5))))
  (sRet (cC (.bl false)))
  sNil) s := rfl
def q_law_6 : FS := (sSet 8 (cD (cCall f_law_of (aCons (cNO 2) (aCons (cO (cLst (aCons (cO (cLst aNil)) (aCons (cO (cCB gTuple (aCons (cNO 3) aNil))) (aCons (cO (c2 gIx (cNO 3) (cO (cC (.int 0))))) (aCons (cO (c2 gMul (cO (cLst (aCons (cO (c2 gIx (cNO 3) (cO (cC (.int 0))))) aNil))) (cO (cC (.int 5))))) (aCons (cO (cC .non)) (aCons (cO (c2 gAdd (cO (cSl (cNO 3) pNo (pSo (cO (cC (.int 1)))))) (cO (cLst (aCons (cO (cTup aNil)) aNil))))) aNil)))))))) aNil)))))
@[simp] theorem uq_law_6 (s : Ev) : q_law_6 s = (sSet 8 (cD (cCall f_law_of (aCons (cNO 2) (aCons (cO (cLst (aCons (cO (cLst aNil)) (aCons (cO (cCB gTuple (aCons (cNO 3) aNil))) (aCons (cO (c2 gIx (cNO 3) (cO (cC (.int 0))))) (aCons (cO (c2 gMul (cO (cLst (aCons (cO (c2 gIx (cNO 3) (cO (cC (.int 0))))) aNil))) (cO (cC (.int 5))))) (aCons (cO (cC .non)) (aCons (cO (c2 gAdd (cO (cSl (cNO 3) pNo (pSo (cO (cC (.int 1)))))) (cO (cLst (aCons (cO (cTup aNil)) aNil))))) aNil)))))))) aNil))))) s := rfl
def q_law_7 : FS := (sIf (cT (c2 gNe (cO (cCall f_law_told (aCons (cNO 8) (aCons (cO (cCall f_law_of (aCons (cNO 2) (aCons (cO (cLst (aCons (cNO 6) (aCons (cNO 7) aNil)))) aNil)))) aNil)))) (cO (cTup (aCons (cO (cC (.str "programs"))) (aCons (cO (cC (.bl false))) aNil))))))
  (sRet (cC (.bl false)))
  sNil)
@[simp] theorem uq_law_7 (s : Ev) : q_law_7 s = (sIf (cT (c2 gNe (cO (cCall f_law_told (aCons (cNO 8) (aCons (cO (cCall f_law_of (aCons (cNO 2) (aCons (cO (cLst (aCons (cNO 6) (aCons (cNO 7) aNil)))) aNil)))) aNil)))) (cO (cTup (aCons (cO (cC (.str "programs"))) (aCons (cO (cC (.bl false))) aNil))))))
  (sRet (cC (.bl false)))
  sNil) s := rfl
def b_law_2 : FS := (sSeq (sSet 2 (cLst (aCons (cNO 1) aNil))) (sSeq q_law_1 (sSeq (sSet 5 (cD (cCB gRepr (aCons (cNO 3) aNil)))) (sSeq q_law_2 (sSeq q_law_3 (sSeq q_law_4 (sSeq q_law_5 (sSeq q_law_6 q_law_7))))))))
theorem ub_law_2 (s : Ev) : b_law_2 s = (sSeq (sSet 2 (cLst (aCons (cNO 1) aNil))) (sSeq q_law_1 (sSeq (sSet 5 (cD (cCB gRepr (aCons (cNO 3) aNil)))) (sSeq q_law_2 (sSeq q_law_3 (sSeq q_law_4 (sSeq q_law_5 (sSeq q_law_6 q_law_7)))))))) s := rfl
def m_law : FS := (sSeq (sFor (pName 1) (iSeq (cO (c2 gAdd (cO (cLst (aCons (cO (cCall f_law_cell_at (aCons (cNO 0) (aCons (cO (cC (.int 0))) aNil)))) aNil))) (cO (cSl (cNO 0) (pSo (cO (cC (.int 1)))) (pSo (cO (cC (.int 4)))))))))
  b_law_2) (sRet (cC (.bl true))))
def f_law : FG := toF [] 1 9 m_law
/-- what the module's names hold -/
structure Z0 (mg : Str → Option Value) : Prop where
  b_all : mg "all" = none
  b_bool : mg "bool" = none
  b_enumerate : mg "enumerate" = none
  b_int : mg "int" = none
  b_isinstance : mg "isinstance" = none
  b_len : mg "len" = none
  b_list : mg "list" = none
  b_range : mg "range" = none
  b_repr : mg "repr" = none
  b_sorted : mg "sorted" = none
  b_str : mg "str" = none
  b_tuple : mg "tuple" = none
structure CAt (K : PySem.W.Frag) (mg : Str → Option Value) (x : Str) (d : D) (v : V) (u : Value) : Prop where
  g : mg x = some u
  rv : RelV v u
  r : ∀ H, Rp K H d v
structure XF (K : PySem.W.Frag) (mg : Str → Option Value) : Prop where
  r_NoNumber : XAt K mg "NoNumber"
  r_NoPrograms : XAt K mg "NoPrograms"
  t_NoPrograms : ∃ C, mg "NoPrograms" = some (.ref C) ∧ ExcsAt K R_cls "NoPrograms" C
  t_NoNumber : ∃ C, mg "NoNumber" = some (.ref C) ∧ ExcsAt K R_cls "NoNumber" C
  i_NoNumber : ∃ C, mg "NoNumber" = some (.ref C) ∧ IsAt K R_cls "NoNumber" (.ref C)
  i_NoPrograms : ∃ C, mg "NoPrograms" = some (.ref C) ∧ IsAt K R_cls "NoPrograms" (.ref C)
section
variable {P : Program} {w : World} {K : PySem.W.Frag} {mg : Str → Option Value} {base : Heap} {T : List (Addr × Str)}
theorem ok_law_digit {f : Addr} {fd : FuncData} (A : DefAt K mg "_law_digit" s_law_digit ["_law_state", "_law_base"] f fd) (Z : Z0 mg) (XX : XF K mg)  : FnAt P w K mg base T "_law_digit" 2 1 f_law_digit :=
  A.at (fn_d (k := 0) [0] A.fn sc_law_digit (by decide) fun cdv A' outer s H E hr => by
  have hu : ∀ i, ((oneF (cxOf (L2.CX P w) P w K mg base N_law_digit "_law_digit" (defScope s_law_digit) f cdv A' outer s H E)).at_ i).A.units + 65 < cLine := fun _ => by
    have q := hr.un
    have : (cxOf (L2.CX P w) P w K mg base N_law_digit "_law_digit" (defScope s_law_digit) f cdv A' outer s H E).A = A'.deeper (envOfC "_law_digit" (defScope s_law_digit) s.heap.objs.size f cdv) := rfl
    show (A'.deeper (envOfC "_law_digit" (defScope s_law_digit) s.heap.objs.size f cdv)).units + 65 < cLine
    omega
  have tk : ∀ i, Takes ((oneF (cxOf (L2.CX P w) P w K mg base N_law_digit "_law_digit" (defScope s_law_digit) f cdv A' outer s H E)).at_ i) (fun cls d _ H => E cls d H) := fun _ => takes_of rfl rfl rfl rfl
  show DSs _ _ _ _ _ m_law_digit
  exact (dss_cons (ds_if (dt_cmp (or_eq hu) v2_eq (do_e (de_cb cr_lenX vl_len (fun _ => Z.b_len) (by decide +kernel) (da_cons (do_n 0) da_nil))) (do_e de_int))
  (dss_cons (ds_set 2 (fun _ => sc_law_digit.nd) (by decide) (de_ix (do_n 0) (do_e de_int))) (dss_cons (ds_put 0 (de_ix (do_e (de_lst (da_cons (do_e de_int) (da_cons (do_n 2) da_nil)))) (do_e (de_ct cr_int vl_int (fun _ => Z.b_int) (by decide +kernel) (da_cons (do_e (de_cmp (fun _ => op_ge) (v2_cmp _) (do_n 2) (do_e (de_op (fun _ => op_pow) v2_pow (do_e de_int) (do_e de_int))))) da_nil)))) (do_e de_int)) (dss_one (ds_expr (de_mut 0 PySem.F.slot_list_extend PySem.F.type_list_extend (fun _ => mt_extend) vm_extend (da_cons (do_e (de_lst (da_cons (do_e (de_op (fun _ => op_mod) v2_mod (do_n 2) (do_e de_int))) (da_cons (do_e de_int) da_nil)))) da_nil))))))
  dss_nil) (dss_cons (ds_if (dt_cmp (fun _ => op_gt) (v2_cmp _) (do_e (de_ix (do_n 0) (do_e de_int))) (do_e de_int))
  (dss_cons (ds_set 3 (fun _ => sc_law_digit.nd) (by decide) (de_op (fun _ => op_mod) v2_mod (do_e (de_ix (do_n 0) (do_e de_int))) (do_n 1))) (dss_cons (ds_put 0 (de_op or_divX v2_div (do_e (de_ix (do_n 0) (do_e de_int))) (do_n 1)) (do_e de_int)) (dss_one (ds_ret (de_n 3)))))
  dss_nil) (dss_cons (ds_put 0 (de_op or_addX v2_add (do_e (de_ix (do_n 0) (do_e de_int))) (do_e de_int)) (do_e de_int)) (dss_cons (ds_set 4 (fun _ => sc_law_digit.nd) (by decide) (de_op (fun _ => op_mod) v2_mod (do_e (de_op or_mulX v2_mul (do_e (de_op or_addX v2_add (do_e (de_op or_addX v2_add (do_e (de_ix (do_n 0) (do_e de_int))) (do_e (de_op or_mulX v2_mul (do_e de_int) (do_e (de_ix (do_n 0) (do_e de_int))))))) (do_e de_int))) (do_e de_int))) (do_e de_int))) (dss_cons (ds_set 4 (fun _ => sc_law_digit.nd) (by decide) (de_op (fun _ => op_mod) v2_mod (do_e (de_op or_mulX v2_mul (do_n 4) (do_e (de_op or_addX v2_add (do_e (de_op or_divX v2_div (do_n 4) (do_e de_int))) (do_e de_int))))) (do_e de_int))) (dss_one (ds_ret (de_op (fun _ => op_mod) v2_mod (do_e (de_op (fun _ => op_mod) v2_mod (do_e (de_op or_mulX v2_mul (do_n 4) (do_e (de_op or_addX v2_add (do_e (de_op or_divX v2_div (do_n 4) (do_e de_int))) (do_e de_int))))) (do_e de_int))) (do_n 1))))))))))
theorem ok_law_of {f : Addr} {fd : FuncData} (A : DefAt K mg "_law_of" s_law_of ["_law_state", "_law_some"] f fd) (Z : Z0 mg) (XX : XF K mg) (C__law_digit : FnAt P w K mg base T "_law_digit" 2 1 f_law_digit) : FnAt P w K mg base T "_law_of" 2 2 f_law_of :=
  A.at (fn_d (k := 1) [0] A.fn sc_law_of (by decide) fun cdv A' outer s H E hr => by
  have hu : ∀ i, ((oneF (cxOf (L2.CX P w) P w K mg base N_law_of "_law_of" (defScope s_law_of) f cdv A' outer s H E)).at_ i).A.units + 65 < cLine := fun _ => by
    have q := hr.un
    have : (cxOf (L2.CX P w) P w K mg base N_law_of "_law_of" (defScope s_law_of) f cdv A' outer s H E).A = A'.deeper (envOfC "_law_of" (defScope s_law_of) s.heap.objs.size f cdv) := rfl
    show (A'.deeper (envOfC "_law_of" (defScope s_law_of) s.heap.objs.size f cdv)).units + 65 < cLine
    omega
  have tk : ∀ i, Takes ((oneF (cxOf (L2.CX P w) P w K mg base N_law_of "_law_of" (defScope s_law_of) f cdv A' outer s H E)).at_ i) (fun cls d _ H => E cls d H) := fun _ => takes_of rfl rfl rfl rfl
  show DSs _ _ _ _ _ m_law_of
  exact (dss_one (ds_ret (de_ix (do_n 1) (do_e (de_call (callee_of C__law_digit rfl (fun _ => ⟨rfl, rfl, rfl, rfl⟩) (fun _ => hr.mono (by decide)) (fun _ => rfl)) tk (da_cons (do_n 0) (da_cons (do_e (de_cb cr_lenX vl_len (fun _ => Z.b_len) (by decide +kernel) (da_cons (do_n 1) da_nil))) da_nil)) (lenA_cons 1 (lenA_cons 0 lenA_nil))))))))
theorem ok_law_cell_at {f : Addr} {fd : FuncData} (A : DefAt K mg "_law_cell_at" s_law_cell_at ["_law_script", "_law_k"] f fd) (Z : Z0 mg) (XX : XF K mg)  : FnAt P w K mg base T "_law_cell_at" 2 1 f_law_cell_at :=
  A.at (fn_d (k := 0) [] A.fn sc_law_cell_at (by decide) fun cdv A' outer s H E hr => by
  have hu : ∀ i, ((oneF (cxOf (L2.CX P w) P w K mg base N_law_cell_at "_law_cell_at" (defScope s_law_cell_at) f cdv A' outer s H E)).at_ i).A.units + 65 < cLine := fun _ => by
    have q := hr.un
    have : (cxOf (L2.CX P w) P w K mg base N_law_cell_at "_law_cell_at" (defScope s_law_cell_at) f cdv A' outer s H E).A = A'.deeper (envOfC "_law_cell_at" (defScope s_law_cell_at) s.heap.objs.size f cdv) := rfl
    show (A'.deeper (envOfC "_law_cell_at" (defScope s_law_cell_at) s.heap.objs.size f cdv)).units + 65 < cLine
    omega
  have tk : ∀ i, Takes ((oneF (cxOf (L2.CX P w) P w K mg base N_law_cell_at "_law_cell_at" (defScope s_law_cell_at) f cdv A' outer s H E)).at_ i) (fun cls d _ H => E cls d H) := fun _ => takes_of rfl rfl rfl rfl
  show DSs _ _ _ _ _ m_law_cell_at
  exact (dss_cons (ds_if (dt_cmp (fun _ => op_lt) (v2_cmp _) (do_n 1) (do_e (de_cb cr_lenX vl_len (fun _ => Z.b_len) (by decide +kernel) (da_cons (do_n 0) da_nil))))
  (dss_one (ds_ret (de_ix (do_n 0) (do_n 1))))
  dss_nil) (dss_one (ds_ret de_int))))
theorem ok_law_steps {f : Addr} {fd : FuncData} (A : DefAt K mg "_law_steps" s_law_steps ["_law_state", "_law_slots", "_law_most"] f fd) (Z : Z0 mg) (XX : XF K mg) (C__law_digit : FnAt P w K mg base T "_law_digit" 2 1 f_law_digit) : FnAt P w K mg base T "_law_steps" 3 2 f_law_steps :=
  A.at (fn_d (k := 1) [0, 1] A.fn sc_law_steps (by decide) fun cdv A' outer s H E hr => by
  have hu : ∀ i, ((oneF (cxOf (L2.CX P w) P w K mg base N_law_steps "_law_steps" (defScope s_law_steps) f cdv A' outer s H E)).at_ i).A.units + 65 < cLine := fun _ => by
    have q := hr.un
    have : (cxOf (L2.CX P w) P w K mg base N_law_steps "_law_steps" (defScope s_law_steps) f cdv A' outer s H E).A = A'.deeper (envOfC "_law_steps" (defScope s_law_steps) s.heap.objs.size f cdv) := rfl
    show (A'.deeper (envOfC "_law_steps" (defScope s_law_steps) s.heap.objs.size f cdv)).units + 65 < cLine
    omega
  have tk : ∀ i, Takes ((oneF (cxOf (L2.CX P w) P w K mg base N_law_steps "_law_steps" (defScope s_law_steps) f cdv A' outer s H E)).at_ i) (fun cls d _ H => E cls d H) := fun _ => takes_of rfl rfl rfl rfl
  show DSs _ _ _ _ _ m_law_steps
  exact (dss_cons (ds_set 3 (fun _ => sc_law_steps.nd) (by decide) (de_lst da_nil)) (dss_cons (ds_set 4 (fun _ => sc_law_steps.nd) (by decide) (de_op (fun _ => op_sub) v2_sub (do_n 2) (do_e (de_cb cr_lenX vl_len (fun _ => Z.b_len) (by decide +kernel) (da_cons (do_n 1) da_nil))))) (dss_cons (ds_for (fun _ => passes_of rfl) (fun _ => rfl) (di_seq (do_n 1)) (dg_name 5 (fun _ => sc_law_steps.nd))
  (dss_cons (ds_set 6 (fun _ => sc_law_steps.nd) (by decide) (de_d (de_call (callee_of C__law_digit rfl (fun _ => ⟨rfl, rfl, rfl, rfl⟩) (fun _ => hr.mono (by decide)) (fun _ => rfl)) tk (da_cons (do_n 0) (da_cons (do_e de_int) da_nil)) (lenA_cons 1 (lenA_cons 0 lenA_nil))))) (dss_one (ds_if (dt_w (dw_and (dt_cmp (or_eq hu) v2_eq (do_n 6) (do_e de_int)) (dw_and1 (dt_cmp (fun _ => op_gt) (v2_cmp _) (do_n 4) (do_e de_int)))))
  (dss_cons (ds_expr (de_append 3 (de_lst (da_cons (do_e (de_tup (da_cons (do_e de_str) (da_cons (do_n 5) da_nil)))) (da_cons (do_e (de_tup (da_cons (do_e de_str) (da_cons (do_n 5) da_nil)))) da_nil))))) (dss_one (ds_set 4 (fun _ => sc_law_steps.nd) (by decide) (de_op (fun _ => op_sub) v2_sub (do_n 4) (do_e de_int)))))
  (dss_one (ds_expr (de_append 3 (de_lst (da_cons (do_e (de_tup (da_cons (do_e (de_ix (do_e (de_lst (da_cons (do_e de_str) (da_cons (do_e de_str) da_nil)))) (do_e (de_op (fun _ => op_mod) v2_mod (do_n 6) (do_e de_int))))) (da_cons (do_n 5) da_nil)))) da_nil))))))))) (dss_cons (ds_set 7 (fun _ => sc_law_steps.nd) (by decide) (de_lst da_nil)) (dss_cons (ds_while w_law_steps_1 (fun _ => passes_of rfl) (dt_cmp (or_ne hu) v2_ne (do_n 3) (do_e (de_lst da_nil)))
  (dss_cons (ds_set 8 (fun _ => sc_law_steps.nd) (by decide) (de_d (de_call (callee_of C__law_digit rfl (fun _ => ⟨rfl, rfl, rfl, rfl⟩) (fun _ => hr.mono (by decide)) (fun _ => rfl)) tk (da_cons (do_n 0) (da_cons (do_e (de_cb cr_lenX vl_len (fun _ => Z.b_len) (by decide +kernel) (da_cons (do_n 3) da_nil))) da_nil)) (lenA_cons 1 (lenA_cons 0 lenA_nil))))) (dss_cons (ds_expr (de_append 7 (de_ix (do_e (de_ix (do_n 3) (do_n 8))) (do_e de_int)))) (dss_cons (ds_put 3 (de_sl (do_e (de_ix (do_n 3) (do_n 8))) (dp_so (do_e de_int)) dp_no) (do_n 8)) (dss_one (ds_frzI 3 (ds_setLc 3 [("_law_row", 9)] (by decide) (fun _ => rfl) (fun _ => sc_law_steps.nd) (di_seq (do_n 3)) (fun _ => blkOk_by (N := N_law_steps) (sc := (defScope s_law_steps)) (by decide +kernel)) (dg_name 9 (fun _ => sc_law_steps.nd)) (dts_one (dt_cmp (or_ne (blk_hu hu)) v2_ne (do_n 9) (do_e (de_lst da_nil)))) (de_n 9)))))))) (dss_one (ds_ret (de_ct cr_tuple vl_tuple (fun _ => Z.b_tuple) (by decide +kernel) (da_cons (do_n 7) da_nil))))))))))
theorem ok_law_program {f : Addr} {fd : FuncData} (A : DefAt K mg "_law_program" s_law_program ["_law_state", "_law_keys_most", "_law_most"] f fd) (Z : Z0 mg) (XX : XF K mg) (C__law_digit : FnAt P w K mg base T "_law_digit" 2 1 f_law_digit) (C__law_of : FnAt P w K mg base T "_law_of" 2 2 f_law_of) (C__law_steps : FnAt P w K mg base T "_law_steps" 3 2 f_law_steps) : FnAt P w K mg base T "_law_program" 3 3 f_law_program :=
  A.at (fn_d (k := 2) [0] A.fn sc_law_program (by decide) fun cdv A' outer s H E hr => by
  have hu : ∀ i, ((oneF (cxOf (L2.CX P w) P w K mg base N_law_program "_law_program" (defScope s_law_program) f cdv A' outer s H E)).at_ i).A.units + 65 < cLine := fun _ => by
    have q := hr.un
    have : (cxOf (L2.CX P w) P w K mg base N_law_program "_law_program" (defScope s_law_program) f cdv A' outer s H E).A = A'.deeper (envOfC "_law_program" (defScope s_law_program) s.heap.objs.size f cdv) := rfl
    show (A'.deeper (envOfC "_law_program" (defScope s_law_program) s.heap.objs.size f cdv)).units + 65 < cLine
    omega
  have tk : ∀ i, Takes ((oneF (cxOf (L2.CX P w) P w K mg base N_law_program "_law_program" (defScope s_law_program) f cdv A' outer s H E)).at_ i) (fun cls d _ H => E cls d H) := fun _ => takes_of rfl rfl rfl rfl
  show DSs _ _ _ _ _ m_law_program
  exact (dss_cons (ds_set 3 (fun _ => sc_law_program.nd) (by decide) (de_d (de_call (callee_of C__law_digit rfl (fun _ => ⟨rfl, rfl, rfl, rfl⟩) (fun _ => hr.mono (by decide)) (fun _ => rfl)) tk (da_cons (do_n 0) (da_cons (do_e (de_op or_addX v2_add (do_n 1) (do_e de_int))) da_nil)) (lenA_cons 1 (lenA_cons 0 lenA_nil))))) (dss_cons (ds_set 4 (fun _ => sc_law_program.nd) (by decide) (de_d (de_ct cr_tuple vl_tuple (fun _ => Z.b_tuple) (by decide +kernel) (da_cons (do_e (de_lc [("_law_k", 5)] (fun _ => rfl) (fun _ => sc_law_program.nd) (di_range1 (fun _ => rfl) (fun _ => Z.b_range) (da_cons (do_n 3) da_nil)) (fun _ => blkOk_by (N := N_law_program) (sc := (defScope s_law_program)) (by decide +kernel)) (dg_name 5 (fun _ => sc_law_program.nd)) dts_nil (de_call (callee_of C__law_of rfl (fun _ => ⟨rfl, rfl, rfl, rfl⟩) (fun _ => hr.mono (by decide)) (fun _ => rfl)) (fun _ => L2.takes0) (da_cons (do_n 0) (da_cons (do_e (de_lst (da_cons (do_e de_int) (da_cons (do_e de_int) (da_cons (do_e de_int) (da_cons (do_e de_int) (da_cons (do_e (de_op or_addX v2_add (do_e de_int) (do_e (de_call (callee_of C__law_digit rfl (fun _ => ⟨rfl, rfl, rfl, rfl⟩) (fun _ => hr.mono (by decide)) (fun _ => rfl)) (fun _ => L2.takes0) (da_cons (do_n 0) (da_cons (do_e de_int) da_nil)) (lenA_cons 1 (lenA_cons 0 lenA_nil)))))) da_nil))))))) da_nil)) (lenA_cons 1 (lenA_cons 0 lenA_nil))))) da_nil)))) (dss_cons (ds_setLc 6 [("_law_k", 5)] (by decide) (fun _ => rfl) (fun _ => sc_law_program.nd) (di_range1 (fun _ => rfl) (fun _ => Z.b_range) (da_cons (do_n 3) da_nil)) (fun _ => blkOk_by (N := N_law_program) (sc := (defScope s_law_program)) (by decide +kernel)) (dg_name 5 (fun _ => sc_law_program.nd)) dts_nil (de_tup (da_cons (do_e de_str) (da_cons (do_n 5) da_nil)))) (dss_cons (ds_for (fun _ => passes_of rfl) (fun _ => rfl) (di_range1 (fun _ => rfl) (fun _ => Z.b_range) (da_cons (do_e (de_call (callee_of C__law_digit rfl (fun _ => ⟨rfl, rfl, rfl, rfl⟩) (fun _ => hr.mono (by decide)) (fun _ => rfl)) tk (da_cons (do_n 0) (da_cons (do_e de_int) da_nil)) (lenA_cons 1 (lenA_cons 0 lenA_nil)))) da_nil)) (dg_name 5 (fun _ => sc_law_program.nd))
  (dss_cons (ds_set 7 (fun _ => sc_law_program.nd) (by decide) (de_d (de_call (callee_of C__law_of rfl (fun _ => ⟨rfl, rfl, rfl, rfl⟩) (fun _ => hr.mono (by decide)) (fun _ => rfl)) tk (da_cons (do_n 0) (da_cons (do_e (de_lst (da_cons (do_e de_int) (da_cons (do_e de_int) (da_cons (do_e de_int) (da_cons (do_e de_int) (da_cons (do_e (de_call (callee_of C__law_digit rfl (fun _ => ⟨rfl, rfl, rfl, rfl⟩) (fun _ => hr.mono (by decide)) (fun _ => rfl)) tk (da_cons (do_n 0) (da_cons (do_e (de_op (fun _ => op_pow) v2_pow (do_e de_int) (do_e de_int))) da_nil)) (lenA_cons 1 (lenA_cons 0 lenA_nil)))) da_nil))))))) da_nil)) (lenA_cons 1 (lenA_cons 0 lenA_nil))))) (dss_one (ds_if (dt_cmp (or_notInX hu) v2_notIn (do_e (de_tup (da_cons (do_e de_str) (da_cons (do_n 7) da_nil)))) (do_n 6))
  (dss_one (ds_expr (de_append 6 (de_tup (da_cons (do_e de_str) (da_cons (do_n 7) da_nil))))))
  dss_nil)))) (dss_cons (ds_if (dt_cmp (or_eq hu) v2_eq (do_n 6) (do_e (de_lst da_nil)))
  (dss_one (ds_set 6 (fun _ => sc_law_program.nd) (by decide) (de_lst (da_cons (do_e (de_tup (da_cons (do_e de_str) (da_cons (do_e (de_call (callee_of C__law_digit rfl (fun _ => ⟨rfl, rfl, rfl, rfl⟩) (fun _ => hr.mono (by decide)) (fun _ => rfl)) tk (da_cons (do_n 0) (da_cons (do_e de_int) da_nil)) (lenA_cons 1 (lenA_cons 0 lenA_nil)))) da_nil)))) da_nil))))
  dss_nil) (dss_one (ds_frzI 6 (ds_ret (de_tup (da_cons (do_n 4) (da_cons (do_e (de_call (callee_of C__law_steps rfl (fun _ => ⟨rfl, rfl, rfl, rfl⟩) (fun _ => hr.mono (by decide)) (fun _ => rfl)) tk (da_cons (do_n 0) (da_cons (do_n 6) (da_cons (do_n 2) da_nil))) (lenA_cons 2 (lenA_cons 1 (lenA_cons 0 lenA_nil))))) da_nil))))))))))))
theorem ok_law_spots {f : Addr} {fd : FuncData} (A : DefAt K mg "_law_spots" s_law_spots ["_law_tables", "_law_others"] f fd) (Z : Z0 mg) (XX : XF K mg)  : FnAt P w K mg base T "_law_spots" 2 1 f_law_spots :=
  A.at (fn_d (k := 0) [] A.fn sc_law_spots (by decide) fun cdv A' outer s H E hr => by
  have hu : ∀ i, ((oneF (cxOf (L2.CX P w) P w K mg base N_law_spots "_law_spots" (defScope s_law_spots) f cdv A' outer s H E)).at_ i).A.units + 65 < cLine := fun _ => by
    have q := hr.un
    have : (cxOf (L2.CX P w) P w K mg base N_law_spots "_law_spots" (defScope s_law_spots) f cdv A' outer s H E).A = A'.deeper (envOfC "_law_spots" (defScope s_law_spots) s.heap.objs.size f cdv) := rfl
    show (A'.deeper (envOfC "_law_spots" (defScope s_law_spots) s.heap.objs.size f cdv)).units + 65 < cLine
    omega
  have tk : ∀ i, Takes ((oneF (cxOf (L2.CX P w) P w K mg base N_law_spots "_law_spots" (defScope s_law_spots) f cdv A' outer s H E)).at_ i) (fun cls d _ H => E cls d H) := fun _ => takes_of rfl rfl rfl rfl
  show DSs _ _ _ _ _ m_law_spots
  exact (dss_cons (ds_set 2 (fun _ => sc_law_spots.nd) (by decide) (de_d (de_lst (da_cons (do_e (de_tup da_nil)) da_nil)))) (dss_cons (ds_for (fun _ => passes_of rfl) (fun _ => rfl) (di_seq (do_n 0)) (dg_name 3 (fun _ => sc_law_spots.nd))
  (dss_cons (ds_set 4 (fun _ => sc_law_spots.nd) (by decide) (de_lst da_nil)) (dss_cons (ds_for (fun _ => passes_of rfl) (fun _ => rfl) (di_seq (do_n 2)) (dg_name 5 (fun _ => sc_law_spots.nd))
  (dss_one (ds_for (fun _ => passes_of rfl) (fun _ => rfl) (di_seq (do_e (de_op or_addX v2_add (do_e (de_lst (da_cons (do_e (de_neg (do_e de_int))) da_nil))) (do_e (de_lc [("_law_k", 7)] (fun _ => rfl) (fun _ => sc_law_spots.nd) (di_range1 (fun _ => rfl) (fun _ => Z.b_range) (da_cons (do_e (de_cb cr_lenX vl_len (fun _ => Z.b_len) (by decide +kernel) (da_cons (do_n 1) da_nil))) da_nil)) (fun _ => blkOk_by (N := N_law_spots) (sc := (defScope s_law_spots)) (by decide +kernel)) (dg_name 7 (fun _ => sc_law_spots.nd)) (dts_one (dt_cmp (or_eq (blk_hu hu)) v2_eq (do_e (de_ix (do_n 1) (do_n 7))) (do_n 3))) (de_n 7)))))) (dg_name 6 (fun _ => sc_law_spots.nd))
  (dss_one (ds_if (dt_w (dw_or (dt_cmp (or_eq hu) v2_eq (do_n 6) (do_e (de_neg (do_e de_int)))) (dw_or1 (dt_cmp (or_notInX hu) v2_notIn (do_n 6) (do_n 5)))))
  (dss_one (ds_expr (de_append 4 (de_op or_addX v2_add (do_n 5) (do_e (de_tup (da_cons (do_n 6) da_nil)))))))
  dss_nil))))) (dss_one (ds_set 2 (fun _ => sc_law_spots.nd) (by decide) (de_d (de_n 4))))))) (dss_one (ds_ret (de_n 2))))))
theorem ok_law_sights {f : Addr} {fd : FuncData} (A : DefAt K mg "_law_sights" s_law_sights ["_law_some", "_law_number"] f fd) (Z : Z0 mg) (XX : XF K mg) (C__law_spots : FnAt P w K mg base T "_law_spots" 2 1 f_law_spots) : FnAt P w K mg base T "_law_sights" 2 2 f_law_sights :=
  A.at (fn_d (k := 1) [] A.fn sc_law_sights (by decide) fun cdv A' outer s H E hr => by
  have hu : ∀ i, ((oneF (cxOf (L2.CX P w) P w K mg base N_law_sights "_law_sights" (defScope s_law_sights) f cdv A' outer s H E)).at_ i).A.units + 65 < cLine := fun _ => by
    have q := hr.un
    have : (cxOf (L2.CX P w) P w K mg base N_law_sights "_law_sights" (defScope s_law_sights) f cdv A' outer s H E).A = A'.deeper (envOfC "_law_sights" (defScope s_law_sights) s.heap.objs.size f cdv) := rfl
    show (A'.deeper (envOfC "_law_sights" (defScope s_law_sights) s.heap.objs.size f cdv)).units + 65 < cLine
    omega
  have tk : ∀ i, Takes ((oneF (cxOf (L2.CX P w) P w K mg base N_law_sights "_law_sights" (defScope s_law_sights) f cdv A' outer s H E)).at_ i) (fun cls d _ H => E cls d H) := fun _ => takes_of rfl rfl rfl rfl
  show DSs _ _ _ _ _ m_law_sights
  exact (dss_cons (ds_set 2 (fun _ => sc_law_sights.nd) (by decide) (de_d (de_lst da_nil))) (dss_cons (ds_for (fun _ => passes_of rfl) (fun _ => rfl) (di_range1 (fun _ => rfl) (fun _ => Z.b_range) (da_cons (do_e (de_cb cr_lenX vl_len (fun _ => Z.b_len) (by decide +kernel) (da_cons (do_n 0) da_nil))) da_nil)) (dg_name 3 (fun _ => sc_law_sights.nd))
  (dss_one (ds_set 2 (fun _ => sc_law_sights.nd) (by decide) (de_d (de_op or_addX v2_add (do_n 2) (do_e (de_lc [("_law_spots_here", 4)] (fun _ => rfl) (fun _ => sc_law_sights.nd) (di_seq (do_e (de_call (callee_of C__law_spots rfl (fun _ => ⟨rfl, rfl, rfl, rfl⟩) (fun _ => hr.mono (by decide)) (fun _ => rfl)) tk (da_cons (do_e (de_ix (do_e (de_ix (do_n 0) (do_n 3))) (do_e de_int))) (da_cons (do_e (de_ix (do_e (de_ix (do_n 0) (do_n 1))) (do_e de_int))) da_nil)) (lenA_cons 1 (lenA_cons 0 lenA_nil))))) (fun _ => blkOk_by (N := N_law_sights) (sc := (defScope s_law_sights)) (by decide +kernel)) (dg_name 4 (fun _ => sc_law_sights.nd)) dts_nil (de_tup (da_cons (do_n 3) (da_cons (do_n 4) da_nil)))))))))) (dss_one (ds_ret (de_cb (cr_sortedXD hu) vl_sortedD (fun _ => Z.b_sorted) (by decide +kernel) (da_cons (do_n 2) da_nil)))))))
theorem ok_is_from {f : Addr} {fd : FuncData} (A : DefAt K mg "is_from" s_is_from ["thing", "low", "high"] f fd) (Z : Z0 mg) (XX : XF K mg)  : FnAt P w K mg base T "is_from" 3 1 f_is_from :=
  A.at (fn_d (k := 0) [] A.fn sc_is_from (by decide) fun cdv A' outer s H E hr => by
  have hu : ∀ i, ((oneF (cxOf (L2.CX P w) P w K mg base N_is_from "is_from" (defScope s_is_from) f cdv A' outer s H E)).at_ i).A.units + 65 < cLine := fun _ => by
    have q := hr.un
    have : (cxOf (L2.CX P w) P w K mg base N_is_from "is_from" (defScope s_is_from) f cdv A' outer s H E).A = A'.deeper (envOfC "is_from" (defScope s_is_from) s.heap.objs.size f cdv) := rfl
    show (A'.deeper (envOfC "is_from" (defScope s_is_from) s.heap.objs.size f cdv)).units + 65 < cLine
    omega
  have tk : ∀ i, Takes ((oneF (cxOf (L2.CX P w) P w K mg base N_is_from "is_from" (defScope s_is_from) f cdv A' outer s H E)).at_ i) (fun cls d _ H => E cls d H) := fun _ => takes_of rfl rfl rfl rfl
  show DSs _ _ _ _ _ m_is_from
  exact (dss_one (ds_ret (de_and (de_cb cr_isi vl_isi (fun _ => Z.b_isinstance) (by decide +kernel) (da_cons (do_n 0) (da_cons (do_e (de_bltn (fun _ => rfl) (fun _ => Z.b_int) (by decide +kernel) (show RelV (.ty "int") (.type "int") from rfl))) da_nil))) (de_and (de_not (de_cb cr_isi vl_isi (fun _ => Z.b_isinstance) (by decide +kernel) (da_cons (do_n 0) (da_cons (do_e (de_bltn (fun _ => rfl) (fun _ => Z.b_bool) (by decide +kernel) (show RelV (.ty "bool") (.type "bool") from rfl))) da_nil)))) (de_one (de_chain (fun _ => op_le) (v2_cmp _) (fun _ => op_le) (v2_cmp _) (do_n 1) (do_n 0) (do_n 2))))))))
theorem ok_are_tables {f : Addr} {fd : FuncData} (A : DefAt K mg "are_tables" s_are_tables ["thing"] f fd) (Z : Z0 mg) (XX : XF K mg) (C_is_from : FnAt P w K mg base T "is_from" 3 1 f_is_from) {v_MOST_KEYS : V} {u_MOST_KEYS : Value} (C_MOST_KEYS : CAt K mg "MOST_KEYS" (.int 3) v_MOST_KEYS u_MOST_KEYS) {v_MOST_TABLE : V} {u_MOST_TABLE : Value} (C_MOST_TABLE : CAt K mg "MOST_TABLE" (.int 9) v_MOST_TABLE u_MOST_TABLE) : FnAt P w K mg base T "are_tables" 1 2 f_are_tables :=
  A.at (fn_d (k := 1) [] A.fn sc_are_tables (by decide) fun cdv A' outer s H E hr => by
  have hu : ∀ i, ((oneF (cxOf (L2.CX P w) P w K mg base N_are_tables "are_tables" (defScope s_are_tables) f cdv A' outer s H E)).at_ i).A.units + 65 < cLine := fun _ => by
    have q := hr.un
    have : (cxOf (L2.CX P w) P w K mg base N_are_tables "are_tables" (defScope s_are_tables) f cdv A' outer s H E).A = A'.deeper (envOfC "are_tables" (defScope s_are_tables) s.heap.objs.size f cdv) := rfl
    show (A'.deeper (envOfC "are_tables" (defScope s_are_tables) s.heap.objs.size f cdv)).units + 65 < cLine
    omega
  have tk : ∀ i, Takes ((oneF (cxOf (L2.CX P w) P w K mg base N_are_tables "are_tables" (defScope s_are_tables) f cdv A' outer s H E)).at_ i) (fun cls d _ H => E cls d H) := fun _ => takes_of rfl rfl rfl rfl
  show DSs _ _ _ _ _ m_are_tables
  exact (dss_cons (ds_if (dt_w (dw_or (dt_not (dt_val (de_cb cr_isi vl_isi (fun _ => Z.b_isinstance) (by decide +kernel) (da_cons (do_n 0) (da_cons (do_e (de_bltn (fun _ => rfl) (fun _ => Z.b_tuple) (by decide +kernel) (show RelV (.ty "tuple") (.type "tuple") from rfl))) da_nil))))) (dw_or1 (dt_cmp (fun _ => op_gt) (v2_cmp _) (do_e (de_cb cr_lenX vl_len (fun _ => Z.b_len) (by decide +kernel) (da_cons (do_n 0) da_nil))) (do_e (de_glob (fun _ => rfl) (fun _ => C_MOST_KEYS.g) C_MOST_KEYS.rv C_MOST_KEYS.r))))))
  (dss_one (ds_ret de_bl))
  dss_nil) (dss_one (ds_ret (de_cb (cr_allX fun _ => rfl) vl_all (fun _ => Z.b_all) (by decide +kernel) (da_cons (do_e (de_lc [("table", 1)] (fun _ => rfl) (fun _ => sc_are_tables.nd) (di_seq (do_n 0)) (fun _ => blkOk_by (N := N_are_tables) (sc := (defScope s_are_tables)) (by decide +kernel)) (dg_name 1 (fun _ => sc_are_tables.nd)) dts_nil (de_call (callee_of C_is_from rfl (fun _ => ⟨rfl, rfl, rfl, rfl⟩) (fun _ => hr.mono (by decide)) (fun _ => rfl)) (fun _ => L2.takes0) (da_cons (do_n 1) (da_cons (do_e de_int) (da_cons (do_e (de_glob (fun _ => rfl) (fun _ => C_MOST_TABLE.g) C_MOST_TABLE.rv C_MOST_TABLE.r)) da_nil))) (lenA_cons 2 (lenA_cons 1 (lenA_cons 0 lenA_nil)))))) da_nil))))))
theorem ok_in_order {f : Addr} {fd : FuncData} (A : DefAt K mg "in_order" s_in_order ["steps"] f fd) (Z : Z0 mg) (XX : XF K mg)  : FnAt P w K mg base T "in_order" 1 1 f_in_order :=
  A.at (fn_d (k := 0) [] A.fn sc_in_order (by decide) fun cdv A' outer s H E hr => by
  have hu : ∀ i, ((oneF (cxOf (L2.CX P w) P w K mg base N_in_order "in_order" (defScope s_in_order) f cdv A' outer s H E)).at_ i).A.units + 65 < cLine := fun _ => by
    have q := hr.un
    have : (cxOf (L2.CX P w) P w K mg base N_in_order "in_order" (defScope s_in_order) f cdv A' outer s H E).A = A'.deeper (envOfC "in_order" (defScope s_in_order) s.heap.objs.size f cdv) := rfl
    show (A'.deeper (envOfC "in_order" (defScope s_in_order) s.heap.objs.size f cdv)).units + 65 < cLine
    omega
  have tk : ∀ i, Takes ((oneF (cxOf (L2.CX P w) P w K mg base N_in_order "in_order" (defScope s_in_order) f cdv A' outer s H E)).at_ i) (fun cls d _ H => E cls d H) := fun _ => takes_of rfl rfl rfl rfl
  show DSs _ _ _ _ _ m_in_order
  exact (dss_cons (ds_for (fun _ => passes_of rfl) (fun _ => rfl) (di_enum (fun _ => rfl) (fun _ => Z.b_enumerate) (do_n 0)) (dg_tup (fun _ => rfl) (dgs_cons (dg_name 1 (fun _ => sc_in_order.nd)) (dgs_cons (dg_name 2 (fun _ => sc_in_order.nd)) dgs_nil)))
  (dss_one (ds_if (dt_w (dw_or (dt_cmp (or_inX hu) v2_in (do_n 2) (do_e (de_sl (do_n 0) dp_no (dp_so (do_n 1))))) (dw_or1 (dt_w (dw_and (dt_cmp (or_eq hu) v2_eq (do_e (de_ix (do_n 2) (do_e de_int))) (do_e de_str)) (dw_and1 (dt_cmp (or_inX hu) v2_in (do_e (de_tup (da_cons (do_e de_str) (da_cons (do_e (de_ix (do_n 2) (do_e de_int))) da_nil)))) (do_e (de_sl (do_n 0) dp_no (dp_so (do_n 1)))))))))))
  (dss_one (ds_ret de_bl))
  dss_nil))) (dss_one (ds_ret de_bl))))
theorem ok_is_slot {f : Addr} {fd : FuncData} (A : DefAt K mg "is_slot" s_is_slot ["thing", "many"] f fd) (Z : Z0 mg) (XX : XF K mg) (C_is_from : FnAt P w K mg base T "is_from" 3 1 f_is_from) {v_WIDE : V} {u_WIDE : Value} (C_WIDE : CAt K mg "WIDE" (.int 1000000) v_WIDE u_WIDE) : FnAt P w K mg base T "is_slot" 2 2 f_is_slot :=
  A.at (fn_d (k := 1) [] A.fn sc_is_slot (by decide) fun cdv A' outer s H E hr => by
  have hu : ∀ i, ((oneF (cxOf (L2.CX P w) P w K mg base N_is_slot "is_slot" (defScope s_is_slot) f cdv A' outer s H E)).at_ i).A.units + 65 < cLine := fun _ => by
    have q := hr.un
    have : (cxOf (L2.CX P w) P w K mg base N_is_slot "is_slot" (defScope s_is_slot) f cdv A' outer s H E).A = A'.deeper (envOfC "is_slot" (defScope s_is_slot) s.heap.objs.size f cdv) := rfl
    show (A'.deeper (envOfC "is_slot" (defScope s_is_slot) s.heap.objs.size f cdv)).units + 65 < cLine
    omega
  have tk : ∀ i, Takes ((oneF (cxOf (L2.CX P w) P w K mg base N_is_slot "is_slot" (defScope s_is_slot) f cdv A' outer s H E)).at_ i) (fun cls d _ H => E cls d H) := fun _ => takes_of rfl rfl rfl rfl
  show DSs _ _ _ _ _ m_is_slot
  exact (dss_cons (ds_if (dt_w (dw_or (dt_not (dt_val (de_cb cr_isi vl_isi (fun _ => Z.b_isinstance) (by decide +kernel) (da_cons (do_n 0) (da_cons (do_e (de_bltn (fun _ => rfl) (fun _ => Z.b_tuple) (by decide +kernel) (show RelV (.ty "tuple") (.type "tuple") from rfl))) da_nil))))) (dw_or (dt_cmp (or_ne hu) v2_ne (do_e (de_cb cr_lenX vl_len (fun _ => Z.b_len) (by decide +kernel) (da_cons (do_n 0) da_nil))) (do_e de_int)) (dw_or1 (dt_not (dt_val (de_cb cr_isi vl_isi (fun _ => Z.b_isinstance) (by decide +kernel) (da_cons (do_e (de_ix (do_n 0) (do_e de_int))) (da_cons (do_e (de_bltn (fun _ => rfl) (fun _ => Z.b_str) (by decide +kernel) (show RelV (.ty "str") (.type "str") from rfl))) da_nil)))))))))
  (dss_one (ds_ret de_bl))
  dss_nil) (dss_cons (ds_if (dt_cmp (or_eq hu) v2_eq (do_e (de_ix (do_n 0) (do_e de_int))) (do_e de_str))
  (dss_one (ds_ret (de_call (callee_of C_is_from rfl (fun _ => ⟨rfl, rfl, rfl, rfl⟩) (fun _ => hr.mono (by decide)) (fun _ => rfl)) tk (da_cons (do_e (de_ix (do_n 0) (do_e de_int))) (da_cons (do_e de_int) (da_cons (do_e (de_op (fun _ => op_sub) v2_sub (do_e (de_glob (fun _ => rfl) (fun _ => C_WIDE.g) C_WIDE.rv C_WIDE.r)) (do_e de_int))) da_nil))) (lenA_cons 2 (lenA_cons 1 (lenA_cons 0 lenA_nil))))))
  dss_nil) (dss_one (ds_ret (de_and (de_cmp (or_eq hu) v2_eq (do_e (de_ix (do_n 0) (do_e de_int))) (do_e de_str)) (de_one (de_call (callee_of C_is_from rfl (fun _ => ⟨rfl, rfl, rfl, rfl⟩) (fun _ => hr.mono (by decide)) (fun _ => rfl)) tk (da_cons (do_e (de_ix (do_n 0) (do_e de_int))) (da_cons (do_e de_int) (da_cons (do_e (de_op (fun _ => op_sub) v2_sub (do_n 1) (do_e de_int))) da_nil))) (lenA_cons 2 (lenA_cons 1 (lenA_cons 0 lenA_nil)))))))))))
theorem ok_is_slot_step {f : Addr} {fd : FuncData} (A : DefAt K mg "is_slot_step" s_is_slot_step ["thing", "many"] f fd) (Z : Z0 mg) (XX : XF K mg) (C_is_slot : FnAt P w K mg base T "is_slot" 2 2 f_is_slot) {v_WORDS : V} {u_WORDS : Value} (C_WORDS : CAt K mg "WORDS" (.tup [(.str "read"), (.str "write")]) v_WORDS u_WORDS) : FnAt P w K mg base T "is_slot_step" 2 3 f_is_slot_step :=
  A.at (fn_d (k := 2) [] A.fn sc_is_slot_step (by decide) fun cdv A' outer s H E hr => by
  have hu : ∀ i, ((oneF (cxOf (L2.CX P w) P w K mg base N_is_slot_step "is_slot_step" (defScope s_is_slot_step) f cdv A' outer s H E)).at_ i).A.units + 65 < cLine := fun _ => by
    have q := hr.un
    have : (cxOf (L2.CX P w) P w K mg base N_is_slot_step "is_slot_step" (defScope s_is_slot_step) f cdv A' outer s H E).A = A'.deeper (envOfC "is_slot_step" (defScope s_is_slot_step) s.heap.objs.size f cdv) := rfl
    show (A'.deeper (envOfC "is_slot_step" (defScope s_is_slot_step) s.heap.objs.size f cdv)).units + 65 < cLine
    omega
  have tk : ∀ i, Takes ((oneF (cxOf (L2.CX P w) P w K mg base N_is_slot_step "is_slot_step" (defScope s_is_slot_step) f cdv A' outer s H E)).at_ i) (fun cls d _ H => E cls d H) := fun _ => takes_of rfl rfl rfl rfl
  show DSs _ _ _ _ _ m_is_slot_step
  exact (dss_cons (ds_if (dt_w (dw_or (dt_not (dt_val (de_cb cr_isi vl_isi (fun _ => Z.b_isinstance) (by decide +kernel) (da_cons (do_n 0) (da_cons (do_e (de_bltn (fun _ => rfl) (fun _ => Z.b_tuple) (by decide +kernel) (show RelV (.ty "tuple") (.type "tuple") from rfl))) da_nil))))) (dw_or (dt_cmp (or_ne hu) v2_ne (do_e (de_cb cr_lenX vl_len (fun _ => Z.b_len) (by decide +kernel) (da_cons (do_n 0) da_nil))) (do_e de_int)) (dw_or1 (dt_not (dt_val (de_cb cr_isi vl_isi (fun _ => Z.b_isinstance) (by decide +kernel) (da_cons (do_e (de_ix (do_n 0) (do_e de_int))) (da_cons (do_e (de_bltn (fun _ => rfl) (fun _ => Z.b_str) (by decide +kernel) (show RelV (.ty "str") (.type "str") from rfl))) da_nil)))))))))
  (dss_one (ds_ret de_bl))
  dss_nil) (dss_one (ds_ret (de_and (de_cmp (or_inX hu) v2_in (do_e (de_ix (do_n 0) (do_e de_int))) (do_e (de_glob (fun _ => rfl) (fun _ => C_WORDS.g) C_WORDS.rv C_WORDS.r))) (de_one (de_call (callee_of C_is_slot rfl (fun _ => ⟨rfl, rfl, rfl, rfl⟩) (fun _ => hr.mono (by decide)) (fun _ => rfl)) tk (da_cons (do_e (de_ix (do_n 0) (do_e de_int))) (da_cons (do_n 1) da_nil)) (lenA_cons 1 (lenA_cons 0 lenA_nil)))))))))
theorem ok_is_program {f : Addr} {fd : FuncData} (A : DefAt K mg "is_program" s_is_program ["thing"] f fd) (Z : Z0 mg) (XX : XF K mg) (C_are_tables : FnAt P w K mg base T "are_tables" 1 2 f_are_tables) (C_in_order : FnAt P w K mg base T "in_order" 1 1 f_in_order) (C_is_slot_step : FnAt P w K mg base T "is_slot_step" 2 3 f_is_slot_step) {v_MOST_STEPS : V} {u_MOST_STEPS : Value} (C_MOST_STEPS : CAt K mg "MOST_STEPS" (.int 6) v_MOST_STEPS u_MOST_STEPS) : FnAt P w K mg base T "is_program" 1 4 f_is_program :=
  A.at (fn_d (k := 3) [] A.fn sc_is_program (by decide) fun cdv A' outer s H E hr => by
  have hu : ∀ i, ((oneF (cxOf (L2.CX P w) P w K mg base N_is_program "is_program" (defScope s_is_program) f cdv A' outer s H E)).at_ i).A.units + 65 < cLine := fun _ => by
    have q := hr.un
    have : (cxOf (L2.CX P w) P w K mg base N_is_program "is_program" (defScope s_is_program) f cdv A' outer s H E).A = A'.deeper (envOfC "is_program" (defScope s_is_program) s.heap.objs.size f cdv) := rfl
    show (A'.deeper (envOfC "is_program" (defScope s_is_program) s.heap.objs.size f cdv)).units + 65 < cLine
    omega
  have tk : ∀ i, Takes ((oneF (cxOf (L2.CX P w) P w K mg base N_is_program "is_program" (defScope s_is_program) f cdv A' outer s H E)).at_ i) (fun cls d _ H => E cls d H) := fun _ => takes_of rfl rfl rfl rfl
  show DSs _ _ _ _ _ m_is_program
  exact (dss_cons (ds_if (dt_w (dw_or (dt_not (dt_val (de_cb cr_isi vl_isi (fun _ => Z.b_isinstance) (by decide +kernel) (da_cons (do_n 0) (da_cons (do_e (de_bltn (fun _ => rfl) (fun _ => Z.b_tuple) (by decide +kernel) (show RelV (.ty "tuple") (.type "tuple") from rfl))) da_nil))))) (dw_or (dt_cmp (or_ne hu) v2_ne (do_e (de_cb cr_lenX vl_len (fun _ => Z.b_len) (by decide +kernel) (da_cons (do_n 0) da_nil))) (do_e de_int)) (dw_or1 (dt_not (dt_val (de_call (callee_of C_are_tables rfl (fun _ => ⟨rfl, rfl, rfl, rfl⟩) (fun _ => hr.mono (by decide)) (fun _ => rfl)) tk (da_cons (do_e (de_ix (do_n 0) (do_e de_int))) da_nil) (lenA_cons 0 lenA_nil))))))))
  (dss_one (ds_ret de_bl))
  dss_nil) (dss_cons (ds_unp (dg_tup (fun _ => rfl) (dgs_cons (dg_name 1 (fun _ => sc_is_program.nd)) (dgs_cons (dg_name 2 (fun _ => sc_is_program.nd)) dgs_nil))) (de_n 0)) (dss_cons (ds_if (dt_w (dw_or (dt_not (dt_val (de_cb cr_isi vl_isi (fun _ => Z.b_isinstance) (by decide +kernel) (da_cons (do_n 2) (da_cons (do_e (de_bltn (fun _ => rfl) (fun _ => Z.b_tuple) (by decide +kernel) (show RelV (.ty "tuple") (.type "tuple") from rfl))) da_nil))))) (dw_or1 (dt_not (dt_chain (fun _ => op_le) (v2_cmp _) (fun _ => op_le) (v2_cmp _) (do_e de_int) (do_e (de_cb cr_lenX vl_len (fun _ => Z.b_len) (by decide +kernel) (da_cons (do_n 2) da_nil))) (do_e (de_glob (fun _ => rfl) (fun _ => C_MOST_STEPS.g) C_MOST_STEPS.rv C_MOST_STEPS.r)))))))
  (dss_one (ds_ret de_bl))
  dss_nil) (dss_cons (ds_if (dt_w (dw_or (dt_not (dt_val (de_cb (cr_allX fun _ => rfl) vl_all (fun _ => Z.b_all) (by decide +kernel) (da_cons (do_e (de_lc [("step", 3)] (fun _ => rfl) (fun _ => sc_is_program.nd) (di_seq (do_n 2)) (fun _ => blkOk_by (N := N_is_program) (sc := (defScope s_is_program)) (by decide +kernel)) (dg_name 3 (fun _ => sc_is_program.nd)) dts_nil (de_call (callee_of C_is_slot_step rfl (fun _ => ⟨rfl, rfl, rfl, rfl⟩) (fun _ => hr.mono (by decide)) (fun _ => rfl)) (fun _ => L2.takes0) (da_cons (do_n 3) (da_cons (do_e (de_cb cr_lenX vl_len (fun _ => Z.b_len) (by decide +kernel) (da_cons (do_n 1) da_nil))) da_nil)) (lenA_cons 1 (lenA_cons 0 lenA_nil))))) da_nil)))) (dw_or1 (dt_not (dt_val (de_call (callee_of C_in_order rfl (fun _ => ⟨rfl, rfl, rfl, rfl⟩) (fun _ => hr.mono (by decide)) (fun _ => rfl)) tk (da_cons (do_n 2) da_nil) (lenA_cons 0 lenA_nil)))))))
  (dss_one (ds_ret de_bl))
  dss_nil) (dss_cons (ds_set 4 (fun _ => sc_is_program.nd) (by decide) (de_d (de_lc [("word", 5), ("slot", 6)] (fun _ => rfl) (fun _ => sc_is_program.nd) (di_seq (do_n 2)) (fun _ => blkOk_by (N := N_is_program) (sc := (defScope s_is_program)) (by decide +kernel)) (dg_tup (fun _ => rfl) (dgs_cons (dg_name 5 (fun _ => sc_is_program.nd)) (dgs_cons (dg_name 6 (fun _ => sc_is_program.nd)) dgs_nil))) dts_nil (de_n 6)))) (dss_one (ds_ret (de_cb (cr_allX fun _ => rfl) vl_all (fun _ => Z.b_all) (by decide +kernel) (da_cons (do_e (de_lc [("place", 7)] (fun _ => rfl) (fun _ => sc_is_program.nd) (di_range1 (fun _ => rfl) (fun _ => Z.b_range) (da_cons (do_e (de_cb cr_lenX vl_len (fun _ => Z.b_len) (by decide +kernel) (da_cons (do_n 1) da_nil))) da_nil)) (fun _ => blkOk_by (N := N_is_program) (sc := (defScope s_is_program)) (by decide +kernel)) (dg_name 7 (fun _ => sc_is_program.nd)) dts_nil (de_cmp (or_inX (blk_hu hu)) v2_in (do_e (de_tup (da_cons (do_e de_str) (da_cons (do_n 7) da_nil)))) (do_n 4)))) da_nil))))))))))
theorem ok_are_programs {f : Addr} {fd : FuncData} (A : DefAt K mg "are_programs" s_are_programs ["thing"] f fd) (Z : Z0 mg) (XX : XF K mg) (C_is_program : FnAt P w K mg base T "is_program" 1 4 f_is_program) {v_MOST_PROGRAMS : V} {u_MOST_PROGRAMS : Value} (C_MOST_PROGRAMS : CAt K mg "MOST_PROGRAMS" (.int 4) v_MOST_PROGRAMS u_MOST_PROGRAMS) : FnAt P w K mg base T "are_programs" 1 5 f_are_programs :=
  A.at (fn_d (k := 4) [] A.fn sc_are_programs (by decide) fun cdv A' outer s H E hr => by
  have hu : ∀ i, ((oneF (cxOf (L2.CX P w) P w K mg base N_are_programs "are_programs" (defScope s_are_programs) f cdv A' outer s H E)).at_ i).A.units + 65 < cLine := fun _ => by
    have q := hr.un
    have : (cxOf (L2.CX P w) P w K mg base N_are_programs "are_programs" (defScope s_are_programs) f cdv A' outer s H E).A = A'.deeper (envOfC "are_programs" (defScope s_are_programs) s.heap.objs.size f cdv) := rfl
    show (A'.deeper (envOfC "are_programs" (defScope s_are_programs) s.heap.objs.size f cdv)).units + 65 < cLine
    omega
  have tk : ∀ i, Takes ((oneF (cxOf (L2.CX P w) P w K mg base N_are_programs "are_programs" (defScope s_are_programs) f cdv A' outer s H E)).at_ i) (fun cls d _ H => E cls d H) := fun _ => takes_of rfl rfl rfl rfl
  show DSs _ _ _ _ _ m_are_programs
  exact (dss_cons (ds_if (dt_w (dw_or (dt_not (dt_val (de_cb cr_isi vl_isi (fun _ => Z.b_isinstance) (by decide +kernel) (da_cons (do_n 0) (da_cons (do_e (de_bltn (fun _ => rfl) (fun _ => Z.b_list) (by decide +kernel) (show RelV (.ty "list") (.type "list") from rfl))) da_nil))))) (dw_or1 (dt_not (dt_chain (fun _ => op_le) (v2_cmp _) (fun _ => op_le) (v2_cmp _) (do_e de_int) (do_e (de_cb cr_lenX vl_len (fun _ => Z.b_len) (by decide +kernel) (da_cons (do_n 0) da_nil))) (do_e (de_glob (fun _ => rfl) (fun _ => C_MOST_PROGRAMS.g) C_MOST_PROGRAMS.rv C_MOST_PROGRAMS.r)))))))
  (dss_one (ds_ret de_bl))
  dss_nil) (dss_one (ds_ret (de_cb (cr_allX fun _ => rfl) vl_all (fun _ => Z.b_all) (by decide +kernel) (da_cons (do_e (de_lc [("program", 1)] (fun _ => rfl) (fun _ => sc_are_programs.nd) (di_seq (do_n 0)) (fun _ => blkOk_by (N := N_are_programs) (sc := (defScope s_are_programs)) (by decide +kernel)) (dg_name 1 (fun _ => sc_are_programs.nd)) dts_nil (de_call (callee_of C_is_program rfl (fun _ => ⟨rfl, rfl, rfl, rfl⟩) (fun _ => hr.mono (by decide)) (fun _ => rfl)) (fun _ => L2.takes0) (da_cons (do_n 1) da_nil) (lenA_cons 0 lenA_nil)))) da_nil))))))
theorem ok_sure_programs {f : Addr} {fd : FuncData} (A : DefAt K mg "sure_programs" s_sure_programs ["thing"] f fd) (Z : Z0 mg) (XX : XF K mg) (C_are_programs : FnAt P w K mg base T "are_programs" 1 5 f_are_programs) : FnAt P w K mg base T "sure_programs" 1 6 f_sure_programs :=
  A.at (fn_d (k := 5) [] A.fn sc_sure_programs (by decide) fun cdv A' outer s H E hr => by
  have hu : ∀ i, ((oneF (cxOf (L2.CX P w) P w K mg base N_sure_programs "sure_programs" (defScope s_sure_programs) f cdv A' outer s H E)).at_ i).A.units + 65 < cLine := fun _ => by
    have q := hr.un
    have : (cxOf (L2.CX P w) P w K mg base N_sure_programs "sure_programs" (defScope s_sure_programs) f cdv A' outer s H E).A = A'.deeper (envOfC "sure_programs" (defScope s_sure_programs) s.heap.objs.size f cdv) := rfl
    show (A'.deeper (envOfC "sure_programs" (defScope s_sure_programs) s.heap.objs.size f cdv)).units + 65 < cLine
    omega
  have tk : ∀ i, Takes ((oneF (cxOf (L2.CX P w) P w K mg base N_sure_programs "sure_programs" (defScope s_sure_programs) f cdv A' outer s H E)).at_ i) (fun cls d _ H => E cls d H) := fun _ => takes_of rfl rfl rfl rfl
  show DSs _ _ _ _ _ m_sure_programs
  exact (dss_one (ds_if (dt_not (dt_val (de_call (callee_of C_are_programs rfl (fun _ => ⟨rfl, rfl, rfl, rfl⟩) (fun _ => hr.mono (by decide)) (fun _ => rfl)) tk (da_cons (do_n 0) da_nil) (lenA_cons 0 lenA_nil))))
  (dss_one (ds_raise XX.r_NoPrograms rfl (fun _ => rfl) (fun _ => rfl) tk (fun _ => rfl)))
  dss_nil)))
theorem ok_sure_program_number {f : Addr} {fd : FuncData} (A : DefAt K mg "sure_program_number" s_sure_program_number ["programs", "number"] f fd) (Z : Z0 mg) (XX : XF K mg) (C_is_from : FnAt P w K mg base T "is_from" 3 1 f_is_from) (C_sure_programs : FnAt P w K mg base T "sure_programs" 1 6 f_sure_programs) : FnAt P w K mg base T "sure_program_number" 2 7 f_sure_program_number :=
  A.at (fn_d (k := 6) [] A.fn sc_sure_program_number (by decide) fun cdv A' outer s H E hr => by
  have hu : ∀ i, ((oneF (cxOf (L2.CX P w) P w K mg base N_sure_program_number "sure_program_number" (defScope s_sure_program_number) f cdv A' outer s H E)).at_ i).A.units + 65 < cLine := fun _ => by
    have q := hr.un
    have : (cxOf (L2.CX P w) P w K mg base N_sure_program_number "sure_program_number" (defScope s_sure_program_number) f cdv A' outer s H E).A = A'.deeper (envOfC "sure_program_number" (defScope s_sure_program_number) s.heap.objs.size f cdv) := rfl
    show (A'.deeper (envOfC "sure_program_number" (defScope s_sure_program_number) s.heap.objs.size f cdv)).units + 65 < cLine
    omega
  have tk : ∀ i, Takes ((oneF (cxOf (L2.CX P w) P w K mg base N_sure_program_number "sure_program_number" (defScope s_sure_program_number) f cdv A' outer s H E)).at_ i) (fun cls d _ H => E cls d H) := fun _ => takes_of rfl rfl rfl rfl
  show DSs _ _ _ _ _ m_sure_program_number
  exact (dss_cons (ds_expr (de_call (callee_of C_sure_programs rfl (fun _ => ⟨rfl, rfl, rfl, rfl⟩) (fun _ => hr.mono (by decide)) (fun _ => rfl)) tk (da_cons (do_n 0) da_nil) (lenA_cons 0 lenA_nil))) (dss_one (ds_if (dt_not (dt_val (de_call (callee_of C_is_from rfl (fun _ => ⟨rfl, rfl, rfl, rfl⟩) (fun _ => hr.mono (by decide)) (fun _ => rfl)) tk (da_cons (do_n 1) (da_cons (do_e de_int) (da_cons (do_e (de_op (fun _ => op_sub) v2_sub (do_e (de_cb cr_lenX vl_len (fun _ => Z.b_len) (by decide +kernel) (da_cons (do_n 0) da_nil))) (do_e de_int))) da_nil))) (lenA_cons 2 (lenA_cons 1 (lenA_cons 0 lenA_nil))))))
  (dss_one (ds_raise XX.r_NoNumber rfl (fun _ => rfl) (fun _ => rfl) tk (fun _ => rfl)))
  dss_nil))))
theorem ok_all_spots {f : Addr} {fd : FuncData} (A : DefAt K mg "all_spots" s_all_spots ["tables", "others"] f fd) (Z : Z0 mg) (XX : XF K mg)  : FnAt P w K mg base T "all_spots" 2 1 f_all_spots :=
  A.at (fn_d (k := 0) [] A.fn sc_all_spots (by decide) fun cdv A' outer s H E hr => by
  have hu : ∀ i, ((oneF (cxOf (L2.CX P w) P w K mg base N_all_spots "all_spots" (defScope s_all_spots) f cdv A' outer s H E)).at_ i).A.units + 65 < cLine := fun _ => by
    have q := hr.un
    have : (cxOf (L2.CX P w) P w K mg base N_all_spots "all_spots" (defScope s_all_spots) f cdv A' outer s H E).A = A'.deeper (envOfC "all_spots" (defScope s_all_spots) s.heap.objs.size f cdv) := rfl
    show (A'.deeper (envOfC "all_spots" (defScope s_all_spots) s.heap.objs.size f cdv)).units + 65 < cLine
    omega
  have tk : ∀ i, Takes ((oneF (cxOf (L2.CX P w) P w K mg base N_all_spots "all_spots" (defScope s_all_spots) f cdv A' outer s H E)).at_ i) (fun cls d _ H => E cls d H) := fun _ => takes_of rfl rfl rfl rfl
  show DSs _ _ _ _ _ m_all_spots
  exact (dss_cons (ds_set 2 (fun _ => sc_all_spots.nd) (by decide) (de_d (de_lst (da_cons (do_e (de_tup da_nil)) da_nil)))) (dss_cons (ds_for (fun _ => passes_of rfl) (fun _ => rfl) (di_seq (do_n 0)) (dg_name 3 (fun _ => sc_all_spots.nd))
  (dss_cons (ds_set 4 (fun _ => sc_all_spots.nd) (by decide) (de_d (de_op or_addX v2_add (do_e (de_lst (da_cons (do_e (de_neg (do_e de_int))) da_nil))) (do_e (de_lc [("place", 5), ("other", 6)] (fun _ => rfl) (fun _ => sc_all_spots.nd) (di_enum (fun _ => rfl) (fun _ => Z.b_enumerate) (do_n 1)) (fun _ => blkOk_by (N := N_all_spots) (sc := (defScope s_all_spots)) (by decide +kernel)) (dg_tup (fun _ => rfl) (dgs_cons (dg_name 5 (fun _ => sc_all_spots.nd)) (dgs_cons (dg_name 6 (fun _ => sc_all_spots.nd)) dgs_nil))) (dts_one (dt_cmp (or_eq (blk_hu hu)) v2_eq (do_n 6) (do_n 3))) (de_n 5)))))) (dss_one (ds_frz (ds_setLc2 2 [("row", 7), ("place", 5)] [5] (by decide) (fun _ => rfl) (fun _ => sc_all_spots.nd) (di_seq (do_n 2)) (fun _ => blkOk_by (N := N_all_spots) (sc := (defScope s_all_spots)) (by decide +kernel)) (dg_name 7 (fun _ => sc_all_spots.nd)) dts_nil (di_seq (do_n 4)) (dg_name 5 (fun _ => sc_all_spots.nd)) (dts_one (dt_w (dw_or (dt_cmp (or_eq (blk_hu hu)) v2_eq (do_n 5) (do_e (de_neg (do_e de_int)))) (dw_or1 (dt_cmp (or_notInX (blk_hu hu)) v2_notIn (do_n 5) (do_n 7)))))) (de_op or_addX v2_add (do_n 7) (do_e (de_tup (da_cons (do_n 5) da_nil))))))))) (dss_one (ds_ret (de_n 2))))))
theorem ok_all_sights {f : Addr} {fd : FuncData} (A : DefAt K mg "all_sights" s_all_sights ["programs", "number"] f fd) (Z : Z0 mg) (XX : XF K mg) (C_all_spots : FnAt P w K mg base T "all_spots" 2 1 f_all_spots) : FnAt P w K mg base T "all_sights" 2 2 f_all_sights :=
  A.at (fn_d (k := 1) [] A.fn sc_all_sights (by decide) fun cdv A' outer s H E hr => by
  have hu : ∀ i, ((oneF (cxOf (L2.CX P w) P w K mg base N_all_sights "all_sights" (defScope s_all_sights) f cdv A' outer s H E)).at_ i).A.units + 65 < cLine := fun _ => by
    have q := hr.un
    have : (cxOf (L2.CX P w) P w K mg base N_all_sights "all_sights" (defScope s_all_sights) f cdv A' outer s H E).A = A'.deeper (envOfC "all_sights" (defScope s_all_sights) s.heap.objs.size f cdv) := rfl
    show (A'.deeper (envOfC "all_sights" (defScope s_all_sights) s.heap.objs.size f cdv)).units + 65 < cLine
    omega
  have tk : ∀ i, Takes ((oneF (cxOf (L2.CX P w) P w K mg base N_all_sights "all_sights" (defScope s_all_sights) f cdv A' outer s H E)).at_ i) (fun cls d _ H => E cls d H) := fun _ => takes_of rfl rfl rfl rfl
  show DSs _ _ _ _ _ m_all_sights
  exact (dss_cons (ds_set 2 (fun _ => sc_all_sights.nd) (by decide) (de_ix (do_e (de_ix (do_n 0) (do_n 1))) (do_e de_int))) (dss_cons (ds_frz (ds_setLc2 3 [("one", 4), ("program", 5), ("spots", 6)] [6] (by decide) (fun _ => rfl) (fun _ => sc_all_sights.nd) (di_enum (fun _ => rfl) (fun _ => Z.b_enumerate) (do_n 0)) (fun _ => blkOk_by (N := N_all_sights) (sc := (defScope s_all_sights)) (by decide +kernel)) (dg_tup (fun _ => rfl) (dgs_cons (dg_name 4 (fun _ => sc_all_sights.nd)) (dgs_cons (dg_name 5 (fun _ => sc_all_sights.nd)) dgs_nil))) dts_nil (di_seq (do_e (de_call (callee_of C_all_spots rfl (fun _ => ⟨rfl, rfl, rfl, rfl⟩) (fun _ => hr.mono (by decide)) (fun _ => rfl)) (fun _ => L2.takes0) (da_cons (do_e (de_ix (do_n 5) (do_e de_int))) (da_cons (do_n 2) da_nil)) (lenA_cons 1 (lenA_cons 0 lenA_nil))))) (dg_name 6 (fun _ => sc_all_sights.nd)) dts_nil (de_tup (da_cons (do_n 4) (da_cons (do_n 6) da_nil))))) (dss_one (ds_ret (de_cb (cr_sortedXD hu) vl_sortedD (fun _ => Z.b_sorted) (by decide +kernel) (da_cons (do_n 3) da_nil)))))))
theorem ok_sights {f : Addr} {fd : FuncData} (A : DefAt K mg "sights" s_sights ["programs", "number"] f fd) (Z : Z0 mg) (XX : XF K mg) (C_all_sights : FnAt P w K mg base T "all_sights" 2 2 f_all_sights) (C_sure_program_number : FnAt P w K mg base T "sure_program_number" 2 7 f_sure_program_number) : FnAt P w K mg base T "sights" 2 8 f_sights :=
  A.at (fn_d (k := 7) [] A.fn sc_sights (by decide) fun cdv A' outer s H E hr => by
  have hu : ∀ i, ((oneF (cxOf (L2.CX P w) P w K mg base N_sights "sights" (defScope s_sights) f cdv A' outer s H E)).at_ i).A.units + 65 < cLine := fun _ => by
    have q := hr.un
    have : (cxOf (L2.CX P w) P w K mg base N_sights "sights" (defScope s_sights) f cdv A' outer s H E).A = A'.deeper (envOfC "sights" (defScope s_sights) s.heap.objs.size f cdv) := rfl
    show (A'.deeper (envOfC "sights" (defScope s_sights) s.heap.objs.size f cdv)).units + 65 < cLine
    omega
  have tk : ∀ i, Takes ((oneF (cxOf (L2.CX P w) P w K mg base N_sights "sights" (defScope s_sights) f cdv A' outer s H E)).at_ i) (fun cls d _ H => E cls d H) := fun _ => takes_of rfl rfl rfl rfl
  show DSs _ _ _ _ _ m_sights
  exact (dss_cons (ds_expr (de_call (callee_of C_sure_program_number rfl (fun _ => ⟨rfl, rfl, rfl, rfl⟩) (fun _ => hr.mono (by decide)) (fun _ => rfl)) tk (da_cons (do_n 0) (da_cons (do_n 1) da_nil)) (lenA_cons 1 (lenA_cons 0 lenA_nil)))) (dss_one (ds_ret (de_call (callee_of C_all_sights rfl (fun _ => ⟨rfl, rfl, rfl, rfl⟩) (fun _ => hr.mono (by decide)) (fun _ => rfl)) tk (da_cons (do_n 0) (da_cons (do_n 1) da_nil)) (lenA_cons 1 (lenA_cons 0 lenA_nil)))))))
theorem ok_law_told {f : Addr} {fd : FuncData} (A : DefAt K mg "_law_told" s_law_told ["_law_some", "_law_number"] f fd) (Z : Z0 mg) (XX : XF K mg) (C_sights : FnAt P w K mg base T "sights" 2 8 f_sights) : FnAt P w K mg base T "_law_told" 2 9 f_law_told :=
  A.at (fn_d (k := 8) [] A.fn sc_law_told (by decide) fun cdv A' outer s H E hr => by
  have hu : ∀ i, ((oneF (cxOf (L2.CX P w) P w K mg base N_law_told "_law_told" (defScope s_law_told) f cdv A' outer s H E)).at_ i).A.units + 65 < cLine := fun _ => by
    have q := hr.un
    have : (cxOf (L2.CX P w) P w K mg base N_law_told "_law_told" (defScope s_law_told) f cdv A' outer s H E).A = A'.deeper (envOfC "_law_told" (defScope s_law_told) s.heap.objs.size f cdv) := rfl
    show (A'.deeper (envOfC "_law_told" (defScope s_law_told) s.heap.objs.size f cdv)).units + 65 < cLine
    omega
  have tk : ∀ i, Takes ((oneF (cxOf (L2.CX P w) P w K mg base N_law_told "_law_told" (defScope s_law_told) f cdv A' outer s H E)).at_ i) (fun cls d _ H => E cls d H) := fun _ => takes_of rfl rfl rfl rfl
  obtain ⟨C0_NoPrograms, g0_NoPrograms, xa_NoPrograms⟩ := XX.t_NoPrograms
  obtain ⟨C0_NoNumber, g0_NoNumber, xa_NoNumber⟩ := XX.t_NoNumber
  obtain ⟨c_NoNumber, gi_NoNumber, i_NoNumber⟩ := XX.i_NoNumber
  obtain ⟨c_NoPrograms, gi_NoPrograms, i_NoPrograms⟩ := XX.i_NoPrograms
  show DSs _ _ _ _ _ m_law_told
  exact (dss_one (ds_try2 (i1 := 2) (n1 := "e") (i2 := 2) (n2 := "e") (su1 := fun x' => (sRet (cTup (aCons (cO (cC (.str "programs"))) (aCons (cO (cIsE R_cls "NoNumber" x')) aNil))))) (su2 := fun x' => (sRet (cTup (aCons (cO (cC (.str "number"))) (aCons (cO (cIsE R_cls "NoPrograms" x')) aNil))))) xa_NoPrograms xa_NoNumber (fun _ => rfl) (fun _ => rfl) (fun _ => sc_law_told.nd) (fun _ => rfl) (fun _ => rfl) (fun _ => rfl) (fun _ => rfl) (fun _ => ⟨rfl, by decide, .inl g0_NoPrograms⟩) (fun _ => ⟨rfl, by decide, .inl g0_NoNumber⟩) tk (by decide) (by decide) (fun W' => (dss_one (ds_ret (de_tup2O (df_of (W := W0) de_str) (de_call (callee_of C_sights rfl (fun _ => ⟨rfl, rfl, rfl, rfl⟩) (fun _ => hr.mono (by decide)) (fun _ => rfl)) (fun j => j.2.2.2.1) (da_cons (do_n 0) (da_cons (do_n 1) da_nil)) (lenA_cons 1 (lenA_cons 0 lenA_nil))))))) (fun x' a cls d hcl => by
      show DSs _ _ _ _ _ (sRet (cTup (aCons (cO (cC (.str "programs"))) (aCons (cO (cIsE R_cls "NoNumber" x')) aNil))))
      exact (dss_one (ds_ret (de_tup (da_cons (do_e de_str) (da_cons (do_e (de_isE (cv := .ref c_NoNumber) hcl i_NoNumber (fun _ h => h) (fun _ => pe_glob rfl gi_NoNumber rfl) (fun _ => rfl) (fun _ => Z.b_isinstance) (by decide +kernel) (fun _ => rfl) (fun _ => by first | exact Or.inl rfl | exact Or.inr (Or.inl rfl) | exact Or.inr (Or.inr rfl)))) da_nil)))))) (fun x' a cls d hcl => by
      show DSs _ _ _ _ _ (sRet (cTup (aCons (cO (cC (.str "number"))) (aCons (cO (cIsE R_cls "NoPrograms" x')) aNil))))
      exact (dss_one (ds_ret (de_tup (da_cons (do_e de_str) (da_cons (do_e (de_isE (cv := .ref c_NoPrograms) hcl i_NoPrograms (fun _ h => h) (fun _ => pe_glob rfl gi_NoPrograms rfl) (fun _ => rfl) (fun _ => Z.b_isinstance) (by decide +kernel) (fun _ => rfl) (fun _ => by first | exact Or.inl rfl | exact Or.inr (Or.inl rfl) | exact Or.inr (Or.inr rfl)))) da_nil)))))))))
theorem ok_law_keys {f : Addr} {fd : FuncData} (A : DefAt K mg "_law_keys" s_law_keys ["_law_state", "_law_tables"] f fd) (Z : Z0 mg) (XX : XF K mg) (C__law_digit : FnAt P w K mg base T "_law_digit" 2 1 f_law_digit) : FnAt P w K mg base T "_law_keys" 2 2 f_law_keys :=
  A.at (fn_d (k := 1) [0] A.fn sc_law_keys (by decide) fun cdv A' outer s H E hr => by
  have hu : ∀ i, ((oneF (cxOf (L2.CX P w) P w K mg base N_law_keys "_law_keys" (defScope s_law_keys) f cdv A' outer s H E)).at_ i).A.units + 65 < cLine := fun _ => by
    have q := hr.un
    have : (cxOf (L2.CX P w) P w K mg base N_law_keys "_law_keys" (defScope s_law_keys) f cdv A' outer s H E).A = A'.deeper (envOfC "_law_keys" (defScope s_law_keys) s.heap.objs.size f cdv) := rfl
    show (A'.deeper (envOfC "_law_keys" (defScope s_law_keys) s.heap.objs.size f cdv)).units + 65 < cLine
    omega
  have tk : ∀ i, Takes ((oneF (cxOf (L2.CX P w) P w K mg base N_law_keys "_law_keys" (defScope s_law_keys) f cdv A' outer s H E)).at_ i) (fun cls d _ H => E cls d H) := fun _ => takes_of rfl rfl rfl rfl
  show DSs _ _ _ _ _ m_law_keys
  exact (dss_cons (ds_set 2 (fun _ => sc_law_keys.nd) (by decide) (de_lst (da_cons (do_e de_int) (da_cons (do_e de_int) (da_cons (do_e de_int) (da_cons (do_e de_int) da_nil)))))) (dss_one (ds_ret (de_ct cr_tuple vl_tuple (fun _ => Z.b_tuple) (by decide +kernel) (da_cons (do_e (de_lc [("_law_table", 3)] (fun _ => rfl) (fun _ => sc_law_keys.nd) (di_seq (do_n 1)) (fun _ => blkOk_by (N := N_law_keys) (sc := (defScope s_law_keys)) (by decide +kernel)) (dg_name 3 (fun _ => sc_law_keys.nd)) dts_nil (de_mut 2 PySem.F.slot_list_pop PySem.F.type_list_pop (fun _ => MtR.or mt_pop mt_popAt) vm_pop (da_cons (do_e (de_call (callee_of C__law_digit rfl (fun _ => ⟨rfl, rfl, rfl, rfl⟩) (fun _ => hr.mono (by decide)) (fun _ => rfl)) (fun _ => L2.takes0) (da_cons (do_n 0) (da_cons (do_e (de_cb cr_lenX vl_len (fun _ => Z.b_len) (by decide +kernel) (da_cons (do_n 2) da_nil))) da_nil)) (lenA_cons 1 (lenA_cons 0 lenA_nil)))) da_nil)))) da_nil))))))
theorem ok_law_sight_of {f : Addr} {fd : FuncData} (A : DefAt K mg "_law_sight_of" s_law_sight_of ["_law_some", "_law_number", "_law_first", "_law_other", "_law_worths"] f fd) (Z : Z0 mg) (XX : XF K mg)  : FnAt P w K mg base T "_law_sight_of" 5 1 f_law_sight_of :=
  A.at (fn_d (k := 0) [] A.fn sc_law_sight_of (by decide) fun cdv A' outer s H E hr => by
  have hu : ∀ i, ((oneF (cxOf (L2.CX P w) P w K mg base N_law_sight_of "_law_sight_of" (defScope s_law_sight_of) f cdv A' outer s H E)).at_ i).A.units + 65 < cLine := fun _ => by
    have q := hr.un
    have : (cxOf (L2.CX P w) P w K mg base N_law_sight_of "_law_sight_of" (defScope s_law_sight_of) f cdv A' outer s H E).A = A'.deeper (envOfC "_law_sight_of" (defScope s_law_sight_of) s.heap.objs.size f cdv) := rfl
    show (A'.deeper (envOfC "_law_sight_of" (defScope s_law_sight_of) s.heap.objs.size f cdv)).units + 65 < cLine
    omega
  have tk : ∀ i, Takes ((oneF (cxOf (L2.CX P w) P w K mg base N_law_sight_of "_law_sight_of" (defScope s_law_sight_of) f cdv A' outer s H E)).at_ i) (fun cls d _ H => E cls d H) := fun _ => takes_of rfl rfl rfl rfl
  show DSs _ _ _ _ _ m_law_sight_of
  exact (dss_cons (ds_set 5 (fun _ => sc_law_sight_of.nd) (by decide) (de_lst da_nil)) (dss_cons (ds_for (fun _ => passes_of rfl) (fun _ => rfl) (di_range1 (fun _ => rfl) (fun _ => Z.b_range) (da_cons (do_e (de_cb cr_lenX vl_len (fun _ => Z.b_len) (by decide +kernel) (da_cons (do_n 4) da_nil))) da_nil)) (dg_name 6 (fun _ => sc_law_sight_of.nd))
  (dss_cons (ds_set 7 (fun _ => sc_law_sight_of.nd) (by decide) (de_d (de_neg (do_e de_int)))) (dss_cons (ds_for (fun _ => passes_of rfl) (fun _ => rfl) (di_range1 (fun _ => rfl) (fun _ => Z.b_range) (da_cons (do_e (de_cb cr_lenX vl_len (fun _ => Z.b_len) (by decide +kernel) (da_cons (do_n 2) da_nil))) da_nil)) (dg_name 8 (fun _ => sc_law_sight_of.nd))
  (dss_one (ds_if (dt_w (dw_and (dt_cmp (or_eq hu) v2_eq (do_e (de_ix (do_n 2) (do_n 8))) (do_e (de_ix (do_n 4) (do_n 6)))) (dw_and1 (dt_cmp (or_eq hu) v2_eq (do_e (de_ix (do_e (de_ix (do_e (de_ix (do_n 0) (do_n 1))) (do_e de_int))) (do_n 8))) (do_e (de_ix (do_e (de_ix (do_e (de_ix (do_n 0) (do_n 3))) (do_e de_int))) (do_n 6)))))))
  (dss_one (ds_set 7 (fun _ => sc_law_sight_of.nd) (by decide) (de_d (de_n 8))))
  dss_nil))) (dss_one (ds_expr (de_append 5 (de_n 7))))))) (dss_one (ds_ret (de_tup (da_cons (do_n 3) (da_cons (do_e (de_ct cr_tuple vl_tuple (fun _ => Z.b_tuple) (by decide +kernel) (da_cons (do_n 5) da_nil))) da_nil))))))))
theorem ok_law_is_sight {f : Addr} {fd : FuncData} (A : DefAt K mg "_law_is_sight" s_law_is_sight ["_law_thing"] f fd) (Z : Z0 mg) (XX : XF K mg)  : FnAt P w K mg base T "_law_is_sight" 1 1 f_law_is_sight :=
  A.at (fn_d (k := 0) [] A.fn sc_law_is_sight (by decide) fun cdv A' outer s H E hr => by
  have hu : ∀ i, ((oneF (cxOf (L2.CX P w) P w K mg base N_law_is_sight "_law_is_sight" (defScope s_law_is_sight) f cdv A' outer s H E)).at_ i).A.units + 65 < cLine := fun _ => by
    have q := hr.un
    have : (cxOf (L2.CX P w) P w K mg base N_law_is_sight "_law_is_sight" (defScope s_law_is_sight) f cdv A' outer s H E).A = A'.deeper (envOfC "_law_is_sight" (defScope s_law_is_sight) s.heap.objs.size f cdv) := rfl
    show (A'.deeper (envOfC "_law_is_sight" (defScope s_law_is_sight) s.heap.objs.size f cdv)).units + 65 < cLine
    omega
  have tk : ∀ i, Takes ((oneF (cxOf (L2.CX P w) P w K mg base N_law_is_sight "_law_is_sight" (defScope s_law_is_sight) f cdv A' outer s H E)).at_ i) (fun cls d _ H => E cls d H) := fun _ => takes_of rfl rfl rfl rfl
  show DSs _ _ _ _ _ m_law_is_sight
  exact (dss_cons (ds_if (dt_w (dw_or (dt_not (dt_val (de_cb cr_isi vl_isi (fun _ => Z.b_isinstance) (by decide +kernel) (da_cons (do_n 0) (da_cons (do_e (de_bltn (fun _ => rfl) (fun _ => Z.b_tuple) (by decide +kernel) (show RelV (.ty "tuple") (.type "tuple") from rfl))) da_nil))))) (dw_or (dt_cmp (or_ne hu) v2_ne (do_e (de_cb cr_lenX vl_len (fun _ => Z.b_len) (by decide +kernel) (da_cons (do_n 0) da_nil))) (do_e de_int)) (dw_or1 (dt_not (dt_val (de_cb cr_isi vl_isi (fun _ => Z.b_isinstance) (by decide +kernel) (da_cons (do_e (de_ix (do_n 0) (do_e de_int))) (da_cons (do_e (de_bltn (fun _ => rfl) (fun _ => Z.b_tuple) (by decide +kernel) (show RelV (.ty "tuple") (.type "tuple") from rfl))) da_nil)))))))))
  (dss_one (ds_ret de_bl))
  dss_nil) (dss_cons (ds_for (fun _ => passes_of rfl) (fun _ => rfl) (di_seq (do_e (de_op or_addX v2_add (do_e (de_tup (da_cons (do_e (de_ix (do_n 0) (do_e de_int))) da_nil))) (do_e (de_ix (do_n 0) (do_e de_int)))))) (dg_name 1 (fun _ => sc_law_is_sight.nd))
  (dss_one (ds_if (dt_w (dw_or (dt_not (dt_val (de_cb cr_isi vl_isi (fun _ => Z.b_isinstance) (by decide +kernel) (da_cons (do_n 1) (da_cons (do_e (de_bltn (fun _ => rfl) (fun _ => Z.b_int) (by decide +kernel) (show RelV (.ty "int") (.type "int") from rfl))) da_nil))))) (dw_or1 (dt_val (de_cb cr_isi vl_isi (fun _ => Z.b_isinstance) (by decide +kernel) (da_cons (do_n 1) (da_cons (do_e (de_bltn (fun _ => rfl) (fun _ => Z.b_bool) (by decide +kernel) (show RelV (.ty "bool") (.type "bool") from rfl))) da_nil)))))))
  (dss_one (ds_ret de_bl))
  dss_nil))) (dss_one (ds_ret de_bl)))))
theorem ok_law_right {f : Addr} {fd : FuncData} (A : DefAt K mg "_law_right" s_law_right ["_law_state", "_law_some", "_law_number"] f fd) (Z : Z0 mg) (XX : XF K mg) (C__law_digit : FnAt P w K mg base T "_law_digit" 2 1 f_law_digit) (C__law_is_sight : FnAt P w K mg base T "_law_is_sight" 1 1 f_law_is_sight) (C__law_keys : FnAt P w K mg base T "_law_keys" 2 2 f_law_keys) (C__law_sight_of : FnAt P w K mg base T "_law_sight_of" 5 1 f_law_sight_of) (C__law_sights : FnAt P w K mg base T "_law_sights" 2 2 f_law_sights) (C__law_told : FnAt P w K mg base T "_law_told" 2 9 f_law_told) : FnAt P w K mg base T "_law_right" 3 10 f_law_right :=
  A.at (fn_d (k := 9) [0] A.fn sc_law_right (by decide) fun cdv A' outer s H E hr => by
  have hu : ∀ i, ((oneF (cxOf (L2.CX P w) P w K mg base N_law_right "_law_right" (defScope s_law_right) f cdv A' outer s H E)).at_ i).A.units + 65 < cLine := fun _ => by
    have q := hr.un
    have : (cxOf (L2.CX P w) P w K mg base N_law_right "_law_right" (defScope s_law_right) f cdv A' outer s H E).A = A'.deeper (envOfC "_law_right" (defScope s_law_right) s.heap.objs.size f cdv) := rfl
    show (A'.deeper (envOfC "_law_right" (defScope s_law_right) s.heap.objs.size f cdv)).units + 65 < cLine
    omega
  have tk : ∀ i, Takes ((oneF (cxOf (L2.CX P w) P w K mg base N_law_right "_law_right" (defScope s_law_right) f cdv A' outer s H E)).at_ i) (fun cls d _ H => E cls d H) := fun _ => takes_of rfl rfl rfl rfl
  show DSs _ _ _ _ _ m_law_right
  exact (dss_cons (ds_set 3 (fun _ => sc_law_right.nd) (by decide) (de_d (de_call (callee_of C__law_sights rfl (fun _ => ⟨rfl, rfl, rfl, rfl⟩) (fun _ => hr.mono (by decide)) (fun _ => rfl)) tk (da_cons (do_n 1) (da_cons (do_n 2) da_nil)) (lenA_cons 1 (lenA_cons 0 lenA_nil))))) (dss_cons (ds_for (fun _ => passes_of rfl) (fun _ => rfl) (di_range1 (fun _ => rfl) (fun _ => Z.b_range) (da_cons (do_e de_int) da_nil)) (dg_name 4 (fun _ => sc_law_right.nd))
  (dss_cons (ds_set 5 (fun _ => sc_law_right.nd) (by decide) (de_call (callee_of C__law_told rfl (fun _ => ⟨rfl, rfl, rfl, rfl⟩) (fun _ => hr.mono (by decide)) (fun _ => rfl)) tk (da_cons (do_n 1) (da_cons (do_n 2) da_nil)) (lenA_cons 1 (lenA_cons 0 lenA_nil)))) (dss_cons (ds_if (dt_pure (dt_w (dw_or (dt_cmp (or_ne hu) v2_ne (do_e (de_ix (do_n 5) (do_e de_int))) (do_e de_str)) (dw_or (dt_not (dt_val (de_cb cr_isi vl_isi (fun _ => Z.b_isinstance) (by decide +kernel) (da_cons (do_e (de_ix (do_n 5) (do_e de_int))) (da_cons (do_e (de_bltn (fun _ => rfl) (fun _ => Z.b_list) (by decide +kernel) (show RelV (.ty "list") (.type "list") from rfl))) da_nil))))) (dw_or1 (dt_cmp (or_ne hu) v2_ne (do_e (de_ix (do_n 5) (do_e de_int))) (do_n 3)))))))
  (dss_one (ds_ret de_bl))
  dss_nil) (dss_cons (ds_if (dt_pure (dt_cmp (or_ne hu) v2_ne (do_e (de_lc [("_law_one", 6)] (fun _ => rfl) (fun _ => sc_law_right.nd) (di_seq (do_e (de_ix (do_n 5) (do_e de_int)))) (fun _ => blkOk_by (N := N_law_right) (sc := (defScope s_law_right)) (by decide +kernel)) (dg_name 6 (fun _ => sc_law_right.nd)) (dts_one (dt_not (dt_val (de_call (callee_of C__law_is_sight rfl (fun _ => ⟨rfl, rfl, rfl, rfl⟩) (fun _ => hr.mono (by decide)) (fun _ => rfl)) (fun _ => L2.takes0) (da_cons (do_n 6) da_nil) (lenA_cons 0 lenA_nil))))) (de_n 6))) (do_e (de_lst da_nil))))
  (dss_one (ds_ret de_bl))
  dss_nil) (dss_cons (ds_expr (de_pmd (mv := List.reverse) (dq_i (dq_n 5) (df_of (W := W0) de_int)) PySem.F.slot_list_reverse PySem.F.type_list_reverse (fun _ => mt_reverse) (fun l xs H Q e k => ⟨l, xs, rfl, rfl, e, k⟩) rev_ok)) (dss_one (ds_expr (de_papp (dq_i (dq_n 5) (df_of (W := W0) de_int)) (df_of (W := W0) de_non))))))))) (dss_cons (ds_for (fun _ => passes_of rfl) (fun _ => rfl) (di_range1 (fun _ => rfl) (fun _ => Z.b_range) (da_cons (do_e de_int) da_nil)) (dg_name 4 (fun _ => sc_law_right.nd))
  (dss_cons (ds_set 7 (fun _ => sc_law_right.nd) (by decide) (de_d (de_call (callee_of C__law_digit rfl (fun _ => ⟨rfl, rfl, rfl, rfl⟩) (fun _ => hr.mono (by decide)) (fun _ => rfl)) tk (da_cons (do_n 0) (da_cons (do_e (de_cb cr_lenX vl_len (fun _ => Z.b_len) (by decide +kernel) (da_cons (do_n 1) da_nil))) da_nil)) (lenA_cons 1 (lenA_cons 0 lenA_nil))))) (dss_cons (ds_set 8 (fun _ => sc_law_right.nd) (by decide) (de_d (de_call (callee_of C__law_keys rfl (fun _ => ⟨rfl, rfl, rfl, rfl⟩) (fun _ => hr.mono (by decide)) (fun _ => rfl)) tk (da_cons (do_n 0) (da_cons (do_e (de_ix (do_e (de_ix (do_n 1) (do_n 2))) (do_e de_int))) da_nil)) (lenA_cons 1 (lenA_cons 0 lenA_nil))))) (dss_one (ds_if (dt_cmp (or_notInX hu) v2_notIn (do_e (de_call (callee_of C__law_sight_of rfl (fun _ => ⟨rfl, rfl, rfl, rfl⟩) (fun _ => hr.mono (by decide)) (fun _ => rfl)) tk (da_cons (do_n 1) (da_cons (do_n 2) (da_cons (do_n 8) (da_cons (do_n 7) (da_cons (do_e (de_call (callee_of C__law_keys rfl (fun _ => ⟨rfl, rfl, rfl, rfl⟩) (fun _ => hr.mono (by decide)) (fun _ => rfl)) tk (da_cons (do_n 0) (da_cons (do_e (de_ix (do_e (de_ix (do_n 1) (do_n 7))) (do_e de_int))) da_nil)) (lenA_cons 1 (lenA_cons 0 lenA_nil)))) da_nil))))) (lenA_cons 4 (lenA_cons 3 (lenA_cons 2 (lenA_cons 1 (lenA_cons 0 lenA_nil))))))) (do_n 3))
  (dss_one (ds_ret de_bl))
  dss_nil))))) (dss_one (ds_ret de_bl))))))
theorem ok_law {f : Addr} {fd : FuncData} (A : DefAt K mg "law" s_law ["_law_script"] f fd) (Z : Z0 mg) (XX : XF K mg) (C__law_cell_at : FnAt P w K mg base T "_law_cell_at" 2 1 f_law_cell_at) (C__law_digit : FnAt P w K mg base T "_law_digit" 2 1 f_law_digit) (C__law_of : FnAt P w K mg base T "_law_of" 2 2 f_law_of) (C__law_program : FnAt P w K mg base T "_law_program" 3 3 f_law_program) (C__law_right : FnAt P w K mg base T "_law_right" 3 10 f_law_right) (C__law_told : FnAt P w K mg base T "_law_told" 2 9 f_law_told) : FnG P w K mg base 11 f fd ["_law_script"] (spD K T 1 f_law) :=
  (fn_dG (k := 10) [] A.fn sc_law (by decide) fun cdv A' outer s H E hgA hr => by
  have hgd : ∀ i, ((oneF (cxOf (L2.CX P w) P w K mg base N_law "law" (defScope s_law) f cdv A' outer s H E)).at_ i).A.guards = some [] := fun _ => hgA
  have hu : ∀ i, ((oneF (cxOf (L2.CX P w) P w K mg base N_law "law" (defScope s_law) f cdv A' outer s H E)).at_ i).A.units + 65 < cLine := fun _ => by
    have q := hr.un
    have : (cxOf (L2.CX P w) P w K mg base N_law "law" (defScope s_law) f cdv A' outer s H E).A = A'.deeper (envOfC "law" (defScope s_law) s.heap.objs.size f cdv) := rfl
    show (A'.deeper (envOfC "law" (defScope s_law) s.heap.objs.size f cdv)).units + 65 < cLine
    omega
  have tk : ∀ i, Takes ((oneF (cxOf (L2.CX P w) P w K mg base N_law "law" (defScope s_law) f cdv A' outer s H E)).at_ i) (fun cls d _ H => E cls d H) := fun _ => takes_of rfl rfl rfl rfl
  show DSs _ _ _ _ _ m_law
  exact (dss_cons (ds_for (fun _ => passes_of rfl) (fun _ => rfl) (di_seq (do_e (de_op or_addX v2_add (do_e (de_lst (da_cons (do_e (de_call (callee_of C__law_cell_at rfl (fun _ => ⟨rfl, rfl, rfl, rfl⟩) (fun _ => hr.mono (by decide)) (fun _ => rfl)) tk (da_cons (do_n 0) (da_cons (do_e de_int) da_nil)) (lenA_cons 1 (lenA_cons 0 lenA_nil)))) da_nil))) (do_e (de_sl (do_n 0) (dp_so (do_e de_int)) (dp_so (do_e de_int))))))) (dg_name 1 (fun _ => sc_law.nd))
  (dss_cons (ds_set 2 (fun _ => sc_law.nd) (by decide) (de_lst (da_cons (do_n 1) da_nil))) (dss_cons (ds_frz (ds_setLc 3 [("_law_k", 4)] (by decide) (fun _ => rfl) (fun _ => sc_law.nd) (di_range1 (fun _ => rfl) (fun _ => Z.b_range) (da_cons (do_e (de_op or_addX v2_add (do_e de_int) (do_e (de_call (callee_of C__law_digit rfl (fun _ => ⟨rfl, rfl, rfl, rfl⟩) (fun _ => hr.mono (by decide)) (fun _ => rfl)) tk (da_cons (do_n 2) (da_cons (do_e de_int) da_nil)) (lenA_cons 1 (lenA_cons 0 lenA_nil)))))) da_nil)) (fun _ => blkOk_by (N := N_law) (sc := (defScope s_law)) (by decide +kernel)) (dg_name 4 (fun _ => sc_law.nd)) dts_nil (de_call (callee_of C__law_program rfl (fun _ => ⟨rfl, rfl, rfl, rfl⟩) (fun _ => hr.mono (by decide)) (fun _ => rfl)) (fun _ => L2.takes0) (da_cons (do_n 2) (da_cons (do_e de_int) (da_cons (do_e de_int) da_nil))) (lenA_cons 2 (lenA_cons 1 (lenA_cons 0 lenA_nil)))))) (dss_cons (ds_set 5 (fun _ => sc_law.nd) (by decide) (de_d (de_cb (cr_repr hgd hu) vl_repr (fun _ => Z.b_repr) (by decide +kernel) (da_cons (do_n 3) da_nil)))) (dss_cons (ds_set 6 (fun _ => sc_law.nd) (by decide) (de_d (de_call (callee_of C__law_digit rfl (fun _ => ⟨rfl, rfl, rfl, rfl⟩) (fun _ => hr.mono (by decide)) (fun _ => rfl)) tk (da_cons (do_n 2) (da_cons (do_e (de_cb cr_lenX vl_len (fun _ => Z.b_len) (by decide +kernel) (da_cons (do_n 3) da_nil))) da_nil)) (lenA_cons 1 (lenA_cons 0 lenA_nil))))) (dss_cons (ds_if (dt_not (dt_val (de_call (callee_of C__law_right rfl (fun _ => ⟨rfl, rfl, rfl, rfl⟩) (fun _ => hr.mono (by decide)) (fun _ => rfl)) tk (da_cons (do_n 2) (da_cons (do_n 3) (da_cons (do_n 6) da_nil))) (lenA_cons 2 (lenA_cons 1 (lenA_cons 0 lenA_nil))))))
  (dss_one (ds_ret de_bl))
  dss_nil) (dss_cons (ds_set 7 (fun _ => sc_law.nd) (by decide) (de_d (de_call (callee_of C__law_of rfl (fun _ => ⟨rfl, rfl, rfl, rfl⟩) (fun _ => hr.mono (by decide)) (fun _ => rfl)) tk (da_cons (do_n 2) (da_cons (do_e (de_lst (da_cons (do_e (de_neg (do_e de_int))) (da_cons (do_e (de_cb cr_lenX vl_len (fun _ => Z.b_len) (by decide +kernel) (da_cons (do_n 3) da_nil))) (da_cons (do_e de_bl) (da_cons (do_e de_non) (da_cons (do_e de_str) (da_cons (do_e (de_tup (da_cons (do_e de_int) da_nil))) (da_cons (do_e (de_lst (da_cons (do_e de_int) da_nil))) (da_cons (do_e (de_op (fun _ => op_pow) v2_pow (do_e de_int) (do_e de_int))) da_nil)))))))))) da_nil)) (lenA_cons 1 (lenA_cons 0 lenA_nil))))) (dss_cons (ds_if (dt_w (dw_or (dt_cmp (or_ne hu) v2_ne (do_e (de_call (callee_of C__law_told rfl (fun _ => ⟨rfl, rfl, rfl, rfl⟩) (fun _ => hr.mono (by decide)) (fun _ => rfl)) tk (da_cons (do_n 3) (da_cons (do_n 7) da_nil)) (lenA_cons 1 (lenA_cons 0 lenA_nil)))) (do_e (de_tup (da_cons (do_e de_str) (da_cons (do_e de_bl) da_nil))))) (dw_or1 (dt_cmp (or_ne hu) v2_ne (do_e (de_cb (cr_repr hgd hu) vl_repr (fun _ => Z.b_repr) (by decide +kernel) (da_cons (do_n 3) da_nil))) (do_n 5)))))
  (dss_one (ds_ret de_bl))
  dss_nil) (dss_cons (ds_set 8 (fun _ => sc_law.nd) (by decide) (de_d (de_call (callee_of C__law_of rfl (fun _ => ⟨rfl, rfl, rfl, rfl⟩) (fun _ => hr.mono (by decide)) (fun _ => rfl)) tk (da_cons (do_n 2) (da_cons (do_e (de_lst (da_cons (do_e (de_lst da_nil)) (da_cons (do_e (de_ct cr_tuple vl_tuple (fun _ => Z.b_tuple) (by decide +kernel) (da_cons (do_n 3) da_nil))) (da_cons (do_e (de_ix (do_n 3) (do_e de_int))) (da_cons (do_e (de_op or_mulX v2_mul (do_e (de_lst (da_cons (do_e (de_ix (do_n 3) (do_e de_int))) da_nil))) (do_e de_int))) (da_cons (do_e de_non) (da_cons (do_e (de_op or_addX v2_add (do_e (de_sl (do_n 3) dp_no (dp_so (do_e de_int)))) (do_e (de_lst (da_cons (do_e (de_tup da_nil)) da_nil))))) da_nil)))))))) da_nil)) (lenA_cons 1 (lenA_cons 0 lenA_nil))))) (dss_one (ds_if (dt_cmp (or_ne hu) v2_ne (do_e (de_call (callee_of C__law_told rfl (fun _ => ⟨rfl, rfl, rfl, rfl⟩) (fun _ => hr.mono (by decide)) (fun _ => rfl)) tk (da_cons (do_n 8) (da_cons (do_e (de_call (callee_of C__law_of rfl (fun _ => ⟨rfl, rfl, rfl, rfl⟩) (fun _ => hr.mono (by decide)) (fun _ => rfl)) tk (da_cons (do_n 2) (da_cons (do_e (de_lst (da_cons (do_n 6) (da_cons (do_n 7) da_nil)))) da_nil)) (lenA_cons 1 (lenA_cons 0 lenA_nil)))) da_nil)) (lenA_cons 1 (lenA_cons 0 lenA_nil)))) (do_e (de_tup (da_cons (do_e de_str) (da_cons (do_e de_bl) da_nil)))))
  (dss_one (ds_ret de_bl))
  dss_nil))))))))))) (dss_one (ds_ret de_bl))))
end
end Law
set_option Elab.async false
set_option linter.all false
set_option maxRecDepth 100000
set_option maxHeartbeats 4000000
namespace Law
open PySem PySem.Spec L2 Dl
open PyProof.Rows hiding St
theorem dig (w : Well) {b : Int} (h0 : 0 < b) (h1 : b < 1073741824) : f_law_digit [.own w.ds, .dat (.int b)] = .ok (.dat (.int (w.fig b))) [.own (w.aft b).ds, .un] := digit_eq w h0 h1
theorem is_from_eq {d : D} (h : niceB d = true) (lo hi : Int) : f_is_from [.dat d, .dat (.int lo), .dat (.int hi)] = .ok (.dat (.bl (isFromD d lo hi))) [.un, .un, .un] := by
  cases d <;> first
    | simp [niceB] at h; done
    | (simp [f_is_from, toF_at, m_is_from, outs_cons, outs_nil, isTy, isFromD]; done)
    | skip
  rename_i i
  by_cases c : lo ≤ i <;> simp [f_is_from, toF_at, m_is_from, outs_cons, outs_nil, isTy, isFromD, c]
theorem is_slot_eq {d : D} (h : niceB d = true) (n : Int) : f_is_slot [.dat d, .dat (.int n)] = .ok (.dat (.bl (isSlotD n d))) [.un, .un] := by
  cases d <;> first
    | simp [niceB] at h; done
    | (simp [f_is_slot, toF_at, m_is_slot, outs_cons, outs_nil, isTy, isSlotD]; done)
    | skip
  rename_i ds
  rcases tup_cases ds with rfl | ⟨a, rfl⟩ | ⟨a, b, rfl⟩ | ⟨a, b, c, es, rfl⟩
  · simp [f_is_slot, toF_at, m_is_slot, outs_cons, outs_nil, isTy, isSlotD]
  · simp [f_is_slot, toF_at, m_is_slot, outs_cons, outs_nil, isTy, isSlotD]
  · simp at h
    cases a <;> first
      | simp [niceB] at h; done
      | (simp [f_is_slot, toF_at, m_is_slot, outs_cons, outs_nil, isTy, isSlotD, isS]; done)
      | skip
    rename_i s
    have hs : cmpB (.str s) = true := by
      show shp (.str s) = true
      rw [shp_shn, shn_strOk]
      simpa [niceB] using h.1
    have g1 := gEq_isS hs "box"
    have g2 := gEq_isS hs "key"
    have i1 := is_from_eq h.2 0 999999
    have i2 := is_from_eq h.2 0 (n - 1)
    cases q1 : isS "box" (.str s) with
    | true =>
      have q2 : isS "key" (.str s) = false := by
        have e := eq_of_beq (show (s == Str.ofString "box") = true from q1)
        subst e
        simp [isS, ofString_inj]
      rw [q1] at g1
      simp [f_is_slot, toF_at, m_is_slot, outs_cons, outs_nil, isTy, isSlotD, g1, q1, q2, i1]
    | false =>
      rw [q1] at g1
      cases q2 : isS "key" (.str s) <;> rw [q2] at g2 <;> simp [f_is_slot, toF_at, m_is_slot, outs_cons, outs_nil, isTy, isSlotD, g1, g2, q1, q2, i2]
  · have e : ¬ ((es.length : Int) + 1 + 1 + 1 = 2) := by omega
    simp [f_is_slot, toF_at, m_is_slot, outs_cons, outs_nil, isTy, isSlotD, e]
theorem is_slot_step_eq {d : D} (h : niceB d = true) (n : Int) : f_is_slot_step [.dat d, .dat (.int n)] = .ok (.dat (.bl (isStpD n d))) [.un, .un] := by
  cases d <;> first
    | simp [niceB] at h; done
    | (simp [f_is_slot_step, toF_at, m_is_slot_step, outs_cons, outs_nil, isTy, isStpD]; done)
    | skip
  rename_i ds
  rcases tup_cases ds with rfl | ⟨a, rfl⟩ | ⟨a, b, rfl⟩ | ⟨a, b, c, es, rfl⟩
  · simp [f_is_slot_step, toF_at, m_is_slot_step, outs_cons, outs_nil, isTy, isStpD]
  · simp [f_is_slot_step, toF_at, m_is_slot_step, outs_cons, outs_nil, isTy, isStpD]
  · simp at h
    cases a <;> first
      | simp [niceB] at h; done
      | (simp [f_is_slot_step, toF_at, m_is_slot_step, outs_cons, outs_nil, isTy, isStpD, isWord]; done)
      | skip
    rename_i s
    have hs : PyData.strOk s = true := by simpa [niceB] using h.1
    cases q : isWord (.str s) <;> simp [f_is_slot_step, toF_at, m_is_slot_step, outs_cons, outs_nil, isTy, isStpD, inWords hs id, q, is_slot_eq h.2]
  · have e : ¬ ((es.length : Int) + 1 + 1 + 1 = 2) := by omega
    simp [f_is_slot_step, toF_at, m_is_slot_step, outs_cons, outs_nil, isTy, isStpD, e]
theorem are_tables_eq {d : D} (h : niceB d = true) : f_are_tables [.dat d] = .ok (.dat (.bl (areTabD d))) [.un] := by
  cases d <;> first
    | simp [niceB] at h; done
    | (simp [f_are_tables, toF_at, m_are_tables, outs_cons, outs_nil, isTy, areTabD]; done)
    | skip
  rename_i ds
  have hn : ∀ d ∈ ds, niceB d = true := by simpa using h
  by_cases c2 : ds.length ≤ 3
  · have e2 : ¬ (3 : Int) < (ds.length : Int) := by omega
    have lc := lc_map (ρ := [.dat (.tup ds), .un]) (k := 1) (e := e_are_tables_1) (g := fun d => .bl (isFromD d 1 9)) rfl ds (fun d m => by simp [ue_are_tables_1, is_from_eq (hn d m)]) (by rw [sizeLine_eq]; omega)
    simp [f_are_tables, toF_at, m_are_tables, outs_cons, outs_nil, isTy, areTabD, e2, lc, gAll_map, c2]
  · have e2 : (3 : Int) < (ds.length : Int) := by omega
    simp [f_are_tables, toF_at, m_are_tables, outs_cons, outs_nil, isTy, areTabD, e2, c2]
end Law
set_option Elab.async false
set_option linter.all false
set_option maxRecDepth 100000
set_option maxHeartbeats 4000000
namespace Law
open PySem PySem.Spec L2 Dl
open PyProof.Rows hiding St
theorem stp_form {n : Int} {d : D} (h : isStpD n d = true) : ∃ (w : String) (i : Int), d = .tup [.str (Str.ofString w), slotD i] ∧ (w = "read" ∨ w = "write") := by
  obtain ⟨⟨w, i⟩, rfl, _⟩ := stp_inv h
  cases w
  · exact ⟨"read", i, rfl, .inl rfl⟩
  · exact ⟨"write", i, rfl, .inr rfl⟩
theorem shp_step (w : String) (i : Int) : shp (.tup [.str (Str.ofString w), slotD i]) = true := by
  rw [shp_tup]
  simp [shn_mono (shn_slotD i) (show 1 ≤ 63 by decide)]
theorem shn_step {n : Int} {d : D} (h : isStpD n d = true) : shn 63 d = true := by
  obtain ⟨p, rfl, _⟩ := stp_inv h
  exact shn_mono (shn_stp p) (by decide)
theorem in_order_loop {n : Int} (ds : List D) (hs : ∀ d ∈ ds, isStpD n d = true) : ∀ (suf : List D) (k : Nat) (x1 x2 : B), (∀ d ∈ suf, isStpD n d = true) →
    (ordF ds k suf = true ∧ ∃ y1 y2, forD (pTup [(pName 1), (pName 2)]) b_in_order_1 (enumK k suf) [.dat (.tup ds), x1, x2] = .nx [.dat (.tup ds), y1, y2]) ∨ (ordF ds k suf = false ∧ ∃ y1 y2, forD (pTup [(pName 1), (pName 2)]) b_in_order_1 (enumK k suf) [.dat (.tup ds), x1, x2] = .rt (.dat (.bl false)) [.dat (.tup ds), y1, y2])
  | [], k, x1, x2, _ => .inl ⟨rfl, x1, x2, rfl⟩
  | s :: ss, k, x1, x2, h => by
    have hss := in_order_loop ds hs ss (k + 1) (.dat (.int k)) (.dat s) fun d m => h d (List.mem_cons_of_mem _ m)
    obtain ⟨w, b, rfl, hw⟩ := stp_form (h s List.mem_cons_self)
    have sh : shp (.tup (ds.take k)) = true := by
      rw [shp_tup, List.all_eq_true]
      exact fun d m => shn_step (hs d (List.mem_of_mem_take m))
    have g1 : ∀ w : String, gIn (.tup [.str (Str.ofString w), slotD b]) (.tup (ds.take k)) = some (.dat (.bl (inD (.tup [.str (Str.ofString w), slotD b]) (ds.take k)))) := fun w => gIn_tup (shp_step w b) sh
    rw [enumK, forD_cons]
    cases q1 : inD (.tup [.str (Str.ofString w), slotD b]) (ds.take k) with
    | true => exact .inr ⟨by simp [ordF, badS, q1], .dat (.int k), .dat (.tup [.str (Str.ofString w), slotD b]), by simp [ub_in_order_1, g1, q1]⟩
    | false =>
      rcases hw with rfl | rfl
      · cases q2 : inD (.tup [.str (Str.ofString "write"), slotD b]) (ds.take k) with
        | true => exact .inr ⟨by simp [ordF, badS, q2], .dat (.int k), .dat (.tup [.str (Str.ofString "read"), slotD b]), by simp [ub_in_order_1, g1, q1, q2]⟩
        | false =>
          have e : ordF ds k (.tup [.str (Str.ofString "read"), slotD b] :: ss) = ordF ds (k + 1) ss := by simp [ordF, badS, q1, q2]
          rw [e]
          simpa [ub_in_order_1, g1, q1, q2] using hss
      · have e : ordF ds k (.tup [.str (Str.ofString "write"), slotD b] :: ss) = ordF ds (k + 1) ss := by simp [ordF, badS, q1, ofString_inj]
        rw [e]
        simpa [ub_in_order_1, g1, q1] using hss
theorem in_order_eq {n : Int} {ds : List D} (hs : ∀ d ∈ ds, isStpD n d = true) : f_in_order [.dat (.tup ds)] = .ok (.dat (.bl (ordF ds 0 ds))) [.un] := by
  rcases in_order_loop ds hs ds 0 .un .un hs with ⟨e, y1, y2, h⟩ | ⟨e, y1, y2, h⟩
  · simp [f_in_order, toF_at, m_in_order, outs_cons, outs_nil, enumD_eq, h, e]
  · simp [f_in_order, toF_at, m_in_order, outs_cons, outs_nil, enumD_eq, h, e]
/-! the slots, the keys among them -/
theorem lc_slots {ρ : Ev} {n : Int} (hk : wipeE ρ [5, 6] = ρ) (hl : ρ.length = 8) : ∀ (ds acc : List D), (∀ d ∈ ds, isStpD n d = true) → acc.length + ds.length ≤ 1000 → lcD (pTup [(pName 5), (pName 6)]) tYs e_is_program_2 [5, 6] ds acc ρ = .ok (acc ++ ds.map slotOf, ρ)
  | [], acc, _, _ => by simp [lcD]
  | d :: ds, acc, h, hz => by
    rw [List.length_cons] at hz
    have ih := lc_slots hk hl ds (acc ++ [slotOf d]) (fun e m => h e (List.mem_cons_of_mem _ m)) (by rw [List.length_append, List.length_singleton]; omega)
    obtain ⟨w, i, rfl, _⟩ := stp_form (h d List.mem_cons_self)
    have hz : acc.length < sizeLine := by rw [sizeLine_eq]; omega
    obtain ⟨b0, b1, b2, b3, b4, b5, b6, b7, rfl⟩ : ∃ b0 b1 b2 b3 b4 b5 b6 b7, ρ = [b0, b1, b2, b3, b4, b5, b6, b7] := by
      match ρ, hl with
      | [b0, b1, b2, b3, b4, b5, b6, b7], _ => exact ⟨_, _, _, _, _, _, _, _, rfl⟩
    simp [wipeE] at hk
    obtain ⟨rfl, rfl⟩ := hk
    rw [lcD_cons]
    simp [ue_is_program_2, hz, wipeE]
    simpa [slotOf] using ih
theorem inSlots {n : Int} {ds : List D} (h : ∀ d ∈ ds, isStpD n d = true) (k : Int) : gIn (.tup [.str (Str.ofString "key"), .int k]) (.lst (ds.map slotOf)) = some (.dat (.bl (inD (.tup [.str (Str.ofString "key"), .int k]) (ds.map slotOf)))) := by
  refine gIn_lst (by simp) ?_
  rw [shp_lst, List.all_eq_true]
  intro d m
  obtain ⟨e, he, rfl⟩ := List.mem_map.mp m
  obtain ⟨p, rfl, _⟩ := stp_inv (h e he)
  exact shn_mono (shn_slotD _) (by decide)
theorem rng_int {n : Nat} {d : D} (m : d ∈ rngD 0 n) : ∃ k : Int, d = .int k := by
  unfold rngD at m
  obtain ⟨k, _, rfl⟩ := List.mem_map.mp m
  exact ⟨_, rfl⟩
theorem rng_len {ts : List D} (h : ts.length ≤ 3) : rng1 [.int (ts.length : Int)] = some (rngD 0 ts.length) := by
  have := rng1_ok (ts.length : Int) (rngOk_of (by omega) (by omega))
  simpa using this
def pS (ts ss : List D) : Ev := [.dat (.tup [.tup ts, .tup ss]), .dat (.tup ts), .dat (.tup ss), .un, .un, .un, .un, .un]
def pT (ts ss : List D) : Ev := [.dat (.tup [.tup ts, .tup ss]), .dat (.tup ts), .dat (.tup ss), .un, .dat (.lst (ss.map slotOf)), .un, .un, .un]
theorem ip3_no {ts ss : List D} (hn : ∀ d ∈ ss, niceB d = true) (c2 : ss.length ≤ 6) (q : ss.all (isStpD ts.length) = false) : q_is_program_3 (pS ts ss) = .rt (.dat (.bl false)) (pS ts ss) := by
  have lc := lc_map (ρ := pS ts ss) (k := 3) (e := e_is_program_1) (g := fun d => .bl (isStpD ts.length d)) rfl ss (fun d m => by simp [pS, ue_is_program_1, is_slot_step_eq (hn d m)]) (by rw [sizeLine_eq]; omega)
  unfold pS at lc ⊢
  simp [lc, gAll_map, q]
theorem ip3_bad {ts ss : List D} (hn : ∀ d ∈ ss, niceB d = true) (c2 : ss.length ≤ 6) (q : ss.all (isStpD ts.length) = true) (q2 : ordF ss 0 ss = false) : q_is_program_3 (pS ts ss) = .rt (.dat (.bl false)) (pS ts ss) := by
  have lc := lc_map (ρ := pS ts ss) (k := 3) (e := e_is_program_1) (g := fun d => .bl (isStpD ts.length d)) rfl ss (fun d m => by simp [pS, ue_is_program_1, is_slot_step_eq (hn d m)]) (by rw [sizeLine_eq]; omega)
  have io := in_order_eq (List.all_eq_true.mp q)
  rw [q2] at io
  unfold pS at lc ⊢
  simp [lc, gAll_map, q, io]
theorem ip3_ok {ts ss : List D} (hn : ∀ d ∈ ss, niceB d = true) (c2 : ss.length ≤ 6) (q : ss.all (isStpD ts.length) = true) (q2 : ordF ss 0 ss = true) : q_is_program_3 (pS ts ss) = .nx (pS ts ss) := by
  have lc := lc_map (ρ := pS ts ss) (k := 3) (e := e_is_program_1) (g := fun d => .bl (isStpD ts.length d)) rfl ss (fun d m => by simp [pS, ue_is_program_1, is_slot_step_eq (hn d m)]) (by rw [sizeLine_eq]; omega)
  have io := in_order_eq (List.all_eq_true.mp q)
  rw [q2] at io
  unfold pS at lc ⊢
  simp [lc, gAll_map, q, io]
theorem ip4 {ts ss : List D} (c2 : ss.length ≤ 6) (q : ss.all (isStpD ts.length) = true) : q_is_program_4 (pS ts ss) = .nx (pT ts ss) := by
  have ls := lc_slots (ρ := pS ts ss) rfl rfl ss [] (List.all_eq_true.mp q) (by simp; omega)
  unfold pS at ls ⊢
  unfold pT
  simp [ls]
theorem ip5 {ts ss : List D} (tl : ts.length ≤ 3) (q : ss.all (isStpD ts.length) = true) : q_is_program_5 (pT ts ss) = .rt (.dat (.bl (coverD ts.length ss))) (pT ts ss) := by
  have hr := rng_len tl
  have lk := lc_map (ρ := pT ts ss) (k := 7) (e := e_is_program_3) (g := fun k => .bl (inD (.tup [.str (Str.ofString "key"), k]) (ss.map slotOf))) rfl (rngD 0 ts.length) (fun d m => by
    obtain ⟨k, rfl⟩ := rng_int m
    simp [pT, ue_is_program_3, inSlots (List.all_eq_true.mp q)]) (by rw [rngD_length, sizeLine_eq]; omega)
  unfold pT at lk ⊢
  simp [hr, lk, gAll_map, coverD]
theorem ip_tup {ts ss : List D} (hT : niceB (.tup ts) = true) (hn : ∀ d ∈ ss, niceB d = true) (qT : areTabD (.tup ts) = true) : f_is_program [.dat (.tup [.tup ts, .tup ss])] = .ok (.dat (.bl (isProgD (.tup [.tup ts, .tup ss])))) [.un] := by
  have at1 := are_tables_eq hT
  rw [qT] at at1
  have tl : ts.length ≤ 3 := by
    simp [areTabD] at qT
    exact qT.1
  by_cases c1 : 1 ≤ ss.length
  · by_cases c2 : ss.length ≤ 6
    · have e1 : (1 : Int) ≤ (ss.length : Int) := by omega
      have e2 : (ss.length : Int) ≤ 6 := by omega
      have start : m_is_program [.dat (.tup [.tup ts, .tup ss]), .un, .un, .un, .un, .un, .un, .un] = (sSeq q_is_program_3 (sSeq q_is_program_4 q_is_program_5)) (pS ts ss) := by
        simp [m_is_program, pS, isTy, at1, e1, e2, -uq_is_program_3]
      have tot : m_is_program [.dat (.tup [.tup ts, .tup ss]), .un, .un, .un, .un, .un, .un, .un] = .rt (.dat (.bl (isProgD (.tup [.tup ts, .tup ss])))) (pS ts ss) ∨ m_is_program [.dat (.tup [.tup ts, .tup ss]), .un, .un, .un, .un, .un, .un, .un] = .rt (.dat (.bl (isProgD (.tup [.tup ts, .tup ss])))) (pT ts ss) := by
        rw [start]
        cases q : ss.all (isStpD ts.length) with
        | false =>
          have e : isProgD (.tup [.tup ts, .tup ss]) = false := by simp [isProgD, q]
          rw [e]
          refine .inl ?_
          rw [e_sSeq, ip3_no hn c2 q]
          rfl
        | true =>
          cases q2 : ordF ss 0 ss with
          | false =>
            have e : isProgD (.tup [.tup ts, .tup ss]) = false := by simp [isProgD, q2]
            rw [e]
            refine .inl ?_
            rw [e_sSeq, ip3_bad hn c2 q q2]
            rfl
          | true =>
            have e : isProgD (.tup [.tup ts, .tup ss]) = coverD ts.length ss := by simp [isProgD, q, q2, qT, c1, c2]
            rw [e]
            exact .inr (seq_nx (ip3_ok hn c2 q q2) (seq_nx (ip4 c2 q) (ip5 tl q)))
      rw [f_is_program, toF_at]
      show toR [] 1 (m_is_program [.dat (.tup [.tup ts, .tup ss]), .un, .un, .un, .un, .un, .un, .un]) = _
      rcases tot with e | e <;> rw [e] <;> simp [outs_cons, outs_nil, pS, pT]
    · have e1 : (1 : Int) ≤ (ss.length : Int) := by omega
      have e2 : ¬ (ss.length : Int) ≤ 6 := by omega
      simp [f_is_program, toF_at, m_is_program, outs_cons, outs_nil, isTy, isProgD, at1, c1, c2, e1, e2]
  · have e1 : ¬ (1 : Int) ≤ (ss.length : Int) := by omega
    simp [f_is_program, toF_at, m_is_program, outs_cons, outs_nil, isTy, isProgD, at1, c1, e1]
theorem ip_odd {ts : List D} {S : D} (hT : niceB (.tup ts) = true) (hS : niceB S = true) (qT : areTabD (.tup ts) = true) (no : ∀ ss, S ≠ .tup ss) : f_is_program [.dat (.tup [.tup ts, S])] = .ok (.dat (.bl false)) [.un] := by
  have at1 := are_tables_eq hT
  rw [qT] at at1
  cases S <;> first
    | simp [niceB] at hS; done
    | exact absurd rfl (no _)
    | (simp [f_is_program, toF_at, m_is_program, outs_cons, outs_nil, isTy, at1]; done)
theorem ip_tab {T S : D} (hT : niceB T = true) (qT : areTabD T = false) : f_is_program [.dat (.tup [T, S])] = .ok (.dat (.bl false)) [.un] := by
  have at1 := are_tables_eq hT
  rw [qT] at at1
  simp [f_is_program, toF_at, m_is_program, outs_cons, outs_nil, isTy, at1]
theorem prog_tab {T S : D} (qT : areTabD T = false) : isProgD (.tup [T, S]) = false := by
  unfold isProgD
  split
  · rename_i ts ss heq
    cases heq
    rw [qT]
    simp
  · rfl
theorem prog_odd {T S : D} (no : ∀ ss, S ≠ .tup ss) : isProgD (.tup [T, S]) = false := by
  unfold isProgD
  split
  · rename_i ts ss heq
    cases heq
    exact absurd rfl (no _)
  · rfl
theorem tup_or (S : D) : (∃ ss, S = .tup ss) ∨ ∀ ss, S ≠ .tup ss := by
  cases S <;> first
    | exact .inl ⟨_, rfl⟩
    | exact .inr fun _ z => nomatch z
theorem is_program_eq {d : D} (h : niceB d = true) : f_is_program [.dat d] = .ok (.dat (.bl (isProgD d))) [.un] := by
  rcases tup_or d with ⟨ds, rfl⟩ | no
  · rcases tup_cases ds with rfl | ⟨a, rfl⟩ | ⟨T, S, rfl⟩ | ⟨a, b, c, es, rfl⟩
    · simp [f_is_program, toF_at, m_is_program, outs_cons, outs_nil, isTy, isProgD]
    · simp [f_is_program, toF_at, m_is_program, outs_cons, outs_nil, isTy, isProgD]
    · simp at h
      obtain ⟨hT, hS⟩ := h
      cases qT : areTabD T with
      | false => rw [prog_tab qT, ip_tab hT qT]
      | true =>
        rcases tup_or T with ⟨ts, rfl⟩ | no
        · rcases tup_or S with ⟨ss, rfl⟩ | no'
          · exact ip_tup hT (by simpa using hS) qT
          · rw [prog_odd no', ip_odd hT hS qT no']
        · cases T <;> first
            | exact absurd rfl (no _)
            | cases qT
    · have e : ¬ ((es.length : Int) + 1 + 1 + 1 = 2) := by omega
      simp [f_is_program, toF_at, m_is_program, outs_cons, outs_nil, isTy, isProgD, e]
  · cases d <;> first
      | simp [niceB] at h; done
      | exact absurd rfl (no _)
      | (simp [f_is_program, toF_at, m_is_program, outs_cons, outs_nil, isTy, isProgD]; done)
theorem are_programs_eq {d : D} (h : niceB d = true) (hs : noScr d = true) : f_are_programs [.dat d] = .ok (.dat (.bl (areProgD d))) [.un] := by
  cases d <;> first
    | simp [niceB] at h; done
    | (simp [noScr] at hs; done)
    | (simp [f_are_programs, toF_at, m_are_programs, outs_cons, outs_nil, isTy, areProgD]; done)
    | skip
  rename_i ds
  have hn : ∀ d ∈ ds, niceB d = true := by simpa using h
  by_cases c1 : 1 ≤ ds.length
  · by_cases c2 : ds.length ≤ 4
    · have e1 : (1 : Int) ≤ (ds.length : Int) := by omega
      have e2 : (ds.length : Int) ≤ 4 := by omega
      have lc := lc_map (ρ := [.dat (.lst ds), .un]) (k := 1) (e := e_are_programs_1) (g := fun d => .bl (isProgD d)) rfl ds (fun d m => by simp [ue_are_programs_1, is_program_eq (hn d m)]) (by rw [sizeLine_eq]; omega)
      simp [f_are_programs, toF_at, m_are_programs, outs_cons, outs_nil, isTy, areProgD, e1, e2, lc, gAll_map, c1, c2]
    · have e1 : (1 : Int) ≤ (ds.length : Int) := by omega
      have e2 : ¬ (ds.length : Int) ≤ 4 := by omega
      simp [f_are_programs, toF_at, m_are_programs, outs_cons, outs_nil, isTy, areProgD, e1, e2, c2]
  · have e1 : ¬ (1 : Int) ≤ (ds.length : Int) := by omega
    simp [f_are_programs, toF_at, m_are_programs, outs_cons, outs_nil, isTy, areProgD, e1, c1]
end Law
set_option Elab.async false
set_option linter.all false
set_option maxRecDepth 100000
set_option maxHeartbeats 1000000
namespace Dl
open PySem PySem.Spec L2
open PyProof.Rows hiding St
/-! ## what can be told as a text -/
def rpr (W k : Nat) (d : D) : Prop := ∃ p, toPy d = some p ∧ p.showable = true ∧ p.leavesShort 60 = true ∧ p.weight ≤ W ∧ p.depth ≤ k
theorem rpr.mono {W k W' k' : Nat} {d : D} (h : rpr W k d) (a : W ≤ W' := by omega) (b : k ≤ k' := by omega) : rpr W' k' d :=
  let ⟨p, h1, h2, h3, h4, h5⟩ := h
  ⟨p, h1, h2, h3, by omega, by omega⟩
theorem rpr_int {k : Nat} {i : Int} (h : i.natAbs < 10 ^ 41) : rpr 150 k (.int i) := by
  have hl : i.natAbs.log2 < 140 := by
    by_cases z : i.natAbs = 0
    · rw [z]
      decide
    · exact (Nat.log2_lt z).mpr (Nat.lt_of_lt_of_le h (by decide))
  refine ⟨.int i, rfl, ?_, ?_, ?_, Nat.zero_le _⟩
  · simp only [PyData.showable, decide_eq_true_eq]
    omega
  · simp only [PyData.leavesShort, decide_eq_true_eq]
    have e := int_text_length_le10 (k := 41) (by decide) h
    show (Str.ofString (toString i)).length ≤ 60
    rw [PySem.ofString_length]
    omega
  · simp only [PyData.weight]
    split <;> omega
theorem rpr_str {W k : Nat} (s : String) (h1 : ((Str.ofString s).cps.toList.all fun c => decide (c < 16 ^ 8)) = true) (h2 : (Str.ofString s).cps.size ≤ W) : rpr W k (.str (Str.ofString s)) :=
  ⟨.str (Str.ofString s), rfl, rfl, h1, h2, Nat.zero_le _⟩
theorem rprs {W k : Nat} : ∀ {ds : List D}, (∀ d ∈ ds, rpr W k d) → ∃ ps, toPys ds = some ps ∧ PyData.showableAll ps = true ∧ PyData.leavesShortAll 60 ps = true ∧ PyData.weightAll ps ≤ ds.length * (W + 1) ∧ PyData.depthAll ps ≤ k
  | [], _ => ⟨[], rfl, rfl, rfl, by simp [PyData.weightAll], Nat.zero_le _⟩
  | d :: ds, h => by
    obtain ⟨p, h1, h2, h3, h4, h5⟩ := h d List.mem_cons_self
    obtain ⟨ps, k1, k2, k3, k4, k5⟩ := rprs fun e m => h e (List.mem_cons_of_mem _ m)
    refine ⟨p :: ps, by simp [toPys, h1, k1], by simp [PyData.showableAll, h2, k2], by simp [PyData.leavesShortAll, h3, k3], ?_, ?_⟩
    · simp only [PyData.weightAll, List.length_cons]
      rw [Nat.succ_mul]
      omega
    · simp only [PyData.depthAll]
      omega
theorem rpr_tup {W k n : Nat} {ds : List D} (h : ∀ d ∈ ds, rpr W k d) (hl : ds.length ≤ n) : rpr (n * (W + 1)) (k + 1) (.tup ds) := by
  obtain ⟨ps, k1, k2, k3, k4, k5⟩ := rprs h
  have := Nat.mul_le_mul_right (W + 1) hl
  refine ⟨.tuple ps, by simp [toPy, k1], by simpa [PyData.showable] using k2, by simpa [PyData.leavesShort] using k3, ?_, ?_⟩
  · simp only [PyData.weight]
    omega
  · simp only [PyData.depth]
    omega
theorem rpr_lst {W k n : Nat} {ds : List D} (h : ∀ d ∈ ds, rpr W k d) (hl : ds.length ≤ n) : rpr (n * (W + 1)) (k + 1) (.lst ds) := by
  obtain ⟨ps, k1, k2, k3, k4, k5⟩ := rprs h
  have := Nat.mul_le_mul_right (W + 1) hl
  refine ⟨.list ps, by simp [toPy, k1], by simpa [PyData.showable] using k2, by simpa [PyData.leavesShort] using k3, ?_, ?_⟩
  · simp only [PyData.weight]
    omega
  · simp only [PyData.depth]
    omega
theorem gRepr_ok {d : D} (h : rpr 260000 60 d) : ∃ t, gRepr [d] = some (.dat (.str t)) := by
  obtain ⟨p, h1, h2, h3, h4, h5⟩ := h
  have hs := PyData.shown_le 60 (by decide) p h3
  have hm : 62 * p.weight ≤ 62 * 260000 := Nat.mul_le_mul_left _ h4
  have hz : p.shown.length ≤ sizeLine := by
    rw [sizeLine_eq]
    omega
  refine ⟨p.shown, ?_⟩
  unfold gRepr
  simp only [h1, Option.bind]
  rw [if_pos ⟨h2, hz, h5⟩]
theorem gNe_text (t : Str) : gNe (.str t) (.str t) = some (.dat (.bl false)) := by
  cases c : shp (.str t) with
  | true => rw [gNe_of c c, eqD_str]; simp
  | false =>
    unfold gNe
    rw [c]
    simp [lstOf, dkStr, strStr]
/-! ## odd things -/
structure Odd (W k : Nat) (d : D) : Prop where
  nc : niceB d = true
  cm : cmpB d = true
  sl : slB d = true
  st : stB d = true
  rp : rpr W k d
theorem Odd.mono {W k W' k' : Nat} {d : D} (h : Odd W k d) (a : W ≤ W' := by omega) (b : k ≤ k' := by omega) : Odd W' k' d := ⟨h.nc, h.cm, h.sl, h.st, h.rp.mono a b⟩
section
variable {W k : Nat}
end
theorem rpr_key {W k : Nat} (h : 20 ≤ W) : rpr W k (.str (Str.ofString "key")) := (rpr_str (W := 20) (k := k) "key" (by decide +kernel) (by decide +kernel)).mono
theorem rpr_box {W k : Nat} (h : 20 ≤ W) : rpr W k (.str (Str.ofString "box")) := (rpr_str (W := 20) (k := k) "box" (by decide +kernel) (by decide +kernel)).mono
theorem rpr_read {W k : Nat} (h : 20 ≤ W) : rpr W k (.str (Str.ofString "read")) := (rpr_str (W := 20) (k := k) "read" (by decide +kernel) (by decide +kernel)).mono
theorem rpr_write {W k : Nat} (h : 20 ≤ W) : rpr W k (.str (Str.ofString "write")) := (rpr_str (W := 20) (k := k) "write" (by decide +kernel) (by decide +kernel)).mono
theorem rpr_wd {W k : Nat} (b : Bool) (h : 20 ≤ W) : rpr W k (wd b) := by
  cases b
  · exact rpr_read h
  · exact rpr_write h
def kd (i : Int) : String := if 0 ≤ i then "box" else "key"
def kn (i : Int) : Int := if 0 ≤ i then i else -1 - i
theorem rpr_kd {W k : Nat} (i : Int) (h : 20 ≤ W) : rpr W k (.str (Str.ofString (kd i))) := by
  unfold kd
  split
  · exact rpr_box h
  · exact rpr_key h
theorem kn_le {n i : Int} (h : okC n i) (hn : n ≤ 3) : (kn i).natAbs < 10 ^ 41 := by
  unfold okC at h
  unfold kn
  have e : (1000000 : Nat) < 10 ^ 41 := by decide
  split <;> omega
theorem rpr_slotD {n i : Int} (h : okC n i) (hn : n ≤ 3) : rpr 302 1 (slotD i) := by
  refine (rpr_tup (n := 2) (W := 150) (k := 0) (fun d m => ?_) (Nat.le_refl _)).mono
  simp only [List.mem_cons, List.not_mem_nil, or_false] at m
  rcases m with rfl | rfl
  · exact rpr_kd i (by omega)
  · exact rpr_int (kn_le h hn)
theorem rpr_stp {n : Int} {p : Wb} (h : okC n p.2) (hn : n ≤ 3) : rpr 606 2 (stp p) := by
  refine (rpr_tup (n := 2) (W := 302) (k := 1) (fun d m => ?_) (Nat.le_refl _)).mono
  simp only [List.mem_cons, List.not_mem_nil, or_false] at m
  rcases m with rfl | rfl
  · exact rpr_wd _ (by omega)
  · exact rpr_slotD h hn
theorem nice_slotD (i : Int) : niceB (slotD i) = true := by simp [slotD]
theorem nice_stp (p : Wb) : niceB (stp p) = true := by simp [stp, wd, nice_slotD]
theorem sl_slotD (i : Int) : slB (slotD i) = true := by simp [slotD, slB, cmpB]
theorem st_stp (p : Wb) : stB (stp p) = true := by
  show (cmpB (wd p.1) && slB (slotD p.2)) = true
  rw [sl_slotD]
  simp [wd, cmpB]
/-- what may stand in a step's place -/
structure Stl (d : D) : Prop where
  nc : niceB d = true
  st : stB d = true
  rp : rpr 3000 5 d
theorem Odd.stl {W k : Nat} {d : D} (h : Odd W k d) (a : W ≤ 3000 := by omega) (b : k ≤ 5 := by omega) : Stl d := ⟨h.nc, h.st, h.rp.mono a b⟩
end Dl
set_option Elab.async false
set_option linter.all false
set_option maxRecDepth 100000
set_option maxHeartbeats 4000000
namespace Law
open PySem PySem.Spec L2 Dl
open PyProof.Rows hiding St
theorem of_spec (w : Well) {ds : List D} (h : ds ≠ []) (hl : ds.length ≤ 1000) : ∃ (d : D) (w' : Well), d ∈ ds ∧ f_law_of [.own w.ds, .dat (.lst ds)] = .ok (.dat d) [.own w'.ds, .un] := by
  have hp := List.length_pos_iff.mpr h
  obtain ⟨d, hd, eg⟩ := menu w (ds := ds) (n := (ds.length : Int)) rfl (by omega)
  refine ⟨d, w.aft ds.length, hd, ?_⟩
  have e := dig w (b := (ds.length : Int)) (by omega) (by omega)
  simp [f_law_of, toF_at, m_law_of, outs_cons, outs_nil, e, eg, -gIx_lst]
theorem gNe_nilD (xs : List D) : gNe (.lst xs) (.lst []) = some (.dat (.bl (!xs.isEmpty))) := by
  cases xs with
  | nil => rw [gNe_of (by simp) (by simp)]; rfl
  | cons x xs =>
    by_cases c : shp (.lst (x :: xs)) = true
    · have e := gEq_len (xs := x :: xs) (ys := []) (by simp)
      rw [gEq_of c (by simp)] at e
      rw [gNe_of c (by simp)]
      simp only [Option.some.injEq, B.dat.injEq, D.bl.injEq] at e
      rw [e]
      rfl
    · unfold gNe
      rw [if_neg (by simp only [Bool.and_eq_true]; exact fun z => c z.1)]
      show (if (x :: xs).length = ([] : List D).length then _ else some (B.dat (.bl true))) = _
      rw [if_neg (by simp)]
      rfl
end Law
set_option Elab.async false
set_option linter.all false
set_option maxRecDepth 100000
set_option maxHeartbeats 1000000
namespace Dl
open PySem PySem.Spec L2
open PyProof.Rows hiding St
/-! ## steps put together from rows -/
def Shape (i : Int) (r : List Wb) : Prop := r = [(false, i), (true, i)] ∨ ∃ w, r = [(w, i)]
structure PI (is : List Int) (N : Nat) (acc : List Wb) (rows : List (List Wb)) : Prop where
  od : ordP acc 0 acc = true
  fr : ∀ r ∈ rows, ∀ p ∈ r, p ∉ acc ∧ (true, p.2) ∉ acc
  sh : ∀ r ∈ rows, ∃ i, Shape i r
  di : rows.Pairwise fun r r' => ∀ p ∈ r, ∀ q ∈ r', p.2 ≠ q.2
  cv : ∀ i ∈ is, (∃ p ∈ acc, p.2 = i) ∨ ∃ r ∈ rows, ∃ p ∈ r, p.2 = i
  ma : ∀ p ∈ acc, p.2 ∈ is
  mr : ∀ r ∈ rows, ∀ p ∈ r, p.2 ∈ is
  nm : acc.length + (rows.map List.length).sum = N
theorem Shape.slot {i : Int} {r : List Wb} (h : Shape i r) : ∀ p ∈ r, p.2 = i := by
  intro p m
  rcases h with rfl | ⟨w, rfl⟩
  · simp only [List.mem_cons, List.not_mem_nil, or_false] at m
    rcases m with rfl | rfl <;> rfl
  · rw [List.mem_singleton.mp m]
theorem Shape.ne {i : Int} {r : List Wb} (h : Shape i r) : r ≠ [] := by
  rcases h with rfl | ⟨w, rfl⟩ <;> simp
/-- a row's first taken off -/
theorem Shape.rest {i : Int} {p : Wb} {t : List Wb} (h : Shape i (p :: t)) : t = [] ∨ (t = [(true, i)] ∧ p = (false, i)) := by
  rcases h with h | ⟨w, h⟩
  · cases h
    exact .inr ⟨rfl, rfl⟩
  · cases h
    exact .inl rfl
def live (rows : List (List Wb)) : List (List Wb) := rows.filter fun r => !r.isEmpty
theorem live_mem {rows : List (List Wb)} {r : List Wb} : r ∈ live rows ↔ r ∈ rows ∧ r ≠ [] := by
  unfold live
  rw [List.mem_filter]
  simp
theorem live_sum : ∀ rows : List (List Wb), ((live rows).map List.length).sum = (rows.map List.length).sum
  | [] => rfl
  | r :: rows => by
    have ih := live_sum rows
    unfold live at ih ⊢
    rw [List.filter_cons]
    cases r with
    | nil => simpa using ih
    | cons x r => simp [ih]
theorem PI.step {is : List Int} {N : Nat} {acc : List Wb} {A B : List (List Wb)} {p : Wb} {t : List Wb} (h : PI is N acc (A ++ (p :: t) :: B)) : PI is N (acc ++ [p]) (live (A ++ t :: B)) := by
  have hr : (p :: t) ∈ A ++ (p :: t) :: B := by simp
  obtain ⟨i, hi⟩ := h.sh _ hr
  have hp : p.2 = i := hi.slot p List.mem_cons_self
  have hd := h.di
  rw [List.pairwise_append, List.pairwise_cons] at hd
  obtain ⟨dA, ⟨dr, dB⟩, dAB⟩ := hd
  -- rows elsewhere are of other slots
  have oth : ∀ r, r ∈ A ∨ r ∈ B → r ∈ A ++ (p :: t) :: B ∧ ∀ q ∈ r, q.2 ≠ p.2 := by
    rintro r (m | m)
    · exact ⟨List.mem_append_left _ m, fun q hq => dAB r m _ List.mem_cons_self q hq p List.mem_cons_self⟩
    · exact ⟨List.mem_append_right _ (List.mem_cons_of_mem _ m), fun q hq e => dr r m p List.mem_cons_self q hq e.symm⟩
  have split : ∀ r ∈ live (A ++ t :: B), (r ∈ A ∨ r ∈ B) ∨ (r = t ∧ t = [(true, i)] ∧ p = (false, i)) := by
    intro r m
    obtain ⟨m, n⟩ := live_mem.mp m
    rcases List.mem_append.mp m with m | m
    · exact .inl (.inl m)
    · rcases List.mem_cons.mp m with rfl | m
      · rcases hi.rest with z | z
        · exact absurd z n
        · exact .inr ⟨rfl, z.1, z.2⟩
      · exact .inl (.inr m)
  refine ⟨ordP_add h.od (h.fr _ hr p List.mem_cons_self).1 (h.fr _ hr p List.mem_cons_self).2, ?_, ?_, ?_, ?_, ?_, ?_, ?_⟩
  · intro r m q hq
    rcases split r m with m | ⟨rfl, e1, e2⟩
    · obtain ⟨m1, m2⟩ := oth r m
      obtain ⟨f1, f2⟩ := h.fr r m1 q hq
      have ne := m2 q hq
      refine ⟨fun z => ?_, fun z => ?_⟩
      · rcases List.mem_append.mp z with z | z
        · exact f1 z
        · exact ne (by rw [List.mem_singleton.mp z])
      · rcases List.mem_append.mp z with z | z
        · exact f2 z
        · exact ne (by rw [← List.mem_singleton.mp z])
    · rw [e1] at hq
      obtain rfl := List.mem_singleton.mp hq
      have f2 := (h.fr _ hr p List.mem_cons_self).2
      rw [hp] at f2
      have np : ((true, i) : Wb) ≠ p := by
        rw [e2]
        simp
      refine ⟨fun z => ?_, fun z => ?_⟩ <;>
      · rcases List.mem_append.mp z with z | z
        · exact f2 z
        · exact np (List.mem_singleton.mp z)
  · intro r m
    rcases split r m with m | ⟨rfl, e1, e2⟩
    · exact h.sh r (oth r m).1
    · exact ⟨i, .inr ⟨true, e1⟩⟩
  · unfold live
    refine List.Pairwise.filter _ ?_
    rw [List.pairwise_append, List.pairwise_cons]
    refine ⟨dA, ⟨fun r m q hq => dr r m q (List.mem_cons_of_mem _ hq), dB⟩, fun r m r' m' q hq q' hq' => ?_⟩
    rcases List.mem_cons.mp m' with rfl | m'
    · exact dAB r m _ List.mem_cons_self q hq q' (List.mem_cons_of_mem _ hq')
    · exact dAB r m r' (List.mem_cons_of_mem _ m') q hq q' hq'
  · intro j hj
    rcases h.cv j hj with ⟨q, hq, e⟩ | ⟨r, m, q, hq, e⟩
    · exact .inl ⟨q, List.mem_append_left _ hq, e⟩
    · rcases List.mem_append.mp m with m | m
      · exact .inr ⟨r, live_mem.mpr ⟨List.mem_append_left _ m, List.ne_nil_of_mem hq⟩, q, hq, e⟩
      · rcases List.mem_cons.mp m with rfl | m
        · exact .inl ⟨p, by simp, by rw [hp, ← e]; exact (hi.slot q hq).symm⟩
        · exact .inr ⟨r, live_mem.mpr ⟨List.mem_append_right _ (List.mem_cons_of_mem _ m), List.ne_nil_of_mem hq⟩, q, hq, e⟩
  · intro q hq
    rcases List.mem_append.mp hq with m | m
    · exact h.ma q m
    · rw [List.mem_singleton.mp m]
      exact h.mr _ hr p List.mem_cons_self
  · intro r m q hq
    rcases split r m with m | ⟨rfl, e1, e2⟩
    · exact h.mr r (oth r m).1 q hq
    · exact h.mr _ hr q (List.mem_cons_of_mem _ hq)
  · have := h.nm
    rw [live_sum]
    simp only [List.map_append, List.map_cons, List.sum_append, List.sum_cons, List.length_append, List.length_cons, List.length_nil] at this ⊢
    omega
inductive RWs : List Int → List (List Wb) → Prop
  | nil : RWs [] []
  | cons {i : Int} {r : List Wb} {is : List Int} {rows : List (List Wb)} : Shape i r → RWs is rows → RWs (i :: is) (r :: rows)
theorem RWs.of {is : List Int} {rows : List (List Wb)} (h : RWs is rows) : ∀ r ∈ rows, ∃ i ∈ is, Shape i r := by
  induction h with
  | nil => exact fun _ m => absurd m List.not_mem_nil
  | cons s _ ih =>
    intro r m
    rcases List.mem_cons.mp m with rfl | m
    · exact ⟨_, List.mem_cons_self, s⟩
    · obtain ⟨i, hi, s'⟩ := ih r m
      exact ⟨i, List.mem_cons_of_mem _ hi, s'⟩
theorem RWs.cov {is : List Int} {rows : List (List Wb)} (h : RWs is rows) : ∀ i ∈ is, ∃ r ∈ rows, Shape i r := by
  induction h with
  | nil => exact fun _ m => absurd m List.not_mem_nil
  | cons s _ ih =>
    intro r m
    rcases List.mem_cons.mp m with rfl | m
    · exact ⟨_, List.mem_cons_self, s⟩
    · obtain ⟨i, hi, s'⟩ := ih r m
      exact ⟨i, List.mem_cons_of_mem _ hi, s'⟩
theorem RWs.dist {is : List Int} {rows : List (List Wb)} (h : RWs is rows) (nd : is.Nodup) : rows.Pairwise fun r r' => ∀ p ∈ r, ∀ q ∈ r', p.2 ≠ q.2 := by
  induction h with
  | nil => exact .nil
  | cons s t ih =>
    rw [List.nodup_cons] at nd
    refine .cons (fun r' m p hp q hq e => ?_) (ih nd.2)
    obtain ⟨j, hj, s'⟩ := t.of r' m
    rw [s.slot p hp, s'.slot q hq] at e
    exact nd.1 (e ▸ hj)
theorem PI.start {is : List Int} {rows : List (List Wb)} (h : RWs is rows) (nd : is.Nodup) : PI is (rows.map List.length).sum [] rows := by
  refine ⟨rfl, fun _ _ _ _ => ⟨List.not_mem_nil, List.not_mem_nil⟩, fun r m => ?_, h.dist nd, fun i hi => ?_, fun _ m => absurd m List.not_mem_nil, fun r m p hp => ?_, by simp⟩
  · obtain ⟨i, _, s⟩ := h.of r m
    exact ⟨i, s⟩
  · obtain ⟨r, m, s⟩ := h.cov i hi
    obtain ⟨p, hp⟩ := List.exists_mem_of_ne_nil r s.ne
    exact .inr ⟨r, m, p, hp, s.slot p hp⟩
  · obtain ⟨i, hi, s⟩ := h.of r m
    rw [s.slot p hp]
    exact hi
theorem PI.done {is ts : List Int} {N : Nat} {acc : List Wb} (h : PI is N acc []) (hN : N ≤ 6) (h0 : is ≠ []) (tl : ts.length ≤ 3) (tr : ∀ t ∈ ts, 1 ≤ t ∧ t ≤ 9) (ok : ∀ i ∈ is, okC ts.length i) (cv : ∀ k : Nat, k < ts.length → -1 - (k : Int) ∈ is) : Prg ts acc := by
  have cov : ∀ i ∈ is, ∃ p ∈ acc, p.2 = i := fun i hi => (h.cv i hi).elim id fun ⟨r, m, _⟩ => absurd m List.not_mem_nil
  have nm := h.nm
  simp at nm
  refine ⟨tl, tr, fun z => ?_, by omega, fun p hp => ok _ (h.ma p hp), h.od, fun k hk => cov _ (cv k hk)⟩
  obtain ⟨i, hi⟩ := List.exists_mem_of_ne_nil is h0
  obtain ⟨p, hp, _⟩ := cov i hi
  rw [z] at hp
  exact absurd hp List.not_mem_nil
def rowD (r : List Wb) : D := .lst (r.map stp)
end Dl
set_option Elab.async false
set_option linter.all false
set_option maxRecDepth 100000
set_option maxHeartbeats 4000000
namespace Law
open PySem PySem.Spec L2 Dl
open PyProof.Rows hiding St
theorem rows_loop (SL most : B) : ∀ (is : List Int) (w : Well) (acc : List (List Wb)) (left : Nat) (x5 x6 : B), acc.length + is.length ≤ 100 → ∃ (rows : List (List Wb)) (w' : Well) (left' : Nat) (y5 y6 : B),
    forD (pName 5) b_law_steps_1 (is.map slotD) [.own w.ds, SL, most, .own (acc.map rowD), .dat (.int (left : Int)), x5, x6, .un, .un, .un] = .nx [.own w'.ds, SL, most, .own ((acc ++ rows).map rowD), .dat (.int (left' : Int)), y5, y6, .un, .un, .un] ∧ RWs is rows ∧ (rows.map List.length).sum + left' = is.length + left
  | [], w, acc, left, x5, x6, _ => ⟨[], w, left, x5, x6, by simp, .nil, by simp⟩
  | i :: is, w, acc, left, x5, x6, hl => by
    rw [List.length_cons] at hl
    have l0 := w.lo (b := 3) (by decide)
    have l1 := w.hi (b := 3) (by decide)
    have e1 := dig w (b := 3) (by decide) (by decide)
    have hz : acc.length < sizeLine := by rw [sizeLine_eq]; omega
    have one : ∀ (b : Bool) (x6 : B), ∃ (rows : List (List Wb)) (w' : Well) (left' : Nat) (y5 y6 : B),
        forD (pName 5) b_law_steps_1 (is.map slotD) [.own (w.aft 3).ds, SL, most, .own ((acc ++ [[(b, i)]]).map rowD), .dat (.int (left : Int)), .dat (slotD i), x6, .un, .un, .un] = .nx [.own w'.ds, SL, most, .own ((acc ++ rows).map rowD), .dat (.int (left' : Int)), y5, y6, .un, .un, .un] ∧ RWs (i :: is) rows ∧ (rows.map List.length).sum + left' = (i :: is).length + left := fun b x6 => by
      obtain ⟨rows, w', left', y5, y6, e, h1, h2⟩ := rows_loop SL most is (w.aft 3) (acc ++ [[(b, i)]]) left (.dat (slotD i)) x6 (by rw [List.length_append, List.length_singleton]; omega)
      refine ⟨[(b, i)] :: rows, w', left', y5, y6, ?_, .cons (.inr ⟨b, rfl⟩) h1, ?_⟩
      · rw [e]
        simp
      · simp only [List.map_cons, List.sum_cons, List.length_cons, List.length_nil]
        omega
    rw [List.map_cons, forD_cons]
    rcases (show w.fig 3 = 0 ∨ w.fig 3 = 1 ∨ w.fig 3 = 2 by omega) with e | e | e
    · obtain ⟨rows, w', left', y5, y6, e2, h1, h2⟩ := one false (.dat (.int 0))
      refine ⟨rows, w', left', y5, y6, ?_, h1, h2⟩
      simp only [List.map_append, List.map_cons, List.map_nil] at e2 ⊢
      simp only [rowD, List.map_cons, List.map_nil, stp, wd] at e2 ⊢
      simp [ub_law_steps_1, e1, e, hz]
      simpa using e2
    · obtain ⟨rows, w', left', y5, y6, e2, h1, h2⟩ := one true (.dat (.int 1))
      refine ⟨rows, w', left', y5, y6, ?_, h1, h2⟩
      simp only [List.map_append, List.map_cons, List.map_nil] at e2 ⊢
      simp only [rowD, List.map_cons, List.map_nil, stp, wd] at e2 ⊢
      simp [ub_law_steps_1, e1, e, hz]
      simpa using e2
    · cases left with
      | zero =>
        obtain ⟨rows, w', left', y5, y6, e2, h1, h2⟩ := one false (.dat (.int 2))
        refine ⟨rows, w', left', y5, y6, ?_, h1, h2⟩
        simp only [List.map_append, List.map_cons, List.map_nil] at e2 ⊢
        simp only [rowD, List.map_cons, List.map_nil, stp, wd] at e2 ⊢
        simp [ub_law_steps_1, e1, e, hz]
        simpa using e2
      | succ left =>
        obtain ⟨rows, w', left', y5, y6, e2, h1, h2⟩ := rows_loop SL most is (w.aft 3) (acc ++ [[(false, i), (true, i)]]) left (.dat (slotD i)) (.dat (.int 2)) (by rw [List.length_append, List.length_singleton]; omega)
        refine ⟨[(false, i), (true, i)] :: rows, w', left', y5, y6, ?_, .cons (.inl rfl) h1, ?_⟩
        · have p : (0 : Int) < (left : Int) + 1 := by omega
          have q : ((left : Int) + 1) - 1 = (left : Int) := by omega
          have pc : ((left + 1 : Nat) : Int) = (left : Int) + 1 := rfl
          rw [pc]
          simp only [List.map_append, List.map_cons, List.map_nil] at e2 ⊢
          simp only [rowD, List.map_cons, List.map_nil, stp, wd] at e2 ⊢
          simp [ub_law_steps_1, e1, e, hz, p, q]
          simpa using e2
        · simp only [List.map_cons, List.sum_cons, List.length_cons, List.length_nil]
          omega
end Law
set_option Elab.async false
set_option linter.all false
set_option maxRecDepth 100000
set_option maxHeartbeats 4000000
namespace Law
open PySem PySem.Spec L2 Dl
open PyProof.Rows hiding St
def wS (w : Well) (SL most : B) (rows : List (List Wb)) (L4 x5 x6 : B) (acc : List Wb) (x8 x9 : B) : Ev := [.own w.ds, SL, most, .own (rows.map rowD), L4, x5, x6, .own (acc.map stp), x8, x9]
def liveD : D → Bool
  | .lst xs => !xs.isEmpty
  | _ => true
theorem filter_live (rows : List (List Wb)) : (rows.map rowD).filter liveD = (live rows).map rowD := by
  induction rows with
  | nil => rfl
  | cons r rows ih =>
    unfold live at ih ⊢
    rw [List.map_cons, List.filter_cons, List.filter_cons, ih]
    cases r with
    | nil => rfl
    | cons x r => rfl
theorem turn (is : List Int) (N : Nat) (w : Well) (SL most L4 x5 x6 x8 : B) (A B : List (List Wb)) (p : Wb) (t : List Wb) (acc : List Wb) (hl : A.length + B.length ≤ 50) (ha : acc.length ≤ 50) (e1 : f_law_digit [.own w.ds, .dat (.int ((A ++ (p :: t) :: B).length : Int))] = .ok (.dat (.int (A.length : Int))) [.own (w.aft ((A ++ (p :: t) :: B).length : Int)).ds, .un]) :
    b_law_steps_4 (wS w SL most (A ++ (p :: t) :: B) L4 x5 x6 acc x8 .un) = .nx (wS (w.aft ((A ++ (p :: t) :: B).length : Int)) SL most (live (A ++ t :: B)) L4 x5 x6 (acc ++ [p]) (.dat (.int (A.length : Int))) .un) := by
  have gx : gIx (.lst ((A ++ (p :: t) :: B).map rowD)) (.int (A.length : Int)) = some (.dat (rowD (p :: t))) := by
    rw [gIx_lst, atI_nat', List.getElem?_map]
    simp
  have len : gLen [.lst ((A ++ (p :: t) :: B).map rowD)] = some (.dat (.int ((A ++ (p :: t) :: B).length : Int))) := by
    rw [e_len_lst, List.length_map]
  have g0 : gIx (rowD (p :: t)) (.int 0) = some (.dat (stp p)) := by
    show gIx (.lst (stp p :: t.map stp)) (.int 0) = _
    simp
  have g1 : gSl (rowD (p :: t)) (some 1) none = some (.own (t.map stp)) := by
    show gSl (.lst ((p :: t).map stp)) (some 1) none = _
    simp
  have hz : acc.length < sizeLine := by rw [sizeLine_eq]; omega
  have fz : D.lst (t.map stp) = rowD t := rfl
  have put : putL ((A ++ (p :: t) :: B).map rowD) (rowD t) (.int (A.length : Int)) = some ((A ++ t :: B).map rowD) := by
    have ix : L2.ixN ((A ++ (p :: t) :: B).map rowD).length (A.length : Int) = some A.length := by
      unfold L2.ixN
      rw [if_pos (by omega), if_pos (by simp; omega)]
      rfl
    rw [putL_int, ix]
    simp [List.set_append]
  generalize hW : w.aft ((A ++ (p :: t) :: B).length : Int) = w1 at *
  generalize hR : (A ++ (p :: t) :: B).map rowD = R at *
  generalize ((A ++ (p :: t) :: B).length : Int) = n at *
  rw [ub_law_steps_4]
  unfold wS
  rw [hR]
  refine seq_nx (ρ' := [.own w1.ds, SL, most, .own R, L4, x5, x6, .own (acc.map stp), .dat (.int (A.length : Int)), .un]) (by simp [len, e1]) ?_
  refine seq_nx (ρ' := [.own w1.ds, SL, most, .own R, L4, x5, x6, .own ((acc ++ [p]).map stp), .dat (.int (A.length : Int)), .un]) (by simp [gx, g0, hz, -gIx_lst]) ?_
  refine seq_nx (ρ' := [.own w1.ds, SL, most, .own ((A ++ t :: B).map rowD), L4, x5, x6, .own ((acc ++ [p]).map stp), .dat (.int (A.length : Int)), .un]) (by simp [gx, g1, fz, put, -gIx_lst]) ?_
  have lc := lc_fm (ρ := [.own w1.ds, SL, most, .dat (.lst ((A ++ t :: B).map rowD)), L4, x5, x6, .own ((acc ++ [p]).map stp), .dat (.int (A.length : Int)), .un]) (k := 9) (c := c_law_steps_3) (e := e_law_steps_2) (g := id) (t := liveD) rfl ((A ++ t :: B).map rowD) [] (fun d m => by
    obtain ⟨r, _, rfl⟩ := List.mem_map.mp m
    have := gNe_nilD (r.map stp)
    have e : liveD (rowD r) = !(r.map stp).isEmpty := rfl
    rw [e]
    have q : D.lst (r.map stp) = rowD r := rfl
    rw [q] at this
    simp [uc_law_steps_3, this]) (fun d m _ => by simp [ue_law_steps_2]) (by rw [sizeLine_eq]; simp; omega)
  rw [List.nil_append, List.map_id, filter_live] at lc
  generalize (A ++ t :: B).map rowD = R2 at *
  generalize (acc ++ [p]).map stp = S7 at *
  simp [e_frzI, lc, wipeE, restE]
theorem while_loop (is : List Int) (N : Nat) (SL most L4 x5 x6 : B) : ∀ (n : Nat) (fuel : Nat) (w : Well) (rows : List (List Wb)) (acc : List Wb) (x8 : B), PI is N acc rows → (rows.map List.length).sum = n → n < fuel → N ≤ 6 → ∃ (w' : Well) (acc' : List Wb) (y8 : B),
    whileD t_law_steps_5 b_law_steps_4 fuel (wS w SL most rows L4 x5 x6 acc x8 .un) = .nx (wS w' SL most [] L4 x5 x6 acc' y8 .un) ∧ PI is N acc' []
  | n, 0, w, rows, acc, x8, h, hn, hf, h6 => absurd hf (Nat.not_lt_zero _)
  | n, fuel + 1, w, rows, acc, x8, h, hn, hf, h6 => by
    have gn := gNe_nilD (rows.map rowD)
    have tst : t_law_steps_5 (wS w SL most rows L4 x5 x6 acc x8 .un) = .ok (!(rows.map rowD).isEmpty, wS w SL most rows L4 x5 x6 acc x8 .un) := by
      rw [ut_law_steps_5]
      unfold wS
      generalize rows.map rowD = R at *
      simp [gn]
    rw [whileD_succ, tst, e_wh1]
    cases rows with
    | nil => exact ⟨w, acc, x8, rfl, h⟩
    | cons r0 rs =>
      rw [if_pos (by rfl)]
      have hp : 0 < (r0 :: rs).length := by simp
      have l0 := w.lo (b := ((r0 :: rs).length : Int)) (by omega)
      have l1 := w.hi (b := ((r0 :: rs).length : Int)) (by omega)
      have nm := h.nm
      have lens : (r0 :: rs).length ≤ ((r0 :: rs).map List.length).sum := by
        have all : ∀ l : List (List Wb), (∀ r ∈ l, ∃ i, Shape i r) → l.length ≤ (l.map List.length).sum := by
          intro l
          induction l with
          | nil => exact fun _ => Nat.le_refl _
          | cons r l ih =>
            intro hs
            have := ih fun r' m => hs r' (List.mem_cons_of_mem _ m)
            obtain ⟨i, s⟩ := hs r List.mem_cons_self
            have := List.length_pos_iff.mpr s.ne
            simp only [List.map_cons, List.sum_cons, List.length_cons]
            omega
        exact all _ h.sh
      have e1 := dig w (b := ((r0 :: rs).length : Int)) (by omega) (by omega)
      obtain ⟨k, hk⟩ : ∃ k : Nat, w.fig ((r0 :: rs).length : Int) = (k : Int) := ⟨(w.fig ((r0 :: rs).length : Int)).toNat, by omega⟩
      rw [hk] at e1 l1
      have kl : k < (r0 :: rs).length := by omega
      obtain ⟨A, r, C, hr, hA⟩ : ∃ (A : List (List Wb)) (r : List Wb) (C : List (List Wb)), r0 :: rs = A ++ r :: C ∧ A.length = k := by
        refine ⟨(r0 :: rs).take k, (r0 :: rs)[k], (r0 :: rs).drop (k + 1), ?_, ?_⟩
        · rw [List.getElem_cons_drop, List.take_append_drop]
        · rw [List.length_take]
          omega
      rw [hr] at h e1 hn nm lens kl ⊢
      have hm : r ∈ A ++ r :: C := by simp
      obtain ⟨i, hi⟩ := h.sh r hm
      cases r with
      | nil => exact absurd rfl hi.ne
      | cons p t =>
        rw [← hA] at e1
        have ll : (A ++ (p :: t) :: C).length = A.length + C.length + 1 := by simp; omega
        have tu := turn is N w SL most L4 x5 x6 x8 A C p t acc (by omega) (by omega) e1
        rw [tu, e_wh2n]
        have h' := h.step
        have n' : ((live (A ++ t :: C)).map List.length).sum + 1 = n := by
          rw [live_sum]
          rw [← hn]
          simp only [List.map_append, List.map_cons, List.sum_append, List.sum_cons, List.length_cons]
          omega
        exact while_loop is N SL most L4 x5 x6 (n - 1) fuel _ (live (A ++ t :: C)) (acc ++ [p]) _ h' (by omega) (by omega) h6
theorem steps_spec (w : Well) {is : List Int} (nd : is.Nodup) (h0 : is ≠ []) (hl : is.length ≤ 6) {ts : List Int} (tl : ts.length ≤ 3) (tr : ∀ t ∈ ts, 1 ≤ t ∧ t ≤ 9) (ok : ∀ i ∈ is, okC ts.length i) (cv : ∀ k : Nat, k < ts.length → -1 - (k : Int) ∈ is) :
    ∃ (ps : List Wb) (w' : Well), f_law_steps [.own w.ds, .dat (.lst (is.map slotD)), .dat (.int 6)] = .ok (.dat (.tup (ps.map stp))) [.own w'.ds, .dat (.lst (is.map slotD)), .un] ∧ Prg ts ps := by
  obtain ⟨m, hm⟩ : ∃ m : Nat, is.length + m = 6 := ⟨6 - is.length, by omega⟩
  obtain ⟨rows, w1, left', y5, y6, e1, h1, h2⟩ := rows_loop (.dat (.lst (is.map slotD))) (.dat (.int 6)) is w [] m .un .un (by simp; omega)
  have pi := PI.start h1 nd
  have nm := pi.nm
  obtain ⟨w2, acc, y8, e2, pi2⟩ := while_loop is _ (.dat (.lst (is.map slotD))) (.dat (.int 6)) (.dat (.int (left' : Int))) y5 y6 _ ((rows.map List.length).sum + 1) w1 rows [] .un pi rfl (Nat.lt_succ_self _) (by omega)
  refine ⟨acc, w2, ?_, pi2.done (by omega) h0 tl tr ok cv⟩
  have em : (6 : Int) - (is.length : Int) = (m : Int) := by omega
  have fuel : w_law_steps_1 (wS w1 (.dat (.lst (is.map slotD))) (.dat (.int 6)) rows (.dat (.int (left' : Int))) y5 y6 [] .un .un) = (rows.map List.length).sum + 1 := by
    have : ∀ l : List (List Wb), ((l.map rowD).map dlen).sum = (l.map List.length).sum := by
      intro l
      induction l with
      | nil => rfl
      | cons r l ih => simp only [List.map_cons, List.sum_cons, ih]; simp [rowD, dlen]
    show (((rows.map rowD).map dlen).sum + 1) = _
    rw [this]
  have len : gLen [.lst (is.map slotD)] = some (.dat (.int (is.length : Int))) := by rw [e_len_lst, List.length_map]
  have b1 : (fun ρ => whileD t_law_steps_5 b_law_steps_4 (w_law_steps_1 ρ) ρ) (wS w1 (.dat (.lst (is.map slotD))) (.dat (.int 6)) rows (.dat (.int (left' : Int))) y5 y6 [] .un .un) = .nx (wS w2 (.dat (.lst (is.map slotD))) (.dat (.int 6)) [] (.dat (.int (left' : Int))) y5 y6 acc y8 .un) := by
    show whileD t_law_steps_5 b_law_steps_4 (w_law_steps_1 _) _ = _
    rw [fuel]
    exact e2
  rw [f_law_steps, toF_at]
  show toR [0, 1] 3 (m_law_steps [.own w.ds, .dat (.lst (is.map slotD)), .dat (.int 6), .un, .un, .un, .un, .un, .un, .un]) = _
  have all : m_law_steps [.own w.ds, .dat (.lst (is.map slotD)), .dat (.int 6), .un, .un, .un, .un, .un, .un, .un] = .rt (.dat (.tup (acc.map stp))) (wS w2 (.dat (.lst (is.map slotD))) (.dat (.int 6)) [] (.dat (.int (left' : Int))) y5 y6 acc y8 .un) := by
    rw [m_law_steps]
    generalize hS : is.map slotD = S at *
    refine seq_nx (ρ' := [.own w.ds, .dat (.lst S), .dat (.int 6), .own [], .un, .un, .un, .un, .un, .un]) (by simp) ?_
    refine seq_nx (ρ' := [.own w.ds, .dat (.lst S), .dat (.int 6), .own [], .dat (.int (m : Int)), .un, .un, .un, .un, .un]) (by simp [len, em]) ?_
    refine seq_nx (ρ' := [.own w1.ds, .dat (.lst S), .dat (.int 6), .own (rows.map rowD), .dat (.int (left' : Int)), y5, y6, .un, .un, .un]) (by simpa using e1) ?_
    refine seq_nx (ρ' := wS w1 (.dat (.lst S)) (.dat (.int 6)) rows (.dat (.int (left' : Int))) y5 y6 [] .un .un) (by simp [wS]) ?_
    refine seq_nx b1 ?_
    unfold wS
    simp
  rw [all]
  simp [outs_cons, outs_nil, wS]
end Law
set_option Elab.async false
set_option linter.all false
set_option maxRecDepth 100000
set_option maxHeartbeats 4000000
namespace Law
open PySem PySem.Spec L2 Dl
open PyProof.Rows hiding St
theorem tables_lc (x1 x2 x3 x4 x6 x7 : B) : ∀ (ds : List D) (w : Well) (acc : List Int), acc.length + ds.length ≤ 1000 → ∃ (ts : List Int) (w' : Well),
    lcD (pName 5) tYs e_law_program_1 [5] ds (acc.map .int) [.own w.ds, x1, x2, x3, x4, .un, x6, x7] = .ok ((acc ++ ts).map .int, [.own w'.ds, x1, x2, x3, x4, .un, x6, x7]) ∧ ts.length = ds.length ∧ ∀ t ∈ ts, 1 ≤ t ∧ t ≤ 9
  | [], w, acc, _ => ⟨[], w, by simp, rfl, fun _ m => absurd m List.not_mem_nil⟩
  | d :: ds, w, acc, hl => by
    rw [List.length_cons] at hl
    have l0 := w.lo (b := 9) (by decide)
    have l1 := w.hi (b := 9) (by decide)
    have e0 := dig w (b := 9) (by decide) (by decide)
    generalize w.fig 9 = r at *
    obtain ⟨t, w1, ht, e1⟩ := of_spec (w.aft 9) (ds := [.int 1, .int 1, .int 1, .int 2, .int (1 + r)]) (by simp) (by simp)
    obtain ⟨k, rfl, k0, k1⟩ : ∃ k : Int, t = .int k ∧ 1 ≤ k ∧ k ≤ 9 := by
      simp only [List.mem_cons, List.not_mem_nil, or_false] at ht
      rcases ht with rfl | rfl | rfl | rfl | rfl
      · exact ⟨1, rfl, by decide, by decide⟩
      · exact ⟨1, rfl, by decide, by decide⟩
      · exact ⟨1, rfl, by decide, by decide⟩
      · exact ⟨2, rfl, by decide, by decide⟩
      · exact ⟨1 + r, rfl, by omega, by omega⟩
    obtain ⟨ts, w', e, h1, h2⟩ := tables_lc x1 x2 x3 x4 x6 x7 ds w1 (acc ++ [k]) (by rw [List.length_append, List.length_singleton]; omega)
    refine ⟨k :: ts, w', ?_, by rw [List.length_cons, List.length_cons, h1], fun j m => ?_⟩
    · have hz : acc.length < sizeLine := by rw [sizeLine_eq]; omega
      simp only [List.map_append, List.map_cons, List.map_nil, List.append_assoc, List.cons_append, List.nil_append] at e ⊢
      rw [lcD_cons]
      simp [ue_law_program_1, e0, e1, hz, wipeE]
      exact e
    · rcases List.mem_cons.mp m with rfl | m
      · exact ⟨k0, k1⟩
      · exact h2 j m
def keysL (m : Nat) : List Int := (List.range m).map fun k : Nat => -1 - (k : Int)
theorem keys_map (m : Nat) : (rngD 0 m).map (fun d => D.tup [.str (Str.ofString "key"), d]) = (keysL m).map slotD := by
  unfold rngD keysL
  rw [List.map_map, List.map_map]
  refine List.map_congr_left fun k _ => ?_
  show D.tup [.str (Str.ofString "key"), .int (0 + (k : Int))] = slotD (-1 - (k : Int))
  rw [Int.zero_add]
  exact keyD_slotD k
theorem keys_len (m : Nat) : (keysL m).length = m := by simp [keysL]
theorem keys_nd (m : Nat) : (keysL m).Nodup := by
  unfold keysL
  exact List.Pairwise.map (fun k : Nat => -1 - (k : Int)) (fun a b (h : a ≠ b) => by omega) List.nodup_range
theorem keys_ok (m : Nat) : ∀ i ∈ keysL m, okC m i := by
  intro i h
  unfold keysL at h
  obtain ⟨k, hk, rfl⟩ := List.mem_map.mp h
  have := List.mem_range.mp hk
  unfold okC
  omega
/-- slots, as they are drawn -/
structure SL (m : Nat) (is : List Int) : Prop where
  nd : is.Nodup
  ok : ∀ i ∈ is, okC m i
  cv : ∀ k : Nat, k < m → -1 - (k : Int) ∈ is
theorem sl_keys (m : Nat) : SL m (keysL m) := ⟨keys_nd m, keys_ok m, fun k hk => List.mem_map.mpr ⟨k, List.mem_range.mpr hk, rfl⟩⟩
theorem SL.add {m : Nat} {is : List Int} (h : SL m is) {b : Int} (hb : 0 ≤ b) (hb' : b ≤ 999999) (hn : b ∉ is) : SL m (is ++ [b]) := by
  refine ⟨List.nodup_append.mpr ⟨h.nd, by simp, fun x hx y hy => ?_⟩, fun i hi => ?_, fun k hk => List.mem_append_left _ (h.cv k hk)⟩
  · rw [List.mem_singleton.mp hy]
    exact fun e => hn (e ▸ hx)
  · rcases List.mem_append.mp hi with z | z
    · exact h.ok i z
    · rw [List.mem_singleton.mp z]
      exact ⟨.inl hb, hb'⟩
theorem boxes_loop (m : Nat) (x1 x2 x3 x4 : B) : ∀ (ds : List D) (w : Well) (is : List Int) (x5 x7 : B), SL m is → is.length + ds.length ≤ 6 → ∃ (w' : Well) (is' : List Int) (y5 y7 : B),
    forD (pName 5) b_law_program_3 ds [.own w.ds, x1, x2, x3, x4, x5, .own (is.map slotD), x7] = .nx [.own w'.ds, x1, x2, x3, x4, y5, .own (is'.map slotD), y7] ∧ SL m is' ∧ is'.length ≤ is.length + ds.length
  | [], w, is, x5, x7, h, _ => ⟨w, is, x5, x7, rfl, h, by simp⟩
  | d :: ds, w, is, x5, x7, h, hl => by
    rw [List.length_cons] at hl
    have l0 := w.lo (b := 1000000) (by decide)
    have l1 := w.hi (b := 1000000) (by decide)
    have e0 := dig w (b := 1000000) (by decide) (by decide)
    generalize w.fig 1000000 = r at *
    obtain ⟨t, w1, ht, e1⟩ := of_spec (w.aft 1000000) (ds := [.int 0, .int 0, .int 1, .int 2, .int r]) (by simp) (by simp)
    obtain ⟨k, rfl, k0, k1⟩ : ∃ k : Int, t = .int k ∧ 0 ≤ k ∧ k ≤ 999999 := by
      simp only [List.mem_cons, List.not_mem_nil, or_false] at ht
      rcases ht with rfl | rfl | rfl | rfl | rfl
      · exact ⟨0, rfl, by decide, by decide⟩
      · exact ⟨0, rfl, by decide, by decide⟩
      · exact ⟨1, rfl, by decide, by decide⟩
      · exact ⟨2, rfl, by decide, by decide⟩
      · exact ⟨r, rfl, by omega, by omega⟩
    have sk : D.tup [.str (Str.ofString "box"), .int k] = slotD k := by simp [slotD, k0]
    have gn : gNotIn (.tup [.str (Str.ofString "box"), .int k]) (.lst (is.map slotD)) = some (.dat (.bl (!decide (k ∈ is)))) := by
      rw [gNotIn_lst (by simp) (by
        rw [shp_lst, List.all_eq_true]
        intro d m
        obtain ⟨i, _, rfl⟩ := List.mem_map.mp m
        exact shn_mono (shn_slotD i) (by decide)), sk, inD_slotD]
    have hz : is.length < sizeLine := by rw [sizeLine_eq]; omega
    rw [forD_cons]
    by_cases q : k ∈ is
    · obtain ⟨w', is', y5, y7, e, h1, h2⟩ := boxes_loop m x1 x2 x3 x4 ds w1 is (.dat d) (.dat (.int k)) h (by omega)
      refine ⟨w', is', y5, y7, ?_, h1, by rw [List.length_cons]; omega⟩
      generalize is.map slotD = S at *
      simp [ub_law_program_3, e0, e1, gn, q, e]
    · obtain ⟨w', is', y5, y7, e, h1, h2⟩ := boxes_loop m x1 x2 x3 x4 ds w1 (is ++ [k]) (.dat d) (.dat (.int k)) (h.add k0 k1 q) (by rw [List.length_append, List.length_singleton]; omega)
      refine ⟨w', is', y5, y7, ?_, h1, by rw [List.length_append, List.length_singleton] at h2; rw [List.length_cons]; omega⟩
      rw [List.map_append, List.map_singleton, ← sk] at e
      have hz' : (is.map slotD).length < sizeLine := by rw [List.length_map]; exact hz
      generalize is.map slotD = S at *
      simp [ub_law_program_3, e0, e1, gn, q, hz']
      exact e
theorem program_spec (w : Well) : ∃ (ts : List Int) (ps : List Wb) (w' : Well), f_law_program [.own w.ds, .dat (.int 3), .dat (.int 6)] = .ok (.dat (prg ts ps)) [.own w'.ds, .un, .un] ∧ Prg ts ps := by
  have a0 := w.lo (b := 4) (by decide)
  have a1 := w.hi (b := 4) (by decide)
  have e1 := dig w (b := 4) (by decide) (by decide)
  obtain ⟨m, hm⟩ : ∃ m : Nat, w.fig 4 = (m : Int) := ⟨(w.fig 4).toNat, by omega⟩
  rw [hm] at e1 a1
  generalize w.aft 4 = w1 at *
  have hr : rng1 [.int (m : Int)] = some (rngD 0 m) := by
    have := rng1_ok (m : Int) (rngOk_of (by omega) (by omega))
    simpa using this
  obtain ⟨ts, w2, e2, tl, tr⟩ := tables_lc (.dat (.int 3)) (.dat (.int 6)) (.dat (.int (m : Int))) .un .un .un (rngD 0 m) w1 [] (by rw [rngD_length]; simp; omega)
  rw [rngD_length] at tl
  rw [List.nil_append, List.map_nil] at e2
  have lk := lc_map (ρ := [.own w2.ds, .dat (.int 3), .dat (.int 6), .dat (.int (m : Int)), .dat (.tup (ts.map .int)), .un, .un, .un]) (k := 5) (e := e_law_program_2) (g := fun d => D.tup [.str (Str.ofString "key"), d]) rfl (rngD 0 m) (fun d _ => by simp [ue_law_program_2]) (by rw [rngD_length, sizeLine_eq]; omega)
  rw [keys_map] at lk
  have b0 := w2.lo (b := 3) (by decide)
  have b1 := w2.hi (b := 3) (by decide)
  have e3 := dig w2 (b := 3) (by decide) (by decide)
  obtain ⟨n, hn⟩ : ∃ n : Nat, w2.fig 3 = (n : Int) := ⟨(w2.fig 3).toNat, by omega⟩
  rw [hn] at e3 b1
  generalize w2.aft 3 = w3 at *
  have hr2 : rng1 [.int (n : Int)] = some (rngD 0 n) := by
    have := rng1_ok (n : Int) (rngOk_of (by omega) (by omega))
    simpa using this
  obtain ⟨w4, is, y5, y7, e4, sl, il⟩ := boxes_loop m (.dat (.int 3)) (.dat (.int 6)) (.dat (.int (m : Int))) (.dat (.tup (ts.map .int))) (rngD 0 n) w3 (keysL m) .un .un (sl_keys m) (by rw [keys_len, rngD_length]; omega)
  rw [keys_len, rngD_length] at il
  -- the slots, one at least
  obtain ⟨w5, is5, e5, sl5, ne5, il5⟩ : ∃ (w5 : Well) (is5 : List Int), q_law_program_5 [.own w4.ds, .dat (.int 3), .dat (.int 6), .dat (.int (m : Int)), .dat (.tup (ts.map .int)), y5, .own (is.map slotD), y7] = .nx [.own w5.ds, .dat (.int 3), .dat (.int 6), .dat (.int (m : Int)), .dat (.tup (ts.map .int)), y5, .own (is5.map slotD), y7] ∧ SL m is5 ∧ is5 ≠ [] ∧ is5.length ≤ 6 := by
    have ge := gEq_nil (is.map slotD)
    cases is with
    | nil =>
      have c0 := w4.lo (b := 3) (by decide)
      have c1 := w4.hi (b := 3) (by decide)
      have e6 := dig w4 (b := 3) (by decide) (by decide)
      have m0 : m = 0 := by
        cases m with
        | zero => rfl
        | succ m => exact absurd (sl.cv m (Nat.lt_succ_self m)) List.not_mem_nil
      have sk : D.tup [.str (Str.ofString "box"), .int (w4.fig 3)] = slotD (w4.fig 3) := by simp [slotD, c0]
      refine ⟨w4.aft 3, [w4.fig 3], ?_, sl.add c0 (by omega) List.not_mem_nil, by simp, by simp⟩
      rw [List.map_singleton, ← sk]
      generalize w4.fig 3 = r at *
      have g0 : gEq (.lst []) (.lst []) = some (.dat (.bl true)) := gEq_nil []
      simp [e6, g0]
    | cons i is =>
      refine ⟨w4, i :: is, ?_, sl, by simp, by omega⟩
      have ge : gEq (.lst ((i :: is).map slotD)) (.lst []) = some (.dat (.bl false)) := ge
      generalize (i :: is).map slotD = S at *
      simp [ge]
  obtain ⟨ps, w6, e6, g⟩ := steps_spec w5 sl5.nd ne5 il5 (ts := ts) (by omega) tr (by rw [tl]; exact sl5.ok) (by rw [tl]; exact sl5.cv)
  refine ⟨ts, ps, w6, ?_, g⟩
  have pm : (3 : Int) + 1 = 4 := rfl
  rw [f_law_program, toF_at]
  show toR [0] 3 (m_law_program [.own w.ds, .dat (.int 3), .dat (.int 6), .un, .un, .un, .un, .un]) = _
  have s1 : q_law_program_1 [.own w.ds, .dat (.int 3), .dat (.int 6), .un, .un, .un, .un, .un] = .nx [.own w1.ds, .dat (.int 3), .dat (.int 6), .dat (.int (m : Int)), .un, .un, .un, .un] := by simp [e1]
  have s2 : q_law_program_2 [.own w1.ds, .dat (.int 3), .dat (.int 6), .dat (.int (m : Int)), .un, .un, .un, .un] = .nx [.own w2.ds, .dat (.int 3), .dat (.int 6), .dat (.int (m : Int)), .dat (.tup (ts.map .int)), .un, .un, .un] := by
    have gt : gTuple [.lst (ts.map .int)] = some (.dat (.tup (ts.map .int))) := rfl
    simp [hr, e2, wipeE, restE, gt]
  have s3 : q_law_program_3 [.own w2.ds, .dat (.int 3), .dat (.int 6), .dat (.int (m : Int)), .dat (.tup (ts.map .int)), .un, .un, .un] = .nx [.own w2.ds, .dat (.int 3), .dat (.int 6), .dat (.int (m : Int)), .dat (.tup (ts.map .int)), .un, .own ((keysL m).map slotD), .un] := by
    simp [hr, lk, wipeE, restE]
  have s4 : q_law_program_4 [.own w2.ds, .dat (.int 3), .dat (.int 6), .dat (.int (m : Int)), .dat (.tup (ts.map .int)), .un, .own ((keysL m).map slotD), .un] = .nx [.own w4.ds, .dat (.int 3), .dat (.int 6), .dat (.int (m : Int)), .dat (.tup (ts.map .int)), y5, .own (is.map slotD), y7] := by
    simp [e3, hr2, e4]
  have s6 : q_law_program_6 [.own w5.ds, .dat (.int 3), .dat (.int 6), .dat (.int (m : Int)), .dat (.tup (ts.map .int)), y5, .own (is5.map slotD), y7] = .rt (.dat (prg ts ps)) [.own w6.ds, .dat (.int 3), .dat (.int 6), .dat (.int (m : Int)), .dat (.tup (ts.map .int)), y5, .dat (.lst (is5.map slotD)), y7] := by
    generalize is5.map slotD = S at *
    simp [e_frzI, e6, prg]
  have all := seq_nx (f := q_law_program_1) s1 (seq_nx s2 (seq_nx s3 (seq_nx s4 (seq_nx e5 s6))))
  rw [m_law_program, all]
  simp [outs_cons, outs_nil]
end Law
set_option Elab.async false
set_option linter.all false
set_option maxRecDepth 100000
set_option maxHeartbeats 4000000
namespace Law
open PySem PySem.Spec L2 Dl
open PyProof.Rows hiding St
theorem two_rp {V k : Nat} {x y : D} (h : rpr V k x) (h' : rpr V k y) : rpr (2 * (V + 1)) (k + 1) (.tup [x, y]) := rpr_tup (fun d m => by
  simp only [List.mem_cons, List.not_mem_nil, or_false] at m
  rcases m with rfl | rfl
  · exact h
  · exact h') (Nat.le_refl _)
structure Th (d : D) : Prop where
  nc : niceB d = true
  pg : pgB d = true
  rp : rpr 42100 7 d
structure TL (L : List D) : Prop where
  nc : ∀ d ∈ L, niceB d = true
  st : ∀ d ∈ L, stB d = true
  rp : rpr 21007 6 (.tup L)
  rl : rpr 21007 6 (.lst L)
theorem TL.nice {L : List D} (h : TL L) : niceB (.tup L) = true := by
  rw [nice_tup, List.all_eq_true]
  exact h.nc
theorem TL.niceL {L : List D} (h : TL L) : niceB (.lst L) = true := by
  rw [nice_lst, List.all_eq_true]
  exact h.nc
theorem TL.all {L : List D} (h : TL L) : L.all stB = true := List.all_eq_true.mpr h.st
theorem tl_of {L : List D} {W k n : Nat} (h : ∀ d ∈ L, niceB d = true ∧ stB d = true ∧ rpr W k d) (hn : L.length ≤ n) (hb : n * (W + 1) ≤ 21007) (hk : k ≤ 5) : TL L :=
  ⟨fun d m => (h d m).1, fun d m => (h d m).2.1, (rpr_tup (fun d m => (h d m).2.2) hn).mono hb (by omega), (rpr_lst (fun d m => (h d m).2.2) hn).mono hb (by omega)⟩
theorem th_two {T S : List D} (hT : TL T) (hS : TL S) : Th (.tup [.tup T, .tup S]) :=
  ⟨by simp only [nice_tup, List.all_cons, List.all_nil, Bool.and_true, Bool.and_eq_true]; exact ⟨by simpa using hT.nice, by simpa using hS.nice⟩, hS.all, (two_rp hT.rp hS.rp).mono⟩
theorem cell_spec (ns : List Int) (k : Nat) : ∃ c : Int, f_law_cell_at [.dat (.scr (ns.map .int)), .dat (.int (k : Int))] = .ok (.dat (.int c)) [.un, .un] := by
  by_cases h : k < ns.length
  · have e : (k : Int) < (ns.length : Int) := by omega
    exact ⟨ns[k], by simp [f_law_cell_at, toF_at, m_law_cell_at, outs_cons, outs_nil, e, atI_nat', h]⟩
  · have e : ¬ (k : Int) < (ns.length : Int) := by omega
    exact ⟨0, by simp [f_law_cell_at, toF_at, m_law_cell_at, outs_cons, outs_nil, e]⟩
theorem rep5 (d : D) : gMul (.lst [d]) (.int 5) = some (.own [d, d, d, d, d]) := gMul_rep (k := 5) (by decide) (by decide) (by simp)
theorem th_prg {ts : List Int} {ps : List Wb} (g : Prg ts ps) : Th (prg ts ps) := by
  refine th_two (tl_of (W := 150) (k := 0) (n := 3) (fun d m => ?_) (by rw [List.length_map]; exact g.tl) (by decide) (by decide)) (tl_of (W := 606) (k := 2) (n := 6) (fun d m => ?_) (by rw [List.length_map]; exact g.le) (by decide) (by decide))
  · obtain ⟨t, ht, rfl⟩ := List.mem_map.mp m
    obtain ⟨h1, h2⟩ := g.tr t ht
    have e : (9 : Nat) < 10 ^ 41 := by decide
    exact ⟨by simp, rfl, rpr_int (by omega)⟩
  · obtain ⟨p, hp, rfl⟩ := List.mem_map.mp m
    have := g.tl
    exact ⟨nice_stp p, st_stp p, rpr_stp (g.ok p hp) (by omega)⟩
end Law
set_option Elab.async false
set_option linter.all false
set_option maxRecDepth 100000
namespace Dl
open PySem PySem.Spec L2
open PyProof.Rows hiding St
/-! ## typed results -/
inductive TR (α : Type) where
  | ok (a : α)
  | err (x : Exc)
  | stuck
def TR.bind {α β : Type} (r : TR α) (f : α → TR β) : TR β := match r with
  | .ok a => f a
  | .err x => .err x
  | .stuck => .stuck
@[simp] theorem tr_bind_ok {α β : Type} (a : α) (f : α → TR β) : (TR.ok a).bind f = f a := rfl
@[simp] theorem tr_bind_err {α β : Type} (x : Exc) (f : α → TR β) : (TR.err x : TR α).bind f = .err x := rfl
@[simp] theorem tr_bind_stuck {α β : Type} (f : α → TR β) : (TR.stuck : TR α).bind f = .stuck := rfl
/-- what a statement ends with -/
inductive TO (σ τ β : Type) where
  | nx (s : σ)
  | bk (s : τ)
  | ct (s : τ)
  | rt (v : β)
  | er (x : Exc)
  | stuck
section
variable {α σ σ' τ β : Type}
def TR.out (r : TR α) (f : α → TO σ τ β) : TO σ τ β := match r with
  | .ok a => f a
  | .err x => .er x
  | .stuck => .stuck
@[simp] theorem tr_out_ok (a : α) (f : α → TO σ τ β) : (TR.ok a).out f = f a := rfl
@[simp] theorem tr_out_err (x : Exc) (f : α → TO σ τ β) : (TR.err x : TR α).out f = .er x := rfl
@[simp] theorem tr_out_stuck (f : α → TO σ τ β) : (TR.stuck : TR α).out f = .stuck := rfl
def TO.then (o : TO σ τ β) (f : σ → TO σ' τ β) : TO σ' τ β := match o with
  | .nx s => f s
  | .bk s => .bk s
  | .ct s => .ct s
  | .rt v => .rt v
  | .er x => .er x
  | .stuck => .stuck
@[simp] theorem to_then_nx (s : σ) (f : σ → TO σ' τ β) : (TO.nx s).then f = f s := rfl
@[simp] theorem to_then_bk (s : τ) (f : σ → TO σ' τ β) : (TO.bk s).then f = .bk s := rfl
@[simp] theorem to_then_ct (s : τ) (f : σ → TO σ' τ β) : (TO.ct s).then f = .ct s := rfl
@[simp] theorem to_then_rt (v : β) (f : σ → TO σ' τ β) : (TO.rt v : TO σ τ β).then f = .rt v := rfl
@[simp] theorem to_then_er (x : Exc) (f : σ → TO σ' τ β) : (TO.er x : TO σ τ β).then f = .er x := rfl
@[simp] theorem to_then_stuck (f : σ → TO σ' τ β) : (TO.stuck : TO σ τ β).then f = .stuck := rfl
@[simp] theorem to_then_ite (c : Prop) [Decidable c] (a b : TO σ τ β) (f : σ → TO σ' τ β) : (if c then a else b).then f = if c then a.then f else b.then f := by split <;> rfl
/-- a def's end -/
def TO.ret (fz : σ → β) (o : TO σ τ β) : TR β := match o with
  | .nx s => .ok (fz s)
  | .rt v => .ok v
  | .er x => .err x
  | _ => .stuck
@[simp] theorem to_ret_nx (fz : σ → β) (s : σ) : (TO.nx s : TO σ τ β).ret fz = .ok (fz s) := rfl
@[simp] theorem to_ret_rt (fz : σ → β) (v : β) : (TO.rt v : TO σ τ β).ret fz = .ok v := rfl
@[simp] theorem to_ret_er (fz : σ → β) (x : Exc) : (TO.er x : TO σ τ β).ret fz = .err x := rfl
@[simp] theorem to_ret_stuck (fz : σ → β) : (TO.stuck : TO σ τ β).ret fz = .stuck := rfl
@[simp] theorem to_ret_ite (c : Prop) [Decidable c] (a b : TO σ τ β) (fz : σ → β) : (if c then a else b).ret fz = if c then a.ret fz else b.ret fz := by split <;> rfl
/-- a loop over a list -/
def forT (tb : α → σ → TO σ σ β) : List α → σ → TO σ τ β
  | [], s => .nx s
  | x :: xs, s => match tb x s with
    | .nx s' => forT tb xs s'
    | .ct s' => forT tb xs s'
    | .bk s' => .nx s'
    | .rt v => .rt v
    | .er x => .er x
    | .stuck => .stuck
/-- the same, one step: what the turn came to decides -/
def TO.turn (o : TO σ σ β) (k : σ → TO σ τ β) : TO σ τ β := match o with
  | .nx s' => k s'
  | .ct s' => k s'
  | .bk s' => .nx s'
  | .rt v => .rt v
  | .er x => .er x
  | .stuck => .stuck
@[simp] theorem to_turn_nx (s : σ) (k : σ → TO σ τ β) : (TO.nx s : TO σ σ β).turn k = k s := rfl
@[simp] theorem to_turn_ct (s : σ) (k : σ → TO σ τ β) : (TO.ct s : TO σ σ β).turn k = k s := rfl
@[simp] theorem to_turn_bk (s : σ) (k : σ → TO σ τ β) : (TO.bk s : TO σ σ β).turn k = .nx s := rfl
@[simp] theorem to_turn_rt (v : β) (k : σ → TO σ τ β) : (TO.rt v : TO σ σ β).turn k = .rt v := rfl
@[simp] theorem to_turn_er (x : Exc) (k : σ → TO σ τ β) : (TO.er x : TO σ σ β).turn k = .er x := rfl
@[simp] theorem to_turn_stuck (k : σ → TO σ τ β) : (TO.stuck : TO σ σ β).turn k = .stuck := rfl
@[simp] theorem to_turn_ite (c : Prop) [Decidable c] (a b : TO σ σ β) (k : σ → TO σ τ β) : (if c then a else b).turn k = if c then a.turn k else b.turn k := by split <;> rfl
@[simp] theorem forT_nil (tb : α → σ → TO σ σ β) (s : σ) : (forT tb [] s : TO σ τ β) = .nx s := rfl
theorem forT_cons (tb : α → σ → TO σ σ β) (x : α) (xs : List α) (s : σ) : (forT tb (x :: xs) s : TO σ τ β) = (tb x s).turn fun s' => forT tb xs s' := by
  show (match tb x s with | .nx s' => forT tb xs s' | .ct s' => forT tb xs s' | .bk s' => .nx s' | .rt v => .rt v | .er x => .er x | .stuck => .stuck) = _
  cases tb x s <;> rfl
end
/-! ## what is known of the names -/
abbrev PE := List (Option B)
def Mat (ps : PE) (ρ : Ev) : Prop := ρ.length = ps.length ∧ ∀ (i : Nat) (b : B), ps[i]? = some (some b) → ρ[i]? = some b
section
variable {ps qs : PE} {ρ ρ' : Ev} {i : Nat} {b : B} {o : Option B}
theorem Mat.get (h : Mat ps ρ) (e : ps[i]? = some (some b)) : ρ[i]? = some b := h.2 i b e
theorem Mat.set (h : Mat ps ρ) : Mat (ps.set i (some b)) (ρ.set i b) := by
  refine ⟨by simp [h.1], fun j c e => ?_⟩
  by_cases z : i = j
  · subst z
    by_cases l : i < ps.length
    · rw [List.getElem?_set_self l] at e
      cases e
      exact List.getElem?_set_self (by rw [h.1]; exact l)
    · rw [List.getElem?_eq_none (by simp; omega)] at e
      cases e
  · rw [List.getElem?_set_ne z] at e ⊢
    exact h.2 j c e
theorem Mat.junk (h : Mat ps ρ) : Mat (ps.set i none) (ρ.set i b) := by
  refine ⟨by simp [h.1], fun j c e => ?_⟩
  by_cases z : i = j
  · subst z
    by_cases l : i < ps.length
    · rw [List.getElem?_set_self l] at e
      cases e
    · rw [List.getElem?_eq_none (by simp; omega)] at e
      cases e
  · rw [List.getElem?_set_ne z] at e ⊢
    exact h.2 j c e
/-- what the first knows, the second knows, too -/
def LeP : PE → PE → Prop
  | [], ps => ps = []
  | none :: qs, ps => ∃ o ps', ps = o :: ps' ∧ LeP qs ps'
  | some b :: qs, ps => ∃ ps', ps = some b :: ps' ∧ LeP qs ps'
theorem le_nil : LeP [] [] := rfl
theorem le_no (h : LeP qs ps) : LeP (none :: qs) (o :: ps) := ⟨o, ps, rfl, h⟩
theorem le_so (h : LeP qs ps) : LeP (some b :: qs) (some b :: ps) := ⟨ps, rfl, h⟩
theorem LeP.refl : ∀ ps : PE, LeP ps ps
  | [] => le_nil
  | none :: ps => le_no (LeP.refl ps)
  | some b :: ps => le_so (LeP.refl ps)
theorem LeP.len : ∀ {qs ps : PE}, LeP qs ps → qs.length = ps.length
  | [], ps, h => by cases (show ps = [] from h); rfl
  | none :: qs, _, h => by
    obtain ⟨o, ps', rfl, h⟩ := h
    simp [h.len]
  | some b :: qs, _, h => by
    obtain ⟨ps', rfl, h⟩ := h
    simp [h.len]
theorem LeP.at : ∀ {qs ps : PE} {i : Nat} {b : B}, LeP qs ps → qs[i]? = some (some b) → ps[i]? = some (some b)
  | [], ps, i, b, h, e => by simp at e
  | none :: qs, _, 0, b, h, e => by simp at e
  | none :: qs, _, i + 1, b, h, e => by
    obtain ⟨o, ps', rfl, h⟩ := h
    simpa using h.at (by simpa using e)
  | some c :: qs, _, 0, b, h, e => by
    obtain ⟨ps', rfl, h⟩ := h
    simpa using e
  | some c :: qs, _, i + 1, b, h, e => by
    obtain ⟨ps', rfl, h⟩ := h
    simpa using h.at (by simpa using e)
theorem Mat.le (h : Mat ps ρ) (l : LeP qs ps) : Mat qs ρ := ⟨by rw [h.1, l.len], fun i b e => h.2 i b (l.at e)⟩
end
/-! ## expressions -/
section
variable {α β γ δ : Type} {pe : Ev → Prop} {ps qs : PE}
def Sm (pe : Ev → Prop) (x : R (β × Ev)) (r : TR α) (b : α → β) (q : α → PE) : Prop := match r with
  | .ok a => ∃ ρ', x = .ok (b a, ρ') ∧ Mat (q a) ρ'
  | .err e => ∃ ρ', x = .err e ρ' ∧ pe ρ'
  | .stuck => True
def J (pe : Ev → Prop) (ps : PE) (f : Ev → R (β × Ev)) (r : TR α) (b : α → β) (q : α → PE) : Prop := ∀ ρ, Mat ps ρ → Sm pe (f ρ) r b q
/-- it is told at once, and nothing changes -/
def JP (ps : PE) (f : Ev → R (β × Ev)) (b : β) : Prop := ∀ ρ, Mat ps ρ → f ρ = .ok (b, ρ)
theorem JP.j {f : Ev → R (β × Ev)} {b : β} (h : JP ps f b) : J pe ps f (.ok ()) (fun _ => b) (fun _ => ps) := fun ρ m => ⟨ρ, h ρ m, m⟩
theorem j_val {f : Ev → R (β × Ev)} {v : α} {b : α → β} (h : JP ps f (b v)) : J pe ps f (.ok v) b (fun _ => ps) := fun ρ m => ⟨ρ, h ρ m, m⟩
theorem J.le {f : Ev → R (β × Ev)} {r : TR α} {b : α → β} {q q' : α → PE} (h : J pe ps f r b q) (l : ∀ a, LeP (q' a) (q a)) : J pe ps f r b q' := fun ρ m => by
  have z := h ρ m
  cases r with
  | ok a =>
    obtain ⟨ρ', e, m'⟩ := z
    exact ⟨ρ', e, m'.le (l a)⟩
  | err x => exact z
  | stuck => trivial
/-- another typed value for the same -/
theorem J.map {f : Ev → R (β × Ev)} {r : TR α} {b : α → β} {q : α → PE} {g : α → γ} {b' : γ → β} {q' : γ → PE} (h : J pe ps f r b q) (hb : ∀ a, b' (g a) = b a) (hq : ∀ a, LeP (q' (g a)) (q a)) : J pe ps f (r.bind fun a => .ok (g a)) b' q' := fun ρ m => by
  have z := h ρ m
  cases r with
  | ok a =>
    obtain ⟨ρ', e, m'⟩ := z
    exact ⟨ρ', by rw [e, hb a], m'.le (hq a)⟩
  | err x => exact z
  | stuck => trivial
theorem Sm.bind {x : R (β × Ev)} {r : TR α} {b : α → β} {q : α → PE} {k : β × Ev → R (γ × Ev)} {r' : α → TR δ} {b' : δ → γ} {q' : δ → PE} (h : Sm pe x r b q) (hk : ∀ a ρ', Mat (q a) ρ' → Sm pe (k (b a, ρ')) (r' a) b' q') : Sm pe (x >>= k) (r.bind r') b' q' := by
  cases r with
  | ok a =>
    obtain ⟨ρ', e, m'⟩ := h
    rw [e]
    exact hk a ρ' m'
  | err e =>
    obtain ⟨ρ', e, m'⟩ := h
    rw [e]
    exact ⟨ρ', rfl, m'⟩
  | stuck => trivial
theorem Sm.map {x : R (β × Ev)} {r : TR α} {b : α → β} {q : α → PE} {k : β × Ev → R (γ × Ev)} {b' : α → γ} {q' : α → PE} (h : Sm pe x r b q) (hk : ∀ a ρ', Mat (q a) ρ' → ∃ ρ2, k (b a, ρ') = .ok (b' a, ρ2) ∧ Mat (q' a) ρ2) : Sm pe (x >>= k) r b' q' := by
  cases r with
  | ok a =>
    obtain ⟨ρ', e, m'⟩ := h
    rw [e]
    exact hk a ρ' m'
  | err e =>
    obtain ⟨ρ', e, m'⟩ := h
    rw [e]
    exact ⟨ρ', rfl, m'⟩
  | stuck => trivial
/-- an operation's end -/
def Fin1 (x : Option γ) (r : TR δ) (b : δ → γ) : Prop := match r with
  | .ok v => x = some (b v)
  | .err _ => False
  | .stuck => True
theorem Sm.fin {x : Option γ} {r : TR δ} {b : δ → γ} {q : δ → PE} {ρ : Ev} (h : Fin1 x r b) (m : ∀ v, Mat (q v) ρ) : Sm pe (ofO x >>= fun v => .ok (v, ρ)) r b q := by
  cases r with
  | ok v =>
    rw [show x = some (b v) from h]
    exact ⟨ρ, rfl, m v⟩
  | err x => exact h.elim
  | stuck => trivial
/-! ### names -/
theorem jp_c {d : D} : JP ps (cC d) (.dat d) := fun _ _ => rfl
theorem jp_n (i : Nat) {d : D} (e : ps[i]? = some (some (.dat d))) : JP ps (cN i) (.dat d) := fun ρ m => by
  unfold cN
  rw [m.get e]
theorem jp_no (i : Nat) {d : D} (e : ps[i]? = some (some (.dat d))) : JP ps (cNO i) (.val d) := fun ρ m => by
  unfold cNO
  rw [m.get e]
def mov : B → Bool
  | .un => false
  | .dat _ => false
  | _ => true
theorem jp_nv (i : Nat) {b : B} (e : ps[i]? = some (some b)) (h : mov b = true) : JP ps (cNO i) (.var i) := fun ρ m => by
  unfold cNO
  rw [m.get e]
  cases b <;> first | rfl | cases h
/-! ### operands -/
theorem jp_o {f : FE} {b : B} {d : D} (h : JP ps f b) (e : frz b = some d) : JP ps (cO f) (.val d) := fun ρ m => by
  show (f ρ >>= _) = _
  rw [h ρ m]
  show (ofO (frz b) >>= _) = _
  rw [e]
  rfl
theorem j_o {f : FE} {r : TR α} {b : α → B} {q : α → PE} {d : α → D} (h : J pe ps f r b q) (e : ∀ a, frz (b a) = some (d a)) : J pe ps (cO f) r (fun a => .val (d a)) q := fun ρ m =>
  (h ρ m).map fun a ρ' m' => ⟨ρ', by show (ofO (frz (b a)) >>= _) = _; rw [e a]; rfl, m'⟩
theorem jp_d {f : FE} {b : B} {d : D} (h : JP ps f b) (e : frz b = some d) : JP ps (cD f) (.dat d) := fun ρ m => by
  show (f ρ >>= _) = _
  rw [h ρ m]
  show (ofO (frz b) >>= _) = _
  rw [e]
  rfl
/-- an operand's datum -/
def rdP (ps : PE) : Opd → Option D
  | .val d => some d
  | .var i => match ps[i]? with
    | some (some b) => rdB b
    | _ => none
theorem rdP_ok {ρ : Ev} {o : Opd} {d : D} (m : Mat ps ρ) (e : rdP ps o = some d) : rd ρ o = some d := by
  cases o with
  | val d' => exact e
  | var i =>
    have e2 : (match ps[i]? with | some (some b) => rdB b | _ => none) = some d := e
    show (match ρ[i]? with | some b => rdB b | none => none) = some d
    cases q : ps[i]? with
    | none =>
      rw [q] at e2
      cases e2
    | some o =>
      cases o with
      | none =>
        rw [q] at e2
        cases e2
      | some b =>
        rw [q] at e2
        rw [m.get q]
        exact e2
def rdsP (ps : PE) : List Opd → Option (List D)
  | [] => some []
  | o :: os => match rdP ps o, rdsP ps os with
    | some d, some ds => some (d :: ds)
    | _, _ => none
theorem rdsP_ok {ρ : Ev} (m : Mat ps ρ) : ∀ {os : List Opd} {ds : List D}, rdsP ps os = some ds → rds ρ os = some ds
  | [], ds, e => e
  | o :: os, ds, e => by
    unfold rdsP at e
    unfold rds
    cases q1 : rdP ps o with
    | none =>
      rw [q1] at e
      cases e
    | some d =>
      cases q2 : rdsP ps os with
      | none =>
        rw [q1, q2] at e
        cases e
      | some es =>
        rw [q1, q2] at e
        rw [rdP_ok m q1, rdsP_ok m q2]
        exact e
/-! ### rows of operands -/
theorem jp_anil : JP ps aNil [] := fun _ _ => rfl
theorem jp_acons {f : FO} {g : FA} {o : Opd} {os : List Opd} (h : JP ps f o) (k : JP ps g os) : JP ps (aCons f g) (o :: os) := fun ρ m => by
  show (f ρ >>= _) = _
  rw [h ρ m]
  show (g ρ >>= _) = _
  rw [k ρ m]
  rfl
/-- the first draws, the others don't -/
theorem j_acons1 {f : FO} {g : FA} {r : TR α} {o : α → Opd} {os : α → List Opd} {q : α → PE} (h : J pe ps f r o q) (k : ∀ a, JP (q a) g (os a)) : J pe ps (aCons f g) r (fun a => o a :: os a) q := fun ρ m =>
  (h ρ m).map fun a ρ' m' => ⟨ρ', by show (g ρ' >>= _) = _; rw [k a ρ' m']; rfl, m'⟩
theorem j_acons3 {f : FO} {g : FA} {r : TR α} {o : α → Opd} {q : α → PE} {r2 : α → TR γ} {os : α → γ → List Opd} {q2 : α → γ → PE} {os' : δ → List Opd} {q' : δ → PE} (v : α → γ → δ) (h : J pe ps f r o q) (k : ∀ a, J pe (q a) g (r2 a) (os a) (q2 a)) (ho : ∀ a c, os' (v a c) = o a :: os a c) (hq : ∀ a c, q' (v a c) = q2 a c) :
    J pe ps (aCons f g) (r.bind fun a => (r2 a).bind fun c => .ok (v a c)) os' q' := fun ρ m =>
  (h ρ m).bind fun a ρ' m' => (k a ρ' m').bind fun c ρ2 m2 => ⟨ρ2, by rw [ho a c], by rw [hq a c]; exact m2⟩
/-! ### operations -/
theorem jp_c1 {g : D → Option B} {f : FO} {o : Opd} {d : D} {b : B} (h : JP ps f o) (hd : rdP ps o = some d) (hg : g d = some b) : JP ps (c1 g f) b := fun ρ m => by
  show (f ρ >>= _) = _
  rw [h ρ m]
  show (ofO (rd ρ o) >>= _) = _
  rw [rdP_ok m hd]
  show (ofO (g d) >>= _) = _
  rw [hg]
  rfl
theorem c2_row (g : D → D → Option B) (fa fb : FO) (ρ : Ev) : c2 g fa fb ρ = (aCons fa (aCons fb aNil) ρ >>= fun p => match p.1 with | [o, o'] => ofO (rd p.2 o) >>= fun d => ofO (rd p.2 o') >>= fun d' => ofO (g d d') >>= fun b => .ok (b, p.2) | _ => .stuck) := by
  show (fa ρ >>= _) = ((fa ρ >>= _) >>= _)
  cases fa ρ with
  | ok p =>
    show (fb p.2 >>= _) = (((fb p.2 >>= _) >>= _) >>= _)
    cases fb p.2 <;> rfl
  | err x ρ1 => rfl
  | stuck => rfl
theorem j_c2f {g : D → D → Option B} {fa fb : FO} {oa ob : Opd} {d d' : D} {rc : TR δ} {b : δ → B} (ha : JP ps fa oa) (hb : JP ps fb ob) (h1 : rdP ps oa = some d) (h2 : rdP ps ob = some d') (hg : Fin1 (g d d') rc b) : J pe ps (c2 g fa fb) rc b (fun _ => ps) := fun ρ m => by
  show Sm pe (fa ρ >>= _) _ _ _
  rw [ha ρ m]
  show Sm pe (fb ρ >>= _) _ _ _
  rw [hb ρ m]
  show Sm pe (ofO (rd ρ oa) >>= _) _ _ _
  rw [rdP_ok m h1]
  show Sm pe (ofO (rd ρ ob) >>= _) _ _ _
  rw [rdP_ok m h2]
  exact Sm.fin hg fun _ => m
theorem j_c2 {g : D → D → Option B} {fa fb : FO} {r : TR α} {oa ob : α → Opd} {q : α → PE} {d d' : α → D} {b : α → B} (h : J pe ps (aCons fa (aCons fb aNil)) r (fun a => [oa a, ob a]) q) (h1 : ∀ a, rdP (q a) (oa a) = some (d a)) (h2 : ∀ a, rdP (q a) (ob a) = some (d' a)) (hg : ∀ a, g (d a) (d' a) = some (b a)) : J pe ps (c2 g fa fb) r b q := fun ρ m => by
  rw [c2_row]
  refine (h ρ m).map fun a ρ' m' => ⟨ρ', ?_, m'⟩
  show (ofO (rd ρ' (oa a)) >>= _) = _
  rw [rdP_ok m' (h1 a)]
  show (ofO (rd ρ' (ob a)) >>= _) = _
  rw [rdP_ok m' (h2 a)]
  show (ofO (g (d a) (d' a)) >>= _) = _
  rw [hg a]
  rfl
theorem j_c2e {g : D → D → Option B} {fa fb : FO} {r : TR α} {oa ob : α → Opd} {q : α → PE} {d d' : α → D} {rc : α → TR δ} {b : δ → B} {q' : δ → PE} (h : J pe ps (aCons fa (aCons fb aNil)) r (fun a => [oa a, ob a]) q) (h1 : ∀ a, rdP (q a) (oa a) = some (d a)) (h2 : ∀ a, rdP (q a) (ob a) = some (d' a)) (hg : ∀ a, Fin1 (g (d a) (d' a)) (rc a) b) (hq : ∀ a v, LeP (q' v) (q a)) : J pe ps (c2 g fa fb) (r.bind rc) b q' := fun ρ m => by
  rw [c2_row]
  refine (h ρ m).bind fun a ρ' m' => ?_
  show Sm pe (ofO (rd ρ' (oa a)) >>= _) _ _ _
  rw [rdP_ok m' (h1 a)]
  show Sm pe (ofO (rd ρ' (ob a)) >>= _) _ _ _
  rw [rdP_ok m' (h2 a)]
  exact Sm.fin (hg a) fun v => m'.le (hq a v)
theorem jp_cb {g : List D → Option B} {f : FA} {os : List Opd} {ds : List D} {b : B} (h : JP ps f os) (hd : rdsP ps os = some ds) (hg : g ds = some b) : JP ps (cCB g f) b := fun ρ m => by
  show (f ρ >>= _) = _
  rw [h ρ m]
  show (ofO (rds ρ os) >>= _) = _
  rw [rdsP_ok m hd]
  show (ofO (g ds) >>= _) = _
  rw [hg]
  rfl
theorem j_cb {g : List D → Option B} {f : FA} {r : TR α} {os : α → List Opd} {q : α → PE} {ds : α → List D} {b : α → B} (h : J pe ps f r os q) (hd : ∀ a, rdsP (q a) (os a) = some (ds a)) (hg : ∀ a, g (ds a) = some (b a)) : J pe ps (cCB g f) r b q := fun ρ m =>
  (h ρ m).map fun a ρ' m' => ⟨ρ', by
    show (ofO (rds ρ' (os a)) >>= _) = _
    rw [rdsP_ok m' (hd a)]
    show (ofO (g (ds a)) >>= _) = _
    rw [hg a]
    rfl, m'⟩
theorem jp_tup {f : FA} {os : List Opd} {ds : List D} (h : JP ps f os) (hd : vals os = some ds) (hl : ds.length ≤ sizeLine) : JP ps (cTup f) (.dat (.tup ds)) := fun ρ m => by
  show (f ρ >>= _) = _
  rw [h ρ m]
  show (ofO (vals os) >>= _) = _
  rw [hd]
  exact if_pos hl
theorem jp_lst {f : FA} {os : List Opd} {ds : List D} (h : JP ps f os) (hd : vals os = some ds) (hl : ds.length ≤ sizeLine) : JP ps (cLst f) (.own ds) := fun ρ m => by
  show (f ρ >>= _) = _
  rw [h ρ m]
  show (ofO (vals os) >>= _) = _
  rw [hd]
  exact if_pos hl
/-! ### slices -/
/-! ### truths -/
theorem j_t {f : FE} {r : TR α} {c : α → Bool} {q : α → PE} (h : J pe ps f r (fun a => .dat (.bl (c a))) q) : J pe ps (cT f) r c q := fun ρ m =>
  (h ρ m).map fun a ρ' m' => ⟨ρ', rfl, m'⟩
/-- both may fail -/
theorem j_andT2 {f g : FT} {r1 r : TR Bool} (h : J pe ps f r1 (fun b => b) (fun _ => ps)) (k : J pe ps g r (fun b => b) (fun _ => ps)) : J pe ps (cAndT f g) (r1.bind fun c => if c = true then r else .ok false) (fun b => b) (fun _ => ps) := fun ρ m =>
  (h ρ m).bind fun c ρ' m' => by
    show Sm pe (if c = true then g ρ' else R.ok (false, ρ')) _ _ _
    cases c with
    | true => rw [if_pos rfl, if_pos rfl]; exact k ρ' m'
    | false => exact ⟨ρ', rfl, m'⟩
/-! the same, as values -/
end
end Dl
set_option Elab.async false
set_option linter.all false
set_option maxRecDepth 100000
namespace Dl
open PySem PySem.Spec L2
open PyProof.Rows hiding St
section
variable {α β γ δ σ σ' τ η : Type} {pe : Ev → Prop} {ps qs : PE}
theorem Mat.tail {o : Option B} {b : B} {ρ : Ev} (h : Mat (o :: ps) (b :: ρ)) : Mat ps ρ := ⟨by simpa using h.1, fun i c e => by simpa using h.2 (i + 1) c (by simpa using e)⟩
theorem Mat.len {ρ : Ev} (h : Mat ps ρ) : ρ.length = ps.length := h.1
/-! ## arguments handed over and given back -/
def takeP : List Opd → PE → Option (List B × PE)
  | [], ps => some ([], ps)
  | .val d :: os, ps => (takeP os ps).map fun p => (.dat d :: p.1, p.2)
  | .var i :: os, ps => match ps[i]? with
    | some (some b) => (takeP os (ps.set i (some .un))).map fun p => (b :: p.1, p.2)
    | _ => none
def putP : List Opd → List B → PE → Option PE
  | [], [], ps => some ps
  | .val _ :: os, _ :: bs, ps => putP os bs ps
  | .var i :: os, b :: bs, ps => (putP os bs ps).map fun p => p.set i (some b)
  | _, _, _ => none
def junkP : List Opd → PE → PE
  | [], ps => ps
  | .val _ :: os, ps => junkP os ps
  | .var i :: os, ps => (junkP os ps).set i none
theorem takeP_ok : ∀ {os : List Opd} {ps ps' : PE} {bs : List B} {ρ : Ev}, Mat ps ρ → takeP os ps = some (bs, ps') → bs.length = os.length ∧ ∃ ρ', takeArgs os ρ = some (bs, ρ') ∧ Mat ps' ρ'
  | [], ps, ps', bs, ρ, m, e => by
    cases e
    exact ⟨rfl, ρ, rfl, m⟩
  | .val d :: os, ps, ps', bs, ρ, m, e => by
    have e2 : (takeP os ps).map (fun p => (B.dat d :: p.1, p.2)) = some (bs, ps') := e
    cases q : takeP os ps with
    | none => rw [q] at e2; cases e2
    | some p =>
      obtain ⟨cs, qs⟩ := p
      rw [q] at e2
      cases e2
      obtain ⟨l, ρ', e3, m'⟩ := takeP_ok m q
      refine ⟨by simp [l], ρ', ?_, m'⟩
      show (takeArgs os ρ).map _ = _
      rw [e3]
      rfl
  | .var i :: os, ps, ps', bs, ρ, m, e => by
    have e2 : (match ps[i]? with | some (some b) => (takeP os (ps.set i (some .un))).map fun p => (b :: p.1, p.2) | _ => none) = some (bs, ps') := e
    cases q0 : ps[i]? with
    | none => rw [q0] at e2; cases e2
    | some o =>
      cases o with
      | none => rw [q0] at e2; cases e2
      | some b =>
        rw [q0] at e2
        have e4 : (takeP os (ps.set i (some .un))).map (fun p => (b :: p.1, p.2)) = some (bs, ps') := e2
        cases q : takeP os (ps.set i (some .un)) with
        | none => rw [q] at e4; cases e4
        | some p =>
          obtain ⟨cs, qs⟩ := p
          rw [q] at e4
          cases e4
          obtain ⟨l, ρ', e3, m'⟩ := takeP_ok (ρ := ρ.set i .un) m.set q
          refine ⟨by simp [l], ρ', ?_, m'⟩
          show (ρ[i]?).bind _ = _
          rw [m.get q0]
          show (takeArgs os (ρ.set i .un)).map _ = _
          rw [e3]
          rfl
theorem putP_ok : ∀ {os : List Opd} {bs : List B} {ps ps' : PE} {ρ : Ev}, Mat ps ρ → putP os bs ps = some ps' → ∃ ρ', putArgs os bs ρ = some ρ' ∧ Mat ps' ρ'
  | [], [], ps, ps', ρ, m, e => by
    cases e
    exact ⟨ρ, rfl, m⟩
  | .val d :: os, b :: bs, ps, ps', ρ, m, e => putP_ok (os := os) (bs := bs) m e
  | .var i :: os, b :: bs, ps, ps', ρ, m, e => by
    have e2 : (putP os bs ps).map (fun p => p.set i (some b)) = some ps' := e
    cases q : putP os bs ps with
    | none => rw [q] at e2; cases e2
    | some p =>
      rw [q] at e2
      cases e2
      obtain ⟨ρ', e3, m'⟩ := putP_ok m q
      refine ⟨ρ'.set i b, ?_, m'.set⟩
      show (putArgs os bs ρ).map _ = _
      rw [e3]
      rfl
  | [], b :: bs, ps, ps', ρ, m, e => by cases e
  | .val d :: os, [], ps, ps', ρ, m, e => by cases e
  | .var i :: os, [], ps, ps', ρ, m, e => by cases e
theorem putP_er : ∀ {os : List Opd} {bs : List B} {ps : PE} {ρ : Ev}, Mat ps ρ → bs.length = os.length → ∃ ρ', putArgs os bs ρ = some ρ' ∧ Mat (junkP os ps) ρ'
  | [], [], ps, ρ, m, e => ⟨ρ, rfl, m⟩
  | .val d :: os, b :: bs, ps, ρ, m, e => putP_er (os := os) (bs := bs) m (Nat.succ.inj e)
  | .var i :: os, b :: bs, ps, ρ, m, e => by
    obtain ⟨ρ', e3, m'⟩ := putP_er (os := os) (bs := bs) m (Nat.succ.inj e)
    refine ⟨ρ'.set i b, ?_, m'.junk⟩
    show (putArgs os bs ρ).map _ = _
    rw [e3]
    rfl
/-- the def G, handed bs, does what t says -/
def FL (G : FG) (bs : List B) (t : TR α) (b : α → B) (os : α → List B) : Prop := match t with
  | .ok v => G bs = .ok (b v) (os v)
  | .err x => ∃ outs, outs.length = bs.length ∧ G bs = .er x outs
  | .stuck => True
theorem FL.eq {G : FG} {bs : List B} {t : TR α} {b : α → B} {os : α → List B} {v : α} (h : FL G bs t b os) (e : t = .ok v) : G bs = .ok (b v) (os v) := by
  rw [e] at h
  exact h
theorem FL.er {G : FG} {bs : List B} {t : TR α} {b : α → B} {os : α → List B} {x : Exc} (h : FL G bs t b os) (e : t = .err x) : ∃ outs, outs.length = bs.length ∧ G bs = .er x outs := by
  rw [e] at h
  exact h
theorem FL.of {G : FG} {bs : List B} {b : α → B} {os : α → List B} {v : α} (h : G bs = .ok (b v) (os v)) : FL G bs (.ok v) b os := h
/-- the same, told otherwise -/
theorem FL.to {G : FG} {bs : List B} {t t' : TR α} {b : α → B} {os : α → List B} (h : FL G bs t b os) (e : t = t') : FL G bs t' b os := e ▸ h
theorem call_end {G : FG} {os : List Opd} {bs : List B} {q0 q1 : PE} {t : TR δ} {b : δ → B} {outs : δ → List B} {q2 q' : δ → PE} {ρ : Ev} (m : Mat q0 ρ) (ht : takeP os q0 = some (bs, q1)) (hF : FL G bs t b outs) (hp : ∀ v, putP os (outs v) q1 = some (q2 v)) (hq : ∀ v, LeP (q' v) (q2 v)) (he : ∀ ρ, Mat (junkP os q1) ρ → pe ρ) :
    Sm pe (ofO (takeArgs os ρ) >>= fun q => match G q.1 with
      | .ok ret outs => ofO (putArgs os outs q.2) >>= fun ρ' => .ok (ret, ρ')
      | .er x outs => match putArgs os outs q.2 with
        | some ρ' => .err x ρ'
        | none => .stuck
      | .stuck => .stuck) t b q' := by
  obtain ⟨l, ρ1, e1, m1⟩ := takeP_ok m ht
  rw [e1]
  cases t with
  | ok v =>
    obtain ⟨ρ2, e2, m2⟩ := putP_ok m1 (hp v)
    refine ⟨ρ2, ?_, m2.le (hq v)⟩
    show (match G bs with | .ok ret outs => _ | .er x outs => _ | .stuck => _) = _
    rw [show G bs = .ok (b v) (outs v) from hF]
    show (ofO (putArgs os (outs v) ρ1) >>= _) = _
    rw [e2]
    rfl
  | err x =>
    obtain ⟨os', l2, e3⟩ := hF
    obtain ⟨ρ2, e2, m2⟩ := putP_er m1 (l2.trans l)
    refine ⟨ρ2, ?_, he ρ2 m2⟩
    show (match G bs with | .ok ret outs => _ | .er x outs => _ | .stuck => _) = _
    rw [e3]
    show (match putArgs os os' ρ1 with | some ρ' => _ | none => _) = _
    rw [e2]
  | stuck => trivial
theorem jp_call {G : FG} {f : FA} {os : List Opd} {bs : List B} {q1 : PE} {t : TR δ} {b : δ → B} {outs : δ → List B} {q2 q' : δ → PE} (h : JP ps f os) (ht : takeP os ps = some (bs, q1)) (hF : FL G bs t b outs) (hp : ∀ v, putP os (outs v) q1 = some (q2 v)) (hq : ∀ v, LeP (q' v) (q2 v)) (he : ∀ ρ, Mat (junkP os q1) ρ → pe ρ) : J pe ps (cCall G f) t b q' := fun ρ m => by
  show Sm pe (f ρ >>= _) _ _ _
  rw [h ρ m]
  exact call_end m ht hF hp hq he
/-! ## lists changed in their places -/
theorem ownL_at {ρ : Ev} {i : Nat} {ds : List D} (m : Mat ps ρ) (e : ps[i]? = some (some (.own ds))) : ownL ρ i = some ds := by
  unfold ownL
  rw [m.get e]
def appT (xs : List α) (x : α) : TR (List α) := if xs.length < sizeLine then .ok (xs ++ [x]) else .stuck
theorem app_end {e : α → D} {i : Nat} {xs : List α} {x : α} {ρ : Ev} (m : Mat ps ρ) (hi : ps[i]? = some (some (.own (xs.map e)))) : Sm pe (ofO (ownL ρ i) >>= fun ds => if ds.length < sizeLine then .ok (B.dat .non, ρ.set i (.own (ds ++ [e x]))) else .stuck) (appT xs x) (fun _ => .dat .non) (fun ys => ps.set i (some (.own (ys.map e)))) := by
  rw [ownL_at m hi]
  show Sm pe (if (xs.map e).length < sizeLine then .ok (B.dat .non, ρ.set i (.own (xs.map e ++ [e x]))) else .stuck) _ _ _
  unfold appT
  by_cases c : xs.length < sizeLine
  · rw [if_pos c, if_pos (by simpa using c)]
    refine ⟨_, rfl, ?_⟩
    show Mat (ps.set i (some (.own ((xs ++ [x]).map e)))) _
    rw [List.map_append]
    exact m.set
  · rw [if_neg c]
    trivial
theorem j_append (i : Nat) {e : α → D} {f : FE} {b : B} {xs : List α} {x : α} (hi : ps[i]? = some (some (.own (xs.map e)))) (h : JP ps f b) (hb : frz b = some (e x)) : J pe ps (cAppend i f) (appT xs x) (fun _ => .dat .non) (fun ys => ps.set i (some (.own (ys.map e)))) := fun ρ m => by
  show Sm pe (ofO (ownL ρ i) >>= _) _ _ _
  rw [ownL_at m hi]
  show Sm pe (cD f ρ >>= _) _ _ _
  rw [jp_d h hb ρ m]
  exact app_end m hi
/-! ## what a loop goes over -/
theorem jp_seq {f : FO} {d : D} {ds : List D} (h : JP ps f (.val d)) (e : seqOf d = some ds) : JP ps (iSeq f) ds := fun ρ m => by
  show (f ρ >>= _) = _
  rw [h ρ m]
  show (ofO (seqOf d) >>= _) = _
  rw [e]
  rfl
theorem j_rng {g : List D → Option (List D)} {f : FA} {os : List Opd} {as : List D} {rc : TR δ} {b : δ → List D} (h : JP ps f os) (hd : rdsP ps os = some as) (hg : Fin1 (g as) rc b) : J pe ps (iRng g f) rc b (fun _ => ps) := fun ρ m => by
  show Sm pe (f ρ >>= _) _ _ _
  rw [h ρ m]
  show Sm pe (ofO (rds ρ os) >>= _) _ _ _
  rw [rdsP_ok m hd]
  exact Sm.fin hg fun _ => m
/-! ## targets -/
def PJ (p : Pat) (d : D) (ps qs : PE) : Prop := ∀ ρ, Mat ps ρ → ∃ ρ', p d ρ = some ρ' ∧ Mat qs ρ'
theorem pj_name (i : Nat) {d : D} : PJ (pName i) d ps (ps.set i (some (.dat d))) := fun ρ m => ⟨_, rfl, m.set⟩
/-! ## comprehensions -/
def wipeP (ps : PE) : List Nat → PE
  | [] => ps
  | v :: vs => (wipeP ps vs).set v (some .un)
def junkV (ps : PE) : List Nat → PE
  | [] => ps
  | v :: vs => (junkV ps vs).set v none
theorem Mat.wipe {ρ : Ev} (m : Mat ps ρ) : ∀ vs, Mat (wipeP ps vs) (wipeE ρ vs)
  | [] => m
  | v :: vs => (m.wipe vs).set
theorem Mat.rest {ρ ρ0 : Ev} : ∀ (vs : List Nat) {qs : PE} {ρ : Ev}, Mat qs ρ → Mat (junkV qs vs) (restE ρ0 ρ vs)
  | [], qs, ρ, m => m
  | v :: vs, qs, ρ, m => by
    have h := Mat.rest (ρ := ρ) (ρ0 := ρ0) vs (m.junk (i := v) (b := kd1 ρ0[v]?))
    rw [e_rest_cons]
    have c : ∀ (vs : List Nat) (qs : PE), junkV (qs.set v none) vs = (junkV qs vs).set v none := fun vs => by
      induction vs with
      | nil => intro qs; rfl
      | cons w ws ih =>
        intro qs
        show (junkV (qs.set v none) ws).set w none = ((junkV qs ws).set w none).set v none
        rw [ih]
        by_cases z : v = w
        · subst z; rfl
        · exact List.set_comm _ _ z
    rw [c] at h
    exact h
/-- what the slots held that a comprehension uses -/
def restB (ps : PE) (vs : List Nat) : Bool := vs.all fun v => match ps[v]? with
  | some (some (.dat _)) => true
  | some (some .un) => true
  | some (some _) => false
  | _ => true
theorem restE_get (ρ0 : Ev) (i : Nat) : ∀ (vs : List Nat) (ρ : Ev), i < ρ.length → (restE ρ0 ρ vs)[i]? = if i ∈ vs then some (kd1 ρ0[i]?) else ρ[i]?
  | [], ρ, h => by simp
  | v :: vs, ρ, h => by
    rw [e_rest_cons, restE_get ρ0 i vs _ (by simpa using h)]
    by_cases c : i ∈ vs
    · rw [if_pos c, if_pos (List.mem_cons_of_mem _ c)]
    · rw [if_neg c]
      by_cases z : v = i
      · subst z
        rw [if_pos List.mem_cons_self, List.getElem?_set_self h]
      · rw [if_neg (fun y => by rcases List.mem_cons.mp y with y | y; exact z y.symm; exact c y), List.getElem?_set_ne z]
theorem restE_len (ρ0 : Ev) : ∀ (vs : List Nat) (ρ : Ev), (restE ρ0 ρ vs).length = ρ.length
  | [], ρ => rfl
  | v :: vs, ρ => by rw [e_rest_cons, restE_len ρ0 vs]; simp
theorem wipeP_get {i : Nat} : ∀ {vs : List Nat}, i ∉ vs → (wipeP ps vs)[i]? = ps[i]?
  | [], _ => rfl
  | v :: vs, h => by
    show ((wipeP ps vs).set v (some .un))[i]? = _
    rw [List.getElem?_set_ne (fun z => h (by rw [z]; exact List.mem_cons_self)), wipeP_get fun z => h (List.mem_cons_of_mem _ z)]
theorem wipeP_len : ∀ {vs : List Nat}, (wipeP ps vs).length = ps.length
  | [] => rfl
  | v :: vs => by show ((wipeP ps vs).set v (some .un)).length = _; rw [List.length_set, wipeP_len]
theorem Mat.back {ρ ρ0 : Ev} {vs : List Nat} (m0 : Mat ps ρ0) (m : Mat (wipeP ps vs) ρ) (h : restB ps vs = true) : Mat ps (restE ρ0 ρ vs) := by
  have hl : ρ.length = ps.length := by rw [m.1, wipeP_len]
  refine ⟨by rw [restE_len, hl], fun i b e => ?_⟩
  have hi : i < ps.length := (List.getElem?_eq_some_iff.mp e).1
  rw [restE_get ρ0 i vs ρ (by omega)]
  by_cases c : i ∈ vs
  · rw [if_pos c, m0.get e]
    have z := (List.all_eq_true.mp h) i c
    rw [e] at z
    cases b <;> first | rfl | (exact absurd z (by simp))
  · rw [if_neg c]
    exact m.2 i b (by rw [wipeP_get c]; exact e)
/-- elements that draw -/
def lcS (val : γ → β) (st : γ → σ) (c : α → σ → TR Bool) (f : α → σ → TR γ) : List α → σ → List β → TR (List β × σ)
  | [], s, acc => .ok (acc, s)
  | x :: xs, s, acc => match c x s with
    | .ok true => match f x s with
      | .ok v => if acc.length < sizeLine then lcS val st c f xs (st v) (acc ++ [val v]) else .stuck
      | _ => .stuck
    | .ok false => lcS val st c f xs s acc
    | _ => .stuck
theorem lcS_end {p : Pat} {c : FT} {e : FE} {vs : List Nat} {en : α → D} {inv : σ → PE} {tg : α → σ → PE} {val : γ → β} {st : γ → σ} {rc : α → σ → TR Bool} {rf : α → σ → TR γ} {eb : γ → B} {qe : γ → PE} {ed : β → D} (hp : ∀ x s, PJ p (en x) (inv s) (tg x s)) (hc : ∀ x s, J (fun _ => True) (tg x s) c (rc x s) (fun b => b) (fun _ => tg x s)) (he : ∀ x s, J (fun _ => True) (tg x s) e (rf x s) eb qe) (hf : ∀ v, frz (eb v) = some (ed (val v))) (hw : ∀ x s, LeP (inv s) (wipeP (tg x s) vs)) (hq : ∀ v, LeP (inv (st v)) (wipeP (qe v) vs)) :
    ∀ (xs : List α) (s : σ) (acc : List β) (ρ : Ev), Mat (inv s) ρ → match lcS val st rc rf xs s acc with
      | .ok z => ∃ ρ', lcD p c e vs (xs.map en) (acc.map ed) ρ = .ok (z.1.map ed, ρ') ∧ Mat (inv z.2) ρ'
      | .err _ => False
      | .stuck => True
  | [], s, acc, ρ, m => ⟨ρ, rfl, m⟩
  | x :: xs, s, acc, ρ, m => by
    obtain ⟨ρ1, e1, m1⟩ := hp x s ρ m
    have z := hc x s ρ1 m1
    show match (match rc x s with | .ok true => (match rf x s with | .ok v => if acc.length < sizeLine then lcS val st rc rf xs (st v) (acc ++ [val v]) else .stuck | _ => .stuck) | .ok false => lcS val st rc rf xs s acc | _ => .stuck) with | .ok z => _ | .err _ => False | .stuck => True
    rw [List.map_cons, lcD_cons, e1, e_lt1]
    cases q : rc x s with
    | err x => trivial
    | stuck => trivial
    | ok t =>
      rw [q] at z
      obtain ⟨ρ2, e2, m2⟩ := z
      rw [e2]
      cases t with
      | false =>
        rw [e_lt3f]
        exact lcS_end hp hc he hf hw hq xs s acc _ ((m2.wipe vs).le (hw x s))
      | true =>
        rw [e_lt3t]
        have y := (j_o (he x s) hf) ρ2 m2
        cases q2 : rf x s with
        | err x => trivial
        | stuck => trivial
        | ok v =>
          rw [q2] at y
          obtain ⟨ρ3, e3, m3⟩ := y
          rw [e3, e_lt4]
          by_cases l : acc.length < sizeLine
          · have ih := lcS_end hp hc he hf hw hq xs (st v) (acc ++ [val v]) (wipeE ρ3 vs) ((m3.wipe vs).le (hq v))
            rw [List.map_append] at ih
            simp only [if_pos l, List.length_map]
            exact ih
          · simp only [if_neg l]
theorem j_lcS {p : Pat} {fi : FI} {c : FT} {e : FE} {vs : List Nat} {r0 : TR η} {xs : η → List α} {q0 : η → PE} {s0 : η → σ} {en : α → D} {inv : σ → PE} {tg : α → σ → PE} {val : γ → β} {st : γ → σ} {rc : α → σ → TR Bool} {rf : α → σ → TR γ} {eb : γ → B} {qe : γ → PE} {ed : β → D} {qf : σ → PE} (hi : J pe ps fi r0 (fun a => (xs a).map en) q0) (h0 : ∀ a, LeP (inv (s0 a)) (wipeP (q0 a) vs)) (hp : ∀ x s, PJ p (en x) (inv s) (tg x s)) (hc : ∀ x s, J (fun _ => True) (tg x s) c (rc x s) (fun b => b) (fun _ => tg x s)) (he : ∀ x s, J (fun _ => True) (tg x s) e (rf x s) eb qe) (hf : ∀ v, frz (eb v) = some (ed (val v))) (hw : ∀ x s, LeP (inv s) (wipeP (tg x s) vs)) (hq : ∀ v, LeP (inv (st v)) (wipeP (qe v) vs)) (hz : ∀ s, LeP (qf s) (junkV (inv s) vs)) :
    J pe ps (cLc p fi c e vs) (r0.bind fun a => lcS val st rc rf (xs a) (s0 a) []) (fun z => .own (z.1.map ed)) (fun z => qf z.2) := fun ρ m => by
  refine (hi ρ m).bind fun a ρ1 m1 => ?_
  have z := lcS_end hp hc he hf hw hq (xs a) (s0 a) [] (wipeE ρ1 vs) ((m1.wipe vs).le (h0 a))
  show Sm pe (lcD p c e vs ((xs a).map en) [] (wipeE ρ1 vs) >>= _) _ _ _
  cases q : lcS val st rc rf (xs a) (s0 a) [] with
  | ok y =>
    rw [q] at z
    obtain ⟨ρ', e1, m'⟩ := z
    rw [show ([] : List β).map ed = [] from rfl] at e1
    rw [e1]
    exact ⟨_, rfl, (m'.rest (ρ := ρ') vs).le (hz y.2)⟩
  | err x =>
    rw [q] at z
    exact z.elim
  | stuck => trivial
/-! ## an expression that only reads -/
def TR.plain (r : TR α) : TR α := match r with
  | .err x => match x.fs with
    | none => .err x
    | some _ => .stuck
  | r => r
@[simp] theorem plain_ok (a : α) : (TR.ok a).plain = .ok a := rfl
@[simp] theorem plain_stuck : (TR.stuck : TR α).plain = .stuck := rfl
end
/-! ## statements -/
section
variable {α β γ δ σ σ' σ1 τ η : Type} {pe : Ev → Prop} {ql : τ → PE} {rb : β → B} {qr : β → PE} {ps : PE}
def SmO (pe : Ev → Prop) (ql : τ → PE) (rb : β → B) (qr : β → PE) (o : Out) (t : TO σ τ β) (q : σ → PE) : Prop := match t with
  | .nx s => ∃ ρ', o = .nx ρ' ∧ Mat (q s) ρ'
  | .bk s => ∃ ρ', o = .bk ρ' ∧ Mat (ql s) ρ'
  | .ct s => ∃ ρ', o = .ct ρ' ∧ Mat (ql s) ρ'
  | .rt v => ∃ ρ', o = .rt (rb v) ρ' ∧ Mat (qr v) ρ'
  | .er x => ∃ ρ', o = .er x ρ' ∧ pe ρ'
  | .stuck => True
def JS (pe : Ev → Prop) (ql : τ → PE) (rb : β → B) (qr : β → PE) (ps : PE) (m : FS) (t : TO σ τ β) (q : σ → PE) : Prop := ∀ ρ, Mat ps ρ → SmO pe ql rb qr (m ρ) t q
theorem SmO.out {x : R (γ × Ev)} {r : TR α} {b : α → γ} {q : α → PE} {k : γ × Ev → Out} {t : α → TO σ τ β} {Q : σ → PE} (h : Sm pe x r b q) (hk : ∀ a ρ', Mat (q a) ρ' → SmO pe ql rb qr (k (b a, ρ')) (t a) Q) : SmO pe ql rb qr (x.out k) (r.out t) Q := by
  cases r with
  | ok a =>
    obtain ⟨ρ', e, m'⟩ := h
    rw [e]
    exact hk a ρ' m'
  | err e =>
    obtain ⟨ρ', e, m'⟩ := h
    rw [e]
    exact ⟨ρ', rfl, m'⟩
  | stuck => trivial
theorem SmO.then {o : Out} {t : TO σ1 τ β} {q : σ1 → PE} {m : FS} {t' : σ1 → TO σ τ β} {Q : σ → PE} (h : SmO pe ql rb qr o t q) (k : ∀ s, JS pe ql rb qr (q s) m (t' s) Q) : SmO pe ql rb qr (o.then m) (t.then t') Q := by
  cases t with
  | nx s =>
    obtain ⟨ρ', e, m'⟩ := h
    rw [e]
    exact k s ρ' m'
  | bk s =>
    obtain ⟨ρ', e, m'⟩ := h
    rw [e]
    exact ⟨ρ', rfl, m'⟩
  | ct s =>
    obtain ⟨ρ', e, m'⟩ := h
    rw [e]
    exact ⟨ρ', rfl, m'⟩
  | rt v =>
    obtain ⟨ρ', e, m'⟩ := h
    rw [e]
    exact ⟨ρ', rfl, m'⟩
  | er x =>
    obtain ⟨ρ', e, m'⟩ := h
    rw [e]
    exact ⟨ρ', rfl, m'⟩
  | stuck => trivial
theorem js_last {m : FS} {t : TO σ τ β} {Q : σ → PE} (h : JS pe ql rb qr ps (sSeq m sNil) t Q) : JS pe ql rb qr ps m t Q := fun ρ x => by
  have z := h ρ x
  have e : sSeq m sNil ρ = m ρ := by
    show (m ρ).then sNil = m ρ
    cases m ρ <;> rfl
  rw [e] at z
  exact z
theorem js_end {s : σ} {Q : σ → PE} (h : LeP (Q s) ps) : JS pe ql rb qr ps sNil (.nx s) Q := fun ρ m => ⟨ρ, rfl, m.le h⟩
theorem jss_nil {m : FS} {t : TO σ τ β} {Q : σ → PE} (h : JS pe ql rb qr ps m t Q) : JS pe ql rb qr ps (sSeq sNil m) t Q := h
theorem jssp_set {i : Nat} {f : FE} {m : FS} {b : B} {t : TO σ τ β} {Q : σ → PE} (h : JP ps f b) (k : JS pe ql rb qr (ps.set i (some b)) m t Q) : JS pe ql rb qr ps (sSeq (sSet i f) m) t Q := fun ρ x => by
  show SmO pe ql rb qr (((f ρ).out _).then m) _ _
  rw [h ρ x]
  exact k _ x.set
theorem jss_e {f : FE} {m : FS} {r : TR α} {b : α → B} {q : α → PE} {t : α → TO σ τ β} {Q : σ → PE} (h : J pe ps f r b q) (k : ∀ a, JS pe ql rb qr (q a) m (t a) Q) : JS pe ql rb qr ps (sSeq (sE f) m) (r.out t) Q := fun ρ x => by
  show SmO pe ql rb qr (((f ρ).out _).then m) _ _
  have z := h ρ x
  cases r with
  | ok a =>
    obtain ⟨ρ', e, m'⟩ := z
    rw [e]
    exact k a _ m'
  | err e =>
    obtain ⟨ρ', e, m'⟩ := z
    rw [e]
    exact ⟨ρ', rfl, m'⟩
  | stuck => trivial
theorem jss_ret {f : FE} {m : FS} {r : TR α} {b : α → B} {q : α → PE} {v : α → β} {Q : σ → PE} (h : J pe ps f r b q) (hb : ∀ a, rb (v a) = b a) (hq : ∀ a, LeP (qr (v a)) (q a)) : JS pe ql rb qr ps (sSeq (sRet f) m) (r.out fun a => (.rt (v a) : TO σ τ β)) Q := fun ρ x => by
  show SmO pe ql rb qr (((f ρ).out _).then m) _ _
  have z := h ρ x
  cases r with
  | ok a =>
    obtain ⟨ρ', e, m'⟩ := z
    rw [e]
    exact ⟨ρ', by rw [hb a]; rfl, m'.le (hq a)⟩
  | err e =>
    obtain ⟨ρ', e, m'⟩ := z
    rw [e]
    exact ⟨ρ', rfl, m'⟩
  | stuck => trivial
theorem jssp_ret {f : FE} {m : FS} {v : β} {Q : σ → PE} (h : JP ps f (rb v)) (hq : LeP (qr v) ps) : JS pe ql rb qr ps (sSeq (sRet f) m) (.rt v : TO σ τ β) Q := fun ρ x => by
  show SmO pe ql rb qr (((f ρ).out _).then m) _ _
  rw [h ρ x]
  exact ⟨ρ, rfl, x.le hq⟩
theorem iteS {c : Bool} {o o' : Out} {t t' : TO σ τ β} {Q : σ → PE} (h : c = true → SmO pe ql rb qr o t Q) (k : c = false → SmO pe ql rb qr o' t' Q) : SmO pe ql rb qr (if c = true then o else o') (if c = true then t else t') Q := by
  cases c with
  | true => exact h rfl
  | false => exact k rfl
theorem if_seq (c : FT) (f g m : FS) (ρ : Ev) : sSeq (sIf c f g) m ρ = (c ρ).out fun p => if p.1 = true then sSeq f m p.2 else sSeq g m p.2 := by
  show (((c ρ).out _).then m) = _
  cases c ρ with
  | ok p =>
    obtain ⟨b, ρ1⟩ := p
    cases b <;> rfl
  | err x ρ1 => rfl
  | stuck => rfl
theorem jss_ifE {c : FT} {f g m : FS} {r : TR α} {cc : α → Bool} {q : α → PE} {t t' : α → TO σ τ β} {Q : σ → PE} (h : J pe ps c r cc q) (ka : ∀ a, JS pe ql rb qr (q a) (sSeq f m) (t a) Q) (kb : ∀ a, JS pe ql rb qr (q a) (sSeq g m) (t' a) Q) : JS pe ql rb qr ps (sSeq (sIf c f g) m) (r.out fun a => if cc a = true then t a else t' a) Q := fun ρ x => by
  rw [if_seq]
  exact SmO.out (h ρ x) fun a ρ' m' => iteS (fun _ => ka a ρ' m') (fun _ => kb a ρ' m')
theorem for_end {en : α → D} {inv : σ → PE} {p : Pat} {tg : α → σ → PE} {body : FS} {tb : α → σ → TO σ σ β} (hp : ∀ x s, PJ p (en x) (inv s) (tg x s)) (hb : ∀ x s, JS pe inv rb qr (tg x s) body (tb x s) inv) : ∀ (xs : List α) (s : σ) (ρ : Ev), Mat (inv s) ρ → SmO pe ql rb qr (forD p body (xs.map en) ρ) (forT tb xs s : TO σ τ β) inv
  | [], s, ρ, m => ⟨ρ, rfl, m⟩
  | x :: xs, s, ρ, m => by
    obtain ⟨ρ1, e1, m1⟩ := hp x s ρ m
    have z := hb x s ρ1 m1
    rw [List.map_cons, forD_cons, e1, e_fd1, forT_cons]
    cases q : tb x s with
    | nx s' =>
      rw [q] at z
      obtain ⟨ρ', e, m'⟩ := z
      rw [e, e_fd2n]
      exact for_end hp hb xs s' ρ' m'
    | ct s' =>
      rw [q] at z
      obtain ⟨ρ', e, m'⟩ := z
      rw [e, e_fd2c]
      exact for_end hp hb xs s' ρ' m'
    | bk s' =>
      rw [q] at z
      obtain ⟨ρ', e, m'⟩ := z
      rw [e, e_fd2b]
      exact ⟨ρ', rfl, m'⟩
    | rt v =>
      rw [q] at z
      obtain ⟨ρ', e, m'⟩ := z
      rw [e, e_fd2r]
      exact ⟨ρ', rfl, m'⟩
    | er v =>
      rw [q] at z
      obtain ⟨ρ', e, m'⟩ := z
      rw [e, e_fd2e]
      exact ⟨ρ', rfl, m'⟩
    | stuck => trivial
theorem jss_for {en : α → D} {inv : σ1 → PE} {p : Pat} {fi : FI} {tg : α → σ1 → PE} {body m : FS} {r : TR η} {xs : η → List α} {q0 : η → PE} {s0 : η → σ1} {tb : α → σ1 → TO σ1 σ1 β} {t : σ1 → TO σ τ β} {Q : σ → PE} (hi : J pe ps fi r (fun a => (xs a).map en) q0) (h0 : ∀ a, LeP (inv (s0 a)) (q0 a)) (hp : ∀ x s, PJ p (en x) (inv s) (tg x s)) (hb : ∀ x s, JS pe inv rb qr (tg x s) body (tb x s) inv) (k : ∀ s, JS pe ql rb qr (inv s) m (t s) Q) : JS pe ql rb qr ps (sSeq (sFor p fi body) m) (r.out fun a => (forT tb (xs a) (s0 a)).then t) Q := fun ρ x => by
  show SmO pe ql rb qr (((fi ρ).out _).then m) _ _
  have z := hi ρ x
  cases r with
  | ok a =>
    obtain ⟨ρ', e, m'⟩ := z
    rw [e]
    exact SmO.then (for_end hp hb (xs a) (s0 a) ρ' (m'.le (h0 a))) k
  | err e =>
    obtain ⟨ρ', e, m'⟩ := z
    rw [e]
    exact ⟨ρ', rfl, m'⟩
  | stuck => trivial
/-! try -/
/-! ## a def -/
def outP (Pr : List Nat) : Nat → Nat → PE → Option (List B)
  | _, 0, _ => some []
  | j, n + 1, [] => (outP Pr (j + 1) n []).map (.un :: ·)
  | j, n + 1, o :: ps => match (if Pr.contains j = true then o else some .un) with
    | some b => (outP Pr (j + 1) n ps).map (b :: ·)
    | none => none
theorem outP_ok (Pr : List Nat) : ∀ (n j : Nat) {ps : PE} {ρ : Ev} {os : List B}, Mat ps ρ → outP Pr j n ps = some os → outsD Pr j n ρ = os
  | 0, j, ps, ρ, os, m, e => by
    cases e
    cases ρ <;> rfl
  | n + 1, j, [], ρ, os, m, e => by
    cases ρ with
    | cons b ρ => have := m.1; simp at this
    | nil =>
      have e2 : (outP Pr (j + 1) n []).map (B.un :: ·) = some os := e
      cases q : outP Pr (j + 1) n [] with
      | none => rw [q] at e2; cases e2
      | some os' =>
        rw [q] at e2
        cases e2
        have ih := outP_ok Pr n (j + 1) m q
        show B.un :: outsD Pr (j + 1) n [] = _
        rw [ih]
  | n + 1, j, o :: ps, ρ, os, m, e => by
    cases ρ with
    | nil => have := m.1; simp at this
    | cons b ρ =>
      have e2 : (match (if Pr.contains j = true then o else some .un) with | some b => (outP Pr (j + 1) n ps).map (b :: ·) | none => none) = some os := e
      show (if Pr.contains j = true then b else .un) :: outsD Pr (j + 1) n ρ = os
      by_cases c : Pr.contains j = true
      · rw [if_pos c] at e2 ⊢
        cases o with
        | none => cases e2
        | some b' =>
          have hb : b = b' := by
            have := m.2 0 b' rfl
            simpa using this
          subst hb
          have e3 : (outP Pr (j + 1) n ps).map (b :: ·) = some os := e2
          cases q : outP Pr (j + 1) n ps with
          | none => rw [q] at e3; cases e3
          | some os' =>
            rw [q] at e3
            cases e3
            rw [outP_ok Pr n (j + 1) m.tail q]
      · rw [if_neg c] at e2 ⊢
        have e3 : (outP Pr (j + 1) n ps).map (B.un :: ·) = some os := e2
        cases q : outP Pr (j + 1) n ps with
        | none => rw [q] at e3; cases e3
        | some os' =>
          rw [q] at e3
          cases e3
          rw [outP_ok Pr n (j + 1) m.tail q]
theorem outsD_len (Pr : List Nat) : ∀ (n j : Nat) (ρ : Ev), (outsD Pr j n ρ).length = n
  | 0, j, ρ => by cases ρ <;> rfl
  | n + 1, j, [] => by show (B.un :: outsD Pr (j + 1) n []).length = _; rw [List.length_cons, outsD_len Pr n]
  | n + 1, j, b :: ρ => by show ((if Pr.contains j = true then b else .un) :: outsD Pr (j + 1) n ρ).length = _; rw [List.length_cons, outsD_len Pr n]
theorem mat_all : ∀ ρ : Ev, Mat (ρ.map some) ρ := fun ρ => ⟨by simp, fun i b e => by
  rw [List.getElem?_map] at e
  cases q : ρ[i]? with
  | none => rw [q] at e; cases e
  | some c => rw [q] at e; cases e; rfl⟩
theorem fl_def {Pr : List Nat} {n nN : Nat} {m : FS} {bs : List B} {p0 : PE} {t : TO σ Empty β} {fz : σ → β} {b : β → B} {qr : β → PE} {outs : β → List B} {ql : Empty → PE} {Q : σ → PE} (h : JS (fun _ => True) ql b qr p0 m t Q) (h0 : (bs ++ List.replicate (nN - n) B.un).map some = p0) (hz : ∀ s, b (fz s) = .dat .non) (hQ : ∀ s, outP Pr 0 n (Q s) = some (outs (fz s))) (hr : ∀ v, outP Pr 0 n (qr v) = some (outs v)) (hn : bs.length = n) : FL (toF Pr n nN m) bs (t.ret fz) b outs := by
  have z := h (bs ++ List.replicate (nN - n) B.un) (by rw [← h0]; exact mat_all _)
  unfold toF
  cases t with
  | nx s =>
    obtain ⟨ρ', e, m'⟩ := z
    show FL _ bs (.ok (fz s)) b outs
    show (match m (bs ++ List.replicate (nN - n) B.un) with | .rt b ρ => _ | .nx ρ => _ | .er x ρ => _ | _ => _) = _
    rw [e, hz s]
    show FR.ok _ (outsD Pr 0 n ρ') = _
    rw [outP_ok Pr n 0 m' (hQ s)]
  | bk s => exact nomatch s
  | ct s => exact nomatch s
  | rt v =>
    obtain ⟨ρ', e, m'⟩ := z
    show (match m (bs ++ List.replicate (nN - n) B.un) with | .rt b ρ => _ | .nx ρ => _ | .er x ρ => _ | _ => _) = _
    rw [e]
    show FR.ok _ (outsD Pr 0 n ρ') = _
    rw [outP_ok Pr n 0 m' (hr v)]
  | er x =>
    obtain ⟨ρ', e, m'⟩ := z
    refine ⟨outsD Pr 0 n ρ', by rw [outsD_len, hn], ?_⟩
    show (match m (bs ++ List.replicate (nN - n) B.un) with | .rt b ρ => _ | .nx ρ => _ | .er x ρ => _ | _ => _) = _
    rw [e]
  | stuck => trivial
end
end Dl
set_option Elab.async false
set_option linter.all false
set_option maxRecDepth 100000
namespace Dl
open PySem PySem.Spec L2
open PyProof.Rows hiding St
/-! ## how typed things stand as data -/
section
variable {α β γ δ : Type}
abbrev eL (e : α → D) : List α → D := fun xs => .lst (xs.map e)
abbrev eT (e : α → D) : List α → D := fun xs => .tup (xs.map e)
abbrev eP (e : α → D) (f : β → D) : α × β → D := fun p => .tup [e p.1, f p.2]
def eO (e : α → D) : Option α → D
  | none => .non
  | some a => e a
@[simp] theorem eO_none (e : α → D) : eO e none = .non := rfl
@[simp] theorem eO_some (e : α → D) (a : α) : eO e (some a) = e a := rfl
/-- told apart, and to be compared -/
structure Gd [DecidableEq α] (n : Nat) (e : α → D) : Prop where
  sh : ∀ a, shn n (e a) = true
  eq : ∀ a b, eqD (e a) (e b) = decide (a = b)
theorem gd_I (n : Nat) : Gd n D.int := ⟨fun a => shn_int n a, fun a b => by rw [eqD_int, Bool.eq_iff_iff]; simp⟩
theorem gd_B (n : Nat) : Gd n D.bl := ⟨fun a => shn_bl n a, fun a b => by rw [eqD_bl, Bool.eq_iff_iff]; simp⟩
theorem eqL_map [DecidableEq α] {e : α → D} (h : ∀ a b, eqD (e a) (e b) = decide (a = b)) : ∀ xs ys : List α, PyData.eqvAll (pyL (xs.map e)) (pyL (ys.map e)) = decide (xs = ys)
  | [], [] => by simp [pyL, PyData.eqvAll]
  | [], y :: ys => by simp [pyL, PyData.eqvAll]
  | x :: xs, [] => by simp [pyL, PyData.eqvAll]
  | x :: xs, y :: ys => by
    have a := h x y
    have b := eqL_map h xs ys
    simp only [List.map_cons, pyL, PyData.eqvAll]
    have a' : PyData.eqv (py (e x)) (py (e y)) = decide (x = y) := a
    rw [a', b, Bool.eq_iff_iff]
    simp
theorem gd_L [DecidableEq α] {n : Nat} {e : α → D} (h : Gd n e) : Gd (n + 1) (eL e) := ⟨fun xs => by
  show shn (n + 1) (.lst (xs.map e)) = true
  rw [shn_lst, List.all_eq_true]
  intro d m
  obtain ⟨x, _, rfl⟩ := List.mem_map.mp m
  exact h.sh x, fun xs ys => by
  have := eqL_map h.eq xs ys
  simpa only [eqD, py, PyData.eqv] using this⟩
theorem gd_T [DecidableEq α] {n : Nat} {e : α → D} (h : Gd n e) : Gd (n + 1) (eT e) := ⟨fun xs => by
  show shn (n + 1) (.tup (xs.map e)) = true
  rw [shn_tup, List.all_eq_true]
  intro d m
  obtain ⟨x, _, rfl⟩ := List.mem_map.mp m
  exact h.sh x, fun xs ys => by
  have := eqL_map h.eq xs ys
  simpa only [eqD, py, PyData.eqv] using this⟩
theorem gd_P [DecidableEq α] [DecidableEq β] {n : Nat} {e : α → D} {f : β → D} (h : Gd n e) (k : Gd n f) : Gd (n + 1) (eP e f) := ⟨fun p => by
  show shn (n + 1) (.tup [e p.1, f p.2]) = true
  rw [shn_tup]
  simp [h.sh, k.sh], fun p q => by
  show eqD (.tup [e p.1, f p.2]) (.tup [e q.1, f q.2]) = _
  rw [eqD_tup2, h.eq, k.eq, Bool.eq_iff_iff]
  simp [Prod.ext_iff]⟩
/-- a small set of words, told by a table -/
theorem gd_word [DecidableEq α] (s : α → String) (inj : ∀ a b, s a = s b → a = b) (n : Nat) : Gd n fun a => .str (Str.ofString (s a)) := ⟨fun a => shn_str n _, fun a b => by
  rw [eqD_str, Bool.eq_iff_iff]
  simp only [beq_iff_eq, ofString_inj, decide_eq_true_eq]
  exact ⟨inj a b, fun h => by rw [h]⟩⟩
/-! ## comparisons -/
theorem q_eq [DecidableEq α] {e : α → D} (h : Gd 64 e) (x y : α) : gEq (e x) (e y) = some (.dat (.bl (decide (x = y)))) := by
  rw [gEq_of (by rw [shp_shn]; exact h.sh x) (by rw [shp_shn]; exact h.sh y), h.eq]
theorem q_ne [DecidableEq α] {e : α → D} (h : Gd 64 e) (x y : α) : gNe (e x) (e y) = some (.dat (.bl (!decide (x = y)))) := by
  rw [gNe_of (by rw [shp_shn]; exact h.sh x) (by rw [shp_shn]; exact h.sh y), h.eq]
theorem inD_map [DecidableEq α] {n : Nat} {e : α → D} (h : Gd n e) (x : α) : ∀ xs : List α, inD (e x) (xs.map e) = decide (x ∈ xs)
  | [] => by rw [List.map_nil]; rfl
  | y :: ys => by
    have ih := inD_map h x ys
    have z : inD (e x) ((y :: ys).map e) = (eqD (e y) (e x) || inD (e x) (ys.map e)) := by
      rw [List.map_cons]
      unfold inD
      rw [List.any_cons]
    rw [z, ih, h.eq, Bool.eq_iff_iff, Bool.or_eq_true, decide_eq_true_eq, decide_eq_true_eq, decide_eq_true_eq, List.mem_cons]
    exact or_congr eq_comm Iff.rfl
theorem Gd.row [DecidableEq α] {n : Nat} {e : α → D} (h : Gd n e) (xs : List α) : (xs.map e).all (shn n) = true := List.all_eq_true.mpr fun d m => by
  obtain ⟨x, _, rfl⟩ := List.mem_map.mp m
  exact h.sh x
theorem Gd.up [DecidableEq α] {n m : Nat} {e : α → D} (h : Gd n e) (l : n ≤ m) : Gd m e := ⟨fun a => shn_mono (h.sh a) l, h.eq⟩
def memT [DecidableEq α] (x : α) (xs : List α) : Bool := decide (x ∈ xs)
@[simp] theorem memT_eq [DecidableEq α] (x : α) (xs : List α) : memT x xs = decide (x ∈ xs) := rfl
theorem q_ninL [DecidableEq α] {e : α → D} (h : Gd 63 e) (x : α) (xs : List α) : gNotIn (e x) (.lst (xs.map e)) = some (.dat (.bl (!memT x xs))) := by
  rw [gNotIn_lst (by rw [shp_shn]; exact (h.up (by decide)).sh x) (by rw [shp_lst]; exact h.row xs), inD_map h, memT_eq]
theorem q_ninT [DecidableEq α] {e : α → D} (h : Gd 63 e) (x : α) (xs : List α) : gNotIn (e x) (.tup (xs.map e)) = some (.dat (.bl (!memT x xs))) := by
  rw [gNotIn_tup (by rw [shp_shn]; exact (h.up (by decide)).sh x) (by rw [shp_tup]; exact h.row xs), inD_map h, memT_eq]
/-! ## what is told of data of any kind -/
def decB : Option B → TR Bool
  | some (.dat (.bl b)) => .ok b
  | _ => .stuck
def decI : Option B → TR Int
  | some (.dat (.int b)) => .ok b
  | _ => .stuck
def decD : Option B → TR D
  | some (.dat b) => .ok b
  | _ => .stuck
def decL : Option B → TR (List D)
  | some (.own b) => .ok b
  | _ => .stuck
@[simp] theorem decB_some (b : Bool) : decB (some (.dat (.bl b))) = .ok b := rfl
@[simp] theorem decI_some (b : Int) : decI (some (.dat (.int b))) = .ok b := rfl
@[simp] theorem decD_some (b : D) : decD (some (.dat b)) = .ok b := rfl
@[simp] theorem decL_some (b : List D) : decL (some (.own b)) = .ok b := rfl
/-! ## lists -/
theorem q_lenL (e : α → D) (xs : List α) : gLen [.lst (xs.map e)] = some (.dat (.int (xs.length : Nat))) := by simp
theorem q_lenT (e : α → D) (xs : List α) : gLen [.tup (xs.map e)] = some (.dat (.int (xs.length : Nat))) := by simp
theorem atI_map (e : α → β) (xs : List α) (i : Int) : atI (xs.map e) i = (atI xs i).map e := by
  unfold atI
  rw [List.length_map]
  cases ixN xs.length i with
  | none => rfl
  | some j => simp
def ixT (xs : List α) (i : Int) : TR α := match atI xs i with
  | some a => .ok a
  | none => .stuck
theorem f_ixL (e : α → D) (xs : List α) (i : Int) : Fin1 (gIx (.lst (xs.map e)) (.int i)) (ixT xs i) fun a => .dat (e a) := by
  unfold ixT
  cases q : atI xs i with
  | none => trivial
  | some a =>
    show gIx (.lst (xs.map e)) (.int i) = some (.dat (e a))
    rw [gIx_lst, atI_map, q]
    rfl
theorem f_ixT (e : α → D) (xs : List α) (i : Int) : Fin1 (gIx (.tup (xs.map e)) (.int i)) (ixT xs i) fun a => .dat (e a) := by
  unfold ixT
  cases q : atI xs i with
  | none => trivial
  | some a =>
    show gIx (.tup (xs.map e)) (.int i) = some (.dat (e a))
    rw [gIx_tup, atI_map, q]
    rfl
@[simp] theorem ixT_nat (xs : List α) (k : Nat) (h : k < xs.length) : ixT xs (k : Int) = .ok xs[k] := by
  unfold ixT
  rw [atI_nat', List.getElem?_eq_getElem h]
theorem ixT_int (xs : List α) (i : Int) (h0 : 0 ≤ i) (h : i.toNat < xs.length) : ixT xs i = .ok xs[i.toNat] := by
  have e : i = (i.toNat : Int) := by omega
  have := ixT_nat xs i.toNat h
  rw [← e] at this
  exact this
/-! slices -/
def cutT (xs : List α) (lo hi : Option Int) : List α := (xs.drop (HT.sIx xs.length 0 lo)).take (HT.sIx xs.length xs.length hi - HT.sIx xs.length 0 lo)
theorem cutT_lo (xs : List α) (k : Int) (h : 0 ≤ k) : cutT xs none (some k) = xs.take k.toNat := by
  have e : k = (k.toNat : Int) := by omega
  have s := HT.sIx_nat xs.length xs.length k.toNat
  rw [← e] at s
  unfold cutT
  rw [s, HT.sIx_none, List.drop_zero, Nat.sub_zero]
  by_cases c : k.toNat ≤ xs.length
  · rw [Nat.min_eq_left c]
  · rw [Nat.min_eq_right (by omega), List.take_length, List.take_of_length_le (by omega)]
theorem cutT_hi (xs : List α) (k : Int) (h : 0 ≤ k) : cutT xs (some k) none = xs.drop k.toNat := by
  have e : k = (k.toNat : Int) := by omega
  have s := HT.sIx_nat xs.length 0 k.toNat
  rw [← e] at s
  unfold cutT
  rw [s, HT.sIx_none]
  by_cases c : k.toNat ≤ xs.length
  · rw [Nat.min_eq_left c, List.take_of_length_le (by simp)]
  · rw [Nat.min_eq_right (by omega), Nat.sub_self, List.take_zero, List.drop_eq_nil_of_le (by omega)]
@[simp] theorem cutT_one (xs : List α) : cutT xs none (some 1) = xs.take 1 := cutT_lo xs 1 (by decide)
@[simp] theorem cutT_rest (xs : List α) : cutT xs (some 1) none = xs.drop 1 := cutT_hi xs 1 (by decide)
/-! what is built in -/
def rngI (lo : Int) (n : Nat) : List Int := (List.range n).map fun i => lo + ((i : Nat) : Int)
theorem rngD_I (lo : Int) (n : Nat) : rngD lo n = (rngI lo n).map D.int := by
  unfold rngD rngI
  rw [List.map_map]
  rfl
@[irreducible] def rngT1 (j : Int) : TR (List Int) := if rngOk j = true then .ok (rngI 0 j.toNat) else .stuck
@[irreducible] def rngT2 (i j : Int) : TR (List Int) := if (rngOk i && rngOk j) = true then .ok (rngI i (j - i).toNat) else .stuck
theorem f_rng1 (j : Int) : Fin1 (rng1 [.int j]) (rngT1 j) fun xs => xs.map D.int := by
  unfold rngT1
  by_cases c : rngOk j = true
  · rw [if_pos c]
    show rng1 _ = _
    rw [rng1_ok j c, rngD_I]
  · rw [if_neg c]
    trivial
theorem rngT1_ok {j : Int} (h0 : -4611686018427387904 ≤ j) (h1 : j < 4611686018427387904) : rngT1 j = .ok (rngI 0 j.toNat) := by
  unfold rngT1
  exact if_pos (rngOk_of h0 h1)
@[irreducible] def lrgT1 (j : Int) : TR (List Int) := if (rngOk j && decide (j ≤ 16777216)) = true then .ok (rngI 0 j.toNat) else .stuck
@[irreducible] def lrgT2 (i j : Int) : TR (List Int) := if (rngOk i && rngOk j && decide (j - i ≤ 16777216)) = true then .ok (rngI i (j - i).toNat) else .stuck
/-! lists changed -/
theorem erase_map (e : α → β) : ∀ (xs : List α) (k : Nat), (xs.map e).eraseIdx k = (xs.eraseIdx k).map e
  | [], k => by simp
  | x :: xs, 0 => by simp
  | x :: xs, k + 1 => by simp [erase_map e xs k]
def popAtT (xs : List α) (i : Int) : TR (α × List α) := if 0 ≤ i ∧ i < 9223372036854775808 then match xs[i.toNat]? with
    | some a => .ok (a, xs.eraseIdx i.toNat)
    | none => .stuck
  else .stuck
theorem f_popAt (e : α → D) (xs : List α) (i : Int) : Fin1 (gPop (xs.map e) [.int i]) (popAtT xs i) fun p => (e p.1, p.2.map e) := by
  unfold popAtT
  by_cases c : 0 ≤ i ∧ i < 9223372036854775808
  · rw [if_pos c]
    cases q : xs[i.toNat]? with
    | none => trivial
    | some a =>
      show gPop (xs.map e) [.int i] = some (e a, (xs.eraseIdx i.toNat).map e)
      have hl := (List.getElem?_eq_some_iff.mp q).1
      unfold gPop
      simp only
      rw [if_pos (by constructor <;> omega)]
      have hs : seqIndex? i (xs.map e).length = some i.toNat := by
        have k : ixN (xs.map e).length i = some i.toNat := by
          unfold ixN
          rw [if_pos c.1, if_pos (by rw [List.length_map]; omega)]
        exact (ixN_seq k).1
      rw [hs]
      simp only [List.getElem?_map, q, Option.map_some]
      exact congrArg some (congrArg (Prod.mk _) (erase_map e xs _))
  · rw [if_neg c]
    trivial
theorem appT_ok {xs : List α} {x : α} (h : xs.length < 16777216) : appT xs x = .ok (xs ++ [x]) := if_pos (by rw [show sizeLine = 16777216 from rfl]; exact h)
/-! ## comprehensions, evaluated -/
/-- a loop that is a fold -/
theorem forT_fold {σ τ : Type} {tb : α → σ → TO σ σ β} (g : σ → α → σ) : ∀ (xs : List α) (s : σ) , (∀ x ∈ xs, ∀ s, tb x s = .nx (g s x)) → (forT tb xs s : TO σ τ β) = .nx (xs.foldl g s)
  | [], s, _ => rfl
  | x :: xs, s, h => by
    rw [forT_cons, h x List.mem_cons_self s, to_turn_nx, forT_fold g xs (g s x) fun y m => h y (List.mem_cons_of_mem _ m)]
    rfl
end
/-- the well, typed -/
def digT (w : Well) (b : Int) : TR (Int × Well) := if 0 < b ∧ b < 1073741824 then .ok (w.fig b, w.aft b) else .stuck
@[simp] theorem digT_ok (w : Well) {b : Int} (h0 : 0 < b) (h1 : b < 1073741824) : digT w b = .ok (w.fig b, w.aft b) := if_pos ⟨h0, h1⟩
theorem fl_digit (w : Well) (b : Int) : FL f_digit [.own w.ds, .dat (.int b)] (digT w b) (fun p => .dat (.int p.1)) (fun p => [.own p.2.ds, .un]) := by
  unfold digT
  by_cases c : 0 < b ∧ b < 1073741824
  · rw [if_pos c]
    exact digit_eq w c.1 c.2
  · rw [if_neg c]
    trivial
/-- a value by its name -/
def lt {α β : Type} (v : α) (f : α → β) : β := f v
@[simp] theorem lt_eq {α β : Type} (v : α) (f : α → β) : lt v f = f v := rfl
theorem jss_lt {α σ τ β : Type} {pe : Ev → Prop} {ql : τ → PE} {rb : β → B} {qr : β → PE} {ps : PE} {i : Nat} {f : FE} {m : FS} {v : α} {b : α → B} {ps' : α → PE} {t : α → TO σ τ β} {Q : σ → PE} (h : JP ps f (b v)) (hp : ps.set i (some (b v)) = ps' v) (k : ∀ x, JS pe ql rb qr (ps' x) m (t x) Q) : JS pe ql rb qr ps (sSeq (sSet i f) m) (lt v t) Q := jssp_set h (by rw [hp]; exact k v)
end Dl
namespace Dl
open PySem PySem.Spec L2
section
variable {α β γ δ σ σ' σ1 τ η : Type} {pe : Ev → Prop} {ql : τ → PE} {rb : β → B} {qr : β → PE} {ps : PE}
theorem jp_tys : JP ps tYs true := fun _ _ => rfl
theorem jssp_setE {i : Nat} {f : FE} {m : FS} {b : B} {ps' : PE} {t : TO σ τ β} {Q : σ → PE} (h : JP ps f b) (hp : ps.set i (some b) = ps') (k : JS pe ql rb qr ps' m t Q) : JS pe ql rb qr ps (sSeq (sSet i f) m) t Q := jssp_set h (by rw [hp]; exact k)
theorem jss_eE {f : FE} {m : FS} {r : TR α} {b : α → B} {q ps' : α → PE} {t : α → TO σ τ β} {Q : σ → PE} (h : J pe ps f r b q) (hp : ∀ a, q a = ps' a) (k : ∀ a, JS pe ql rb qr (ps' a) m (t a) Q) : JS pe ql rb qr ps (sSeq (sE f) m) (r.out t) Q := jss_e h fun a => by rw [hp a]; exact k a
theorem len_ok {n : Nat} (h : Nat.ble n sizeLine = true) : n ≤ sizeLine := Nat.le_of_ble_eq_true h
end
end Dl
namespace Dl
open PySem PySem.Spec L2
section
variable {α β γ δ σ σ' σ1 τ η : Type} {pe : Ev → Prop} {ps : PE}
theorem Sm.fin2 {x : Option γ} {r : TR δ} {b : δ → γ} {s : η} {q' : δ × η → PE} {ρ : Ev} (h : Fin1 x r b) (m : ∀ v, Mat (q' (v, s)) ρ) : Sm pe (ofO x >>= fun v => .ok (v, ρ)) (r.bind fun v => .ok (v, s)) (fun p => b p.1) q' := by
  cases r with
  | ok v =>
    rw [show x = some (b v) from h]
    exact ⟨ρ, rfl, m v⟩
  | err x => exact h.elim
  | stuck => trivial
theorem j_mutS (i : Nat) {g : List D → List D → Option (D × List D)} {f : FA} {r : TR α} {os : α → List Opd} {q : α → PE} {ds0 : List D} {ds as : α → List D} {rc : α → TR δ} {dd : δ → D} {ds' : δ → List D} {st : α → η} {q' : δ × η → PE} (hi : ps[i]? = some (some (.own ds0))) (h : J pe ps f r os q) (hd : ∀ a, rdsP (q a) (os a) = some (as a)) (ho : ∀ a, (q a)[i]? = some (some (.own (ds a)))) (hg : ∀ a, Fin1 (g (ds a) (as a)) (rc a) (fun v => (dd v, ds' v))) (hq : ∀ a v, q' (v, st a) = (q a).set i (some (.own (ds' v)))) : J pe ps (cMut i g f) (r.bind fun a => (rc a).bind fun v => .ok (v, st a)) (fun p => .dat (dd p.1)) q' := fun ρ m => by
  show Sm pe (ofO (ownL ρ i) >>= _) _ _ _
  rw [ownL_at m hi]
  refine (h ρ m).bind fun a ρ' m' => ?_
  show Sm pe (ofO (ownL ρ' i) >>= _) _ _ _
  rw [ownL_at m' (ho a)]
  show Sm pe (ofO (rds ρ' (os a)) >>= _) _ _ _
  rw [rdsP_ok m' (hd a)]
  have z := hg a
  cases q0 : rc a with
  | ok v =>
    rw [q0] at z
    refine ⟨ρ'.set i (.own (ds' v)), ?_, by rw [hq a v]; exact m'.set⟩
    show (ofO (g (ds a) (as a)) >>= _) = _
    rw [show g (ds a) (as a) = some (dd v, ds' v) from z]
    rfl
  | err x =>
    rw [q0] at z
    exact z.elim
  | stuck => trivial
end
end Dl
namespace Dl
open PySem PySem.Spec L2
section
variable {α β γ δ σ τ : Type}
theorem popAtT_some {xs : List α} {i : Int} (h0 : 0 ≤ i) (h : i < xs.length) (hb : xs.length ≤ 16777216) : ∃ a ∈ xs, popAtT xs i = .ok (a, xs.eraseIdx i.toNat) ∧ xs[i.toNat]? = some a := by
  have hl : i.toNat < xs.length := by omega
  refine ⟨xs[i.toNat], List.getElem_mem hl, ?_, List.getElem?_eq_getElem hl⟩
  unfold popAtT
  rw [if_pos ⟨h0, by omega⟩, List.getElem?_eq_getElem hl]
@[simp] theorem rngI_len (lo : Int) (n : Nat) : (rngI lo n).length = n := by simp [rngI]
theorem rngI_mem {lo : Int} {n : Nat} {i : Int} : i ∈ rngI lo n ↔ lo ≤ i ∧ i < lo + n := by
  unfold rngI
  rw [List.mem_map]
  constructor
  · rintro ⟨k, hk, rfl⟩
    rw [List.mem_range] at hk
    omega
  · intro h
    exact ⟨(i - lo).toNat, List.mem_range.mpr (by omega), by omega⟩
end
end Dl
set_option Elab.async false
set_option linter.all false
set_option maxRecDepth 100000
namespace Dl
open PySem PySem.Spec L2
open PyProof.Rows hiding St
/-! ## typed: dicts, clauses that follow one another, & -/
section
variable {α β γ δ : Type}
/-! ### the turns -/
variable {ps : PE} {pe : Ev → Prop}
/-! ### lists of two clauses -/
end
end Dl
set_option Elab.async false
set_option linter.all false
set_option maxRecDepth 100000
namespace Dl
open PySem PySem.Spec L2
open PyProof.Rows hiding St
/-! ## typed: what is told surely, by steps -/
section
variable {α β γ δ σ σ' τ : Type}
def Ok (r : TR α) (P : α → Prop) : Prop := match r with
  | .ok v => P v
  | _ => False
theorem Ok.get {r : TR α} {P : α → Prop} (h : Ok r P) : ∃ v, r = .ok v ∧ P v := by
  cases r with
  | ok v => exact ⟨v, rfl, h⟩
  | _ => exact h.elim
theorem Ok.of {r : TR α} {v : α} {P : α → Prop} (h : r = .ok v) (p : P v) : Ok r P := by
  rw [h]
  exact p
theorem Ok.imp {r : TR α} {P Q : α → Prop} (h : Ok r P) (k : ∀ v, P v → Q v) : Ok r Q := by
  cases r with
  | ok v => exact k v h
  | _ => exact h.elim
def OkO (o : TO σ τ β) (N : σ → Prop) (K : τ → Prop) (V : β → Prop) : Prop := match o with
  | .nx s => N s
  | .bk s => K s
  | .ct s => K s
  | .rt v => V v
  | _ => False
theorem OkO.imp {o : TO σ τ β} {N N' : σ → Prop} {K : τ → Prop} {V : β → Prop} (h : OkO o N K V) (k : ∀ s, N s → N' s) : OkO o N' K V := by
  cases o with
  | nx s => exact k s h
  | bk s => exact h
  | ct s => exact h
  | rt v => exact h
  | _ => exact h.elim
/-! ### comprehensions -/
end
end Dl
set_option Elab.async false
set_option linter.all false
set_option maxRecDepth 100000
namespace Dl
open PySem PySem.Spec L2
open PyProof.Rows hiding St
/-! ## typed: index, insert -/
section
variable {α : Type}
variable {δ : Type} {pe : Ev → Prop} {ps : PE}
end
end Dl
set_option Elab.async false
set_option linter.all false
set_option maxRecDepth 100000
namespace Dl
open PySem PySem.Spec L2
open PyProof.Rows hiding St
/-! ## typed: dicts that are owned, objects, the least by a key, what is read only -/
section
variable {α β γ δ : Type} {pe : Ev → Prop} {ps : PE}
/-! ### objects that stand still -/
/-! ### the least by a key -/
/-! ### tests that only read -/
/-! ### what is known to be there -/
def optR (x : Option γ) (r : γ → TR α) : TR α := match x with
  | some l => r l
  | none => .stuck
@[simp] theorem optR_some (l : γ) (r : γ → TR α) : optR (some l) r = r l := rfl
@[simp] theorem optR_none (r : γ → TR α) : optR none r = .stuck := rfl
def optS {σ τ η : Type} (x : Option γ) (t : γ → TO σ τ η) : TO σ τ η := match x with
  | some l => t l
  | none => .stuck
@[simp] theorem optS_some {σ τ η : Type} (l : γ) (t : γ → TO σ τ η) : optS (some l) t = t l := rfl
@[simp] theorem optS_none {σ τ η : Type} (t : γ → TO σ τ η) : optS none t = .stuck := rfl
/-! ### the greatest, the least of some whole numbers -/
/-! ### arguments in another order -/
end
end Dl
set_option Elab.async false
set_option linter.all false
set_option maxRecDepth 100000
namespace Dl
open PySem PySem.Spec L2
open PyProof.Rows hiding St
/-! ## a place told by something that may fail; a thing put down that may fail -/
section
variable {α β δ : Type} {pe : Ev → Prop} {ps : PE}
end
end Dl
set_option Elab.async false
set_option linter.all false
set_option maxRecDepth 100000
namespace Dl
open PySem PySem.Spec L2
open PyProof.Rows hiding St
/-! ## what was just told is changed, and dropped -/
end Dl
set_option Elab.async false
set_option linter.all false
set_option maxRecDepth 100000
namespace Dl
open PySem PySem.Spec L2
open PyProof.Rows hiding St
/-! ## typed: methods, d.get(k, z), dicts whose keys are pairs -/
section
variable {α β γ : Type} {pe : Ev → Prop} {ps : PE}
end
end Dl
set_option Elab.async false
set_option linter.all false
set_option maxRecDepth 100000
set_option maxHeartbeats 4000000
namespace Law
open PySem PySem.Spec L2 Dl
open PyProof.Rows hiding St
/-! ## spots -/
def whI (t : Int) : Nat → List Int → List Int
  | _, [] => []
  | k, u :: us => if u = t then (k : Int) :: whI t (k + 1) us else whI t (k + 1) us
def plI (t : Int) (us : List Int) : List Int := -1 :: whI t 0 us
def fitI (r : List Int) (p : Int) : Bool := decide (p = -1) || !memT p r
def rowsN (ps : List Int) (rows : List (List Int)) : List (List Int) := rows.flatMap fun r => (ps.filter (fitI r)).map fun p => r ++ [p]
def spotsL (ts us : List Int) : List (List Int) := ts.foldl (fun rows t => rowsN (plI t us) rows) [[]]
def tI (r : List Int) : D := .tup (r.map .int)
theorem whI_yes {t u : Int} (k : Nat) (us : List Int) (h : u = t) : whI t k (u :: us) = (k : Int) :: whI t (k + 1) us := if_pos h
theorem whI_no {t u : Int} (k : Nat) (us : List Int) (h : ¬ u = t) : whI t k (u :: us) = whI t (k + 1) us := if_neg h
theorem whI_len (t : Int) : ∀ (us : List Int) (k : Nat), (whI t k us).length ≤ us.length
  | [], k => Nat.le_refl _
  | u :: us, k => by
    have := whI_len t us (k + 1)
    by_cases c : u = t
    · rw [whI_yes k us c, List.length_cons, List.length_cons]; omega
    · rw [whI_no k us c, List.length_cons]; omega
theorem rowsN_len (ps : List Int) : ∀ rows : List (List Int), (rowsN ps rows).length ≤ rows.length * ps.length
  | [] => by simp [rowsN]
  | r :: rows => by
    have h := rowsN_len ps rows
    have e : rowsN ps (r :: rows) = ((ps.filter (fitI r)).map fun p => r ++ [p]) ++ rowsN ps rows := by simp [rowsN]
    rw [e, List.length_append, List.length_map, List.length_cons, Nat.succ_mul]
    have := List.length_filter_le (fitI r) ps
    omega
theorem gEq_int (a b : Int) : gEq (.int a) (.int b) = some (.dat (.bl (decide (a = b)))) := q_eq (e := D.int) (gd_I 64) a b
/-! the program's -/
theorem pl_prog (t : Int) (x0 x1 x2 x4 x7 : B) : ∀ (us : List Int) (k : Nat) (acc : List D), acc.length + us.length ≤ 1000 →
    lcD (pTup [(pName 5), (pName 6)]) c_all_spots_2 e_all_spots_1 [5, 6] (enumK k (us.map .int)) acc [x0, x1, x2, .dat (.int t), x4, .un, .un, x7] = .ok (acc ++ (whI t k us).map .int, [x0, x1, x2, .dat (.int t), x4, .un, .un, x7])
  | [], k, acc, _ => by simp [whI, enumK]
  | u :: us, k, acc, h => by
    rw [List.length_cons] at h
    have g := gEq_int u t
    have z : acc.length < sizeLine := by rw [sizeLine_eq]; omega
    rw [List.map_cons, enumK, lcD_cons]
    by_cases c : u = t
    · have ih := pl_prog t x0 x1 x2 x4 x7 us (k + 1) (acc ++ [.int (k : Int)]) (by rw [List.length_append, List.length_singleton]; omega)
      rw [decide_eq_true c] at g
      rw [whI_yes k us c, List.map_cons]
      simpa [uc_all_spots_2, ue_all_spots_1, g, z, wipeE] using ih
    · have ih := pl_prog t x0 x1 x2 x4 x7 us (k + 1) acc (by omega)
      rw [decide_eq_false c] at g
      rw [whI_no k us c]
      simpa [uc_all_spots_2, ue_all_spots_1, g, z, wipeE] using ih
theorem notIn_row (p : Int) (r : List Int) : gNotIn (.int p) (tI r) = some (.dat (.bl (!memT p r))) := q_ninT (e := D.int) (gd_I 63) p r
theorem add_row (r : List Int) (p : Int) (h : r.length ≤ 1000) : gAdd (tI r) (.tup [.int p]) = some (.dat (tI (r ++ [p]))) := by
  unfold tI
  rw [gAdd_tup (by simp; omega)]
  simp
theorem row_prog (r : List Int) (hr : r.length ≤ 1000) (x0 x1 x2 x3 x4 x6 : B) : ∀ (ps : List Int) (acc : List D), acc.length + ps.length ≤ 10000 →
    lcD (pName 5) c_all_spots_4 e_all_spots_3 [5] (ps.map .int) acc [x0, x1, x2, x3, x4, .un, x6, .dat (tI r)] = .ok (acc ++ ((ps.filter (fitI r)).map fun p => r ++ [p]).map tI, [x0, x1, x2, x3, x4, .un, x6, .dat (tI r)])
  | [], acc, _ => by simp
  | p :: ps, acc, h => by
    rw [List.length_cons] at h
    have g1 := gEq_int p (-1)
    have g2 := notIn_row p r
    have g3 := add_row r p hr
    have z : acc.length < sizeLine := by rw [sizeLine_eq]; omega
    rw [List.map_cons, lcD_cons]
    have ih1 := row_prog r hr x0 x1 x2 x3 x4 x6 ps (acc ++ [tI (r ++ [p])]) (by rw [List.length_append, List.length_singleton]; omega)
    have ih0 := row_prog r hr x0 x1 x2 x3 x4 x6 ps acc (by omega)
    by_cases c : p = -1
    · have f : fitI r p = true := by simp [fitI, c]
      rw [decide_eq_true c] at g1
      rw [List.filter_cons_of_pos f, List.map_cons, List.map_cons]
      simpa [uc_all_spots_4, ue_all_spots_3, g1, g2, g3, z, wipeE] using ih1
    · rw [decide_eq_false c] at g1
      cases m : memT p r with
      | true =>
        have f : fitI r p = false := by unfold fitI; rw [m, decide_eq_false c]; rfl
        rw [m] at g2
        rw [List.filter_cons_of_neg (by rw [f]; decide)]
        simpa [uc_all_spots_4, ue_all_spots_3, g1, g2, g3, z, wipeE] using ih0
      | false =>
        have f : fitI r p = true := by unfold fitI; rw [m, decide_eq_false c]; rfl
        rw [m] at g2
        rw [List.filter_cons_of_pos f, List.map_cons, List.map_cons]
        simpa [uc_all_spots_4, ue_all_spots_3, g1, g2, g3, z, wipeE] using ih1
end Law
set_option Elab.async false
set_option linter.all false
set_option maxRecDepth 100000
set_option maxHeartbeats 4000000
namespace Law
open PySem PySem.Spec L2 Dl
open PyProof.Rows hiding St
theorem row2_prog (ps : List Int) (hp : ps.length ≤ 7) (x0 x1 x2 x3 x6 : B) : ∀ (rows : List (List Int)) (acc : List D), (∀ r ∈ rows, r.length ≤ 1000) → acc.length + rows.length * 7 ≤ 9000 →
    lcD2 (pName 7) tYs (iSeq (cNO 4)) (pName 5) c_all_spots_4 e_all_spots_3 [7, 5] [5] (rows.map tI) acc [x0, x1, x2, x3, .dat (.lst (ps.map .int)), .un, x6, .un] = .ok (acc ++ (rowsN ps rows).map tI, [x0, x1, x2, x3, .dat (.lst (ps.map .int)), .un, x6, .un])
  | [], acc, _, _ => by simp [lcD2, rowsN]
  | r :: rows, acc, hr, h => by
    rw [List.length_cons] at h
    have e1 := row_prog r (hr r (List.mem_cons_self)) x0 x1 x2 x3 (.dat (.lst (ps.map .int))) x6 ps acc (by omega)
    have l1 : ((ps.filter (fitI r)).map fun p => r ++ [p]).length ≤ 7 := by
      rw [List.length_map]
      have := List.length_filter_le (fitI r) ps
      omega
    generalize hL : ((ps.filter (fitI r)).map fun p => r ++ [p]) = L at *
    have e2 := row2_prog ps hp x0 x1 x2 x3 x6 rows (acc ++ L.map tI) (fun y m => hr y (List.mem_cons_of_mem _ m)) (by rw [List.length_append, List.length_map]; omega)
    have e3 : rowsN ps (r :: rows) = L ++ rowsN ps rows := by simp [rowsN, hL]
    rw [e3, List.map_append, ← List.append_assoc, ← e2, List.map_cons, lcD2]
    simp [wipeE, e1]
theorem plI_len (t : Int) (us : List Int) (h : us.length ≤ 3) : (plI t us).length ≤ 4 := by
  have := whI_len t us 0
  simp only [plI, List.length_cons]
  omega
structure Rws (k : Nat) (rows : List (List Int)) : Prop where
  ln : rows.length ≤ 4 ^ k
  rl : ∀ r ∈ rows, r.length = k
theorem Rws.next {k : Nat} {rows : List (List Int)} (h : Rws k rows) (t : Int) {us : List Int} (hu : us.length ≤ 3) : Rws (k + 1) (rowsN (plI t us) rows) := by
  refine ⟨?_, fun r m => ?_⟩
  · refine Nat.le_trans (rowsN_len _ _) ?_
    rw [Nat.pow_succ]
    exact Nat.mul_le_mul h.ln (plI_len t us hu)
  · obtain ⟨r0, m0, m1⟩ := List.mem_flatMap.mp m
    obtain ⟨p, _, rfl⟩ := List.mem_map.mp m1
    rw [List.length_append, h.rl r0 m0]
    rfl
theorem rws_0 : Rws 0 [[]] := ⟨by decide, fun r m => by simp at m; subst m; rfl⟩
theorem Rws.spots {k : Nat} {us : List Int} (hu : us.length ≤ 3) : ∀ (ts : List Int) (rows : List (List Int)) (k : Nat), Rws k rows → Rws (k + ts.length) (ts.foldl (fun rows t => rowsN (plI t us) rows) rows)
  | [], rows, k, h => h
  | t :: ts, rows, k, h => by
    have := Rws.spots (k := k) hu ts _ _ (h.next t hu)
    rw [List.foldl_cons, List.length_cons]
    rw [Nat.add_assoc, Nat.add_comm 1] at this
    exact this
theorem cLc2_of {p p1 : Pat} {fi fi1 : FI} {c c1 : FT} {e : FE} {vs vs1 : List Nat} {ρ ρ1 ρ2 : Ev} {ds out : List D} (h1 : fi ρ = .ok (ds, ρ1)) (h2 : lcD2 p c fi1 p1 c1 e vs vs1 ds [] (wipeE ρ1 vs) = .ok (out, ρ2)) : cLc2 p fi c p1 fi1 c1 e vs vs1 ρ = .ok (.own out, restE ρ1 ρ2 vs) := by
  unfold cLc2
  rw [h1, ok_bind, h2, ok_bind]
theorem spots_loop {us : List Int} (hu : us.length ≤ 3) (x0 : B) : ∀ (ts : List Int) (rows : List (List Int)) (k : Nat) (x3 x4 : B), Rws k rows → k + ts.length ≤ 3 → ∃ y3 y4,
    forD (pName 3) b_all_spots_5 (ts.map .int) [x0, .dat (.tup (us.map .int)), .dat (.lst (rows.map tI)), x3, x4, .un, .un, .un] = .nx [x0, .dat (.tup (us.map .int)), .dat (.lst ((ts.foldl (fun rows t => rowsN (plI t us) rows) rows).map tI)), y3, y4, .un, .un, .un]
  | [], rows, k, x3, x4, _, _ => ⟨x3, x4, rfl⟩
  | t :: ts, rows, k, x3, x4, h, hk => by
    rw [List.length_cons] at hk
    have hn := h.next t hu
    obtain ⟨y3, y4, e⟩ := spots_loop hu x0 ts (rowsN (plI t us) rows) (k + 1) (.dat (.int t)) (.dat (.lst ((plI t us).map .int))) hn (by omega)
    refine ⟨y3, y4, ?_⟩
    have wl := whI_len t us 0
    have e1 := pl_prog t x0 (.dat (.tup (us.map .int))) (.dat (.lst (rows.map tI))) x4 .un us 0 [] (by rw [List.length_nil]; omega)
    have hr : rows.length ≤ 64 := Nat.le_trans h.ln (Nat.pow_le_pow_right (by decide) (show k ≤ 3 by omega))
    have e2 := row2_prog (plI t us) (Nat.le_trans (plI_len t us hu) (by decide)) x0 (.dat (.tup (us.map .int))) (.dat (.lst (rows.map tI))) (.dat (.int t)) .un rows [] (fun r m => by rw [h.rl r m]; omega) (by rw [List.length_nil]; omega)
    rw [List.nil_append] at e1 e2
    have e3 : gAdd (.lst [.int (-1)]) (.lst ((whI t 0 us).map .int)) = some (.own ((plI t us).map .int)) := by
      rw [gAdd_lst (by rw [List.length_map, List.length_singleton]; omega)]
      rfl
    have h1 : iSeq (cNO 2) [x0, .dat (.tup (us.map .int)), .dat (.lst (rows.map tI)), .dat (.int t), .dat (.lst ((plI t us).map .int)), .un, .un, .un] = .ok (rows.map tI, [x0, .dat (.tup (us.map .int)), .dat (.lst (rows.map tI)), .dat (.int t), .dat (.lst ((plI t us).map .int)), .un, .un, .un]) := by simp
    have e4 := cLc2_of (vs := [7, 5]) h1 e2
    rw [← enumD_eq] at e1
    rw [List.map_cons, forD_cons, List.foldl_cons, ← e]
    simp [ub_all_spots_5, outs_cons, outs_nil, wipeE, restE, e1, e3]
    simp [e4, restE]
theorem all_spots_eq {ts us : List Int} (ht : ts.length ≤ 3) (hu : us.length ≤ 3) : f_all_spots [.dat (.tup (ts.map .int)), .dat (.tup (us.map .int))] = .ok (.dat (.lst ((spotsL ts us).map tI))) [.un, .un] := by
  obtain ⟨y3, y4, e⟩ := spots_loop hu (.dat (.tup (ts.map .int))) ts [[]] 0 .un .un rws_0 (by omega)
  have : ([[]] : List (List Int)).map tI = [.tup []] := rfl
  rw [this] at e
  simp [f_all_spots, toF_at, m_all_spots, outs_cons, outs_nil, e, spotsL]
end Law
set_option Elab.async false
set_option linter.all false
set_option maxRecDepth 100000
set_option maxHeartbeats 4000000
namespace Law
open PySem PySem.Spec L2 Dl
open PyProof.Rows hiding St
theorem rngD_z (lo : Int) : rngD lo 0 = [] := rfl
theorem rngD_s (k n : Nat) : rngD (k : Int) (n + 1) = .int (k : Int) :: rngD ((k + 1 : Nat) : Int) n := by
  unfold rngD
  rw [List.range_succ_eq_map, List.map_cons, List.map_map]
  congr 1
  · simp
    intro a _
    omega
theorem pl_law {us : List Int} (hu : us.length ≤ 3) (t : Int) (x0 x2 x4 x5 x6 : B) : ∀ (n k : Nat) (acc : List D), k + n = us.length → acc.length + n ≤ 100 →
    lcD (pName 7) c_law_spots_2 e_law_spots_1 [7] (rngD (k : Int) n) acc [x0, .dat (.tup (us.map .int)), x2, .dat (.int t), x4, x5, x6, .un] = .ok (acc ++ (whI t k (us.drop k)).map .int, [x0, .dat (.tup (us.map .int)), x2, .dat (.int t), x4, x5, x6, .un])
  | 0, k, acc, h, _ => by
    have : us.drop k = [] := List.drop_eq_nil_iff.mpr (by omega)
    rw [this]
    simp [whI, rngD_z]
  | n + 1, k, acc, h, h2 => by
    have hk : k < us.length := by omega
    have g := gEq_int us[k] t
    have z : acc.length < sizeLine := by rw [sizeLine_eq]; omega
    have gi : gIx (.tup (us.map .int)) (.int (k : Int)) = some (.dat (.int us[k])) := by
      rw [gIx_tup, atI_nat', List.getElem?_map, List.getElem?_eq_getElem hk]
      rfl
    have ed : us.drop k = us[k] :: us.drop (k + 1) := List.drop_eq_getElem_cons hk
    rw [rngD_s, lcD_cons, ed]
    by_cases c : us[k] = t
    · have ih := pl_law hu t x0 x2 x4 x5 x6 n (k + 1) (acc ++ [.int (k : Int)]) (by omega) (by rw [List.length_append, List.length_singleton]; omega)
      rw [decide_eq_true c] at g
      rw [whI_yes k _ c, List.map_cons]
      simpa [uc_law_spots_2, ue_law_spots_1, g, gi, z, wipeE] using ih
    · have ih := pl_law hu t x0 x2 x4 x5 x6 n (k + 1) acc (by omega) (by omega)
      rw [decide_eq_false c] at g
      rw [whI_no k _ c]
      simpa [uc_law_spots_2, ue_law_spots_1, g, gi, z, wipeE] using ih
theorem row_law (r : List Int) (hr : r.length ≤ 1000) (x0 x1 x2 x3 x7 : B) : ∀ (ps : List Int) (acc : List D) (x6 : B), acc.length + ps.length ≤ 10000 → ∃ y6,
    forD (pName 6) b_law_spots_3 (ps.map .int) [x0, x1, x2, x3, .own acc, .dat (tI r), x6, x7] = .nx [x0, x1, x2, x3, .own (acc ++ ((ps.filter (fitI r)).map fun p => r ++ [p]).map tI), .dat (tI r), y6, x7]
  | [], acc, x6, _ => ⟨x6, by simp⟩
  | p :: ps, acc, x6, h => by
    rw [List.length_cons] at h
    have g1 := gEq_int p (-1)
    have g2 := notIn_row p r
    have g3 := add_row r p hr
    have z : acc.length < sizeLine := by rw [sizeLine_eq]; omega
    obtain ⟨y1, ih1⟩ := row_law r hr x0 x1 x2 x3 x7 ps (acc ++ [tI (r ++ [p])]) (.dat (.int p)) (by rw [List.length_append, List.length_singleton]; omega)
    obtain ⟨y0, ih0⟩ := row_law r hr x0 x1 x2 x3 x7 ps acc (.dat (.int p)) (by omega)
    rw [List.map_cons, forD_cons]
    by_cases c : p = -1
    · have f : fitI r p = true := by simp [fitI, c]
      rw [decide_eq_true c] at g1
      rw [List.filter_cons_of_pos f, List.map_cons, List.map_cons]
      exact ⟨y1, by simpa [ub_law_spots_3, outs_cons, outs_nil, g1, g2, g3, z] using ih1⟩
    · rw [decide_eq_false c] at g1
      cases m : memT p r with
      | true =>
        have f : fitI r p = false := by unfold fitI; rw [m, decide_eq_false c]; rfl
        rw [m] at g2
        rw [List.filter_cons_of_neg (by rw [f]; decide)]
        exact ⟨y0, by simpa [ub_law_spots_3, outs_cons, outs_nil, g1, g2, g3, z] using ih0⟩
      | false =>
        have f : fitI r p = true := by unfold fitI; rw [m, decide_eq_false c]; rfl
        rw [m] at g2
        rw [List.filter_cons_of_pos f, List.map_cons, List.map_cons]
        exact ⟨y1, by simpa [ub_law_spots_3, outs_cons, outs_nil, g1, g2, g3, z] using ih1⟩
theorem rows_law {us : List Int} (hu : us.length ≤ 3) (t : Int) (x0 x2 : B) : ∀ (rows : List (List Int)) (acc : List D) (x5 x6 : B), (∀ r ∈ rows, r.length ≤ 1000) → acc.length + rows.length * 4 ≤ 9000 → ∃ y5 y6,
    forD (pName 5) b_law_spots_4 (rows.map tI) [x0, .dat (.tup (us.map .int)), x2, .dat (.int t), .own acc, x5, x6, .un] = .nx [x0, .dat (.tup (us.map .int)), x2, .dat (.int t), .own (acc ++ (rowsN (plI t us) rows).map tI), y5, y6, .un]
  | [], acc, x5, x6, _, _ => ⟨x5, x6, by simp [rowsN]⟩
  | r :: rows, acc, x5, x6, hr, h => by
    rw [List.length_cons] at h
    have hp := plI_len t us hu
    obtain ⟨y6, e1⟩ := row_law r (hr r (List.mem_cons_self)) x0 (.dat (.tup (us.map .int))) x2 (.dat (.int t)) .un (plI t us) acc x6 (by omega)
    have l1 : ((((plI t us).filter (fitI r)).map fun p => r ++ [p]).map tI).length ≤ 4 := by
      rw [List.length_map, List.length_map]
      have := List.length_filter_le (fitI r) (plI t us)
      omega
    have e3 : (rowsN (plI t us) (r :: rows)).map tI = (((plI t us).filter (fitI r)).map fun p => r ++ [p]).map tI ++ (rowsN (plI t us) rows).map tI := by simp [rowsN]
    rw [e3]
    generalize hL : ((((plI t us).filter (fitI r)).map fun p => r ++ [p]).map tI) = L at *
    obtain ⟨z5, z6, e2⟩ := rows_law hu t x0 x2 rows (acc ++ L) (.dat (tI r)) y6 (fun y m => hr y (List.mem_cons_of_mem _ m)) (by rw [List.length_append]; omega)
    refine ⟨z5, z6, ?_⟩
    have e4 := pl_law hu t x0 x2 (.own acc) (.dat (tI r)) x6 us.length 0 [] (by omega) (by rw [List.length_nil]; omega)
    rw [List.nil_append, List.drop_zero] at e4
    have hr1 : rng1 [.int (us.length : Int)] = some (rngD 0 us.length) := by
      have := rng1_ok (us.length : Int) (rngOk_of (by omega) (by omega))
      simpa using this
    have g1 : gAdd (.lst [.int (-1)]) (.lst ((whI t 0 us).map .int)) = some (.own ((plI t us).map .int)) := by
      have wl := whI_len t us 0
      rw [gAdd_lst (by rw [List.length_map, List.length_singleton]; omega)]
      rfl
    have e4' : lcD (pName 7) c_law_spots_2 e_law_spots_1 [7] (rngD 0 us.length) [] [x0, .dat (.tup (us.map .int)), x2, .dat (.int t), .own acc, .dat (tI r), x6, .un] = _ := e4
    rw [List.map_cons, forD_cons]
    rw [← List.append_assoc, ← e2]
    simp [ub_law_spots_4, outs_cons, outs_nil, hr1, e4', g1, wipeE, restE, e1]
theorem lspots_loop {us : List Int} (hu : us.length ≤ 3) (x0 : B) : ∀ (ts : List Int) (rows : List (List Int)) (k : Nat) (x3 x4 x5 x6 : B), Rws k rows → k + ts.length ≤ 3 → ∃ y3 y4 y5 y6,
    forD (pName 3) b_law_spots_5 (ts.map .int) [x0, .dat (.tup (us.map .int)), .dat (.lst (rows.map tI)), x3, x4, x5, x6, .un] = .nx [x0, .dat (.tup (us.map .int)), .dat (.lst ((ts.foldl (fun rows t => rowsN (plI t us) rows) rows).map tI)), y3, y4, y5, y6, .un]
  | [], rows, k, x3, x4, x5, x6, _, _ => ⟨x3, x4, x5, x6, rfl⟩
  | t :: ts, rows, k, x3, x4, x5, x6, h, hk => by
    rw [List.length_cons] at hk
    have hn := h.next t hu
    have hr : rows.length ≤ 64 := Nat.le_trans h.ln (Nat.pow_le_pow_right (by decide) (show k ≤ 3 by omega))
    obtain ⟨y5, y6, e1⟩ := rows_law hu t x0 (.dat (.lst (rows.map tI))) rows [] x5 x6 (fun r m => by rw [h.rl r m]; omega) (by rw [List.length_nil]; omega)
    rw [List.nil_append] at e1
    obtain ⟨z3, z4, z5, z6, e⟩ := lspots_loop hu x0 ts (rowsN (plI t us) rows) (k + 1) (.dat (.int t)) .un y5 y6 hn (by omega)
    refine ⟨z3, z4, z5, z6, ?_⟩
    rw [List.map_cons, forD_cons, List.foldl_cons, ← e]
    simp [ub_law_spots_5, outs_cons, outs_nil, e1]
theorem law_spots_eq {ts us : List Int} (ht : ts.length ≤ 3) (hu : us.length ≤ 3) : f_law_spots [.dat (tI ts), .dat (tI us)] = .ok (.dat (.lst ((spotsL ts us).map tI))) [.un, .un] := by
  obtain ⟨y3, y4, y5, y6, e⟩ := lspots_loop hu (.dat (.tup (ts.map .int))) ts [[]] 0 .un .un .un .un rws_0 (by omega)
  have : ([[]] : List (List Int)).map tI = [.tup []] := rfl
  rw [this] at e
  simp [f_law_spots, toF_at, m_law_spots, outs_cons, outs_nil, tI]
  simp [e, outs_cons, outs_nil, spotsL]
end Law
set_option Elab.async false
set_option linter.all false
set_option maxRecDepth 100000
set_option maxHeartbeats 4000000
namespace Law
open PySem PySem.Spec L2 Dl
open PyProof.Rows hiding St
def eS (q : Int × List Int) : D := .tup [.int q.1, tI q.2]
def prD (p : List Int × D) : D := .tup [.tup (p.1.map .int), p.2]
def allL (us : List Int) : Nat → List (List Int × D) → List (Int × List Int)
  | _, [] => []
  | k, p :: PG => (spotsL p.1 us).map (fun r => ((k : Int), r)) ++ allL us (k + 1) PG
theorem spots_len {ts us : List Int} (ht : ts.length ≤ 3) (hu : us.length ≤ 3) : (spotsL ts us).length ≤ 64 := by
  have h := Rws.spots (k := 0) hu ts [[]] 0 rws_0
  exact Nat.le_trans h.ln (Nat.pow_le_pow_right (by decide) (show 0 + ts.length ≤ 3 by omega))
theorem allL_len {us : List Int} (hu : us.length ≤ 3) : ∀ (PG : List (List Int × D)) (k : Nat), (∀ p ∈ PG, p.1.length ≤ 3) → (allL us k PG).length ≤ 64 * PG.length
  | [], k, _ => by simp [allL]
  | p :: PG, k, h => by
    have h1 := spots_len (h p List.mem_cons_self) hu
    have h2 := allL_len hu PG (k + 1) fun q m => h q (List.mem_cons_of_mem _ m)
    rw [allL, List.length_append, List.length_map, List.length_cons]
    omega
theorem in_all (k : Nat) (x0 x1 x2 x3 x5 : B) : ∀ (rows : List (List Int)) (acc : List D), acc.length + rows.length ≤ 9000 →
    lcD (pName 6) tYs e_all_sights_1 [6] (rows.map tI) acc [x0, x1, x2, x3, .dat (.int (k : Int)), x5, .un] = .ok (acc ++ (rows.map fun r => ((k : Int), r)).map eS, [x0, x1, x2, x3, .dat (.int (k : Int)), x5, .un])
  | [], acc, _ => by simp
  | r :: rows, acc, h => by
    rw [List.length_cons] at h
    have z : acc.length < sizeLine := by rw [sizeLine_eq]; omega
    have ih := in_all k x0 x1 x2 x3 x5 rows (acc ++ [eS ((k : Int), r)]) (by rw [List.length_append, List.length_singleton]; omega)
    rw [List.map_cons, lcD_cons, List.map_cons, List.map_cons]
    simpa [ue_all_sights_1, eS, z, wipeE] using ih
theorem all2 {us : List Int} (hu : us.length ≤ 3) (x0 x1 x3 : B) : ∀ (PG : List (List Int × D)) (k : Nat) (acc : List D), (∀ p ∈ PG, p.1.length ≤ 3) → acc.length + PG.length * 64 ≤ 9000 →
    lcD2 (pTup [(pName 4), (pName 5)]) tYs (iSeq (cO (cCall f_all_spots (aCons (cO (c2 gIx (cNO 5) (cO (cC (.int 0))))) (aCons (cNO 2) aNil))))) (pName 6) tYs e_all_sights_1 [4, 5, 6] [6] (enumK k (PG.map prD)) acc [x0, x1, .dat (.tup (us.map .int)), x3, .un, .un, .un] = .ok (acc ++ (allL us k PG).map eS, [x0, x1, .dat (.tup (us.map .int)), x3, .un, .un, .un])
  | [], k, acc, _, _ => by simp [lcD2, allL, enumK]
  | p :: PG, k, acc, hp, h => by
    rw [List.length_cons] at h
    have h1 := spots_len (hp p List.mem_cons_self) hu
    have e0 : f_all_spots [.dat (.tup (p.1.map .int)), .dat (.tup (us.map .int))] = .ok (.dat (.lst ((spotsL p.1 us).map tI))) [.un, .un] := all_spots_eq (hp p List.mem_cons_self) hu
    have e1 := in_all k x0 x1 (.dat (.tup (us.map .int))) x3 (.dat (prD p)) (spotsL p.1 us) acc (by omega)
    have e2 := all2 hu x0 x1 x3 PG (k + 1) (acc ++ ((spotsL p.1 us).map fun r => ((k : Int), r)).map eS) (fun q m => hp q (List.mem_cons_of_mem _ m)) (by rw [List.length_append, List.length_map, List.length_map]; omega)
    have gi : gIx (prD p) (.int 0) = some (.dat (.tup (p.1.map .int))) := rfl
    generalize hX : ((spotsL p.1 us).map fun r => ((k : Int), r)).map eS = X at *
    rw [allL, List.map_append, hX, ← List.append_assoc, ← e2, List.map_cons, enumK, lcD2]
    simp [gi, e0, outs_cons, outs_nil, wipeE, e1]
theorem in_law (k : Nat) (x0 x1 x2 : B) : ∀ (rows : List (List Int)) (acc : List D), acc.length + rows.length ≤ 9000 →
    lcD (pName 4) tYs e_law_sights_1 [4] (rows.map tI) acc [x0, x1, x2, .dat (.int (k : Int)), .un] = .ok (acc ++ (rows.map fun r => ((k : Int), r)).map eS, [x0, x1, x2, .dat (.int (k : Int)), .un])
  | [], acc, _ => by simp
  | r :: rows, acc, h => by
    rw [List.length_cons] at h
    have z : acc.length < sizeLine := by rw [sizeLine_eq]; omega
    have ih := in_law k x0 x1 x2 rows (acc ++ [eS ((k : Int), r)]) (by rw [List.length_append, List.length_singleton]; omega)
    rw [List.map_cons, lcD_cons, List.map_cons, List.map_cons]
    simpa [ue_law_sights_1, eS, z, wipeE] using ih
theorem pr_at {PG : List (List Int × D)} {k : Nat} (h : k < PG.length) : gIx (.lst (PG.map prD)) (.int (k : Int)) = some (.dat (prD PG[k])) := by
  rw [gIx_lst, atI_nat', List.getElem?_map, List.getElem?_eq_getElem h]
  rfl
theorem pr_tab (p : List Int × D) : gIx (prD p) (.int 0) = some (.dat (.tup (p.1.map .int))) := rfl
theorem lall_loop {PG : List (List Int × D)} {num : Nat} (hn : num < PG.length) (hp : ∀ p ∈ PG, p.1.length ≤ 3) (h4 : PG.length ≤ 4) : ∀ (n k : Nat) (acc : List D) (x3 : B), k + n = PG.length → acc.length + n * 64 ≤ 9000 → ∃ y3,
    forD (pName 3) b_law_sights_2 (rngD (k : Int) n) [.dat (.lst (PG.map prD)), .dat (.int (num : Int)), .dat (.lst acc), x3, .un] = .nx [.dat (.lst (PG.map prD)), .dat (.int (num : Int)), .dat (.lst (acc ++ (allL PG[num].1 k (PG.drop k)).map eS)), y3, .un]
  | 0, k, acc, x3, h, _ => by
    have : PG.drop k = [] := List.drop_eq_nil_iff.mpr (by omega)
    rw [this]
    exact ⟨x3, by simp [allL, rngD_z]⟩
  | n + 1, k, acc, x3, h, h2 => by
    have hk : k < PG.length := by omega
    have hu := hp PG[num] (List.getElem_mem hn)
    have ht := hp PG[k] (List.getElem_mem hk)
    have h1 := spots_len ht hu
    have e0 : f_law_spots [.dat (.tup (PG[k].1.map .int)), .dat (.tup (PG[num].1.map .int))] = .ok (.dat (.lst ((spotsL PG[k].1 PG[num].1).map tI))) [.un, .un] := law_spots_eq ht hu
    have e1 := in_law k (.dat (.lst (PG.map prD))) (.dat (.int (num : Int))) (.dat (.lst acc)) (spotsL PG[k].1 PG[num].1) [] (by rw [List.length_nil]; omega)
    rw [List.nil_append] at e1
    obtain ⟨y3, e2⟩ := lall_loop hn hp h4 n (k + 1) (acc ++ ((spotsL PG[k].1 PG[num].1).map fun r => ((k : Int), r)).map eS) (.dat (.int (k : Int))) (by omega) (by rw [List.length_append, List.length_map, List.length_map]; omega)
    refine ⟨y3, ?_⟩
    have ed : PG.drop k = PG[k] :: PG.drop (k + 1) := List.drop_eq_getElem_cons hk
    have g1 : gAdd (.lst acc) (.lst (((spotsL PG[k].1 PG[num].1).map fun r => ((k : Int), r)).map eS)) = some (.own (acc ++ ((spotsL PG[k].1 PG[num].1).map fun r => ((k : Int), r)).map eS)) := gAdd_lst (by rw [List.length_map, List.length_map]; omega)
    rw [rngD_s, forD_cons, ed, allL, List.map_append, ← List.append_assoc, ← e2]
    generalize hX : ((spotsL PG[k].1 PG[num].1).map fun r => ((k : Int), r)).map eS = X at *
    simp [ub_law_sights_2, pr_at hk, pr_at hn, pr_tab, e0, outs_cons, outs_nil, wipeE, restE, e1, g1]
end Law
set_option Elab.async false
set_option linter.all false
set_option maxRecDepth 100000
set_option maxHeartbeats 4000000
namespace Law
open PySem PySem.Spec L2 Dl
open PyProof.Rows hiding St
def dueL (us : List Int) (PG : List (List Int × D)) : List (Int × List Int) := (allL us 0 PG).mergeSort fun a b => leD (eS a) (eS b)
theorem sortD_map (xs : List (Int × List Int)) : sortD (xs.map eS) = (xs.mergeSort fun a b => leD (eS a) (eS b)).map eS := by
  unfold sortD
  rw [List.map_mergeSort]
  exact fun a _ b _ => rfl
theorem pyL_ints : ∀ r : List Int, pyL (r.map .int) = r.map PyData.int
  | [] => rfl
  | x :: r => by rw [List.map_cons, List.map_cons, pyL, pyL_ints r]; rfl
theorem py_eS (q : Int × List Int) : py (eS q) = .tuple [.int q.1, .tuple (q.2.map .int)] := by
  unfold eS tI
  simp [py, pyL, pyL_ints]
theorem sortOk_eS {xs : List (Int × List Int)} (h : xs.length ≤ 256) : sortOk (xs.map eS) = true := by
  unfold sortOk alikeD
  rw [Bool.and_eq_true, Bool.and_eq_true, Bool.and_eq_true, Bool.or_eq_true, decide_eq_true_eq]
  refine ⟨⟨⟨List.all_eq_true.mpr fun d m => ?_, List.all_eq_true.mpr fun d m => List.all_eq_true.mpr fun e m' => ?_⟩, .inl (List.all_eq_true.mpr fun d m => ?_)⟩, by rw [List.length_map, sizeLine_eq]; omega⟩
  · obtain ⟨q, _, rfl⟩ := List.mem_map.mp m
    rw [Bool.and_eq_true, decide_eq_true_eq]
    refine ⟨?_, ?_⟩
    · unfold eS tI
      rw [shp_tup, List.all_cons, List.all_cons, List.all_nil, shn_tup]
      simp [shn_int]
    · rw [py_eS]
      simp [PyData.depth, PyData.depthAll, PySem.W.depth_ints]
  · obtain ⟨q, _, rfl⟩ := List.mem_map.mp m
    obtain ⟨q', _, rfl⟩ := List.mem_map.mp m'
    rw [py_eS, py_eS]
    simp [PySem.W.alike, PySem.W.alikeAll, PySem.W.alike_ints]
  · obtain ⟨q, _, rfl⟩ := List.mem_map.mp m
    rw [py_eS]
    rfl
theorem due_mem {us : List Int} {PG : List (List Int × D)} {q : Int × List Int} : q ∈ dueL us PG ↔ q ∈ allL us 0 PG := (List.mergeSort_perm _ _).mem_iff
theorem due_len {us : List Int} {PG : List (List Int × D)} : (dueL us PG).length = (allL us 0 PG).length := List.length_mergeSort _
theorem sorted_due {us : List Int} (hu : us.length ≤ 3) {PG : List (List Int × D)} (hp : ∀ p ∈ PG, p.1.length ≤ 3) (h4 : PG.length ≤ 4) : gSortedD [.lst ((allL us 0 PG).map eS)] = some (.own ((dueL us PG).map eS)) := by
  have h := allL_len hu PG 0 hp
  have e : gSortedD [.lst ((allL us 0 PG).map eS)] = if sortOk ((allL us 0 PG).map eS) = true then some (.own (sortD ((allL us 0 PG).map eS))) else none := rfl
  rw [e, if_pos (sortOk_eS (by omega)), sortD_map]
  rfl
theorem all_sights_eq {PG : List (List Int × D)} {num : Nat} (hn : num < PG.length) (hp : ∀ p ∈ PG, p.1.length ≤ 3) (h4 : PG.length ≤ 4) :
    f_all_sights [.dat (.lst (PG.map prD)), .dat (.int (num : Int))] = .ok (.own ((dueL PG[num].1 PG).map eS)) [.un, .un] := by
  have hu := hp PG[num] (List.getElem_mem hn)
  have e1 := all2 hu (.dat (.lst (PG.map prD))) (.dat (.int (num : Int))) .un PG 0 [] hp (by rw [List.length_nil]; omega)
  rw [List.nil_append, ← enumD_eq] at e1
  have h1 : iEnm (cNO 0) [.dat (.lst (PG.map prD)), .dat (.int (num : Int)), .dat (.tup (PG[num].1.map .int)), .un, .un, .un, .un] = .ok (enumD (PG.map prD), [.dat (.lst (PG.map prD)), .dat (.int (num : Int)), .dat (.tup (PG[num].1.map .int)), .un, .un, .un, .un]) := by simp
  have e4 := cLc2_of (vs := [4, 5, 6]) h1 e1
  have e5 := sorted_due hu hp h4
  simp [f_all_sights, toF_at, m_all_sights, outs_cons, outs_nil, pr_at hn, pr_tab, e4, restE]
  simp [e5, outs_cons, outs_nil]
theorem lall_all {PG : List (List Int × D)} {num : Nat} (hn : num < PG.length) (hp : ∀ p ∈ PG, p.1.length ≤ 3) (h4 : PG.length ≤ 4) : ∃ y3,
    forD (pName 3) b_law_sights_2 (rngD 0 PG.length) [.dat (.lst (PG.map prD)), .dat (.int (num : Int)), .dat (.lst []), .un, .un] = .nx [.dat (.lst (PG.map prD)), .dat (.int (num : Int)), .dat (.lst ((allL PG[num].1 0 PG).map eS)), y3, .un] := by
  have := lall_loop hn hp h4 PG.length 0 [] .un (by omega) (by rw [List.length_nil]; omega)
  rw [List.nil_append, List.drop_zero] at this
  exact this
theorem rng_le4 {n : Nat} (h4 : n ≤ 4) : rng1 [.int (n : Int)] = some (rngD 0 n) := by
    have := rng1_ok (n : Int) (rngOk_of (by omega) (by omega))
    simpa using this
theorem then_nx' (ρ : Ev) (g : FS) : (Out.nx ρ).then g = g ρ := rfl
theorem ls_1 {P0 : D} {num : Int} : (sSet 2 (cD (cLst aNil))) [.dat P0, .dat (.int num), .un, .un, .un] = .nx [.dat P0, .dat (.int num), .dat (.lst []), .un, .un] := rfl
theorem ls_2 {P0 L : List D} {y3 : B} {num n : Nat} (hl : P0.length = n) (hr1 : rng1 [.int (n : Int)] = some (rngD 0 n))
    (e : forD (pName 3) b_law_sights_2 (rngD 0 n) [.dat (.lst P0), .dat (.int (num : Int)), .dat (.lst []), .un, .un] = .nx [.dat (.lst P0), .dat (.int (num : Int)), .dat (.lst L), y3, .un]) : (sFor (pName 3) (iRng rng1 (aCons (cO (cCB gLen (aCons (cNO 0) aNil))) aNil)) b_law_sights_2) [.dat (.lst P0), .dat (.int (num : Int)), .dat (.lst []), .un, .un] = .nx [.dat (.lst P0), .dat (.int (num : Int)), .dat (.lst L), y3, .un] := by
  simp [hl, hr1, e]
theorem ls_3 {P0 L Z : List D} {y3 : B} {num : Nat} (e5 : gSortedD [.lst L] = some (.own Z)) : (sRet (cCB gSortedD (aCons (cNO 2) aNil))) [.dat (.lst P0), .dat (.int (num : Int)), .dat (.lst L), y3, .un] = .rt (.own Z) [.dat (.lst P0), .dat (.int (num : Int)), .dat (.lst L), y3, .un] := by
  simp [e5]
theorem ls_all {P0 L Z : List D} {y3 : B} {num n : Nat} (hl : P0.length = n) (hr1 : rng1 [.int (n : Int)] = some (rngD 0 n))
    (e : forD (pName 3) b_law_sights_2 (rngD 0 n) [.dat (.lst P0), .dat (.int (num : Int)), .dat (.lst []), .un, .un] = .nx [.dat (.lst P0), .dat (.int (num : Int)), .dat (.lst L), y3, .un])
    (e5 : gSortedD [.lst L] = some (.own Z)) : f_law_sights [.dat (.lst P0), .dat (.int (num : Int))] = .ok (.own Z) [.un, .un] := by
  have h3 := ls_1 (P0 := .lst P0) (num := (num : Int))
  have h4 := ls_2 hl hr1 e
  have h5 := ls_3 (P0 := P0) (num := num) (y3 := y3) e5
  rw [f_law_sights, toF_at, m_law_sights]
  show toR [] 2 (sSeq _ _ [.dat (.lst P0), .dat (.int (num : Int)), .un, .un, .un]) = _
  rw [e_sSeq, h3, then_nx', e_sSeq, h4, then_nx', h5]
  rfl
theorem law_sights_eq {PG : List (List Int × D)} {num : Nat} (hn : num < PG.length) (hp : ∀ p ∈ PG, p.1.length ≤ 3) (h4 : PG.length ≤ 4) :
    f_law_sights [.dat (.lst (PG.map prD)), .dat (.int (num : Int))] = .ok (.own ((dueL PG[num].1 PG).map eS)) [.un, .un] := by
  obtain ⟨y3, e⟩ := lall_all hn hp h4
  exact ls_all (List.length_map _) (rng_le4 h4) e (sorted_due (hp PG[num] (List.getElem_mem hn)) hp h4)
end Law
set_option Elab.async false
set_option linter.all false
set_option maxRecDepth 100000
namespace Law
open PySem PySem.Spec L2 Dl
open PyProof.Rows hiding St
theorem fl_law_digit (w : Well) (b : Int) : FL f_law_digit [.own w.ds, .dat (.int b)] (digT w b) (fun p => .dat (.int p.1)) (fun p => [.own p.2.ds, .un]) := fl_digit w b
def tb_law_keys (a0 : Well) (a1 : (List Int)) : TO Empty Empty ((List Int) × Well) :=
  (lt [0, 1, 2, 3] fun (v11 : (List Int)) => (TR.out ((TR.ok ()).bind fun _ => lcS (fun (v18 : ((Int × (List Int)) × Well)) => v18.1.1) (fun (v18 : ((Int × (List Int)) × Well)) => (v18.2, v18.1.2)) (fun (x12 : Int) (s16 : (Well × (List Int))) => (TR.ok true)) (fun (x12 : Int) (s16 : (Well × (List Int))) => ((digT s16.1 (s16.2.length : Int)).bind fun (v17 : (Int × Well)) => (popAtT s16.2 v17.1).bind fun (v19 : (Int × (List Int))) => .ok (v19, v17.2))) a1 (a0, v11) []) fun (v20 : ((List Int) × (Well × (List Int)))) => TO.rt (v20.1, v20.2.1)))
def t_law_keys (a0 : Well) (a1 : (List Int)) : TR ((List Int) × Well) := (tb_law_keys a0 a1).ret (fun s => nomatch s)
set_option maxHeartbeats 4000000 in
theorem js_law_keys (a0 : Well) (a1 : (List Int)) : JS (fun _ => True) (fun s : Empty => nomatch s) (fun v => (B.dat (D.tup (List.map D.int v.1)))) (fun v => [some (B.own v.2.ds), none, none, none]) [some (B.own a0.ds), some (B.dat (D.tup (List.map D.int a1))), some B.un, some B.un] m_law_keys (tb_law_keys a0 a1) (fun s => nomatch s) := by
  unfold tb_law_keys
  exact (jss_lt (v := [0, 1, 2, 3]) (b := fun (v11 : (List Int)) => (B.own (List.map D.int v11))) (ps' := fun (v11 : (List Int)) => [some (B.own a0.ds), some (B.dat (D.tup (List.map D.int a1))), some (B.own (List.map D.int v11)), some B.un]) (jp_lst (jp_acons (jp_o jp_c rfl) (jp_acons (jp_o jp_c rfl) (jp_acons (jp_o jp_c rfl) (jp_acons (jp_o jp_c rfl) jp_anil)))) rfl (len_ok rfl)) rfl (fun (v11 : (List Int)) => (js_last (jss_ret (v := fun (v20 : ((List Int) × (Well × (List Int)))) => (v20.1, v20.2.1)) (j_cb (b := fun (v20 : ((List Int) × (Well × (List Int)))) => (B.dat (D.tup (List.map D.int v20.1)))) (j_acons1 (j_o (j_lcS (inv := fun (s16 : (Well × (List Int))) => [some (B.own s16.1.ds), some (B.dat (D.tup (List.map D.int a1))), some (B.own (List.map D.int s16.2)), some B.un]) (tg := fun (x12 : Int) (s16 : (Well × (List Int))) => [some (B.own s16.1.ds), some (B.dat (D.tup (List.map D.int a1))), some (B.own (List.map D.int s16.2)), some (B.dat (D.int x12))]) (xs := fun _ => a1) (s0 := fun _ => (a0, v11)) (val := fun (v18 : ((Int × (List Int)) × Well)) => v18.1.1) (st := fun (v18 : ((Int × (List Int)) × Well)) => (v18.2, v18.1.2)) (eb := fun (v18 : ((Int × (List Int)) × Well)) => (B.dat (D.int v18.1.1))) (ed := D.int) (qe := fun (v18 : ((Int × (List Int)) × Well)) => [some (B.own v18.2.ds), some (B.dat (D.tup (List.map D.int a1))), some (B.own (List.map D.int v18.1.2)), none]) (qf := fun (s16 : (Well × (List Int))) => [some (B.own s16.1.ds), some (B.dat (D.tup (List.map D.int a1))), some (B.own (List.map D.int s16.2)), none]) (JP.j (jp_seq (jp_no 1 rfl) rfl)) (fun _ => (le_so (le_so (le_so (le_so le_nil))))) (fun (x12 : Int) (s16 : (Well × (List Int))) => (pj_name 3)) (fun (x12 : Int) (s16 : (Well × (List Int))) => (j_val (v := true) (b := fun b => b) jp_tys)) (fun (x12 : Int) (s16 : (Well × (List Int))) => (J.le (j_mutS 2 (st := fun (v17 : (Int × Well)) => v17.2) (dd := fun (v19 : (Int × (List Int))) => (D.int v19.1)) (ds' := fun (v19 : (Int × (List Int))) => List.map D.int v19.2) (q' := fun (v18 : ((Int × (List Int)) × Well)) => [some (B.own v18.2.ds), some (B.dat (D.tup (List.map D.int a1))), some (B.own (List.map D.int v18.1.2)), some (B.dat (D.int x12))]) rfl (j_acons1 (j_o (jp_call (q' := fun (v17 : (Int × Well)) => [some (B.own v17.2.ds), some (B.dat (D.tup (List.map D.int a1))), some (B.own (List.map D.int s16.2)), some (B.dat (D.int x12))]) (jp_acons (jp_nv 0 rfl rfl) (jp_acons (jp_o (jp_cb (jp_acons (jp_nv 2 rfl rfl) jp_anil) rfl (q_lenL D.int s16.2)) rfl) jp_anil)) rfl (fl_law_digit s16.1 (s16.2.length : Int)) (fun _ => rfl) (fun _ => LeP.refl _) (fun _ _ => trivial)) (fun _ => rfl)) (fun (v17 : (Int × Well)) => jp_anil)) (fun _ => rfl) (fun _ => rfl) (fun (v17 : (Int × Well)) => (f_popAt D.int s16.2 v17.1)) (fun _ _ => rfl)) (fun _ => (le_so (le_so (le_so (le_no le_nil))))))) (fun _ => rfl) (fun _ _ => (le_so (le_so (le_so (le_so le_nil))))) (fun _ => (le_so (le_so (le_so (le_so le_nil))))) (fun _ => (le_so (le_so (le_so (le_no le_nil)))))) (fun _ => rfl)) (fun (v20 : ((List Int) × (Well × (List Int)))) => jp_anil)) (fun _ => rfl) (fun (v20 : ((List Int) × (Well × (List Int)))) => rfl)) (fun _ => rfl) (fun _ => (le_so (le_no (le_no (le_no le_nil)))))))))
theorem fl_law_keys (a0 : Well) (a1 : (List Int)) : FL f_law_keys [(B.own a0.ds), (B.dat (D.tup (List.map D.int a1)))] (t_law_keys a0 a1) (fun v => (B.dat (D.tup (List.map D.int v.1)))) (fun v => [((B.own v.2.ds) : B), .un]) :=
  fl_def (js_law_keys a0 a1) rfl (fun s => nomatch s) (fun s => nomatch s) (fun _ => rfl) rfl
def tl_law_sight_of_1 (a2 : (List Int)) (a4 : (List Int)) (x44 : Int) (a0 : (List ((List Int) × D))) (a1 : Int) (a3 : Int) (x47 : Int) (s46 : Int) : TO Int Int ((Int × (List Int))) :=
  (TR.out ((((ixT a2 x47).bind fun (v48 : Int) => (ixT a4 x44).bind fun (v49 : Int) => .ok (v48, v49)).bind fun (v50 : (Int × Int)) => .ok (decide (v50.1 = v50.2))).bind fun (v59 : Bool) => if v59 = true then ((((ixT a0 a1).bind fun (v51 : ((List Int) × D)) => (ixT v51.1 x47)).bind fun (v52 : Int) => ((ixT a0 a3).bind fun (v53 : ((List Int) × D)) => (ixT v53.1 x44)).bind fun (v54 : Int) => .ok (v52, v54)).bind fun (v55 : (Int × Int)) => .ok (decide (v55.1 = v55.2))) else (TR.ok false)) fun (v58 : Bool) => if v58 = true then (TO.nx x47) else (TO.nx s46))
def tl_law_sight_of_2 (a2 : (List Int)) (a4 : (List Int)) (a0 : (List ((List Int) × D))) (a1 : Int) (a3 : Int) (x44 : Int) (s43 : (List Int)) : TO (List Int) (List Int) ((Int × (List Int))) :=
  (TR.out (rngT1 (a2.length : Int)) fun (v45 : (List Int)) => TO.then (forT (tl_law_sight_of_1 a2 a4 x44 a0 a1 a3) v45 (-1)) fun (s60 : Int) => (TR.out (appT s43 s60) fun (v61 : (List Int)) => (TO.nx v61)))
def tb_law_sight_of (a0 : (List ((List Int) × D))) (a1 : Int) (a2 : (List Int)) (a3 : Int) (a4 : (List Int)) : TO Empty Empty ((Int × (List Int))) :=
  (TR.out (rngT1 (a4.length : Int)) fun (v42 : (List Int)) => TO.then (forT (tl_law_sight_of_2 a2 a4 a0 a1 a3) v42 []) fun (s62 : (List Int)) => (TO.rt (a3, s62)))
def t_law_sight_of (a0 : (List ((List Int) × D))) (a1 : Int) (a2 : (List Int)) (a3 : Int) (a4 : (List Int)) : TR ((Int × (List Int))) := (tb_law_sight_of a0 a1 a2 a3 a4).ret (fun s => nomatch s)
set_option maxHeartbeats 4000000 in
theorem js_law_sight_of (a0 : (List ((List Int) × D))) (a1 : Int) (a2 : (List Int)) (a3 : Int) (a4 : (List Int)) : JS (fun _ => True) (fun s : Empty => nomatch s) (fun v => (B.dat (D.tup [(D.int v.1), (D.tup (List.map D.int v.2))]))) (fun v => [none, none, none, none, none, none, none, none, none]) [some (B.dat (D.lst (List.map (eP (eT D.int) (fun d : D => d)) a0))), some (B.dat (D.int a1)), some (B.dat (D.tup (List.map D.int a2))), some (B.dat (D.int a3)), some (B.dat (D.tup (List.map D.int a4))), some B.un, some B.un, some B.un, some B.un] m_law_sight_of (tb_law_sight_of a0 a1 a2 a3 a4) (fun s => nomatch s) := by
  unfold tb_law_sight_of
  exact (jssp_setE (ps' := [some (B.dat (D.lst (List.map (eP (eT D.int) (fun d : D => d)) a0))), some (B.dat (D.int a1)), some (B.dat (D.tup (List.map D.int a2))), some (B.dat (D.int a3)), some (B.dat (D.tup (List.map D.int a4))), some (B.own (List.map D.int [])), some B.un, some B.un, some B.un]) (jp_lst jp_anil rfl (len_ok rfl)) rfl (jss_for (inv := fun (s43 : (List Int)) => [some (B.dat (D.lst (List.map (eP (eT D.int) (fun d : D => d)) a0))), some (B.dat (D.int a1)), some (B.dat (D.tup (List.map D.int a2))), some (B.dat (D.int a3)), some (B.dat (D.tup (List.map D.int a4))), some (B.own (List.map D.int s43)), none, none, none]) (tg := fun (x44 : Int) (s43 : (List Int)) => [some (B.dat (D.lst (List.map (eP (eT D.int) (fun d : D => d)) a0))), some (B.dat (D.int a1)), some (B.dat (D.tup (List.map D.int a2))), some (B.dat (D.int a3)), some (B.dat (D.tup (List.map D.int a4))), some (B.own (List.map D.int s43)), some (B.dat (D.int x44)), none, none]) (en := D.int) (xs := fun (v42 : (List Int)) => v42) (s0 := fun (v42 : (List Int)) => []) (j_rng (jp_acons (jp_o (jp_cb (jp_acons (jp_no 4 rfl) jp_anil) rfl (q_lenT D.int a4)) rfl) jp_anil) rfl (f_rng1 (a4.length : Int))) (fun _ => (le_so (le_so (le_so (le_so (le_so (le_so (le_no (le_no (le_no le_nil)))))))))) (fun (x44 : Int) (s43 : (List Int)) => (pj_name 6)) (fun (x44 : Int) (s43 : (List Int)) => (jssp_setE (ps' := [some (B.dat (D.lst (List.map (eP (eT D.int) (fun d : D => d)) a0))), some (B.dat (D.int a1)), some (B.dat (D.tup (List.map D.int a2))), some (B.dat (D.int a3)), some (B.dat (D.tup (List.map D.int a4))), some (B.own (List.map D.int s43)), some (B.dat (D.int x44)), some (B.dat (D.int (-1))), none]) (jp_d (jp_c1 (jp_o jp_c rfl) rfl rfl) rfl) rfl (jss_for (inv := fun (s46 : Int) => [some (B.dat (D.lst (List.map (eP (eT D.int) (fun d : D => d)) a0))), some (B.dat (D.int a1)), some (B.dat (D.tup (List.map D.int a2))), some (B.dat (D.int a3)), some (B.dat (D.tup (List.map D.int a4))), some (B.own (List.map D.int s43)), some (B.dat (D.int x44)), some (B.dat (D.int s46)), none]) (tg := fun (x47 : Int) (s46 : Int) => [some (B.dat (D.lst (List.map (eP (eT D.int) (fun d : D => d)) a0))), some (B.dat (D.int a1)), some (B.dat (D.tup (List.map D.int a2))), some (B.dat (D.int a3)), some (B.dat (D.tup (List.map D.int a4))), some (B.own (List.map D.int s43)), some (B.dat (D.int x44)), some (B.dat (D.int s46)), some (B.dat (D.int x47))]) (en := D.int) (xs := fun (v45 : (List Int)) => v45) (s0 := fun (v45 : (List Int)) => (-1)) (j_rng (jp_acons (jp_o (jp_cb (jp_acons (jp_no 2 rfl) jp_anil) rfl (q_lenT D.int a2)) rfl) jp_anil) rfl (f_rng1 (a2.length : Int))) (fun _ => (le_so (le_so (le_so (le_so (le_so (le_so (le_so (le_so (le_no le_nil)))))))))) (fun (x47 : Int) (s46 : Int) => (pj_name 8)) (fun (x47 : Int) (s46 : Int) => (js_last (jss_ifE (cc := fun (v58 : Bool) => v58) (j_andT2 (J.map (g := fun (v50 : (Int × Int)) => (decide (v50.1 = v50.2))) (b' := (fun b => b)) (j_t (c := fun (v50 : (Int × Int)) => (decide (v50.1 = v50.2))) (j_c2 (b := fun (v50 : (Int × Int)) => (B.dat (D.bl (decide (v50.1 = v50.2))))) (j_acons3 (fun (v48 : Int) (v49 : Int) => (v48, v49)) (os' := fun (v50 : (Int × Int)) => [.val (D.int v50.1), .val (D.int v50.2)]) (q' := fun (v50 : (Int × Int)) => [some (B.dat (D.lst (List.map (eP (eT D.int) (fun d : D => d)) a0))), some (B.dat (D.int a1)), some (B.dat (D.tup (List.map D.int a2))), some (B.dat (D.int a3)), some (B.dat (D.tup (List.map D.int a4))), some (B.own (List.map D.int s43)), some (B.dat (D.int x44)), some (B.dat (D.int s46)), some (B.dat (D.int x47))]) (j_o (j_c2f (b := fun (v48 : Int) => (B.dat (D.int v48))) (jp_no 2 rfl) (jp_no 8 rfl) rfl rfl (f_ixT D.int a2 x47)) (fun _ => rfl)) (fun (v48 : Int) => (j_acons1 (j_o (j_c2f (b := fun (v49 : Int) => (B.dat (D.int v49))) (jp_no 4 rfl) (jp_no 6 rfl) rfl rfl (f_ixT D.int a4 x44)) (fun _ => rfl)) (fun (v49 : Int) => jp_anil))) (fun _ _ => rfl) (fun _ _ => rfl)) (fun _ => rfl) (fun _ => rfl) (fun (v50 : (Int × Int)) => (q_eq (e := D.int) (gd_I _) v50.1 v50.2)))) (fun _ => rfl) (fun _ => LeP.refl _)) (J.map (g := fun (v55 : (Int × Int)) => (decide (v55.1 = v55.2))) (b' := (fun b => b)) (j_t (c := fun (v55 : (Int × Int)) => (decide (v55.1 = v55.2))) (j_c2 (b := fun (v55 : (Int × Int)) => (B.dat (D.bl (decide (v55.1 = v55.2))))) (j_acons3 (fun (v52 : Int) (v54 : Int) => (v52, v54)) (os' := fun (v55 : (Int × Int)) => [.val (D.int v55.1), .val (D.int v55.2)]) (q' := fun (v55 : (Int × Int)) => [some (B.dat (D.lst (List.map (eP (eT D.int) (fun d : D => d)) a0))), some (B.dat (D.int a1)), some (B.dat (D.tup (List.map D.int a2))), some (B.dat (D.int a3)), some (B.dat (D.tup (List.map D.int a4))), some (B.own (List.map D.int s43)), some (B.dat (D.int x44)), some (B.dat (D.int s46)), some (B.dat (D.int x47))]) (j_o (j_c2e (b := fun (v52 : Int) => (B.dat (D.int v52))) (q' := fun _ => [some (B.dat (D.lst (List.map (eP (eT D.int) (fun d : D => d)) a0))), some (B.dat (D.int a1)), some (B.dat (D.tup (List.map D.int a2))), some (B.dat (D.int a3)), some (B.dat (D.tup (List.map D.int a4))), some (B.own (List.map D.int s43)), some (B.dat (D.int x44)), some (B.dat (D.int s46)), some (B.dat (D.int x47))]) (j_acons1 (j_o (j_c2 (b := fun (v51 : ((List Int) × D)) => (B.dat (D.tup (List.map D.int v51.1)))) (j_acons1 (j_o (j_c2f (b := fun (v51 : ((List Int) × D)) => (B.dat (D.tup [(D.tup (List.map D.int v51.1)), v51.2]))) (jp_no 0 rfl) (jp_no 1 rfl) rfl rfl (f_ixL (eP (eT D.int) (fun d : D => d)) a0 a1)) (fun _ => rfl)) (fun (v51 : ((List Int) × D)) => (jp_acons (jp_o jp_c rfl) jp_anil))) (fun _ => rfl) (fun _ => rfl) (fun (v51 : ((List Int) × D)) => rfl)) (fun _ => rfl)) (fun (v51 : ((List Int) × D)) => (jp_acons (jp_no 8 rfl) jp_anil))) (fun _ => rfl) (fun _ => rfl) (fun (v51 : ((List Int) × D)) => (f_ixT D.int v51.1 x47)) (fun _ _ => LeP.refl _)) (fun _ => rfl)) (fun (v52 : Int) => (j_acons1 (j_o (j_c2e (b := fun (v54 : Int) => (B.dat (D.int v54))) (q' := fun _ => [some (B.dat (D.lst (List.map (eP (eT D.int) (fun d : D => d)) a0))), some (B.dat (D.int a1)), some (B.dat (D.tup (List.map D.int a2))), some (B.dat (D.int a3)), some (B.dat (D.tup (List.map D.int a4))), some (B.own (List.map D.int s43)), some (B.dat (D.int x44)), some (B.dat (D.int s46)), some (B.dat (D.int x47))]) (j_acons1 (j_o (j_c2 (b := fun (v53 : ((List Int) × D)) => (B.dat (D.tup (List.map D.int v53.1)))) (j_acons1 (j_o (j_c2f (b := fun (v53 : ((List Int) × D)) => (B.dat (D.tup [(D.tup (List.map D.int v53.1)), v53.2]))) (jp_no 0 rfl) (jp_no 3 rfl) rfl rfl (f_ixL (eP (eT D.int) (fun d : D => d)) a0 a3)) (fun _ => rfl)) (fun (v53 : ((List Int) × D)) => (jp_acons (jp_o jp_c rfl) jp_anil))) (fun _ => rfl) (fun _ => rfl) (fun (v53 : ((List Int) × D)) => rfl)) (fun _ => rfl)) (fun (v53 : ((List Int) × D)) => (jp_acons (jp_no 6 rfl) jp_anil))) (fun _ => rfl) (fun _ => rfl) (fun (v53 : ((List Int) × D)) => (f_ixT D.int v53.1 x44)) (fun _ _ => LeP.refl _)) (fun _ => rfl)) (fun (v54 : Int) => jp_anil))) (fun _ _ => rfl) (fun _ _ => rfl)) (fun _ => rfl) (fun _ => rfl) (fun (v55 : (Int × Int)) => (q_eq (e := D.int) (gd_I _) v55.1 v55.2)))) (fun _ => rfl) (fun _ => LeP.refl _))) (fun (v58 : Bool) => (jssp_setE (ps' := [some (B.dat (D.lst (List.map (eP (eT D.int) (fun d : D => d)) a0))), some (B.dat (D.int a1)), some (B.dat (D.tup (List.map D.int a2))), some (B.dat (D.int a3)), some (B.dat (D.tup (List.map D.int a4))), some (B.own (List.map D.int s43)), some (B.dat (D.int x44)), some (B.dat (D.int x47)), some (B.dat (D.int x47))]) (jp_d (jp_n 8 rfl) rfl) rfl (js_end (le_so (le_so (le_so (le_so (le_so (le_so (le_so (le_so (le_no le_nil)))))))))))) (fun (v58 : Bool) => (jss_nil (js_end (le_so (le_so (le_so (le_so (le_so (le_so (le_so (le_so (le_no le_nil))))))))))))))) (fun (s60 : Int) => (js_last (jss_eE (ps' := fun (v61 : (List Int)) => [some (B.dat (D.lst (List.map (eP (eT D.int) (fun d : D => d)) a0))), some (B.dat (D.int a1)), some (B.dat (D.tup (List.map D.int a2))), some (B.dat (D.int a3)), some (B.dat (D.tup (List.map D.int a4))), some (B.own (List.map D.int v61)), some (B.dat (D.int x44)), some (B.dat (D.int s60)), none]) (j_append 5 (e := D.int) rfl (jp_n 7 rfl) rfl) (fun _ => rfl) (fun (v61 : (List Int)) => (js_end (le_so (le_so (le_so (le_so (le_so (le_so (le_no (le_no (le_no le_nil))))))))))))))))) (fun (s62 : (List Int)) => (js_last (jssp_ret (v := (a3, s62)) (jp_tup (jp_acons (jp_no 3 rfl) (jp_acons (jp_o (jp_cb (jp_acons (jp_nv 5 rfl rfl) jp_anil) rfl rfl) rfl) jp_anil)) rfl (len_ok rfl)) (le_no (le_no (le_no (le_no (le_no (le_no (le_no (le_no (le_no le_nil))))))))))))))
theorem fl_law_sight_of (a0 : (List ((List Int) × D))) (a1 : Int) (a2 : (List Int)) (a3 : Int) (a4 : (List Int)) : FL f_law_sight_of [(B.dat (D.lst (List.map (eP (eT D.int) (fun d : D => d)) a0))), (B.dat (D.int a1)), (B.dat (D.tup (List.map D.int a2))), (B.dat (D.int a3)), (B.dat (D.tup (List.map D.int a4)))] (t_law_sight_of a0 a1 a2 a3 a4) (fun v => (B.dat (D.tup [(D.int v.1), (D.tup (List.map D.int v.2))]))) (fun v => [.un, .un, .un, .un, .un]) :=
  fl_def (js_law_sight_of a0 a1 a2 a3 a4) rfl (fun s => nomatch s) (fun s => nomatch s) (fun _ => rfl) rfl
end Law
set_option Elab.async false
set_option linter.all false
set_option maxRecDepth 100000
set_option maxHeartbeats 4000000
namespace Law
open PySem PySem.Spec L2 Dl
open PyProof.Rows hiding St
theorem stl_c (d : D) (ρ : Ev) (h : flatD d = true) : stl (cC d) ρ = some d := by
  unfold stl cC
  simp [h]
theorem tup2_ok {d : D} (hd : flatD d = true) {f : FE} {zs : List D} {ρ ρ' : Ev} (h : f ρ = .ok (.own zs, ρ')) : cTup2O (stl (cC d)) f ρ = .ok (.ext (.tup [.fz d, .lst (zs.map .fz)]), ρ') := by
  unfold cTup2O
  rw [stl_c d ρ hd, h]
  rfl
theorem tup2_er {d : D} (hd : flatD d = true) {f : FE} {x : Exc} {ρ ρ' : Ev} (h : f ρ = .err x ρ') : cTup2O (stl (cC d)) f ρ = .err x ρ' := by
  unfold cTup2O
  rw [stl_c d ρ hd, h]
  rfl
theorem sub1 : subX R_cls "NoPrograms" "NoPrograms" = true := by decide +kernel
theorem sub2 : subX R_cls "NoNumber" "NoPrograms" = false := by decide +kernel
theorem sub3 : subX R_cls "NoNumber" "NoNumber" = true := by decide +kernel
theorem sub4 : subX R_cls "NoPrograms" "NoNumber" = false := by decide +kernel
theorem sn_bad {d e : D} (h : niceB d = true) (hs : noScr d = true) (no : areProgD d = false) : f_sure_program_number [.dat d, .dat e] = .er ⟨"NoPrograms", none⟩ [.un, .un] := by
  simp [f_sure_program_number, toF_at, m_sure_program_number, f_sure_programs, m_sure_programs, outs_cons, outs_nil, are_programs_eq h hs, no]
theorem sn_odd {ds : List D} {e : D} (h : niceB (.lst ds) = true) (he : niceB e = true) (hs : noScr (.lst ds) = true) (ok : areProgD (.lst ds) = true) (no : isFromD e 0 ((ds.length : Int) - 1) = false) : f_sure_program_number [.dat (.lst ds), .dat e] = .er ⟨"NoNumber", none⟩ [.un, .un] := by
  simp [f_sure_program_number, toF_at, m_sure_program_number, f_sure_programs, m_sure_programs, outs_cons, outs_nil, are_programs_eq h hs, ok, is_from_eq he, no]
theorem sn_ok {ds : List D} {e : D} (h : niceB (.lst ds) = true) (he : niceB e = true) (hs : noScr (.lst ds) = true) (ok : areProgD (.lst ds) = true) (yes : isFromD e 0 ((ds.length : Int) - 1) = true) : f_sure_program_number [.dat (.lst ds), .dat e] = .ok (.dat .non) [.un, .un] := by
  simp [f_sure_program_number, toF_at, m_sure_program_number, f_sure_programs, m_sure_programs, outs_cons, outs_nil, are_programs_eq h hs, ok, is_from_eq he, yes]
theorem told_bad {d e : D} (h : niceB d = true) (hs : noScr d = true) (no : areProgD d = false) : f_law_told [.dat d, .dat e] = .ok (.dat (.tup [.str "programs", .bl false])) [.un, .un] := by
  have e1 := sn_bad (e := e) h hs no
  have e2 : f_sights [.dat d, .dat e] = .er ⟨"NoPrograms", none⟩ [.un, .un] := by simp [f_sights, toF_at, m_sights, e1, outs_cons, outs_nil]
  have e3 := tup2_er (d := .str "told") rfl (f := cCall f_sights (aCons (cNO 0) (aCons (cNO 1) aNil))) (ρ := [.dat d, .dat e, .un]) (x := ⟨"NoPrograms", none⟩) (ρ' := [.dat d, .dat e, .un]) (by simp [e2])
  simp [f_law_told, toF_at, m_law_told, sTry2, e3, sub1, sub4, outs_cons, outs_nil, wipeO]
theorem told_odd {ds : List D} {e : D} (h : niceB (.lst ds) = true) (he : niceB e = true) (hs : noScr (.lst ds) = true) (ok : areProgD (.lst ds) = true) (no : isFromD e 0 ((ds.length : Int) - 1) = false) : f_law_told [.dat (.lst ds), .dat e] = .ok (.dat (.tup [.str "number", .bl false])) [.un, .un] := by
  have e1 := sn_odd h he hs ok no
  have e2 : f_sights [.dat (.lst ds), .dat e] = .er ⟨"NoNumber", none⟩ [.un, .un] := by simp [f_sights, toF_at, m_sights, e1, outs_cons, outs_nil]
  have e3 := tup2_er (d := .str "told") rfl (f := cCall f_sights (aCons (cNO 0) (aCons (cNO 1) aNil))) (ρ := [.dat (.lst ds), .dat e, .un]) (x := ⟨"NoNumber", none⟩) (ρ' := [.dat (.lst ds), .dat e, .un]) (by simp [e2])
  simp [f_law_told, toF_at, m_law_told, sTry2, e3, sub2, sub3, outs_cons, outs_nil, wipeO]
theorem told_ok {ds zs : List D} {e : D} (h : niceB (.lst ds) = true) (he : niceB e = true) (hs : noScr (.lst ds) = true) (ok : areProgD (.lst ds) = true) (yes : isFromD e 0 ((ds.length : Int) - 1) = true) (hz : f_all_sights [.dat (.lst ds), .dat e] = .ok (.own zs) [.un, .un]) : f_law_told [.dat (.lst ds), .dat e] = .ok (.ext (.tup [.fz (.str "told"), .lst (zs.map .fz)])) [.un, .un] := by
  have e1 := sn_ok h he hs ok yes
  have e2 : f_sights [.dat (.lst ds), .dat e] = .ok (.own zs) [.un, .un] := by simp [f_sights, toF_at, m_sights, e1, hz, outs_cons, outs_nil]
  have e3 := tup2_ok (d := .str "told") rfl (f := cCall f_sights (aCons (cNO 0) (aCons (cNO 1) aNil))) (ρ := [.dat (.lst ds), .dat e, .un]) (zs := zs) (ρ' := [.dat (.lst ds), .dat e, .un]) (by simp [e2])
  simp [f_law_told, toF_at, m_law_told, sTry2, e3, outs_cons, outs_nil]
end Law
set_option Elab.async false
set_option linter.all false
set_option maxRecDepth 100000
set_option maxHeartbeats 4000000
namespace Law
open PySem PySem.Spec L2 Dl
open PyProof.Rows hiding St
theorem is_loop (x0 : B) : ∀ (is : List Int) (x1 : B), ∃ y1, forD (pName 1) b_law_is_sight_1 (is.map .int) [x0, x1] = .nx [x0, y1]
  | [], x1 => ⟨x1, rfl⟩
  | i :: is, x1 => by
    obtain ⟨y1, e⟩ := is_loop x0 is (.dat (.int i))
    refine ⟨y1, ?_⟩
    rw [List.map_cons, forD_cons]
    simpa [ub_law_is_sight_1, outs_cons, outs_nil, isTy] using e
theorem is_sight_eq (q : Int × List Int) (h : q.2.length ≤ 10) : f_law_is_sight [.dat (eS q)] = .ok (.dat (.bl true)) [.un] := by
  obtain ⟨y1, e⟩ := is_loop (.dat (eS q)) (q.1 :: q.2) .un
  have g0 : gIx (eS q) (.int 0) = some (.dat (.int q.1)) := rfl
  have g1 : gIx (eS q) (.int 1) = some (.dat (.tup (q.2.map .int))) := rfl
  have g2 : gAdd (.tup [.int q.1]) (.tup (q.2.map .int)) = some (.dat (.tup ((q.1 :: q.2).map .int))) := by
    rw [gAdd_tup (by rw [List.length_map, List.length_singleton]; omega)]
    rfl
  have g3 : gLen [eS q] = some (.dat (.int 2)) := rfl
  have g4 : gIsi [eS q, .opq (.ty "tuple")] = some (.dat (.bl true)) := rfl
  generalize eS q = T at *
  simp [f_law_is_sight, toF_at, m_law_is_sight, outs_cons, outs_nil, g0, g1, g2, g3, g4, isTy]
  simp at e
  simp [e, outs_cons, outs_nil]
end Law
set_option Elab.async false
set_option linter.all false
set_option maxRecDepth 100000
set_option maxHeartbeats 4000000
namespace Law
open PySem PySem.Spec L2 Dl
open PyProof.Rows hiding St
theorem gd_eS : Gd 5 eS := gd_P (gd_I 4) (gd_T (gd_I 3))
theorem ne_self (zs : List (Int × List Int)) : gNe (.lst (zs.map eS)) (.lst (zs.map eS)) = some (.dat (.bl false)) := by
  have := q_ne (e := eL eS) ((gd_L gd_eS).up (by decide)) zs zs
  rw [this]
  simp
theorem frzL_fz : ∀ ds : List D, frzL (ds.map .fz) = ds
  | [] => by unfold frzL; rfl
  | d :: ds => by
    rw [List.map_cons]
    unfold frzL
    rw [frzL_fz ds]
    rfl
theorem frz_told (d : D) (zs : List D) : frzB (.ext (.tup [.fz d, .lst (zs.map .fz)])) = .dat (.tup [d, .lst zs]) := by
  show B.dat (frzO (.tup [.fz d, .lst (zs.map .fz)])) = _
  unfold frzO frzL frzL frzL frzO
  rw [frzL_fz]
theorem lc_sights (x0 x1 x2 x3 x4 x5 : B) : ∀ (zs : List (Int × List Int)), (∀ q ∈ zs, q.2.length ≤ 10) →
    lcD (pName 6) c_law_right_2 e_law_right_1 [6] (zs.map eS) [] [x0, x1, x2, x3, x4, x5, .un, .un, .un] = .ok ([], [x0, x1, x2, x3, x4, x5, .un, .un, .un])
  | [], _ => by simp
  | q :: zs, h => by
    have e1 := is_sight_eq q (h q List.mem_cons_self)
    have ih := lc_sights x0 x1 x2 x3 x4 x5 zs fun y m => h y (List.mem_cons_of_mem _ m)
    rw [List.map_cons, lcD_cons]
    generalize eS q = T at *
    simpa [uc_law_right_2, e1, outs_cons, outs_nil, wipeE] using ih
theorem ta_1 (w : Well) {P0 : List D} {n t : Int} {Z : D} {x5 b : B} (e : f_law_told [.dat (.lst P0), .dat (.int n)] = .ok b [.un, .un]) :
    q_law_right_1 [.own w.ds, .dat (.lst P0), .dat (.int n), .dat Z, .dat (.int t), x5, .un, .un, .un] = .nx [.own w.ds, .dat (.lst P0), .dat (.int n), .dat Z, .dat (.int t), b, .un, .un, .un] := by
  simp [e, outs_cons, outs_nil]
theorem fz_map (w : Well) {P0 Z : List D} {n t : Int} {b : B} (fr : frzB b = .dat (.tup [.str "told", .lst Z])) : List.map frzB [.own w.ds, .dat (.lst P0), .dat (.int n), .dat (.lst Z), .dat (.int t), b, .un, .un, .un] = [.dat (.lst w.ds), .dat (.lst P0), .dat (.int n), .dat (.lst Z), .dat (.int t), .dat (.tup [.str "told", .lst Z]), .un, .un, .un] := by
  rw [← fr]
  rfl
theorem fz_pure (w : Well) {P0 Z : List D} {n t : Int} {b : B} (fr : frzB b = .dat (.tup [.str "told", .lst Z])) {f : FT}
    (h : f [.dat (.lst w.ds), .dat (.lst P0), .dat (.int n), .dat (.lst Z), .dat (.int t), .dat (.tup [.str "told", .lst Z]), .un, .un, .un] = .ok (false, [.dat (.lst w.ds), .dat (.lst P0), .dat (.int n), .dat (.lst Z), .dat (.int t), .dat (.tup [.str "told", .lst Z]), .un, .un, .un])) : tPure f [.own w.ds, .dat (.lst P0), .dat (.int n), .dat (.lst Z), .dat (.int t), b, .un, .un, .un] = .ok (false, [.own w.ds, .dat (.lst P0), .dat (.int n), .dat (.lst Z), .dat (.int t), b, .un, .un, .un]) := by
  show tPur1 _ (f (List.map frzB _)) = _
  rw [fz_map w fr, h]
  rfl
theorem ta_2 (w : Well) {P0 Z : List D} {n t : Int} {b : B} (fr : frzB b = .dat (.tup [.str "told", .lst Z])) (ne : gNe (.lst Z) (.lst Z) = some (.dat (.bl false))) :
    q_law_right_2 [.own w.ds, .dat (.lst P0), .dat (.int n), .dat (.lst Z), .dat (.int t), b, .un, .un, .un] = .nx [.own w.ds, .dat (.lst P0), .dat (.int n), .dat (.lst Z), .dat (.int t), b, .un, .un, .un] := by
  rw [uq_law_right_2, e_sIf, fz_pure w fr (by simp [ne, gIx_tup, atI, ixN, isTy])]
  simp
theorem ta_3 (w : Well) {P0 : List D} {n t : Int} {zs : List (Int × List Int)} (hz : ∀ q ∈ zs, q.2.length ≤ 10) {b : B} (fr : frzB b = .dat (.tup [.str "told", .lst (zs.map eS)])) :
    q_law_right_3 [.own w.ds, .dat (.lst P0), .dat (.int n), .dat (.lst (zs.map eS)), .dat (.int t), b, .un, .un, .un] = .nx [.own w.ds, .dat (.lst P0), .dat (.int n), .dat (.lst (zs.map eS)), .dat (.int t), b, .un, .un, .un] := by
  have lc := lc_sights (.dat (.lst w.ds)) (.dat (.lst P0)) (.dat (.int n)) (.dat (.lst (zs.map eS))) (.dat (.int t)) (.dat (.tup [.str "told", .lst (zs.map eS)])) zs hz
  generalize zs.map eS = Z at *
  have gn : gNe (.lst []) (.lst []) = some (.dat (.bl false)) := gNe_nilD []
  rw [uq_law_right_3, e_sIf, fz_pure w fr (by simp [gIx_tup, atI, ixN, wipeE, restE, lc, gn])]
  simp
theorem ta_4 (x0 x1 x2 x3 x4 : B) (d : D) (os : List O) : q_law_right_4 [x0, x1, x2, x3, x4, .ext (.tup [.fz d, .lst os]), .un, .un, .un] = .nx [x0, x1, x2, x3, x4, .ext (.tup [.fz d, .lst os.reverse]), .un, .un, .un] := rfl
theorem ta_5 (x0 x1 x2 x3 x4 : B) (d : D) (os : List O) (h : os.length < sizeLine) : q_law_right_5 [x0, x1, x2, x3, x4, .ext (.tup [.fz d, .lst os]), .un, .un, .un] = .nx [x0, x1, x2, x3, x4, .ext (.tup [.fz d, .lst (os ++ [.fz .non])]), .un, .un, .un] := by
  have e : pApp (qI (fun _ => some (5, [])) (stl (cC (.int 1)))) (stl (cC .non)) [x0, x1, x2, x3, x4, .ext (.tup [.fz d, .lst os]), .un, .un, .un] = if os.length < sizeLine then some [x0, x1, x2, x3, x4, .ext (.tup [.fz d, .lst (os ++ [.fz .non])]), .un, .un, .un] else none := rfl
  rw [uq_law_right_5]
  show (cPApp _ _ _).out _ = _
  unfold cPApp
  rw [e, if_pos h]
  rfl
theorem turn_a (w : Well) {P0 : List D} {n : Int} {zs : List (Int × List Int)} (hz : ∀ q ∈ zs, q.2.length ≤ 10) (hl : zs.length ≤ 256) (t : Int) (x5 : B)
    (e : f_law_told [.dat (.lst P0), .dat (.int n)] = .ok (.ext (.tup [.fz (.str "told"), .lst ((zs.map eS).map .fz)])) [.un, .un]) : ∃ y5,
    b_law_right_3 [.own w.ds, .dat (.lst P0), .dat (.int n), .dat (.lst (zs.map eS)), .dat (.int t), x5, .un, .un, .un] = .nx [.own w.ds, .dat (.lst P0), .dat (.int n), .dat (.lst (zs.map eS)), .dat (.int t), y5, .un, .un, .un] := by
  have fr := frz_told (.str "told") (zs.map eS)
  have ne := ne_self zs
  have h1 := ta_1 w (t := t) (Z := .lst (zs.map eS)) (x5 := x5) e
  have h2 := ta_2 w (P0 := P0) (n := n) (t := t) fr ne
  have h3 := ta_3 w (P0 := P0) (n := n) (t := t) hz fr
  have h4 := ta_4 (.own w.ds) (.dat (.lst P0)) (.dat (.int n)) (.dat (.lst (zs.map eS))) (.dat (.int t)) (.str "told") ((zs.map eS).map .fz)
  have h5 := ta_5 (.own w.ds) (.dat (.lst P0)) (.dat (.int n)) (.dat (.lst (zs.map eS))) (.dat (.int t)) (.str "told") ((zs.map eS).map .fz).reverse (by rw [List.length_reverse, List.length_map, List.length_map, sizeLine_eq]; omega)
  refine ⟨.ext (.tup [.fz (.str "told"), .lst (((zs.map eS).map .fz).reverse ++ [.fz .non])]), ?_⟩
  rw [ub_law_right_3, e_sSeq, h1, then_nx', e_sSeq, h2, then_nx', e_sSeq, h3, then_nx', e_sSeq, h4, then_nx', h5]
theorem turns_a (w : Well) {P0 : List D} {n : Int} {zs : List (Int × List Int)} (hz : ∀ q ∈ zs, q.2.length ≤ 10) (hl : zs.length ≤ 256)
    (e : f_law_told [.dat (.lst P0), .dat (.int n)] = .ok (.ext (.tup [.fz (.str "told"), .lst ((zs.map eS).map .fz)])) [.un, .un]) : ∀ (ts : List Int) (x4 x5 : B), ∃ y4 y5,
    forD (pName 4) b_law_right_3 (ts.map .int) [.own w.ds, .dat (.lst P0), .dat (.int n), .dat (.lst (zs.map eS)), x4, x5, .un, .un, .un] = .nx [.own w.ds, .dat (.lst P0), .dat (.int n), .dat (.lst (zs.map eS)), y4, y5, .un, .un, .un]
  | [], x4, x5 => ⟨x4, x5, rfl⟩
  | t :: ts, x4, x5 => by
    obtain ⟨y5, h⟩ := turn_a w hz hl t x5 e
    obtain ⟨z4, z5, ih⟩ := turns_a w hz hl e ts (.dat (.int t)) y5
    refine ⟨z4, z5, ?_⟩
    generalize zs.map eS = Z at *
    rw [List.map_cons, forD_cons, ← ih]
    simp [h]
end Law
set_option Elab.async false
set_option linter.all false
set_option maxRecDepth 100000
set_option maxHeartbeats 4000000
namespace Law
open PySem PySem.Spec L2 Dl
open PyProof.Rows hiding St
/-! ## keys' numbers -/
theorem erase_nd {xs : List Int} (h : xs.Nodup) (i : Nat) : (xs.eraseIdx i).Nodup := (List.eraseIdx_sublist xs i).nodup h
theorem erase_not : ∀ {xs : List Int}, xs.Nodup → ∀ {i : Nat} {a : Int}, xs[i]? = some a → a ∉ xs.eraseIdx i
  | [], _, i, a, e => by simp at e
  | x :: xs, h, 0, a, e => by
    simp at e
    subst e
    exact (List.nodup_cons.mp h).1
  | x :: xs, h, i + 1, a, e => by
    rw [List.getElem?_cons_succ] at e
    rw [List.eraseIdx_cons_succ]
    intro m
    rcases List.mem_cons.mp m with z | z
    · exact (List.nodup_cons.mp h).1 (z ▸ List.mem_of_getElem? e)
    · exact erase_not (List.nodup_cons.mp h).2 e z
theorem keys_lc : ∀ (ts : List Int) (w : Well) (left acc : List Int), left.Nodup → acc.Nodup → (∀ a ∈ acc, a ∉ left) → ts.length ≤ left.length → left.length ≤ 4 → acc.length + ts.length ≤ 100 →
    ∃ (ks left' : List Int) (w' : Well), lcS (fun (v18 : ((Int × (List Int)) × Well)) => v18.1.1) (fun (v18 : ((Int × (List Int)) × Well)) => (v18.2, v18.1.2)) (fun (x12 : Int) (s16 : (Well × (List Int))) => (TR.ok true)) (fun (x12 : Int) (s16 : (Well × (List Int))) => ((digT s16.1 (s16.2.length : Int)).bind fun (v17 : (Int × Well)) => (popAtT s16.2 v17.1).bind fun (v19 : (Int × (List Int))) => .ok (v19, v17.2))) ts (w, left) acc = .ok (ks, (w', left')) ∧ ks.length = acc.length + ts.length ∧ ks.Nodup
  | [], w, left, acc, _, h2, _, _, _, _ => ⟨acc, left, w, rfl, rfl, h2⟩
  | t :: ts, w, left, acc, h1, h2, h3, h4, h5, h6 => by
    rw [List.length_cons] at h4 h6
    have p0 : (0 : Int) < (left.length : Int) := by omega
    have d := digT_ok w p0 (by omega)
    have a0 := w.lo p0
    have a1 := w.hi p0
    obtain ⟨a, ma, e1, e2⟩ := popAtT_some (xs := left) a0 a1 (by omega)
    have hl : (left.eraseIdx (w.fig left.length).toNat).length = left.length - 1 := List.length_eraseIdx_of_lt (by omega)
    obtain ⟨ks, left', w', e3, l3, n3⟩ := keys_lc ts (w.aft left.length) (left.eraseIdx (w.fig left.length).toNat) (acc ++ [a]) (erase_nd h1 _) (by
      rw [List.nodup_append]
      refine ⟨h2, List.nodup_cons.mpr ⟨(fun m => nomatch m), List.nodup_nil⟩, fun x hx y hy => ?_⟩
      rw [List.mem_singleton] at hy
      subst hy
      exact fun z => h3 x hx (z ▸ ma)) (fun x hx => by
      rcases List.mem_append.mp hx with hx | hx
      · exact fun m => h3 x hx (List.mem_of_mem_eraseIdx m)
      · rw [List.mem_singleton] at hx
        subst hx
        exact erase_not h1 e2) (by omega) (by omega) (by rw [List.length_append, List.length_singleton]; omega)
    refine ⟨ks, left', w', ?_, by rw [l3, List.length_append, List.length_singleton, List.length_cons]; omega, n3⟩
    rw [lcS]
    simp only [d, e1, tr_bind_ok]
    rw [if_pos (show acc.length < sizeLine by rw [sizeLine_eq]; omega)]
    exact e3
theorem keys_spec (w : Well) {ts : List Int} (h : ts.length ≤ 3) : ∃ (ks : List Int) (w' : Well), f_law_keys [.own w.ds, .dat (.tup (ts.map .int))] = .ok (.dat (.tup (ks.map .int))) [.own w'.ds, .un] ∧ ks.length = ts.length ∧ ks.Nodup := by
  obtain ⟨ks, left', w', e, l, n⟩ := keys_lc ts w [0, 1, 2, 3] [] (by decide) List.nodup_nil (fun a m => nomatch m) (by simp; omega) (by simp) (by simp; omega)
  refine ⟨ks, w', ?_, by simpa using l, n⟩
  have t : t_law_keys w ts = .ok (ks, w') := by
    unfold t_law_keys tb_law_keys
    rw [lt_eq, tr_bind_ok, e]
    rfl
  exact (fl_law_keys w ts).eq t
/-! ## the sight of a place -/
def place (first us : List Int) (g t : Int) : Int := (rngI 0 first.length).foldl (fun s j => if first[j.toNat]? = some g ∧ us[j.toNat]? = some t then j else s) (-1)
theorem place_of (first us : List Int) (g t : Int) : place first us g t = -1 ∨ ∃ j : Nat, place first us g t = (j : Int) ∧ first[j]? = some g ∧ us[j]? = some t := by
  have : ∀ (js : List Int), (∀ j ∈ js, 0 ≤ j) → ∀ s : Int, (s = -1 ∨ ∃ j : Nat, s = (j : Int) ∧ first[j]? = some g ∧ us[j]? = some t) → (js.foldl (fun s j => if first[j.toNat]? = some g ∧ us[j.toNat]? = some t then j else s) s = -1 ∨ ∃ j : Nat, js.foldl (fun s j => if first[j.toNat]? = some g ∧ us[j.toNat]? = some t then j else s) s = (j : Int) ∧ first[j]? = some g ∧ us[j]? = some t) := by
    intro js
    induction js with
    | nil => exact fun _ s h => h
    | cons j js ih =>
      intro hj s h
      rw [List.foldl_cons]
      refine ih (fun x m => hj x (List.mem_cons_of_mem _ m)) _ ?_
      split
      · rename_i c
        have := hj j List.mem_cons_self
        exact .inr ⟨j.toNat, by omega, c⟩
      · exact h
  exact this _ (fun j m => (rngI_mem.mp m).1) _ (.inl rfl)
theorem mem_whI (t : Int) : ∀ (us : List Int) (k j : Nat), us[j]? = some t → ((k + j : Nat) : Int) ∈ whI t k us
  | [], k, j, h => by simp at h
  | u :: us, k, 0, h => by
    simp at h
    rw [whI_yes k us h]
    exact List.mem_cons_self
  | u :: us, k, j + 1, h => by
    rw [List.getElem?_cons_succ] at h
    have := mem_whI t us (k + 1) j h
    have e : k + 1 + j = k + (j + 1) := by omega
    rw [e] at this
    by_cases c : u = t
    · rw [whI_yes k us c]
      exact List.mem_cons_of_mem _ this
    · rw [whI_no k us c]
      exact this
def Fit (us : List Int) : List Int → List Int → List Int → Prop
  | _, [], [] => True
  | r, t :: ts, p :: ps => p ∈ plI t us ∧ fitI r p = true ∧ Fit us (r ++ [p]) ts ps
  | _, _, _ => False
theorem fit_mem (us : List Int) : ∀ (ts ps r : List Int) (rows : List (List Int)), r ∈ rows → Fit us r ts ps → r ++ ps ∈ ts.foldl (fun rows t => rowsN (plI t us) rows) rows
  | [], [], r, rows, h, _ => by simpa using h
  | [], p :: ps, r, rows, h, f => by simp [Fit] at f
  | t :: ts, [], r, rows, h, f => by simp [Fit] at f
  | t :: ts, p :: ps, r, rows, h, f => by
    obtain ⟨f1, f2, f3⟩ := f
    have m : r ++ [p] ∈ rowsN (plI t us) rows := List.mem_flatMap.mpr ⟨r, h, List.mem_map.mpr ⟨p, List.mem_filter.mpr ⟨f1, f2⟩, rfl⟩⟩
    have := fit_mem us ts ps (r ++ [p]) _ m f3
    rw [List.foldl_cons]
    rw [List.append_assoc] at this
    exact this
theorem fit_place (first us : List Int) : ∀ (gs ts r seen : List Int), gs.length = ts.length → (∀ p ∈ r, p = -1 ∨ ∃ g ∈ seen, ∃ j : Nat, p = (j : Int) ∧ first[j]? = some g) → gs.Nodup → (∀ g ∈ gs, g ∉ seen) → Fit us r ts (List.zipWith (place first us) gs ts)
  | [], [], r, seen, _, _, _, _ => trivial
  | [], t :: ts, _, _, h, _, _, _ => by simp at h
  | g :: gs, [], _, _, h, _, _, _ => by simp at h
  | g :: gs, t :: ts, r, seen, h, hr, nd, ns => by
    obtain ⟨nd1, nd2⟩ := List.nodup_cons.mp nd
    have hp := place_of first us g t
    refine ⟨?_, ?_, ?_⟩
    · rcases hp with e | ⟨j, e, _, e2⟩
      · rw [e]; exact List.mem_cons_self
      · rw [e]
        have := mem_whI t us 0 j e2
        rw [Nat.zero_add] at this
        exact List.mem_cons_of_mem _ this
    · unfold fitI
      rcases hp with e | ⟨j, e, e1, _⟩
      · rw [e]; rfl
      · have : memT (place first us g t) r = false := by
          rw [Bool.eq_false_iff]
          intro m
          have m' : place first us g t ∈ r := by simpa [memT_eq] using m
          rcases hr _ m' with z | ⟨g', mg, j', z, e1'⟩
          · omega
          · have : j = j' := by omega
            subst this
            rw [e1] at e1'
            cases e1'
            exact ns g List.mem_cons_self mg
        rw [this]
        simp
    · refine fit_place first us gs ts _ (g :: seen) (by simpa using h) (fun p m => ?_) nd2 (fun g' m' z => ?_)
      · rcases List.mem_append.mp m with m | m
        · rcases hr p m with z | ⟨g', mg, j', z, e1'⟩
          · exact .inl z
          · exact .inr ⟨g', List.mem_cons_of_mem _ mg, j', z, e1'⟩
        · rw [List.mem_singleton] at m
          subst m
          rcases hp with e | ⟨j, e, e1, _⟩
          · exact .inl e
          · exact .inr ⟨g, List.mem_cons_self, j, e, e1⟩
      · rcases List.mem_cons.mp z with rfl | z
        · exact nd1 m'
        · exact ns g' (List.mem_cons_of_mem _ m') z
theorem place_mem (first : List Int) {us ts gs : List Int} (h : gs.length = ts.length) (nd : gs.Nodup) : List.zipWith (place first us) gs ts ∈ spotsL ts us := by
  have := fit_mem us ts (List.zipWith (place first us) gs ts) [] [[]] (List.mem_singleton.mpr rfl) (fit_place first us gs ts [] [] h (fun p m => nomatch m) nd fun g _ m => nomatch m)
  rw [List.nil_append] at this
  exact this
end Law
set_option Elab.async false
set_option linter.all false
set_option maxRecDepth 100000
set_option maxHeartbeats 4000000
namespace Law
open PySem PySem.Spec L2 Dl
open PyProof.Rows hiding St
theorem so_1 {PG : List (List Int × D)} {n o : Nat} (hn : n < PG.length) (ho : o < PG.length) {first gs : List Int} (hf : first.length = PG[n].1.length) (hg : gs.length = PG[o].1.length) {k : Nat} (hk : k < gs.length) {j : Int} (hj : j ∈ rngI 0 first.length) (s : Int) :
    tl_law_sight_of_1 first gs (k : Int) PG (n : Int) (o : Int) j s = .nx (if first[j.toNat]? = some gs[k] ∧ PG[n].1[j.toNat]? = some (PG[o].1[k]'(by omega)) then j else s) := by
  obtain ⟨j0, j1⟩ := rngI_mem.mp hj
  have hj1 : j.toNat < first.length := by omega
  have hj2 : j.toNat < PG[n].1.length := by omega
  have hk2 : k < PG[o].1.length := by omega
  have e1 : ixT first j = .ok first[j.toNat] := ixT_int first j j0 hj1
  have e2 : ixT gs (k : Int) = .ok gs[k] := ixT_nat gs k hk
  have e3 : ixT PG (n : Int) = .ok PG[n] := ixT_nat PG n hn
  have e4 : ixT PG[n].1 j = .ok PG[n].1[j.toNat] := ixT_int PG[n].1 j j0 hj2
  have e5 : ixT PG (o : Int) = .ok PG[o] := ixT_nat PG o ho
  have e6 : ixT PG[o].1 (k : Int) = .ok PG[o].1[k] := ixT_nat PG[o].1 k hk2
  rw [List.getElem?_eq_getElem hj1, List.getElem?_eq_getElem hj2]
  unfold tl_law_sight_of_1
  rw [e1, tr_bind_ok, e2, tr_bind_ok, tr_bind_ok, tr_bind_ok]
  by_cases c : first[j.toNat] = gs[k]
  · rw [if_pos (decide_eq_true c), e3, tr_bind_ok, e4, tr_bind_ok, e5, tr_bind_ok, e6, tr_bind_ok, tr_bind_ok, tr_out_ok]
    by_cases c2 : PG[n].1[j.toNat] = PG[o].1[k]
    · rw [if_pos (decide_eq_true c2), if_pos ⟨by rw [c], by rw [c2]⟩]
    · rw [if_neg (by rw [decide_eq_false c2]; decide), if_neg (fun z => c2 (Option.some.inj z.2))]
  · rw [if_neg (by rw [decide_eq_false c]; decide), tr_out_ok, if_neg (by decide), if_neg (fun z => c (Option.some.inj z.1))]
theorem so_2 {PG : List (List Int × D)} {n o : Nat} (hn : n < PG.length) (ho : o < PG.length) {first gs : List Int} (hf : first.length = PG[n].1.length) (hg : gs.length = PG[o].1.length) (h3 : first.length ≤ 3) {k : Nat} (hk : k < gs.length) (acc : List Int) (ha : acc.length ≤ 100) :
    tl_law_sight_of_2 first gs PG (n : Int) (o : Int) (k : Int) acc = .nx (acc ++ [place first PG[n].1 gs[k] (PG[o].1[k]'(by omega))]) := by
  have e1 : rngT1 (first.length : Int) = .ok (rngI 0 first.length) := by
    have := rngT1_ok (j := (first.length : Int)) (by omega) (by omega)
    simpa using this
  have e2 := forT_fold (τ := List Int) (β := Int × List Int) (tb := tl_law_sight_of_1 first gs (k : Int) PG (n : Int) (o : Int)) (fun s j => if first[j.toNat]? = some gs[k] ∧ PG[n].1[j.toNat]? = some (PG[o].1[k]'(by omega)) then j else s) (rngI 0 first.length) (-1) (fun j hj s => so_1 hn ho hf hg hk hj s)
  unfold tl_law_sight_of_2
  rw [e1, tr_out_ok, e2]
  show TR.out (appT acc (place first PG[n].1 gs[k] (PG[o].1[k]'(by omega)))) _ = _
  rw [appT_ok (by omega), tr_out_ok]
theorem so_loop {PG : List (List Int × D)} {n o : Nat} (hn : n < PG.length) (ho : o < PG.length) {first gs : List Int} (hf : first.length = PG[n].1.length) (hg : gs.length = PG[o].1.length) (h3 : first.length ≤ 3) (g3 : gs.length ≤ 3) : ∀ (m k : Nat) (acc : List Int), k + m = gs.length → acc.length ≤ k →
    (forT (tl_law_sight_of_2 first gs PG (n : Int) (o : Int)) (rngI (k : Int) m) acc : TO (List Int) Empty (Int × List Int)) = .nx (acc ++ List.zipWith (place first PG[n].1) (gs.drop k) (PG[o].1.drop k))
  | 0, k, acc, h, _ => by
    have e : gs.drop k = [] := List.drop_eq_nil_iff.mpr (by omega)
    rw [e]
    simp [rngI]
  | m + 1, k, acc, h, ha => by
    have hk : k < gs.length := by omega
    have hk2 : k < PG[o].1.length := by omega
    have er : rngI (k : Int) (m + 1) = (k : Int) :: rngI ((k + 1 : Nat) : Int) m := by
      unfold rngI
      rw [List.range_succ_eq_map, List.map_cons, List.map_map]
      congr 1
      · simp
        intro i _
        omega
    have ih := so_loop hn ho hf hg h3 g3 m (k + 1) (acc ++ [place first PG[n].1 gs[k] PG[o].1[k]]) (by omega) (by rw [List.length_append, List.length_singleton]; omega)
    rw [er, forT_cons, so_2 hn ho hf hg h3 hk acc (by omega), to_turn_nx, ih, List.drop_eq_getElem_cons hk, List.drop_eq_getElem_cons hk2, List.zipWith_cons_cons, List.append_assoc]
    rfl
theorem sight_of_eq {PG : List (List Int × D)} {n o : Nat} (hn : n < PG.length) (ho : o < PG.length) {first gs : List Int} (hf : first.length = PG[n].1.length) (hg : gs.length = PG[o].1.length) (h3 : first.length ≤ 3) (g3 : gs.length ≤ 3) :
    f_law_sight_of [.dat (.lst (PG.map prD)), .dat (.int (n : Int)), .dat (.tup (first.map .int)), .dat (.int (o : Int)), .dat (.tup (gs.map .int))] = .ok (.dat (eS ((o : Int), List.zipWith (place first PG[n].1) gs PG[o].1))) [.un, .un, .un, .un, .un] := by
  have e1 : rngT1 (gs.length : Int) = .ok (rngI 0 gs.length) := by
    have := rngT1_ok (j := (gs.length : Int)) (by omega) (by omega)
    simpa using this
  have e2 := so_loop hn ho hf hg h3 g3 gs.length 0 [] (by omega) (Nat.zero_le _)
  rw [List.drop_zero, List.drop_zero, List.nil_append] at e2
  have t : t_law_sight_of PG (n : Int) first (o : Int) gs = .ok ((o : Int), List.zipWith (place first PG[n].1) gs PG[o].1) := by
    unfold t_law_sight_of tb_law_sight_of
    rw [e1, tr_out_ok]
    have e2' : (forT (tl_law_sight_of_2 first gs PG (n : Int) (o : Int)) (rngI 0 gs.length) [] : TO (List Int) Empty (Int × List Int)) = _ := e2
    rw [e2']
    rfl
  exact (fl_law_sight_of PG (n : Int) first (o : Int) gs).eq t
theorem in_allL {us : List Int} : ∀ (PG : List (List Int × D)) (k o : Nat) (ho : o < PG.length) (r : List Int), r ∈ spotsL PG[o].1 us → (((k + o : Nat) : Int), r) ∈ allL us k PG
  | [], k, o, ho, r, _ => by simp at ho
  | p :: PG, k, 0, ho, r, h => by
    rw [allL]
    exact List.mem_append_left _ (List.mem_map.mpr ⟨r, h, rfl⟩)
  | p :: PG, k, o + 1, ho, r, h => by
    rw [allL]
    have := in_allL PG (k + 1) o (by rw [List.length_cons] at ho; omega) r h
    have e : k + 1 + o = k + (o + 1) := by omega
    rw [e] at this
    exact List.mem_append_right _ this
end Law
set_option Elab.async false
set_option linter.all false
set_option maxRecDepth 100000
set_option maxHeartbeats 4000000
namespace Law
open PySem PySem.Spec L2 Dl
open PyProof.Rows hiding St
/-- programs with their tables in view -/
structure Ps (PG : List (List Int × D)) : Prop where
  l1 : 1 ≤ PG.length
  l4 : PG.length ≤ 4
  tb : ∀ p ∈ PG, p.1.length ≤ 3
  th : ∀ p ∈ PG, Th (prD p)
  is : ∀ p ∈ PG, isProgD (prD p) = true
  sc : ∀ p ∈ PG, noScr (prD p) = true
theorem Ps.nice {PG : List (List Int × D)} (h : Ps PG) : niceB (.lst (PG.map prD)) = true := by
  rw [nice_lst, List.all_eq_true]
  intro d m
  obtain ⟨p, mp, rfl⟩ := List.mem_map.mp m
  exact (h.th p mp).nc
theorem Ps.are {PG : List (List Int × D)} (h : Ps PG) : areProgD (.lst (PG.map prD)) = true := by
  simp only [areProgD, List.length_map, Bool.and_eq_true, decide_eq_true_eq]
  refine ⟨⟨h.l1, h.l4⟩, List.all_eq_true.mpr fun d m => ?_⟩
  obtain ⟨p, mp, rfl⟩ := List.mem_map.mp m
  exact h.is p mp
theorem Ps.row {PG : List (List Int × D)} (h : Ps PG) {n : Nat} (hn : n < PG.length) : ∀ q ∈ dueL PG[n].1 PG, q.2.length ≤ 10 := by
  have hu := h.tb PG[n] (List.getElem_mem hn)
  have : ∀ (L : List (List Int × D)) (k : Nat), (∀ p ∈ L, p.1.length ≤ 3) → ∀ q ∈ allL PG[n].1 k L, q.2.length ≤ 10 := by
    intro L
    induction L with
    | nil => exact fun k _ q m => by simp [allL] at m
    | cons p L ih =>
      intro k hL q m
      rw [allL] at m
      rcases List.mem_append.mp m with m | m
      · obtain ⟨r, mr, rfl⟩ := List.mem_map.mp m
        have hp := hL p List.mem_cons_self
        have := (Rws.spots (k := 0) hu p.1 [[]] 0 rws_0).rl r mr
        show r.length ≤ 10
        omega
      · exact ih (k + 1) (fun x mx => hL x (List.mem_cons_of_mem _ mx)) q m
  exact fun q m => this PG 0 h.tb q (due_mem.mp m)
theorem Ps.due {PG : List (List Int × D)} (h : Ps PG) {n : Nat} (hn : n < PG.length) : (dueL PG[n].1 PG).length ≤ 256 := by
  rw [due_len]
  have := allL_len (h.tb PG[n] (List.getElem_mem hn)) PG 0 h.tb
  have := h.l4
  omega
theorem turn_b {PG : List (List Int × D)} (h : Ps PG) {n : Nat} (hn : n < PG.length) (w : Well) (x4 x5 x6 x7 x8 : B) : ∃ (w' : Well) (y7 y8 : B),
    b_law_right_4 [.own w.ds, .dat (.lst (PG.map prD)), .dat (.int (n : Int)), .dat (.lst ((dueL PG[n].1 PG).map eS)), x4, x5, x6, x7, x8] = .nx [.own w'.ds, .dat (.lst (PG.map prD)), .dat (.int (n : Int)), .dat (.lst ((dueL PG[n].1 PG).map eS)), x4, x5, x6, y7, y8] := by
  have l1 := h.l1
  have l4 := h.l4
  have p0 : (0 : Int) < (PG.length : Int) := by omega
  have a0 := w.lo p0
  have a1 := w.hi p0
  have e0 := dig w p0 (by omega)
  obtain ⟨o, ho⟩ : ∃ o : Nat, w.fig PG.length = (o : Int) := ⟨(w.fig PG.length).toNat, by omega⟩
  rw [ho] at e0 a1
  have ho : o < PG.length := by omega
  generalize w.aft PG.length = w0 at *
  obtain ⟨k1, w1, e1, d1, _⟩ := keys_spec w0 (h.tb PG[n] (List.getElem_mem hn))
  obtain ⟨k2, w2, e2, d2, nd⟩ := keys_spec w1 (h.tb PG[o] (List.getElem_mem ho))
  have t1 := h.tb PG[n] (List.getElem_mem hn)
  have t2 := h.tb PG[o] (List.getElem_mem ho)
  have e3 := sight_of_eq hn ho d1 d2 (by omega) (by omega)
  have e4 := q_ninL (gd_eS.up (by decide)) ((o : Int), List.zipWith (place k1 PG[n].1) k2 PG[o].1) (dueL PG[n].1 PG)
  have mm : memT ((o : Int), List.zipWith (place k1 PG[n].1) k2 PG[o].1) (dueL PG[n].1 PG) = true := by
    rw [memT_eq]
    have := in_allL (us := PG[n].1) PG 0 o ho _ (place_mem k1 d2 nd)
    rw [Nat.zero_add] at this
    simpa using due_mem.mpr this
  rw [mm] at e4
  have gn := pr_at hn
  have go := pr_at ho
  have tn := pr_tab PG[n]
  have to := pr_tab PG[o]
  have hl : (PG.map prD).length = PG.length := List.length_map _
  generalize (dueL PG[n].1 PG).map eS = Z at *
  generalize eS ((o : Int), List.zipWith (place k1 PG[n].1) k2 PG[o].1) = Q at *
  generalize prD PG[n] = A at *
  generalize prD PG[o] = Bo at *
  generalize PG.map prD = P0 at *
  refine ⟨w2, .dat (.int (o : Int)), .dat (.tup (k1.map .int)), ?_⟩
  have s1 : (sSet 7 (cD (cCall f_law_digit (aCons (cNO 0) (aCons (cO (cCB gLen (aCons (cNO 1) aNil))) aNil))))) [.own w.ds, .dat (.lst P0), .dat (.int (n : Int)), .dat (.lst Z), x4, x5, x6, x7, x8] = .nx [.own w0.ds, .dat (.lst P0), .dat (.int (n : Int)), .dat (.lst Z), x4, x5, x6, .dat (.int (o : Int)), x8] := by
    simp [hl, e0, outs_cons, outs_nil]
  have s2 : (sSet 8 (cD (cCall f_law_keys (aCons (cNO 0) (aCons (cO (c2 gIx (cO (c2 gIx (cNO 1) (cNO 2))) (cO (cC (.int 0))))) aNil))))) [.own w0.ds, .dat (.lst P0), .dat (.int (n : Int)), .dat (.lst Z), x4, x5, x6, .dat (.int (o : Int)), x8] = .nx [.own w1.ds, .dat (.lst P0), .dat (.int (n : Int)), .dat (.lst Z), x4, x5, x6, .dat (.int (o : Int)), .dat (.tup (k1.map .int))] := by
    simp [gn, tn, e1, outs_cons, outs_nil]
  rw [ub_law_right_4, e_sSeq, s1, then_nx', e_sSeq, s2, then_nx']
  simp [go, to, e2, e3, e4, outs_cons, outs_nil]
theorem turns_b {PG : List (List Int × D)} (h : Ps PG) {n : Nat} (hn : n < PG.length) : ∀ (ts : List Int) (w : Well) (x4 x5 x6 x7 x8 : B), ∃ (w' : Well) (y4 y7 y8 : B),
    forD (pName 4) b_law_right_4 (ts.map .int) [.own w.ds, .dat (.lst (PG.map prD)), .dat (.int (n : Int)), .dat (.lst ((dueL PG[n].1 PG).map eS)), x4, x5, x6, x7, x8] = .nx [.own w'.ds, .dat (.lst (PG.map prD)), .dat (.int (n : Int)), .dat (.lst ((dueL PG[n].1 PG).map eS)), y4, x5, x6, y7, y8]
  | [], w, x4, x5, x6, x7, x8 => ⟨w, x4, x7, x8, rfl⟩
  | t :: ts, w, x4, x5, x6, x7, x8 => by
    obtain ⟨w1, y7, y8, e⟩ := turn_b h hn w (.dat (.int t)) x5 x6 x7 x8
    obtain ⟨w2, z4, z7, z8, ih⟩ := turns_b h hn ts w1 (.dat (.int t)) x5 x6 y7 y8
    refine ⟨w2, z4, z7, z8, ?_⟩
    generalize (dueL PG[n].1 PG).map eS = Z at *
    rw [List.map_cons, forD_cons, ← ih]
    simp [e]
theorem right_eq {PG : List (List Int × D)} (h : Ps PG) {n : Nat} (hn : n < PG.length) (w : Well) : ∃ w' : Well, f_law_right [.own w.ds, .dat (.lst (PG.map prD)), .dat (.int (n : Int))] = .ok (.dat (.bl true)) [.own w'.ds, .un, .un] := by
  have e1 := law_sights_eq hn h.tb h.l4
  have e2 := all_sights_eq hn h.tb h.l4
  have hl : (PG.map prD).length = PG.length := List.length_map _
  have e3 := told_ok h.nice (e := .int (n : Int)) rfl rfl h.are (by rw [hl]; simp [isFromD]; omega) e2
  obtain ⟨y4, y5, e4⟩ := turns_a w (P0 := PG.map prD) (n := (n : Int)) (h.row hn) (h.due hn) e3 [0, 1] .un .un
  obtain ⟨w', z4, z7, z8, e5⟩ := turns_b h hn [0, 1, 2, 3] w y4 y5 .un .un .un
  refine ⟨w', ?_⟩
  have r2 : rng1 [.int 2] = some ([0, 1].map D.int) := rfl
  have r4 : rng1 [.int 4] = some ([0, 1, 2, 3].map D.int) := rfl
  generalize ([0, 1].map D.int) = R2 at *
  generalize ([0, 1, 2, 3].map D.int) = R4 at *
  generalize (dueL PG[n].1 PG).map eS = Z at *
  generalize PG.map prD = P0 at *
  have s1 : (sSet 3 (cD (cCall f_law_sights (aCons (cNO 1) (aCons (cNO 2) aNil))))) [.own w.ds, .dat (.lst P0), .dat (.int (n : Int)), .un, .un, .un, .un, .un, .un] = .nx [.own w.ds, .dat (.lst P0), .dat (.int (n : Int)), .dat (.lst Z), .un, .un, .un, .un, .un] := by
    simp [e1, outs_cons, outs_nil]
  have s2 : (sFor (pName 4) (iRng rng1 (aCons (cO (cC (.int 2))) aNil)) b_law_right_3) [.own w.ds, .dat (.lst P0), .dat (.int (n : Int)), .dat (.lst Z), .un, .un, .un, .un, .un] = .nx [.own w.ds, .dat (.lst P0), .dat (.int (n : Int)), .dat (.lst Z), y4, y5, .un, .un, .un] := by
    simp [r2, e4]
  have s3 : (sFor (pName 4) (iRng rng1 (aCons (cO (cC (.int 4))) aNil)) b_law_right_4) [.own w.ds, .dat (.lst P0), .dat (.int (n : Int)), .dat (.lst Z), y4, y5, .un, .un, .un] = .nx [.own w'.ds, .dat (.lst P0), .dat (.int (n : Int)), .dat (.lst Z), z4, y5, .un, z7, z8] := by
    simp [r4, e5]
  rw [f_law_right, toF_at, m_law_right]
  show toR [0] 3 (sSeq _ _ [.own w.ds, .dat (.lst P0), .dat (.int (n : Int)), .un, .un, .un, .un, .un, .un]) = _
  rw [e_sSeq, s1, then_nx', e_sSeq, s2, then_nx', e_sSeq, s3, then_nx']
  rfl
end Law
set_option Elab.async false
set_option linter.all false
set_option maxRecDepth 100000
set_option maxHeartbeats 4000000
namespace Law
open PySem PySem.Spec L2 Dl
open PyProof.Rows hiding St
theorem progs_lc (x0 x1 x3 x5 x6 x7 x8 : B) : ∀ (ds : List D) (w : Well) (acc : List D), acc.length + ds.length ≤ 1000 → ∃ (PG : List (List Int × D)) (w' : Well),
    lcD (pName 4) tYs e_law_1 [4] ds acc [x0, x1, .own w.ds, x3, .un, x5, x6, x7, x8] = .ok (acc ++ PG.map prD, [x0, x1, .own w'.ds, x3, .un, x5, x6, x7, x8]) ∧ PG.length = ds.length ∧ ∀ p ∈ PG, p.1.length ≤ 3 ∧ Th (prD p) ∧ isProgD (prD p) = true ∧ noScr (prD p) = true
  | [], w, acc, _ => ⟨[], w, by simp, rfl, fun _ m => absurd m List.not_mem_nil⟩
  | d :: ds, w, acc, hl => by
    rw [List.length_cons] at hl
    obtain ⟨ts, ps, w1, e1, g⟩ := program_spec w
    obtain ⟨PG, w', e, h1, h2⟩ := progs_lc x0 x1 x3 x5 x6 x7 x8 ds w1 (acc ++ [prD (ts, .tup (ps.map stp))]) (by rw [List.length_append, List.length_singleton]; omega)
    have hz : acc.length < sizeLine := by rw [sizeLine_eq]; omega
    have t0 : Th (prD (ts, .tup (ps.map stp))) := th_prg g
    have i0 : isProgD (prD (ts, .tup (ps.map stp))) = true := g.is
    refine ⟨(ts, .tup (ps.map stp)) :: PG, w', ?_, by rw [List.length_cons, List.length_cons, h1], fun y m => (List.mem_cons.mp m).elim (fun z => z ▸ ⟨g.tl, t0, i0, rfl⟩) (h2 y)⟩
    have e1 : f_law_program [.own w.ds, .dat (.int 3), .dat (.int 6)] = .ok (.dat (prD (ts, .tup (ps.map stp)))) [.own w1.ds, .un, .un] := e1
    rw [lcD_cons, List.map_cons]
    generalize prD (ts, .tup (ps.map stp)) = A at *
    simp [ue_law_1, e1, hz, wipeE, outs_cons, outs_nil]
    simpa using e
theorem odd_of {PG : List (List Int × D)} (h : Ps PG) {d : D} (m : d ∈ ([.int (-1), .int (PG.length : Int), .bl true, .non, .str "0", .tup [.int 0], .lst [.int 0], .int 10000000000000000000000000000000000000000] : List D)) : niceB d = true ∧ isFromD d 0 ((PG.length : Int) - 1) = false := by
  have l4 := h.l4
  simp only [List.mem_cons, List.not_mem_nil, or_false] at m
  rcases m with rfl | rfl | rfl | rfl | rfl | rfl | rfl | rfl
  · exact ⟨rfl, by simp [isFromD]⟩
  · exact ⟨rfl, by simp [isFromD]; omega⟩
  · exact ⟨rfl, rfl⟩
  · exact ⟨rfl, rfl⟩
  · exact ⟨by simp only [niceB]; decide +kernel, rfl⟩
  · exact ⟨by simp, rfl⟩
  · exact ⟨by simp, rfl⟩
  · exact ⟨rfl, by simp [isFromD]; omega⟩
theorem bad_of {PG : List (List Int × D)} (h : Ps PG) {p : List Int × D} {r : List (List Int × D)} (e : PG = p :: r) {d : D} (m : d ∈ ([.lst [], .tup (PG.map prD), prD p, .lst [prD p, prD p, prD p, prD p, prD p], .non, .lst [prD p, .tup []]] : List D)) : niceB d = true ∧ noScr d = true ∧ areProgD d = false := by
  have hn := h.nice
  rw [nice_lst] at hn
  have hp := (h.th p (by rw [e]; exact List.mem_cons_self)).nc
  simp only [List.mem_cons, List.not_mem_nil, or_false] at m
  rcases m with rfl | rfl | rfl | rfl | rfl | rfl
  · exact ⟨by simp, rfl, rfl⟩
  · exact ⟨by rw [nice_tup]; exact hn, rfl, rfl⟩
  · exact ⟨hp, rfl, rfl⟩
  · exact ⟨by simp [hp], rfl, by simp [areProgD]⟩
  · exact ⟨rfl, rfl, rfl⟩
  · exact ⟨by simp [hp], rfl, by simp [areProgD, isProgD]⟩
theorem ne_two {a : String} : gNe (.tup [.str (Str.ofString a), .bl false]) (.tup [.str (Str.ofString a), .bl false]) = some (.dat (.bl false)) := by
  have := q_ne (e := eP (fun a : String => D.str (Str.ofString a)) D.bl) (gd_P (gd_word (fun a : String => a) (fun _ _ h => h) 63) (gd_B 63)) (a, false) (a, false)
  rw [decide_eq_true rfl] at this
  exact this
theorem cell_turn (S0 : B) (c : Int) (x2 x3 x5 x6 x7 x8 : B) : ∃ y2 y3 y5 y6 y7 y8 : B, b_law_2 [S0, .dat (.int c), x2, x3, .un, x5, x6, x7, x8] = .nx [S0, .dat (.int c), y2, y3, .un, y5, y6, y7, y8] := by
  have w0 : Well := .raw c
  have a0 := (Well.raw c).lo (b := 4) (by decide)
  have a1 := (Well.raw c).hi (b := 4) (by decide)
  have e0 : f_law_digit [.own [.int c], .dat (.int 4)] = .ok (.dat (.int ((Well.raw c).fig 4))) [.own ((Well.raw c).aft 4).ds, .un] := dig (.raw c) (b := 4) (by decide) (by decide)
  have hr : rng1 [.int (1 + (Well.raw c).fig 4)] = some (rngD 0 (1 + (Well.raw c).fig 4).toNat) := rng1_ok _ (rngOk_of (by omega) (by omega))
  generalize hm : (1 + (Well.raw c).fig 4).toNat = m at *
  have m1 : 1 ≤ m ∧ m ≤ 4 := by omega
  generalize (Well.raw c).fig 4 = r0 at *
  generalize (Well.raw c).aft 4 = w1 at *
  obtain ⟨PG, w2, e1, hl, hP⟩ := progs_lc S0 (.dat (.int c)) x3 x5 x6 x7 x8 (rngD 0 m) w1 [] (by rw [List.length_nil, rngD_length]; omega)
  rw [rngD_length] at hl
  rw [List.nil_append] at e1
  have P : Ps PG := ⟨by omega, by omega, fun p mp => (hP p mp).1, fun p mp => (hP p mp).2.1, fun p mp => (hP p mp).2.2.1, fun p mp => (hP p mp).2.2.2⟩
  have hL : (PG.map prD).length = PG.length := List.length_map _
  obtain ⟨t, et⟩ := gRepr_ok ((rpr_lst (n := 4) (W := 42100) (k := 7) (ds := PG.map prD) (fun d mm => by
    obtain ⟨p, mp, rfl⟩ := List.mem_map.mp mm
    exact (P.th p mp).rp) (by rw [hL]; omega)).mono : rpr 260000 60 (.lst (PG.map prD)))
  have nt := gNe_text t
  have p0 : (0 : Int) < (PG.length : Int) := by omega
  have b0 := w2.lo p0
  have b1 := w2.hi p0
  have e2 := dig w2 p0 (by omega)
  obtain ⟨n, hn⟩ : ∃ n : Nat, w2.fig PG.length = (n : Int) := ⟨(w2.fig PG.length).toNat, by omega⟩
  rw [hn] at e2 b1
  have hn : n < PG.length := by omega
  generalize w2.aft PG.length = w3 at *
  obtain ⟨w4, e3⟩ := right_eq P hn w3
  obtain ⟨N, w5, hN, e4⟩ := of_spec w4 (ds := [.int (-1), .int (PG.length : Int), .bl true, .non, .str "0", .tup [.int 0], .lst [.int 0], .int 10000000000000000000000000000000000000000]) (by simp) (by simp)
  obtain ⟨nN, oN⟩ := odd_of P hN
  have e5 := told_odd P.nice nN rfl P.are (by rw [hL]; exact oN)
  obtain ⟨p, r, hpr⟩ : ∃ p r, PG = p :: r := by
    cases PG with
    | nil => simp at hl; omega
    | cons p r => exact ⟨p, r, rfl⟩
  obtain ⟨Bd, w6, hB, e6⟩ := of_spec w5 (ds := [.lst [], .tup (PG.map prD), prD p, .lst [prD p, prD p, prD p, prD p, prD p], .non, .lst [prD p, .tup []]]) (by simp) (by simp)
  obtain ⟨nB, sB, oB⟩ := bad_of P hpr hB
  obtain ⟨E, w7, hE, e7⟩ := of_spec w6 (ds := [.int (n : Int), N]) (by simp) (by simp)
  have e8 := told_bad (e := E) nB sB oB
  have g1 : gIx (.lst (PG.map prD)) (.int 0) = some (.dat (prD p)) := by
    rw [hpr, gIx_lst, show (0 : Int) = ((0 : Nat) : Int) from rfl, atI_nat']
    rfl
  have g2 : gSl (.lst (PG.map prD)) none (some 1) = some (.own [prD p]) := by
    rw [hpr]
    show some (B.own (cutD (prD p :: r.map prD) none (some 1))) = _
    congr 2
  have g3 : gTuple [.lst (PG.map prD)] = some (.dat (.tup (PG.map prD))) := rfl
  have g4 : gAdd (.lst [prD p]) (.lst [.tup []]) = some (.own [prD p, .tup []]) := gAdd_lst (by simp)
  have n1 := ne_two (a := "number")
  have n2 := ne_two (a := "programs")
  have r5 := rep5 (prD p)
  clear hB hN nN oN nB sB oB hE P hP hpr
  generalize prD p = A at *
  generalize PG.map prD = P0 at *
  have s1 : (sSet 2 (cLst (aCons (cNO 1) aNil))) [S0, .dat (.int c), x2, x3, .un, x5, x6, x7, x8] = .nx [S0, .dat (.int c), .own [.int c], x3, .un, x5, x6, x7, x8] := by simp
  have s2 : q_law_1 [S0, .dat (.int c), .own [.int c], x3, .un, x5, x6, x7, x8] = .nx [S0, .dat (.int c), .own w2.ds, .dat (.lst P0), .un, x5, x6, x7, x8] := by
    simp [e0, hr, e1, outs_cons, outs_nil, wipeE, restE]
  have s3 : (sSet 5 (cD (cCB gRepr (aCons (cNO 3) aNil)))) [S0, .dat (.int c), .own w2.ds, .dat (.lst P0), .un, x5, x6, x7, x8] = .nx [S0, .dat (.int c), .own w2.ds, .dat (.lst P0), .un, .dat (.str t), x6, x7, x8] := by simp [et]
  have s4 : q_law_2 [S0, .dat (.int c), .own w2.ds, .dat (.lst P0), .un, .dat (.str t), x6, x7, x8] = .nx [S0, .dat (.int c), .own w3.ds, .dat (.lst P0), .un, .dat (.str t), .dat (.int (n : Int)), x7, x8] := by simp [hL, e2, outs_cons, outs_nil]
  have s5 : q_law_3 [S0, .dat (.int c), .own w3.ds, .dat (.lst P0), .un, .dat (.str t), .dat (.int (n : Int)), x7, x8] = .nx [S0, .dat (.int c), .own w4.ds, .dat (.lst P0), .un, .dat (.str t), .dat (.int (n : Int)), x7, x8] := by simp [e3, outs_cons, outs_nil]
  have s6 : q_law_4 [S0, .dat (.int c), .own w4.ds, .dat (.lst P0), .un, .dat (.str t), .dat (.int (n : Int)), x7, x8] = .nx [S0, .dat (.int c), .own w5.ds, .dat (.lst P0), .un, .dat (.str t), .dat (.int (n : Int)), .dat N, x8] := by simp [hL, e4, outs_cons, outs_nil]
  have s7 : q_law_5 [S0, .dat (.int c), .own w5.ds, .dat (.lst P0), .un, .dat (.str t), .dat (.int (n : Int)), .dat N, x8] = .nx [S0, .dat (.int c), .own w5.ds, .dat (.lst P0), .un, .dat (.str t), .dat (.int (n : Int)), .dat N, x8] := by simp [e5, n1, et, nt, outs_cons, outs_nil]
  have s8 : q_law_6 [S0, .dat (.int c), .own w5.ds, .dat (.lst P0), .un, .dat (.str t), .dat (.int (n : Int)), .dat N, x8] = .nx [S0, .dat (.int c), .own w6.ds, .dat (.lst P0), .un, .dat (.str t), .dat (.int (n : Int)), .dat N, .dat Bd] := by simp [g1, g2, g3, g4, r5, e6, outs_cons, outs_nil]
  have s9 : q_law_7 [S0, .dat (.int c), .own w6.ds, .dat (.lst P0), .un, .dat (.str t), .dat (.int (n : Int)), .dat N, .dat Bd] = .nx [S0, .dat (.int c), .own w7.ds, .dat (.lst P0), .un, .dat (.str t), .dat (.int (n : Int)), .dat N, .dat Bd] := by simp [e7, e8, n2, outs_cons, outs_nil]
  refine ⟨.own w7.ds, .dat (.lst P0), .dat (.str t), .dat (.int (n : Int)), .dat N, .dat Bd, ?_⟩
  rw [ub_law_2]
  exact seq_nx s1 (seq_nx s2 (seq_nx s3 (seq_nx s4 (seq_nx s5 (seq_nx s6 (seq_nx s7 (seq_nx s8 s9)))))))
theorem law_loop (S0 : B) : ∀ (ds : List D) (x1 x2 x3 x5 x6 x7 x8 : B), (∀ d ∈ ds, ∃ c : Int, d = .int c) → ∃ y1 y2 y3 y5 y6 y7 y8 : B, forD (pName 1) b_law_2 ds [S0, x1, x2, x3, .un, x5, x6, x7, x8] = .nx [S0, y1, y2, y3, .un, y5, y6, y7, y8]
  | [], x1, x2, x3, x5, x6, x7, x8, _ => ⟨x1, x2, x3, x5, x6, x7, x8, rfl⟩
  | d :: ds, x1, x2, x3, x5, x6, x7, x8, h => by
    obtain ⟨c, rfl⟩ := h d List.mem_cons_self
    obtain ⟨y2, y3, y5, y6, y7, y8, e⟩ := cell_turn S0 c x2 x3 x5 x6 x7 x8
    obtain ⟨z1, z2, z3, z5, z6, z7, z8, ih⟩ := law_loop S0 ds (.dat (.int c)) y2 y3 y5 y6 y7 y8 fun e m => h e (List.mem_cons_of_mem _ m)
    refine ⟨z1, z2, z3, z5, z6, z7, z8, ?_⟩
    rw [forD_cons]
    simp [e, ih]
theorem law_true (ns : List Int) (hl : ns.length ≤ 63) : ∃ outs, f_law [.dat (.scr (ns.map .int))] = .ok (.dat (.bl true)) outs := by
  obtain ⟨c, ec⟩ := cell_spec ns 0
  have hc := cut_len (ns.map D.int) (some 1) (some 4)
  rw [List.length_map] at hc
  have ga := gAdd_lst (xs := [.int c]) (ys := cutD (ns.map D.int) (some 1) (some 4)) (by simp; omega)
  obtain ⟨y1, y2, y3, y5, y6, y7, y8, e⟩ := law_loop (.dat (.scr (ns.map .int))) ([.int c] ++ cutD (ns.map D.int) (some 1) (some 4)) .un .un .un .un .un .un .un (fun d m => by
    rcases List.mem_append.mp m with z | z
    · exact ⟨c, List.mem_singleton.mp z⟩
    · obtain ⟨k, _, rfl⟩ := List.mem_map.mp (cut_sub z)
      exact ⟨k, rfl⟩)
  have ec : f_law_cell_at [.dat (.scr (ns.map .int)), .dat (.int 0)] = .ok (.dat (.int c)) [.un, .un] := ec
  have gs : gSl (.scr (ns.map D.int)) (some 1) (some 4) = some (.own (cutD (ns.map D.int) (some 1) (some 4))) := rfl
  have e : forD (pName 1) b_law_2 (D.int c :: cutD (ns.map D.int) (some 1) (some 4)) [.dat (.scr (ns.map .int)), .un, .un, .un, .un, .un, .un, .un, .un] = _ := e
  exact ⟨[.un], by simp [f_law, toF_at, m_law, outs_cons, outs_nil, ec, gs, ga, e]⟩
end Law
set_option Elab.async false
set_option linter.all false
set_option maxRecDepth 100000
set_option maxHeartbeats 8000000
namespace Law
open PySem PySem.Spec L2 Dl
open PyProof.Rows hiding St
theorem all_mk {l : PySem.W.OpenLaw} {w : World} {K : PySem.W.Frag} {h : Heap} {mg : Str → Option Value} {fa : Addr} (X : K.In h) (G : h.Ns mainGlobals mg) (hfa : mg "law" = some (.ref fa))
    {p0 : Addr} {od0 an0 : Option Addr} {sl0 : Array (Option Value)} {oc0 kV0 dc0 pm0 cd0 ct0 : Value}
    (a0 : PySem.W.nsIn K mainGlobals "_law_digit" = some (some (.ref p0)))
    (l0 : K.lookup p0 = some ⟨oc0, od0, .func (PySem.W.fnOf "_law_digit" "_law_digit" (defArgs s_law_digit) (defBody s_law_digit) (defScope s_law_digit) .none kV0 dc0 pm0 an0 cd0 ct0), sl0⟩) (c0 : PySem.W.codeIn K cd0 "_law_digit" = true) (k0 : PySem.W.keepIn K (.ref p0) = true)
    {p1 : Addr} {od1 an1 : Option Addr} {sl1 : Array (Option Value)} {oc1 kV1 dc1 pm1 cd1 ct1 : Value}
    (a1 : PySem.W.nsIn K mainGlobals "_law_of" = some (some (.ref p1)))
    (l1 : K.lookup p1 = some ⟨oc1, od1, .func (PySem.W.fnOf "_law_of" "_law_of" (defArgs s_law_of) (defBody s_law_of) (defScope s_law_of) .none kV1 dc1 pm1 an1 cd1 ct1), sl1⟩) (c1 : PySem.W.codeIn K cd1 "_law_of" = true) (k1 : PySem.W.keepIn K (.ref p1) = true)
    {p2 : Addr} {od2 an2 : Option Addr} {sl2 : Array (Option Value)} {oc2 kV2 dc2 pm2 cd2 ct2 : Value}
    (a2 : PySem.W.nsIn K mainGlobals "_law_cell_at" = some (some (.ref p2)))
    (l2 : K.lookup p2 = some ⟨oc2, od2, .func (PySem.W.fnOf "_law_cell_at" "_law_cell_at" (defArgs s_law_cell_at) (defBody s_law_cell_at) (defScope s_law_cell_at) .none kV2 dc2 pm2 an2 cd2 ct2), sl2⟩) (c2 : PySem.W.codeIn K cd2 "_law_cell_at" = true) (k2 : PySem.W.keepIn K (.ref p2) = true)
    {p3 : Addr} {od3 an3 : Option Addr} {sl3 : Array (Option Value)} {oc3 kV3 dc3 pm3 cd3 ct3 : Value}
    (a3 : PySem.W.nsIn K mainGlobals "_law_steps" = some (some (.ref p3)))
    (l3 : K.lookup p3 = some ⟨oc3, od3, .func (PySem.W.fnOf "_law_steps" "_law_steps" (defArgs s_law_steps) (defBody s_law_steps) (defScope s_law_steps) .none kV3 dc3 pm3 an3 cd3 ct3), sl3⟩) (c3 : PySem.W.codeIn K cd3 "_law_steps" = true) (k3 : PySem.W.keepIn K (.ref p3) = true)
    {p4 : Addr} {od4 an4 : Option Addr} {sl4 : Array (Option Value)} {oc4 kV4 dc4 pm4 cd4 ct4 : Value}
    (a4 : PySem.W.nsIn K mainGlobals "_law_program" = some (some (.ref p4)))
    (l4 : K.lookup p4 = some ⟨oc4, od4, .func (PySem.W.fnOf "_law_program" "_law_program" (defArgs s_law_program) (defBody s_law_program) (defScope s_law_program) .none kV4 dc4 pm4 an4 cd4 ct4), sl4⟩) (c4 : PySem.W.codeIn K cd4 "_law_program" = true) (k4 : PySem.W.keepIn K (.ref p4) = true)
    {p5 : Addr} {od5 an5 : Option Addr} {sl5 : Array (Option Value)} {oc5 kV5 dc5 pm5 cd5 ct5 : Value}
    (a5 : PySem.W.nsIn K mainGlobals "_law_spots" = some (some (.ref p5)))
    (l5 : K.lookup p5 = some ⟨oc5, od5, .func (PySem.W.fnOf "_law_spots" "_law_spots" (defArgs s_law_spots) (defBody s_law_spots) (defScope s_law_spots) .none kV5 dc5 pm5 an5 cd5 ct5), sl5⟩) (c5 : PySem.W.codeIn K cd5 "_law_spots" = true) (k5 : PySem.W.keepIn K (.ref p5) = true)
    {p6 : Addr} {od6 an6 : Option Addr} {sl6 : Array (Option Value)} {oc6 kV6 dc6 pm6 cd6 ct6 : Value}
    (a6 : PySem.W.nsIn K mainGlobals "_law_sights" = some (some (.ref p6)))
    (l6 : K.lookup p6 = some ⟨oc6, od6, .func (PySem.W.fnOf "_law_sights" "_law_sights" (defArgs s_law_sights) (defBody s_law_sights) (defScope s_law_sights) .none kV6 dc6 pm6 an6 cd6 ct6), sl6⟩) (c6 : PySem.W.codeIn K cd6 "_law_sights" = true) (k6 : PySem.W.keepIn K (.ref p6) = true)
    {p7 : Addr} {od7 an7 : Option Addr} {sl7 : Array (Option Value)} {oc7 kV7 dc7 pm7 cd7 ct7 : Value}
    (a7 : PySem.W.nsIn K mainGlobals "is_from" = some (some (.ref p7)))
    (l7 : K.lookup p7 = some ⟨oc7, od7, .func (PySem.W.fnOf "is_from" "is_from" (defArgs s_is_from) (defBody s_is_from) (defScope s_is_from) .none kV7 dc7 pm7 an7 cd7 ct7), sl7⟩) (c7 : PySem.W.codeIn K cd7 "is_from" = true) (k7 : PySem.W.keepIn K (.ref p7) = true)
    {p8 : Addr} {od8 an8 : Option Addr} {sl8 : Array (Option Value)} {oc8 kV8 dc8 pm8 cd8 ct8 : Value}
    (a8 : PySem.W.nsIn K mainGlobals "are_tables" = some (some (.ref p8)))
    (l8 : K.lookup p8 = some ⟨oc8, od8, .func (PySem.W.fnOf "are_tables" "are_tables" (defArgs s_are_tables) (defBody s_are_tables) (defScope s_are_tables) .none kV8 dc8 pm8 an8 cd8 ct8), sl8⟩) (c8 : PySem.W.codeIn K cd8 "are_tables" = true) (k8 : PySem.W.keepIn K (.ref p8) = true)
    {p9 : Addr} {od9 an9 : Option Addr} {sl9 : Array (Option Value)} {oc9 kV9 dc9 pm9 cd9 ct9 : Value}
    (a9 : PySem.W.nsIn K mainGlobals "in_order" = some (some (.ref p9)))
    (l9 : K.lookup p9 = some ⟨oc9, od9, .func (PySem.W.fnOf "in_order" "in_order" (defArgs s_in_order) (defBody s_in_order) (defScope s_in_order) .none kV9 dc9 pm9 an9 cd9 ct9), sl9⟩) (c9 : PySem.W.codeIn K cd9 "in_order" = true) (k9 : PySem.W.keepIn K (.ref p9) = true)
    {p10 : Addr} {od10 an10 : Option Addr} {sl10 : Array (Option Value)} {oc10 kV10 dc10 pm10 cd10 ct10 : Value}
    (a10 : PySem.W.nsIn K mainGlobals "is_slot" = some (some (.ref p10)))
    (l10 : K.lookup p10 = some ⟨oc10, od10, .func (PySem.W.fnOf "is_slot" "is_slot" (defArgs s_is_slot) (defBody s_is_slot) (defScope s_is_slot) .none kV10 dc10 pm10 an10 cd10 ct10), sl10⟩) (c10 : PySem.W.codeIn K cd10 "is_slot" = true) (k10 : PySem.W.keepIn K (.ref p10) = true)
    {p11 : Addr} {od11 an11 : Option Addr} {sl11 : Array (Option Value)} {oc11 kV11 dc11 pm11 cd11 ct11 : Value}
    (a11 : PySem.W.nsIn K mainGlobals "is_slot_step" = some (some (.ref p11)))
    (l11 : K.lookup p11 = some ⟨oc11, od11, .func (PySem.W.fnOf "is_slot_step" "is_slot_step" (defArgs s_is_slot_step) (defBody s_is_slot_step) (defScope s_is_slot_step) .none kV11 dc11 pm11 an11 cd11 ct11), sl11⟩) (c11 : PySem.W.codeIn K cd11 "is_slot_step" = true) (k11 : PySem.W.keepIn K (.ref p11) = true)
    {p12 : Addr} {od12 an12 : Option Addr} {sl12 : Array (Option Value)} {oc12 kV12 dc12 pm12 cd12 ct12 : Value}
    (a12 : PySem.W.nsIn K mainGlobals "is_program" = some (some (.ref p12)))
    (l12 : K.lookup p12 = some ⟨oc12, od12, .func (PySem.W.fnOf "is_program" "is_program" (defArgs s_is_program) (defBody s_is_program) (defScope s_is_program) .none kV12 dc12 pm12 an12 cd12 ct12), sl12⟩) (c12 : PySem.W.codeIn K cd12 "is_program" = true) (k12 : PySem.W.keepIn K (.ref p12) = true)
    {p13 : Addr} {od13 an13 : Option Addr} {sl13 : Array (Option Value)} {oc13 kV13 dc13 pm13 cd13 ct13 : Value}
    (a13 : PySem.W.nsIn K mainGlobals "are_programs" = some (some (.ref p13)))
    (l13 : K.lookup p13 = some ⟨oc13, od13, .func (PySem.W.fnOf "are_programs" "are_programs" (defArgs s_are_programs) (defBody s_are_programs) (defScope s_are_programs) .none kV13 dc13 pm13 an13 cd13 ct13), sl13⟩) (c13 : PySem.W.codeIn K cd13 "are_programs" = true) (k13 : PySem.W.keepIn K (.ref p13) = true)
    {p14 : Addr} {od14 an14 : Option Addr} {sl14 : Array (Option Value)} {oc14 kV14 dc14 pm14 cd14 ct14 : Value}
    (a14 : PySem.W.nsIn K mainGlobals "sure_programs" = some (some (.ref p14)))
    (l14 : K.lookup p14 = some ⟨oc14, od14, .func (PySem.W.fnOf "sure_programs" "sure_programs" (defArgs s_sure_programs) (defBody s_sure_programs) (defScope s_sure_programs) .none kV14 dc14 pm14 an14 cd14 ct14), sl14⟩) (c14 : PySem.W.codeIn K cd14 "sure_programs" = true) (k14 : PySem.W.keepIn K (.ref p14) = true)
    {p15 : Addr} {od15 an15 : Option Addr} {sl15 : Array (Option Value)} {oc15 kV15 dc15 pm15 cd15 ct15 : Value}
    (a15 : PySem.W.nsIn K mainGlobals "sure_program_number" = some (some (.ref p15)))
    (l15 : K.lookup p15 = some ⟨oc15, od15, .func (PySem.W.fnOf "sure_program_number" "sure_program_number" (defArgs s_sure_program_number) (defBody s_sure_program_number) (defScope s_sure_program_number) .none kV15 dc15 pm15 an15 cd15 ct15), sl15⟩) (c15 : PySem.W.codeIn K cd15 "sure_program_number" = true) (k15 : PySem.W.keepIn K (.ref p15) = true)
    {p16 : Addr} {od16 an16 : Option Addr} {sl16 : Array (Option Value)} {oc16 kV16 dc16 pm16 cd16 ct16 : Value}
    (a16 : PySem.W.nsIn K mainGlobals "all_spots" = some (some (.ref p16)))
    (l16 : K.lookup p16 = some ⟨oc16, od16, .func (PySem.W.fnOf "all_spots" "all_spots" (defArgs s_all_spots) (defBody s_all_spots) (defScope s_all_spots) .none kV16 dc16 pm16 an16 cd16 ct16), sl16⟩) (c16 : PySem.W.codeIn K cd16 "all_spots" = true) (k16 : PySem.W.keepIn K (.ref p16) = true)
    {p17 : Addr} {od17 an17 : Option Addr} {sl17 : Array (Option Value)} {oc17 kV17 dc17 pm17 cd17 ct17 : Value}
    (a17 : PySem.W.nsIn K mainGlobals "all_sights" = some (some (.ref p17)))
    (l17 : K.lookup p17 = some ⟨oc17, od17, .func (PySem.W.fnOf "all_sights" "all_sights" (defArgs s_all_sights) (defBody s_all_sights) (defScope s_all_sights) .none kV17 dc17 pm17 an17 cd17 ct17), sl17⟩) (c17 : PySem.W.codeIn K cd17 "all_sights" = true) (k17 : PySem.W.keepIn K (.ref p17) = true)
    {p18 : Addr} {od18 an18 : Option Addr} {sl18 : Array (Option Value)} {oc18 kV18 dc18 pm18 cd18 ct18 : Value}
    (a18 : PySem.W.nsIn K mainGlobals "sights" = some (some (.ref p18)))
    (l18 : K.lookup p18 = some ⟨oc18, od18, .func (PySem.W.fnOf "sights" "sights" (defArgs s_sights) (defBody s_sights) (defScope s_sights) .none kV18 dc18 pm18 an18 cd18 ct18), sl18⟩) (c18 : PySem.W.codeIn K cd18 "sights" = true) (k18 : PySem.W.keepIn K (.ref p18) = true)
    {p19 : Addr} {od19 an19 : Option Addr} {sl19 : Array (Option Value)} {oc19 kV19 dc19 pm19 cd19 ct19 : Value}
    (a19 : PySem.W.nsIn K mainGlobals "_law_told" = some (some (.ref p19)))
    (l19 : K.lookup p19 = some ⟨oc19, od19, .func (PySem.W.fnOf "_law_told" "_law_told" (defArgs s_law_told) (defBody s_law_told) (defScope s_law_told) .none kV19 dc19 pm19 an19 cd19 ct19), sl19⟩) (c19 : PySem.W.codeIn K cd19 "_law_told" = true) (k19 : PySem.W.keepIn K (.ref p19) = true)
    {p20 : Addr} {od20 an20 : Option Addr} {sl20 : Array (Option Value)} {oc20 kV20 dc20 pm20 cd20 ct20 : Value}
    (a20 : PySem.W.nsIn K mainGlobals "_law_keys" = some (some (.ref p20)))
    (l20 : K.lookup p20 = some ⟨oc20, od20, .func (PySem.W.fnOf "_law_keys" "_law_keys" (defArgs s_law_keys) (defBody s_law_keys) (defScope s_law_keys) .none kV20 dc20 pm20 an20 cd20 ct20), sl20⟩) (c20 : PySem.W.codeIn K cd20 "_law_keys" = true) (k20 : PySem.W.keepIn K (.ref p20) = true)
    {p21 : Addr} {od21 an21 : Option Addr} {sl21 : Array (Option Value)} {oc21 kV21 dc21 pm21 cd21 ct21 : Value}
    (a21 : PySem.W.nsIn K mainGlobals "_law_sight_of" = some (some (.ref p21)))
    (l21 : K.lookup p21 = some ⟨oc21, od21, .func (PySem.W.fnOf "_law_sight_of" "_law_sight_of" (defArgs s_law_sight_of) (defBody s_law_sight_of) (defScope s_law_sight_of) .none kV21 dc21 pm21 an21 cd21 ct21), sl21⟩) (c21 : PySem.W.codeIn K cd21 "_law_sight_of" = true) (k21 : PySem.W.keepIn K (.ref p21) = true)
    {p22 : Addr} {od22 an22 : Option Addr} {sl22 : Array (Option Value)} {oc22 kV22 dc22 pm22 cd22 ct22 : Value}
    (a22 : PySem.W.nsIn K mainGlobals "_law_is_sight" = some (some (.ref p22)))
    (l22 : K.lookup p22 = some ⟨oc22, od22, .func (PySem.W.fnOf "_law_is_sight" "_law_is_sight" (defArgs s_law_is_sight) (defBody s_law_is_sight) (defScope s_law_is_sight) .none kV22 dc22 pm22 an22 cd22 ct22), sl22⟩) (c22 : PySem.W.codeIn K cd22 "_law_is_sight" = true) (k22 : PySem.W.keepIn K (.ref p22) = true)
    {p23 : Addr} {od23 an23 : Option Addr} {sl23 : Array (Option Value)} {oc23 kV23 dc23 pm23 cd23 ct23 : Value}
    (a23 : PySem.W.nsIn K mainGlobals "_law_right" = some (some (.ref p23)))
    (l23 : K.lookup p23 = some ⟨oc23, od23, .func (PySem.W.fnOf "_law_right" "_law_right" (defArgs s_law_right) (defBody s_law_right) (defScope s_law_right) .none kV23 dc23 pm23 an23 cd23 ct23), sl23⟩) (c23 : PySem.W.codeIn K cd23 "_law_right" = true) (k23 : PySem.W.keepIn K (.ref p23) = true)
    {p24 : Addr} {od24 an24 : Option Addr} {sl24 : Array (Option Value)} {oc24 kV24 dc24 pm24 cd24 ct24 : Value}
    (a24 : PySem.W.nsIn K mainGlobals "law" = some (some (.ref p24)))
    (l24 : K.lookup p24 = some ⟨oc24, od24, .func (PySem.W.fnOf "law" "law" (defArgs s_law) (defBody s_law) (defScope s_law) .none kV24 dc24 pm24 an24 cd24 ct24), sl24⟩) (c24 : PySem.W.codeIn K cd24 "law" = true) (k24 : PySem.W.keepIn K (.ref p24) = true)
    {e_NoNumber : Addr} (cn_NoNumber : PySem.W.nsIn K mainGlobals "NoNumber" = some (some (.ref e_NoNumber)))
    {e_NoPrograms : Addr} (cn_NoPrograms : PySem.W.nsIn K mainGlobals "NoPrograms" = some (some (.ref e_NoPrograms)))
    (cr_NoNumber : PySem.W.excIn K e_NoNumber [.type "ValueError", .type "Exception", .type "BaseException", .type "object"] "ValueError.__new__" = true) (ck_NoNumber : PySem.W.keepIn K (.ref e_NoNumber) = true) (cs_NoNumber : PySem.W.subIn K (.ref e_NoNumber) (.type "BaseException") = some true) (ct_NoNumber : PySem.W.typeIn K (.ref e_NoNumber) = some (.type "type"))
    (cx_NoNumber_NoPrograms : PySem.W.exmOne K (.ref e_NoNumber) (.ref e_NoPrograms) = some false)
    (cx_NoNumber_NoNumber : PySem.W.exmOne K (.ref e_NoNumber) (.ref e_NoNumber) = some true)
    (xh1_NoNumber : PySem.W.findIn K (.ref e_NoNumber) "__getattribute__" = some (some (.builtin "BaseException.__getattribute__"))) (xh2_NoNumber : PySem.W.findIn K (.ref e_NoNumber) "__getattr__" = some none) (xh4_NoNumber : PySem.W.hasDictIn K e_NoNumber = true) (xh5_NoNumber : PySem.W.findIn K (.ref e_NoNumber) "__class__" = some (some (.builtin "object.__class__"))) (xh8_NoNumber : PySem.W.mroIn K e_NoNumber (.type "object") = some true)
    (ci_NoNumber_NoNumber : PySem.W.kitOne K (.ref e_NoNumber) (.ref e_NoNumber) = some true)
    (ci_NoNumber_NoPrograms : PySem.W.kitOne K (.ref e_NoNumber) (.ref e_NoPrograms) = some false)
    (cr_NoPrograms : PySem.W.excIn K e_NoPrograms [.type "ValueError", .type "Exception", .type "BaseException", .type "object"] "ValueError.__new__" = true) (ck_NoPrograms : PySem.W.keepIn K (.ref e_NoPrograms) = true) (cs_NoPrograms : PySem.W.subIn K (.ref e_NoPrograms) (.type "BaseException") = some true) (ct_NoPrograms : PySem.W.typeIn K (.ref e_NoPrograms) = some (.type "type"))
    (cx_NoPrograms_NoPrograms : PySem.W.exmOne K (.ref e_NoPrograms) (.ref e_NoPrograms) = some true)
    (cx_NoPrograms_NoNumber : PySem.W.exmOne K (.ref e_NoPrograms) (.ref e_NoNumber) = some false)
    (xh1_NoPrograms : PySem.W.findIn K (.ref e_NoPrograms) "__getattribute__" = some (some (.builtin "BaseException.__getattribute__"))) (xh2_NoPrograms : PySem.W.findIn K (.ref e_NoPrograms) "__getattr__" = some none) (xh4_NoPrograms : PySem.W.hasDictIn K e_NoPrograms = true) (xh5_NoPrograms : PySem.W.findIn K (.ref e_NoPrograms) "__class__" = some (some (.builtin "object.__class__"))) (xh8_NoPrograms : PySem.W.mroIn K e_NoPrograms (.type "object") = some true)
    (ci_NoPrograms_NoNumber : PySem.W.kitOne K (.ref e_NoPrograms) (.ref e_NoNumber) = some false)
    (ci_NoPrograms_NoPrograms : PySem.W.kitOne K (.ref e_NoPrograms) (.ref e_NoPrograms) = some true)
    (xh6 : PySem.W.specialIn K (.builtin "object.__class__") "__get__" = some (some (.builtin "getset_descriptor.__get__"))) (xh7 : PySem.W.takesIn K (.builtin "object.__class__") = some true)
    (z_all : PySem.W.nsIn K mainGlobals "all" = some none)
    (z_bool : PySem.W.nsIn K mainGlobals "bool" = some none)
    (z_enumerate : PySem.W.nsIn K mainGlobals "enumerate" = some none)
    (z_int : PySem.W.nsIn K mainGlobals "int" = some none)
    (z_isinstance : PySem.W.nsIn K mainGlobals "isinstance" = some none)
    (z_len : PySem.W.nsIn K mainGlobals "len" = some none)
    (z_list : PySem.W.nsIn K mainGlobals "list" = some none)
    (z_range : PySem.W.nsIn K mainGlobals "range" = some none)
    (z_repr : PySem.W.nsIn K mainGlobals "repr" = some none)
    (z_sorted : PySem.W.nsIn K mainGlobals "sorted" = some none)
    (z_str : PySem.W.nsIn K mainGlobals "str" = some none)
    (z_tuple : PySem.W.nsIn K mainGlobals "tuple" = some none)
    {u0 : Value} (g0 : PySem.W.nsIn K mainGlobals "MOST_KEYS" = some (some u0)) (v0 : RelV (.int 3) u0)
    {u1 : Value} (g1 : PySem.W.nsIn K mainGlobals "MOST_PROGRAMS" = some (some u1)) (v1 : RelV (.int 4) u1)
    {u2 : Value} (g2 : PySem.W.nsIn K mainGlobals "MOST_STEPS" = some (some u2)) (v2 : RelV (.int 6) u2)
    {u3 : Value} (g3 : PySem.W.nsIn K mainGlobals "MOST_TABLE" = some (some u3)) (v3 : RelV (.int 9) u3)
    {u4 : Value} (g4 : PySem.W.nsIn K mainGlobals "WIDE" = some (some u4)) (v4 : RelV (.int 1000000) u4)
    {u5 : Addr} {ud5 : Option Addr} {us5 : Array Value} {un5 : Nat} {ul5 : Array (Option Value)}
    (g5 : PySem.W.nsIn K mainGlobals "WORDS" = some (some (.ref u5)))
    (h5 : K.lookup u5 = some ⟨.type "tuple", ud5, .seq us5 un5, ul5⟩)
    (v5 : Vals [.str "read", .str "write"] us5.toList) (w5 : us5.size ≤ sizeLine) :
    ∃ fd : FuncData, (∀ (s : Shared) (v : Value), BindsTo s fd ⟨[v], []⟩ [("_law_script", v)]) ∧ ∀ base : Heap, K.In base → base.Ns mainGlobals mg → FnG l.prog w K mg base 11 fa fd ["_law_script"] (spLawB K []) := by
  have e := hfa.symm.trans (PySem.W.mg_of X G a24)
  cases e
  have Z : Z0 mg := ⟨PySem.W.mg_none_of X G z_all, PySem.W.mg_none_of X G z_bool, PySem.W.mg_none_of X G z_enumerate, PySem.W.mg_none_of X G z_int, PySem.W.mg_none_of X G z_isinstance, PySem.W.mg_none_of X G z_len, PySem.W.mg_none_of X G z_list, PySem.W.mg_none_of X G z_range, PySem.W.mg_none_of X G z_repr, PySem.W.mg_none_of X G z_sorted, PySem.W.mg_none_of X G z_str, PySem.W.mg_none_of X G z_tuple⟩
  have R_NoNumber : XAt K mg "NoNumber" := ⟨e_NoNumber, PySem.W.mg_of X G cn_NoNumber, cn_NoNumber, cr_NoNumber, ck_NoNumber, cs_NoNumber, ct_NoNumber⟩
  have XC_NoNumber : ExcC K e_NoNumber := ⟨xh1_NoNumber, xh2_NoNumber, cs_NoNumber, xh4_NoNumber, xh5_NoNumber, xh6, xh7, xh8_NoNumber⟩
  have R_NoPrograms : XAt K mg "NoPrograms" := ⟨e_NoPrograms, PySem.W.mg_of X G cn_NoPrograms, cn_NoPrograms, cr_NoPrograms, ck_NoPrograms, cs_NoPrograms, ct_NoPrograms⟩
  have XC_NoPrograms : ExcC K e_NoPrograms := ⟨xh1_NoPrograms, xh2_NoPrograms, cs_NoPrograms, xh4_NoPrograms, xh5_NoPrograms, xh6, xh7, xh8_NoPrograms⟩
  have XX : XF K mg := ⟨R_NoNumber, R_NoPrograms, ⟨e_NoPrograms, PySem.W.mg_of X G cn_NoPrograms, excsAt_of cn_NoPrograms (.cons cn_NoNumber cx_NoNumber_NoPrograms (.cons cn_NoPrograms cx_NoPrograms_NoPrograms .nil))⟩, ⟨e_NoNumber, PySem.W.mg_of X G cn_NoNumber, excsAt_of cn_NoNumber (.cons cn_NoNumber cx_NoNumber_NoNumber (.cons cn_NoPrograms cx_NoPrograms_NoNumber .nil))⟩, ⟨e_NoNumber, PySem.W.mg_of X G cn_NoNumber, isAt_of (.cons cn_NoNumber XC_NoNumber ci_NoNumber_NoNumber (.cons cn_NoPrograms XC_NoPrograms ci_NoPrograms_NoNumber .nil))⟩, ⟨e_NoPrograms, PySem.W.mg_of X G cn_NoPrograms, isAt_of (.cons cn_NoNumber XC_NoNumber ci_NoNumber_NoPrograms (.cons cn_NoPrograms XC_NoPrograms ci_NoPrograms_NoPrograms .nil))⟩⟩
  have C_MOST_KEYS : CAt K mg "MOST_KEYS" (.int 3) (.int 3) u0 := ⟨PySem.W.mg_of X G g0, v0, fun _ => rp_int⟩
  have C_MOST_PROGRAMS : CAt K mg "MOST_PROGRAMS" (.int 4) (.int 4) u1 := ⟨PySem.W.mg_of X G g1, v1, fun _ => rp_int⟩
  have C_MOST_STEPS : CAt K mg "MOST_STEPS" (.int 6) (.int 6) u2 := ⟨PySem.W.mg_of X G g2, v2, fun _ => rp_int⟩
  have C_MOST_TABLE : CAt K mg "MOST_TABLE" (.int 9) (.int 9) u3 := ⟨PySem.W.mg_of X G g3, v3, fun _ => rp_int⟩
  have C_WIDE : CAt K mg "WIDE" (.int 1000000) (.int 1000000) u4 := ⟨PySem.W.mg_of X G g4, v4, fun _ => rp_int⟩
  have C_WORDS : CAt K mg "WORDS" (.tup [(.str "read"), (.str "write")]) (.ref u5) (.ref u5) := ⟨PySem.W.mg_of X G g5, rfl, fun _ => rp_wtup h5 rfl rfl w5 v5 ((.cons rp_str (.cons rp_str .nil)))⟩
  have D0 : DefAt K mg "_law_digit" s_law_digit ["_law_state", "_law_base"] p0 _ := ⟨fun_mk (st := s_law_digit) l0 c0 k0, PySem.W.mg_of X G a0, (fun_mk (st := s_law_digit) l0 c0 k0).binds (ps := ["_law_state", "_law_base"]) fun _ _ _ _ _ _ us hl => match us, hl with | [_, _], _ => rfl⟩
  have D1 : DefAt K mg "_law_of" s_law_of ["_law_state", "_law_some"] p1 _ := ⟨fun_mk (st := s_law_of) l1 c1 k1, PySem.W.mg_of X G a1, (fun_mk (st := s_law_of) l1 c1 k1).binds (ps := ["_law_state", "_law_some"]) fun _ _ _ _ _ _ us hl => match us, hl with | [_, _], _ => rfl⟩
  have D2 : DefAt K mg "_law_cell_at" s_law_cell_at ["_law_script", "_law_k"] p2 _ := ⟨fun_mk (st := s_law_cell_at) l2 c2 k2, PySem.W.mg_of X G a2, (fun_mk (st := s_law_cell_at) l2 c2 k2).binds (ps := ["_law_script", "_law_k"]) fun _ _ _ _ _ _ us hl => match us, hl with | [_, _], _ => rfl⟩
  have D3 : DefAt K mg "_law_steps" s_law_steps ["_law_state", "_law_slots", "_law_most"] p3 _ := ⟨fun_mk (st := s_law_steps) l3 c3 k3, PySem.W.mg_of X G a3, (fun_mk (st := s_law_steps) l3 c3 k3).binds (ps := ["_law_state", "_law_slots", "_law_most"]) fun _ _ _ _ _ _ us hl => match us, hl with | [_, _, _], _ => rfl⟩
  have D4 : DefAt K mg "_law_program" s_law_program ["_law_state", "_law_keys_most", "_law_most"] p4 _ := ⟨fun_mk (st := s_law_program) l4 c4 k4, PySem.W.mg_of X G a4, (fun_mk (st := s_law_program) l4 c4 k4).binds (ps := ["_law_state", "_law_keys_most", "_law_most"]) fun _ _ _ _ _ _ us hl => match us, hl with | [_, _, _], _ => rfl⟩
  have D5 : DefAt K mg "_law_spots" s_law_spots ["_law_tables", "_law_others"] p5 _ := ⟨fun_mk (st := s_law_spots) l5 c5 k5, PySem.W.mg_of X G a5, (fun_mk (st := s_law_spots) l5 c5 k5).binds (ps := ["_law_tables", "_law_others"]) fun _ _ _ _ _ _ us hl => match us, hl with | [_, _], _ => rfl⟩
  have D6 : DefAt K mg "_law_sights" s_law_sights ["_law_some", "_law_number"] p6 _ := ⟨fun_mk (st := s_law_sights) l6 c6 k6, PySem.W.mg_of X G a6, (fun_mk (st := s_law_sights) l6 c6 k6).binds (ps := ["_law_some", "_law_number"]) fun _ _ _ _ _ _ us hl => match us, hl with | [_, _], _ => rfl⟩
  have D7 : DefAt K mg "is_from" s_is_from ["thing", "low", "high"] p7 _ := ⟨fun_mk (st := s_is_from) l7 c7 k7, PySem.W.mg_of X G a7, (fun_mk (st := s_is_from) l7 c7 k7).binds (ps := ["thing", "low", "high"]) fun _ _ _ _ _ _ us hl => match us, hl with | [_, _, _], _ => rfl⟩
  have D8 : DefAt K mg "are_tables" s_are_tables ["thing"] p8 _ := ⟨fun_mk (st := s_are_tables) l8 c8 k8, PySem.W.mg_of X G a8, (fun_mk (st := s_are_tables) l8 c8 k8).binds (ps := ["thing"]) fun _ _ _ _ _ _ us hl => match us, hl with | [_], _ => rfl⟩
  have D9 : DefAt K mg "in_order" s_in_order ["steps"] p9 _ := ⟨fun_mk (st := s_in_order) l9 c9 k9, PySem.W.mg_of X G a9, (fun_mk (st := s_in_order) l9 c9 k9).binds (ps := ["steps"]) fun _ _ _ _ _ _ us hl => match us, hl with | [_], _ => rfl⟩
  have D10 : DefAt K mg "is_slot" s_is_slot ["thing", "many"] p10 _ := ⟨fun_mk (st := s_is_slot) l10 c10 k10, PySem.W.mg_of X G a10, (fun_mk (st := s_is_slot) l10 c10 k10).binds (ps := ["thing", "many"]) fun _ _ _ _ _ _ us hl => match us, hl with | [_, _], _ => rfl⟩
  have D11 : DefAt K mg "is_slot_step" s_is_slot_step ["thing", "many"] p11 _ := ⟨fun_mk (st := s_is_slot_step) l11 c11 k11, PySem.W.mg_of X G a11, (fun_mk (st := s_is_slot_step) l11 c11 k11).binds (ps := ["thing", "many"]) fun _ _ _ _ _ _ us hl => match us, hl with | [_, _], _ => rfl⟩
  have D12 : DefAt K mg "is_program" s_is_program ["thing"] p12 _ := ⟨fun_mk (st := s_is_program) l12 c12 k12, PySem.W.mg_of X G a12, (fun_mk (st := s_is_program) l12 c12 k12).binds (ps := ["thing"]) fun _ _ _ _ _ _ us hl => match us, hl with | [_], _ => rfl⟩
  have D13 : DefAt K mg "are_programs" s_are_programs ["thing"] p13 _ := ⟨fun_mk (st := s_are_programs) l13 c13 k13, PySem.W.mg_of X G a13, (fun_mk (st := s_are_programs) l13 c13 k13).binds (ps := ["thing"]) fun _ _ _ _ _ _ us hl => match us, hl with | [_], _ => rfl⟩
  have D14 : DefAt K mg "sure_programs" s_sure_programs ["thing"] p14 _ := ⟨fun_mk (st := s_sure_programs) l14 c14 k14, PySem.W.mg_of X G a14, (fun_mk (st := s_sure_programs) l14 c14 k14).binds (ps := ["thing"]) fun _ _ _ _ _ _ us hl => match us, hl with | [_], _ => rfl⟩
  have D15 : DefAt K mg "sure_program_number" s_sure_program_number ["programs", "number"] p15 _ := ⟨fun_mk (st := s_sure_program_number) l15 c15 k15, PySem.W.mg_of X G a15, (fun_mk (st := s_sure_program_number) l15 c15 k15).binds (ps := ["programs", "number"]) fun _ _ _ _ _ _ us hl => match us, hl with | [_, _], _ => rfl⟩
  have D16 : DefAt K mg "all_spots" s_all_spots ["tables", "others"] p16 _ := ⟨fun_mk (st := s_all_spots) l16 c16 k16, PySem.W.mg_of X G a16, (fun_mk (st := s_all_spots) l16 c16 k16).binds (ps := ["tables", "others"]) fun _ _ _ _ _ _ us hl => match us, hl with | [_, _], _ => rfl⟩
  have D17 : DefAt K mg "all_sights" s_all_sights ["programs", "number"] p17 _ := ⟨fun_mk (st := s_all_sights) l17 c17 k17, PySem.W.mg_of X G a17, (fun_mk (st := s_all_sights) l17 c17 k17).binds (ps := ["programs", "number"]) fun _ _ _ _ _ _ us hl => match us, hl with | [_, _], _ => rfl⟩
  have D18 : DefAt K mg "sights" s_sights ["programs", "number"] p18 _ := ⟨fun_mk (st := s_sights) l18 c18 k18, PySem.W.mg_of X G a18, (fun_mk (st := s_sights) l18 c18 k18).binds (ps := ["programs", "number"]) fun _ _ _ _ _ _ us hl => match us, hl with | [_, _], _ => rfl⟩
  have D19 : DefAt K mg "_law_told" s_law_told ["_law_some", "_law_number"] p19 _ := ⟨fun_mk (st := s_law_told) l19 c19 k19, PySem.W.mg_of X G a19, (fun_mk (st := s_law_told) l19 c19 k19).binds (ps := ["_law_some", "_law_number"]) fun _ _ _ _ _ _ us hl => match us, hl with | [_, _], _ => rfl⟩
  have D20 : DefAt K mg "_law_keys" s_law_keys ["_law_state", "_law_tables"] p20 _ := ⟨fun_mk (st := s_law_keys) l20 c20 k20, PySem.W.mg_of X G a20, (fun_mk (st := s_law_keys) l20 c20 k20).binds (ps := ["_law_state", "_law_tables"]) fun _ _ _ _ _ _ us hl => match us, hl with | [_, _], _ => rfl⟩
  have D21 : DefAt K mg "_law_sight_of" s_law_sight_of ["_law_some", "_law_number", "_law_first", "_law_other", "_law_worths"] p21 _ := ⟨fun_mk (st := s_law_sight_of) l21 c21 k21, PySem.W.mg_of X G a21, (fun_mk (st := s_law_sight_of) l21 c21 k21).binds (ps := ["_law_some", "_law_number", "_law_first", "_law_other", "_law_worths"]) fun _ _ _ _ _ _ us hl => match us, hl with | [_, _, _, _, _], _ => rfl⟩
  have D22 : DefAt K mg "_law_is_sight" s_law_is_sight ["_law_thing"] p22 _ := ⟨fun_mk (st := s_law_is_sight) l22 c22 k22, PySem.W.mg_of X G a22, (fun_mk (st := s_law_is_sight) l22 c22 k22).binds (ps := ["_law_thing"]) fun _ _ _ _ _ _ us hl => match us, hl with | [_], _ => rfl⟩
  have D23 : DefAt K mg "_law_right" s_law_right ["_law_state", "_law_some", "_law_number"] p23 _ := ⟨fun_mk (st := s_law_right) l23 c23 k23, PySem.W.mg_of X G a23, (fun_mk (st := s_law_right) l23 c23 k23).binds (ps := ["_law_state", "_law_some", "_law_number"]) fun _ _ _ _ _ _ us hl => match us, hl with | [_, _, _], _ => rfl⟩
  have D24 : DefAt K mg "law" s_law ["_law_script"] fa _ := ⟨fun_mk (st := s_law) l24 c24 k24, PySem.W.mg_of X G a24, (fun_mk (st := s_law) l24 c24 k24).binds (ps := ["_law_script"]) fun _ _ _ _ _ _ us hl => match us, hl with | [_], _ => rfl⟩
  refine ⟨PySem.W.fnOf "law" "law" (defArgs s_law) (defBody s_law) (defScope s_law) .none kV24 dc24 pm24 an24 cd24 ct24, fun s v => .of_eq rfl, fun base _ _ => ?_⟩
  have O_law_digit := ok_law_digit (P := l.prog) (w := w) (base := base) (T := []) D0 Z XX 
  have O_law_of := ok_law_of (P := l.prog) (w := w) (base := base) (T := []) D1 Z XX O_law_digit 
  have O_law_cell_at := ok_law_cell_at (P := l.prog) (w := w) (base := base) (T := []) D2 Z XX 
  have O_law_steps := ok_law_steps (P := l.prog) (w := w) (base := base) (T := []) D3 Z XX O_law_digit 
  have O_law_program := ok_law_program (P := l.prog) (w := w) (base := base) (T := []) D4 Z XX O_law_digit O_law_of O_law_steps 
  have O_law_spots := ok_law_spots (P := l.prog) (w := w) (base := base) (T := []) D5 Z XX 
  have O_law_sights := ok_law_sights (P := l.prog) (w := w) (base := base) (T := []) D6 Z XX O_law_spots 
  have O_is_from := ok_is_from (P := l.prog) (w := w) (base := base) (T := []) D7 Z XX 
  have O_are_tables := ok_are_tables (P := l.prog) (w := w) (base := base) (T := []) D8 Z XX O_is_from C_MOST_KEYS C_MOST_TABLE
  have O_in_order := ok_in_order (P := l.prog) (w := w) (base := base) (T := []) D9 Z XX 
  have O_is_slot := ok_is_slot (P := l.prog) (w := w) (base := base) (T := []) D10 Z XX O_is_from C_WIDE
  have O_is_slot_step := ok_is_slot_step (P := l.prog) (w := w) (base := base) (T := []) D11 Z XX O_is_slot C_WORDS
  have O_is_program := ok_is_program (P := l.prog) (w := w) (base := base) (T := []) D12 Z XX O_are_tables O_in_order O_is_slot_step C_MOST_STEPS
  have O_are_programs := ok_are_programs (P := l.prog) (w := w) (base := base) (T := []) D13 Z XX O_is_program C_MOST_PROGRAMS
  have O_sure_programs := ok_sure_programs (P := l.prog) (w := w) (base := base) (T := []) D14 Z XX O_are_programs 
  have O_sure_program_number := ok_sure_program_number (P := l.prog) (w := w) (base := base) (T := []) D15 Z XX O_is_from O_sure_programs 
  have O_all_spots := ok_all_spots (P := l.prog) (w := w) (base := base) (T := []) D16 Z XX 
  have O_all_sights := ok_all_sights (P := l.prog) (w := w) (base := base) (T := []) D17 Z XX O_all_spots 
  have O_sights := ok_sights (P := l.prog) (w := w) (base := base) (T := []) D18 Z XX O_all_sights O_sure_program_number 
  have O_law_told := ok_law_told (P := l.prog) (w := w) (base := base) (T := []) D19 Z XX O_sights 
  have O_law_keys := ok_law_keys (P := l.prog) (w := w) (base := base) (T := []) D20 Z XX O_law_digit 
  have O_law_sight_of := ok_law_sight_of (P := l.prog) (w := w) (base := base) (T := []) D21 Z XX 
  have O_law_is_sight := ok_law_is_sight (P := l.prog) (w := w) (base := base) (T := []) D22 Z XX 
  have O_law_right := ok_law_right (P := l.prog) (w := w) (base := base) (T := []) D23 Z XX O_law_digit O_law_is_sight O_law_keys O_law_sight_of O_law_sights O_law_told 
  have O_law := ok_law (P := l.prog) (w := w) (base := base) (T := []) D24 Z XX O_law_cell_at O_law_digit O_law_of O_law_program O_law_right O_law_told 
  exact law_endG O_law fun ns h1 h2 => law_true ns h1
theorem walk {l : PySem.W.OpenLaw} {q : Program} {loose : List Str} {XP : (Str → Option Value) → Heap → Prop} {YP : World → Heap → Prop} {d : DefRec} {K : Params → PySem.W.Frag} (hn : l.most = some 63) (hdf : d.params.defaults = [])
    (hY : ∀ (w : World) (h : Heap), YP w h → (K w.params).In h)
    (F : ∀ (w : World) (mg : Str → Option Value) (fa : Addr) (h : Heap), (K w.params).In h → h.Ns mainGlobals mg → mg d.name = some (.ref fa) →
      ∃ fd : FuncData, (∀ (s : Shared) (u : Value), BindsTo s fd ⟨[u], []⟩ [("_law_script", u)]) ∧ ∀ base : Heap, (K w.params).In base → base.Ns mainGlobals mg → FnG l.prog w (K w.params) mg base 11 fa fd ["_law_script"] (spLawB (K w.params) [])) :
    PySem.W.WalkO q loose XP YP l.row.toRowW d [] (fun f vs => PySem.call f vs) :=
  walk_lawG (k := 11) (x := "_law_script") hn hdf ⟨rfl, by decide, by decide⟩ hY F
end Law
open PySem PySem.W PyProof.Rows
set_option maxRecDepth 100000 in
set_option maxHeartbeats 0 in
theorem PySem.Challenge.cw_asifalone_k73_sights_told_holds : PySem.Challenge.rw_asifalone_k73_sights_told.Holds := by
  w_on; o_law; k_head; (case hw => w_witness2)
  k_fill
  refine Law.walk (l := PySem.Challenge.rw_asifalone_k73_sights_told) rfl rfl (fun w h Y => PySem.W.kIn_of Y) ?F
  case F =>
    intro w mg fa h KX G hmg
    refine' Law.all_mk KX G hmg ?kq_a0 ?kq_l0 ?kq_c0 ?kq_k0 ?kq_a1 ?kq_l1 ?kq_c1 ?kq_k1 ?kq_a2 ?kq_l2 ?kq_c2 ?kq_k2 ?kq_a3 ?kq_l3 ?kq_c3 ?kq_k3 ?kq_a4 ?kq_l4 ?kq_c4 ?kq_k4 ?kq_a5 ?kq_l5 ?kq_c5 ?kq_k5 ?kq_a6 ?kq_l6 ?kq_c6 ?kq_k6 ?kq_a7 ?kq_l7 ?kq_c7 ?kq_k7 ?kq_a8 ?kq_l8 ?kq_c8 ?kq_k8 ?kq_a9 ?kq_l9 ?kq_c9 ?kq_k9 ?kq_a10 ?kq_l10 ?kq_c10 ?kq_k10 ?kq_a11 ?kq_l11 ?kq_c11 ?kq_k11 ?kq_a12 ?kq_l12 ?kq_c12 ?kq_k12 ?kq_a13 ?kq_l13 ?kq_c13 ?kq_k13 ?kq_a14 ?kq_l14 ?kq_c14 ?kq_k14 ?kq_a15 ?kq_l15 ?kq_c15 ?kq_k15 ?kq_a16 ?kq_l16 ?kq_c16 ?kq_k16 ?kq_a17 ?kq_l17 ?kq_c17 ?kq_k17 ?kq_a18 ?kq_l18 ?kq_c18 ?kq_k18 ?kq_a19 ?kq_l19 ?kq_c19 ?kq_k19 ?kq_a20 ?kq_l20 ?kq_c20 ?kq_k20 ?kq_a21 ?kq_l21 ?kq_c21 ?kq_k21 ?kq_a22 ?kq_l22 ?kq_c22 ?kq_k22 ?kq_a23 ?kq_l23 ?kq_c23 ?kq_k23 ?kq_a24 ?kq_l24 ?kq_c24 ?kq_k24 ?kq_cn_NoNumber ?kq_cn_NoPrograms ?kq_cr_NoNumber ?kq_ck_NoNumber ?kq_cs_NoNumber ?kq_ct_NoNumber ?kq_cx_NoNumber_NoPrograms ?kq_cx_NoNumber_NoNumber ?kq_xh1_NoNumber ?kq_xh2_NoNumber ?kq_xh4_NoNumber ?kq_xh5_NoNumber ?kq_xh8_NoNumber ?kq_ci_NoNumber_NoNumber ?kq_ci_NoNumber_NoPrograms ?kq_cr_NoPrograms ?kq_ck_NoPrograms ?kq_cs_NoPrograms ?kq_ct_NoPrograms ?kq_cx_NoPrograms_NoPrograms ?kq_cx_NoPrograms_NoNumber ?kq_xh1_NoPrograms ?kq_xh2_NoPrograms ?kq_xh4_NoPrograms ?kq_xh5_NoPrograms ?kq_xh8_NoPrograms ?kq_ci_NoPrograms_NoNumber ?kq_ci_NoPrograms_NoPrograms ?kq_xh6 ?kq_xh7 ?kq_z_all ?kq_z_bool ?kq_z_enumerate ?kq_z_int ?kq_z_isinstance ?kq_z_len ?kq_z_list ?kq_z_range ?kq_z_repr ?kq_z_sorted ?kq_z_str ?kq_z_tuple ?kq_g0 ?kq_v0 ?kq_g1 ?kq_v1 ?kq_g2 ?kq_v2 ?kq_g3 ?kq_v3 ?kq_g4 ?kq_v4 ?kq_g5 ?kq_h5 ?kq_v5 ?kq_w5
    (case kq_a0 => k_is)
    (case kq_l0 => k_is)
    (case kq_c0 => k_is)
    (case kq_k0 => k_is)
    (case kq_a1 => k_is)
    (case kq_l1 => k_is)
    (case kq_c1 => k_is)
    (case kq_k1 => k_is)
    (case kq_a2 => k_is)
    (case kq_l2 => k_is)
    (case kq_c2 => k_is)
    (case kq_k2 => k_is)
    (case kq_a3 => k_is)
    (case kq_l3 => k_is)
    (case kq_c3 => k_is)
    (case kq_k3 => k_is)
    (case kq_a4 => k_is)
    (case kq_l4 => k_is)
    (case kq_c4 => k_is)
    (case kq_k4 => k_is)
    (case kq_a5 => k_is)
    (case kq_l5 => k_is)
    (case kq_c5 => k_is)
    (case kq_k5 => k_is)
    (case kq_a6 => k_is)
    (case kq_l6 => k_is)
    (case kq_c6 => k_is)
    (case kq_k6 => k_is)
    (case kq_a7 => k_is)
    (case kq_l7 => k_is)
    (case kq_c7 => k_is)
    (case kq_k7 => k_is)
    (case kq_a8 => k_is)
    (case kq_l8 => k_is)
    (case kq_c8 => k_is)
    (case kq_k8 => k_is)
    (case kq_a9 => k_is)
    (case kq_l9 => k_is)
    (case kq_c9 => k_is)
    (case kq_k9 => k_is)
    (case kq_a10 => k_is)
    (case kq_l10 => k_is)
    (case kq_c10 => k_is)
    (case kq_k10 => k_is)
    (case kq_a11 => k_is)
    (case kq_l11 => k_is)
    (case kq_c11 => k_is)
    (case kq_k11 => k_is)
    (case kq_a12 => k_is)
    (case kq_l12 => k_is)
    (case kq_c12 => k_is)
    (case kq_k12 => k_is)
    (case kq_a13 => k_is)
    (case kq_l13 => k_is)
    (case kq_c13 => k_is)
    (case kq_k13 => k_is)
    (case kq_a14 => k_is)
    (case kq_l14 => k_is)
    (case kq_c14 => k_is)
    (case kq_k14 => k_is)
    (case kq_a15 => k_is)
    (case kq_l15 => k_is)
    (case kq_c15 => k_is)
    (case kq_k15 => k_is)
    (case kq_a16 => k_is)
    (case kq_l16 => k_is)
    (case kq_c16 => k_is)
    (case kq_k16 => k_is)
    (case kq_a17 => k_is)
    (case kq_l17 => k_is)
    (case kq_c17 => k_is)
    (case kq_k17 => k_is)
    (case kq_a18 => k_is)
    (case kq_l18 => k_is)
    (case kq_c18 => k_is)
    (case kq_k18 => k_is)
    (case kq_a19 => k_is)
    (case kq_l19 => k_is)
    (case kq_c19 => k_is)
    (case kq_k19 => k_is)
    (case kq_a20 => k_is)
    (case kq_l20 => k_is)
    (case kq_c20 => k_is)
    (case kq_k20 => k_is)
    (case kq_a21 => k_is)
    (case kq_l21 => k_is)
    (case kq_c21 => k_is)
    (case kq_k21 => k_is)
    (case kq_a22 => k_is)
    (case kq_l22 => k_is)
    (case kq_c22 => k_is)
    (case kq_k22 => k_is)
    (case kq_a23 => k_is)
    (case kq_l23 => k_is)
    (case kq_c23 => k_is)
    (case kq_k23 => k_is)
    (case kq_a24 => k_is)
    (case kq_l24 => k_is)
    (case kq_c24 => k_is)
    (case kq_k24 => k_is)
    (case kq_cn_NoNumber => k_is)
    (case kq_cn_NoPrograms => k_is)
    (case kq_cr_NoNumber => kernel_rfl)
    (case kq_ck_NoNumber => k_is)
    (case kq_cs_NoNumber => k_is)
    (case kq_ct_NoNumber => k_is)
    (case kq_cx_NoNumber_NoPrograms => kernel_rfl)
    (case kq_cx_NoNumber_NoNumber => kernel_rfl)
    (case kq_xh1_NoNumber => k_is)
    (case kq_xh2_NoNumber => k_is)
    (case kq_xh4_NoNumber => k_is)
    (case kq_xh5_NoNumber => k_is)
    (case kq_xh8_NoNumber => k_is)
    (case kq_ci_NoNumber_NoNumber => kernel_rfl)
    (case kq_ci_NoNumber_NoPrograms => kernel_rfl)
    (case kq_cr_NoPrograms => kernel_rfl)
    (case kq_ck_NoPrograms => k_is)
    (case kq_cs_NoPrograms => k_is)
    (case kq_ct_NoPrograms => k_is)
    (case kq_cx_NoPrograms_NoPrograms => kernel_rfl)
    (case kq_cx_NoPrograms_NoNumber => kernel_rfl)
    (case kq_xh1_NoPrograms => k_is)
    (case kq_xh2_NoPrograms => k_is)
    (case kq_xh4_NoPrograms => k_is)
    (case kq_xh5_NoPrograms => k_is)
    (case kq_xh8_NoPrograms => k_is)
    (case kq_ci_NoPrograms_NoNumber => kernel_rfl)
    (case kq_ci_NoPrograms_NoPrograms => kernel_rfl)
    (case kq_xh6 => k_is)
    (case kq_xh7 => k_is)
    (case kq_z_all => k_is)
    (case kq_z_bool => k_is)
    (case kq_z_enumerate => k_is)
    (case kq_z_int => k_is)
    (case kq_z_isinstance => k_is)
    (case kq_z_len => k_is)
    (case kq_z_list => k_is)
    (case kq_z_range => k_is)
    (case kq_z_repr => k_is)
    (case kq_z_sorted => k_is)
    (case kq_z_str => k_is)
    (case kq_z_tuple => k_is)
    (case kq_g0 => k_is)
    (case kq_v0 => exact ⟨_, rfl⟩)
    (case kq_g1 => k_is)
    (case kq_v1 => exact ⟨_, rfl⟩)
    (case kq_g2 => k_is)
    (case kq_v2 => exact ⟨_, rfl⟩)
    (case kq_g3 => k_is)
    (case kq_v3 => exact ⟨_, rfl⟩)
    (case kq_g4 => k_is)
    (case kq_v4 => exact ⟨_, rfl⟩)
    (case kq_g5 => k_is)
    (case kq_h5 => k_is)
    (case kq_v5 => exact (.cons ⟨_, rfl⟩ (.cons ⟨_, rfl⟩ .nil)))
    (case kq_w5 => decide)
