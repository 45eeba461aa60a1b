import PyProof.Rows.All
import Wide.All
import OpenK.AllK
import Wide.FinOn
import HandS.ForExc
import HandS.ForMost
import HandS.Wide
import HandS.Zip0
import HandS.Style
import HandS.TupMul
import HandS.Conv
import KE.SortData
import KE.KDictSum
import KE.LtData
import HandS.SortInts
import HandS.TupLe
import HandS.TupLen
import HandS.IsInst
import HandS.Zip
import HandS.Rev
import HandS.Head0
import HandS.Head1
import HandS.Head2
import HandS.HeadEnd
import HandS.HeadHook1
import HandS.HeadHook2
import HandS.HeadHook4
import HandS.Codes
import PySem.Challenge.RW_hourhaul_k13_laid_together_and_later
set_option Elab.async false
set_option linter.all false
set_option maxRecDepth 100000
set_option Elab.async false
set_option linter.all false
set_option maxRecDepth 100000
set_option maxHeartbeats 2000000
/-! Vi1: trees of values, ownership, realisation in the abstract heap. -/
namespace Vi
open PySem L2
inductive Kd where
  | tup | lst (o : Bool) | dK (o : Bool) (ks : List Key) | dT (o : Bool) (ks : List (List Key)) | obj (o : Bool) (c : Nat) (ns : List Str)
  deriving DecidableEq
inductive D where
  | hole | non | bl (b : Bool) | int (i : Int) | str (x : Str) | nd (k : Kd) (xs : List D)
def Kd.ow : Kd → Option Bool
  | .tup => none
  | .lst o => some o
  | .dK o _ => some o
  | .dT o _ => some o
  | .obj o _ _ => some o
def Kd.fz : Kd → Kd
  | .tup => .tup
  | .lst _ => .lst false
  | .dK _ ks => .dK false ks
  | .dT _ ks => .dT false ks
  | .obj _ c ns => .obj false c ns
mutual
def D.dec : (a b : D) → Decidable (a = b)
  | .hole, .hole => Decidable.isTrue rfl
  | .non, .non => Decidable.isTrue rfl
  | .bl a, .bl b => if h : a = b then Decidable.isTrue (by rw [h]) else Decidable.isFalse (fun e => h (D.bl.inj e))
  | .int a, .int b => if h : a = b then Decidable.isTrue (by rw [h]) else Decidable.isFalse (fun e => h (D.int.inj e))
  | .str a, .str b => if h : a = b then Decidable.isTrue (by rw [h]) else Decidable.isFalse (fun e => h (D.str.inj e))
  | .nd k xs, .nd l ys => if h : k = l then (match D.decs xs ys with
    | Decidable.isTrue e => Decidable.isTrue (by rw [h, e])
    | Decidable.isFalse e => Decidable.isFalse (fun q => e (D.nd.inj q).2)) else Decidable.isFalse (fun q => h (D.nd.inj q).1)
  | .hole, .non | .hole, .bl _ | .hole, .int _ | .hole, .str _ | .hole, .nd _ _ => Decidable.isFalse (fun e => nomatch e)
  | .non, .hole | .non, .bl _ | .non, .int _ | .non, .str _ | .non, .nd _ _ => Decidable.isFalse (fun e => nomatch e)
  | .bl _, .hole | .bl _, .non | .bl _, .int _ | .bl _, .str _ | .bl _, .nd _ _ => Decidable.isFalse (fun e => nomatch e)
  | .int _, .hole | .int _, .non | .int _, .bl _ | .int _, .str _ | .int _, .nd _ _ => Decidable.isFalse (fun e => nomatch e)
  | .str _, .hole | .str _, .non | .str _, .bl _ | .str _, .int _ | .str _, .nd _ _ => Decidable.isFalse (fun e => nomatch e)
  | .nd _ _, .hole | .nd _ _, .non | .nd _ _, .bl _ | .nd _ _, .int _ | .nd _ _, .str _ => Decidable.isFalse (fun e => nomatch e)
def D.decs : (a b : List D) → Decidable (a = b)
  | [], [] => Decidable.isTrue rfl
  | [], _ :: _ => Decidable.isFalse (fun e => nomatch e)
  | _ :: _, [] => Decidable.isFalse (fun e => nomatch e)
  | a :: as, b :: bs => match D.dec a b with
    | Decidable.isTrue h => (match D.decs as bs with
      | Decidable.isTrue e => Decidable.isTrue (by rw [h, e])
      | Decidable.isFalse e => Decidable.isFalse (fun q => e (List.cons.inj q).2))
    | Decidable.isFalse h => Decidable.isFalse (fun q => h (List.cons.inj q).1)
end
instance : DecidableEq D := D.dec
mutual
def frz : D → D
  | .nd k xs => .nd k.fz (frzs xs)
  | .hole => .hole
  | .non => .non
  | .bl b => .bl b
  | .int i => .int i
  | .str x => .str x
def frzs : List D → List D
  | [] => []
  | d :: ds => frz d :: frzs ds
end
mutual
/-- no owned node in it -/
def imm : D → Bool
  | .nd k xs => (k.ow != some true) && imms xs
  | .hole => false
  | .non => true
  | .bl _ => true
  | .int _ => true
  | .str _ => true
def imms : List D → Bool
  | [] => true
  | d :: ds => imm d && imms ds
end
mutual
/-- no frozen node in it -/
def nof : D → Bool
  | .nd k xs => (k.ow != some false) && nofs xs
  | .hole => true
  | .non => true
  | .bl _ => true
  | .int _ => true
  | .str _ => true
def nofs : List D → Bool
  | [] => true
  | d :: ds => nof d && nofs ds
end
theorem imms_all : ∀ xs : List D, imms xs = xs.all imm
  | [] => rfl
  | x :: xs => by show (imm x && imms xs) = _; rw [imms_all xs]; rfl
theorem frzs_map : ∀ xs : List D, frzs xs = xs.map frz
  | [] => rfl
  | x :: xs => by show frz x :: frzs xs = _; rw [frzs_map xs]; rfl
theorem nofs_all : ∀ xs : List D, nofs xs = xs.all nof
  | [] => rfl
  | x :: xs => by show (nof x && nofs xs) = _; rw [nofs_all xs]; rfl

section
variable (K : PySem.W.Frag) (cl : Nat → Addr)
/-- what never changes -/
def immo : HO → Prop
  | .tup _ => True
  | .frz _ _ => True
  | _ => False
def Cell (H : Hp) (a : Addr) : Kd → List V → Prop
  | .tup, vs => SqT K H a vs
  | .lst true, vs => H a = some (.lst vs)
  | .lst false, vs => Rd H a (.lst vs)
  | .dK _ ks, vs => H a = some (.dK (ks.zip vs)) ∧ ks.length = vs.length
  | .dT _ ks, vs => H a = some (.dT (ks.zip vs)) ∧ ks.length = vs.length
  | .obj _ c ns, vs => ∃ dx, H a = some (.ins (cl c) dx (ns.zip vs)) ∧ ns.length = vs.length
/-- an object of the module -/
def CellK (a : Addr) : Kd → List V → Prop
  | .lst _, vs => SqL K (fun _ => none) a vs
  | _, _ => False
mutual
inductive R (H : Hp) : D → V → List Addr → List Addr → Prop
  | non : R H .non .non [] []
  | bl (b : Bool) : R H (.bl b) (.bl b) [] []
  | int (i : Int) : R H (.int i) (.int i) [] []
  | str (x : Str) : R H (.str x) (.str x) [] []
  | tup {xs : List D} {a : Addr} {vs : List V} {f s : List Addr} : SqT K H a vs → Rs H xs vs f s → R H (.nd .tup xs) (.ref a) f s
  | own {k : Kd} {xs : List D} {a : Addr} {vs : List V} {f s : List Addr} : k.ow = some true → Cell K cl H a k vs → Rs H xs vs f s → R H (.nd k xs) (.ref a) (a :: f) s
  | frz {k : Kd} {xs : List D} {a : Addr} {vs : List V} {s : List Addr} : k.ow = some false → Cell K cl H a k vs → Rs H xs vs [] s → R H (.nd k xs) (.ref a) [] (a :: s)
  | kst {k : Kd} {xs : List D} {a : Addr} {vs : List V} : k.ow = some false → CellK K a k vs → Rs H xs vs [] [] → R H (.nd k xs) (.ref a) [] []
inductive Rs (H : Hp) : List D → List V → List Addr → List Addr → Prop
  | nil : Rs H [] [] [] []
  | cons {d : D} {ds : List D} {v : V} {vs : List V} {f f' s s' : List Addr} : R H d v f s → Rs H ds vs f' s' → Rs H (d :: ds) (v :: vs) (f ++ f') (s ++ s')
end
end
section
variable {K : PySem.W.Frag} {cl : Nat → Addr} {H H' : Hp}
theorem SqT.keep {a : Addr} {vs : List V} (h : SqT K H a vs) (k : ∀ b o, H b = some o → immo o → H' b = some o) : SqT K H' a vs := by
  rcases h with (h | ⟨o, h⟩) | h
  · exact .inl (.inl (k _ _ h trivial))
  · exact .inl (.inr ⟨o, k _ _ h trivial⟩)
  · exact .inr h
theorem Cell.keep {a : Addr} {k : Kd} {vs : List V} (h : Cell K cl H a k vs) (q : ∀ b o, H b = some o → (b = a ∨ immo o) → H' b = some o) : Cell K cl H' a k vs := by
  cases k with
  | tup => exact SqT.keep h fun b o e i => q b o e (.inr i)
  | lst o =>
    cases o with
    | true => exact q _ _ h (.inl rfl)
    | false =>
      rcases h with h | ⟨o, h⟩
      · exact .inl (q _ _ h (.inl rfl))
      · exact .inr ⟨o, q _ _ h (.inl rfl)⟩
  | dK o ks => exact ⟨q _ _ h.1 (.inl rfl), h.2⟩
  | dT o ks => exact ⟨q _ _ h.1 (.inl rfl), h.2⟩
  | obj o c ns => obtain ⟨dx, h1, h2⟩ := h; exact ⟨dx, q _ _ h1 (.inl rfl), h2⟩
theorem Cell.some {a : Addr} {k : Kd} {vs : List V} (h : Cell K cl H a k vs) (hk : k.ow ≠ none) : ∃ o, H a = some o := by
  cases k with
  | tup => exact absurd rfl hk
  | lst o =>
    cases o with
    | true => exact ⟨_, h⟩
    | false =>
      rcases h with h | ⟨o, h⟩
      · exact ⟨_, h⟩
      · exact ⟨_, h⟩
  | dK o ks => exact ⟨_, h.1⟩
  | dT o ks => exact ⟨_, h.1⟩
  | obj o c ns => obtain ⟨dx, h1, h2⟩ := h; exact ⟨_, h1⟩
theorem Cell.fz {a : Addr} {k : Kd} {vs : List V} (h : Cell K cl H a k vs) : Cell K cl H a k.fz vs := by
  cases k with
  | lst o =>
    cases o with
    | true => exact .inl h
    | false => exact h
  | _ => exact h
theorem Kd.fz_ow {k : Kd} {o : Bool} (h : k.ow = Option.some o) : k.fz.ow = Option.some false := by
  cases k <;> first | rfl | cases h
mutual
theorem R.keep : ∀ (d : D) {v : V} {f s : List Addr}, R K cl H d v f s → (∀ b o, H b = some o → (b ∈ f ∨ b ∈ s ∨ immo o) → H' b = some o) → R K cl H' d v f s
  | .hole, _, _, _, h, _ => nomatch h
  | .non, _, _, _, h, _ => by cases h; exact .non
  | .bl _, _, _, _, h, _ => by cases h; exact .bl _
  | .int _, _, _, _, h, _ => by cases h; exact .int _
  | .str _, _, _, _, h, _ => by cases h; exact .str _
  | .nd k xs, _, _, _, h, q => by
    cases h with
    | tup h1 h2 => exact .tup (SqT.keep h1 fun b o e i => q b o e (.inr (.inr i))) (Rs.keep xs h2 q)
    | own h0 h1 h2 =>
      refine .own h0 (h1.keep fun b o e i => q b o e (i.elim (fun z => .inl (by rw [z]; exact List.mem_cons_self)) fun z => .inr (.inr z))) (Rs.keep xs h2 fun b o e i => q b o e ?_)
      rcases i with i | i | i
      · exact .inl (List.mem_cons_of_mem _ i)
      · exact .inr (.inl i)
      · exact .inr (.inr i)
    | frz h0 h1 h2 =>
      refine .frz h0 (h1.keep fun b o e i => q b o e (i.elim (fun z => .inr (.inl (by rw [z]; exact List.mem_cons_self))) fun z => .inr (.inr z))) (Rs.keep xs h2 fun b o e i => q b o e ?_)
      rcases i with i | i | i
      · cases i
      · exact .inr (.inl (List.mem_cons_of_mem _ i))
      · exact .inr (.inr i)
    | kst h0 h1 h2 => exact .kst h0 h1 (Rs.keep xs h2 q)
theorem Rs.keep : ∀ (ds : List D) {vs : List V} {f s : List Addr}, Rs K cl H ds vs f s → (∀ b o, H b = some o → (b ∈ f ∨ b ∈ s ∨ immo o) → H' b = some o) → Rs K cl H' ds vs f s
  | [], _, _, _, h, _ => by cases h; exact .nil
  | d :: ds, _, _, _, h, q => by
    cases h with
    | cons h1 h2 =>
      refine .cons (R.keep d h1 fun b o e i => q b o e ?_) (Rs.keep ds h2 fun b o e i => q b o e ?_)
      · rcases i with i | i | i
        · exact .inl (List.mem_append_left _ i)
        · exact .inr (.inl (List.mem_append_left _ i))
        · exact .inr (.inr i)
      · rcases i with i | i | i
        · exact .inl (List.mem_append_right _ i)
        · exact .inr (.inl (List.mem_append_right _ i))
        · exact .inr (.inr i)
end
mutual
/-- what it stands on is there -/
theorem R.live : ∀ (d : D) {v : V} {f s : List Addr}, R K cl H d v f s → ∀ b, b ∈ f ∨ b ∈ s → ∃ o, H b = some o
  | .hole, _, _, _, h => nomatch h
  | .non, _, _, _, h => by cases h; intro b hb; rcases hb with z | z <;> cases z
  | .bl _, _, _, _, h => by cases h; intro b hb; rcases hb with z | z <;> cases z
  | .int _, _, _, _, h => by cases h; intro b hb; rcases hb with z | z <;> cases z
  | .str _, _, _, _, h => by cases h; intro b hb; rcases hb with z | z <;> cases z
  | .nd k xs, _, _, _, h => by
    intro b hb
    cases h with
    | tup h1 h2 => exact Rs.live xs h2 b hb
    | own h0 h1 h2 =>
      rcases hb with z | z
      · rcases List.mem_cons.mp z with rfl | z
        · exact h1.some (by rw [h0]; exact fun q => nomatch q)
        · exact Rs.live xs h2 b (.inl z)
      · exact Rs.live xs h2 b (.inr z)
    | frz h0 h1 h2 =>
      rcases hb with z | z
      · cases z
      · rcases List.mem_cons.mp z with rfl | z
        · exact h1.some (by rw [h0]; exact fun q => nomatch q)
        · exact Rs.live xs h2 b (.inr z)
    | kst h0 h1 h2 => rcases hb with z | z <;> cases z
theorem Rs.live : ∀ (ds : List D) {vs : List V} {f s : List Addr}, Rs K cl H ds vs f s → ∀ b, b ∈ f ∨ b ∈ s → ∃ o, H b = some o
  | [], _, _, _, h => by cases h; intro b hb; rcases hb with z | z <;> cases z
  | d :: ds, _, _, _, h => by
    intro b hb
    cases h with
    | cons h1 h2 =>
      rcases hb with z | z
      · rcases List.mem_append.mp z with z | z
        · exact R.live d h1 b (.inl z)
        · exact Rs.live ds h2 b (.inl z)
      · rcases List.mem_append.mp z with z | z
        · exact R.live d h1 b (.inr z)
        · exact Rs.live ds h2 b (.inr z)
end
mutual
/-- frozen -/
theorem R.freeze : ∀ (d : D) {v : V} {f s : List Addr}, R K cl H d v f s → ∃ s', R K cl H (frz d) v [] s' ∧ ∀ b, b ∈ s' → b ∈ f ∨ b ∈ s
  | .hole, _, _, _, h => nomatch h
  | .non, _, _, _, h => by cases h; exact ⟨[], .non, fun _ z => nomatch z⟩
  | .bl _, _, _, _, h => by cases h; exact ⟨[], .bl _, fun _ z => nomatch z⟩
  | .int _, _, _, _, h => by cases h; exact ⟨[], .int _, fun _ z => nomatch z⟩
  | .str _, _, _, _, h => by cases h; exact ⟨[], .str _, fun _ z => nomatch z⟩
  | .nd k xs, _, _, _, h => by
    cases h with
    | tup h1 h2 =>
      obtain ⟨s', r, q⟩ := Rs.freeze xs h2
      exact ⟨s', .tup h1 r, q⟩
    | own h0 h1 h2 =>
      obtain ⟨s', r, q⟩ := Rs.freeze xs h2
      refine ⟨_, .frz (Kd.fz_ow h0) h1.fz r, fun b hb => ?_⟩
      rcases List.mem_cons.mp hb with rfl | hb
      · exact .inl List.mem_cons_self
      · exact (q b hb).imp (List.mem_cons_of_mem _) id
    | frz h0 h1 h2 =>
      obtain ⟨s', r, q⟩ := Rs.freeze xs h2
      refine ⟨_, .frz (Kd.fz_ow h0) h1.fz r, fun b hb => ?_⟩
      rcases List.mem_cons.mp hb with rfl | hb
      · exact .inr List.mem_cons_self
      · exact (q b hb).imp id (List.mem_cons_of_mem _)
    | kst h0 h1 h2 =>
      obtain ⟨s', r, q⟩ := Rs.freeze xs h2
      have e : s' = [] := by
        cases s' with
        | nil => rfl
        | cons x l => exact absurd (q x List.mem_cons_self) (by simp)
      subst e
      rename_i a0 vs0
      have h1' : CellK K a0 k.fz vs0 := by cases k <;> first | exact h1 | exact h1.elim
      exact ⟨[], .kst (Kd.fz_ow h0) h1' r, fun _ z => (List.not_mem_nil z).elim⟩
theorem Rs.freeze : ∀ (ds : List D) {vs : List V} {f s : List Addr}, Rs K cl H ds vs f s → ∃ s', Rs K cl H (frzs ds) vs [] s' ∧ ∀ b, b ∈ s' → b ∈ f ∨ b ∈ s
  | [], _, _, _, h => by cases h; exact ⟨[], .nil, fun _ z => nomatch z⟩
  | d :: ds, _, _, _, h => by
    cases h with
    | cons h1 h2 =>
      obtain ⟨s1, r1, q1⟩ := R.freeze d h1
      obtain ⟨s2, r2, q2⟩ := Rs.freeze ds h2
      refine ⟨s1 ++ s2, .cons r1 r2, fun b hb => ?_⟩
      rcases List.mem_append.mp hb with z | z
      · exact (q1 b z).imp (List.mem_append_left _) (List.mem_append_left _)
      · exact (q2 b z).imp (List.mem_append_right _) (List.mem_append_right _)
end
mutual
theorem R.imm : ∀ (d : D) {v : V} {f s : List Addr}, R K cl H d v f s → imm d = true → f = []
  | .hole, _, _, _, h, _ => nomatch h
  | .non, _, _, _, h, _ => by cases h; rfl
  | .bl _, _, _, _, h, _ => by cases h; rfl
  | .int _, _, _, _, h, _ => by cases h; rfl
  | .str _, _, _, _, h, _ => by cases h; rfl
  | .nd k xs, _, _, _, h, e => by
    have e : ((k.ow != some true) && imms xs) = true := e
    obtain ⟨e1, e2⟩ := Bool.and_eq_true_iff.mp e
    cases h with
    | tup h1 h2 => exact Rs.imm xs h2 e2
    | own h0 h1 h2 => rw [h0] at e1; simp at e1
    | frz h0 h1 h2 => rfl
    | kst h0 h1 h2 => rfl
theorem Rs.imm : ∀ (ds : List D) {vs : List V} {f s : List Addr}, Rs K cl H ds vs f s → imms ds = true → f = []
  | [], _, _, _, h, _ => by cases h; rfl
  | d :: ds, _, _, _, h, e => by
    have e : (Vi.imm d && imms ds) = true := e
    obtain ⟨e1, e2⟩ := Bool.and_eq_true_iff.mp e
    cases h with
    | cons h1 h2 => rw [R.imm d h1 e1, Rs.imm ds h2 e2]; rfl
end
mutual
theorem R.nof : ∀ (d : D) {v : V} {f s : List Addr}, R K cl H d v f s → nof d = true → s = []
  | .hole, _, _, _, h, _ => nomatch h
  | .non, _, _, _, h, _ => by cases h; rfl
  | .bl _, _, _, _, h, _ => by cases h; rfl
  | .int _, _, _, _, h, _ => by cases h; rfl
  | .str _, _, _, _, h, _ => by cases h; rfl
  | .nd k xs, _, _, _, h, e => by
    have e : ((k.ow != some false) && nofs xs) = true := e
    obtain ⟨e1, e2⟩ := Bool.and_eq_true_iff.mp e
    cases h with
    | tup h1 h2 => exact Rs.nof xs h2 e2
    | own h0 h1 h2 => exact Rs.nof xs h2 e2
    | frz h0 h1 h2 => rw [h0] at e1; simp at e1
    | kst h0 h1 h2 => rfl
theorem Rs.nof : ∀ (ds : List D) {vs : List V} {f s : List Addr}, Rs K cl H ds vs f s → nofs ds = true → s = []
  | [], _, _, _, h, _ => by cases h; rfl
  | d :: ds, _, _, _, h, e => by
    have e : (Vi.nof d && nofs ds) = true := e
    obtain ⟨e1, e2⟩ := Bool.and_eq_true_iff.mp e
    cases h with
    | cons h1 h2 => rw [R.nof d h1 e1, Rs.nof ds h2 e2]; rfl
end
theorem Rs.length : ∀ {ds : List D} {vs : List V} {f s : List Addr}, Rs K cl H ds vs f s → ds.length = vs.length
  | [], _, _, _, h => by cases h; rfl
  | d :: ds, _, _, _, h => by cases h with | cons h1 h2 => show _ + 1 = _ + 1; rw [Rs.length h2]
theorem Rs.append : ∀ {ds ds' : List D} {vs vs' : List V} {f f' s s' : List Addr}, Rs K cl H ds vs f s → Rs K cl H ds' vs' f' s' → Rs K cl H (ds ++ ds') (vs ++ vs') (f ++ f') (s ++ s')
  | [], _, _, _, _, _, _, _, h, g => by cases h; exact g
  | d :: ds, _, _, _, _, _, _, _, h, g => by
    cases h with
    | cons h1 h2 => rw [List.append_assoc, List.append_assoc]; exact .cons h1 (Rs.append h2 g)
theorem Rs.one {d : D} {v : V} {f s : List Addr} (h : R K cl H d v f s) : Rs K cl H [d] [v] f s := by
  have := Rs.cons h (Rs.nil (K := K) (cl := cl) (H := H))
  rwa [List.append_nil, List.append_nil] at this
/-- the n-th child, and what stands around it -/
theorem Rs.split : ∀ {ds : List D} {vs : List V} {f s : List Addr} {n : Nat} {d : D}, Rs K cl H ds vs f s → ds[n]? = some d →
    ∃ v fa fd fb sa sd sb, vs[n]? = some v ∧ f = fa ++ fd ++ fb ∧ s = sa ++ sd ++ sb ∧ R K cl H d v fd sd ∧ Rs K cl H (ds.take n) (vs.take n) fa sa ∧ Rs K cl H (ds.drop (n + 1)) (vs.drop (n + 1)) fb sb
  | [], _, _, _, _, _, h, e => by simp at e
  | x :: ds, _, _, _, 0, d, h, e => by
    cases h with
    | cons h1 h2 =>
      simp at e; subst e
      exact ⟨_, [], _, _, [], _, _, rfl, rfl, rfl, h1, .nil, h2⟩
  | x :: ds, _, _, _, n + 1, d, h, e => by
    cases h with
    | @cons _ _ v0 vs0 f0 f1 s0 s1 h1 h2 =>
      obtain ⟨v, fa, fd, fb, sa, sd, sb, e1, e2, e3, r, r1, r2⟩ := Rs.split h2 (show ds[n]? = some d by simpa using e)
      subst e2 e3
      refine ⟨v, f0 ++ fa, fd, fb, s0 ++ sa, sd, sb, by simpa using e1, ?_, ?_, r, ?_, ?_⟩
      rotate_left 2
      · rw [List.take_succ_cons, List.take_succ_cons]; exact .cons h1 r1
      · rw [List.drop_succ_cons, List.drop_succ_cons]; exact r2
      · simp [List.append_assoc]
      · simp [List.append_assoc]
theorem Rs.join : ∀ {ds : List D} {vs : List V} {n : Nat} {d' : D} {v : V} {fa fd fb sa sd sb : List Addr}, n < ds.length → vs[n]? = some v → R K cl H d' v fd sd →
    Rs K cl H (ds.take n) (vs.take n) fa sa → Rs K cl H (ds.drop (n + 1)) (vs.drop (n + 1)) fb sb → Rs K cl H (ds.set n d') vs (fa ++ fd ++ fb) (sa ++ sd ++ sb) := by
  intro ds vs n d' v fa fd fb sa sd sb hn hv r r1 r2
  have e1 : ds.set n d' = ds.take n ++ [d'] ++ ds.drop (n + 1) := by rw [List.set_eq_take_append_cons_drop]; simp [hn]
  have hv' : n < vs.length := (List.getElem?_eq_some_iff.mp hv).1
  have e2 : vs = vs.take n ++ [v] ++ vs.drop (n + 1) := by
    have := (List.getElem?_eq_some_iff.mp hv).2
    rw [← this]; simp
  rw [e1, e2]
  refine Rs.append (Rs.append ?_ (Rs.one r)) ?_
  · have : (vs.take n ++ [v] ++ vs.drop (n + 1)) = vs := e2.symm
    exact r1
  · exact r2
theorem R.child {ds : List D} {vs : List V} {f s : List Addr} {n : Nat} {d : D} (h : Rs K cl H ds vs f s) (e : ds[n]? = some d) :
    ∃ v fd sd, vs[n]? = some v ∧ R K cl H d v fd sd ∧ (∀ b, b ∈ fd → b ∈ f) ∧ (∀ b, b ∈ sd → b ∈ s) ∧ (f.Nodup → fd.Nodup) := by
  obtain ⟨v, fa, fd, fb, sa, sd, sb, e1, rfl, rfl, r, _, _⟩ := h.split e
  refine ⟨v, fd, sd, e1, r, fun b hb => ?_, fun b hb => ?_, fun h => ?_⟩
  · exact List.mem_append_left _ (List.mem_append_right _ hb)
  · exact List.mem_append_left _ (List.mem_append_right _ hb)
  · exact (List.nodup_append.mp (List.nodup_append.mp h).1).2.1
theorem Rs.get {ds : List D} {vs : List V} {f s : List Addr} {n : Nat} (h : Rs K cl H ds vs f s) (hn : ds[n]? = none) : vs[n]? = none := by
  rw [List.getElem?_eq_none_iff] at hn ⊢
  rw [← h.length]; exact hn
end
end Vi

set_option Elab.async false
set_option linter.all false
set_option maxRecDepth 100000
set_option maxHeartbeats 4000000
/-! ViZ: zip of two sequences, each a list or a tuple. -/
namespace ViZ
open PySem PySem.Spec PyProof.Rows L2
/-- true: a tuple, false: a list -/
def ItK (t : Bool) (h : Heap) (it l : Addr) (i : Nat) : Prop := match t with
  | true => h.IsTupleIter it l i
  | false => h.IsListIter it l i
def SqK (t : Bool) (h : Heap) (l : Addr) (xs : Array Value) : Prop := match t with
  | true => h.IsTuple l xs
  | false => h.IsList l xs
def SqB (t : Bool) (K : PySem.W.Frag) (H : Hp) (a : Addr) (xs : List V) : Prop := match t with
  | true => SqT K H a xs
  | false => SqL K H a xs
theorem ItK.ext {t : Bool} {h h' : Heap} {a b l : Addr} {i : Nat} (x : ItK t h a l i) (s : Heap.ExtBut b h h') (n : a ≠ b) : ItK t h' a l i := by cases t <;> exact x.extBut s n
theorem ItK.up {t : Bool} {h h' : Heap} {a l : Addr} {i : Nat} (x : ItK t h a l i) (e : ∀ o, h.get? a = some o → h'.get? a = some o) : ItK t h' a l i := by cases t <;> exact x.at e
theorem ItK.obj {t : Bool} {h : Heap} {a l : Addr} {i : Nat} (x : ItK t h a l i) : ∃ o, h.get? a = some o ∧ o.data = .fields #[.ref l, .int i 0] := by
  cases t
  · obtain ⟨o, e, _, d⟩ := (show h.IsListIter a l i from x); exact ⟨o, e, d⟩
  · obtain ⟨o, e, _, d⟩ := (show h.IsTupleIter a l i from x); exact ⟨o, e, d⟩
theorem SqK.ext {t : Bool} {h h' : Heap} {a b : Addr} {xs : Array Value} (x : SqK t h a xs) (s : Heap.ExtBut b h h') (n : a ≠ b) : SqK t h' a xs := by cases t <;> exact x.extBut s n
theorem SqK.lt {t : Bool} {h : Heap} {a : Addr} {xs : Array Value} (x : SqK t h a xs) : a < h.objs.size := by
  cases t
  · obtain ⟨o, e, _⟩ := (show h.IsList a xs from x); exact Heap.lt_size e
  · obtain ⟨o, e, _⟩ := (show h.IsTuple a xs from x); exact Heap.lt_size e
theorem SqB.obj {t : Bool} {X : Cx} {pins : List (Addr × Obj)} {σ : L2.St} {H : Hp} {s : Shared} (I : Inv X pins σ H s) {a : Addr} {xs : List V} (q : SqB t X.K H a xs) : ∃ its, Vals xs its ∧ SqK t s.heap a its.toArray := by
  cases t
  · obtain ⟨its, rv, p, _⟩ := I.list (show SqL X.K H a xs from q); exact ⟨its, rv, p.isList⟩
  · obtain ⟨its, rv, p, _⟩ := I.tuple (show SqT X.K H a xs from q); exact ⟨its, rv, p⟩
theorem SqB.inj {t : Bool} {X : Cx} {pins : List (Addr × Obj)} {σ : L2.St} {H : Hp} {s : Shared} (I : Inv X pins σ H s) {a : Addr} {xs ys : List V} (p : SqB t X.K H a xs) (q : SqB t X.K H a ys) : xs = ys := by
  cases t
  · exact I.list_inj p q
  · exact I.tuple_inj p q
section
variable {prog : Program} {w : World} {A : Around} {E : Value → Shared → Prop} {s : Shared} {t t1 t2 : Bool}
theorem next_item {it l : Addr} {i : Nat} {xs : Array Value} {x : Value} {Q : Value → Shared → Prop} (a : ItK t s.heap it l i) (b : SqK t s.heap l xs) (c : xs[i]? = some x) (k : ∀ h', ItK t h' it l (i + 1) → Heap.SameBut it s.heap h' → Q x { s with heap := h' }) : wpAny (model prog w) A (Builtin.SmallTypes.nextOf (.ref it)) Q E s := by
  cases t
  · exact wpAny_nextOf_list_item a b c k
  · exact RZ.nextOf_tuple_item a b c k
theorem next_end {it l : Addr} {i : Nat} {xs : Array Value} {Q : Value → Shared → Prop} (hh : A.handled = none) (a : ItK t s.heap it l i) (b : SqK t s.heap l xs) (c : xs[i]? = none) (k : ∀ h' e, Heap.ExtBut it s.heap h' → (∃ o, h'.get? e = some o ∧ o.cls = .type "StopIteration") → E (.ref e) { s with heap := h' }) : wpAny (model prog w) A (Builtin.SmallTypes.nextOf (.ref it)) Q E s := by
  cases t
  · exact wpAny_nextOf_list_end hh a b c k
  · exact RZ.nextOf_tuple_end hh a b c k
/-- what stands behind a turn -/
abbrev Kept (s : Shared) (z TO i1 i2 : Addr) (h' : Heap) : Prop := ∀ c o, c ≠ z → c ≠ TO → c ≠ i1 → c ≠ i2 → s.heap.get? c = some o → h'.get? c = some o
theorem turn_item {z TI TO i1 i2 l1 l2 : Addr} {k1 k2 : Nat} {xs ys : Array Value} {x y a b : Value} {Q : Value → Shared → Prop} (D : ZipApart z TI TO i1 i2 l1 l2) (zz : IsZip s.heap z TI TO .none) (zI : IsPair s.heap TI (.ref i1) (.ref i2)) (zO : IsPair s.heap TO a b)
    (w1 : ItK t1 s.heap i1 l1 k1) (w2 : ItK t2 s.heap i2 l2 k2) (q1 : SqK t1 s.heap l1 xs) (q2 : SqK t2 s.heap l2 ys) (ex : xs[k1]? = some x) (ey : ys[k2]? = some y)
    (k : ∀ h', IsZip h' z TI TO (rawInt s.heap.objs.size) → IsPair h' TO x y → ItK t1 h' i1 l1 (k1 + 1) → ItK t2 h' i2 l2 (k2 + 1) → IsPair h' s.heap.objs.size x y → h'.objs.size = s.heap.objs.size + 1 → Kept s z TO i1 i2 h' → Q (.ref s.heap.objs.size) { s with heap := h' }) :
    wpAny (model prog w) A (Builtin.«zip.__next__» ⟨[.ref z], []⟩) (fun fin s' => ∃ v, fin = .done (.ret v) ∧ Q v s') E s := by
  show wpAny _ _ (field (.ref z) 2 >>= _) _ _ _; refine wpAny_bind (wpAny_field zz rfl (x := .bool false) rfl ?_)
  show wpAny _ _ (field (.ref z) 3 >>= _) _ _ _; refine wpAny_bind (wpAny_field zz rfl (x := .ref TI) rfl ?_); refine wpAny_bind (wpAny_seqItems zI rfl ?_)
  show wpAny _ _ (Builtin.SmallTypes.ownedTupleIsFree (.ref z) >>= _) _ _ _; refine wpAny_bind ?_; unfold Builtin.SmallTypes.ownedTupleIsFree
  refine wpAny_bind (wpAny_field zz rfl (x := .none) rfl (wpAny_pure ?_)); simp only [if_true]; refine wpAny_bind (wpAny_rule ?_)
  refine wpAny_bind (wpAny_field zz rfl (x := .ref TO) rfl ?_); refine wpAny_bind (wpAny_setField_rec zz (by simp) fun g1 zz1 c1 => ?_)
  replace zz1 : IsZip g1 z TI TO .ellipsis := zz1
  refine wpAny_bind ?_; simp only [List.zipIdx_cons, List.zipIdx_nil, List.forIn_cons, List.forIn_nil]; refine wpAny_bind (wpAny_bind (wpAny_onRaise ?_))
  show wpAny _ _ (Builtin.SmallTypes.nextOf (.ref i1) >>= _) _ _ _; refine wpAny_bind (next_item (w1.ext c1.extBut D.i1z) (q1.ext c1.extBut D.l1z) ex fun g2 v1 c2 => wpAny_pure ?_)
  have o2 : IsPair g2 TO a b := c2.extBut _ _ D.TOi1 (c1.extBut _ _ D.TOz zO)
  refine wpAny_bind (wpAny_seqItems o2 rfl ?_); refine wpAny_bind (wpAny_updateSeq_pair o2 fun g3 o3 c3 => ?_)
  replace o3 : IsPair g3 TO x b := o3
  refine wpAny_bind (wpAny_letGo (wpAny_pure ?_)); refine wpAny_bind (wpAny_bind (wpAny_onRaise ?_))
  show wpAny _ _ (Builtin.SmallTypes.nextOf (.ref i2) >>= _) _ _ _; refine wpAny_bind (next_item (((w2.ext c1.extBut D.i2z).ext c2.extBut D.i12.symm).ext c3.extBut D.TOi2.symm) (((q2.ext c1.extBut D.l2z).ext c2.extBut D.l2i1).ext c3.extBut D.l2TO) ey fun g4 v2 c4 => wpAny_pure ?_)
  have o4 : IsPair g4 TO x b := c4.extBut _ _ D.TOi2 o3
  refine wpAny_bind (wpAny_seqItems o4 rfl ?_); refine wpAny_bind (wpAny_updateSeq_pair o4 fun g5 o5 c5 => ?_)
  replace o5 : IsPair g5 TO x y := o5
  refine wpAny_bind (wpAny_letGo (wpAny_pure (wpAny_pure ?_))); refine wpAny_bind (wpAny_seqItems o5 rfl ?_); refine wpAny_bind (wpAny_newTuple ?_)
  have z5 : g5.objs.size = s.heap.objs.size := by rw [c5.1, c4.1, c3.1, c2.1, c1.1]
  have zz5 : IsZip g5 z TI TO .ellipsis := c5.extBut _ _ D.TOz.symm (c4.extBut _ _ D.i2z.symm (c3.extBut _ _ D.TOz.symm (c2.extBut _ _ D.i1z.symm zz1)))
  have u1 : ItK t1 g5 i1 l1 (k1 + 1) := ((v1.ext c3.extBut D.TOi1.symm).ext c4.extBut D.i12).ext c5.extBut D.TOi1.symm
  have u2 : ItK t2 g5 i2 l2 (k2 + 1) := v2.ext c5.extBut D.TOi2.symm
  have kp : Kept s z TO i1 i2 g5 := fun c o n1 n2 n3 n4 e => c5.extBut _ _ n2 (c4.extBut _ _ n4 (c3.extBut _ _ n2 (c2.extBut _ _ n3 (c1.extBut _ _ n1 e))))
  have zl : z < g5.objs.size := Heap.lt_size zz5
  show wpAny _ _ (Builtin.SmallTypes.ownedTupleHandOut (.ref z) (.ref g5.objs.size) >>= _) _ _ _; refine wpAny_bind ?_; unfold Builtin.SmallTypes.ownedTupleHandOut
  have zz6 : IsZip (g5.push { cls := .type "tuple", data := .seq #[x, y] }) z TI TO .ellipsis := Heap.get?_push_of_some _ zz5
  refine wpAny_bind (wpAny_setField_rec zz6 (by simp) fun g7 zz7 c7 => ?_)
  replace zz7 : IsZip g7 z TI TO (rawInt g5.objs.size) := zz7
  refine wpAny_setField_rec zz7 (by simp) fun g8 zz8 c8 => ?_
  replace zz8 : IsZip g8 z TI TO (rawInt g5.objs.size) := zz8
  have up : ∀ c o, c ≠ z → g5.get? c = some o → g8.get? c = some o := fun c o n e => c8.extBut _ _ n (c7.extBut _ _ n (Heap.get?_push_of_some _ e))
  have nw : IsPair g8 g5.objs.size x y := c8.extBut _ _ (Nat.ne_of_gt zl) (c7.extBut _ _ (Nat.ne_of_gt zl) (Heap.get?_push_size _ rfl))
  have z8 : g8.objs.size = g5.objs.size + 1 := by rw [c8.1, c7.1, Heap.size_push]
  rw [z5] at zz8 nw z8
  refine wpAny_pure ⟨_, rfl, ?_⟩
  show Q (.ref g5.objs.size) _
  rw [z5]
  exact k g8 zz8 (up _ _ D.TOz o5) (u1.up fun o e => up _ o D.i1z e) (u2.up fun o e => up _ o D.i2z e) nw z8 fun c o n1 n2 n3 n4 e => up c o n1 (kp c o n1 n2 n3 n4 e)
theorem turn_end {z TI TO i1 i2 l1 l2 : Addr} {k1 k2 : Nat} {xs ys : Array Value} {a b : Value} {Q : Fin → Shared → Prop} (hh : A.handled = none) (D : ZipApart z TI TO i1 i2 l1 l2) (zz : IsZip s.heap z TI TO .none) (zI : IsPair s.heap TI (.ref i1) (.ref i2)) (zO : IsPair s.heap TO a b)
    (w1 : ItK t1 s.heap i1 l1 k1) (w2 : ItK t2 s.heap i2 l2 k2) (q1 : SqK t1 s.heap l1 xs) (q2 : SqK t2 s.heap l2 ys) (en : xs[k1]? = none ∨ ys[k2]? = none)
    (k : ∀ h' e, Kept s z TO i1 i2 h' → (∃ o, h'.get? e = some o ∧ o.cls = .type "StopIteration") → E (.ref e) { s with heap := h' }) : wpAny (model prog w) A (Builtin.«zip.__next__» ⟨[.ref z], []⟩) Q E s := by
  show wpAny _ _ (field (.ref z) 2 >>= _) _ _ _; refine wpAny_bind (wpAny_field zz rfl (x := .bool false) rfl ?_)
  show wpAny _ _ (field (.ref z) 3 >>= _) _ _ _; refine wpAny_bind (wpAny_field zz rfl (x := .ref TI) rfl ?_); refine wpAny_bind (wpAny_seqItems zI rfl ?_)
  show wpAny _ _ (Builtin.SmallTypes.ownedTupleIsFree (.ref z) >>= _) _ _ _; refine wpAny_bind ?_; unfold Builtin.SmallTypes.ownedTupleIsFree
  refine wpAny_bind (wpAny_field zz rfl (x := .none) rfl (wpAny_pure ?_)); simp only [if_true]; refine wpAny_bind (wpAny_rule ?_)
  refine wpAny_bind (wpAny_field zz rfl (x := .ref TO) rfl ?_); refine wpAny_bind (wpAny_setField_rec zz (by simp) fun g1 zz1 c1 => ?_)
  replace zz1 : IsZip g1 z TI TO .ellipsis := zz1
  refine wpAny_bind ?_; simp only [List.zipIdx_cons, List.zipIdx_nil, List.forIn_cons, List.forIn_nil]; refine wpAny_bind (wpAny_bind (wpAny_onRaise ?_))
  show wpAny _ _ (Builtin.SmallTypes.nextOf (.ref i1) >>= _) _ _ _
  cases ex : xs[k1]? with
  | none =>
    refine wpAny_bind (next_end hh (w1.ext c1.extBut D.i1z) (q1.ext c1.extBut D.l1z) ex fun g2 e c2 he => ?_)
    obtain ⟨oe, h1, h2⟩ := he
    have zz2 : IsZip g2 z TI TO .ellipsis := c2 _ _ D.i1z.symm zz1
    have ne : e ≠ z := fun x => by subst x; rw [zz2] at h1; cases h1; simp at h2
    exact wpAny_setField_rec zz2 (by simp) fun g3 _ c3 => k g3 e (fun c o n1 _ n3 _ x => c3.extBut _ _ n1 (c2 _ _ n3 (c1.extBut _ _ n1 x))) ⟨oe, c3.extBut _ _ ne h1, h2⟩
  | some x =>
    have ey : ys[k2]? = none := en.resolve_left fun h => by rw [ex] at h; cases h
    refine wpAny_bind (next_item (w1.ext c1.extBut D.i1z) (q1.ext c1.extBut D.l1z) ex fun g2 v1 c2 => wpAny_pure ?_)
    have o2 : IsPair g2 TO a b := c2.extBut _ _ D.TOi1 (c1.extBut _ _ D.TOz zO)
    refine wpAny_bind (wpAny_seqItems o2 rfl ?_); refine wpAny_bind (wpAny_updateSeq_pair o2 fun g3 o3 c3 => ?_)
    refine wpAny_bind (wpAny_letGo (wpAny_pure ?_)); refine wpAny_bind (wpAny_bind (wpAny_onRaise ?_))
    show wpAny _ _ (Builtin.SmallTypes.nextOf (.ref i2) >>= _) _ _ _
    refine wpAny_bind (next_end hh (((w2.ext c1.extBut D.i2z).ext c2.extBut D.i12.symm).ext c3.extBut D.TOi2.symm) (((q2.ext c1.extBut D.l2z).ext c2.extBut D.l2i1).ext c3.extBut D.l2TO) ey fun g4 e c4 he => ?_)
    obtain ⟨oe, h1, h2⟩ := he
    have zz4 : IsZip g4 z TI TO .ellipsis := c4 _ _ D.i2z.symm (c3.extBut _ _ D.TOz.symm (c2.extBut _ _ D.i1z.symm zz1))
    have ne : e ≠ z := fun x => by subst x; rw [zz4] at h1; cases h1; simp at h2
    exact wpAny_setField_rec zz4 (by simp) fun g5 _ c5 => k g5 e (fun c o n1 n2 n3 n4 x => c5.extBut _ _ n1 (c4 _ _ n4 (c3.extBut _ _ n2 (c2.extBut _ _ n3 (c1.extBut _ _ n1 x))))) ⟨oe, c5.extBut _ _ ne h1, h2⟩
theorem py_item {z TI TO i1 i2 l1 l2 : Addr} {k1 k2 : Nat} {xs ys : Array Value} {x y a b : Value} {Q : Option Value → Shared → Prop} (D : ZipApart z TI TO i1 i2 l1 l2) (zz : IsZip s.heap z TI TO .none) (zI : IsPair s.heap TI (.ref i1) (.ref i2)) (zO : IsPair s.heap TO a b)
    (w1 : ItK t1 s.heap i1 l1 k1) (w2 : ItK t2 s.heap i2 l2 k2) (q1 : SqK t1 s.heap l1 xs) (q2 : SqK t2 s.heap l2 ys) (ex : xs[k1]? = some x) (ey : ys[k2]? = some y)
    (k : ∀ h', IsZip h' z TI TO (rawInt s.heap.objs.size) → IsPair h' TO x y → ItK t1 h' i1 l1 (k1 + 1) → ItK t2 h' i2 l2 (k2 + 1) → IsPair h' s.heap.objs.size x y → h'.objs.size = s.heap.objs.size + 1 → Kept s z TO i1 i2 h' → Q (some (.ref s.heap.objs.size)) { s with heap := h' }) :
    wpAny (model prog w) A (pyNext (.ref z)) Q E s := by
  have T : s.TypeIs (.ref z) "zip" := ⟨_, zz, rfl⟩
  unfold pyNext
  exact wpAny_bind (wpAny_attempt (wpAny_callSpecial?_slot (name := Str.ofString "__next__") T F.slot_zip_next (wpAny_call_entry F.slot_zip_next T F.entry_zip_next (turn_item D zz zI zO w1 w2 q1 q2 ex ey fun h' p1 p2 p3 p4 p5 p6 p7 => wpAny_pure (k h' p1 p2 p3 p4 p5 p6 p7)) (F.args_zip_next_1 _))))
theorem py_end {z TI TO i1 i2 l1 l2 : Addr} {k1 k2 : Nat} {xs ys : Array Value} {a b : Value} {Q : Option Value → Shared → Prop} (hh : A.handled = none) (D : ZipApart z TI TO i1 i2 l1 l2) (zz : IsZip s.heap z TI TO .none) (zI : IsPair s.heap TI (.ref i1) (.ref i2)) (zO : IsPair s.heap TO a b)
    (w1 : ItK t1 s.heap i1 l1 k1) (w2 : ItK t2 s.heap i2 l2 k2) (q1 : SqK t1 s.heap l1 xs) (q2 : SqK t2 s.heap l2 ys) (en : xs[k1]? = none ∨ ys[k2]? = none) (k : ∀ h', Kept s z TO i1 i2 h' → Q none { s with heap := h' }) : wpAny (model prog w) A (pyNext (.ref z)) Q E s := by
  have T : s.TypeIs (.ref z) "zip" := ⟨_, zz, rfl⟩
  unfold pyNext
  refine wpAny_bind (wpAny_attempt (wpAny_callSpecial?_slot (name := Str.ofString "__next__") T F.slot_zip_next (wpAny_call_entry F.slot_zip_next T F.entry_zip_next (turn_end hh D zz zI zO w1 w2 q1 q2 en fun h' e hk he => ?_) (F.args_zip_next_1 _))))
  obtain ⟨o, h1, h2⟩ := he
  exact wpAny_bind (wpAny_isInstance (T := "StopIteration") (b := true) ⟨o, h1, h2⟩ isSubtype_stop (wpAny_pure (k _ hk)))
end
/-! ### the call -/
abbrev nIt : Bool → Addr → Obj
  | true, l => { cls := .type "tuple_iterator", data := .fields #[.ref l, .int 0 0] }
  | false, l => { cls := .type "list_iterator", data := .fields #[.ref l, .int 0 0] }
abbrev e1 (t1 : Bool) (h : Heap) (l1 : Addr) : Heap := h.push (nIt t1 l1)
abbrev e2 (t1 t2 : Bool) (h : Heap) (l1 l2 : Addr) : Heap := (e1 t1 h l1).push (nIt t2 l2)
abbrev e3 (t1 t2 : Bool) (h : Heap) (l1 l2 : Addr) : Heap := (e2 t1 t2 h l1 l2).push { cls := .type "tuple", data := .seq #[.ref h.objs.size, .ref (e1 t1 h l1).objs.size] }
abbrev e4 (t1 t2 : Bool) (h : Heap) (l1 l2 : Addr) : Heap := (e3 t1 t2 h l1 l2).push { cls := .type "tuple", data := .seq #[.none, .none] }
abbrev e5 (t1 t2 : Bool) (h : Heap) (l1 l2 : Addr) : Heap := (e4 t1 t2 h l1 l2).push { cls := .type "zip", data := .fields #[.none, .bool false, .bool false, .ref (e2 t1 t2 h l1 l2).objs.size, .ref (e3 t1 t2 h l1 l2).objs.size] }
theorem meets_new (t1 t2 : Bool) (l1 l2 : Addr) (xs ys : Array Value) : Meets (Builtin.«zip.__new__» ⟨[.type "zip", .ref l1, .ref l2], []⟩) (fun _ R s => SqK t1 s.heap l1 xs ∧ SqK t2 s.heap l2 ys ∧ R (.ok (.ret (.ref (e4 t1 t2 s.heap l1 l2).objs.size))) { s with heap := e5 t1 t2 s.heap l1 l2 }) :=
  .of_wp fun prog w A R s h => by
    obtain ⟨hp, g, d, tk, os⟩ := s; obtain ⟨q1, q2, h⟩ := h
    have hsub := sub_zip
    cases t1 <;> cases t2
    · have p1 : Heap.IsList (Shared.heap ⟨hp, g, d, tk, os⟩) l1 xs := q1
      have p2 : Heap.IsList (Shared.heap ⟨hp.push (nIt false l1), g, d, tk, os⟩) l2 ys := Heap.IsList.push q2 _
      wp_walk using wpAny_pyIter_list p1, wpAny_pyIter_list p2
      exact ⟨_, rfl, h⟩
    · have p1 : Heap.IsList (Shared.heap ⟨hp, g, d, tk, os⟩) l1 xs := q1
      have p2 : Heap.IsTuple (Shared.heap ⟨hp.push (nIt false l1), g, d, tk, os⟩) l2 ys := Heap.IsTuple.push q2 _
      wp_walk using wpAny_pyIter_list p1, wpAny_pyIter_tuple p2
      exact ⟨_, rfl, h⟩
    · have p1 : Heap.IsTuple (Shared.heap ⟨hp, g, d, tk, os⟩) l1 xs := q1
      have p2 : Heap.IsList (Shared.heap ⟨hp.push (nIt true l1), g, d, tk, os⟩) l2 ys := Heap.IsList.push q2 _
      wp_walk using wpAny_pyIter_tuple p1, wpAny_pyIter_list p2
      exact ⟨_, rfl, h⟩
    · have p1 : Heap.IsTuple (Shared.heap ⟨hp, g, d, tk, os⟩) l1 xs := q1
      have p2 : Heap.IsTuple (Shared.heap ⟨hp.push (nIt true l1), g, d, tk, os⟩) l2 ys := Heap.IsTuple.push q2 _
      wp_walk using wpAny_pyIter_tuple p1, wpAny_pyIter_tuple p2
      exact ⟨_, rfl, h⟩
theorem ItK.new {t : Bool} {h : Heap} {a l : Addr} (e : h.get? a = some (nIt t l)) : ItK t h a l 0 := by
  cases t <;> exact ⟨_, e, rfl, rfl⟩
section
variable {prog : Program} {w : World} {A : Around} {E : Value → Shared → Prop} {s : Shared} {t1 t2 : Bool}
theorem call_zip {l1 l2 : Addr} {xs ys : Array Value} {Q : Value → Shared → Prop} (q1 : SqK t1 s.heap l1 xs) (q2 : SqK t2 s.heap l2 ys)
    (k : ∀ h', IsZip h' (s.heap.objs.size + 4) (s.heap.objs.size + 2) (s.heap.objs.size + 3) .none → IsPair h' (s.heap.objs.size + 2) (.ref s.heap.objs.size) (.ref (s.heap.objs.size + 1)) → IsPair h' (s.heap.objs.size + 3) .none .none → ItK t1 h' s.heap.objs.size l1 0 → ItK t2 h' (s.heap.objs.size + 1) l2 0 → h'.objs.size = s.heap.objs.size + 5 → (∀ c o, s.heap.get? c = some o → h'.get? c = some o) → Q (.ref (s.heap.objs.size + 4)) { s with heap := h' }) :
    wpAny (model prog w) A (call (.type "zip") [.ref l1, .ref l2]) Q E s := by
  refine callType_new F.called_zip (by decide) (F.typeCall_zip_2 _ _) (F.newCall_zip_2 _ _) (fun obj => F.args_object_init_3 obj _ _) F.entry_zip_new (meets_new t1 t2 l1 l2 xs ys) ⟨q1, q2, ?_⟩
  have n1 : (e1 t1 s.heap l1).objs.size = s.heap.objs.size + 1 := Heap.size_push ..
  have n2 : (e2 t1 t2 s.heap l1 l2).objs.size = s.heap.objs.size + 2 := by rw [Heap.size_push, n1]
  have n3 : (e3 t1 t2 s.heap l1 l2).objs.size = s.heap.objs.size + 3 := by rw [Heap.size_push, n2]
  have n4 : (e4 t1 t2 s.heap l1 l2).objs.size = s.heap.objs.size + 4 := by rw [Heap.size_push, n3]
  have n5 : (e5 t1 t2 s.heap l1 l2).objs.size = s.heap.objs.size + 5 := by rw [Heap.size_push, n4]
  have m5 : (e5 t1 t2 s.heap l1 l2).get? (e4 t1 t2 s.heap l1 l2).objs.size = some _ := Heap.get?_push_size _ rfl
  have m4 : (e5 t1 t2 s.heap l1 l2).get? (e3 t1 t2 s.heap l1 l2).objs.size = some _ := Heap.get?_push_of_some _ (Heap.get?_push_size _ rfl)
  have m3 : (e5 t1 t2 s.heap l1 l2).get? (e2 t1 t2 s.heap l1 l2).objs.size = some _ := Heap.get?_push_of_some _ (Heap.get?_push_of_some _ (Heap.get?_push_size _ rfl))
  have m2 : (e5 t1 t2 s.heap l1 l2).get? (e1 t1 s.heap l1).objs.size = some (nIt t2 l2) := Heap.get?_push_of_some _ (Heap.get?_push_of_some _ (Heap.get?_push_of_some _ (Heap.get?_push_size _ (by cases t2 <;> rfl))))
  have m1 : (e5 t1 t2 s.heap l1 l2).get? s.heap.objs.size = some (nIt t1 l1) := Heap.get?_push_of_some _ (Heap.get?_push_of_some _ (Heap.get?_push_of_some _ (Heap.get?_push_of_some _ (Heap.get?_push_size _ (by cases t1 <;> rfl)))))
  show _ ∧ _
  rw [n2, n3, n4] at m5
  rw [n1, n2] at m3
  rw [n3] at m4
  rw [n1] at m2
  rw [n4]
  exact ⟨⟨_, m5, rfl⟩, k _ m5 m3 m4 (.new m1) (.new m2) n5 fun c o x => Heap.get?_push_of_some _ (Heap.get?_push_of_some _ (Heap.get?_push_of_some _ (Heap.get?_push_of_some _ (Heap.get?_push_of_some _ x))))⟩
end
/-! ### the walk -/
def ItZ (t1 t2 : Bool) (K : PySem.W.Frag) (a b : Addr) : It :=
  ⟨fun i H => ∃ (xs ys : List V) (x y : V), SqB t1 K H a xs ∧ SqB t2 K H b ys ∧ xs[i]? = some x ∧ ys[i]? = some y,
    fun i H v H' => ∃ T x y, v = .ref T ∧ H T = none ∧ H' = upd H T (.tup [x, y]) ∧ (∀ xs, SqB t1 K H a xs → xs[i]? = some x) ∧ ∀ ys, SqB t2 K H b ys → ys[i]? = some y,
    fun i H => ∃ xs ys : List V, SqB t1 K H a xs ∧ SqB t2 K H b ys ∧ (xs.length ≤ i ∨ ys.length ≤ i)⟩
theorem five {c z TI TO i1 i2 : Addr} (h : c ∈ [z, TI, TO, i1, i2]) : c = z ∨ c = TI ∨ c = TO ∨ c = i1 ∨ c = i2 := by simpa using h
theorem turnZ {P : Program} {w : World} {K : PySem.W.Frag} {t1 t2 : Bool} {elts : List Expr} {kk : Nat} {tpos : Pos} {a b z TI TO i1 i2 : Addr} (D : ZipApart z TI TO i1 i2 a b) :
    Turn P w K (.Tuple elts kk tpos) (ItZ t1 t2 K a b) [z, TI, TO, i1, i2] z (fun i h => IsZip h z TI TO .none ∧ IsPair h TI (.ref i1) (.ref i2) ∧ (∃ x y, IsPair h TO x y) ∧ ItK t1 h i1 a i ∧ ItK t2 h i2 b i) where
  mem := by simp
  obj := fun i h st c hc => by
    obtain ⟨zz, zI, ⟨x, y, zO⟩, w1, w2⟩ := st
    obtain ⟨o1, f1, d1⟩ := w1.obj
    obtain ⟨o2, f2, d2⟩ := w2.obj
    rcases five hc with q | q | q | q | q <;> rw [q]
    · exact ⟨_, zz, fun v q => nomatch q⟩
    · exact ⟨_, zI, fun v q => nomatch q⟩
    · exact ⟨_, zO, fun v q => nomatch q⟩
    · exact ⟨o1, f1, fun v q => by rw [d1] at q; cases q⟩
    · exact ⟨o2, f2, fun v q => by rw [d2] at q; cases q⟩
  keep := fun i h h' st k => by
    obtain ⟨zz, zI, ⟨x, y, zO⟩, w1, w2⟩ := st
    exact ⟨k z (by simp) _ zz, k TI (by simp) _ zI, ⟨x, y, k TO (by simp) _ zO⟩, w1.up fun o q => k i1 (by simp) o q, w2.up fun o q => k i2 (by simp) o q⟩
  item := by
    intro X hP hw hK hc i pins s σ H E I hf st hg
    subst hP hw hK
    obtain ⟨zz, zI, ⟨x0, y0, zO⟩, w1, w2⟩ := st
    obtain ⟨xs, ys, x, y, qx, qy, ex, ey⟩ := hg
    obtain ⟨its, rv, p⟩ := qx.obj I
    obtain ⟨its2, rv2, p2⟩ := qy.obj I
    obtain ⟨u, hu, ru⟩ := rv.get ex
    obtain ⟨u2, hu2, ru2⟩ := rv2.get ey
    have zl : z < s.heap.objs.size := Heap.lt_size zz
    refine py_item D zz zI zO w1 w2 p p2 (x := u) (y := u2) (by simpa using hu) (by simpa using hu2) fun h' z' TO' v1 v2 nw sz hk => ?_
    refine ⟨_, rfl, wpAny_letOwnedTupleGo_zip (s := { s with heap := h' }) z' fun h2 z2 sb => ?_⟩
    have nw2 : h2.get? s.heap.objs.size = some { cls := .type "tuple", data := .seq #[u, u2] } := (sb.2 _ (Nat.ne_of_gt zl)).trans nw
    have new : ObjOk X.prog X.w (upd H s.heap.objs.size (.tup [x, y])) h2 s.heap.objs.size (.tup [x, y]) := ⟨by show 2 ≤ sizeLine; decide, [u, u2], .cons ru (.cons ru2 .nil), ⟨_, nw2, rfl, _, rfl⟩⟩
    have I1 : Inv X pins σ (upd H s.heap.objs.size (.tup [x, y])) { s with heap := h2 } :=
      I.turnedNew (t' := s.toks) (ch := [z, TI, TO, i1, i2]) (fun c o n q => (sb.2 c (fun e => n (by simp [e]))).trans (hk c o (fun e => n (by simp [e])) (fun e => n (by simp [e])) (fun e => n (by simp [e])) (fun e => n (by simp [e])) q)) hf (Nat.le_refl _) new
    refine ⟨.ref s.heap.objs.size, _, I1, rfl, ⟨_, x, y, rfl, I.hok.fresh (Nat.le_refl _), rfl, fun l hl => by rw [hl.inj I qx]; exact ex, fun l hl => by rw [hl.inj I qy]; exact ey⟩, ⟨z2, ?_, ⟨u, u2, ?_⟩, v1.up fun o q => (sb.2 _ D.i1z).trans q, v2.up fun o q => (sb.2 _ D.i2z).trans q⟩, fun c hcm => ?_⟩
    · exact (sb.2 _ D.TIz).trans (hk _ _ D.TIz D.TITO D.TIi1 D.TIi2 zI)
    · exact (sb.2 _ D.TOz).trans TO'
    · obtain ⟨o1, f1, _⟩ := w1.obj
      obtain ⟨o2, f2, _⟩ := w2.obj
      have lt : c < s.heap.objs.size := by
        rcases five hcm with q | q | q | q | q <;> rw [q]
        · exact zl
        · exact Heap.lt_size zI
        · exact Heap.lt_size zO
        · exact Heap.lt_size f1
        · exact Heap.lt_size f2
      rw [upd_ne (Nat.ne_of_lt lt)]
      exact (hf c hcm).1
  done := by
    intro X hP hw hK hc i pins s σ H E I hf st hg
    subst hP hw hK
    obtain ⟨zz, zI, ⟨x0, y0, zO⟩, w1, w2⟩ := st
    obtain ⟨xs, ys, qx, qy, en⟩ := hg
    obtain ⟨its, rv, p⟩ := qx.obj I
    obtain ⟨its2, rv2, p2⟩ := qy.obj I
    have l1 := rv.length
    have l2 := rv2.length
    have he : its.toArray[i]? = none ∨ its2.toArray[i]? = none := en.imp (fun q => by simp; omega) fun q => by simp; omega
    exact py_end (I.ok.hd hc) D zz zI zO w1 w2 p p2 he fun h' hk => ⟨rfl, I.turnedL (t' := s.toks) (ch := [z, TI, TO, i1, i2]) (fun c o n q => hk c o (fun e => n (by simp [e])) (fun e => n (by simp [e])) (fun e => n (by simp [e])) (fun e => n (by simp [e])) q) hf⟩
  self := fun A i s Q E st h => wpAny_pyIter_zip st.1 h
def iZ (K : PySem.W.Frag) (ta : TA) : TI := fun σ H R => ta σ H fun vs H1 => ∃ t1 t2 a b xs ys, vs = [.ref a, .ref b] ∧ SqB t1 K H1 a xs ∧ SqB t2 K H1 b ys ∧ R (ItZ t1 t2 K a b) H1
theorem pi_Z {X : Cx} {e e2 : Expr} {ta : TA} {p pos tpos : Pos} {elts : List Expr} {kk : Nat} (hg : Gl X "zip") (hm : X.mg "zip" = none) (ha : PA X [e, e2] ta)
    (hs : starEach [e, e2] X.env = (false, eval e X.env) :: starEach [e2] X.env := by rfl) (hpl : (backTo pos (starEach [e2] X.env)).any (·.1) = false := by rfl) : PI X (.Tuple elts kk tpos) (.Call (.Name "zip" p) [e, e2] [] pos) (iZ X.K ta) := by
  refine ⟨fun pins s σ H R I h => Call_ (ld_blt I hg hm PyProof.Rows.boot_zip (PyProof.Rows.callWith_type1 (thn (ha.run pos pins s σ H _ I h) fun us s1 ⟨vs, H1, I1, r1, q1⟩ => ?_) hs hpl))⟩
  obtain ⟨t1, t2, a, b, xs, ys, rfl, qx, qy, q⟩ := q1
  cases r1 with
  | cons r rr =>
    cases rr with
    | cons r' rr =>
      cases rr
      cases r
      cases r'
      have fr : ∀ c, c ∈ [s1.heap.objs.size + 4, s1.heap.objs.size + 2, s1.heap.objs.size + 3, s1.heap.objs.size, s1.heap.objs.size + 1] → FpOk X pins H1 c := fun c hcm => by
        have le : s1.heap.objs.size ≤ c := by
          rcases five hcm with z | z | z | z | z <;> rw [z]
          · exact Nat.le_add_right _ _
          · exact Nat.le_add_right _ _
          · exact Nat.le_add_right _ _
          · exact Nat.le_refl _
          · exact Nat.le_add_right _ _
        exact I1.fpOk le (I1.hok.fresh le)
      obtain ⟨its, rv, p1⟩ := qx.obj I1
      obtain ⟨its2, rv2, p2⟩ := qy.obj I1
      refine call_zip p1 p2 fun h' zz zI zO w1 w2 sz hk => wpAny_pyIter_zip zz ?_
      have I2 : Inv X pins σ H1 { s1 with heap := h' } := I1.kept (t' := s1.toks) hk
      exact ⟨s1.heap.objs.size + 4, [s1.heap.objs.size + 4, s1.heap.objs.size + 2, s1.heap.objs.size + 3, s1.heap.objs.size, s1.heap.objs.size + 1], _, _, H1, rfl, I2, turnZ (PySem.W.ktu_apart s1.heap.objs.size a b p1.lt p2.lt), ⟨zz, zI, ⟨_, _, zO⟩, w1, w2⟩, fr, q⟩
end ViZ

set_option Elab.async false
set_option linter.all false
set_option maxRecDepth 100000
set_option maxHeartbeats 4000000
/-! ViR: a tuple turned about by a slice. -/
namespace ViR
open PySem PySem.Spec PyProof.Rows L2 HT
section
variable {prog : Program} {w : World} {A : Around} {E : Value → Shared → Prop} {s : Shared}
theorem adjust_rev (n : Nat) : Builtin.Slice.sliceAdjust none none (-1) (n : Int) = ((n : Int) - 1, -1) := by
  unfold Builtin.Slice.sliceAdjust
  simp
theorem places_rev (n : Nat) : Builtin.Slice.slicePlaces ((n : Int) - 1) (-1) (-1) = n := by
  unfold Builtin.Slice.slicePlaces
  simp
  omega
theorem fm_congr {α β : Type} {f g : α → Option β} : ∀ {l : List α}, (∀ a, a ∈ l → f a = g a) → l.filterMap f = l.filterMap g
  | [], _ => rfl
  | a :: l, h => by
    rw [List.filterMap_cons, List.filterMap_cons, h a List.mem_cons_self, fm_congr fun b hb => h b (List.mem_cons_of_mem _ hb)]
theorem pick_rev (xs : Array Value) : ((List.range xs.size).filterMap fun (m : Nat) => xs[(((xs.size : Int) - 1) + (m : Int) * (-1)).toNat]?).toArray = xs.toList.reverse.toArray := by
  have e : ((List.range xs.size).filterMap fun (m : Nat) => xs[(((xs.size : Int) - 1) + (m : Int) * (-1)).toNat]?) = ((List.range xs.size).map fun k => xs.size - 1 - k).filterMap fun k => xs[k]? := by
    rw [List.filterMap_map]
    refine fm_congr fun k hk => ?_
    have := List.mem_range.mp hk
    show _ = xs[xs.size - 1 - k]?
    congr 1
    omega
  rw [e, PySem.W.krv_range, List.filterMap_reverse, PySem.W.krv_all]
theorem sliceApplied_rev {sl : Addr} {vl vu vs : Value} {n : Nat} {Q : Int × Int × Nat → Shared → Prop} (hs : s.heap.IsSliceOf sl vl vu vs) (pl : IsPart vl none) (pu : IsPart vu none) (ps : IsPart vs (some (-1)))
    (h : Q ((n : Int) - 1, -1, n) s) : wpAny (model prog w) A (Builtin.Slice.sliceApplied (.ref sl) (pure (n : Int))) Q E s := by
  obtain ⟨os, hos, hcs, hds⟩ := id hs
  unfold Builtin.Slice.sliceApplied Builtin.Slice.sliceFields
  refine wpAny_bind (wpAny_bind (wpAny_field hos hds (x := vl) rfl (wpAny_bind (wpAny_field hos hds (x := vu) rfl (wpAny_bind (wpAny_field hos hds (x := vs) rfl (wpAny_pure ?_)))))))
  refine wpAny_bind (slicePart_ ps ?_)
  show wpAny _ _ (if ((-1 : Int) == 0) = true then _ else _) _ _ s
  rw [if_neg (by decide)]
  refine wpAny_bind (slicePart_ pl (wpAny_bind (slicePart_ pu (wpAny_bind (wpAny_pure ?_)))))
  show wpAny _ _ (match Builtin.Slice.sliceAdjust none none (-1) (n : Int) with | (lo, hi) => pure (lo, (-1 : Int), Builtin.Slice.slicePlaces lo hi (-1))) _ _ s
  rw [adjust_rev n]
  show wpAny _ _ (pure ((n : Int) - 1, (-1 : Int), Builtin.Slice.slicePlaces ((n : Int) - 1) (-1) (-1))) _ _ s
  rw [places_rev]
  exact wpAny_pure h
theorem getItem_tuple_rev {t sl : Addr} {items : Array Value} {vl vu vs : Value} {Q : Value → Shared → Prop} (ht : IsTup s.heap t items) (hs : s.heap.IsSliceOf sl vl vu vs) (pl : IsPart vl none) (pu : IsPart vu none) (ps : IsPart vs (some (-1)))
    (h : Q (.ref s.heap.objs.size) { s with heap := s.heap.push { cls := .type "tuple", data := .seq items.toList.reverse.toArray } })
    (hsz : items.size ≤ sizeLine) : wpAny (model prog w) A (getItem (.ref t) (.ref sl)) Q E s := by
  have htake : sizeOk (.seq items.toList.reverse.toArray) := by
    show items.toList.reverse.toArray.size ≤ sizeLine
    rw [List.size_toArray, List.length_reverse, Array.length_toList]
    omega
  obtain ⟨os, hos, hcs, hds⟩ := id hs
  have hTs : s.TypeIs (.ref sl) "slice" := ⟨os, hos, hcs⟩
  unfold getItem
  try with_reducible refine wpAny_holding ?_
  first | refine wpAny_bind (wpAny_pure ?_) | skip
  refine wpAny_bind (wpAny_sequenceKey ht.typeIs (by decide) ?_)
  refine wpAny_bind (wpAny_callSpecial?_slot (name := Str.ofString "__getitem__") ht.typeIs PyProof.Rows.slot_tuple_getitem
    (wpAny_call_entry PyProof.Rows.slot_tuple_getitem ht.typeIs entry_tuple_getitem ?_ (args_tuple_getitem _ _)))
  show wpAny _ _ (Builtin.Tuple.tupleItemsOf (.ref t) >>= _) _ _ s
  refine wpAny_bind (tupleItemsOf_ ht ?_)
  refine wpAny_bind (wpAny_typeOf hTs ?_)
  rw [if_pos (by decide)]
  refine wpAny_bind (sliceApplied_rev hs pl pu ps ?_)
  have hno : ¬ ((((items.size : Int) - 1) == 0 && (-1 : Int) == 1 && items.size == items.size) = true) := by
    intro q
    rw [Bool.and_eq_true, Bool.and_eq_true] at q
    exact absurd q.1.2 (by decide)
  show wpAny _ _ (if (((items.size : Int) - 1) == 0 && (-1 : Int) == 1 && items.size == items.size) = true then _ else _) _ _ s
  rw [if_neg hno, pick_rev]
  first
    | exact wpAny_bind (m := Builtin.Tuple.tupleExact _) (wpAny_newObj_type (wpAny_pure ⟨_, rfl, wpAny_pure h⟩) htake)
    | exact wpAny_bind (m := Builtin.Tuple.tupleExact _) (wpAny_newObj_type (wpAny_bind (wpAny_pure (wpAny_pure ⟨_, rfl, wpAny_pure h⟩))) htake)
    | exact wpAny_bind (wpAny_bind (m := Builtin.Tuple.tupleExact _) (wpAny_newObj_type (wpAny_pure (wpAny_pure ⟨_, rfl, wpAny_pure h⟩)) htake))
    | exact wpAny_bind (wpAny_bind (m := Builtin.Tuple.tupleExact _) (wpAny_newObj_type (wpAny_pure ⟨_, rfl, wpAny_pure h⟩) htake))
end
section
variable {X : Cx} {pos : Pos}
/-- a list or a tuple turned about -/
def tRevT (K : PySem.W.Frag) (te : TE) : TE := fun σ H Q => te σ H fun x H1 => (∃ a xs, x = .ref a ∧ SqT K H1 a xs ∧ ∀ p, H1 p = none → Q (.ref p) (upd H1 p (.tup xs.reverse))) ∨ (∃ a xs, x = .ref a ∧ SqL K H1 a xs ∧ ∀ p, H1 p = none → Q (.ref p) (upd H1 p (.lst xs.reverse)))
theorem pe_revT {e : Expr} {te : TE} {k : Nat} {p1 p2 p3 pos : Pos} (he : PE X e te) : PE X (.Subscript e (.Slice none none (some (.UnaryOp .USub (.Constant (.int 1) k p1) p2)) p3) pos) (tRevT X.K te) := by
  refine ⟨fun pins s σ H Q I h => ?_⟩
  refine Subscript_ (thn (he.run pins s σ H _ I h) fun v s1 ⟨x, H1, I1, r1, q1⟩ => ?_)
  have hst : PO X (some (.UnaryOp .USub (.Constant (.int 1) k p1) p2)) (tPart (tUn (rU fun i => .int (-i)) (tC (.int 1)))) := po_some (pe_un un_neg pe_int)
  refine wpAny_Slice (thn (po_none.run pins s1 σ H1 (fun o H2 => o = none ∧ H2 = H1) I1 ⟨rfl, rfl⟩) fun vl s2 ⟨l, H2, I2, pl, el, e2⟩ => ?_)
  subst el e2
  refine thn (po_none.run pins s2 σ H2 (fun o H3 => o = none ∧ H3 = H2) I2 ⟨rfl, rfl⟩) fun vu s3 ⟨u, H3, I3, pu, eu, e3⟩ => ?_
  subst eu e3
  refine thn (hst.run pins s3 σ H3 (fun o H4 => o = some (-1) ∧ H4 = H3) I3 ⟨1, rfl, -1, rfl, rfl, rfl⟩) fun vs s4 ⟨o, H4, I4, ps, eo, e4⟩ => ?_
  subst eo e4
  have I5 : Inv X pins σ H4 { s4 with heap := s4.heap.push { cls := .type "slice", data := .fields #[vl, vu, vs] } } := I4.kept (t' := s4.toks) fun b ob q => Heap.get?_push_of_some _ q
  rcases q1 with ⟨a, xs, ex, hx, q⟩ | ⟨a, xs, ex, hx, q⟩
  · subst ex
    cases r1
    obtain ⟨its, r, ht, hz⟩ := I5.tuple hx
    have hlen := r.length
    show wpAny (model X.prog X.w) X.A (subscriptTail e (.Slice none none (some (.UnaryOp .USub (.Constant (.int 1) k p1) p2)) p3) (.ref a) (.ref s4.heap.objs.size)) (EP X pins σ Q) X.xe { s4 with heap := s4.heap.push { cls := .type "slice", data := .fields #[vl, vu, vs] } }
    refine tail_any (ops := [.ref a, .ref s4.heap.objs.size]) ht.typeIs (PyProof.Rows.slot_tuple_getitem.lookup) ?_ (by with_unfolding_all rfl)
    refine getItem_tuple_rev ht (Heap.IsSliceOf.new _ vl vu vs) pl pu ps ?_ (by rw [List.size_toArray]; omega)
    refine ⟨.ref _, _, I5.laid (t' := s4.toks) (o := .tup xs.reverse) (fun b ob q => Heap.get?_push_of_some _ q) (Nat.le_refl _) ?_, rfl, q _ (I5.hok.fresh (Nat.le_refl _))⟩
    exact ⟨by rw [List.length_reverse]; exact hz, _, r.reverse, IsTup.new _ _⟩
  · subst ex
    cases r1
    obtain ⟨its, r, ht, hz⟩ := I5.list hx
    have hlen := r.length
    show wpAny (model X.prog X.w) X.A (subscriptTail e (.Slice none none (some (.UnaryOp .USub (.Constant (.int 1) k p1) p2)) p3) (.ref a) (.ref s4.heap.objs.size)) (EP X pins σ Q) X.xe { s4 with heap := s4.heap.push { cls := .type "slice", data := .fields #[vl, vu, vs] } }
    refine tail_any (ops := [.ref a, .ref s4.heap.objs.size]) ht.isList.typeIs (PySem.slot_list_getitem.lookup) ?_ (by with_unfolding_all rfl)
    refine wpAny_getItem_list_slice ht.isList (Heap.IsSliceOf.new _ vl vu vs) pl pu ps (by decide) ?_ (by rw [List.size_toArray]; omega)
    rw [PySem.W.krv_pick]
    refine ⟨.ref _, _, I5.laid (t' := s4.toks) (o := .lst xs.reverse) (fun b ob q => Heap.get?_push_of_some _ q) (Nat.le_refl _) ?_, rfl, q _ (I5.hok.fresh (Nat.le_refl _))⟩
    exact ⟨by rw [List.length_reverse]; exact hz, _, 0, r.reverse, Heap.get?_push_size _ rfl⟩
end
end ViR

set_option Elab.async false
set_option linter.all false
set_option maxRecDepth 100000
set_option maxHeartbeats 4000000
/-! ViM: a tuple times an int, whatever the int. -/
namespace ViM
open PySem PySem.Spec PyProof.Rows L2
theorem tuple_mul0 (l : Addr) (items : Array Value) (n : Nat) (dd : Option Addr) (sl : Array (Option Value)) (x : Int) (u : Tok) (c0 : (decide (x < -(2 ^ 63)) || decide (x ≥ 2 ^ 63)) = false) (c1 : (items.isEmpty || x == 1) = false) (c2 : (decide (x ≤ 0) || items.isEmpty) = true) :
    Meets (Builtin.«tuple.__mul__» ⟨[.ref l, .int x u], []⟩) (fun _ R s => s.heap.get? l = some { cls := .type "tuple", dict := dd, data := .seq items n, slots := sl } ∧
      R (.ok (.ret (Value.ref s.heap.objs.size))) { s with heap := s.heap.push { cls := Value.type "tuple", data := Data.seq #[] }, toks := s.toks }) :=
  .of_wp fun prog w A R s h => by
    obtain ⟨hp, g, d, tk, os⟩ := s
    obtain ⟨hl, h⟩ := h
    have f1 := AutoSeq1.idx_int
    wp_walk using wpAny_loadPart' hl
    repeat (first
      | (refine wpAny_ite_false (decide_eq_false (by rw [c0]; exact Bool.false_ne_true)) ?_; wp_walk using wpAny_loadPart' hl)
      | (refine wpAny_ite_false (decide_eq_false (by rw [c1]; exact Bool.false_ne_true)) ?_; wp_walk using wpAny_loadPart' hl)
      | (refine wpAny_ite_true (decide_eq_true (by rw [c2])) ?_; wp_walk using wpAny_loadPart' hl))
    exact ⟨_, rfl, h⟩
theorem tuple_mul1 (l : Addr) (items : Array Value) (n : Nat) (dd : Option Addr) (sl : Array (Option Value)) (x : Int) (u : Tok) (c0 : (decide (x < -(2 ^ 63)) || decide (x ≥ 2 ^ 63)) = false) (c1 : (items.isEmpty || x == 1) = true) :
    Meets (Builtin.«tuple.__mul__» ⟨[.ref l, .int x u], []⟩) (fun _ R s => s.heap.get? l = some { cls := .type "tuple", dict := dd, data := .seq items n, slots := sl } ∧
      R (.ok (.ret (Value.ref l))) s) :=
  .of_wp fun prog w A R s h => by
    obtain ⟨hp, g, d, tk, os⟩ := s
    obtain ⟨hl, h⟩ := h
    have f1 := AutoSeq1.idx_int
    wp_walk using wpAny_loadPart' hl
    repeat (first
      | (refine wpAny_ite_false (decide_eq_false (by rw [c0]; exact Bool.false_ne_true)) ?_; wp_walk using wpAny_loadPart' hl)
      | (refine wpAny_ite_true (decide_eq_true (by rw [c1])) ?_; wp_walk using wpAny_loadPart' hl))

    exact ⟨_, rfl, h⟩
end ViM
namespace ViM
open PySem PySem.Spec PyProof.Rows L2
def rRepU (K : PySem.W.Frag) : R2 := fun x y H Q => ∃ l k xs, x = .ref l ∧ y = .int k ∧ SqT K H l xs ∧ xs ≠ [] ∧ -(2 ^ 63) ≤ k ∧ k ≤ 1000 ∧ xs.length ≤ 1000 ∧ (k = 1 → Q (.ref l) H) ∧
  (k ≠ 1 → ∀ p, H p = none → Q (.ref p) (upd H p (.tup (List.replicate k.toNat xs).flatten)))
section
variable {X : Cx}
theorem op_repU : OpR X (binaryOp .Mult) (rRepU X.K) := by
  intro pins s σ H x y v u Q I rx ry h
  obtain ⟨l, k, xs, rfl, rfl, hT, hne, h1, h2, hz, q1, q⟩ := h
  by_cases hk : 2 ≤ k
  · exact op_repT pins s σ H _ _ v u Q I rx ry ⟨l, k, xs, rfl, rfl, hT, hne, hk, h2, hz, q (by omega)⟩
  cases rx
  obtain ⟨t, rfl⟩ := ry
  obtain ⟨its, r, ⟨⟨cls, dd, data, sl⟩, ho, hc, n, hd⟩, hs⟩ := I.tuple hT
  simp only at hc hd
  subst hc hd
  have hle : its.length = xs.length := r.length.symm
  have hn : its ≠ [] := fun e => hne (by
    rw [e] at hle
    exact List.eq_nil_of_length_eq_zero hle.symm)
  have hi : its.toArray.isEmpty = false := by
    cases its with
    | nil => exact absurd rfl hn
    | cons a b => rfl
  have c0 : (decide (k < -(2 ^ 63)) || decide (k ≥ 2 ^ 63)) = false := by
    rw [decide_eq_false (by omega), decide_eq_false (by omega)] <;> rfl
  by_cases hk1 : k = 1
  · have c1 : (its.toArray.isEmpty || k == 1) = true := by
      rw [hi, Bool.false_or]
      exact beq_iff_eq.mpr hk1
    refine wpAny_binaryOp_repeat_ref (T := "tuple") (U := "int") (by decide) ⟨_, ho, rfl⟩ (fun s' => typeIs_int s' k t) noFill_tuple_mul F.fills_int_mul F.slot_int_rmul repeat_tuple F.slot_int_index.lookup
      (call_meets F.slot_int_rmul (typeIs_int s k t) F.entry_int_rmul (F.args_int_rmul_2 _ _) (int_rmul_tuple k t l its.toArray n dd sl)
        ⟨ho, rfl, ⟨_, ho, rfl⟩, call_meets F.slot_tuple_mul ⟨_, ho, rfl⟩ F.entry_tuple_mul (F.args_tuple_mul_2 _ _) (tuple_mul1 l its.toArray n dd sl k t c0 c1) ⟨ho, ?_⟩⟩)
    exact ⟨.ref l, H, I, rfl, q1 hk1⟩
  · have c1 : (its.toArray.isEmpty || k == 1) = false := by
      rw [hi, Bool.false_or]
      exact beq_eq_false_iff_ne.mpr hk1
    have c2 : (decide (k ≤ 0) || its.toArray.isEmpty) = true := by
      rw [decide_eq_true (by omega)]; rfl
    refine wpAny_binaryOp_repeat_ref (T := "tuple") (U := "int") (by decide) ⟨_, ho, rfl⟩ (fun s' => typeIs_int s' k t) noFill_tuple_mul F.fills_int_mul F.slot_int_rmul repeat_tuple F.slot_int_index.lookup
      (call_meets F.slot_int_rmul (typeIs_int s k t) F.entry_int_rmul (F.args_int_rmul_2 _ _) (int_rmul_tuple k t l its.toArray n dd sl)
        ⟨ho, rfl, ⟨_, ho, rfl⟩, call_meets F.slot_tuple_mul ⟨_, ho, rfl⟩ F.entry_tuple_mul (F.args_tuple_mul_2 _ _) (tuple_mul0 l its.toArray n dd sl k t c0 c1 c2) ⟨ho, ?_⟩⟩)
    have e0 : (List.replicate k.toNat xs).flatten = [] := by rw [show k.toNat = 0 by omega]; rfl
    have q := q hk1
    rw [e0] at q
    refine ⟨.ref s.heap.objs.size, _, I.laid (t' := s.toks) (o := .tup []) (fun b ob q => Heap.get?_push_of_some _ q) (Nat.le_refl _) ?_, rfl, q _ (I.hok.fresh (Nat.le_refl _))⟩
    exact ⟨by simp, [], .nil, IsTup.new _ _⟩
end
end ViM

set_option Elab.async false
set_option linter.all false
set_option maxRecDepth 100000
set_option maxHeartbeats 4000000
/-! ViD: dicts whose keys are tuples; lists of tuples sorted. -/
namespace ViD
open PySem PySem.Spec PySem.Calls PyProof.Rows L2
/-- what the dict at a holds at the key y, any tuple -/
def DGt (K : PySem.W.Frag) (H : Hp) (a : Addr) (y : V) (r : Option V) : Prop := ∃ kvs k b, Rd H a (.dT kvs) ∧ y = .ref b ∧ SqT K H b (k.map kV) ∧ r = valV kvs k
section
variable {X : Cx} {pins : List (Addr × Obj)} {σ : L2.St} {H : Hp} {s : Shared} {a : Addr} {y v d : V} {u r : Value} {o : Option V} {A : Around} {E : Value → Shared → Prop}
theorem keyT {b : Addr} {k : List Key} (I : Inv X pins σ H s) (h : SqT X.K H b (k.map kV)) : (tupleKind (mixKind X.prog X.w)).is s.heap k b := by
  obtain ⟨its, rv, ⟨o, h1, h2, n, h3⟩, z⟩ := I.tuple h
  exact ⟨o, its.toArray, n, h1, h2, h3, by simpa using items_are rv⟩
theorem typeT (I : Inv X pins σ H s) (g : DGt X.K H a y o) : s.TypeIs (.ref a) "dict" := by
  obtain ⟨kvs, k, b, e, _, _, _⟩ := g
  obtain ⟨_, _, xs, _, dd⟩ := dt_rd I.hok e
  exact dd.typeIs
theorem getItemT {Q : Value → Shared → Prop} (hu : A.units + 1 < cLine) (I : Inv X pins σ H s) (g : DGt X.K H a y (some v)) (ry : RelV y u) (h : ∀ w' s', Inv X pins σ H s' → RelV v w' → Q w' s') :
    wpAny (model X.prog X.w) A (getItem (.ref a) u) Q E s := by
  obtain ⟨kvs, k, b, e, ey, eb, l⟩ := g
  subst ey
  cases (show u = Value.ref b from ry)
  obtain ⟨z, hd, xs, rel, dd⟩ := dt_rd I.hok e
  obtain ⟨w', hw, rw'⟩ := RelO.some_of (v := v) (o := (atKey xs k).map (·.2)) (by rw [l]; exact rel.val k)
  obtain ⟨p, hp, hp2⟩ := Option.map_eq_some_iff.mp hw
  refine wpAny_getItem_heap (tupleKind_room_in1 hu) (keyT I eb) dd hp ?_
  rw [hp2]
  exact h w' _ (I.tok _) rw'
theorem get2T {Q : Value → Shared → Prop} (hu : A.units + 1 < cLine) (I : Inv X pins σ H s) (g : DGt X.K H a y o) (ry : RelV y u) (rd : RelV d r) (h : ∀ w' s', Inv X pins σ H s' → RelV (o.getD d) w' → Q w' s') :
    wpAny (model X.prog X.w) A (call (.builtin "dict.get") [.ref a, u, r]) Q E s := by
  obtain ⟨kvs, k, b, e, ey, eb, l⟩ := g
  subst ey
  cases (show u = Value.ref b from ry)
  obtain ⟨z, hd, xs, rel, dd⟩ := dt_rd I.hok e
  refine call_meetsIn PySem.F.slot_dict_get dd.typeIs PySem.F.entry_dict_get (PySem.F.args_dict_get_3 _ _ _) (meetsH_dict_get_default (tupleKind (mixKind X.prog X.w)) a b hd r) ⟨tupleKind_room_in1 hu, k, xs, keyT I eb, dd, h _ _ (I.tok _) ?_⟩
  rw [l]
  exact (rel.val k).getD rd
theorem inT {Q : Value → Shared → Prop} (hu : A.units + 1 < cLine) (I : Inv X pins σ H s) (g : DGt X.K H a y o) (ry : RelV y u) (h : ∀ s', Inv X pins σ H s' → Q (.bool o.isSome) s') :
    wpAny (model X.prog X.w) A (compareOp .In u (.ref a)) Q E s := by
  obtain ⟨kvs, k, b, e, ey, eb, l⟩ := g
  subst ey
  cases (show u = Value.ref b from ry)
  obtain ⟨z, hd, xs, rel, dd⟩ := dt_rd I.hok e
  refine wpAny_in_heap (tupleKind_room_in1 hu) (keyT I eb) hd dd ?_
  have q := (rel.val k).isSome_eq
  rw [Option.isSome_map] at q
  rw [← q, ← l]
  exact h _ (I.tok _)
theorem notInT {Q : Value → Shared → Prop} (hu : A.units + 1 < cLine) (I : Inv X pins σ H s) (g : DGt X.K H a y o) (ry : RelV y u) (h : ∀ s', Inv X pins σ H s' → Q (.bool (!o.isSome)) s') :
    wpAny (model X.prog X.w) A (compareOp .NotIn u (.ref a)) Q E s := by
  obtain ⟨kvs, k, b, e, ey, eb, l⟩ := g
  subst ey
  cases (show u = Value.ref b from ry)
  obtain ⟨z, hd, xs, rel, dd⟩ := dt_rd I.hok e
  refine wpAny_notIn_heap (tupleKind_room_in1 hu) (keyT I eb) hd dd ?_
  have q := (rel.val k).isSome_eq
  rw [Option.isSome_map] at q
  rw [← q, ← l]
  exact h _ (I.tok _)
end
section
variable {X : Cx}
def rIxD (K : PySem.W.Frag) : R2 := fun x y H Q => ∃ a v, x = .ref a ∧ DGt K H a y (some v) ∧ Q v H
theorem ix_dict (hu : X.A.units + 1 < cLine) : IxR X (rIxD X.K) := by
  intro value slice pins s σ H x y v u Q I rx ry h hs
  obtain ⟨a, z, rfl, g, q⟩ := h
  cases rx
  have hT := typeT I g
  unfold subscriptTail
  refine wpAny_bind ?_
  rw [getitemInPython_of_ne hT.not_modules]
  refine wpAny_bind (wpAny_specialOf hT PySem.F.slot_dict_getitem.lookup ?_)
  have fin : wpAny (model X.prog X.w) X.A (subscripted slice false (.ref a) u) (fun r s₃ => wpAny (model X.prog X.w) X.A (letTemporaryGo value (.ref a) r >>= fun _ => pure r) (EP X pins σ Q) X.xe s₃) X.xe s := by
    rw [hs]
    exact wpAny_operating (getItemT hu I g ry fun w' s3 I3 rw' => wpAny_bind (wpAny_letTemporaryGo (wpAny_pure ⟨z, H, I3, rw', q⟩)))
  first
    | exact wpAny_pure (wpAny_bind fin)
    | exact wpAny_bind (wpAny_pure (wpAny_bind fin))
    | exact wpAny_bind fin
def rInT (K : PySem.W.Frag) (neg : Bool) : R2 := fun x y H Q => ∃ a o, y = .ref a ∧ DGt K H a x o ∧ Q (.bl (if neg then !o.isSome else o.isSome)) H
theorem op_inT (hu : X.A.units + 1 < cLine) : OpR X (compareOp .In) (rInT X.K false) := by
  intro pins s σ H x y v u Q I rx ry h
  obtain ⟨a, o, rfl, g, q⟩ := h
  cases ry
  exact inT hu I g rx fun s3 I3 => ⟨.bl o.isSome, H, I3, rfl, q⟩
theorem op_notInT (hu : X.A.units + 1 < cLine) : OpR X (compareOp .NotIn) (rInT X.K true) := by
  intro pins s σ H x y v u Q I rx ry h
  obtain ⟨a, o, rfl, g, q⟩ := h
  cases ry
  exact notInT hu I g rx fun s3 I3 => ⟨.bl (!o.isSome), H, I3, rfl, q⟩
/-- d[y] = v, y a new tuple -/
def rSetD : V → V → V → Hp → (Hp → Prop) → Prop := fun o i v H Q => ∃ a b kvs k, o = .ref a ∧ i = .ref b ∧ H a = some (.dT kvs) ∧ H b = some (.tup (k.map kV)) ∧ kvs.length < sizeLine ∧ Q (upd H a (.dT (putK kvs k v)))
theorem set_dict (hu : X.A.units + 1 < cLine) : PSet X rSetD := by
  intro pins s σ H o i v ov iv u Q I ro ri rv h
  obtain ⟨a, b, kvs, k, rfl, rfl, ea, eb, hl, q⟩ := h
  cases ro
  cases ri
  exact d_setItem hu I (DPut.t ea eb hl) (show RelV (.ref b) (.ref b) from rfl) rv fun s' I' => ⟨_, I', q⟩
/-- d.get(y, x) -/
def tGet2 (td ty tx : TE) (K : PySem.W.Frag) : TE := fun σ H Q => td σ H fun x H1 => ∃ a kvs0, x = .ref a ∧ Rd H1 a (.dT kvs0) ∧ ty σ H1 fun y H2 => tx σ H2 fun z H3 => ∃ o, DGt K H3 a y o ∧ Q (o.getD z) H3
theorem pe_get2 {o e f : Expr} {apos cpos : Pos} {td ty tx : TE} (hu : X.A.units + 1 < cLine) (ho : PE X o td) (he : PE X e ty) (hf : PE X f tx) (m : M2 X o "get" apos e f cpos) : PE X (.Call (.Attribute o "get" apos) [e, f] [] cpos) (tGet2 td ty tx X.K) := by
  refine ⟨fun pins s σ H Q I h => ?_⟩
  refine wpAny_Call_method m.base m.few m.line PySem.F.plainAttrs_dict PySem.F.slot_dict_get PySem.F.type_dict_get (thn (ho.run pins s σ H _ I h) fun u s1 ⟨x, H1, I1, rx, a, kvs0, ex, d, q1⟩ => ?_)
  subst ex
  obtain rfl : u = Value.ref a := rx
  obtain ⟨t1, t2, _⟩ := isD_at I1 (.inr ⟨_, d⟩)
  refine ⟨t1, t2, ?_⟩
  rw [m.trees]
  refine Calls.callWith_builtin rfl (Calls.evalArgs_plain (Calls.spliced_cons (thn (he.run pins s1 σ H1 _ I1 q1) fun iv s2 ⟨y, H2, I2, ry, q2⟩ =>
    Calls.spliced_cons (thn (hf.run pins s2 σ H2 _ I2 q2) fun fv s3 ⟨z, H3, I3, rz, ov, g, q3⟩ => Calls.spliced_nil ?_))))
  exact get2T hu I3 g ry rz fun w' s4 I4 rw' => ⟨_, H3, I4, rw', q3⟩
end
/-! ### sorted -/
open PySem.W in
theorem each_of {pins : List (Addr × Obj)} {σ : L2.St} {H : Hp} {s : Shared} {X : Cx} (I : Inv X pins σ H s) : ∀ {vs : List V} {ps : List PyData} {us : List Value}, Vals vs us → DpAll X.K H vs ps →
    EachIs (fun u (b : V × PyData) => RelV b.1 u) us (vs.zip ps) ∧ EachIs (fun u (b : V × PyData) => ∃ as, Reads s.heap u b.2 as) us (vs.zip ps)
  | [], _, _, h, g => by cases h; cases g; exact ⟨.nil, .nil⟩
  | v :: vs, _, _, h, g => by
    cases h with
    | cons h1 h2 =>
      cases g with
      | cons g1 g2 =>
        obtain ⟨a, b⟩ := each_of I h2 g2
        exact ⟨.cons h1 a, .cons (Dp.reads I _ _ _ g1 h1) b⟩
open PySem.W in
theorem vals_of : ∀ {us : List Value} {bs : List (V × PyData)}, EachIs (fun u (b : V × PyData) => RelV b.1 u) us bs → Vals (bs.map Prod.fst) us
  | _, _, .nil => .nil
  | _, _, .cons h t => .cons h (vals_of t)
theorem zip_snd {α β : Type} : ∀ {l : List α} {m : List β}, l.length = m.length → (l.zip m).map Prod.snd = m
  | [], [], _ => rfl
  | a :: l, b :: m, h => by show b :: (l.zip m).map Prod.snd = b :: m; rw [zip_snd (by simpa using h)]
theorem dp_len {K : PySem.W.Frag} {H : Hp} : ∀ {vs : List V} {ps : List PyData}, DpAll K H vs ps → vs.length = ps.length
  | [], _, h => by cases h; rfl
  | v :: vs, _, h => by cases h with | cons h1 h2 => show _ + 1 = _ + 1; rw [dp_len h2]
section
variable {X : Cx}
open PySem.W in
def rSortedD (K : PySem.W.Frag) : List V → Hp → VK → Prop := fun xs H Q => ∃ (a : Addr) (vs : List V) (ps : List PyData), xs = [.ref a] ∧ SqL K H a vs ∧ DpAll K H vs ps ∧ AllAlike ps ∧ Sortable ps ∧ (∀ d, d ∈ ps → d.depth ≤ 60) ∧
  ∀ p, H p = none → Q (.ref p) (upd H p (.lst (((vs.zip ps).mergeSort (dataLe false Prod.snd)).map Prod.fst)))
open PySem.W in
theorem cr_sortedD (hu : X.A.units + 64 < cLine) : CallR X (.builtin "sorted") (rSortedD X.K) := by
  intro pins s σ H xs us Q I r h
  obtain ⟨a, vs, ps, rfl, hs, hd, ha, hk, h60, q⟩ := h
  obtain ⟨its, rv, hl, hz⟩ := I.list hs
  rw [Vals.ref1 r]
  obtain ⟨e1, e2⟩ := each_of I rv hd
  have ez : (vs.zip ps).map Prod.snd = ps := zip_snd (dp_len hd)
  have hlen : (vs.zip ps).length = vs.length := by rw [List.length_zip, ← dp_len hd, Nat.min_self]
  refine sorted_data (enc := Prod.snd) (bs := vs.zip ps) hl.isList e1 e2 (by rw [ez]; exact ha) (by rw [ez]; exact hk) (by rw [hlen]; exact hz) (fun b hb => ?_) fun out ho he => ?_
  · have : b.2 ∈ ps := by rw [← ez]; exact List.mem_map_of_mem hb
    have := h60 _ this
    omega
  · obtain ⟨ep, he'⟩ := PyProof.Rows.sortedAll_at s.heap its (List.toArray out)
    have rr := vals_of he
    have hz' : (((vs.zip ps).mergeSort (dataLe false Prod.snd)).map Prod.fst).length ≤ sizeLine := by rw [List.length_map, List.length_mergeSort, hlen]; exact hz
    exact ⟨.ref _, _, I.laid (o := .lst (((vs.zip ps).mergeSort (dataLe false Prod.snd)).map Prod.fst)) (t' := s.toks) (fun _ _ => PyProof.Rows.sortedAll_old) (Nat.le_succ _) ⟨hz', out, ep, rr, he'⟩, rfl, q _ (I.hok.fresh (Nat.le_succ _))⟩
end
/-! ### sorted(d), d a dict whose keys are tuples -/
def kP : Key → PyData
  | .inl i => .int i
  | .inr x => .str x
def keyP (k : List Key) : PyData := .tuple (k.map kP)
theorem reads_ks {h : Heap} : ∀ {k : List Key} {us : List Value}, Vals (k.map kV) us → ReadsAll h us (k.map kP) []
  | [], _, r => by cases r; exact .nil
  | .inl i :: k, _, r => by
    cases r with
    | cons r1 r2 =>
      obtain ⟨t, rfl⟩ := (show ∃ t, _ = Value.int i t from r1)
      exact ReadsAll.cons (as := []) (bs := []) (.int i t) (reads_ks r2)
  | .inr x :: k, _, r => by
    cases r with
    | cons r1 r2 =>
      obtain ⟨t, rfl⟩ := (show ∃ t, _ = Value.str x t from r1)
      exact ReadsAll.cons (as := []) (bs := []) (.str x t) (reads_ks r2)
theorem reads_key {pins : List (Addr × Obj)} {σ : L2.St} {H : Hp} {s : Shared} {X : Cx} {b : Addr} {k : List Key} (I : Inv X pins σ H s) (hb : H b = some (.tup (k.map kV))) : Reads s.heap (.ref b) (keyP k) [] := by
  obtain ⟨its, rv, ⟨o, h1, h2, n, h3⟩, z⟩ := I.tuple (.inl (.inl hb))
  exact Reads.tuple h1 h2 h3 (reads_ks rv)
open PySem.W in
theorem each_key {pins : List (Addr × Obj)} {σ : L2.St} {H : Hp} {s : Shared} {X : Cx} {h' : Heap} {D : Addr} (I : Inv X pins σ H s) (kp : ∀ b o, s.heap.get? b = some o → h'.get? b = some o) : ∀ {kvs : List (List Key × V)} {bs : List Addr}, IsKeys H kvs bs →
    EachIs (fun u (b : V × PyData) => RelV b.1 u) (bs.map Value.ref) ((bs.map V.ref).zip (kvs.map fun p => keyP p.1)) ∧
    EachIs (fun u (b : V × PyData) => ∃ as, Reads h' u b.2 as ∧ D ∉ as) (bs.map Value.ref) ((bs.map V.ref).zip (kvs.map fun p => keyP p.1))
  | _, _, .nil => ⟨.nil, .nil⟩
  | _, _, .cons h t => by
    obtain ⟨a, b⟩ := each_key I kp t
    exact ⟨.cons rfl a, .cons ⟨[], PyProof.Rows.Reads.keeps kp (reads_key I h), by simp⟩ b⟩
section
variable {prog : Program} {w : World} {A : Around} {E : Value → Shared → Prop} {s : Shared} {T : String} {r d : Addr} {n : Nat} {P : Nat → Value → Prop} {OK : Heap → Prop}
open PySem.W in
/-- what is collected, and that there is a new object behind -/
theorem collect_lt {R : List Value → Shared → Prop} (K : KdlSrc prog w T r d n P OK) (hh : A.handled = none) (hok : OK s.heap) (hn : n ≤ sizeLine)
    (h : ∀ (h' : Heap) (tk : Nat) (acc : Array Value), (∀ b o, s.heap.get? b = some o → h'.get? b = some o) → s.heap.objs.size < h'.objs.size → ItemsOf P acc n → R acc.toList { s with heap := h', toks := tk }) :
    wpAny (model prog w) A (collect (.ref r)) R E s := by
  obtain ⟨lr, ld⟩ := K.there _ hok
  unfold collect
  refine wpAny_bind (wpAny_runValue (codeAny_builtin entry_proto_collect' ?_))
  rw [Around.under_plainId PySem.F.plain_proto_collect _]
  show wpAny _ A.in1 (newList [] >>= fun l => again (.builtin "list.__iadd__" ⟨[l, .ref r], []⟩)) _ _ s
  refine wpAny_bind (wpAny_newObj_type (wpAny_pure ⟨plainId_quiet PySem.F.plain_list_iadd _, codeAny_builtin entry_list_iadd' ?_⟩))
  rw [Around.under_plainId PySem.F.plain_list_iadd _]
  show wpAny _ A.in1 (Builtin.List.listExtendWith (.ref s.heap.objs.size) (.ref r) (.ref s.heap.objs.size)) _ _ _
  let W : Result → Shared → Prop := fun q s' => ∃ (h' : Heap) (tk : Nat) (acc : Array Value) (c : Nat), q = .ok (.ret (.ref s.heap.objs.size)) ∧ s' = { s with heap := h', toks := tk } ∧
    (∀ b o, s.heap.get? b = some o → h'.get? b = some o) ∧ h'.get? s.heap.objs.size = some { cls := .type "list", dict := none, data := .seq acc c, slots := #[] } ∧ ItemsOf P acc n
  have key := kdl_extend (A := A) (R := W) (s := { s with heap := s.heap.push { cls := .type "list", data := .seq ([] : List Value).toArray } }) K hh (K.keep _ _ hok fun b _ o e => Heap.get?_push_of_some _ e) s.heap.objs.size (Nat.ne_of_gt lr) (Nat.ne_of_gt ld) (.ref s.heap.objs.size) 0 (Heap.get?_push_size _ rfl)
    (fun h' tk acc c kp hS it => ⟨h', tk, acc, c, rfl, rfl, fun b o e => kp b o (Nat.ne_of_lt (Heap.lt_size e)) (Heap.get?_push_of_some _ e), hS, it⟩) hn
  refine wpAny_mono key (fun f s' x => ?_) fun e s' ⟨_, _, _, _, q, _⟩ => nomatch q
  cases f with
  | done f =>
    obtain ⟨h', tk, acc, c, e, es, kp, hS, it⟩ := x
    cases e
    subst es
    exact wpAny_bind (wpAny_load hS (wpAny_pure (h h' tk acc kp (Heap.lt_size hS) it)))
  | again c1 =>
    refine ⟨x.1, codeAny_mono x.2 fun q s2 ⟨h', tk, acc, c, e, es, kp, hS, it⟩ => ?_⟩
    subst e es
    exact wpAny_bind (wpAny_load hS (wpAny_pure (h h' tk acc kp (Heap.lt_size hS) it)))
end
section
variable {X : Cx}
open PySem.W in
def rSortedK (_ : PySem.W.Frag) : List V → Hp → VK → Prop := fun xs H Q => ∃ (a : Addr) (kvs : List (List Key × V)), xs = [.ref a] ∧ Rd H a (.dT kvs) ∧ AllAlike (kvs.map fun p => keyP p.1) ∧ Sortable (kvs.map fun p => keyP p.1) ∧ (∀ p, p ∈ kvs → (keyP p.1).depth ≤ 60) ∧
  ∀ p bs, H p = none → IsKeys H kvs bs → Q (.ref p) (upd H p (.lst ((((bs.map V.ref).zip (kvs.map fun p => keyP p.1)).mergeSort (dataLe false Prod.snd)).map Prod.fst)))
open PySem.W in
theorem cr_sortedK (hc : X.calm = true) (hu : X.A.units + 64 < cLine) : CallR X (.builtin "sorted") (rSortedK X.K) := by
  intro pins s σ H xs us Q I r h
  obtain ⟨d, kvs, rfl, hd, hal, hk, h60, q⟩ := h
  obtain ⟨u, rfl, rx⟩ := r.one
  cases rx
  obtain ⟨z, hs, ks, pr, o, es, ep, ho, hx, hdt, he, hn⟩ := (show ObjOk X.prog X.w H s.heap d (.dT kvs) from hd.ok I.hok)
  have l1 : es.size = ks.length := size_of_entries he
  have l2 : kvs.length = ks.length := Paired.length pr
  refine call_function_entry kind_sorted plain_sorted entry_sorted (args_sorted1 _) ?_
  unfold Builtin.«sorted»
  refine wpAny_bind (m := checkCount "sorted" 1 1 _) (wpAny_pure ?_)
  refine wpAny_bind (collect_lt (A := X.A.in1) (kdl_raw hs hx hdt) (I.ok.hd hc) ho (by omega) fun h' tk acc kp hlt it => ?_)
  have ea : acc.toList = (ks.map fun x => x.2.1).map Value.ref := by
    rw [List.map_map]
    have hl : acc.toList.length = ks.length := by rw [Array.length_toList, it.1]; exact l1
    apply List.ext_getElem?
    intro j
    rw [List.getElem?_map]
    cases hj : acc.toList[j]? with
    | none =>
      have h1 := List.getElem?_eq_none_iff.mp hj
      rw [List.getElem?_eq_none (by omega)]
      all_goals rfl
    | some v =>
      obtain ⟨en, hen, hv⟩ := it.2 j v (by rw [← Array.getElem?_toList]; exact hj)
      have qe := entry_at he j
      rw [hen] at qe
      cases hb : ks[j]? with
      | none =>
        rw [hb] at qe
        exact nomatch (show some en = none from qe)
      | some b =>
        rw [hb] at qe
        have e2 : en = entryOfKey (tupleKind (mixKind X.prog X.w)) b := Option.some.inj qe
        rw [hv, e2]
        all_goals rfl
  have hky : IsKeys H kvs (ks.map fun x => x.2.1) := isKeys_of pr
  have hlk : (ks.map fun x => x.2.1).length = kvs.length := by rw [List.length_map, l2]
  generalize ks.map (fun x => x.2.1) = bs at ea hlk hky
  rw [ea]
  have hbz : (bs.map Value.ref).length ≤ sizeLine := by rw [List.length_map, hlk]; exact z
  refine wpAny_bind (wpAny_newList ?_ hbz)
  have lt : ∀ b o, s.heap.get? b = some o → b ≠ h'.objs.size := fun b o e => Nat.ne_of_lt (Heap.lt_size (kp b o e))
  have kp2 : ∀ b o, s.heap.get? b = some o → (h'.push { cls := .type "list", data := .seq (bs.map Value.ref).toArray }).get? b = some o := fun b o e => Heap.get?_push_of_some _ (kp b o e)
  obtain ⟨e1, e2⟩ := each_key (h' := h'.push { cls := .type "list", data := .seq (bs.map Value.ref).toArray }) (D := h'.objs.size) I kp2 hky
  have ez : ((bs.map V.ref).zip (kvs.map fun p => keyP p.1)).map Prod.snd = kvs.map fun p => keyP p.1 := zip_snd (by rw [List.length_map, List.length_map]; exact hlk)
  have hlen : ((bs.map V.ref).zip (kvs.map fun p => keyP p.1)).length = kvs.length := by rw [List.length_zip, List.length_map, List.length_map, hlk, Nat.min_self]
  have hat : (h'.push { cls := .type "list", data := .seq (bs.map Value.ref).toArray }).get? h'.objs.size = some (seqObj "list" (bs.map Value.ref).toArray 0) := Heap.get?_push_size _ rfl
  have hle : s.heap.objs.size ≤ h'.objs.size := Nat.le_of_lt hlt
  have srt := list_sort_data (prog := X.prog) (w := X.w) (A := X.A.in1) (E := X.xe) (s := { s with heap := h'.push { cls := .type "list", data := .seq (bs.map Value.ref).toArray }, toks := tk }) (enc := Prod.snd) (a := h'.objs.size) (n := 0) (vs := bs.map Value.ref) (bs := (bs.map V.ref).zip (kvs.map fun p => keyP p.1))
    (Q := fun _ s' => EP X pins σ Q (.ref h'.objs.size) s') hat e1 e2 (by rw [ez]; exact hal) (by rw [ez]; exact hk) (by rw [hlen]; exact z) (fun b hb => ?_) (fun out ho he => ?_)
  · exact wpAny_bind (wpAny_holding (wpAny_mono srt (fun _ s' x => wpAny_pure ⟨_, rfl, x⟩) fun _ _ e => e))
  · have : b.2 ∈ kvs.map fun p => keyP p.1 := by rw [← ez]; exact List.mem_map_of_mem hb
    obtain ⟨p, hp, e⟩ := List.mem_map.mp this
    have := h60 p hp
    rw [e] at this
    show X.A.units + 1 + 1 + b.2.depth < cLine
    omega
  · obtain ⟨ep', he'⟩ := sortedHeap_at (out := List.toArray out) hat
    have rr := vals_of he
    have hz' : ((((bs.map V.ref).zip (kvs.map fun p => keyP p.1)).mergeSort (dataLe false Prod.snd)).map Prod.fst).length ≤ sizeLine := by rw [List.length_map, List.length_mergeSort, hlen]; exact z
    refine ⟨.ref _, _, I.laid (o := .lst ((((bs.map V.ref).zip (kvs.map fun p => keyP p.1)).mergeSort (dataLe false Prod.snd)).map Prod.fst)) (t' := tk) (fun b o e => ?_) hle ⟨hz', out, ep', rr, he'⟩, rfl, q _ _ (I.hok.fresh hle) hky⟩
    rw [sortedHeap_old (lt b o e) (Heap.lt_size (kp2 b o e))]
    exact kp2 b o e
end
end ViD

set_option Elab.async false
set_option linter.all false
set_option maxRecDepth 100000
set_option maxHeartbeats 2000000
/-! Vi2: the own syntax and its evaluator. -/
namespace Vi
open PySem L2
inductive Bop where | add | sub | mul | div | mod | shl | shr | band
  deriving DecidableEq
inductive Cop where | eq | ne | lt | le | gt | ge | isn | non | isin | nin
  deriving DecidableEq
inductive B1 where | len | sum | mn | mx | abs | int | all | any | lis | tup | srt | lrev | stri | strue
  deriving DecidableEq
inductive B2 where | mn | mx
  deriving DecidableEq
inductive Ty where | int | bool | str | list | tuple | dict
  deriving DecidableEq
inductive M0 where | pop | clear | reverse
  deriving DecidableEq
inductive M1 where | append | extend | popAt
  deriving DecidableEq
mutual
inductive E where
  | int (i : Int) | bl (b : Bool) | non | str (x : Str) | pow (b e : Nat) | glo (x : Str) (d : D)
  | var (i : Nat) | mv (i : Nat) | fz (i : Nat) (e : E)
  | neg (a : E) | bin (o : Bop) (a b : E) | cmp (o : Cop) (a b : E) | chain (o p : Cop) (a b c : E)
  | not (a : E) | and (es : Es) | or (es : Es) | ite (c a b : E)
  | tup (es : Es) | lst (es : Es) | dct (t : Bool)
  | idx (a i : E) | sl10 (a lo : E) | sl01 (a hi : E) | sl11 (a lo hi : E) | slr (a : E) | attr (a : E) (f : Str)
  | b1 (o : B1) (a : E) | b2 (o : B2) (a b : E) | isi (a : E) (ts : List Ty) | dget (a k x : E)
  | call (f : Nat) (as : As) | callO (f : Nat) (e : E) | mk (c : Nat) (f : Nat) (as : As)
  | mut0 (m : M0) (p : E) | mut1 (m : M1) (p a : E) | ins (p i a : E)
  | comp (own : List Nat) (t : T) (it : I) (elt : E) | compI (own : List Nat) (t : T) (it : I) (c elt : E)
inductive Es where | nil | cons (e : E) (es : Es)
inductive As where | nil | ro (e : E) (r : As) | mu (p : E) (r : As)
inductive I where | seq (e : E) | range1 (e : E) | range2 (a b : E) | zip (a b : E) | enum (a : E) | rev (a : E)
inductive T where | name (i : Nat) | tup (ts : Ts) | idx (p i : E) | dix (p : E) (es : Es) | attr (p : E) (f : Str)
inductive Ts where | nil | cons (t : T) (ts : Ts)
end
mutual
inductive S where
  | expr (e : E) | set (i : Nat) (e : E) | asg (t : T) (e : E) | par (i j : Nat) (a b : E) | aug (i : Nat) (o : Bop) (e : E) | augI (p i : E) (o : Bop) (e : E)
  | iff (c : E) (a b : Ss) | whl (c : E) (b : Ss) | fo (t : T) (it : I) (b : Ss) | fom (x i : Nat) (b : Ss) | fot (x : Nat) (e : E) (b : Ss) | ret (e : E) | ret0 | pass | brk | cont | doc | drop (i : Nat) | never
inductive Ss where | nil | cons (s : S) (ss : Ss)
end
/-- an exception: its class, its number -/
structure Ex where
  c : Nat
  x : Option Int
inductive Res (α : Type) where | ok (a : α) (env : List D) | err (x : Ex) (env : List D) | bad
def Res.bind {α β : Type} (r : Res α) (k : α → List D → Res β) : Res β := match r with
  | .ok a env => k a env
  | .err x env => .err x env
  | .bad => .bad
def Res.of {α : Type} (o : Option α) (env : List D) : Res α := match o with
  | some a => .ok a env
  | none => .bad
/-- what a call gives: the value, what the mutable arguments have become -/
inductive Fo where | ok (d : D) (outs : List D) | err (x : Ex) (outs : List D) | bad
structure Dl where
  call : Nat → List D → Fo
  w : Nat
/-! ### what is seen of an expression ahead of its run -/
def vw : E → Bool
  | .var _ => true
  | .idx a _ => vw a
  | .attr a _ => vw a
  | _ => false
def rt : E → Nat
  | .var i => i
  | .idx a _ => rt a
  | .attr a _ => rt a
  | _ => 0
def isVar : E → Bool
  | .var _ => true
  | _ => false
mutual
def ef : E → Bool
  | .int _ | .bl _ | .non | .str _ | .pow _ _ | .glo _ _ | .var _ | .dct _ => false
  | .mv _ | .fz _ _ => true
  | .neg a | .not a | .slr a | .attr a _ | .b1 _ a | .isi a _ | .callO _ a => ef a
  | .and es | .or es => efs es
  | .bin _ a b | .cmp _ a b | .idx a b | .sl10 a b | .sl01 a b | .b2 _ a b => ef a || ef b
  | .chain _ _ a b c | .ite a b c | .sl11 a b c | .dget a b c => ef a || (ef b || ef c)
  | .tup es | .lst es => efs es
  | .call _ as => efa as
  | .mk _ _ as => efa as
  | .mut0 _ _ | .mut1 _ _ _ | .ins _ _ _ => true
  | .comp _ _ it e => efi it || ef e
  | .compI _ _ it c e => efi it || (ef c || ef e)
def efs : Es → Bool
  | .nil => false
  | .cons e es => ef e || efs es
def efa : As → Bool
  | .nil => false
  | .ro e r => ef e || efa r
  | .mu _ _ => true
/-- .. of the arguments' runs alone -/
def efr : As → Bool
  | .nil => false
  | .ro e r => ef e || efr r
  | .mu _ r => efr r
def efi : I → Bool
  | .seq e | .range1 e | .enum e | .rev e => ef e
  | .range2 a b | .zip a b => ef a || ef b
end
/-! ### operations -/
def sizeL : Nat := 16777216
mutual
def deq : D → D → Bool
  | .non, .non => true
  | .bl a, .bl b => a == b
  | .int a, .int b => decide (a = b)
  | .bl a, .int b => (if a then 1 else 0) == b
  | .int a, .bl b => a == (if b then 1 else 0)
  | .str a, .str b => decide (a = b)
  | .nd k xs, .nd l ys => (match k, l with
    | .tup, .tup => deqs xs ys
    | .lst _, .lst _ => deqs xs ys
    | _, _ => false)
  | _, _ => false
def deqs : List D → List D → Bool
  | [], [] => true
  | x :: xs, y :: ys => deq x y && deqs xs ys
  | _, _ => false
end
mutual
/-- plain data, at most so deep -/
def okd : Nat → D → Bool
  | _, .non => true
  | _, .bl _ => true
  | _, .int _ => true
  | _, .str x => PySem.PyData.strOk x
  | _, .hole => false
  | 0, .nd _ _ => false
  | n + 1, .nd k xs => (match k with
    | .tup => okds n xs
    | .lst _ => okds n xs
    | _ => false)
def okds : Nat → List D → Bool
  | _, [] => true
  | n, x :: xs => okd n x && okds n xs
end
def flat : D → Bool
  | .non => true
  | .bl _ => true
  | .int _ => true
  | .str _ => true
  | _ => false
def intsOf : List D → Option (List Int)
  | [] => some []
  | .int i :: r => (match intsOf r with
    | some l => some (i :: l)
    | none => none)
  | _ :: _ => none
def blsOf : List D → Option (List Bool)
  | [] => some []
  | .bl b :: r => (match blsOf r with
    | some l => some (b :: l)
    | none => none)
  | _ :: _ => none
def lexL : List Int → List Int → Bool
  | [], [] => false
  | [], _ :: _ => true
  | _ :: _, [] => false
  | x :: xs, y :: ys => if x = y then lexL xs ys else decide (x < y)
def insI (x : Int) : List Int → List Int
  | [] => [x]
  | y :: r => if x ≤ y then x :: y :: r else y :: insI x r
def srtI : List Int → List Int
  | [] => []
  | x :: r => insI x (srtI r)
def keyOf : D → Option Key
  | .int i => some (.inl i)
  | .str x => some (.inr x)
  | _ => none
def keysOf : List D → Option (List Key)
  | [] => some []
  | d :: r => (match keyOf d with
    | some k => (match keysOf r with
      | some l => some (k :: l)
      | none => none)
    | none => none)
def posOf {α : Type} [DecidableEq α] (k : α) : List α → Option Nat
  | [] => none
  | x :: r => if x = k then some 0 else (match posOf k r with
    | some n => some (n + 1)
    | none => none)
/-- the child of a list, a tuple that an index names -/
def kid (k : Kd) (n : Nat) (i : D) : Option Nat := match k, i with
  | .tup, .int j => ixN n j
  | .lst _, .int j => ixN n j
  | _, _ => none
/-- the child of a dict -/
def kidD (k : Kd) (i : D) : Option Nat := match k, i with
  | .dK _ ks, j => (match keyOf j with
    | some q => posOf q ks
    | none => none)
  | .dT _ ks, .nd .tup js => (match keysOf js with
    | some q => posOf q ks
    | none => none)
  | _, _ => none
def kD : Key → D
  | .inl i => .int i
  | .inr x => .str x
/-- a key, as a tuple -/
def keyD (k : List Key) : D := .nd .tup (k.map kD)
def keyQ : D → Option (List Key)
  | .nd k js => (match k with
    | .tup => keysOf js
    | _ => none)
  | _ => none
/-- the value at a key -/
def kGet (q : List Key) : List (List Key) → List D → Option D
  | k :: ks, x :: xs => if k = q then some x else kGet q ks xs
  | _, _ => none
def kHas (q : List Key) : List (List Key) → Bool
  | k :: ks => if k = q then true else kHas q ks
  | [] => false
def kPut {α : Type} (q : List Key) (d : α) : List (List Key) → List α → List α
  | k :: ks, x :: xs => (if k = q then d else x) :: kPut q d ks xs
  | _, _ => []
/-- a dict with a value put at a key -/
def dput (ks : List (List Key)) (xs : List D) (q : List Key) (d : D) : D :=
  if kHas q ks then .nd (.dT true ks) (kPut q d ks xs) else .nd (.dT true (ks ++ [q])) (xs ++ [d])
def dct1 : D → Option (List (List Key) × List D)
  | .nd k xs => (match k with
    | .dT true ks => some (ks, xs)
    | _ => none)
  | _ => none
def dctA : D → Option (List (List Key) × List D)
  | .nd k xs => (match k with
    | .dT _ ks => some (ks, xs)
    | _ => none)
  | _ => none
/-- d.get(y, z) -/
def dgo (ks : List (List Key)) (xs : List D) (y z : D) : Option D := match keyQ y with
  | some q => (match kGet q ks xs with
    | some d => if imm d then some d else none
    | none => if imm z then some z else none)
  | none => none
def dkeys : D → Option (List D)
  | .nd k _ => (match k with
    | .dT _ ks => some (ks.map keyD)
    | _ => none)
  | _ => none
mutual
/-- ints, tuples of such, of one shape -/
def alk : D → D → Bool
  | .int _, .int _ => true
  | .nd k xs, .nd l ys => (match k, l with
    | .tup, .tup => alks xs ys
    | _, _ => false)
  | _, _ => false
def alks : List D → List D → Bool
  | [], [] => true
  | x :: xs, y :: ys => alk x y && alks xs ys
  | _, _ => false
end
mutual
def ltD : D → D → Bool
  | .int a, .int b => decide (a < b)
  | .nd k xs, .nd l ys => (match k, l with
    | .tup, .tup => ltDs xs ys
    | _, _ => false)
  | _, _ => false
def ltDs : List D → List D → Bool
  | [], _ :: _ => true
  | x :: xs, y :: ys => if deq x y then ltDs xs ys else ltD x y
  | _, _ => false
end
def leD (a b : D) : Bool := !ltD b a
def tupN : D → Bool
  | .nd k xs => (match k with
    | .tup => !xs.isEmpty
    | _ => false)
  | _ => false
def srtOk (xs : List D) : Bool := xs.all tupN && (imms xs && (okds 60 xs && xs.all fun a => xs.all fun b => alk a b))
def srtT (xs : List D) : Option D := if srtOk xs then some (.nd (.lst true) (xs.mergeSort leD)) else none
def ixD (k : Kd) (xs : List D) (i : D) : Option D := match k with
  | .dT _ ks => (match keyQ i with
    | some q => kGet q ks xs
    | none => none)
  | _ => none
def ix (d i : D) : Option D := match d, i with
  | .nd k xs, i => (match kid k xs.length i with
    | some n => xs[n]?
    | none => ixD k xs i)
  | .str x, .int j => if x.length ≤ sizeL then (atI x.cps.toList j).map fun c => .str ⟨#[c]⟩ else none
  | _, _ => none
def att (d : D) (f : Str) : Option D := match d with
  | .nd (.obj _ _ ns) xs => (match posOf f ns with
    | some n => xs[n]?
    | none => none)
  | _ => none
def repl {α : Type} (xs : List α) : Nat → List α
  | 0 => []
  | n + 1 => xs ++ repl xs n
def bop : Bop → D → D → Option D
  | .add, .int a, .int b => some (.int (a + b))
  | .add, .str a, .str b => if a.length + b.length ≤ sizeL then some (.str (a ++ b)) else none
  | .add, .nd k xs, .nd l ys => (match k, l with
    | .lst _, .lst _ => if imms xs && (imms ys && decide (xs.length + ys.length ≤ sizeL)) then some (.nd (.lst true) (xs ++ ys)) else none
    | .tup, .tup => if imms xs && (imms ys && decide (xs.length + ys.length ≤ sizeL)) then some (.nd .tup (xs ++ ys)) else none
    | _, _ => none)
  | .sub, .int a, .int b => some (.int (a - b))
  | .mul, .int a, .int b => if (-18446744073709551616 < a ∧ a < 18446744073709551616) ∨ (-18446744073709551616 < b ∧ b < 18446744073709551616) then some (.int (a * b)) else none
  | .mul, .nd k xs, .int b => (match k with
    | .lst true => if imms xs && (decide (-9223372036854775808 ≤ b ∧ b < 9223372036854775808) && decide (xs.length * b.toNat ≤ sizeL)) then some (.nd (.lst true) (repl xs b.toNat)) else none
    | .tup => if imms xs && (!xs.isEmpty && (decide (-9223372036854775808 ≤ b ∧ b ≤ 1000) && decide (xs.length ≤ 1000))) then some (.nd .tup (repl xs b.toNat)) else none
    | _ => none)
  | .div, .int a, .int b => if 0 < b ∧ b ≤ 1000000000000000000000000000000000000000000000000000000000000 then some (.int (a / b)) else none
  | .mod, .int a, .int b => if 0 < b then some (.int (a % b)) else none
  | .shl, .int a, .int b => if 0 ≤ b ∧ b ≤ 1000000 ∧ a.natAbs < 18446744073709551616 then some (.int (a * 2 ^ b.toNat)) else none
  | .shr, .int a, .int b => if 0 ≤ b then some (.int (a / 2 ^ b.toNat)) else none
  | .band, .int a, .int b => some (.int (Builtin.bitAnd a b))
  | _, _, _ => none
/-- x op= y of ints -/
def iop : Bop → Int → Int → Option Int
  | .add, a, b => some (a + b)
  | .sub, a, b => some (a - b)
  | _, _, _ => none
def cop : Cop → D → D → Option Bool
  | .eq, a, b => if okd 64 a && okd 64 b then some (deq a b) else none
  | .ne, a, b => if okd 64 a && okd 64 b then some (!deq a b) else none
  | .lt, .int a, .int b => some (decide (a < b))
  | .lt, .nd .tup xs, .nd .tup ys => (match intsOf xs, intsOf ys with
    | some a, some b => some (lexL a b)
    | _, _ => none)
  | .le, .int a, .int b => some (decide (a ≤ b))
  | .le, .nd .tup xs, .nd .tup ys => (match intsOf xs, intsOf ys with
    | some a, some b => some (!lexL b a)
    | _, _ => none)
  | .gt, .int a, .int b => some (decide (b < a))
  | .ge, .int a, .int b => some (decide (b ≤ a))
  | .isn, a, .non => some (decide (a = .non))
  | .non, a, .non => some (!decide (a = .non))
  | .isn, .bl a, .bl b => some (decide (a = b))
  | .non, .bl a, .bl b => some (!decide (a = b))
  | .isin, a, .nd k xs => (match k with
    | .tup => if flat a && xs.all flat then some (xs.any fun y => deq y a) else none
    | .lst _ => if flat a && xs.all flat then some (xs.any fun y => deq y a) else none
    | .dK _ _ => none
    | .dT _ ks => (match keyQ a with
      | some q => some (kHas q ks)
      | none => none)
    | .obj _ _ _ => none)
  | .nin, a, .nd k xs => (match k with
    | .tup => if flat a && xs.all flat then some (!xs.any fun y => deq y a) else none
    | .lst _ => if flat a && xs.all flat then some (!xs.any fun y => deq y a) else none
    | .dK _ _ => none
    | .dT _ ks => (match keyQ a with
      | some q => some (!kHas q ks)
      | none => none)
    | .obj _ _ _ => none)
  | _, _, _ => none
def seqOf : D → Option (List D)
  | .nd k xs => (match k with
    | .tup => some xs
    | .lst _ => some xs
    | _ => none)
  | _ => none
def lsto : D → Option (List D)
  | .nd k xs => (match k with
    | .lst _ => some xs
    | _ => none)
  | _ => none
def mxI : Int → List Int → Int
  | m, [] => m
  | m, x :: r => mxI (if m < x then x else m) r
def mnI : Int → List Int → Int
  | m, [] => m
  | m, x :: r => mnI (if x < m then x else m) r
def b1op : B1 → D → Option D
  | .len, d => (match d with
    | .nd k xs => (match k with
      | .tup => some (.int xs.length)
      | .lst _ => some (.int xs.length)
      | .dT _ _ => some (.int xs.length)
      | _ => none)
    | .str x => if x.length ≤ sizeL then some (.int x.length) else none
    | _ => none)
  | .sum, d => (match lsto d with
    | some xs => (match intsOf xs with
      | some l => some (.int l.sum)
      | none => none)
    | none => none)
  | .mn, d => (match lsto d with
    | some xs => (match intsOf xs with
      | some (x :: r) => some (.int (mnI x r))
      | _ => none)
    | none => none)
  | .mx, d => (match lsto d with
    | some xs => (match intsOf xs with
      | some (x :: r) => some (.int (mxI x r))
      | _ => none)
    | none => none)
  | .abs, .int i => some (.int (if i < 0 then -i else i))
  | .int, .int i => some (.int i)
  | .int, .bl b => some (.int (if b then 1 else 0))
  | .all, d => (match lsto d with
    | some xs => (match blsOf xs with
      | some l => some (.bl (l.all id))
      | none => none)
    | none => none)
  | .any, d => (match lsto d with
    | some xs => (match blsOf xs with
      | some l => some (.bl (l.any id))
      | none => none)
    | none => none)
  | .lis, d => (match seqOf d with
    | some xs => if imms xs then some (.nd (.lst true) xs) else none
    | none => (match dkeys d with
      | some xs => some (.nd (.lst true) xs)
      | none => none))
  | .tup, d => (match seqOf d with
    | some xs => if imms xs then some (.nd .tup xs) else none
    | none => none)
  | .srt, d => (match lsto d with
    | some xs => (match intsOf xs with
      | some l => some (.nd (.lst true) ((srtI l).map .int))
      | none => srtT xs)
    | none => (match dkeys d with
      | some xs => srtT xs
      | none => none))
  | _, _ => none
def b2op : B2 → D → D → Option D
  | .mn, .int a, .int b => some (.int (if b < a then b else a))
  | .mx, .int a, .int b => some (.int (if b > a then b else a))
  | _, _, _ => none
/-- what has a type that is asked for -/
def okTy : D → Bool
  | .hole => false
  | .nd k _ => (match k with
    | .obj _ _ _ => false
    | _ => true)
  | _ => true
def isTy (d : D) : Ty → Bool
  | .int => (match d with
    | .int _ => true
    | .bl _ => true
    | _ => false)
  | .bool => (match d with
    | .bl _ => true
    | _ => false)
  | .str => (match d with
    | .str _ => true
    | _ => false)
  | .list => (match d with
    | .nd k _ => (match k with
      | .lst _ => true
      | _ => false)
    | _ => false)
  | .tuple => (match d with
    | .nd k _ => (match k with
      | .tup => true
      | _ => false)
    | _ => false)
  | .dict => (match d with
    | .nd k _ => (match k with
      | .dK _ _ => true
      | .dT _ _ => true
      | _ => false)
    | _ => false)
def cutL {α : Type} (xs : List α) (lo hi : Option Int) : List α := (xs.drop (HT.sIx xs.length 0 lo)).take (HT.sIx xs.length xs.length hi - HT.sIx xs.length 0 lo)
def cut (d : D) (lo hi : Option Int) : Option D := match d with
  | .nd k xs => (match k with
    | .lst _ => if imms xs then some (.nd (.lst true) (cutL xs lo hi)) else none
    | .tup => if imms xs then some (.nd .tup (cutL xs lo hi)) else none
    | _ => none)
  | _ => none
def toI : D → Option Int
  | .int i => some i
  | _ => none
/-- a list of one's own -/
def lst1 : D → Option (List D)
  | .nd k xs => (match k with
    | .lst true => some xs
    | _ => none)
  | _ => none
/-- a list method: the new items, the value -/
def m0op : M0 → List D → Option (List D × D)
  | .pop, xs => (match xs.getLast? with
    | some d => some (xs.dropLast, d)
    | none => none)
  | .clear, _ => some ([], .non)
  | .reverse, xs => if imms xs then some (xs.reverse, .non) else none
def m1op : M1 → List D → D → Option (List D × D)
  | .append, xs, d => if xs.length < sizeL then some (xs ++ [d], .non) else none
  | .extend, xs, d => (match lst1 d with
    | some ys => if imms ys && decide (xs.length + ys.length ≤ sizeL) then some (xs ++ ys, .non) else none
    | none => none)
  | .popAt, xs, .int i => (if xs.length ≤ sizeL then match ixN xs.length i with
    | some n => (match xs[n]? with
      | some d => some (xs.eraseIdx n, d)
      | none => none)
    | none => none
    else none)
  | _, _, _ => none
/-! ### the tree under a place -/
def getL : D → List Nat → Option D
  | d, [] => some d
  | .nd k xs, n :: l => if k.ow = some false then none else (match xs[n]? with
    | some d => getL d l
    | none => none)
  | _, _ :: _ => none
def setL (d' : D) : D → List Nat → D
  | _, [] => d'
  | .nd k xs, n :: l => (match xs[n]? with
    | some d => .nd k (xs.set n (setL d' d l))
    | none => .nd k xs)
  | d, _ :: _ => d
def look (env : List D) (i : Nat) : Option D := match env[i]? with
  | some .hole => none
  | some d => some d
  | none => none
/-- an operand's value behind the later ones -/
def re (a : E) (later : Bool) (d : D) (env : List D) : Option D := if vw a && later then (match a with
  | .var i => look env i
  | _ => if imm d then some d else none) else some d
/-- .. where it is to be seen on -/
def reV (a : E) (later : Bool) (d : D) (env : List D) : Option D := if vw a && later then (match a with
  | .var i => look env i
  | _ => none) else some d
/-- a value that is to be kept -/
def own (a : E) (d : D) : Option D := if vw a then (if imm d then some d else none) else some d
def wipeE (env : List D) : List Nat → List D
  | [] => env
  | i :: l => (wipeE env l).set i .hole
def holesE (env : List D) (l : List Nat) : Bool := l.all fun i => (match env[i]? with
  | some .hole => true
  | _ => false)
def idxs : Nat → List D → List D
  | _, [] => []
  | n, d :: r => .nd .tup [.int n, d] :: idxs (n + 1) r
def zipD : List D → List D → List D
  | x :: xs, y :: ys => .nd .tup [x, y] :: zipD xs ys
  | _, _ => []
/-- two lists, two tuples -/
def rvD : D → Option D
  | .nd k xs => if imms xs then (match k with
    | .tup => some (.nd .tup xs.reverse)
    | .lst _ => some (.nd (.lst true) xs.reverse)
    | _ => none) else none
  | _ => none
def zipS : D → D → Option (List D)
  | .nd k xs, .nd l ys => if imms xs && imms ys then (match k, l with
    | .tup, .tup => some (zipD xs ys)
    | .lst _, .lst _ => some (zipD xs ys)
    | .tup, .lst _ => some (zipD xs ys)
    | .lst _, .tup => some (zipD xs ys)
    | _, _ => none) else none
  | _, _ => none
def seqI (d : D) : Option (List D) := match seqOf d with
  | some xs => if imms xs then some xs else none
  | none => none
def lstI (d : D) : Option (List D) := match lsto d with
  | some xs => if imms xs then some xs else none
  | none => none
def rangeD (lo : Int) : Nat → List D
  | 0 => []
  | n + 1 => .int lo :: rangeD (lo + 1) n
def small (i : Int) : Bool := decide (-4611686018427387904 ≤ i ∧ i < 4611686018427387904)
/-- the variables that are walked -/
def srcs : I → List Nat
  | .seq (.var i) => [i]
  | .enum (.var i) => [i]
  | .rev (.var i) => [i]
  | .zip a b => (match a with
    | .var i => [i]
    | _ => []) ++ (match b with
    | .var i => [i]
    | _ => [])
  | _ => []
def stay (l : List Nat) (e1 e2 : List D) : Bool := l.all fun i => decide (e1[i]? = e2[i]?)
/-- a walked thing: a variable, or what is no part of one, or frozen -/
def wkd (a : E) (d : D) : Bool := isVar a || (!vw a || imm d)
inductive Out where | next (env : List D) | brk (env : List D) | cont (env : List D) | ret (d : D) (env : List D) | err (x : Ex) (env : List D) | bad
def roots : List (Nat × List Nat) → List Nat
  | [] => []
  | p :: r => p.1 :: roots r
/-- arguments put together: given ones frozen, mutable ones from their places -/
def argsD (env : List D) : List (Option D) → List (Nat × List Nat) → Option (List D)
  | [], [] => some []
  | some d :: r, ps => (match argsD env r ps with
    | some l => some (frz d :: l)
    | none => none)
  | none :: r, p :: ps => (match look env p.1 with
    | some t => (match getL t p.2 with
      | some d => (match argsD env r ps with
        | some l => some (d :: l)
        | none => none)
      | none => none)
    | none => none)
  | _, _ => none
def putAll (env : List D) : List (Nat × List Nat) → List D → Option (List D)
  | [], [] => some env
  | p :: ps, d :: ds => (match env[p.1]? with
    | some t => putAll (env.set p.1 (setL d t p.2)) ps ds
    | none => none)
  | _, _ => none
/-- no argument that is seen only is a part of a mutable one; where such is no frozen one: true -/
def apart (as : As) (ds : List (Option D)) (ms : List Nat) : Option Bool := match as, ds with
  | .nil, [] => some true
  | .ro e r, some d :: l => (match apart r l ms with
    | some b => if vw e && !imm d then (if ms.contains (rt e) then none else some false) else some b
    | none => none)
  | .mu _ r, none :: l => apart r l ms
  | _, _ => none
def nodupB : List Nat → Bool
  | [] => true
  | x :: r => !r.contains x && nodupB r
def callE (as : As) (f : List D → Fo) (ds : List (Option D)) (ps : List (Nat × List Nat)) (env : List D) : Res D :=
  if nodupB (roots ps) then (match apart as ds (roots ps) with
    | some clean => (match argsD env ds ps with
      | some l => (match f l with
        | .ok d outs => if clean || (nof d && nofs outs) then (match putAll env ps outs with
          | some env' => .ok d env'
          | none => .bad) else .bad
        | .err x outs => if clean || nofs outs then (match putAll env ps outs with
          | some env' => .err x env'
          | none => .bad) else .bad
        | .bad => .bad)
      | none => .bad)
    | none => .bad) else .bad
def Res.calm {α : Type} (r : Res α) : Res α := match r with
  | .err _ _ => .bad
  | r => r
def loopC (turn : D → List D → Res (Option D)) (chk : List D → Bool) : List D → List D → List D → Res D
  | [], acc, env => .ok (.nd (.lst true) acc) env
  | d :: ds, acc, env => (turn d env).calm.bind fun o e2 => if chk e2 then (match o with
    | some x => if acc.length < sizeL then loopC turn chk ds (acc ++ [x]) e2 else .bad
    | none => loopC turn chk ds acc e2) else .bad
mutual
def ev (Δ : Dl) : E → List D → Res D
  | .int i, env => .ok (.int i) env
  | .bl b, env => .ok (.bl b) env
  | .non, env => .ok .non env
  | .str x, env => .ok (.str x) env
  | .pow b e, env => .ok (.int ((b : Int) ^ e)) env
  | .glo _ d, env => .ok d env
  | .var i, env => Res.of (look env i) env
  | .mv i, env => (match look env i with
    | some d => .ok d (env.set i .hole)
    | none => .bad)
  | .fz i e, env => (match look env i with
    | some d => (ev Δ e (env.set i (frz d))).bind fun d e' => Res.of (own e d) e'
    | none => .bad)
  | .neg a, env => (ev Δ a env).bind fun d e => Res.of ((toI d).map fun i => .int (-i)) e
  | .bin o a b, env => (ev Δ a env).bind fun x e1 => (ev Δ b e1).bind fun y e2 => Res.of ((re a (ef b) x e2).bind fun x => bop o x y) e2
  | .cmp o a b, env => (ev Δ a env).bind fun x e1 => (ev Δ b e1).bind fun y e2 => Res.of ((re a (ef b) x e2).bind fun x => (cop o x y).map .bl) e2
  | .chain o p a b c, env => (ev Δ a env).bind fun x e1 => (ev Δ b e1).bind fun y e2 => (match (re a (ef b) x e2).bind fun x => cop o x y with
    | some true => (ev Δ c e2).bind fun z e3 => Res.of ((re b (ef c) y e3).bind fun y => (cop p y z).map .bl) e3
    | some false => .ok (.bl false) e2
    | none => .bad)
  | .not a, env => (ev Δ a env).bind fun d e => (match d with
    | .bl b => .ok (.bl (!b)) e
    | _ => .bad)
  | .and es, env => evn Δ true es env
  | .or es, env => evn Δ false es env
  | .ite c a b, env => (ev Δ c env).bind fun d e => (match d with
    | .bl true => (ev Δ a e).bind fun d e => Res.of (own a d) e
    | .bl false => (ev Δ b e).bind fun d e => Res.of (own b d) e
    | _ => .bad)
  | .tup es, env => (evs Δ es env).bind fun ds e => if ds.length ≤ sizeL then .ok (.nd .tup ds) e else .bad
  | .lst es, env => (evs Δ es env).bind fun ds e => if ds.length ≤ sizeL then .ok (.nd (.lst true) ds) e else .bad
  | .dct t, env => .ok (.nd (if t then .dT true [] else .dK true []) []) env
  | .idx a i, env => (ev Δ a env).bind fun x e1 => (ev Δ i e1).bind fun y e2 => Res.of ((reV a (ef i) x e2).bind fun x => ix x y) e2
  | .sl10 a lo, env => (ev Δ a env).bind fun x e1 => (ev Δ lo e1).bind fun y e2 => Res.of ((re a (ef lo) x e2).bind fun x => (toI y).bind fun i => cut x (some i) none) e2
  | .sl01 a hi, env => (ev Δ a env).bind fun x e1 => (ev Δ hi e1).bind fun y e2 => Res.of ((re a (ef hi) x e2).bind fun x => (toI y).bind fun i => cut x none (some i)) e2
  | .sl11 a lo hi, env => (ev Δ a env).bind fun x e1 => (ev Δ lo e1).bind fun y e2 => (match y with
    | .int i => (ev Δ hi e2).bind fun z e3 => Res.of ((re a (ef lo || ef hi) x e3).bind fun x => (toI z).bind fun j => cut x (some i) (some j)) e3
    | _ => .bad)
  | .slr a, env => (ev Δ a env).bind fun x e => Res.of (rvD x) e
  | .attr a f, env => (ev Δ a env).bind fun x e => Res.of (att x f) e
  | .b1 o a, env => (ev Δ a env).bind fun x e => Res.of (b1op o x) e
  | .b2 o a b, env => (ev Δ a env).bind fun x e1 => (ev Δ b e1).bind fun y e2 => Res.of ((re a (ef b) x e2).bind fun x => b2op o x y) e2
  | .isi a ts, env => (ev Δ a env).bind fun x e => Res.of (if okTy x then some (.bl (ts.any (isTy x))) else none) e
  | .dget a k x, env => if ef k || ef x then .bad else (ev Δ a env).bind fun m e1 => (match dctA m with
    | some (ks, xs) => (ev Δ k e1).bind fun y e2 => (ev Δ x e2).bind fun z e3 => Res.of (dgo ks xs y z) e3
    | none => .bad)
  | .call f as, env => (eva Δ as env).bind fun ds e => (match pths Δ as e with
    | some ps => callE as (Δ.call f) ds ps e
    | none => .bad)
  | .callO f a, env => (ev Δ a env).bind fun d e => if vw a then .bad else (match Δ.call f [d] with
    | .ok r _ => .ok r e
    | .err x _ => .err x e
    | .bad => .bad)
  | .mk c f as, env => .bad
  | .mut0 m p, env => (match pth Δ p env with
    | some (r, l) => (match look env r with
      | some t => (match (getL t l).bind lst1 with
        | some xs => (match m0op m xs with
          | some (ys, d) => .ok d (env.set r (setL (.nd (.lst true) ys) t l))
          | none => .bad)
        | none => .bad)
      | none => .bad)
    | none => .bad)
  | .mut1 m p a, env => if isVar p || !ef a then (match pth Δ p env with
    | some (r, l) => (match look env r with
      | some t => (match (getL t l).bind lst1 with
        | some _ => (ev Δ a env).bind fun x env => (match own a x with
          | some x => (match look env r with
            | some t => (match (getL t l).bind lst1 with
              | some xs => (match m1op m xs x with
                | some (ys, d) => .ok d (env.set r (setL (.nd (.lst true) ys) t l))
                | none => .bad)
              | none => .bad)
            | none => .bad)
          | none => .bad)
        | none => .bad)
      | none => .bad)
    | none => .bad) else .bad
  | .ins p i a, env => .bad
  | .comp ow t it elt, env => (evi Δ it env).bind fun ds e1 => if holesE e1 ow then
      loopC (fun d env => (match asgT Δ t d env with
        | some e2 => (ev Δ elt e2).bind fun x e3 => (match own elt x with
          | some x => .ok (some x) (wipeE e3 ow)
          | none => .bad)
        | none => .bad)) (stay (srcs it) e1) ds [] e1 else .bad
  | .compI ow t it c elt, env => (evi Δ it env).bind fun ds e1 => if holesE e1 ow then
      loopC (fun d env => (match asgT Δ t d env with
        | some e2 => (ev Δ c e2).bind fun b e3 => (match b with
          | .bl true => (ev Δ elt e3).bind fun x e4 => (match own elt x with
            | some x => .ok (some x) (wipeE e4 ow)
            | none => .bad)
          | .bl false => .ok none (wipeE e3 ow)
          | _ => .bad)
        | none => .bad)) (stay (srcs it) e1) ds [] e1 else .bad
def evs (Δ : Dl) : Es → List D → Res (List D)
  | .nil, env => .ok [] env
  | .cons e es, env => (ev Δ e env).bind fun d e1 => (match own e d with
    | some d => (evs Δ es e1).bind fun ds e2 => .ok (d :: ds) e2
    | none => .bad)
/-- all of them (k: true), any of them (k: false), truths -/
def evn (Δ : Dl) (k : Bool) : Es → List D → Res D
  | .nil, env => .ok (.bl k) env
  | .cons e es, env => (ev Δ e env).bind fun d e1 => (match d with
    | .bl b => if b = k then evn Δ k es e1 else .ok (.bl (!k)) e1
    | _ => .bad)
def eva (Δ : Dl) : As → List D → Res (List (Option D))
  | .nil, env => .ok [] env
  | .ro e r, env => (ev Δ e env).bind fun d e1 => (eva Δ r e1).bind fun ds e2 => (match re e (efr r) d e2 with
    | some d => .ok (some d :: ds) e2
    | none => .bad)
  | .mu p r, env => if isVar p || !efr r then (match pth Δ p env with
    | some (i, l) => (match look env i with
      | some t => (match getL t l with
        | some _ => (eva Δ r env).bind fun ds e2 => .ok (none :: ds) e2
        | none => .bad)
      | none => .bad)
    | none => .bad) else .bad
def pths (Δ : Dl) : As → List D → Option (List (Nat × List Nat))
  | .nil, _ => some []
  | .ro _ r, env => pths Δ r env
  | .mu p r, env => (match pth Δ p env with
    | some q => (match pths Δ r env with
      | some l => some (q :: l)
      | none => none)
    | none => none)
/-- a place: the variable, the way down -/
def pth (Δ : Dl) : E → List D → Option (Nat × List Nat)
  | .var i, env => some (i, [])
  | .idx a i, env => (match pth Δ a env with
    | some (r, l) => (match look env r with
      | some t => (match getL t l with
        | some (.nd k xs) => if ef i then none else (match ev Δ i env with
          | .ok j _ => (match kid k xs.length j with
            | some n => some (r, l ++ [n])
            | none => none)
          | _ => none)
        | _ => none)
      | none => none)
    | none => none)
  | .attr a f, env => (match pth Δ a env with
    | some (r, l) => (match look env r with
      | some t => (match getL t l with
        | some (.nd (.obj _ _ ns) _) => (match posOf f ns with
          | some n => some (r, l ++ [n])
          | none => none)
        | _ => none)
      | none => none)
    | none => none)
  | _, _ => none
def evi (Δ : Dl) : I → List D → Res (List D)
  | .seq a, env => (ev Δ a env).bind fun d e => Res.of (if wkd a d then seqI d else none) e
  | .range1 a, env => (ev Δ a env).bind fun d e => Res.of ((toI d).bind fun j => if small j then some (rangeD 0 j.toNat) else none) e
  | .range2 a b, env => (ev Δ a env).bind fun x e1 => (match x with
    | .int i => (ev Δ b e1).bind fun y e2 => Res.of ((toI y).bind fun j => if small i && small j then some (rangeD i (j - i).toNat) else none) e2
    | _ => .bad)
  | .zip a b, env => if ef b then .bad else (ev Δ a env).bind fun x e1 => (ev Δ b e1).bind fun y e2 => Res.of (if wkd a x && wkd b y then zipS x y else none) e2
  | .enum a, env => (ev Δ a env).bind fun d e => Res.of (if wkd a d then (seqI d).map (idxs 0) else none) e
  | .rev a, env => (ev Δ a env).bind fun d e => Res.of (if wkd a d then (lstI d).map List.reverse else none) e
/-- a target -/
def asgT (Δ : Dl) : T → D → List D → Option (List D)
  | .name i, d, env => if i < env.length then some (env.set i d) else none
  | .tup ts, d, env => (match d with
    | .nd .tup xs => asgTs Δ ts xs env
    | _ => none)
  | .idx p i, d, env => if ef i then none else (match pth Δ p env with
    | some (r, l) => (match look env r with
      | some t => (match (getL t l).bind lst1 with
        | some xs => (match ev Δ i env with
          | .ok j _ => (match (toI j).bind (ixN xs.length) with
            | some n => some (env.set r (setL (.nd (.lst true) (xs.set n d)) t l))
            | none => none)
          | _ => none)
        | none => none)
      | none => none)
    | none => none)
  | .dix p es, d, env => if efs es then none else (match pth Δ p env with
    | some (r, l) => (match look env r with
      | some t => (match (getL t l).bind dct1 with
        | some (ks, xs) => (match evs Δ es env with
          | .ok js _ => (match keysOf js with
            | some q => if imm d && (imms xs && (decide (ks.length < sizeL) && decide (js.length ≤ sizeL))) then some (env.set r (setL (dput ks xs q d) t l)) else none
            | none => none)
          | _ => none)
        | none => none)
      | none => none)
    | none => none)
  | .attr p f, d, env => none
def asgTs (Δ : Dl) : Ts → List D → List D → Option (List D)
  | .nil, [], env => some env
  | .cons t ts, d :: ds, env => (match asgT Δ t d env with
    | some e => asgTs Δ ts ds e
    | none => none)
  | _, _, _ => none
end
def loopF (turn : D → List D → Out) (chk : List D → Bool) : List D → List D → Out
  | [], env => .next env
  | d :: ds, env => (match turn d env with
    | .next e => if chk e then loopF turn chk ds e else .bad
    | .cont e => if chk e then loopF turn chk ds e else .bad
    | .brk e => .next e
    | .ret x e => .ret x e
    | .err x e => .err x e
    | .bad => .bad)
/-- a list, a tuple whose items are owned by it -/
def kM : Kd → Bool
  | .tup => true
  | .lst o => o
  | _ => false
/-- a loop whose turns may change the items, each by the variable x -/
def loopM (turn : D → List D → Out) (x : Nat) (chk : List D → Bool) (fin : List D → List D → Out) : List D → List D → List D → Out
  | [], acc, env => fin acc env
  | d :: ds, acc, env => (match turn d env with
    | .next e => (match look e x with
      | some d' => if chk e then loopM turn x chk fin ds (acc ++ [d']) (e.set x .hole) else .bad
      | none => .bad)
    | .cont e => (match look e x with
      | some d' => if chk e then loopM turn x chk fin ds (acc ++ [d']) (e.set x .hole) else .bad
      | none => .bad)
    | _ => .bad)
def loopW (test : List D → Res D) (body : List D → Out) : Nat → List D → Out
  | 0, _ => .bad
  | n + 1, env => (match test env with
    | .ok (.bl true) e => (match body e with
      | .next e => loopW test body n e
      | .cont e => loopW test body n e
      | .brk e => .next e
      | .ret x e => .ret x e
      | .err x e => .err x e
      | .bad => .bad)
    | .ok (.bl false) e => .next e
    | .err x e => .err x e
    | _ => .bad)
def Res.out (r : Res D) (k : D → List D → Out) : Out := match r with
  | .ok d e => k d e
  | .err x e => .err x e
  | .bad => .bad
def Out.of (o : Option (List D)) : Out := match o with
  | some e => .next e
  | none => .bad
mutual
def exs (Δ : Dl) : S → List D → Out
  | .expr e, env => (ev Δ e env).out fun _ e => .next e
  | .set i e, env => (ev Δ e env).out fun d e1 => (match own e d with
    | some d => if i < e1.length then .next (e1.set i d) else .bad
    | none => .bad)
  | .asg t e, env => (ev Δ e env).out fun d e1 => (match own e d with
    | some d => Out.of (asgT Δ t d e1)
    | none => .bad)
  | .par i j a b, env => (match evs Δ (.cons a (.cons b .nil)) env with
    | .ok [x, y] e2 => if i < e2.length ∧ j < e2.length ∧ i ≠ j then .next ((e2.set i x).set j y) else .bad
    | .err x e => .err x e
    | _ => .bad)
  | .aug i o e, env => (match (look env i).bind toI with
    | some x => (ev Δ e env).out fun y e1 => (match (toI y).bind fun y => iop o x y with
      | some z => if i < e1.length then .next (e1.set i (.int z)) else .bad
      | none => .bad)
    | none => .bad)
  | .augI p i o e, env => if ef i || ef e then .bad else (match pth Δ p env with
    | some (r, l) => (match look env r with
      | some t => (match (getL t l).bind lst1 with
        | some xs => (match ev Δ i env with
          | .ok j _ => (match (toI j).bind (ixN xs.length) with
            | some n => (match xs[n]? with
              | some x => (ev Δ e env).out fun y _ => (match (toI x).bind fun x => (toI y).bind fun y => iop o x y with
                | some z => .next (env.set r (setL (.nd (.lst true) (xs.set n (.int z))) t l))
                | none => .bad)
              | none => .bad)
            | none => .bad)
          | _ => .bad)
        | none => .bad)
      | none => .bad)
    | none => .bad)
  | .iff c a b, env => (ev Δ c env).out fun d e => (match d with
    | .bl true => exss Δ a e
    | .bl false => exss Δ b e
    | _ => .bad)
  | .whl c b, env => loopW (ev Δ c) (exss Δ b) Δ.w env
  | .fo t it b, env => (match evi Δ it env with
    | .ok ds e1 => loopF (fun d env => (match asgT Δ t d env with
        | some e2 => exss Δ b e2
        | none => .bad)) (stay (srcs it) e1) ds e1
    | .err x e => .err x e
    | .bad => .bad)
  | .fom x i b, env => (match look env i with
    | some (.nd k ds) => if kM k && (decide (x < env.length) && decide (x ≠ i)) then loopM (fun d e => exss Δ b (e.set x d)) x (fun e => decide (e[i]? = some .hole)) (fun acc e => .next (e.set i (.nd k acc))) ds [] (env.set i .hole) else .bad
    | _ => .bad)
  | .fot x e b, env => if vw e then .bad else (ev Δ e env).out fun d e1 => (match d with
    | .nd k ds => if kM k && decide (x < e1.length) then loopM (fun d e => exss Δ b (e.set x d)) x (fun _ => true) (fun _ e => .next e) ds [] e1 else .bad
    | _ => .bad)
  | .ret e, env => (ev Δ e env).out fun d e1 => (match own e d with
    | some d => .ret d e1
    | none => .bad)
  | .ret0, env => .ret .non env
  | .pass, env => .next env
  | .doc, env => .next env
  | .brk, env => .brk env
  | .cont, env => .cont env
  | .drop i, env => .next (env.set i .hole)
  | .never, _ => .bad
def exss (Δ : Dl) : Ss → List D → Out
  | .nil, env => .next env
  | .cons s ss, env => (match exs Δ s env with
    | .next e => exss Δ ss e
    | r => r)
end
/-- mu: the parameters that are handed back -/
structure Fn where
  nn : Nat
  mu : List Bool
  body : Ss
def outsOf : List Bool → List D → Option (List D)
  | [], _ => some []
  | true :: ms, d :: env => (match d with
    | .hole => none
    | d => (match outsOf ms env with
      | some l => some (d :: l)
      | none => none))
  | false :: ms, _ :: env => outsOf ms env
  | _ :: _, [] => none
def runF (Δ : Dl) (f : Fn) (ds : List D) : Fo := if ds.length = f.mu.length then (match exss Δ f.body (ds ++ List.replicate (f.nn - f.mu.length) .hole) with
  | .next e => (match outsOf f.mu e with
    | some l => .ok .non l
    | none => .bad)
  | .ret d e => (match outsOf f.mu e with
    | some l => .ok d l
    | none => .bad)
  | .err x e => (match outsOf f.mu e with
    | some l => .err x l
    | none => .bad)
  | _ => .bad) else .bad
def dl (P : List Fn) (w : Nat) : Nat → Dl
  | 0 => ⟨fun _ _ => .bad, w⟩
  | n + 1 => ⟨fun f ds => (match P[f]? with
    | some g => runF (dl P w n) g ds
    | none => .bad), w⟩
end Vi

set_option Elab.async false
set_option linter.all false
set_option maxRecDepth 100000
set_option maxHeartbeats 2000000
/-! Vi3: the state that is realised, steps, operands. -/
namespace Vi
open PySem L2
def varOf : E → Option Nat
  | .var i => some i
  | _ => none
def Grow (H H' : Hp) : Prop := ∀ a o, H a = some o → H' a = some o
theorem Grow.refl {H : Hp} : Grow H H := fun _ _ h => h
theorem Grow.trans {H H1 H2 : Hp} (a : Grow H H1) (b : Grow H1 H2) : Grow H H2 := fun _ _ h => b _ _ (a _ _ h)
theorem Grow.upd {H : Hp} {p : Addr} {o : HO} (h : H p = none) : Grow H (L2.upd H p o) := fun a u e => by
  rw [upd_ne (ne_of_none e h)]; exact e
section
variable (K : PySem.W.Frag) (cl : Nat → Addr)
structure GE (H : Hp) (env : List D) (σ : St) (fe se : Nat → List Addr) : Prop where
  len : env.length = σ.length
  slot : ∀ i d, env[i]? = some d → (d = .hole ∧ fe i = [] ∧ se i = []) ∨ ∃ v, σ[i]? = some (some v) ∧ R K cl H d v (fe i) (se i)
  out : ∀ i, env.length ≤ i → fe i = [] ∧ se i = []
  nd : ∀ i, (fe i).Nodup
  dj : ∀ i j a, i ≠ j → a ∈ fe i → a ∉ fe j
  ds : ∀ i j a, a ∈ fe i → a ∉ se j
/-- a value beside the variables -/
structure Ext (fe se : Nat → List Addr) (f s : List Addr) : Prop where
  nd : f.Nodup
  fs : ∀ a, a ∈ f → a ∉ s
  fx : ∀ a i, a ∈ f → a ∉ fe i ∧ a ∉ se i
  sx : ∀ a i, a ∈ s → a ∉ fe i
structure Sp0 (H : Hp) (fe se : Nat → List Addr) (H' : Hp) (fe' se' : Nat → List Addr) : Prop where
  keep : ∀ a o, H a = some o → (∀ i, a ∉ fe i) ∨ immo o → H' a = some o
  eo : ∀ i a, a ∈ fe' i → (∃ j, a ∈ fe j) ∨ H a = none
  es : ∀ i a, a ∈ se' i → (∃ j, a ∈ fe j ∨ a ∈ se j) ∨ H a = none
/-- nothing but new things -/
structure Pur (env : List D) (H : Hp) (fe se : Nat → List Addr) (env' : List D) (H' : Hp) (fe' se' : Nat → List Addr) : Prop where
  pe : env' = env
  pf : fe' = fe
  ps : se' = se
  grow : Grow H H'
structure Fi (w p : Bool) (r : Nat) (x : Option Nat) (env : List D) (σ : St) (H : Hp) (fe se : Nat → List Addr) (d : D) (env' : List D) (v : V) (H' : Hp) (f s : List Addr) (fe' se' : Nat → List Addr) : Prop where
  ge : GE K cl H' env' σ fe' se'
  rv : R K cl H' d v f s
  st : Sp0 H fe se H' fe' se'
  vo : ∀ a, a ∈ f → (∃ j, a ∈ fe j) ∨ H a = none
  vs : ∀ a, a ∈ s → (∃ j, a ∈ fe j ∨ a ∈ se j) ∨ H a = none
  ext : w = false → Ext fe' se' f s
  view : w = true → (∀ a, a ∈ f → a ∈ fe' r) ∧ ∀ a, a ∈ s → a ∈ se' r
  pure : p = false → Pur env H fe se env' H' fe' se'
  vr : ∀ i, x = some i → σ[i]? = some (some v)
/-- an exception in the air -/
def XR (H : Hp) (x : Ex) (cls : Value) (dd : Option Addr) : Prop := cls = .ref (cl x.c) ∧ (match x.x with
  | none => dd = none
  | some i => ∃ a, dd = some a ∧ H a = some (.xd [(("at" : Str), .int i)]))
def PostX (W : WX) (x : Ex) (env' : List D) (σ : St) (H : Hp) (fe se : Nat → List Addr) : Prop :=
  ∀ cls dd H' fe' se', XR cl H' x cls dd → GE K cl H' env' σ fe' se' → Sp0 H fe se H' fe' se' → W cls dd σ H'
def PostE (W : WX) (w p : Bool) (r : Nat) (x : Option Nat) (res : Res D) (env : List D) (σ : St) (H : Hp) (fe se : Nat → List Addr) (Q : VK) : Prop := match res with
  | .ok d env' => ∀ v H' f s fe' se', Fi K cl w p r x env σ H fe se d env' v H' f s fe' se' → Q v H'
  | .err x env' => PostX K cl W x env' σ H fe se
  | .bad => False
def tE (Δ : Dl) (W : WX) (e : E) : TE := fun σ H Q => ∃ env fe se, GE K cl H env σ fe se ∧ PostE K cl W (vw e) (ef e) (rt e) (varOf e) (ev Δ e env) env σ H fe se Q
end
section
variable {K : PySem.W.Frag} {cl : Nat → Addr} {W : WX} {Δ : Dl} {H H' H1 H2 H3 : Hp} {env env' env1 env2 : List D} {σ : St} {fe se fe' se' fe1 se1 fe2 se2 : Nat → List Addr} {Q : VK}
theorem R.grow {d : D} {v : V} {f s : List Addr} (h : R K cl H d v f s) (g : Grow H H') : R K cl H' d v f s := R.keep d h fun b o e _ => g b o e
theorem Rs.grow {d : List D} {v : List V} {f s : List Addr} (h : Rs K cl H d v f s) (g : Grow H H') : Rs K cl H' d v f s := Rs.keep d h fun b o e _ => g b o e
theorem GE.grow (h : GE K cl H env σ fe se) (g : Grow H H') : GE K cl H' env σ fe se :=
  ⟨h.len, fun i d e => (h.slot i d e).imp id fun ⟨v, a, b⟩ => ⟨v, a, b.grow g⟩, h.out, h.nd, h.dj, h.ds⟩
theorem GE.live (h : GE K cl H env σ fe se) {i : Nat} {a : Addr} (ha : a ∈ fe i ∨ a ∈ se i) : ∃ o, H a = some o := by
  by_cases hi : i < env.length
  · rcases h.slot i env[i] (by simp [hi]) with ⟨_, h1, h2⟩ | ⟨v, _, r⟩
    · rw [h1, h2] at ha; rcases ha with z | z <;> cases z
    · exact R.live _ r a ha
  · obtain ⟨h1, h2⟩ := h.out i (Nat.le_of_not_lt hi)
    rw [h1, h2] at ha; rcases ha with z | z <;> cases z
theorem Sp0.refl : Sp0 H fe se H fe se := ⟨fun _ _ h _ => h, fun i a h => .inl ⟨i, h⟩, fun i a h => .inl ⟨i, .inr h⟩⟩
theorem Sp0.trans (a : Sp0 H fe se H1 fe1 se1) (b : Sp0 H1 fe1 se1 H2 fe2 se2) (hl : ∀ i x, x ∈ fe i → ∃ o, H x = some o) : Sp0 H fe se H2 fe2 se2 := by
  have back : ∀ x o, H x = some o → (∀ i, x ∉ fe i) → ∀ i, x ∉ fe1 i := fun x o e n i hx => by
    rcases a.eo i x hx with ⟨j, z⟩ | z
    · exact n j z
    · rw [e] at z; cases z
  have fresh : ∀ x, H1 x = none → (∃ j, x ∈ fe j) ∨ H x = none := fun x e => by
    cases q : H x with
    | none => exact .inr rfl
    | some o =>
      refine .inl (Classical.byContradiction fun n => ?_)
      rw [a.keep x o q (.inl fun i hi => n ⟨i, hi⟩)] at e; cases e
  refine ⟨fun x o e h => ?_, fun i x hx => ?_, fun i x hx => ?_⟩
  · refine b.keep x o (a.keep x o e h) (h.imp (fun n => back x o e n) id)
  · rcases b.eo i x hx with ⟨j, z⟩ | z
    · exact a.eo j x z
    · exact fresh x z
  · rcases b.es i x hx with ⟨j, z | z⟩ | z
    · rcases a.eo j x z with ⟨k, q⟩ | q
      · exact .inl ⟨k, .inl q⟩
      · exact .inr q
    · exact a.es j x z
    · exact (fresh x z).imp (fun ⟨j, q⟩ => ⟨j, .inl q⟩) id
/-- where something stands that was new behind a step -/
theorem Sp0.fresh (a : Sp0 H fe se H1 fe1 se1) {x : Addr} (e : H1 x = none) : (∃ j, x ∈ fe j) ∨ H x = none := by
  cases q : H x with
  | none => exact .inr rfl
  | some o =>
    refine .inl (Classical.byContradiction fun n => ?_)
    rw [a.keep x o q (.inl fun i hi => n ⟨i, hi⟩)] at e; cases e
theorem Sp0.grow (a : Sp0 H fe se H1 fe1 se1) (g : Grow H1 H2) : Sp0 H fe se H2 fe1 se1 := ⟨fun x o e h => g _ _ (a.keep x o e h), a.eo, a.es⟩
/-- a value beside the variables stays, whatever they do -/
theorem Ext.stays {d : D} {v : V} {f s : List Addr} (g : GE K cl H1 env1 σ fe1 se1) (r : R K cl H1 d v f s) (x : Ext fe1 se1 f s) (st : Sp0 H1 fe1 se1 H2 fe2 se2) : R K cl H2 d v f s ∧ Ext fe2 se2 f s := by
  refine ⟨R.keep d r fun b o e h => st.keep b o e ?_, x.nd, x.fs, fun a i ha => ⟨fun z => ?_, fun z => ?_⟩, fun a i ha z => ?_⟩
  · rcases h with h | h | h
    · exact .inl fun i => (x.fx b i h).1
    · exact .inl fun i => x.sx b i h
    · exact .inr h
  · obtain ⟨o, e⟩ := R.live d r a (.inl ha)
    rcases st.eo i a z with ⟨j, q⟩ | q
    · exact (x.fx a j ha).1 q
    · rw [e] at q; cases q
  · obtain ⟨o, e⟩ := R.live d r a (.inl ha)
    rcases st.es i a z with ⟨j, q | q⟩ | q
    · exact (x.fx a j ha).1 q
    · exact (x.fx a j ha).2 q
    · rw [e] at q; cases q
  · obtain ⟨o, e⟩ := R.live d r a (.inr ha)
    rcases st.eo i a z with ⟨j, q⟩ | q
    · exact x.sx a j ha q
    · rw [e] at q; cases q
/-- a seen value that is frozen is beside the variables -/
theorem Fi.still {w p : Bool} {r : Nat} {x : Option Nat} {d : D} {v : V} {f s : List Addr} (F : Fi K cl w p r x env σ H fe se d env' v H' f s fe' se') (hi : w = true → imm d = true) : Ext fe' se' f s := by
  cases w with
  | false => exact F.ext rfl
  | true =>
    have e := R.imm d F.rv (hi rfl)
    subst e
    exact ⟨List.nodup_nil, fun a ha => (nomatch ha), fun a i ha => (nomatch ha), fun a i ha z => F.ge.ds i r a z ((F.view rfl).2 a ha)⟩
theorem Fi.noS {w p : Bool} {r : Nat} {x : Option Nat} {d : D} {v : V} {f s : List Addr} (F : Fi K cl w p r x env σ H fe se d env' v H' f s fe' se') : ∀ a i, a ∈ s → a ∉ fe' i := fun a i ha z => by
  cases w with
  | false => exact (F.ext rfl).sx a i ha z
  | true => exact F.ge.ds i r a z ((F.view rfl).2 a ha)
/-- an operand behind the later ones -/
structure Opd (H : Hp) (fe se : Nat → List Addr) (H2 : Hp) (fe2 : Nat → List Addr) (d : D) (v : V) (f s : List Addr) : Prop where
  rv : R K cl H2 d v f s
  org : ∀ a, a ∈ s → (∃ j, a ∈ fe j ∨ a ∈ se j) ∨ H a = none
  no : ∀ a i, a ∈ s → a ∉ fe2 i
theorem look_some {i : Nat} {d : D} (h : look env i = some d) : env[i]? = some d ∧ d ≠ .hole := by
  unfold look at h
  split at h
  · cases h
  · rename_i d0 q e
    cases h
    exact ⟨e, fun z => q z⟩
  · cases h
theorem GE.var (g : GE K cl H env σ fe se) {i : Nat} {d : D} (h : look env i = some d) : ∃ v, σ[i]? = some (some v) ∧ R K cl H d v (fe i) (se i) := by
  obtain ⟨e, n⟩ := look_some h
  exact (g.slot i d e).elim (fun z => absurd z.1 n) id
/-- the operand a, whose value was d at v, behind a step -/
theorem opd {a : E} {p p2 : Bool} {d d' : D} {v : V} {f s : List Addr} (F : Fi K cl (vw a) p (rt a) (varOf a) env σ H fe se d env1 v H1 f s fe1 se1)
    (g2 : GE K cl H2 env2 σ fe2 se2) (st : Sp0 H1 fe1 se1 H2 fe2 se2) (pu : p2 = false → Pur env1 H1 fe1 se1 env2 H2 fe2 se2) (e : re a p2 d env2 = some d') (hl : ∀ i x, x ∈ fe i → ∃ o, H x = some o) :
    ∃ f' s', Opd (K := K) (cl := cl) H fe se H2 fe2 d' v f' s' := by
  unfold re at e
  by_cases hc : (vw a && p2) = true
  · rw [if_pos hc] at e
    obtain ⟨h1, h2⟩ := Bool.and_eq_true_iff.mp hc
    split at e
    · rename_i i
      obtain ⟨v', e1, r1⟩ := g2.var e
      rw [F.vr i rfl] at e1; cases e1
      exact ⟨_, _, r1, fun x hx => (F.st.trans st hl).es i x hx, fun x j hx z => g2.ds j i x z hx⟩
    · split at e
      · rename_i hi
        cases e
        have x := F.still (fun _ => hi)
        obtain ⟨r1, x1⟩ := x.stays F.ge F.rv st
        exact ⟨f, s, r1, F.vs, x1.sx⟩
      · cases e
  · rw [if_neg hc] at e
    cases e
    cases hw : vw a with
    | false =>
      obtain ⟨r1, x1⟩ := (F.ext hw).stays F.ge F.rv st
      exact ⟨f, s, r1, F.vs, x1.sx⟩
    | true =>
      have h2 : p2 = false := by
        rw [hw] at hc; simpa using hc
      obtain ⟨rfl, rfl, rfl, gr⟩ := pu h2
      exact ⟨f, s, F.rv.grow gr, F.vs, fun x i hx z => F.ge.ds i (rt a) x z ((F.view hw).2 x hx)⟩
/-- run on -/
theorem bindE {res : Res D} {k : D → List D → Res D} {w p w1 p1 : Bool} {r r1 : Nat} {x x1 : Option Nat} {N : VK} (g : GE K cl H env σ fe se) (st : Sp0 H fe se H1 fe1 se1) (h : PostE K cl W w p r x (res.bind k) env σ H fe se Q)
    (hk : ∀ d env2 v H2 f s fe2 se2, res = .ok d env2 → Fi K cl w1 p1 r1 x1 env1 σ H1 fe1 se1 d env2 v H2 f s fe2 se2 → PostE K cl W w p r x (k d env2) env σ H fe se Q → N v H2) :
    PostE K cl W w1 p1 r1 x1 res env1 σ H1 fe1 se1 N := by
  cases res with
  | ok d e => exact fun v H' f s fe' se' F => hk d e v H' f s fe' se' rfl F h
  | err _ e => exact fun cls dd H' fe' se' a b c => h cls dd H' fe' se' a b (st.trans c fun i x hx => g.live (.inl hx))
  | bad => exact h
/-- what an operation gives: frozen things of its operands, new ones -/
def PO (H : Hp) (sP : Addr → Prop) (d : D) (Q : VK) : Prop := ∀ v H' f s, Grow H H' → R K cl H' d v f s → f.Nodup → (∀ a, a ∈ f → H a = none) → (∀ a, a ∈ s → sP a) → Q v H'
theorem fin_prim {p : Bool} {r : Nat} {d : D} (g : GE K cl H env σ fe se) (g2 : GE K cl H2 env2 σ fe2 se2) (st : Sp0 H fe se H2 fe2 se2) (pu : p = false → Pur env H fe se env2 H2 fe2 se2) {sP : Addr → Prop}
    (h1 : ∀ a, sP a → ∃ o, H2 a = some o) (h2 : ∀ a, sP a → (∃ j, a ∈ fe j ∨ a ∈ se j) ∨ H a = none) (h3 : ∀ a i, sP a → a ∉ fe2 i)
    (h : PostE K cl W false p r none (.ok d env2) env σ H fe se Q) : PO (K := K) (cl := cl) H2 sP d Q := fun v H' f s gr rv nd fr sp => by
  refine h v H' f s fe2 se2 ⟨g2.grow gr, rv, st.grow gr, fun a ha => st.fresh (fr a ha), fun a ha => h2 a (sp a ha), fun _ => ⟨nd, fun a ha hs => ?_, fun a i ha => ⟨fun z => ?_, fun z => ?_⟩, fun a i ha => h3 a i (sp a ha)⟩, fun z => (nomatch z), fun hp => ?_, fun _ z => (nomatch z)⟩
  · obtain ⟨o, e⟩ := h1 a (sp a hs)
    rw [fr a ha] at e; cases e
  · obtain ⟨o, e⟩ := g2.live (.inl z)
    rw [fr a ha] at e; cases e
  · obtain ⟨o, e⟩ := g2.live (.inr z)
    rw [fr a ha] at e; cases e
  · obtain ⟨a, b, c, gg⟩ := pu hp
    exact ⟨a, b, c, gg.trans gr⟩
theorem Res.of_post {w p : Bool} {r : Nat} {x : Option Nat} {o : Option D} (h : PostE K cl W w p r x (Res.of o env2) env σ H fe se Q) : ∃ d, o = some d ∧ PostE K cl W w p r x (.ok d env2) env σ H fe se Q := by
  cases o with
  | none => exact h.elim
  | some d => exact ⟨d, rfl, h⟩
theorem Pur.trans (a : Pur env H fe se env1 H1 fe1 se1) (b : Pur env1 H1 fe1 se1 env2 H2 fe2 se2) : Pur env H fe se env2 H2 fe2 se2 :=
  ⟨b.pe.trans a.pe, b.pf.trans a.pf, b.ps.trans a.ps, a.grow.trans b.grow⟩
/-- two operands -/
theorem two {a b : E} {G : D → D → Option D} {p : Bool} {r : Nat} {N : V → V → Hp → Prop} (hp : p = (ef a || ef b)) (g : GE K cl H env σ fe se)
    (h : PostE K cl W false p r none ((ev Δ a env).bind fun x e1 => (ev Δ b e1).bind fun y e2 => Res.of ((re a (ef b) x e2).bind fun x => G x y) e2) env σ H fe se Q)
    (hk : ∀ d1 d2 v1 v2 H2 f1 s1 f2 s2 d, R K cl H2 d1 v1 f1 s1 → R K cl H2 d2 v2 f2 s2 → G d1 d2 = some d → PO (K := K) (cl := cl) H2 (fun a => a ∈ s1 ∨ a ∈ s2) d Q → N v1 v2 H2) :
    tE K cl Δ W a σ H fun v1 H1 => tE K cl Δ W b σ H1 fun v2 H2 => N v1 v2 H2 := by
  have hl : ∀ i x, x ∈ fe i → ∃ o, H x = some o := fun i x hx => g.live (.inl hx)
  refine ⟨env, fe, se, g, bindE g Sp0.refl h fun d1 env1 v1 H1 f1 s1 fe1 se1 e1 F1 h1 => ?_⟩
  refine ⟨env1, fe1, se1, F1.ge, bindE g F1.st h1 fun d2 env2 v2 H2 f2 s2 fe2 se2 e2 F2 h2 => ?_⟩
  obtain ⟨d, ed, h3⟩ := Res.of_post h2
  obtain ⟨d1', e3, ed⟩ := Option.bind_eq_some_iff.mp ed
  have st := F1.st.trans F2.st hl
  obtain ⟨f1', s1', o1⟩ := opd F1 F2.ge F2.st F2.pure e3 hl
  have org2 : ∀ x, x ∈ s2 → (∃ j, x ∈ fe j ∨ x ∈ se j) ∨ H x = none := fun x hx => by
    rcases F2.vs x hx with ⟨j, z | z⟩ | z
    · exact (F1.st.eo j x z).imp (fun ⟨k, q⟩ => ⟨k, .inl q⟩) id
    · exact F1.st.es j x z
    · exact (F1.st.fresh z).imp (fun ⟨k, q⟩ => ⟨k, .inl q⟩) id
  refine hk d1' d2 v1 v2 H2 f1' s1' f2 s2 d o1.rv F2.rv ed (fin_prim g F2.ge st (fun z => ?_) (fun x hx => ?_) (fun x hx => ?_) (fun x i hx => ?_) h3)
  · rw [hp] at z
    obtain ⟨z1, z2⟩ := Bool.or_eq_false_iff.mp z
    exact (F1.pure z1).trans (F2.pure z2)
  · exact hx.elim (fun z => R.live _ o1.rv x (.inr z)) fun z => R.live _ F2.rv x (.inr z)
  · exact hx.elim (o1.org x) (org2 x)
  · exact hx.elim (o1.no x i) (F2.noS x i)
/-- one operand -/
theorem one {a : E} {G : D → Option D} {p : Bool} {r : Nat} {N : V → Hp → Prop} (hp : p = ef a) (g : GE K cl H env σ fe se)
    (h : PostE K cl W false p r none ((ev Δ a env).bind fun x e1 => Res.of (G x) e1) env σ H fe se Q)
    (hk : ∀ d1 v1 H2 f1 s1 d, R K cl H2 d1 v1 f1 s1 → G d1 = some d → PO (K := K) (cl := cl) H2 (fun a => a ∈ s1) d Q → N v1 H2) :
    tE K cl Δ W a σ H fun v1 H1 => N v1 H1 := by
  refine ⟨env, fe, se, g, bindE g Sp0.refl h fun d1 env1 v1 H1 f1 s1 fe1 se1 e1 F1 h1 => ?_⟩
  obtain ⟨d, ed, h3⟩ := Res.of_post h1
  refine hk d1 v1 H1 f1 s1 d F1.rv ed (fin_prim g F1.ge F1.st (fun z => ?_) (fun x hx => ?_) (fun x hx => ?_) (fun x i hx => ?_) h3)
  · rw [hp] at z; exact F1.pure z
  · exact R.live _ F1.rv x (.inr hx)
  · exact F1.vs x hx
  · exact F1.noS x i hx
end
end Vi

set_option Elab.async false
set_option linter.all false
set_option maxRecDepth 100000
set_option maxHeartbeats 2000000
/-! Vi4: rules of the hand layer that it lacks (frozen lists, empty tuples, whole slices); operations. -/
namespace Vi
open PySem PySem.Spec PyProof.Rows L2
section
variable {X : Cx}
def rCatL (K : PySem.W.Frag) : R2 := fun x y H Q => ∃ l b xs zs, x = .ref l ∧ y = .ref b ∧ SqL K H l xs ∧ SqL K H b zs ∧ xs.length + zs.length ≤ sizeLine ∧ ∀ p, H p = none → Q (.ref p) (upd H p (.lst (xs ++ zs)))
theorem op_catL : OpR X (binaryOp .Add) (rCatL X.K) := by
  intro pins s σ H x y v u Q I rx ry h
  obtain ⟨l, b, xs, zs, rfl, rfl, hH, hB, hz, q⟩ := h
  cases rx
  cases ry
  obtain ⟨its, r, ⟨⟨cls, dd, data, sl⟩, n, ho, hc, _, hd⟩, _⟩ := I.list hH
  obtain ⟨its2, r2, ⟨⟨cls2, dd2, data2, sl2⟩, n2, ho2, hc2, _, hd2⟩, _⟩ := I.list hB
  simp only at hc hd hc2 hd2
  subst hc hd hc2 hd2
  have hl := r.length
  have hl2 := r2.length
  have e : its.toArray ++ its2.toArray = (its ++ its2).toArray := by simp
  refine concat_meets ⟨_, ho, rfl⟩ ⟨_, ho2, rfl⟩ noFill_list_add seq_list_add PySem.F.slot_list_add PySem.F.entry_list_add (PySem.F.args_list_add_2 _ _)
    (list_addW l b its.toArray its2.toArray n n2 dd dd2 sl sl2 (by rw [List.size_toArray, List.size_toArray]; omega)) ⟨ho, ho2, ?_⟩
  rw [e]
  exact ⟨.ref _, _, I.lnew (t' := s.toks) (r.append r2) (by rw [List.length_append]; omega), rfl, q _ I.fresh⟩
/-- t + u of tuples, any of them empty -/
def rCatU (K : PySem.W.Frag) : R2 := fun x y H Q => ∃ a b xs ys, x = .ref a ∧ y = .ref b ∧ SqT K H a xs ∧ SqT K H b ys ∧ xs.length + ys.length ≤ sizeLine ∧
  (xs = [] → Q (.ref b) H) ∧ (xs ≠ [] → ys = [] → Q (.ref a) H) ∧ (xs ≠ [] → ys ≠ [] → ∀ p, H p = none → Q (.ref p) (upd H p (.tup (xs ++ ys))))
theorem op_catU : OpR X (binaryOp .Add) (rCatU X.K) := by
  intro pins s σ H x y v u Q I rx ry h
  obtain ⟨a, b, xs, ys, ex, ey, ha, hb, hz, q0, q1, q2⟩ := h
  by_cases hx : xs = []
  · subst ex ey
    cases rx
    cases ry
    subst hx
    obtain ⟨its, r1, ⟨⟨cls, dd, data, sl⟩, ho, hc, n, hd⟩, _⟩ := I.tuple ha
    obtain ⟨its2, r2, ⟨⟨cls2, dd2, data2, sl2⟩, ho2, hc2, n2, hd2⟩, _⟩ := I.tuple hb
    simp only at hc hd hc2 hd2
    subst hc hd hc2 hd2
    cases r1
    exact concat_meets ⟨_, ho, rfl⟩ ⟨_, ho2, rfl⟩ noFill_tuple_add seq_tuple_add PySem.F.slot_tuple_add PySem.F.entry_tuple_add (PySem.F.args_tuple_add_2 _ _)
      (tuple_addW0 a b _ its2.toArray n n2 dd dd2 sl sl2 (by simp)) ⟨ho, ho2, ⟨.ref b, H, I, rfl, q0 rfl⟩⟩
  · exact op_catT pins s σ H x y v u Q I rx ry ⟨a, b, xs, ys, ex, ey, ha, hb, hx, hz, q1 hx, q2 hx⟩
/-- a list times an int, a frozen one too -/
def rRepL (K : PySem.W.Frag) : R2 := fun x y H Q => ∃ l k xs, x = .ref l ∧ y = .int k ∧ SqL K H l xs ∧ -(2 ^ 63) ≤ k ∧ k < 2 ^ 63 ∧ xs.length * k.toNat ≤ sizeLine ∧
  ∀ p, H p = none → Q (.ref p) (upd H p (.lst (List.replicate k.toNat xs).flatten))
/-- t[lo:hi] of a tuple: the whole of it is t itself -/
def rSlU (K : PySem.W.Frag) : V → Option Int → Option Int → Hp → VK → Prop := fun x lo hi H Q => ∃ a xs, x = .ref a ∧ SqT K H a xs ∧
  (HT.sIx xs.length 0 lo = 0 ∧ HT.sIx xs.length xs.length hi = xs.length → Q (.ref a) H) ∧
  (¬ (HT.sIx xs.length 0 lo = 0 ∧ HT.sIx xs.length xs.length hi = xs.length) → ∀ p, H p = none → Q (.ref p) (upd H p (.tup (cutV xs lo hi))))
theorem getItem_tuple_all {prog : Program} {w : World} {A : Around} {E : Value → Shared → Prop} {s : Shared} {t sl : Addr} {items : Array Value} {vl vu : Value} {lo hi : Option Int} {Q : Value → Shared → Prop} (ht : IsTup s.heap t items) (hs : s.heap.IsSliceOf sl vl vu .none) (pl : IsPart vl lo) (pu : IsPart vu hi)
    (hw : HT.sIx items.size 0 lo = 0 ∧ HT.sIx items.size items.size hi = items.size)
    (h : Q (.ref t) s) (hsz : items.size ≤ sizeLine) : wpAny (model prog w) A (getItem (.ref t) (.ref sl)) Q E s := by
  obtain ⟨os, hos, hcs, hds⟩ := id hs
  have hTs : s.TypeIs (.ref sl) "slice" := ⟨os, hos, hcs⟩
  unfold getItem
  try with_reducible refine wpAny_holding ?_
  first | refine wpAny_bind (wpAny_pure ?_) | skip
  refine wpAny_bind (wpAny_sequenceKey ht.typeIs (by decide) ?_)
  refine wpAny_bind (wpAny_callSpecial?_slot (name := Str.ofString "__getitem__") ht.typeIs PyProof.Rows.slot_tuple_getitem
    (wpAny_call_entry PyProof.Rows.slot_tuple_getitem ht.typeIs entry_tuple_getitem ?_ (args_tuple_getitem _ _)))
  show wpAny _ _ (Builtin.Tuple.tupleItemsOf (.ref t) >>= _) _ _ s
  refine wpAny_bind (tupleItemsOf_ ht ?_)
  refine wpAny_bind (wpAny_typeOf hTs ?_)
  rw [if_pos (by decide)]
  refine wpAny_bind (HT.sliceApplied_gen hs pl pu ?_)
  have hno : ((((HT.sIx items.size 0 lo : Nat) : Int) == 0 && (1 : Int) == 1 && (HT.sIx items.size items.size hi - HT.sIx items.size 0 lo) == items.size) = true) := by
    rw [hw.1, hw.2]; simp
  show wpAny _ _ (if (((HT.sIx items.size 0 lo : Nat) : Int) == 0 && (1 : Int) == 1 && (HT.sIx items.size items.size hi - HT.sIx items.size 0 lo) == items.size) = true then _ else _) _ _ s
  rw [if_pos hno]
  refine wpAny_bind ?_
  unfold Builtin.Tuple.tupleIsExact
  refine wpAny_bind (wpAny_typeOf ht.typeIs (wpAny_pure ?_))
  rw [if_pos (by decide)]
  refine wpAny_bind (wpAny_rule (wpAny_pure ⟨_, rfl, wpAny_pure h⟩))
theorem sl_tupU : SlR X (rSlU X.K) := by
  intro pins s σ H x v vl vu lo hi sl Q I rx hs pl pu h
  obtain ⟨a, xs, ex, hx, q0, q1⟩ := h
  by_cases hw : HT.sIx xs.length 0 lo = 0 ∧ HT.sIx xs.length xs.length hi = xs.length
  · subst ex
    cases rx
    obtain ⟨its, r, ht, hz⟩ := I.tuple hx
    have hlen : its.toArray.size = xs.length := by rw [List.size_toArray]; exact r.length.symm
    refine ⟨"tuple", _, PyProof.Rows.slot_tuple_getitem.lookup, ht.typeIs, ?_⟩
    exact getItem_tuple_all ht hs pl pu (by rw [hlen]; exact hw) ⟨.ref a, H, I, rfl, q0 hw⟩ (by rw [hlen]; exact hz)
  · exact sl_tup pins s σ H x v vl vu lo hi sl Q I rx hs pl pu ⟨a, xs, ex, hx, hw, q1 hw⟩
def oper : Bop → Operator
  | .add => .Add
  | .sub => .Sub
  | .mul => .Mult
  | .div => .FloorDiv
  | .mod => .Mod
  | .shl => .LShift
  | .shr => .RShift
  | .band => .BitAnd
def rAddS : R2 := fun x y H Q => ∃ i j, x = .str i ∧ y = .str j ∧ i.length + j.length ≤ sizeLine ∧ Q (.str (i ++ j)) H
def rB (K : PySem.W.Frag) : Bop → R2
  | .add => fun x y H Q => rI0 (fun i j => .int (i + j)) x y H Q ∨ (rAddS x y H Q ∨ (rCatL K x y H Q ∨ rCatU K x y H Q))
  | .sub => rI0 fun i j => .int (i - j)
  | .mul => fun x y H Q => rI CMul (fun i j => .int (i * j)) x y H Q ∨ (rRep x y H Q ∨ ViM.rRepU K x y H Q)
  | .div => rI CDivW fun i j => .int (i / j)
  | .mod => rI (fun _ j => 0 < j) fun i j => .int (i % j)
  | .shl => rI CPow fun i j => .int (i * 2 ^ j.toNat)
  | .shr => rI (fun _ j => 0 ≤ j) fun i j => .int (i / 2 ^ j.toNat)
  | .band => rI0 fun i j => .int (Builtin.bitAnd i j)
theorem ob : ∀ o : Bop, OpR X (binaryOp (oper o)) (rB X.K o)
  | .add => op_add.or (op_add_str.or (op_catL.or op_catU))
  | .sub => op_sub
  | .mul => op_mul.or (op_rep.or ViM.op_repU)
  | .div => op_fdivW
  | .mod => op_mod
  | .shl => op_shl
  | .shr => op_shr
  | .band => op_and
end
section
variable {K : PySem.W.Frag} {cl : Nat → Addr} {H : Hp} {Q : VK}
theorem sizeL_eq : sizeL = sizeLine := by rw [sizeLine_eq]; rfl
theorem PO.int {sP : Addr → Prop} {i : Int} (h : PO (K := K) (cl := cl) H sP (.int i) Q) : Q (.int i) H := h _ _ _ _ Grow.refl (.int i) List.nodup_nil (fun _ z => nomatch z) (fun _ z => nomatch z)
theorem PO.bl {sP : Addr → Prop} {i : Bool} (h : PO (K := K) (cl := cl) H sP (.bl i) Q) : Q (.bl i) H := h _ _ _ _ Grow.refl (.bl i) List.nodup_nil (fun _ z => nomatch z) (fun _ z => nomatch z)
theorem PO.str {sP : Addr → Prop} {i : Str} (h : PO (K := K) (cl := cl) H sP (.str i) Q) : Q (.str i) H := h _ _ _ _ Grow.refl (.str i) List.nodup_nil (fun _ z => nomatch z) (fun _ z => nomatch z)
/-- a new list of frozen things -/
theorem PO.list {sP : Addr → Prop} {xs : List D} {vs : List V} {s : List Addr} (h : PO (K := K) (cl := cl) H sP (.nd (.lst true) xs) Q) (r : Rs K cl H xs vs [] s) (hs : ∀ a, a ∈ s → sP a) : ∀ p, H p = none → Q (.ref p) (upd H p (.lst vs)) := fun p np =>
  h (.ref p) _ [p] s (Grow.upd np) (.own rfl (by show upd H p (.lst vs) p = _; exact upd_same) (r.grow (Grow.upd np))) (by simp) (fun a ha => by
    have e : a = p := by simpa using ha
    rw [e]; exact np) hs
/-- a new tuple of frozen things -/
theorem PO.tup {sP : Addr → Prop} {xs : List D} {vs : List V} {s : List Addr} (h : PO (K := K) (cl := cl) H sP (.nd .tup xs) Q) (r : Rs K cl H xs vs [] s) (hs : ∀ a, a ∈ s → sP a) : ∀ p, H p = none → Q (.ref p) (upd H p (.tup vs)) := fun p np =>
  h (.ref p) _ [] s (Grow.upd np) (.tup (.inl (.inl upd_same)) (r.grow (Grow.upd np))) List.nodup_nil (fun _ z => nomatch z) hs
/-- the same thing -/
theorem PO.same {sP : Addr → Prop} {d : D} {v : V} {s : List Addr} (h : PO (K := K) (cl := cl) H sP d Q) (r : R K cl H d v [] s) (hs : ∀ a, a ∈ s → sP a) : Q v H :=
  h v H [] s Grow.refl r List.nodup_nil (fun _ z => nomatch z) hs
/-- a list that is read -/
theorem R.lst {o : Bool} {xs : List D} {v : V} {f s : List Addr} (h : R K cl H (.nd (.lst o) xs) v f s) (hi : imms xs = true) : ∃ a vs s', v = .ref a ∧ SqL K H a vs ∧ Rs K cl H xs vs [] s' ∧ ∀ b, b ∈ s' → b ∈ s := by
  cases h with
  | own h0 h1 h2 =>
    have : o = true := by cases o <;> first | rfl | cases h0
    subst this
    have e := Rs.imm _ h2 hi
    subst e
    exact ⟨_, _, _, rfl, .inl (.inl h1), h2, fun _ z => z⟩
  | frz h0 h1 h2 =>
    have : o = false := by cases o <;> first | rfl | cases h0
    subst this
    exact ⟨_, _, _, rfl, .inl h1, h2, fun _ z => List.mem_cons_of_mem _ z⟩
  | kst h0 h1 h2 =>
    refine ⟨_, _, _, rfl, ?_, h2, fun _ z => z⟩
    rcases (show SqL K (fun _ => none) _ _ from h1) with z | z
    · rcases z with z | ⟨_, z⟩ <;> cases z
    · exact .inr z
/-- .. whatever is in it -/
theorem R.lst0 {o : Bool} {xs : List D} {v : V} {f s : List Addr} (h : R K cl H (.nd (.lst o) xs) v f s) : ∃ a vs f' s', v = .ref a ∧ SqL K H a vs ∧ Rs K cl H xs vs f' s' ∧ (∀ b, b ∈ f' → b ∈ f) ∧ (∀ b, b ∈ s' → b ∈ s) ∧ (f.Nodup → f'.Nodup) := by
  cases h with
  | own h0 h1 h2 =>
    have : o = true := by cases o <;> first | rfl | cases h0
    subst this
    exact ⟨_, _, _, _, rfl, .inl (.inl h1), h2, fun _ z => List.mem_cons_of_mem _ z, fun _ z => z, fun z => (List.nodup_cons.mp z).2⟩
  | frz h0 h1 h2 =>
    have : o = false := by cases o <;> first | rfl | cases h0
    subst this
    exact ⟨_, _, _, _, rfl, .inl h1, h2, fun _ z => z, fun _ z => List.mem_cons_of_mem _ z, id⟩
  | kst h0 h1 h2 =>
    refine ⟨_, _, _, _, rfl, ?_, h2, fun _ z => z, fun _ z => z, id⟩
    rcases (show SqL K (fun _ => none) _ _ from h1) with z | z
    · rcases z with z | ⟨_, z⟩ <;> cases z
    · exact .inr z
theorem R.tupl {xs : List D} {v : V} {f s : List Addr} (h : R K cl H (.nd .tup xs) v f s) : ∃ a vs, v = .ref a ∧ SqT K H a vs ∧ Rs K cl H xs vs f s := by
  cases h with
  | tup h1 h2 => exact ⟨_, _, rfl, h1, h2⟩
  | own h0 _ _ => cases h0
  | frz h0 _ _ => cases h0
  | kst h0 _ _ => cases h0
theorem R.int_inv {i : Int} {v : V} {f s : List Addr} (h : R K cl H (.int i) v f s) : v = .int i := by cases h; rfl
theorem R.bl_inv {i : Bool} {v : V} {f s : List Addr} (h : R K cl H (.bl i) v f s) : v = .bl i := by cases h; rfl
theorem R.str_inv {i : Str} {v : V} {f s : List Addr} (h : R K cl H (.str i) v f s) : v = .str i := by cases h; rfl
theorem R.non_inv {v : V} {f s : List Addr} (h : R K cl H .non v f s) : v = .non := by cases h; rfl
theorem Rs.nil_iff {xs : List D} {vs : List V} {f s : List Addr} (h : Rs K cl H xs vs f s) : vs = [] ↔ xs = [] := by
  cases h <;> simp
theorem repl_one {α : Type} (xs : List α) : repl xs (1 : Int).toNat = xs := by
  show xs ++ [] = xs
  rw [List.append_nil]
theorem repl_rep {α : Type} (xs : List α) : ∀ n, repl xs n = (List.replicate n xs).flatten
  | 0 => rfl
  | n + 1 => by show xs ++ repl xs n = _; rw [repl_rep xs n]; rfl
theorem Rs.rep {xs : List D} {vs : List V} {s : List Addr} (h : Rs K cl H xs vs [] s) : ∀ n, ∃ s', Rs K cl H (repl xs n) ((List.replicate n vs).flatten) [] s' ∧ ∀ a, a ∈ s' → a ∈ s
  | 0 => ⟨[], .nil, fun _ z => nomatch z⟩
  | n + 1 => by
    obtain ⟨s', r, q⟩ := Rs.rep h n
    refine ⟨s ++ s', ?_, fun a ha => (List.mem_append.mp ha).elim id (q a)⟩
    exact Rs.append h r
theorem bop_ok {o : Bop} {d1 d2 d : D} {v1 v2 : V} {f1 s1 f2 s2 : List Addr} (r1 : R K cl H d1 v1 f1 s1) (r2 : R K cl H d2 v2 f2 s2) (e : bop o d1 d2 = some d)
    (h : PO (K := K) (cl := cl) H (fun a => a ∈ s1 ∨ a ∈ s2) d Q) : rB K o v1 v2 H Q := by
  unfold bop at e
  split at e
  · cases e; exact .inl ⟨_, _, r1.int_inv, r2.int_inv, h.int⟩
  · split at e
    · rename_i hz
      cases e
      exact .inr (.inl ⟨_, _, r1.str_inv, r2.str_inv, by rw [← sizeL_eq]; exact hz, h.str⟩)
    · cases e
  · split at e
    · split at e
      · rename_i hz
        cases e
        obtain ⟨i1, hz⟩ := Bool.and_eq_true_iff.mp hz
        obtain ⟨i2, hz⟩ := Bool.and_eq_true_iff.mp hz
        have hz := of_decide_eq_true hz
        obtain ⟨a, vs, t1, rfl, q1, w1, m1⟩ := r1.lst i1
        obtain ⟨b, ws, t2, rfl, q2, w2, m2⟩ := r2.lst i2
        refine .inr (.inr (.inl ⟨a, b, vs, ws, rfl, rfl, q1, q2, by rw [← w1.length, ← w2.length, ← sizeL_eq]; exact hz, ?_⟩))
        exact h.list (w1.append w2) fun a ha => (List.mem_append.mp ha).elim (fun z => .inl (m1 a z)) fun z => .inr (m2 a z)
      · cases e
    · split at e
      · rename_i hz
        cases e
        obtain ⟨i1, hz⟩ := Bool.and_eq_true_iff.mp hz
        obtain ⟨i2, hz⟩ := Bool.and_eq_true_iff.mp hz
        have hz := of_decide_eq_true hz
        obtain ⟨a, vs, rfl, q1, w1⟩ := r1.tupl
        obtain ⟨b, ws, rfl, q2, w2⟩ := r2.tupl
        have e1 := Rs.imm _ w1 i1
        have e2 := Rs.imm _ w2 i2
        subst e1 e2
        refine .inr (.inr (.inr ⟨a, b, vs, ws, rfl, rfl, q1, q2, by rw [← w1.length, ← w2.length, ← sizeL_eq]; exact hz, fun z => ?_, fun z1 z2 => ?_, fun _ _ => ?_⟩))
        · have z := w1.nil_iff.mp z
          subst z
          exact h.same r2 fun a ha => .inr ha
        · have z := w2.nil_iff.mp z2
          subst z
          rw [List.append_nil] at h
          exact h.same r1 fun a ha => .inl ha
        · exact h.tup (w1.append w2) fun a ha => List.mem_append.mp ha
      · cases e
    · cases e
  · cases e; exact ⟨_, _, r1.int_inv, r2.int_inv, h.int⟩
  · split at e
    · rename_i hz
      cases e
      exact .inl ⟨_, _, r1.int_inv, r2.int_inv, hz, h.int⟩
    · cases e
  · split at e
    · split at e
      · rename_i hz
        cases e
        obtain ⟨i1, hz⟩ := Bool.and_eq_true_iff.mp hz
        obtain ⟨hz, hl⟩ := Bool.and_eq_true_iff.mp hz
        have hz := of_decide_eq_true hz
        have hl := of_decide_eq_true hl
        cases r1 with
        | own h0 h1 h2 =>
          have e1 := Rs.imm _ h2 i1
          subst e1
          obtain ⟨s', rr, hs⟩ := h2.rep (Int.toNat _)
          exact .inr (.inl ⟨_, _, _, rfl, r2.int_inv, h1, hz.1, hz.2, by rw [← h2.length, ← sizeL_eq]; exact hl, h.list rr fun a ha => .inl (hs a ha)⟩)
        | frz h0 _ _ => cases h0
        | kst h0 _ _ => cases h0
      · cases e
    · split at e
      · rename_i hz
        cases e
        obtain ⟨i1, hz⟩ := Bool.and_eq_true_iff.mp hz
        obtain ⟨hne, hz⟩ := Bool.and_eq_true_iff.mp hz
        obtain ⟨hz, hl⟩ := Bool.and_eq_true_iff.mp hz
        have hz := of_decide_eq_true hz
        have hl := of_decide_eq_true hl
        obtain ⟨a, vs, rfl, q1, w1⟩ := r1.tupl
        have e1 := Rs.imm _ w1 i1
        subst e1
        obtain ⟨s', rr, hs⟩ := w1.rep (Int.toNat _)
        refine .inr (.inr ⟨a, _, vs, rfl, r2.int_inv, q1, fun z => ?_, hz.1, hz.2, by rw [← w1.length]; exact hl, fun z => ?_, fun _ => h.tup rr fun a ha => .inl (hs a ha)⟩)
        · have z := w1.nil_iff.mp z
          rw [z] at hne
          cases hne
        · rw [z, repl_one] at h
          exact h.same r1 fun a ha => .inl ha
      · cases e
    · cases e
  · split at e
    · rename_i hz
      cases e
      refine ⟨_, _, r1.int_inv, r2.int_inv, wide_div (b := 200) hz.1 ?_ (by decide) (by decide), h.int⟩
      have h2 : (1000000000000000000000000000000000000000000000000000000000000 : Nat) < 2 ^ 200 := by decide
      omega
    · cases e
  · split at e
    · rename_i hz
      cases e
      exact ⟨_, _, r1.int_inv, r2.int_inv, hz, h.int⟩
    · cases e
  · split at e
    · rename_i hz
      cases e
      exact ⟨_, _, r1.int_inv, r2.int_inv, ⟨hz.1, hz.2.1, hz.2.2⟩, h.int⟩
    · cases e
  · split at e
    · rename_i hz
      cases e
      exact ⟨_, _, r1.int_inv, r2.int_inv, hz, h.int⟩
    · cases e
  · cases e; exact ⟨_, _, r1.int_inv, r2.int_inv, h.int⟩
  · cases e
end
end Vi

set_option Elab.async false
set_option linter.all false
set_option maxRecDepth 100000
set_option maxHeartbeats 2000000
/-! Vi5: comparisons, built-ins. -/
namespace Vi
open PySem PySem.Spec PyProof.Rows L2
mutual
def py : D → PyData
  | .hole => .none
  | .non => .none
  | .bl b => .bool b
  | .int i => .int i
  | .str x => .str x
  | .nd k xs => (match k with
    | .tup => .tuple (pys xs)
    | _ => .list (pys xs))
def pys : List D → List PyData
  | [] => []
  | d :: ds => py d :: pys ds
end
section
variable {K : PySem.W.Frag} {cl : Nat → Addr} {H : Hp} {Q : VK}
mutual
theorem R.dp : ∀ (n : Nat) (d : D) {v : V} {f s : List Addr}, R K cl H d v f s → okd n d = true → Dp K H v (py d)
  | _, .hole, _, _, _, h, _ => nomatch h
  | _, .non, _, _, _, h, _ => by cases h; exact .non
  | _, .bl _, _, _, _, h, _ => by cases h; exact .bl _
  | _, .int _, _, _, _, h, _ => by cases h; exact .int _
  | _, .str _, _, _, _, h, _ => by cases h; exact .str _
  | 0, .nd _ _, _, _, _, _, e => nomatch e
  | n + 1, .nd k xs, _, _, _, h, e => by
    cases k with
    | tup =>
      obtain ⟨a, vs, rfl, q, w⟩ := h.tupl
      exact .tup q (Rs.dp n xs w e)
    | lst o =>
      obtain ⟨a, vs, _, _, rfl, q, w, _⟩ := h.lst0
      exact .lst q (Rs.dp n xs w e)
    | dK _ _ => cases e
    | dT _ _ => cases e
    | obj _ _ _ => cases e
theorem Rs.dp : ∀ (n : Nat) (ds : List D) {vs : List V} {f s : List Addr}, Rs K cl H ds vs f s → okds n ds = true → DpAll K H vs (pys ds)
  | _, [], _, _, _, h, _ => by cases h; exact .nil
  | n, d :: ds, _, _, _, h, e => by
    have e : (okd n d && okds n ds) = true := e
    obtain ⟨e1, e2⟩ := Bool.and_eq_true_iff.mp e
    cases h with
    | cons h1 h2 => exact .cons (R.dp n d h1 e1) (Rs.dp n ds h2 e2)
end
mutual
theorem okd_lay : ∀ (n : Nat) (d : D), okd n d = true → (py d).canLay0 = true ∧ (py d).depth ≤ n
  | n, .hole, e => by cases n <;> cases e
  | n, .non, e => ⟨rfl, Nat.zero_le _⟩
  | n, .bl _, e => ⟨rfl, Nat.zero_le _⟩
  | n, .int _, e => ⟨rfl, Nat.zero_le _⟩
  | n, .str _, e => ⟨by cases n <;> exact e, Nat.zero_le _⟩
  | 0, .nd _ _, e => nomatch e
  | n + 1, .nd k xs, e => by
    cases k with
    | tup =>
      obtain ⟨h1, h2⟩ := okds_lay n xs e
      exact ⟨h1, Nat.succ_le_succ h2⟩
    | lst o =>
      obtain ⟨h1, h2⟩ := okds_lay n xs e
      exact ⟨h1, Nat.succ_le_succ h2⟩
    | dK _ _ => cases e
    | dT _ _ => cases e
    | obj _ _ _ => cases e
theorem okds_lay : ∀ (n : Nat) (ds : List D), okds n ds = true → PyData.canLayAll0 (pys ds) = true ∧ PyData.depthAll (pys ds) ≤ n
  | _, [], _ => ⟨rfl, Nat.zero_le _⟩
  | n, d :: ds, e => by
    have e : (okd n d && okds n ds) = true := e
    obtain ⟨e1, e2⟩ := Bool.and_eq_true_iff.mp e
    obtain ⟨a1, a2⟩ := okd_lay n d e1
    obtain ⟨b1, b2⟩ := okds_lay n ds e2
    exact ⟨by show (PyData.canLay0 (py d) && PyData.canLayAll0 (pys ds)) = true; rw [a1, b1]; rfl, by show max (py d).depth (PyData.depthAll (pys ds)) ≤ n; omega⟩
end
theorem okd_shaped {d : D} (e : okd 64 d = true) : SeqAt.shaped (py d) = true := by
  obtain ⟨h1, h2⟩ := okd_lay 64 d e
  unfold SeqAt.shaped
  rw [h1, decide_eq_true h2]; rfl
theorem beq_dec {α : Type} [BEq α] [LawfulBEq α] [DecidableEq α] (a b : α) : (a == b) = decide (a = b) := by
  by_cases h : a = b
  · rw [decide_eq_true h]; exact beq_iff_eq.mpr h
  · rw [decide_eq_false h]; exact beq_eq_false_iff_ne.mpr h
mutual
theorem eqv_py : ∀ (n m : Nat) (d e : D), okd n d = true → okd m e = true → PyData.eqv (py d) (py e) = deq d e
  | n, m, .hole, _, h, _ => by cases n <;> cases h
  | n, m, .non, e, _, h => by
    cases e with
    | hole => cases m <;> cases h
    | nd k xs => cases k <;> rfl
    | _ => rfl
  | n, m, .bl a, e, _, h => by
    cases e with
    | hole => cases m <;> cases h
    | nd k xs => cases k <;> rfl
    | _ => rfl
  | n, m, .int a, e, _, h => by
    cases e with
    | hole => cases m <;> cases h
    | nd k xs => cases k <;> rfl
    | int b => exact beq_dec a b
    | _ => rfl
  | n, m, .str a, e, _, h => by
    cases e with
    | hole => cases m <;> cases h
    | nd k xs => cases k <;> rfl
    | str b => exact beq_dec a b
    | _ => rfl
  | 0, m, .nd _ _, _, h, _ => nomatch h
  | n + 1, m, .nd k xs, e, h, h' => by
    cases e with
    | hole => cases m <;> cases h'
    | non => cases k <;> rfl
    | bl _ => cases k <;> rfl
    | int _ => cases k <;> rfl
    | str _ => cases k <;> rfl
    | nd l ys =>
      cases m with
      | zero => cases h'
      | succ m =>
        cases k with
        | tup =>
          cases l with
          | tup => exact eqvs_py n m xs ys h h'
          | lst _ => rfl
          | dK _ _ => cases h'
          | dT _ _ => cases h'
          | obj _ _ _ => cases h'
        | lst _ =>
          cases l with
          | tup => rfl
          | lst _ => exact eqvs_py n m xs ys h h'
          | dK _ _ => cases h'
          | dT _ _ => cases h'
          | obj _ _ _ => cases h'
        | dK _ _ => cases h
        | dT _ _ => cases h
        | obj _ _ _ => cases h
theorem eqvs_py : ∀ (n m : Nat) (ds es : List D), okds n ds = true → okds m es = true → PyData.eqvAll (pys ds) (pys es) = deqs ds es
  | _, _, [], [], _, _ => rfl
  | _, _, [], _ :: _, _, _ => rfl
  | _, _, _ :: _, [], _, _ => rfl
  | n, m, d :: ds, e :: es, h, h' => by
    have h : (okd n d && okds n ds) = true := h
    have h' : (okd m e && okds m es) = true := h'
    obtain ⟨h1, h2⟩ := Bool.and_eq_true_iff.mp h
    obtain ⟨g1, g2⟩ := Bool.and_eq_true_iff.mp h'
    show (PyData.eqv (py d) (py e) && PyData.eqvAll (pys ds) (pys es)) = _
    rw [eqv_py n m d e h1 g1, eqvs_py n m ds es h2 g2]; rfl
end
def vof : D → V
  | .bl b => .bl b
  | .int i => .int i
  | .str x => .str x
  | _ => .non
theorem R.flat {d : D} {v : V} {f s : List Addr} (h : R K cl H d v f s) (e : flat d = true) : v = vof d ∧ flatV v = true := by
  cases h <;> first | exact ⟨rfl, rfl⟩ | cases e
theorem Rs.flat : ∀ {ds : List D} {vs : List V} {f s : List Addr}, Rs K cl H ds vs f s → ds.all flat = true → vs = ds.map vof ∧ vs.all flatV = true
  | [], _, _, _, h, _ => by cases h; exact ⟨rfl, rfl⟩
  | d :: ds, _, _, _, h, e => by
    obtain ⟨e1, e2⟩ := Bool.and_eq_true_iff.mp (show (Vi.flat d && ds.all Vi.flat) = true from e)
    cases h with
    | cons h1 h2 =>
      obtain ⟨a, b⟩ := h1.flat e1
      obtain ⟨c, g⟩ := h2.flat e2
      exact ⟨by rw [a, c]; rfl, by show (flatV _ && _) = true; rw [b]; exact g⟩
theorem eqV_vof {d e : D} (h : flat d = true) (h' : flat e = true) : eqV (vof d) (vof e) = deq d e := by
  cases d <;> first | exact (Bool.false_ne_true h).elim | skip
  all_goals cases e <;> first | exact (Bool.false_ne_true h').elim | rfl | exact beq_dec _ _
theorem inV_vof {a : D} (h : flat a = true) : ∀ {xs : List D}, xs.all flat = true → inV (vof a) (xs.map vof) = xs.any fun y => deq y a
  | [], _ => rfl
  | x :: xs, e => by
    obtain ⟨e1, e2⟩ := Bool.and_eq_true_iff.mp (show (Vi.flat x && xs.all Vi.flat) = true from e)
    show (eqV (vof x) (vof a) || inV (vof a) (xs.map vof)) = (deq x a || xs.any fun y => deq y a)
    rw [eqV_vof e1 h, inV_vof h e2]
theorem Rs.intsOf : ∀ {ds : List D} {l : List Int} {vs : List V} {f s : List Addr}, Rs K cl H ds vs f s → intsOf ds = some l → vs = l.map V.int
  | [], l, _, _, _, h, e => by cases h; cases e; rfl
  | d :: ds, l, _, _, _, h, e => by
    cases h with
    | cons h1 h2 =>
      cases h1 <;> try (cases e)
      rename_i i
      have e : (match Vi.intsOf ds with | some l => some (i :: l) | none => none) = some l := e
      split at e
      · rename_i l' e'
        cases e
        rw [h2.intsOf e']; rfl
      · cases e
theorem Rs.blsOf : ∀ {ds : List D} {l : List Bool} {vs : List V} {f s : List Addr}, Rs K cl H ds vs f s → blsOf ds = some l → vs = l.map V.bl
  | [], l, _, _, _, h, e => by cases h; cases e; rfl
  | d :: ds, l, _, _, _, h, e => by
    cases h with
    | cons h1 h2 =>
      cases h1 <;> try (cases e)
      rename_i i
      have e : (match Vi.blsOf ds with | some l => some (i :: l) | none => none) = some l := e
      split at e
      · rename_i l' e'
        cases e
        rw [h2.blsOf e']; rfl
      · cases e
theorem lexL_eq : ∀ a b : List Int, lexL a b = HT.lexLt a b
  | [], [] => rfl
  | [], _ :: _ => rfl
  | _ :: _, [] => rfl
  | x :: xs, y :: ys => by
    rw [HT.lexLt_cons, ← lexL_eq xs ys]; rfl
end
/-! ### dicts whose keys are tuples -/
section
variable {K : PySem.W.Frag} {cl : Nat → Addr} {H : Hp} {Q : VK}
theorem R.dct {o : Bool} {ks : List (List Key)} {xs : List D} {v : V} {f s : List Addr} (h : R K cl H (.nd (.dT o ks) xs) v f s) : ∃ a vs f' s', v = .ref a ∧ H a = some (.dT (ks.zip vs)) ∧ ks.length = vs.length ∧ Rs K cl H xs vs f' s' ∧ (∀ b, b ∈ f' → b ∈ f) ∧ (∀ b, b ∈ s' → b ∈ s) ∧ (f.Nodup → f'.Nodup) := by
  cases h with
  | own h0 h1 h2 => exact ⟨_, _, _, _, rfl, h1.1, h1.2, h2, fun b hb => List.mem_cons_of_mem _ hb, fun _ z => z, fun z => (List.nodup_cons.mp z).2⟩
  | frz h0 h1 h2 => exact ⟨_, _, _, _, rfl, h1.1, h1.2, h2, fun b hb => (nomatch hb), fun b hb => List.mem_cons_of_mem _ hb, fun z => z⟩
  | kst h0 h1 h2 => exact h1.elim
theorem Rs.keys : ∀ {js : List D} {q : List Key} {vs : List V} {f s : List Addr}, Rs K cl H js vs f s → keysOf js = some q → vs = q.map kV ∧ js = q.map kD ∧ f = [] ∧ s = []
  | [], q, _, _, _, h, e => by cases h; cases e; exact ⟨rfl, rfl, rfl, rfl⟩
  | d :: ds, q, _, _, _, h, e => by
    have e : (match keyOf d with
      | some k => (match keysOf ds with
        | some l => some (k :: l)
        | none => none)
      | none => none) = some q := e
    cases h with
    | cons h1 h2 =>
      split at e
      · rename_i k e1
        split at e
        · rename_i l e2
          cases e
          obtain ⟨a, b, c, d⟩ := h2.keys e2
          subst a b c d
          cases h1 <;> cases e1 <;> exact ⟨rfl, rfl, rfl, rfl⟩
        · cases e
      · cases e
theorem keyQ_some {d : D} {q : List Key} (e : keyQ d = some q) : ∃ js, d = .nd .tup js ∧ keysOf js = some q := by
  unfold keyQ at e
  split at e
  · split at e
    · exact ⟨_, rfl, e⟩
    · cases e
  · cases e
theorem R.key {d : D} {q : List Key} {v : V} {f s : List Addr} (h : R K cl H d v f s) (e : keyQ d = some q) : ∃ b, v = .ref b ∧ SqT K H b (q.map kV) := by
  obtain ⟨js, rfl, e⟩ := keyQ_some e
  obtain ⟨a, vs, rfl, sq, w⟩ := h.tupl
  obtain ⟨rfl, _⟩ := w.keys e
  exact ⟨a, rfl, sq⟩
theorem kHas_val (q : List Key) : ∀ (ks : List (List Key)) (vs : List V), ks.length = vs.length → kHas q ks = (valV (ks.zip vs) q).isSome
  | [], [], _ => rfl
  | [], _ :: _, h => by cases h
  | _ :: _, [], h => by cases h
  | k :: ks, v :: vs, h => by
    show (if k = q then true else kHas q ks) = (valV ((k, v) :: ks.zip vs) q).isSome
    by_cases c : k = q
    · rw [if_pos c, valV_pos (show (k, v).1 = q from c)]; rfl
    · rw [if_neg c, valV_neg (show ¬ (k, v).1 = q from c)]
      exact kHas_val q ks vs (by simpa using h)
theorem kGet_val {q : List Key} : ∀ {ks : List (List Key)} {xs : List D} {vs : List V}, ks.length = vs.length → xs.length = vs.length →
    (∀ d, kGet q ks xs = some d → ∃ (n : Nat) (v : V), xs[n]? = some d ∧ vs[n]? = some v ∧ valV (ks.zip vs) q = some v) ∧ (kGet q ks xs = none → valV (ks.zip vs) q = none)
  | [], [], [], _, _ => ⟨fun _ h => (nomatch h), fun _ => rfl⟩
  | [], _ :: _, _, h1, h2 => by cases h1.symm ▸ h2
  | [], [], _ :: _, h1, _ => by cases h1
  | _ :: _, _, [], h1, _ => by cases h1
  | _ :: _, [], _ :: _, _, h2 => by cases h2
  | k :: ks, x :: xs, v :: vs, h1, h2 => by
    obtain ⟨a, b⟩ := kGet_val (q := q) (ks := ks) (xs := xs) (vs := vs) (by simpa using h1) (by simpa using h2)
    have e : kGet q (k :: ks) (x :: xs) = if k = q then some x else kGet q ks xs := rfl
    rw [e]
    by_cases c : k = q
    · rw [if_pos c]
      refine ⟨fun d h => ?_, fun h => (nomatch h)⟩
      cases h
      exact ⟨0, v, rfl, rfl, valV_pos (show (k, v).1 = q from c)⟩
    · rw [if_neg c]
      have e2 : valV ((k :: ks).zip (v :: vs)) q = valV (ks.zip vs) q := valV_neg (show ¬ (k, v).1 = q from c)
      rw [e2]
      refine ⟨fun d h => ?_, b⟩
      obtain ⟨n, v', q1, q2, q3⟩ := a d h
      exact ⟨n + 1, v', by simpa using q1, by simpa using q2, q3⟩
end
/-! ### comparisons -/
theorem lexAt_shift {e r : Nat → Bool} {z : Bool} : ∀ (k i : Nat), Ob.lexAt e r z (i + 1) k = Ob.lexAt (fun j => e (j + 1)) (fun j => r (j + 1)) z i k
  | 0, _ => rfl
  | k + 1, i => by
    rw [Ob.lexAt_succ, Ob.lexAt_succ, lexAt_shift k (i + 1)]
theorem lexAt_le : ∀ ns ms : List Int, Ob.lexAt (fun j => decide (ns.getD j 0 = ms.getD j 0)) (fun j => decide (ns.getD j 0 ≤ ms.getD j 0)) (decide (ns.length ≤ ms.length)) 0 (min ns.length ms.length) = !lexL ms ns
  | [], ms => by
    rw [show min ([] : List Int).length ms.length = 0 from Nat.zero_min _, Ob.lexAt_zero]
    cases ms <;> rfl
  | x :: xs, [] => by
    rw [show min (x :: xs).length ([] : List Int).length = 0 from Nat.min_zero _, Ob.lexAt_zero]
    rfl
  | x :: xs, y :: ys => by
    have ih := lexAt_le xs ys
    rw [show min (x :: xs).length (y :: ys).length = min xs.length ys.length + 1 by simp only [List.length_cons]; omega, Ob.lexAt_succ, lexAt_shift]
    show (if decide (x = y) = true then Ob.lexAt (fun j => decide (xs.getD j 0 = ys.getD j 0)) (fun j => decide (xs.getD j 0 ≤ ys.getD j 0)) (decide (xs.length + 1 ≤ ys.length + 1)) 0 (min xs.length ys.length) else decide (x ≤ y)) = !(if y = x then lexL ys xs else decide (y < x))
    rw [show decide (xs.length + 1 ≤ ys.length + 1) = decide (xs.length ≤ ys.length) by simp, ih]
    by_cases c : x = y
    · rw [if_pos (decide_eq_true c), if_pos c.symm]
    · rw [if_neg (by simpa using c), if_neg (fun h => c h.symm)]
      by_cases d : x ≤ y
      · rw [decide_eq_true d, decide_eq_false (by omega)]; rfl
      · rw [decide_eq_false d, decide_eq_true (by omega)]; rfl
def coper : Cop → CmpOp
  | .eq => .Eq
  | .ne => .NotEq
  | .lt => .Lt
  | .le => .LtE
  | .gt => .Gt
  | .ge => .GtE
  | .isn => .Is
  | .non => .IsNot
  | .isin => .In
  | .nin => .NotIn
def rC (K : PySem.W.Frag) : Cop → R2
  | .eq => rEqD K
  | .ne => rNeD K
  | .lt => fun x y H Q => rI0 (fun i j => .bl (decide (i < j))) x y H Q ∨ rLtT K x y H Q
  | .le => fun x y H Q => rI0 (fun i j => .bl (decide (i ≤ j))) x y H Q ∨ rLeT K x y H Q
  | .gt => rI0 fun i j => .bl (decide (j < i))
  | .ge => rI0 fun i j => .bl (decide (j ≤ i))
  | .isn => fun x y H Q => (y = .non ∧ Q (.bl (decide (x = .non))) H) ∨ ∃ a b, x = .bl a ∧ y = .bl b ∧ Q (.bl (decide (a = b))) H
  | .non => fun x y H Q => (y = .non ∧ Q (.bl (!decide (x = .non))) H) ∨ ∃ a b, x = .bl a ∧ y = .bl b ∧ Q (.bl (!decide (a = b))) H
  | .isin => fun x y H Q => rIn K false x y H Q ∨ ViD.rInT K false x y H Q
  | .nin => fun x y H Q => rIn K true x y H Q ∨ ViD.rInT K true x y H Q
theorem oc {X : Cx} (hu : X.A.units + 64 < cLine) : ∀ o : Cop, OpR X (compareOp (coper o)) (rC X.K o)
  | .eq => op_eqD hu
  | .ne => op_neD hu
  | .lt => op_lt.or (op_ltT (by omega))
  | .le => op_le.or (op_leT (by omega))
  | .gt => op_gt
  | .ge => op_ge
  | .isn => op_isN.or op_is_bl
  | .non => op_notN.or op_isnot_bl
  | .isin => op_in_seq.or (ViD.op_inT (by omega))
  | .nin => op_notIn_seq.or (ViD.op_notInT (by omega))
section
variable {K : PySem.W.Frag} {cl : Nat → Addr} {H : Hp} {Q : VK}
theorem R.isNon {d : D} {v : V} {f s : List Addr} (h : R K cl H d v f s) : decide (v = .non) = decide (d = .non) := by
  cases h <;> simp
theorem cop_ok {o : Cop} {d1 d2 : D} {b : Bool} {v1 v2 : V} {f1 s1 f2 s2 : List Addr} (r1 : R K cl H d1 v1 f1 s1) (r2 : R K cl H d2 v2 f2 s2) (e : cop o d1 d2 = some b)
    (h : Q (.bl b) H) : rC K o v1 v2 H Q := by
  unfold cop at e
  split at e
  · split at e
    · rename_i hz
      cases e
      obtain ⟨i1, i2⟩ := Bool.and_eq_true_iff.mp hz
      exact ⟨_, _, R.dp 64 _ r1 i1, R.dp 64 _ r2 i2, okd_shaped i1, okd_shaped i2, by rw [eqv_py 64 64 _ _ i1 i2]; exact h⟩
    · cases e
  · split at e
    · rename_i hz
      cases e
      obtain ⟨i1, i2⟩ := Bool.and_eq_true_iff.mp hz
      exact ⟨_, _, R.dp 64 _ r1 i1, R.dp 64 _ r2 i2, okd_shaped i1, okd_shaped i2, by rw [eqv_py 64 64 _ _ i1 i2]; exact h⟩
    · cases e
  · cases e; exact .inl ⟨_, _, r1.int_inv, r2.int_inv, h⟩
  · split at e
    · rename_i a b e1 e2
      cases e
      obtain ⟨p, vs, rfl, q1, w1⟩ := r1.tupl
      obtain ⟨q, ws, rfl, q2, w2⟩ := r2.tupl
      have := w1.intsOf e1
      subst this
      have := w2.intsOf e2
      subst this
      exact .inr ⟨p, q, a, b, rfl, rfl, q1, q2, by rw [← lexL_eq]; exact h⟩
    · cases e
  · cases e; exact .inl ⟨_, _, r1.int_inv, r2.int_inv, h⟩
  · split at e
    · rename_i a b e1 e2
      cases e
      obtain ⟨p, vs, rfl, q1, w1⟩ := r1.tupl
      obtain ⟨q, ws, rfl, q2, w2⟩ := r2.tupl
      have := w1.intsOf e1
      subst this
      have := w2.intsOf e2
      subst this
      exact .inr ⟨p, q, a, b, rfl, rfl, q1, q2, by rw [lexAt_le]; exact h⟩
    · cases e
  · cases e; exact ⟨_, _, r1.int_inv, r2.int_inv, h⟩
  · cases e; exact ⟨_, _, r1.int_inv, r2.int_inv, h⟩
  · cases e; exact .inl ⟨r2.non_inv, by rw [r1.isNon]; exact h⟩
  · cases e; exact .inl ⟨r2.non_inv, by rw [r1.isNon]; exact h⟩
  · cases e; exact .inr ⟨_, _, r1.bl_inv, r2.bl_inv, h⟩
  · cases e; exact .inr ⟨_, _, r1.bl_inv, r2.bl_inv, h⟩
  · split at e
    · split at e
      · rename_i hz
        cases e
        obtain ⟨i1, i2⟩ := Bool.and_eq_true_iff.mp hz
        obtain ⟨p, vs, rfl, q, w⟩ := r2.tupl
        obtain ⟨rfl, g1⟩ := r1.flat i1
        obtain ⟨rfl, g2⟩ := w.flat i2
        exact .inl ⟨p, _, rfl, .inr q, g1, g2, by rw [if_neg Bool.false_ne_true, inV_vof i1 i2]; exact h⟩
      · cases e
    · split at e
      · rename_i hz
        cases e
        obtain ⟨i1, i2⟩ := Bool.and_eq_true_iff.mp hz
        obtain ⟨p, vs, _, _, rfl, q, w, _⟩ := r2.lst0
        obtain ⟨rfl, g1⟩ := r1.flat i1
        obtain ⟨rfl, g2⟩ := w.flat i2
        exact .inl ⟨p, _, rfl, .inl q, g1, g2, by rw [if_neg Bool.false_ne_true, inV_vof i1 i2]; exact h⟩
      · cases e
    · cases e
    · split at e
      · rename_i q0 e0
        cases e
        obtain ⟨b0, rfl, sq⟩ := r1.key e0
        obtain ⟨a, vs, _, _, rfl, hd, hl, _⟩ := r2.dct
        exact .inr ⟨a, _, rfl, ⟨_, _, _, .inl hd, rfl, sq, rfl⟩, by rw [← kHas_val _ _ _ hl]; exact h⟩
      · cases e
    · cases e
  · split at e
    · split at e
      · rename_i hz
        cases e
        obtain ⟨i1, i2⟩ := Bool.and_eq_true_iff.mp hz
        obtain ⟨p, vs, rfl, q, w⟩ := r2.tupl
        obtain ⟨rfl, g1⟩ := r1.flat i1
        obtain ⟨rfl, g2⟩ := w.flat i2
        exact .inl ⟨p, _, rfl, .inr q, g1, g2, by rw [if_pos rfl, inV_vof i1 i2]; exact h⟩
      · cases e
    · split at e
      · rename_i hz
        cases e
        obtain ⟨i1, i2⟩ := Bool.and_eq_true_iff.mp hz
        obtain ⟨p, vs, _, _, rfl, q, w, _⟩ := r2.lst0
        obtain ⟨rfl, g1⟩ := r1.flat i1
        obtain ⟨rfl, g2⟩ := w.flat i2
        exact .inl ⟨p, _, rfl, .inl q, g1, g2, by rw [if_pos rfl, inV_vof i1 i2]; exact h⟩
      · cases e
    · cases e
    · split at e
      · rename_i q0 e0
        cases e
        obtain ⟨b0, rfl, sq⟩ := r1.key e0
        obtain ⟨a, vs, _, _, rfl, hd, hl, _⟩ := r2.dct
        exact .inr ⟨a, _, rfl, ⟨_, _, _, .inl hd, rfl, sq, rfl⟩, by rw [← kHas_val _ _ _ hl]; exact h⟩
      · cases e
    · cases e
  · cases e
end
end Vi

set_option Elab.async false
set_option linter.all false
set_option maxRecDepth 100000
set_option maxHeartbeats 2000000
/-! Vi6: built-ins of one and two arguments. -/
namespace Vi
open PySem PySem.Spec PyProof.Rows L2
/-! ### plain facts -/
theorem mnI_le : ∀ (l : List Int) (m : Int), mnI m l ≤ m ∧ ∀ y, y ∈ l → mnI m l ≤ y
  | [], m => ⟨Int.le_refl _, fun _ z => nomatch z⟩
  | x :: r, m => by
    show mnI (if x < m then x else m) r ≤ m ∧ _
    obtain ⟨h1, h2⟩ := mnI_le r (if x < m then x else m)
    have h3 : (if x < m then x else m) ≤ m := by split <;> omega
    have h4 : (if x < m then x else m) ≤ x := by split <;> omega
    refine ⟨Int.le_trans h1 h3, fun y hy => ?_⟩
    rcases List.mem_cons.mp hy with rfl | hy
    · exact Int.le_trans h1 h4
    · exact h2 y hy
theorem mnI_mem : ∀ (l : List Int) (m : Int), mnI m l = m ∨ mnI m l ∈ l
  | [], m => .inl rfl
  | x :: r, m => by
    show mnI (if x < m then x else m) r = m ∨ mnI (if x < m then x else m) r ∈ x :: r
    rcases mnI_mem r (if x < m then x else m) with h | h
    · rw [h]
      split
      · exact .inr List.mem_cons_self
      · exact .inl rfl
    · exact .inr (List.mem_cons_of_mem _ h)
theorem mxI_ge : ∀ (l : List Int) (m : Int), m ≤ mxI m l ∧ ∀ y, y ∈ l → y ≤ mxI m l
  | [], m => ⟨Int.le_refl _, fun _ z => nomatch z⟩
  | x :: r, m => by
    show m ≤ mxI (if m < x then x else m) r ∧ _
    obtain ⟨h1, h2⟩ := mxI_ge r (if m < x then x else m)
    have h3 : m ≤ (if m < x then x else m) := by split <;> omega
    have h4 : x ≤ (if m < x then x else m) := by split <;> omega
    refine ⟨Int.le_trans h3 h1, fun y hy => ?_⟩
    rcases List.mem_cons.mp hy with rfl | hy
    · exact Int.le_trans h4 h1
    · exact h2 y hy
theorem mxI_mem : ∀ (l : List Int) (m : Int), mxI m l = m ∨ mxI m l ∈ l
  | [], m => .inl rfl
  | x :: r, m => by
    show mxI (if m < x then x else m) r = m ∨ mxI (if m < x then x else m) r ∈ x :: r
    rcases mxI_mem r (if m < x then x else m) with h | h
    · rw [h]
      split
      · exact .inr List.mem_cons_self
      · exact .inl rfl
    · exact .inr (List.mem_cons_of_mem _ h)
theorem insI_perm (x : Int) : ∀ l : List Int, (insI x l).Perm (x :: l)
  | [] => .refl _
  | y :: r => by
    show (if x ≤ y then x :: y :: r else y :: insI x r).Perm (x :: y :: r)
    split
    · exact .refl _
    · exact ((insI_perm x r).cons y).trans (.swap x y r)
theorem srtI_perm : ∀ l : List Int, (srtI l).Perm l
  | [] => .refl _
  | x :: r => (insI_perm x (srtI r)).trans ((srtI_perm r).cons x)
theorem insI_sorted (x : Int) : ∀ l : List Int, l.Pairwise (· ≤ ·) → (insI x l).Pairwise (· ≤ ·)
  | [], _ => List.pairwise_singleton _ _
  | y :: r, h => by
    obtain ⟨h1, h2⟩ := List.pairwise_cons.mp h
    show (if x ≤ y then x :: y :: r else y :: insI x r).Pairwise (· ≤ ·)
    split
    · rename_i hxy
      refine List.pairwise_cons.mpr ⟨fun z hz => ?_, h⟩
      rcases List.mem_cons.mp hz with rfl | hz
      · exact hxy
      · exact Int.le_trans hxy (h1 z hz)
    · rename_i hxy
      refine List.pairwise_cons.mpr ⟨fun z hz => ?_, insI_sorted x r h2⟩
      rcases List.mem_cons.mp ((insI_perm x r).mem_iff.mp hz) with rfl | hz
      · omega
      · exact h1 z hz
theorem srtI_sorted : ∀ l : List Int, (srtI l).Pairwise (· ≤ ·)
  | [] => .nil
  | x :: r => insI_sorted x _ (srtI_sorted r)
theorem sorted_one : ∀ {a b : List Int}, a.Perm b → a.Pairwise (· ≤ ·) → b.Pairwise (· ≤ ·) → a = b
  | [], b, p, _, _ => (List.Perm.nil_eq p)
  | x :: a, [], p, _, _ => absurd p.length_eq (by simp)
  | x :: a, y :: b, p, h, g => by
    obtain ⟨h1, h2⟩ := List.pairwise_cons.mp h
    obtain ⟨g1, g2⟩ := List.pairwise_cons.mp g
    have e : x = y := by
      have hx : x ∈ y :: b := p.mem_iff.mp List.mem_cons_self
      have hy : y ∈ x :: a := p.mem_iff.mpr List.mem_cons_self
      rcases List.mem_cons.mp hx with q | q
      · exact q
      · rcases List.mem_cons.mp hy with r | r
        · exact r.symm
        · exact Int.le_antisymm (h1 y r) (g1 x q)
    subst e
    rw [sorted_one (List.Perm.cons_inv p) h2 g2]
/-! ### one argument -/
def b1fn : B1 → Value
  | .len => .builtin "len"
  | .sum => .builtin "sum"
  | .mn => .builtin "min"
  | .mx => .builtin "max"
  | .abs => .builtin "abs"
  | .int => .type "int"
  | .all => .builtin "all"
  | .any => .builtin "any"
  | .lis => .type "list"
  | .tup => .type "tuple"
  | .srt => .builtin "sorted"
  | .lrev => .none
  | .stri => .type "str"
  | .strue => .none
def b1nm : B1 → Str
  | .len => "len"
  | .sum => "sum"
  | .mn => "min"
  | .mx => "max"
  | .abs => "abs"
  | .int => "int"
  | .all => "all"
  | .any => "any"
  | .lis => "list"
  | .tup => "tuple"
  | .srt => "sorted"
  | .lrev => "?"
  | .stri => "str"
  | .strue => "?"
/-! ### sorted data -/
theorem pys_map : ∀ xs : List D, pys xs = xs.map py
  | [] => rfl
  | x :: xs => by show py x :: pys xs = _; rw [pys_map xs]; rfl
mutual
theorem alike_py : ∀ d e : D, alk d e = true → PySem.W.alike (py d) (py e) = true
  | .int a, e, h => by
    cases e with
    | int b => simp [py, PySem.W.alike]
    | _ => cases h
  | .nd k xs, e, h => by
    cases e with
    | nd l ys =>
      cases k <;> first | cases h | skip
      cases l <;> first | cases h | skip
      have h : alks xs ys = true := h
      show PySem.W.alike (.tuple (pys xs)) (.tuple (pys ys)) = true
      simp only [PySem.W.alike]
      exact alikes_py xs ys h
    | _ => cases k <;> cases h
  | .hole, _, h => by cases h
  | .non, _, h => by cases h
  | .bl _, _, h => by cases h
  | .str _, _, h => by cases h
theorem alikes_py : ∀ xs ys : List D, alks xs ys = true → PySem.W.alikeAll (pys xs) (pys ys) = true
  | [], ys, _ => by simp [pys, PySem.W.alikeAll]
  | x :: xs, [], h => by cases h
  | x :: xs, y :: ys, h => by
    obtain ⟨h1, h2⟩ := Bool.and_eq_true_iff.mp (show (alk x y && alks xs ys) = true from h)
    show PySem.W.alikeAll (py x :: pys xs) (py y :: pys ys) = true
    simp only [PySem.W.alikeAll, Bool.and_eq_true]
    exact ⟨alike_py x y h1, alikes_py xs ys h2⟩
end
mutual
theorem lt_py : ∀ (n m : Nat) (d e : D), okd n d = true → okd m e = true → alk d e = true → PySem.W.dataLt (py d) (py e) = ltD d e
  | n, m, .int a, e, _, _, h => by
    cases e with
    | int b => exact PySem.W.dataLt_int a b
    | _ => cases h
  | 0, _, .nd k xs, _, h1, _, _ => by cases h1
  | n + 1, 0, .nd k xs, e, _, h2, h => by
    cases e with
    | nd l ys => cases h2
    | _ => cases k <;> cases h
  | n + 1, m + 1, .nd k xs, e, h1, h2, h => by
    cases e with
    | nd l ys =>
      cases k <;> first | cases h | skip
      cases l <;> first | cases h | skip
      show PySem.W.dataLt (.tuple (pys xs)) (.tuple (pys ys)) = ltDs xs ys
      rw [PySem.W.dataLt_tuple]
      exact lts_py n m xs ys h1 h2 h
    | _ => cases k <;> cases h
  | _, _, .hole, _, _, _, h => by cases h
  | _, _, .non, _, _, _, h => by cases h
  | _, _, .bl _, _, _, _, h => by cases h
  | _, _, .str _, _, _, _, h => by cases h
theorem lts_py : ∀ (n m : Nat) (xs ys : List D), okds n xs = true → okds m ys = true → alks xs ys = true → lexLt itemOrd (PySem.W.keyToksAll (pys xs)) (PySem.W.keyToksAll (pys ys)) = ltDs xs ys
  | n, m, [], [], _, _, _ => lex_irrefl _
  | _, _, [], _ :: _, _, _, h => by cases h
  | _, _, _ :: _, [], _, _, h => by cases h
  | n, m, x :: xs, y :: ys, h1, h2, h => by
    obtain ⟨a1, a2⟩ := Bool.and_eq_true_iff.mp (show (okd n x && okds n xs) = true from h1)
    obtain ⟨b1, b2⟩ := Bool.and_eq_true_iff.mp (show (okd m y && okds m ys) = true from h2)
    obtain ⟨c1, c2⟩ := Bool.and_eq_true_iff.mp (show (alk x y && alks xs ys) = true from h)
    show lexLt itemOrd (PySem.W.keyToksAll (py x :: pys xs)) (PySem.W.keyToksAll (py y :: pys ys)) = if deq x y then ltDs xs ys else ltD x y
    rw [PySem.W.dataLt_cons (alike_py x y c1), eqv_py n m x y a1 b1, lts_py n m xs ys a2 b2 c2, lt_py n m x y a1 b1 c1]
end
theorem okds_mem : ∀ {n : Nat} {xs : List D}, okds n xs = true → ∀ x, x ∈ xs → okd n x = true
  | _, [], _, _, h => (nomatch h)
  | n, x :: xs, e, y, h => by
    obtain ⟨a1, a2⟩ := Bool.and_eq_true_iff.mp (show (okd n x && okds n xs) = true from e)
    rcases List.mem_cons.mp h with rfl | h
    · exact a1
    · exact okds_mem a2 y h
theorem srtOk_inv {xs : List D} (e : srtOk xs = true) : (∀ x, x ∈ xs → tupN x = true) ∧ imms xs = true ∧ okds 60 xs = true ∧ ∀ x, x ∈ xs → ∀ y, y ∈ xs → alk x y = true := by
  obtain ⟨h1, e⟩ := Bool.and_eq_true_iff.mp e
  obtain ⟨h2, e⟩ := Bool.and_eq_true_iff.mp e
  obtain ⟨h3, h4⟩ := Bool.and_eq_true_iff.mp e
  exact ⟨fun x hx => List.all_eq_true.mp h1 x hx, h2, h3, fun x hx y hy => List.all_eq_true.mp (List.all_eq_true.mp h4 x hx) y hy⟩
theorem srt_alike {xs : List D} (e : srtOk xs = true) : PySem.W.AllAlike (pys xs) ∧ PySem.W.Sortable (pys xs) ∧ ∀ d, d ∈ pys xs → d.depth ≤ 60 := by
  obtain ⟨h1, h2, h3, h4⟩ := srtOk_inv e
  rw [pys_map]
  refine ⟨fun d hd d' hd' => ?_, .inl fun d hd => ?_, fun d hd => ?_⟩
  · obtain ⟨x, hx, rfl⟩ := List.mem_map.mp hd
    obtain ⟨y, hy, rfl⟩ := List.mem_map.mp hd'
    exact alike_py x y (h4 x hx y hy)
  · obtain ⟨x, hx, rfl⟩ := List.mem_map.mp hd
    have t := h1 x hx
    unfold tupN at t
    split at t
    · split at t
      · rename_i ys _
        cases ys with
        | nil => cases t
        | cons y ys => exact ⟨py y, pys ys, rfl⟩
      · cases t
    · cases t
  · obtain ⟨x, hx, rfl⟩ := List.mem_map.mp hd
    exact (okd_lay 60 x (okds_mem h3 x hx)).2
section
variable {K : PySem.W.Frag} {cl : Nat → Addr} {H : Hp}
theorem Rs.pairs : ∀ {xs : List D} {vs : List V} {f s : List Addr}, Rs K cl H xs vs f s → imms xs = true → ∀ p, p ∈ xs.zip vs → ∃ s0, R K cl H p.1 p.2 [] s0 ∧ ∀ a, a ∈ s0 → a ∈ s
  | [], _, _, _, _, _, p, hp => by simp at hp
  | x :: xs, _, _, _, h, e, p, hp => by
    obtain ⟨e1, e2⟩ := Bool.and_eq_true_iff.mp (show (Vi.imm x && imms xs) = true from e)
    cases h with
    | cons h1 h2 =>
      rcases List.mem_cons.mp (show p ∈ (x, _) :: xs.zip _ from hp) with rfl | hp
      · have := R.imm x h1 e1
        subst this
        exact ⟨_, h1, fun a ha => List.mem_append_left _ ha⟩
      · obtain ⟨s0, r, q⟩ := h2.pairs e2 p hp
        exact ⟨s0, r, fun a ha => List.mem_append_right _ (q a ha)⟩
theorem Rs.of_pairs {s : List Addr} : ∀ l : List (D × V), (∀ p, p ∈ l → ∃ s0, R K cl H p.1 p.2 [] s0 ∧ ∀ a, a ∈ s0 → a ∈ s) → ∃ s', Rs K cl H (l.map Prod.fst) (l.map Prod.snd) [] s' ∧ ∀ a, a ∈ s' → a ∈ s
  | [], _ => ⟨[], .nil, fun _ z => (nomatch z)⟩
  | p :: l, h => by
    obtain ⟨s0, r0, q0⟩ := h p List.mem_cons_self
    obtain ⟨s1, r1, q1⟩ := Rs.of_pairs l fun p hp => h p (List.mem_cons_of_mem _ hp)
    exact ⟨s0 ++ s1, Rs.cons (f := []) (f' := []) r0 r1, fun a ha => (List.mem_append.mp ha).elim (q0 a) (q1 a)⟩
theorem zip_f1 : ∀ (xs : List D) (vs : List V), (xs.zip vs).map (fun p => (p.2, py p.1)) = vs.zip (pys xs)
  | [], vs => by cases vs <;> rfl
  | x :: xs, [] => rfl
  | x :: xs, v :: vs => by show (v, py x) :: (xs.zip vs).map _ = (v, py x) :: vs.zip (pys xs); rw [zip_f1 xs vs]
theorem zip_fst' : ∀ {xs : List D} {vs : List V}, xs.length = vs.length → (xs.zip vs).map Prod.fst = xs
  | [], [], _ => rfl
  | [], _ :: _, h => by cases h
  | _ :: _, [], h => by cases h
  | x :: xs, v :: vs, h => by show x :: (xs.zip vs).map Prod.fst = x :: xs; rw [zip_fst' (by simpa using h)]
theorem Rs.sorted {xs : List D} {vs : List V} {f s : List Addr} (w : Rs K cl H xs vs f s) (ok : srtOk xs = true) :
    ∃ s', Rs K cl H (xs.mergeSort leD) (((vs.zip (pys xs)).mergeSort (PySem.W.dataLe false Prod.snd)).map Prod.fst) [] s' ∧ ∀ a, a ∈ s' → a ∈ s := by
  obtain ⟨h1, h2, h3, h4⟩ := srtOk_inv ok
  have e1 : ((xs.zip vs).mergeSort fun a b => leD a.1 b.1).map (fun p => (p.2, py p.1)) = (vs.zip (pys xs)).mergeSort (PySem.W.dataLe false Prod.snd) := by
    rw [← zip_f1]
    refine PySem.W.sort_maps _ fun a ha b hb => ?_
    have ma : a.1 ∈ xs := (List.of_mem_zip (show (a.1, a.2) ∈ xs.zip vs from ha)).1
    have mb : b.1 ∈ xs := (List.of_mem_zip (show (b.1, b.2) ∈ xs.zip vs from hb)).1
    rw [PySem.W.dataLe_eq]
    show leD a.1 b.1 = !PySem.W.dataLt (py b.1) (py a.1)
    rw [lt_py 60 60 _ _ (okds_mem h3 _ mb) (okds_mem h3 _ ma) (h4 _ mb _ ma)]; rfl
  have e2 : ((xs.zip vs).mergeSort fun a b => leD a.1 b.1).map Prod.fst = xs.mergeSort leD := by
    rw [PySem.W.sort_maps (s := leD) Prod.fst (fun a _ b _ => rfl), zip_fst' w.length]
  have e3 : ((xs.zip vs).mergeSort fun a b => leD a.1 b.1).map Prod.snd = ((vs.zip (pys xs)).mergeSort (PySem.W.dataLe false Prod.snd)).map Prod.fst := by
    rw [← e1, List.map_map]; rfl
  rw [← e2, ← e3]
  exact Rs.of_pairs _ fun p hp => w.pairs h2 p ((List.mergeSort_perm _ _).mem_iff.mp hp)
theorem kd_kv : ∀ k : List Key, Rs K cl H (k.map kD) (k.map kV) [] []
  | [] => .nil
  | .inl i :: k => Rs.cons (f := []) (s := []) (f' := []) (s' := []) (.int i) (kd_kv k)
  | .inr x :: k => Rs.cons (f := []) (s := []) (f' := []) (s' := []) (.str x) (kd_kv k)
theorem keys_R : ∀ {ks : List (List Key)} {vs : List V} {bs : List Addr}, ks.length = vs.length → IsKeys H (ks.zip vs) bs → Rs K cl H (ks.map keyD) (bs.map V.ref) [] []
  | [], _, _, _, h => by cases h; exact .nil
  | k :: ks, [], _, e, _ => by cases e
  | k :: ks, v :: vs, bs, e, h => by
    have h : Paired (fun (p : List Key × V) b => H b = some (.tup (p.1.map kV))) ((k, v) :: ks.zip vs) bs := h
    cases h with
    | cons h1 h2 => exact Rs.cons (f := []) (s := []) (f' := []) (s' := []) (.tup (.inl (.inl h1)) (kd_kv k)) (keys_R (by simpa using e) h2)
theorem keyP_py (k : List Key) : ViD.keyP k = py (keyD k) := by
  show PyData.tuple (k.map ViD.kP) = .tuple (pys (k.map kD))
  rw [pys_map, List.map_map]
  congr 1
  refine List.map_congr_left fun a _ => ?_
  cases a <;> rfl
theorem zip_keyP : ∀ {ks : List (List Key)} {vs : List V}, ks.length = vs.length → (ks.zip vs).map (fun p => ViD.keyP p.1) = pys (ks.map keyD)
  | [], _, _ => rfl
  | k :: ks, [], e => by cases e
  | k :: ks, v :: vs, e => by
    show ViD.keyP k :: (ks.zip vs).map (fun p => ViD.keyP p.1) = py (keyD k) :: pys (ks.map keyD)
    rw [zip_keyP (by simpa using e), keyP_py]
end
def rB1 (K : PySem.W.Frag) : B1 → List V → Hp → VK → Prop
  | .len => fun xs H Q => (∃ x n, xs = [x] ∧ LenV K x H n ∧ Q (.int n) H) ∨ rLenT xs H Q
  | .sum => rSum K
  | .mn => rMin K
  | .mx => rMax K
  | .abs => fun xs H Q => ∃ i, xs = [.int i] ∧ Q (.int (if i < 0 then -i else i)) H
  | .int => fun xs H Q => (∃ i, xs = [.int i] ∧ Q (.int i) H) ∨ ∃ k, xs = [.bl k] ∧ Q (.int (if k then 1 else 0)) H
  | .all => rAll K
  | .any => rAny K
  | .lis => fun xs H Q => (∃ p ys, xs = [.ref p] ∧ (SqL K H p ys ∨ SqT K H p ys) ∧ ∀ l, H l = none → Q (.ref l) (upd H l (.lst ys))) ∨ ∃ d kvs, xs = [V.ref d] ∧ Rd H d (.dT kvs) ∧ ∀ p bs, H p = none → IsKeys H kvs bs → Q (.ref p) (upd H p (.lst (bs.map V.ref)))
  | .tup => fun xs H Q => ∃ p ys, xs = [.ref p] ∧ ((SqL K H p ys ∧ ∀ l, H l = none → Q (.ref l) (upd H l (.tup ys))) ∨ (SqT K H p ys ∧ Q (.ref p) H))
  | .srt => fun xs H Q => rSortedI K xs H Q ∨ ViD.rSortedD K xs H Q ∨ ViD.rSortedK K xs H Q
  | .lrev => fun _ _ _ => False
  | .stri => fun _ _ _ => False
  | .strue => fun _ _ _ => False
theorem CallR.or {X : Cx} {f : Value} {r r' : List V → Hp → VK → Prop} (h : CallR X f r) (h' : CallR X f r') : CallR X f (fun xs H Q => r xs H Q ∨ r' xs H Q) := by
  intro pins s σ H xs us Q I rr q
  rcases q with q | q
  · exact h pins s σ H xs us Q I rr q
  · exact h' pins s σ H xs us Q I rr q
theorem b1_call {X : Cx} (hc : X.calm = true) (hu : X.A.units + 64 < cLine) : ∀ o : B1, CallR X (b1fn o) (rB1 X.K o)
  | .len => CallR.or call_len call_len_dT
  | .sum => cr_sum hc
  | .mn => cr_min hc
  | .mx => cr_max hc
  | .abs => call_abs
  | .int => call_int1
  | .all => cr_all hc
  | .any => cr_any hc
  | .lis => CallR.or call_list_of (call_list_dT hc)
  | .tup => call_tuple_of
  | .srt => CallR.or cr_sortedI (CallR.or (ViD.cr_sortedD hu) (ViD.cr_sortedK hc hu))
  | .lrev => fun _ _ _ _ _ _ _ _ _ h => h.elim
  | .stri => fun _ _ _ _ _ _ _ _ _ h => h.elim
  | .strue => fun _ _ _ _ _ _ _ _ _ h => h.elim
section
variable {K : PySem.W.Frag} {cl : Nat → Addr} {H : Hp} {Q : VK}
theorem lsto_some {d : D} {xs : List D} (h : lsto d = some xs) : ∃ o, d = .nd (.lst o) xs := by
  unfold lsto at h
  split at h
  · split at h
    · cases h; exact ⟨_, rfl⟩
    · cases h
  · cases h
theorem seqOf_some {d : D} {xs : List D} (h : seqOf d = some xs) : d = .nd .tup xs ∨ ∃ o, d = .nd (.lst o) xs := by
  unfold seqOf at h
  split at h
  · split at h
    · cases h; exact .inl rfl
    · cases h; exact .inr ⟨_, rfl⟩
    · cases h
  · cases h
theorem R.ints {d : D} {xs : List D} {l : List Int} {v : V} {f s : List Addr} (h : R K cl H d v f s) (e : lsto d = some xs) (e2 : intsOf xs = some l) : ∃ a, v = .ref a ∧ SqL K H a (l.map V.int) := by
  obtain ⟨o, rfl⟩ := lsto_some e
  obtain ⟨a, vs, _, _, rfl, q, w, _⟩ := h.lst0
  have := w.intsOf e2
  subst this
  exact ⟨a, rfl, q⟩
theorem R.bls {d : D} {xs : List D} {l : List Bool} {v : V} {f s : List Addr} (h : R K cl H d v f s) (e : lsto d = some xs) (e2 : blsOf xs = some l) : ∃ a, v = .ref a ∧ SqL K H a (l.map V.bl) := by
  obtain ⟨o, rfl⟩ := lsto_some e
  obtain ⟨a, vs, _, _, rfl, q, w, _⟩ := h.lst0
  have := w.blsOf e2
  subst this
  exact ⟨a, rfl, q⟩
theorem Rs.ofInts : ∀ l : List Int, Rs K cl H (l.map D.int) (l.map V.int) [] []
  | [] => .nil
  | i :: l => Rs.cons (.int i) (Rs.ofInts l)
theorem dkeys_some {d : D} {xs : List D} (h : dkeys d = some xs) : ∃ o ks ys, d = .nd (.dT o ks) ys ∧ xs = ks.map keyD := by
  unfold dkeys at h
  split at h
  · split at h
    · cases h; exact ⟨_, _, _, rfl, rfl⟩
    · cases h
  · cases h
theorem b1_ok {o : B1} {d1 d : D} {v1 : V} {f1 s1 : List Addr} (r1 : R K cl H d1 v1 f1 s1) (e : b1op o d1 = some d)
    (h : PO (K := K) (cl := cl) H (fun a => a ∈ s1) d Q) : rB1 K o [v1] H Q := by
  unfold b1op at e
  split at e
  · split at e
    · split at e
      · cases e
        obtain ⟨a, vs, rfl, q, w⟩ := r1.tupl
        exact .inl ⟨_, _, rfl, .inr ⟨vs, q, w.length⟩, h.int⟩
      · cases e
        obtain ⟨a, vs, _, _, rfl, q, w, _⟩ := r1.lst0
        exact .inl ⟨_, _, rfl, .inl ⟨vs, q, w.length⟩, h.int⟩
      · cases e
        obtain ⟨a, vs, f', s', rfl, hd, hl, w, _⟩ := r1.dct
        refine .inr ⟨a, _, rfl, hd, ?_⟩
        rw [List.length_zip, hl, Nat.min_self, ← w.length]
        exact h.int
      · cases e
    · split at e
      · rename_i hz
        cases e
        have := r1.str_inv
        subst this
        exact .inl ⟨_, _, rfl, ⟨by rw [← sizeL_eq]; exact hz, rfl⟩, h.int⟩
      · cases e
    · cases e
  · split at e
    · rename_i xs e1
      split at e
      · rename_i l e2
        cases e
        obtain ⟨a, rfl, q⟩ := r1.ints e1 e2
        exact ⟨a, l, rfl, q, h.int⟩
      · cases e
    · cases e
  · split at e
    · rename_i xs e1
      split at e
      · rename_i x l e2
        cases e
        obtain ⟨a, rfl, q⟩ := r1.ints e1 e2
        refine ⟨a, x :: l, rfl, q, by simp, fun m hm hle => ?_⟩
        have e : m = mnI x l := by
          obtain ⟨h1, h2⟩ := mnI_le l x
          have h3 : m ≤ mnI x l := by
            rcases mnI_mem l x with z | z
            · rw [z]; exact hle x List.mem_cons_self
            · exact hle _ (List.mem_cons_of_mem _ z)
          have h4 : mnI x l ≤ m := by
            rcases List.mem_cons.mp hm with rfl | z
            · exact h1
            · exact h2 m z
          omega
        rw [e]; exact h.int
      · cases e
    · cases e
  · split at e
    · rename_i xs e1
      split at e
      · rename_i x l e2
        cases e
        obtain ⟨a, rfl, q⟩ := r1.ints e1 e2
        refine ⟨a, x :: l, rfl, q, by simp, fun m hm hle => ?_⟩
        have e : m = mxI x l := by
          obtain ⟨h1, h2⟩ := mxI_ge l x
          have h3 : mxI x l ≤ m := by
            rcases mxI_mem l x with z | z
            · rw [z]; exact hle x List.mem_cons_self
            · exact hle _ (List.mem_cons_of_mem _ z)
          have h4 : m ≤ mxI x l := by
            rcases List.mem_cons.mp hm with rfl | z
            · exact h1
            · exact h2 m z
          omega
        rw [e]; exact h.int
      · cases e
    · cases e
  · cases e
    have := r1.int_inv
    subst this
    exact ⟨_, rfl, h.int⟩
  · cases e
    have := r1.int_inv
    subst this
    exact .inl ⟨_, rfl, h.int⟩
  · cases e
    have := r1.bl_inv
    subst this
    exact .inr ⟨_, rfl, h.int⟩
  · split at e
    · rename_i xs e1
      split at e
      · rename_i l e2
        cases e
        obtain ⟨a, rfl, q⟩ := r1.bls e1 e2
        exact ⟨a, l, rfl, q, h.bl⟩
      · cases e
    · cases e
  · split at e
    · rename_i xs e1
      split at e
      · rename_i l e2
        cases e
        obtain ⟨a, rfl, q⟩ := r1.bls e1 e2
        exact ⟨a, l, rfl, q, h.bl⟩
      · cases e
    · cases e
  · split at e
    · rename_i xs e1
      split at e
      · rename_i hi
        cases e
        rcases seqOf_some e1 with rfl | ⟨o, rfl⟩
        · obtain ⟨a, vs, rfl, q, w⟩ := r1.tupl
          have e := Rs.imm _ w hi
          subst e
          exact .inl ⟨a, vs, rfl, .inr q, h.list w fun _ z => z⟩
        · obtain ⟨a, vs, s', rfl, q, w, hs⟩ := r1.lst hi
          exact .inl ⟨a, vs, rfl, .inl q, h.list w hs⟩
      · cases e
    · split at e
      · rename_i xs e0
        cases e
        obtain ⟨o, ks, ys, rfl, rfl⟩ := dkeys_some e0
        obtain ⟨a, vs, f', s', rfl, hd, hl, w, _⟩ := r1.dct
        exact .inr ⟨a, _, rfl, .inl hd, fun p bs np ik => h.list (keys_R hl ik) (fun _ z => (nomatch z)) p np⟩
      · cases e
  · split at e
    · rename_i xs e1
      split at e
      · rename_i hi
        cases e
        rcases seqOf_some e1 with rfl | ⟨o, rfl⟩
        · obtain ⟨a, vs, rfl, q, w⟩ := r1.tupl
          have e := Rs.imm _ w hi
          subst e
          exact ⟨a, vs, rfl, .inr ⟨q, h.same r1 fun _ z => z⟩⟩
        · obtain ⟨a, vs, s', rfl, q, w, hs⟩ := r1.lst hi
          exact ⟨a, vs, rfl, .inl ⟨q, h.tup w hs⟩⟩
      · cases e
    · cases e
  · split at e
    · rename_i xs e1
      split at e
      · rename_i l e2
        cases e
        obtain ⟨a, rfl, q⟩ := r1.ints e1 e2
        refine .inl ⟨a, l, rfl, q, fun ns' p hp hs np => ?_⟩
        have e : ns' = srtI l := sorted_one (hp.trans (srtI_perm l).symm) hs (srtI_sorted l)
        subst e
        exact h.list (Rs.ofInts _) (fun _ z => nomatch z) p np
      · unfold srtT at e
        split at e
        · rename_i ok
          cases e
          obtain ⟨o, rfl⟩ := lsto_some e1
          obtain ⟨h1, h2, h3⟩ := srt_alike ok
          obtain ⟨a, vs, s', rfl, q, w, hs⟩ := r1.lst (srtOk_inv ok).2.1
          obtain ⟨s2, w2, q2⟩ := w.sorted ok
          exact .inr (.inl ⟨a, vs, _, rfl, q, Rs.dp 60 _ w (srtOk_inv ok).2.2.1, h1, h2, h3, h.list w2 fun b hb => hs b (q2 b hb)⟩)
        · cases e
    · split at e
      · rename_i xs e0
        unfold srtT at e
        split at e
        · rename_i ok
          cases e
          obtain ⟨o, ks, ys, rfl, rfl⟩ := dkeys_some e0
          obtain ⟨h1, h2, h3⟩ := srt_alike ok
          obtain ⟨a, vs, f', s', rfl, hd, hl, w, _⟩ := r1.dct
          have ez := zip_keyP hl
          refine .inr (.inr ⟨a, _, rfl, .inl hd, by rw [ez]; exact h1, by rw [ez]; exact h2, fun p hp => h3 _ (by rw [← ez]; exact List.mem_map_of_mem hp), fun p bs np ik => ?_⟩)
          rw [ez]
          obtain ⟨s2, w2, q2⟩ := (keys_R (K := K) (cl := cl) hl ik).sorted ok
          exact h.list w2 (fun b hb => (nomatch (q2 b hb))) p np
        · cases e
      · cases e
  · cases e
end
end Vi

set_option Elab.async false
set_option linter.all false
set_option maxRecDepth 100000
set_option maxHeartbeats 2000000
/-! Vi7: expressions, form by form. -/
namespace L2
open PySem
theorem PE.imp {X : Cx} {e : Expr} {t t' : TE} (h : PE X e t) (i : ∀ σ H Q, t' σ H Q → t σ H Q) : PE X e t' := ⟨fun pins s σ H Q I q => h.run pins s σ H Q I (i σ H Q q)⟩
theorem PT.imp {X : Cx} {e : Expr} {t t' : TT} (h : PT X e t) (i : ∀ σ H Q, t' σ H Q → t σ H Q) : PT X e t' := ⟨fun pins s σ H Q I q => h.run pins s σ H Q I (i σ H Q q)⟩
theorem PW.imp {X : Cx} {e : Expr} {t t' : TT} (h : PW X e t) (i : ∀ σ H Q, t' σ H Q → t σ H Q) : PW X e t' := ⟨fun wh pins s σ H Q I q => h.run wh pins s σ H Q I (i σ H Q q)⟩
theorem PA.imp {X : Cx} {e : List Expr} {t t' : TA} (h : PA X e t) (i : ∀ σ H Q, t' σ H Q → t σ H Q) : PA X e t' := ⟨fun pos pins s σ H Q I q => h.run pos pins s σ H Q I (i σ H Q q)⟩
end L2
namespace Vi
open PySem PySem.Spec L2
/-- no star -/
def nost : Expr → Bool
  | .Starred .. => false
  | _ => true
theorem star_of {x : Expr} {xs : List Expr} {env : Env} (h : nost x = true) : starEach (x :: xs) env = (false, eval x env) :: starEach xs env := by
  cases x <;> first | rfl | cases h
theorem any_star : ∀ {xs : List Expr} {env : Env} {pos : Pos}, xs.all nost = true → (backTo pos (starEach xs env)).any (·.1) = false
  | [], _, _, _ => rfl
  | x :: xs, env, pos, h => by
    obtain ⟨h1, h2⟩ := Bool.and_eq_true_iff.mp (show (nost x && xs.all nost) = true from h)
    rw [star_of h1]
    show (false || (backTo pos (starEach xs env)).any (·.1)) = false
    rw [any_star h2]; rfl
section
variable (K : PySem.W.Frag) (cl : Nat → Addr)
/-- a test -/
def PostT (W : WX) (p : Bool) (res : Res D) (env : List D) (σ : St) (H : Hp) (fe se : Nat → List Addr) (Q : Bool → Hp → Prop) : Prop := match res with
  | .ok d env' => ∃ b, d = .bl b ∧ ∀ H' fe' se', GE K cl H' env' σ fe' se' → Sp0 H fe se H' fe' se' → (p = false → Pur env H fe se env' H' fe' se') → Q b H'
  | .err x env' => PostX K cl W x env' σ H fe se
  | .bad => False
def tT (Δ : Dl) (W : WX) (e : E) : TT := fun σ H Q => ∃ env fe se, GE K cl H env σ fe se ∧ PostT K cl W (ef e) (ev Δ e env) env σ H fe se Q
def tAn (Δ : Dl) (W : WX) (k : Bool) (es : Es) : TE := fun σ H Q => ∃ env fe se, GE K cl H env σ fe se ∧ PostE K cl W false (efs es) 0 none (evn Δ k es env) env σ H fe se Q
def tAt (Δ : Dl) (W : WX) (k : Bool) (es : Es) : TT := fun σ H Q => ∃ env fe se, GE K cl H env σ fe se ∧ PostT K cl W (efs es) (evn Δ k es env) env σ H fe se Q
/-- values, all of them kept -/
structure Fis (p : Bool) (env : List D) (σ : St) (H : Hp) (fe se : Nat → List Addr) (ds : List D) (env' : List D) (vs : List V) (H' : Hp) (f s : List Addr) (fe' se' : Nat → List Addr) : Prop where
  ge : GE K cl H' env' σ fe' se'
  rv : Rs K cl H' ds vs f s
  st : Sp0 H fe se H' fe' se'
  vo : ∀ a, a ∈ f → (∃ j, a ∈ fe j) ∨ H a = none
  vs : ∀ a, a ∈ s → (∃ j, a ∈ fe j ∨ a ∈ se j) ∨ H a = none
  ext : Ext fe' se' f s
  pure : p = false → Pur env H fe se env' H' fe' se'
def PostS (W : WX) (p : Bool) (res : Res (List D)) (env : List D) (σ : St) (H : Hp) (fe se : Nat → List Addr) (Q : List V → Hp → Prop) : Prop := match res with
  | .ok ds env' => ∀ vs H' f s fe' se', Fis K cl p env σ H fe se ds env' vs H' f s fe' se' → Q vs H'
  | .err x env' => PostX K cl W x env' σ H fe se
  | .bad => False
def tEs (Δ : Dl) (W : WX) (es : Es) : TA := fun σ H Q => ∃ env fe se, GE K cl H env σ fe se ∧ PostS K cl W (efs es) (evs Δ es env) env σ H fe se Q
end
section
variable {K : PySem.W.Frag} {cl : Nat → Addr} {W : WX} {Δ : Dl} {X : Cx} {H H1 H2 : Hp} {env env1 env2 : List D} {σ : St} {fe se fe1 se1 fe2 se2 : Nat → List Addr}
theorem fin_here {p : Bool} {r : Nat} {d : D} {Q : VK} (g : GE K cl H env σ fe se) (h : PostE K cl W false p r none (.ok d env) env σ H fe se Q) : PO (K := K) (cl := cl) H (fun _ => False) d Q :=
  fin_prim g g Sp0.refl (fun _ => ⟨rfl, rfl, rfl, Grow.refl⟩) (fun _ z => z.elim) (fun _ z => z.elim) (fun _ _ z => z.elim) h
theorem s_int {i : Int} {j : Nat} {pos : Pos} : PE X (.Constant (.int i) j pos) (tE K cl Δ W (.int i)) := pe_int.imp fun _ _ _ ⟨_, _, _, g, h⟩ => (fin_here g h).int
theorem s_bl {b : Bool} {j : Nat} {pos : Pos} : PE X (.Constant (.bool b) j pos) (tE K cl Δ W (.bl b)) := pe_bl.imp fun _ _ _ ⟨_, _, _, g, h⟩ => (fin_here g h).bl
theorem s_str {x : Str} {j : Nat} {pos : Pos} : PE X (.Constant (.str x) j pos) (tE K cl Δ W (.str x)) := pe_str.imp fun _ _ _ ⟨_, _, _, g, h⟩ => (fin_here g h).str
theorem s_non {j : Nat} {pos : Pos} : PE X (.Constant .none j pos) (tE K cl Δ W .non) := pe_non.imp fun _ _ _ ⟨_, _, _, g, h⟩ => (fin_here g h).same .non fun _ z => nomatch z
theorem s_pow {b e : Nat} {i j : Nat} {p q pos : Pos} (hb : b < 1000) (he : e ≤ 1000) : PE X (.BinOp (.Constant (.int b) i p) .Pow (.Constant (.int e) j q) pos) (tE K cl Δ W (.pow b e)) :=
  (pe_op op_pow pe_int pe_int).imp fun _ _ _ ⟨_, _, _, g, h⟩ => ⟨_, _, rfl, rfl, ⟨by omega, by omega, by omega⟩, (fin_here g h).int⟩
theorem s_var {i : Nat} {x : Str} {pos : Pos} (hN : X.N[i]? = some x) (hv : Vis X.env.scope x) (hd : (x == ("__debug__" : Str)) = false) (hc : (x == ("__classdict__" : Str)) = false) : PE X (.Name x pos) (tE K cl Δ W (.var i)) :=
  (pe_var hN hv hd hc).imp fun σ H Q ⟨env, fe, se, g, h⟩ => by
    cases e : look env i with
    | none => rw [show ev Δ (.var i) env = Res.of (look env i) env from rfl, e] at h; exact h.elim
    | some d =>
      rw [show ev Δ (.var i) env = Res.of (look env i) env from rfl, e] at h
      obtain ⟨v, e1, r⟩ := g.var e
      exact ⟨v, e1, h v H (fe i) (se i) fe se ⟨g, r, Sp0.refl, fun a ha => .inl ⟨i, ha⟩, fun a ha => .inl ⟨i, .inr ha⟩, fun z => (nomatch z), fun _ => ⟨fun _ z => z, fun _ z => z⟩, fun _ => ⟨rfl, rfl, rfl, Grow.refl⟩, fun _ z => by cases z; exact e1⟩⟩
/-- a variable is emptied -/
theorem GE.take {i : Nat} {d : D} (g : GE K cl H env σ fe se) (e : look env i = some d) : ∃ v, σ[i]? = some (some v) ∧ R K cl H d v (fe i) (se i) ∧
    GE K cl H (env.set i .hole) σ (fun j => if j = i then [] else fe j) (fun j => if j = i then [] else se j) ∧ Ext (fun j => if j = i then [] else fe j) (fun j => if j = i then [] else se j) (fe i) (se i) := by
  obtain ⟨v, e1, r⟩ := g.var e
  obtain ⟨e0, _⟩ := look_some e
  have hi : i < env.length := (List.getElem?_eq_some_iff.mp e0).1
  refine ⟨v, e1, r, ⟨by simp [g.len], fun j d' ej => ?_, fun j hj => ?_, fun j => ?_, fun j k a hjk ha => ?_, fun j k a ha => ?_⟩, ⟨g.nd i, fun a ha => g.ds i i a ha, fun a j ha => ?_, fun a j ha => ?_⟩⟩
  · by_cases hj : j = i
    · subst hj
      rw [List.getElem?_set_self hi] at ej; cases ej
      exact .inl ⟨rfl, by simp, by simp⟩
    · rw [List.getElem?_set_ne (Ne.symm hj)] at ej
      simp only [if_neg hj]
      exact g.slot j d' ej
  · have hj : env.length ≤ j := by simpa using hj
    by_cases h : j = i
    · simp [h]
    · simp only [if_neg h]; exact g.out j hj
  · by_cases h : j = i
    · simp [h]
    · simp only [if_neg h]; exact g.nd j
  · by_cases h : j = i
    · simp [h] at ha
    · simp only [if_neg h] at ha
      by_cases h2 : k = i
      · simp [h2]
      · simp only [if_neg h2]; exact g.dj j k a hjk ha
  · by_cases h : j = i
    · simp [h] at ha
    · simp only [if_neg h] at ha
      by_cases h2 : k = i
      · simp [h2]
      · simp only [if_neg h2]; exact g.ds j k a ha
  · by_cases h : j = i
    · simp [h]
    · simp only [if_neg h]; exact ⟨g.dj i j a (Ne.symm h) ha, g.ds i j a ha⟩
  · by_cases h : j = i
    · simp [h]
    · simp only [if_neg h]; exact fun z => g.ds j i a z ha
theorem s_mv {i : Nat} {x : Str} {pos : Pos} (hN : X.N[i]? = some x) (hv : Vis X.env.scope x) (hd : (x == ("__debug__" : Str)) = false) (hc : (x == ("__classdict__" : Str)) = false) : PE X (.Name x pos) (tE K cl Δ W (.mv i)) :=
  (pe_var hN hv hd hc).imp fun σ H Q ⟨env, fe, se, g, h⟩ => by
    have h : PostE K cl W false true 0 none (match look env i with | some d => .ok d (env.set i .hole) | none => .bad) env σ H fe se Q := h
    cases e : look env i with
    | none => rw [e] at h; exact h.elim
    | some d =>
      rw [e] at h
      obtain ⟨v, e1, r, g2, x2⟩ := g.take e
      refine ⟨v, e1, h v H (fe i) (se i) _ _ ⟨g2, r, ⟨fun _ _ q _ => q, fun j a ha => .inl ⟨j, ?_⟩, fun j a ha => .inl ⟨j, .inr ?_⟩⟩, fun a ha => .inl ⟨i, ha⟩, fun a ha => .inl ⟨i, .inr ha⟩, fun _ => x2, fun z => (nomatch z), fun z => (nomatch z), fun _ z => (nomatch z)⟩⟩
      · by_cases q : j = i
        · simp [q] at ha
        · simpa only [if_neg q] using ha
      · by_cases q : j = i
        · simp [q] at ha
        · simpa only [if_neg q] using ha
theorem s_neg {a : E} {x : Expr} {pos : Pos} (ha : PE X x (tE K cl Δ W a)) : PE X (.UnaryOp .USub x pos) (tE K cl Δ W (.neg a)) :=
  (pe_un un_neg ha).imp fun σ H Q ⟨env, fe, se, g, h⟩ => one (a := a) (G := fun d => (toI d).map fun i => .int (-i)) rfl g h fun d1 v1 H2 f1 s1 d r e po => by
    cases d1 <;> first | cases e | skip
    rename_i i
    exact ⟨i, r.int_inv, po.int⟩
theorem s_bin {o : Bop} {a b : E} {x y : Expr} {pos : Pos} (hK : X.K = K) (ha : PE X x (tE K cl Δ W a)) (hb : PE X y (tE K cl Δ W b)) : PE X (.BinOp x (oper o) y pos) (tE K cl Δ W (.bin o a b)) :=
  (pe_op (ob o) ha hb).imp fun σ H Q ⟨env, fe, se, g, h⟩ => two (G := bop o) rfl g h fun d1 d2 v1 v2 H2 f1 s1 f2 s2 d r1 r2 e po => by rw [hK]; exact bop_ok r1 r2 e po
theorem cop_po {o : Cop} {d1 d2 d : D} {v1 v2 : V} {f1 s1 f2 s2 : List Addr} {sP : Addr → Prop} {Q : VK} (r1 : R K cl H d1 v1 f1 s1) (r2 : R K cl H d2 v2 f2 s2) (e : (cop o d1 d2).map D.bl = some d) (h : PO (K := K) (cl := cl) H sP d Q) : rC K o v1 v2 H Q := by
  obtain ⟨b, e1, rfl⟩ := Option.map_eq_some_iff.mp e
  exact cop_ok r1 r2 e1 h.bl
theorem s_cmp {o : Cop} {a b : E} {x y : Expr} {pos : Pos} (hK : X.K = K) (hu : X.A.units + 64 < cLine) (ha : PE X x (tE K cl Δ W a)) (hb : PE X y (tE K cl Δ W b)) (hm : behindInMarks (coper o) y = false) : PE X (.Compare x [coper o] [y] pos) (tE K cl Δ W (.cmp o a b)) :=
  (pe_cmpR (oc hu o) ha hb hm).imp fun σ H Q ⟨env, fe, se, g, h⟩ => two (G := fun x y => (cop o x y).map .bl) rfl g h fun d1 d2 v1 v2 H2 f1 s1 f2 s2 d r1 r2 e po => by rw [hK]; exact cop_po r1 r2 e po
theorem s_chain {o p : Cop} {a b c : E} {x y z : Expr} {pos : Pos} (hK : X.K = K) (hu : X.A.units + 64 < cLine) (ha : PE X x (tE K cl Δ W a)) (hb : PE X y (tE K cl Δ W b)) (hc : PE X z (tE K cl Δ W c)) (hm : lastMarks [coper o, coper p] [y, z] = false) :
    PE X (.Compare x [coper o, coper p] [y, z] pos) (tE K cl Δ W (.chain o p a b c)) :=
  (pe_chain (oc hu o) (oc hu p) ha hb hc hm).imp fun σ H Q ⟨env, fe, se, g, h⟩ => by
    have hl : ∀ i x, x ∈ fe i → ∃ o, H x = some o := fun i x hx => g.live (.inl hx)
    refine ⟨env, fe, se, g, bindE g Sp0.refl h fun d1 env1 v1 H1 f1 s1 fe1 se1 e1 F1 h1 => ?_⟩
    refine ⟨env1, fe1, se1, F1.ge, bindE g F1.st h1 fun d2 env2 v2 H2 f2 s2 fe2 se2 e2 F2 h2 => ?_⟩
    have st := F1.st.trans F2.st hl
    split at h2
    · rename_i e3
      obtain ⟨d1', e3, e4⟩ := Option.bind_eq_some_iff.mp e3
      obtain ⟨f1', s1', o1⟩ := opd F1 F2.ge F2.st F2.pure e3 hl
      rw [hK]
      refine cop_ok o1.rv F2.rv e4 ⟨true, rfl, ?_⟩
      rw [if_pos rfl]
      refine ⟨env2, fe2, se2, F2.ge, bindE g st h2 fun d3 env3 v3 H3 f3 s3 fe3 se3 e5 F3 h3 => ?_⟩
      obtain ⟨d, ed, h4⟩ := Res.of_post h3
      obtain ⟨d2', e6, ed⟩ := Option.bind_eq_some_iff.mp ed
      obtain ⟨f2', s2', o2⟩ := opd F2 F3.ge F3.st F3.pure e6 fun i x hx => F1.ge.live (.inl hx)
      have st3 := st.trans F3.st hl
      refine cop_po o2.rv F3.rv ed (sP := fun _ => False) (fin_prim g F3.ge st3 (fun z => ?_) (fun _ z => z.elim) (fun _ z => z.elim) (fun _ _ z => z.elim) h4)
      have z : (ef a || (ef b || ef c)) = false := z
      obtain ⟨z1, z⟩ := Bool.or_eq_false_iff.mp z
      obtain ⟨z2, z3⟩ := Bool.or_eq_false_iff.mp z
      exact ((F1.pure z1).trans (F2.pure z2)).trans (F3.pure z3)
    · rename_i e3
      obtain ⟨d1', e3, e4⟩ := Option.bind_eq_some_iff.mp e3
      obtain ⟨f1', s1', o1⟩ := opd F1 F2.ge F2.st F2.pure e3 hl
      rw [hK]
      refine cop_ok o1.rv F2.rv e4 ⟨false, rfl, ?_⟩
      rw [if_neg Bool.false_ne_true]
      refine (fin_prim (sP := fun _ => False) g F2.ge st (fun z => ?_) (fun _ z => z.elim) (fun _ z => z.elim) (fun _ _ z => z.elim) h2).bl
      have z : (ef a || (ef b || ef c)) = false := z
      obtain ⟨z1, z⟩ := Bool.or_eq_false_iff.mp z
      obtain ⟨z2, z3⟩ := Bool.or_eq_false_iff.mp z
      exact (F1.pure z1).trans (F2.pure z2)
    · exact h2.elim
end
end Vi

set_option Elab.async false
set_option linter.all false
set_option maxRecDepth 100000
set_option maxHeartbeats 2000000
/-! Vi8: expressions, form by form, further ones. -/
namespace Vi
open PySem PySem.Spec L2
section
variable {K : PySem.W.Frag} {cl : Nat → Addr} {W : WX} {Δ : Dl} {X : Cx} {H H1 H2 H3 : Hp} {env env1 env2 : List D} {σ : St} {fe se fe1 se1 fe2 se2 : Nat → List Addr}
/-! ### tests -/
theorem bindT {res : Res D} {k : D → List D → Res D} {w1 p1 p : Bool} {r1 : Nat} {x1 : Option Nat} {N : VK} {Q : Bool → Hp → Prop} (g : GE K cl H env σ fe se) (st : Sp0 H fe se H1 fe1 se1) (h : PostT K cl W p (res.bind k) env σ H fe se Q)
    (hk : ∀ d env2 v H2 f s fe2 se2, res = .ok d env2 → Fi K cl w1 p1 r1 x1 env1 σ H1 fe1 se1 d env2 v H2 f s fe2 se2 → PostT K cl W p (k d env2) env σ H fe se Q → N v H2) :
    PostE K cl W w1 p1 r1 x1 res env1 σ H1 fe1 se1 N := by
  cases res with
  | ok d e => exact fun v H' f s fe' se' F => hk d e v H' f s fe' se' rfl F h
  | err _ e => exact fun cls dd H' fe' se' a b c => h cls dd H' fe' se' a b (st.trans c fun i x hx => g.live (.inl hx))
  | bad => exact h
theorem bindTT {res : Res D} {k : D → List D → Res D} {p1 p : Bool} {N Q : Bool → Hp → Prop} (g : GE K cl H env σ fe se) (st : Sp0 H fe se H1 fe1 se1) (h : PostT K cl W p (res.bind k) env σ H fe se Q)
    (hb : ∀ d env2, PostT K cl W p (k d env2) env σ H fe se Q → ∃ b, d = .bl b)
    (hk : ∀ b env2 H2 fe2 se2, res = .ok (.bl b) env2 → GE K cl H2 env2 σ fe2 se2 → Sp0 H1 fe1 se1 H2 fe2 se2 → (p1 = false → Pur env1 H1 fe1 se1 env2 H2 fe2 se2) → PostT K cl W p (k (.bl b) env2) env σ H fe se Q → N b H2) :
    PostT K cl W p1 res env1 σ H1 fe1 se1 N := by
  cases res with
  | ok d e =>
    obtain ⟨b, rfl⟩ := hb d e h
    exact ⟨b, rfl, fun H' fe' se' g2 st2 pu => hk b e H' fe' se' rfl g2 st2 pu h⟩
  | err _ e => exact fun cls dd H' fe' se' a b c => h cls dd H' fe' se' a b (st.trans c fun i x hx => g.live (.inl hx))
  | bad => exact h
theorem bindTE {res : Res D} {k : D → List D → Res D} {p1 w p : Bool} {r : Nat} {x : Option Nat} {N : Bool → Hp → Prop} {Q : VK} (g : GE K cl H env σ fe se) (st : Sp0 H fe se H1 fe1 se1) (h : PostE K cl W w p r x (res.bind k) env σ H fe se Q)
    (hb : ∀ d env2, PostE K cl W w p r x (k d env2) env σ H fe se Q → ∃ b, d = .bl b)
    (hk : ∀ b env2 H2 fe2 se2, res = .ok (.bl b) env2 → GE K cl H2 env2 σ fe2 se2 → Sp0 H1 fe1 se1 H2 fe2 se2 → (p1 = false → Pur env1 H1 fe1 se1 env2 H2 fe2 se2) → PostE K cl W w p r x (k (.bl b) env2) env σ H fe se Q → N b H2) :
    PostT K cl W p1 res env1 σ H1 fe1 se1 N := by
  cases res with
  | ok d e =>
    obtain ⟨b, rfl⟩ := hb d e h
    exact ⟨b, rfl, fun H' fe' se' g2 st2 pu => hk b e H' fe' se' rfl g2 st2 pu h⟩
  | err _ e => exact fun cls dd H' fe' se' a b c => h cls dd H' fe' se' a b (st.trans c fun i x hx => g.live (.inl hx))
  | bad => exact h
/-- an expression that is a truth, as a test -/
theorem tT_tE {e : E} {σ : St} {H : Hp} {Q : Bool → Hp → Prop} (h : tT K cl Δ W e σ H Q) : tE K cl Δ W e σ H fun x H1 => ∃ c, x = .bl c ∧ Q c H1 := by
  obtain ⟨env, fe, se, g, h⟩ := h
  refine ⟨env, fe, se, g, ?_⟩
  cases q : ev Δ e env with
  | ok d env' =>
    rw [q] at h
    obtain ⟨b, rfl, h⟩ := h
    exact fun v H' f s fe' se' F => ⟨b, F.rv.bl_inv, h H' fe' se' F.ge F.st F.pure⟩
  | err x env' => rw [q] at h; exact h
  | bad => rw [q] at h; exact h
theorem t_val {e : E} {x : Expr} (hx : PE X x (tE K cl Δ W e)) (he : ∀ whole, isTrue x X.env whole = (do let v ← whole; standAt x.pos; holding [v] (truthy v))) : PT X x (tT K cl Δ W e) :=
  (pt_val hx he).imp fun _ _ _ h => tT_tE h
theorem t_cmp {o : Cop} {a b : E} {x y : Expr} {pos : Pos} (hK : X.K = K) (hu : X.A.units + 64 < cLine) (ha : PE X x (tE K cl Δ W a)) (hb : PE X y (tE K cl Δ W b)) (hm : behindInMarks (coper o) y = false) : PT X (.Compare x [coper o] [y] pos) (tT K cl Δ W (.cmp o a b)) :=
  (pt_cmpR (oc hu o) ha hb hm).imp fun σ H Q h => by
    obtain ⟨env, fe, se, g, h⟩ := tT_tE h
    exact two (G := fun x y => (cop o x y).map .bl) rfl g h fun d1 d2 v1 v2 H2 f1 s1 f2 s2 d r1 r2 e po => by rw [hK]; exact cop_po r1 r2 e po
theorem t_not {a : E} {x : Expr} {pos : Pos} (ha : PT X x (tT K cl Δ W a)) : PT X (.UnaryOp .Not x pos) (tT K cl Δ W (.not a)) :=
  (pt_not ha).imp fun σ H Q ⟨env, fe, se, g, h⟩ => by
    refine ⟨env, fe, se, g, bindTT (k := fun d e => (match d with | .bl b => .ok (.bl (!b)) e | _ => .bad)) g Sp0.refl h (fun d e q => ?_) fun b env2 H2 fe2 se2 e1 g2 st pu q => ?_⟩
    · cases d <;> first | exact q.elim | exact ⟨_, rfl⟩
    · obtain ⟨c, ec, q⟩ := q
      cases ec
      exact q H2 fe2 se2 g2 st pu
theorem s_not {a : E} {x : Expr} {pos : Pos} (ha : PE X x (tE K cl Δ W a)) : PE X (.UnaryOp .Not x pos) (tE K cl Δ W (.not a)) :=
  (pe_not ha).imp fun σ H Q ⟨env, fe, se, g, h⟩ => by
    refine ⟨env, fe, se, g, bindE (k := fun d e => (match d with | .bl b => .ok (.bl (!b)) e | _ => .bad)) g Sp0.refl h fun d1 env1 v1 H1 f1 s1 fe1 se1 e1 F1 h1 => ?_⟩
    cases d1 <;> first | exact h1.elim | skip
    rename_i b
    exact ⟨b, F1.rv.bl_inv, (fin_prim (sP := fun _ => False) g F1.ge F1.st F1.pure (fun _ z => z.elim) (fun _ z => z.elim) (fun _ _ z => z.elim) h1).bl⟩
/-! ### and, or -/
theorem evn_one {e : E} {k : Bool} : evn Δ k (.cons e .nil) env = (ev Δ e env).bind fun d e1 => (match d with
    | .bl b => .ok (.bl b) e1
    | _ => .bad) := by
  show ((ev Δ e env).bind fun d e1 => _) = _
  congr 1
  funext d e1
  cases d <;> try rfl
  rename_i b
  show (if b = k then Res.ok (D.bl k) e1 else Res.ok (D.bl (!k)) e1) = Res.ok (D.bl b) e1
  cases b <;> cases k <;> rfl
def bkop : Bool → BoolOp
  | true => .And
  | false => .Or
theorem n_one {e : E} {x : Expr} {k : Bool} {pos : Pos} (hx : PE X x (tE K cl Δ W e)) : PE X (.BoolOp (bkop k) [x] pos) (tAn K cl Δ W k (.cons e .nil)) :=
  (pe_one hx).imp fun σ H Q ⟨env, fe, se, g, h⟩ => by
    rw [evn_one] at h
    refine ⟨env, fe, se, g, bindE g Sp0.refl h fun d1 env1 v1 H1 f1 s1 fe1 se1 e1 F1 h1 => ?_⟩
    cases d1 <;> first | exact h1.elim | skip
    rename_i b
    rw [F1.rv.bl_inv]
    exact (fin_prim (sP := fun _ => False) g F1.ge F1.st (fun z => F1.pure (Bool.or_eq_false_iff.mp z).1) (fun _ z => z.elim) (fun _ z => z.elim) (fun _ _ z => z.elim) h1).bl
theorem n_cons {e : E} {es : Es} {x y : Expr} {r : List Expr} {k : Bool} {pos : Pos} (hx : PE X x (tE K cl Δ W e)) (hr : PE X (.BoolOp (bkop k) (y :: r) pos) (tAn K cl Δ W k es)) :
    PE X (.BoolOp (bkop k) (x :: y :: r) pos) (tAn K cl Δ W k (.cons e es)) := by
  have main : ∀ σ H Q, tAn K cl Δ W k (.cons e es) σ H Q → tE K cl Δ W e σ H fun v H1 => ∃ c, v = .bl c ∧ if c = k then tAn K cl Δ W k es σ H1 Q else Q (.bl (!k)) H1 := fun σ H Q ⟨env, fe, se, g, h⟩ => by
    have h : PostE K cl W false (ef e || efs es) 0 none ((ev Δ e env).bind fun d e1 => (match d with
      | .bl b => if b = k then evn Δ k es e1 else .ok (.bl (!k)) e1
      | _ => .bad)) env σ H fe se Q := h
    refine ⟨env, fe, se, g, bindE g Sp0.refl h fun d1 env1 v1 H1 f1 s1 fe1 se1 e1 F1 h1 => ?_⟩
    cases d1 <;> first | exact h1.elim | skip
    rename_i b
    refine ⟨b, F1.rv.bl_inv, ?_⟩
    have h1 : PostE K cl W false (ef e || efs es) 0 none (if b = k then evn Δ k es env1 else .ok (.bl (!k)) env1) env σ H fe se Q := h1
    by_cases hb : b = k
    · rw [if_pos hb] at h1 ⊢
      refine ⟨env1, fe1, se1, F1.ge, ?_⟩
      have hl : ∀ i x, x ∈ fe i → ∃ o, H x = some o := fun i x hx => g.live (.inl hx)
      cases q : evn Δ k es env1 with
      | ok d env2 =>
        rw [q] at h1
        intro v2 H2 f2 s2 fe2 se2 F2
        refine h1 v2 H2 f2 s2 fe2 se2 ⟨F2.ge, F2.rv, F1.st.trans F2.st hl, fun a ha => ?_, fun a ha => ?_, F2.ext, fun z => (nomatch z), fun z => ?_, fun _ z => (nomatch z)⟩
        · rcases F2.vo a ha with ⟨j, z⟩ | z
          · exact F1.st.eo j a z
          · exact F1.st.fresh z
        · rcases F2.vs a ha with ⟨j, z | z⟩ | z
          · exact (F1.st.eo j a z).imp (fun ⟨k, q⟩ => ⟨k, .inl q⟩) id
          · exact F1.st.es j a z
          · exact (F1.st.fresh z).imp (fun ⟨k, q⟩ => ⟨k, .inl q⟩) id
        · obtain ⟨z1, z2⟩ := Bool.or_eq_false_iff.mp z
          exact (F1.pure z1).trans (F2.pure z2)
      | err x env2 => rw [q] at h1; exact fun cls dd H' fe' se' a b c => h1 cls dd H' fe' se' a b (F1.st.trans c hl)
      | bad => rw [q] at h1; exact h1
    · rw [if_neg hb] at h1 ⊢
      exact (fin_prim (sP := fun _ => False) g F1.ge F1.st (fun z => F1.pure (Bool.or_eq_false_iff.mp z).1) (fun _ z => z.elim) (fun _ z => z.elim) (fun _ _ z => z.elim) h1).bl
  cases k with
  | true => exact (pe_and hx hr).imp fun σ H Q h => main σ H Q h
  | false =>
    refine (pe_or hx hr).imp fun σ H Q h => ?_
    obtain ⟨env, fe, se, g, q⟩ := main σ H Q h
    refine ⟨env, fe, se, g, ?_⟩
    cases q' : ev Δ e env with
    | ok d env2 =>
      rw [q'] at q
      intro v2 H2 f2 s2 fe2 se2 F2
      obtain ⟨c, ec, h2⟩ := q v2 H2 f2 s2 fe2 se2 F2
      refine ⟨c, ec, ?_⟩
      cases c with
      | true => exact h2
      | false => exact h2
    | err x env2 => rw [q'] at q; exact q
    | bad => rw [q'] at q; exact q
theorem m_one {e : E} {x : Expr} {k : Bool} {pos : Pos} (hx : PT X x (tT K cl Δ W e)) : PW X (.BoolOp (bkop k) [x] pos) (tAt K cl Δ W k (.cons e .nil)) := by
  have main : ∀ σ H Q, tAt K cl Δ W k (.cons e .nil) σ H Q → tT K cl Δ W e σ H Q := fun σ H Q ⟨env, fe, se, g, h⟩ => by
    rw [evn_one] at h
    refine ⟨env, fe, se, g, bindTT g Sp0.refl h (fun d e q => ?_) fun b env2 H2 fe2 se2 e1 g2 st pu q => ?_⟩
    · cases d <;> first | exact q.elim | exact ⟨_, rfl⟩
    · obtain ⟨c, ec, q⟩ := q
      cases ec
      exact q H2 fe2 se2 g2 st fun z => pu (Bool.or_eq_false_iff.mp z).1
  cases k with
  | true => exact (pw_and1 hx).imp main
  | false => exact (pw_or1 hx).imp main
theorem m_cons {e : E} {es : Es} {x y : Expr} {r : List Expr} {k : Bool} {pos : Pos} (hx : PT X x (tT K cl Δ W e)) (hr : PW X (.BoolOp (bkop k) (y :: r) pos) (tAt K cl Δ W k es)) :
    PW X (.BoolOp (bkop k) (x :: y :: r) pos) (tAt K cl Δ W k (.cons e es)) := by
  have main : ∀ σ H Q, tAt K cl Δ W k (.cons e es) σ H Q → tT K cl Δ W e σ H fun c H1 => if c = k then tAt K cl Δ W k es σ H1 Q else Q (!k) H1 := fun σ H Q ⟨env, fe, se, g, h⟩ => by
    have h : PostT K cl W (ef e || efs es) ((ev Δ e env).bind fun d e1 => (match d with
      | .bl b => if b = k then evn Δ k es e1 else .ok (.bl (!k)) e1
      | _ => .bad)) env σ H fe se Q := h
    refine ⟨env, fe, se, g, bindTT g Sp0.refl h (fun d e q => ?_) fun b env2 H2 fe2 se2 e1 g2 st pu h1 => ?_⟩
    · cases d <;> first | exact q.elim | exact ⟨_, rfl⟩
    have h1 : PostT K cl W (ef e || efs es) (if b = k then evn Δ k es env2 else .ok (.bl (!k)) env2) env σ H fe se Q := h1
    by_cases hb : b = k
    · rw [if_pos hb] at h1 ⊢
      refine ⟨env2, fe2, se2, g2, ?_⟩
      have hl : ∀ i x, x ∈ fe i → ∃ o, H x = some o := fun i x hx => g.live (.inl hx)
      cases q : evn Δ k es env2 with
      | ok d env3 =>
        rw [q] at h1
        obtain ⟨c, rfl, h1⟩ := h1
        exact ⟨c, rfl, fun H' fe' se' g3 st3 pu3 => h1 H' fe' se' g3 (st.trans st3 hl) fun z => (pu (Bool.or_eq_false_iff.mp z).1).trans (pu3 (Bool.or_eq_false_iff.mp z).2)⟩
      | err x env3 => rw [q] at h1; exact fun cls dd H' fe' se' a b c => h1 cls dd H' fe' se' a b (st.trans c hl)
      | bad => rw [q] at h1; exact h1
    · rw [if_neg hb] at h1 ⊢
      obtain ⟨c, ec, q⟩ := h1
      cases ec
      exact q H2 fe2 se2 g2 st fun z => pu (Bool.or_eq_false_iff.mp z).1
  cases k with
  | true => exact (pw_and hx hr).imp fun σ H Q h => main σ H Q h
  | false =>
    refine (pw_or hx hr).imp fun σ H Q h => ?_
    obtain ⟨env, fe, se, g, q⟩ := main σ H Q h
    refine ⟨env, fe, se, g, ?_⟩
    cases q' : ev Δ e env with
    | ok d env2 =>
      rw [q'] at q
      obtain ⟨c, ec, q⟩ := q
      refine ⟨c, ec, fun H2 fe2 se2 g2 st pu => ?_⟩
      have h2 := q H2 fe2 se2 g2 st pu
      cases c with
      | true => exact h2
      | false => exact h2
    | err x env2 => rw [q'] at q; exact q
    | bad => rw [q'] at q; exact q
/-- what was said of the later part, said of the whole -/
theorem Fi.behind {w p p1 : Bool} {r : Nat} {x : Option Nat} {d : D} {v : V} {f s : List Addr} (g : GE K cl H env σ fe se) (st : Sp0 H fe se H1 fe1 se1) (pu : p1 = false → Pur env H fe se env1 H1 fe1 se1) (F : Fi K cl w p r x env1 σ H1 fe1 se1 d env2 v H2 f s fe2 se2) :
    Fi K cl w (p1 || p) r x env σ H fe se d env2 v H2 f s fe2 se2 := by
  have hl : ∀ i x, x ∈ fe i → ∃ o, H x = some o := fun i x hx => g.live (.inl hx)
  refine ⟨F.ge, F.rv, st.trans F.st hl, fun a ha => ?_, fun a ha => ?_, F.ext, F.view, fun z => ?_, F.vr⟩
  · rcases F.vo a ha with ⟨j, z⟩ | z
    · exact st.eo j a z
    · exact st.fresh z
  · rcases F.vs a ha with ⟨j, z | z⟩ | z
    · exact (st.eo j a z).imp (fun ⟨k, q⟩ => ⟨k, .inl q⟩) id
    · exact st.es j a z
    · exact (st.fresh z).imp (fun ⟨k, q⟩ => ⟨k, .inl q⟩) id
  · obtain ⟨z1, z2⟩ := Bool.or_eq_false_iff.mp z
    exact (pu z1).trans (F.pure z2)
/-- a kept value is no longer a seen one -/
theorem Fi.kept {e : E} {p : Bool} {r : Nat} {x : Option Nat} {d d' : D} {v : V} {f s : List Addr} (F : Fi K cl (vw e) p r x env σ H fe se d env2 v H2 f s fe2 se2) (h : own e d = some d') : d' = d ∧ Fi K cl false p 0 none env σ H fe se d env2 v H2 f s fe2 se2 := by
  unfold own at h
  have key : d' = d ∧ (vw e = true → imm d = true) := by
    split at h
    · split at h
      · rename_i hi
        cases h
        exact ⟨rfl, fun _ => hi⟩
      · cases h
    · rename_i hv
      cases h
      exact ⟨rfl, fun z => absurd z hv⟩
  exact ⟨key.1, F.ge, F.rv, F.st, F.vo, F.vs, fun _ => F.still key.2, fun z => (nomatch z), F.pure, fun _ z => (nomatch z)⟩
theorem s_ite {c a b : E} {x y z : Expr} {pos : Pos} (hc : PT X x (tT K cl Δ W c)) (ha : PE X y (tE K cl Δ W a)) (hb : PE X z (tE K cl Δ W b)) : PE X (.IfExp x y z pos) (tE K cl Δ W (.ite c a b)) :=
  (pe_ifExp hc ha hb).imp fun σ H Q ⟨env, fe, se, g, h⟩ => by
    refine ⟨env, fe, se, g, bindTE (k := fun d e => (match d with
      | .bl true => (ev Δ a e).bind fun d e => Res.of (own a d) e
      | .bl false => (ev Δ b e).bind fun d e => Res.of (own b d) e
      | _ => .bad)) g Sp0.refl h (fun d e q => ?_) fun k env2 H2 fe2 se2 e1 g2 st pu q => ?_⟩
    · cases d <;> first | exact q.elim | exact ⟨_, rfl⟩
    · have fin : ∀ (t : E), (∀ z : ef (.ite c a b) = false, ef c = false ∧ ef t = false) → PostE K cl W false (ef (.ite c a b)) 0 none ((ev Δ t env2).bind fun d e => Res.of (own t d) e) env σ H fe se Q → tE K cl Δ W t σ H2 Q := fun t ht q => by
        refine ⟨env2, fe2, se2, g2, bindE g st q fun d1 env1 v1 H1 f1 s1 fe1 se1 e1 F1 h1 => ?_⟩
        obtain ⟨d, ed, h3⟩ := Res.of_post h1
        obtain ⟨rfl, F2⟩ := F1.kept ed
        have F3 := F2.behind g st (p1 := ef c) pu
        exact h3 v1 H1 f1 s1 fe1 se1 ⟨F3.ge, F3.rv, F3.st, F3.vo, F3.vs, F3.ext, F3.view, fun z => F3.pure (by rw [(ht z).1, (ht z).2]; rfl), F3.vr⟩
      cases k with
      | true =>
        rw [if_pos rfl]
        exact fin a (fun z => ⟨(Bool.or_eq_false_iff.mp z).1, (Bool.or_eq_false_iff.mp (Bool.or_eq_false_iff.mp z).2).1⟩) q
      | false =>
        rw [if_neg Bool.false_ne_true]
        exact fin b (fun z => ⟨(Bool.or_eq_false_iff.mp z).1, (Bool.or_eq_false_iff.mp (Bool.or_eq_false_iff.mp z).2).2⟩) q
/-! ### displays -/
theorem es_nil : PA X [] (tEs K cl Δ W .nil) := pa_nil.imp fun σ H Q ⟨env, fe, se, g, h⟩ =>
  h [] H [] [] fe se ⟨g, .nil, Sp0.refl, fun _ z => (nomatch z), fun _ z => (nomatch z), ⟨List.nodup_nil, fun _ z => (nomatch z), fun _ _ z => (nomatch z), fun _ _ z => (nomatch z)⟩, fun _ => ⟨rfl, rfl, rfl, Grow.refl⟩⟩
/-- two values beside one another -/
theorem Ext.both {f1 s1 f2 s2 : List Addr} {d1 : D} {v1 : V} (r1 : R K cl H1 d1 v1 f1 s1) (x1 : Ext fe1 se1 f1 s1) (x1' : Ext fe2 se2 f1 s1) (x2 : Ext fe2 se2 f2 s2) (vo : ∀ a, a ∈ f2 → (∃ j, a ∈ fe1 j) ∨ H1 a = none) (vs : ∀ a, a ∈ s2 → (∃ j, a ∈ fe1 j ∨ a ∈ se1 j) ∨ H1 a = none) :
    Ext fe2 se2 (f1 ++ f2) (s1 ++ s2) := by
  have n12 : ∀ a, a ∈ f1 → a ∉ f2 := fun a h1 h2 => by
    obtain ⟨o, e⟩ := R.live _ r1 a (.inl h1)
    rcases vo a h2 with ⟨j, z⟩ | z
    · exact (x1.fx a j h1).1 z
    · rw [e] at z; cases z
  refine ⟨List.nodup_append.mpr ⟨x1.nd, x2.nd, fun a h1 b h2 e => n12 a h1 (e ▸ h2)⟩, fun a h1 h2 => ?_, fun a i h => ?_, fun a i h => ?_⟩
  · rcases List.mem_append.mp h1 with h1 | h1 <;> rcases List.mem_append.mp h2 with h2 | h2
    · exact x1.fs a h1 h2
    · obtain ⟨o, e⟩ := R.live _ r1 a (.inl h1)
      rcases vs a h2 with ⟨j, z | z⟩ | z
      · exact (x1.fx a j h1).1 z
      · exact (x1.fx a j h1).2 z
      · rw [e] at z; cases z
    · obtain ⟨o, e⟩ := R.live _ r1 a (.inr h2)
      rcases vo a h1 with ⟨j, z⟩ | z
      · exact x1.sx a j h2 z
      · rw [e] at z; cases z
    · exact x2.fs a h1 h2
  · exact (List.mem_append.mp h).elim (x1'.fx a i) (x2.fx a i)
  · exact (List.mem_append.mp h).elim (x1'.sx a i) (x2.sx a i)
theorem es_cons {e : E} {es : Es} {x : Expr} {xs : List Expr} (hn : nost x = true) (hx : PE X x (tE K cl Δ W e)) (hr : PA X xs (tEs K cl Δ W es)) : PA X (x :: xs) (tEs K cl Δ W (.cons e es)) :=
  (pa_cons hx hr (star_of hn)).imp fun σ H Q ⟨env, fe, se, g, h⟩ => by
    have hl : ∀ i x, x ∈ fe i → ∃ o, H x = some o := fun i x hx => g.live (.inl hx)
    have h : PostS K cl W (ef e || efs es) ((ev Δ e env).bind fun d e1 => (match own e d with
      | some d => (evs Δ es e1).bind fun ds e2 => .ok (d :: ds) e2
      | none => .bad)) env σ H fe se Q := h
    refine ⟨env, fe, se, g, ?_⟩
    cases q : ev Δ e env with
    | err x env2 => rw [q] at h; exact h
    | bad => rw [q] at h; exact h
    | ok d env1 =>
      rw [q] at h
      intro v1 H1 f1 s1 fe1 se1 F1
      have h2 : PostS K cl W (ef e || efs es) (match own e d with
        | some d => (evs Δ es env1).bind fun ds e2 => .ok (d :: ds) e2
        | none => .bad) env σ H fe se Q := h
      cases eo : own e d with
      | none => rw [eo] at h2; exact h2.elim
      | some d' =>
        rw [eo] at h2
        obtain ⟨rfl, F1⟩ := F1.kept eo
        refine ⟨env1, fe1, se1, F1.ge, ?_⟩
        cases q2 : evs Δ es env1 with
        | err x env2 => rw [q2] at h2; exact fun cls dd H' fe' se' a b c => h2 cls dd H' fe' se' a b (F1.st.trans c hl)
        | bad => rw [q2] at h2; exact h2
        | ok ds env2 =>
          rw [q2] at h2
          intro vs H2 f2 s2 fe2 se2 F2
          obtain ⟨r1, x1⟩ := (F1.ext rfl).stays F1.ge F1.rv F2.st
          refine h2 (v1 :: vs) H2 (f1 ++ f2) (s1 ++ s2) fe2 se2 ⟨F2.ge, .cons r1 F2.rv, F1.st.trans F2.st hl, fun a ha => ?_, fun a ha => ?_, Ext.both F1.rv (F1.ext rfl) x1 F2.ext F2.vo F2.vs, fun z => ?_⟩
          · rcases List.mem_append.mp ha with ha | ha
            · exact F1.vo a ha
            · rcases F2.vo a ha with ⟨j, z⟩ | z
              · exact F1.st.eo j a z
              · exact F1.st.fresh z
          · rcases List.mem_append.mp ha with ha | ha
            · exact F1.vs a ha
            · rcases F2.vs a ha with ⟨j, z | z⟩ | z
              · exact (F1.st.eo j a z).imp (fun ⟨k, q⟩ => ⟨k, .inl q⟩) id
              · exact F1.st.es j a z
              · exact (F1.st.fresh z).imp (fun ⟨k, q⟩ => ⟨k, .inl q⟩) id
          · obtain ⟨z1, z2⟩ := Bool.or_eq_false_iff.mp z
            exact (F1.pure z1).trans (F2.pure z2)
/-- a new object over kept values -/
theorem Fis.put {p : Bool} {ds : List D} {vs : List V} {f s : List Addr} {d : D} {o : HO} {a : Addr} {f' : List Addr} (g : GE K cl H env σ fe se) (F : Fis K cl p env σ H fe se ds env2 vs H2 f s fe2 se2) (hn : H2 a = none) (hf : f' = f ∨ f' = a :: f)
    (r : R K cl (upd H2 a o) d (.ref a) f' s) : Fi K cl false p 0 none env σ H fe se d env2 (.ref a) (upd H2 a o) f' s fe2 se2 := by
  have gr : Grow H2 (upd H2 a o) := Grow.upd hn
  have no : ∀ b, b ∈ f' → b ∈ f ∨ b = a := fun b hb => by
    rcases hf with rfl | rfl
    · exact .inl hb
    · exact (List.mem_cons.mp hb).symm
  have na : ∀ b, (b ∈ f ∨ b ∈ s) → b ≠ a := fun b hb e => by
    subst e
    obtain ⟨o, q⟩ := Rs.live _ F.rv b hb
    rw [hn] at q; cases q
  have ne : ∀ i, a ∉ fe2 i ∧ a ∉ se2 i := fun i => by
    constructor
    · intro z
      obtain ⟨o, q⟩ := F.ge.live (.inl z)
      rw [hn] at q; cases q
    · intro z
      obtain ⟨o, q⟩ := F.ge.live (.inr z)
      rw [hn] at q; cases q
  refine ⟨F.ge.grow gr, r, F.st.grow gr, fun b hb => ?_, F.vs, fun _ => ⟨?_, fun b hb hs => ?_, fun b i hb => ?_, F.ext.sx⟩, fun z => (nomatch z), fun z => ?_, fun _ z => (nomatch z)⟩
  · rcases no b hb with hb | rfl
    · exact F.vo b hb
    · exact F.st.fresh hn
  · rcases hf with rfl | rfl
    · exact F.ext.nd
    · exact List.nodup_cons.mpr ⟨fun z => na a (.inl z) rfl, F.ext.nd⟩
  · rcases no b hb with hb | rfl
    · exact F.ext.fs b hb hs
    · exact na b (.inr hs) rfl
  · rcases no b hb with hb | rfl
    · exact F.ext.fx b i hb
    · exact ne i
  · obtain ⟨a, b, c, d⟩ := F.pure z
    exact ⟨a, b, c, d.trans gr⟩
theorem s_disp {es : Es} {G : List D → D} {σ : St} {Q : VK} {N : List V → Hp → Prop} (g : GE K cl H env σ fe se)
    (h : PostE K cl W false (efs es) 0 none ((evs Δ es env).bind fun ds e => if ds.length ≤ sizeL then .ok (G ds) e else .bad) env σ H fe se Q)
    (hk : ∀ ds vs env2 H2 f s fe2 se2, ds.length ≤ sizeL → Fis K cl (efs es) env σ H fe se ds env2 vs H2 f s fe2 se2 → PostE K cl W false (efs es) 0 none (.ok (G ds) env2) env σ H fe se Q → N vs H2) :
    tEs K cl Δ W es σ H N := by
  refine ⟨env, fe, se, g, ?_⟩
  cases q : evs Δ es env with
  | err x env2 => rw [q] at h; exact h
  | bad => rw [q] at h; exact h
  | ok ds env2 =>
    rw [q] at h
    intro vs H2 f s fe2 se2 F
    have h : PostE K cl W false (efs es) 0 none (if ds.length ≤ sizeL then .ok (G ds) env2 else .bad) env σ H fe se Q := h
    split at h
    · rename_i hz
      exact hk ds vs env2 H2 f s fe2 se2 hz F h
    · exact h.elim
theorem s_tup {es : Es} {xs : List Expr} {k : Nat} {pos : Pos} (hs : PA X xs (tEs K cl Δ W es)) : PE X (.Tuple xs k pos) (tE K cl Δ W (.tup es)) :=
  (pe_tup hs).imp fun σ H Q ⟨env, fe, se, g, h⟩ => s_disp g h fun ds vs env2 H2 f s fe2 se2 hz F h => by
    refine ⟨by rw [← F.rv.length, ← sizeL_eq]; exact hz, fun p np => ?_⟩
    exact h _ _ f s fe2 se2 (F.put g np (.inl rfl) (.tup (.inl (.inl upd_same)) (F.rv.grow (Grow.upd np))))
theorem s_lst {es : Es} {xs : List Expr} {pos : Pos} (hs : PA X xs (tEs K cl Δ W es)) : PE X (.List xs pos) (tE K cl Δ W (.lst es)) :=
  (pe_lst hs).imp fun σ H Q ⟨env, fe, se, g, h⟩ => s_disp g h fun ds vs env2 H2 f s fe2 se2 hz F h => by
    refine ⟨by rw [← F.rv.length, ← sizeL_eq]; exact hz, fun p np => ?_⟩
    exact h _ _ (p :: f) s fe2 se2 (F.put g np (.inr rfl) (.own rfl (by show upd H2 p _ p = _; exact upd_same) (F.rv.grow (Grow.upd np))))
end
end Vi

set_option Elab.async false
set_option linter.all false
set_option maxRecDepth 100000
set_option maxHeartbeats 2000000
/-! Vi9: subscripts, slices, attributes, built-ins. -/
namespace Vi
open PySem PySem.Spec L2
section
variable {K : PySem.W.Frag} {cl : Nat → Addr} {W : WX} {Δ : Dl} {X : Cx} {H H1 H2 H3 : Hp} {env env1 env2 : List D} {σ : St} {fe se fe1 se1 fe2 se2 : Nat → List Addr}
theorem Rs.at {xs : List D} {vs : List V} {f s : List Addr} {i : Int} {n : Nat} {d : D} (h : Rs K cl H xs vs f s) (e : L2.ixN xs.length i = some n) (e2 : xs[n]? = some d) :
    ∃ v fd sd, atI vs i = some v ∧ R K cl H d v fd sd ∧ (∀ b, b ∈ fd → b ∈ f) ∧ (∀ b, b ∈ sd → b ∈ s) ∧ (f.Nodup → fd.Nodup) := by
  obtain ⟨v, fd, sd, h1, h2, h3, h4, h5⟩ := R.child h e2
  refine ⟨v, fd, sd, ?_, h2, h3, h4, h5⟩
  unfold atI
  rw [← h.length, e]
  exact h1
theorem Rs.at' {xs : List D} {vs : List V} {f s : List Addr} {n : Nat} {d : D} (h : Rs K cl H xs vs f s) (e2 : xs[n]? = some d) :
    ∃ v fd sd, vs[n]? = some v ∧ R K cl H d v fd sd ∧ (∀ b, b ∈ fd → b ∈ f) ∧ (∀ b, b ∈ sd → b ∈ s) ∧ (f.Nodup → fd.Nodup) := R.child h e2
/-- a[i]: the value found, by values -/
theorem ix_ok {x i d : D} {v1 v2 : V} {f1 s1 f2 s2 : List Addr} {Q : VK} (r1 : R K cl H x v1 f1 s1) (r2 : R K cl H i v2 f2 s2) (e : ix x i = some d)
    (h : ∀ v fd sd, R K cl H d v fd sd → (∀ b, b ∈ fd → b ∈ f1) → (∀ b, b ∈ sd → b ∈ s1) → (f1.Nodup → fd.Nodup) → Q v H) : rIx K v1 v2 H Q ∨ ViD.rIxD K v1 v2 H Q := by
  unfold ix at e
  split at e
  · rename_i k xs i'
    split at e
    · rename_i n e1
      unfold kid at e1
      split at e1
      · obtain ⟨a, vs, rfl, q, w⟩ := r1.tupl
        obtain ⟨v, fd, sd, e3, r, h1, h2, h3⟩ := w.at e1 e
        exact .inl (.inr (.inl ⟨a, vs, _, v, rfl, r2.int_inv, q, e3, h v fd sd r h1 h2 h3⟩))
      · obtain ⟨a, vs, f', s', rfl, q, w, m1, m2, m3⟩ := r1.lst0
        obtain ⟨v, fd, sd, e3, r, h1, h2, h3⟩ := w.at e1 e
        exact .inl (.inl ⟨a, vs, _, v, rfl, r2.int_inv, q, e3, h v fd sd r (fun b z => m1 b (h1 b z)) (fun b z => m2 b (h2 b z)) fun z => h3 (m3 z)⟩)
      · cases e1
    · unfold ixD at e
      split at e
      · split at e
        · rename_i q0 e0
          obtain ⟨b0, rfl, sq⟩ := r2.key e0
          obtain ⟨a, vs, f', s', rfl, hd, hl, w, m1, m2, m3⟩ := r1.dct
          obtain ⟨n, v, g1, g2, g3⟩ := (kGet_val hl w.length).1 _ e
          obtain ⟨v', fd, sd, e3, r, h1, h2, h3⟩ := w.at' g1
          rw [g2] at e3
          cases e3
          exact .inr ⟨a, v, rfl, ⟨_, _, _, .inl hd, rfl, sq, g3.symm⟩, h v fd sd r (fun b z => m1 b (h1 b z)) (fun b z => m2 b (h2 b z)) fun z => h3 (m3 z)⟩
        · cases e
      · cases e
  · split at e
    · rename_i hz
      obtain ⟨c, e1, rfl⟩ := Option.map_eq_some_iff.mp e
      exact .inl <| .inr (.inr ⟨_, _, c, r1.str_inv, r2.int_inv, by rw [← sizeL_eq]; exact hz, e1, h _ [] [] (.str _) (fun _ z => (nomatch z)) (fun _ z => (nomatch z)) fun _ => List.nodup_nil⟩)
    · cases e
  · cases e
/-- .. it is a seen one, or stands beside -/
theorem opdV {a : E} {p p2 : Bool} {d d' : D} {v : V} {f s : List Addr} (F : Fi K cl (vw a) p (rt a) (varOf a) env σ H fe se d env1 v H1 f s fe1 se1)
    (g2 : GE K cl H2 env2 σ fe2 se2) (st : Sp0 H1 fe1 se1 H2 fe2 se2) (pu : p2 = false → Pur env1 H1 fe1 se1 env2 H2 fe2 se2) (e : reV a p2 d env2 = some d') (hl : ∀ i x, x ∈ fe i → ∃ o, H x = some o) :
    ∃ f' s', R K cl H2 d' v f' s' ∧ (vw a = false → Ext fe2 se2 f' s') ∧ (vw a = true → (∀ b, b ∈ f' → b ∈ fe2 (rt a)) ∧ ∀ b, b ∈ s' → b ∈ se2 (rt a)) ∧
      (∀ b, b ∈ f' → (∃ j, b ∈ fe j) ∨ H b = none) ∧ ∀ b, b ∈ s' → (∃ j, b ∈ fe j ∨ b ∈ se j) ∨ H b = none := by
  unfold reV at e
  by_cases hc : (vw a && p2) = true
  · rw [if_pos hc] at e
    obtain ⟨h1, h2⟩ := Bool.and_eq_true_iff.mp hc
    split at e
    · rename_i i
      obtain ⟨v', e1, r1⟩ := g2.var e
      rw [F.vr i rfl] at e1; cases e1
      exact ⟨_, _, r1, fun z => (nomatch z), fun _ => ⟨fun _ z => z, fun _ z => z⟩, fun b hb => (F.st.trans st hl).eo i b hb, fun b hb => (F.st.trans st hl).es i b hb⟩
    · cases e
  · rw [if_neg hc] at e
    cases e
    cases hw : vw a with
    | false =>
      obtain ⟨r1, x1⟩ := (F.ext hw).stays F.ge F.rv st
      exact ⟨f, s, r1, fun _ => x1, fun z => (nomatch z), F.vo, F.vs⟩
    | true =>
      have h2 : p2 = false := by
        rw [hw] at hc; simpa using hc
      obtain ⟨rfl, rfl, rfl, gr⟩ := pu h2
      exact ⟨f, s, F.rv.grow gr, fun z => (nomatch z), fun _ => F.view hw, F.vo, F.vs⟩
theorem s_idx {a i : E} {x y : Expr} {pos : Pos} (hu : X.A.units + 64 < cLine) (hK : X.K = K) (ha : PE X x (tE K cl Δ W a)) (hi : PE X y (tE K cl Δ W i)) (hs : PlainIx y) : PE X (.Subscript x y pos) (tE K cl Δ W (.idx a i)) :=
  (pe_ix (ix_seq.or (ViD.ix_dict (by omega))) ha hi hs).imp fun σ H Q ⟨env, fe, se, g, h⟩ => by
    have hl : ∀ i x, x ∈ fe i → ∃ o, H x = some o := fun i x hx => g.live (.inl hx)
    have h : PostE K cl W (vw a) (ef a || ef i) (rt a) none ((ev Δ a env).bind fun x e1 => (ev Δ i e1).bind fun y e2 => Res.of ((reV a (ef i) x e2).bind fun x => ix x y) e2) env σ H fe se Q := h
    refine ⟨env, fe, se, g, bindE g Sp0.refl h fun d1 env1 v1 H1 f1 s1 fe1 se1 e1 F1 h1 => ?_⟩
    refine ⟨env1, fe1, se1, F1.ge, bindE g F1.st h1 fun d2 env2 v2 H2 f2 s2 fe2 se2 e2 F2 h2 => ?_⟩
    obtain ⟨d, ed, h3⟩ := Res.of_post h2
    obtain ⟨d1', e3, ed⟩ := Option.bind_eq_some_iff.mp ed
    have st := F1.st.trans F2.st hl
    obtain ⟨f', s', r1, k1, k2, k3, k4⟩ := opdV F1 F2.ge F2.st F2.pure e3 hl
    rw [hK]
    refine ix_ok r1 F2.rv ed fun v fd sd r m1 m2 m3 => h3 v H2 fd sd fe2 se2 ⟨F2.ge, r, st, fun b hb => k3 b (m1 b hb), fun b hb => k4 b (m2 b hb), fun z => ?_, fun z => ?_, fun z => ?_, fun _ z => (nomatch z)⟩
    · obtain ⟨n, x1, x2, x3⟩ := k1 z
      exact ⟨m3 n, fun b h1 h2 => x1 b (m1 b h1) (m2 b h2), fun b j h => x2 b j (m1 b h), fun b j h => x3 b j (m2 b h)⟩
    · obtain ⟨q1, q2⟩ := k2 z
      exact ⟨fun b hb => q1 b (m1 b hb), fun b hb => q2 b (m2 b hb)⟩
    · obtain ⟨z1, z2⟩ := Bool.or_eq_false_iff.mp z
      exact (F1.pure z1).trans (F2.pure z2)
/-! ### slices -/
theorem Rs.take {xs : List D} {vs : List V} {f s : List Addr} : ∀ (n : Nat) {xs : List D} {vs : List V} {s : List Addr}, Rs K cl H xs vs [] s → ∃ s', Rs K cl H (xs.take n) (vs.take n) [] s' ∧ ∀ a, a ∈ s' → a ∈ s
  | 0, _, _, _, _ => ⟨[], .nil, fun _ z => (nomatch z)⟩
  | n + 1, _, _, _, h => by
    generalize hf : ([] : List Addr) = f0 at h
    cases h with
    | nil => exact ⟨[], .nil, fun _ z => (nomatch z)⟩
    | @cons d ds v vs' f1 f2 s1 s2 h1 h2 =>
      obtain ⟨rfl, rfl⟩ := List.append_eq_nil_iff.mp hf.symm
      obtain ⟨s', r, q⟩ := Rs.take (f := []) (s := []) (xs := []) (vs := []) n h2
      exact ⟨s1 ++ s', Rs.cons h1 r, fun a ha => (List.mem_append.mp ha).elim (List.mem_append_left _) fun z => List.mem_append_right _ (q a z)⟩
theorem Rs.drop : ∀ (n : Nat) {xs : List D} {vs : List V} {s : List Addr}, Rs K cl H xs vs [] s → ∃ s', Rs K cl H (xs.drop n) (vs.drop n) [] s' ∧ ∀ a, a ∈ s' → a ∈ s
  | 0, _, _, s, h => ⟨s, h, fun _ z => z⟩
  | n + 1, _, _, _, h => by
    generalize hf : ([] : List Addr) = f0 at h
    cases h with
    | nil => exact ⟨[], .nil, fun _ z => (nomatch z)⟩
    | @cons d ds v vs' f1 f2 s1 s2 h1 h2 =>
      obtain ⟨rfl, rfl⟩ := List.append_eq_nil_iff.mp hf.symm
      obtain ⟨s', r, q⟩ := Rs.drop n h2
      exact ⟨s', r, fun a ha => List.mem_append_right _ (q a ha)⟩
theorem Rs.cut {xs : List D} {vs : List V} {s : List Addr} (lo hi : Option Int) (h : Rs K cl H xs vs [] s) : ∃ s', Rs K cl H (cutL xs lo hi) (cutV vs lo hi) [] s' ∧ ∀ a, a ∈ s' → a ∈ s := by
  unfold cutL cutV
  rw [← h.length]
  obtain ⟨s1, r1, q1⟩ := Rs.drop (HT.sIx xs.length 0 lo) h
  obtain ⟨s2, r2, q2⟩ := Rs.take (f := []) (s := []) (xs := []) (vs := []) (HT.sIx xs.length xs.length hi - HT.sIx xs.length 0 lo) r1
  exact ⟨s2, r2, fun a ha => q1 a (q2 a ha)⟩
theorem cut_ok {x d : D} {lo hi : Option Int} {v1 : V} {f1 s1 : List Addr} {sP : Addr → Prop} {Q : VK} (r1 : R K cl H x v1 f1 s1) (e : cut x lo hi = some d) (hs : ∀ a, a ∈ s1 → sP a) (h : PO (K := K) (cl := cl) H sP d Q) : rSlL K v1 lo hi H Q ∨ rSlU K v1 lo hi H Q := by
  unfold cut at e
  split at e
  · split at e
    · split at e
      · rename_i hi'
        cases e
        obtain ⟨a, vs, s', rfl, q, w, m⟩ := r1.lst hi'
        obtain ⟨s2, r2, q2⟩ := w.cut lo hi
        exact .inl ⟨a, vs, rfl, q, h.list r2 fun b hb => hs b (m b (q2 b hb))⟩
      · cases e
    · split at e
      · rename_i hi'
        cases e
        obtain ⟨a, vs, rfl, q, w⟩ := r1.tupl
        have e := Rs.imm _ w hi'
        subst e
        obtain ⟨s2, r2, q2⟩ := w.cut lo hi
        refine .inr ⟨a, vs, rfl, q, fun z => ?_, fun _ => h.tup r2 fun b hb => hs b (q2 b hb)⟩
        rw [← w.length] at z
        rename_i xs _
        have e1 : cutL xs lo hi = xs := by
          unfold cutL
          rw [z.1, z.2, List.drop_zero, Nat.sub_zero, List.take_length]
        rw [e1] at h
        exact h.same r1 hs
      · cases e
    · cases e
  · cases e
theorem toI_some {d : D} {i : Int} (h : toI d = some i) : d = .int i := by
  cases d <;> first | cases h; rfl | cases h
theorem s_sl10 {a lo : E} {x y : Expr} {p2 pos : Pos} (hK : X.K = K) (ha : PE X x (tE K cl Δ W a)) (hl : PE X y (tE K cl Δ W lo)) : PE X (.Subscript x (.Slice (some y) none none p2) pos) (tE K cl Δ W (.sl10 a lo)) :=
  (pe_slice (sl_list.or sl_tupU) ha (po_some hl) po_none).imp fun σ H Q ⟨env, fe, se, g, h⟩ =>
    two (G := fun x y => (toI y).bind fun i => cut x (some i) none) rfl g h fun d1 d2 v1 v2 H2 f1 s1 f2 s2 d r1 r2 e po => by
      obtain ⟨i, e1, e2⟩ := Option.bind_eq_some_iff.mp e
      have := toI_some e1
      subst this
      refine ⟨i, r2.int_inv, ?_⟩
      rw [hK]
      exact cut_ok r1 e2 (fun a z => .inl z) po
theorem s_sl01 {a hi : E} {x y : Expr} {p2 pos : Pos} (hK : X.K = K) (ha : PE X x (tE K cl Δ W a)) (hl : PE X y (tE K cl Δ W hi)) : PE X (.Subscript x (.Slice none (some y) none p2) pos) (tE K cl Δ W (.sl01 a hi)) :=
  (pe_slice (sl_list.or sl_tupU) ha po_none (po_some hl)).imp fun σ H Q ⟨env, fe, se, g, h⟩ =>
    two (G := fun x y => (toI y).bind fun i => cut x none (some i)) rfl g h fun d1 d2 v1 v2 H2 f1 s1 f2 s2 d r1 r2 e po => by
      obtain ⟨i, e1, e2⟩ := Option.bind_eq_some_iff.mp e
      have := toI_some e1
      subst this
      refine ⟨i, r2.int_inv, ?_⟩
      rw [hK]
      exact cut_ok r1 e2 (fun a z => .inl z) po
theorem s_sl11 {a lo hi : E} {x y z : Expr} {p2 pos : Pos} (hK : X.K = K) (ha : PE X x (tE K cl Δ W a)) (hl : PE X y (tE K cl Δ W lo)) (hh : PE X z (tE K cl Δ W hi)) : PE X (.Subscript x (.Slice (some y) (some z) none p2) pos) (tE K cl Δ W (.sl11 a lo hi)) :=
  (pe_slice (sl_list.or sl_tupU) ha (po_some hl) (po_some hh)).imp fun σ H Q ⟨env, fe, se, g, h⟩ => by
    have hl : ∀ i x, x ∈ fe i → ∃ o, H x = some o := fun i x hx => g.live (.inl hx)
    refine ⟨env, fe, se, g, bindE g Sp0.refl h fun d1 env1 v1 H1 f1 s1 fe1 se1 e1 F1 h1 => ?_⟩
    refine ⟨env1, fe1, se1, F1.ge, bindE g F1.st h1 fun d2 env2 v2 H2 f2 s2 fe2 se2 e2 F2 h2 => ?_⟩
    have st := F1.st.trans F2.st hl
    have hl1 : ∀ i x, x ∈ fe1 i → ∃ o, H1 x = some o := fun i x hx => F1.ge.live (.inl hx)
    cases d2 with
    | int i =>
      refine ⟨i, F2.rv.int_inv, ?_⟩
      refine ⟨env2, fe2, se2, F2.ge, bindE g st h2 fun d3 env3 v3 H3 f3 s3 fe3 se3 e3 F3 h3 => ?_⟩
      obtain ⟨d, ed, h4⟩ := Res.of_post h3
      obtain ⟨d1', e5, ed⟩ := Option.bind_eq_some_iff.mp ed
      obtain ⟨j, e7, ed⟩ := Option.bind_eq_some_iff.mp ed
      have := toI_some e7
      subst this
      refine ⟨j, F3.rv.int_inv, ?_⟩
      have st23 := F2.st.trans F3.st hl1
      have st3 := st.trans F3.st hl
      obtain ⟨f1', s1', o1⟩ := opd F1 F3.ge st23 (fun z => (F2.pure (Bool.or_eq_false_iff.mp z).1).trans (F3.pure (Bool.or_eq_false_iff.mp z).2)) e5 hl
      rw [hK]
      refine cut_ok o1.rv ed (fun a z => z) (fin_prim (sP := fun a => a ∈ s1') g F3.ge st3 (fun z => ?_) (fun x hx => R.live _ o1.rv x (.inr hx)) o1.org (fun x i hx => o1.no x i hx) h4)
      have z : (ef a || (ef lo || ef hi)) = false := z
      obtain ⟨z1, z⟩ := Bool.or_eq_false_iff.mp z
      obtain ⟨z2, z3⟩ := Bool.or_eq_false_iff.mp z
      exact ((F1.pure z1).trans (F2.pure z2)).trans (F3.pure z3)
    | _ => exact h2.elim
/-! ### d.get(y, z) -/
theorem dctA_some {d : D} {ks : List (List Key)} {xs : List D} (h : dctA d = some (ks, xs)) : ∃ o, d = .nd (.dT o ks) xs := by
  unfold dctA at h
  split at h
  · split at h
    · cases h; exact ⟨_, rfl⟩
    · cases h
  · cases h
theorem few2 {e f : Expr} {cpos : Pos} {env : Env} (hn : nost e = true) (hm : nost f = true) : ((backTo cpos (starEach [e, f] env)).all (fun x => !x.1) && (backToKw cpos (keywordEach [] env)).all (fun x => x.1.isSome)
      && decide ([e, f].length + ([] : List Keyword).length + (if ([] : List Keyword).isEmpty then 0 else 1) < 30)) = true := by
  rw [show starEach [e, f] env = (false, eval e env) :: starEach [f] env from star_of hn, show starEach [f] env = (false, eval f env) :: starEach [] env from star_of hm]
  rfl
theorem s_dget {a k w : E} {x y z : Expr} {apos cpos : Pos} (hu : X.A.units + 64 < cLine) (hK : X.K = K) (hx : PE X x (tE K cl Δ W a)) (hy : PE X y (tE K cl Δ W k)) (hz : PE X z (tE K cl Δ W w)) (ny : nost y = true) (nz : nost z = true)
    (hbase : attributeBase x "get" X.env (eval x X.env) = eval x X.env) (hline : (apos.endLine == cpos.line) = true) : PE X (.Call (.Attribute x "get" apos) [y, z] [] cpos) (tE K cl Δ W (.dget a k w)) :=
  (ViD.pe_get2 (by omega) hx hy hz ⟨hbase, few2 ny nz, hline, by
    rw [show starEach [y, z] X.env = (false, eval y X.env) :: starEach [z] X.env from star_of ny, show starEach [z] X.env = (false, eval z X.env) :: starEach [] X.env from star_of nz]
    rfl⟩).imp fun σ H Q ⟨env, fe, se, g, h⟩ => by
    have hl : ∀ i x, x ∈ fe i → ∃ o, H x = some o := fun i x hx => g.live (.inl hx)
    have h : PostE K cl W false (ef a || (ef k || ef w)) 0 none (if ef k || ef w then .bad else (ev Δ a env).bind fun m e1 => (match dctA m with
      | some (ks, xs) => (ev Δ k e1).bind fun y e2 => (ev Δ w e2).bind fun z e3 => Res.of (dgo ks xs y z) e3
      | none => .bad)) env σ H fe se Q := h
    by_cases hp : (ef k || ef w) = true
    · rw [if_pos hp] at h; exact h.elim
    · rw [if_neg hp] at h
      obtain ⟨hk, hw⟩ := Bool.or_eq_false_iff.mp (Bool.eq_false_iff.mpr hp)
      refine ⟨env, fe, se, g, bindE g Sp0.refl h fun d1 env1 v1 H1 f1 s1 fe1 se1 e1 F1 h1 => ?_⟩
      split at h1
      · rename_i ks xs ed
        obtain ⟨o, rfl⟩ := dctA_some ed
        obtain ⟨b0, vs0, _, _, rfl, hd0, _⟩ := F1.rv.dct
        refine ⟨b0, _, rfl, .inl hd0, env1, fe1, se1, F1.ge, bindE g F1.st h1 fun d2 env2 v2 H2 f2 s2 fe2 se2 e2 F2 h2 => ?_⟩
        have st2 := F1.st.trans F2.st hl
        have hl1 : ∀ i x, x ∈ fe1 i → ∃ o, H1 x = some o := fun i x hx => F1.ge.live (.inl hx)
        refine ⟨env2, fe2, se2, F2.ge, bindE g st2 h2 fun d3 env3 v3 H3 f3 s3 fe3 se3 e3 F3 h3 => ?_⟩
        obtain ⟨d, eg, h4⟩ := Res.of_post h3
        have st3 := st2.trans F3.st hl
        have st23 := F2.st.trans F3.st hl1
        have pu := (F2.pure hk).trans (F3.pure hw)
        obtain ⟨f1', s1', o1⟩ := opd (p2 := false) F1 F3.ge st23 (fun _ => pu) (show re a false (.nd (.dT o ks) xs) env3 = some (.nd (.dT o ks) xs) by unfold re; rw [Bool.and_false]; rfl) hl
        have r2 : R K cl H3 d2 v2 f2 s2 := F2.rv.grow (F3.pure hw).grow
        unfold dgo at eg
        split at eg
        · rename_i q eq
          obtain ⟨kb, rfl, sq⟩ := r2.key eq
          obtain ⟨b, vs, f', s', rb, hd, hlen, wv, m1, m2, m3⟩ := o1.rv.dct
          cases rb
          obtain ⟨a1, a2⟩ := kGet_val (q := q) hlen wv.length
          rw [hK]
          refine ⟨_, ⟨_, _, _, .inl hd, rfl, sq, rfl⟩, ?_⟩
          split at eg
          · rename_i d0 e0
            split at eg
            · rename_i hi
              cases eg
              obtain ⟨n, v, g1, g2, g3⟩ := a1 _ e0
              obtain ⟨v', fd, sd, e5, r, q1, q2, q3⟩ := wv.at' g1
              rw [g2] at e5
              cases e5
              rw [g3]
              have e6 := R.imm _ r hi
              subst e6
              exact (fin_prim (sP := fun a => a ∈ s1') g F3.ge st3 (fun z => by
                obtain ⟨z1, z2⟩ := Bool.or_eq_false_iff.mp z
                exact (F1.pure z1).trans pu) (fun x hx => R.live _ o1.rv x (.inr hx)) o1.org (fun x i hx => o1.no x i hx) h4).same r fun c hc => m2 c (q2 c hc)
            · cases eg
          · rename_i e0
            split at eg
            · rename_i hi
              cases eg
              rw [a2 e0]
              have e6 := R.imm _ F3.rv hi
              subst e6
              refine (fin_prim (sP := fun a => a ∈ s3) g F3.ge st3 (fun z => ?_) (fun x hx => R.live _ F3.rv x (.inr hx)) (fun x hx => ?_) (fun x i hx => F3.noS x i hx) h4).same F3.rv fun _ z => z
              · obtain ⟨z1, z2⟩ := Bool.or_eq_false_iff.mp z
                exact (F1.pure z1).trans pu
              · rcases F3.vs x hx with ⟨j, z | z⟩ | z
                · exact (st2.eo j x z).imp (fun ⟨k, q⟩ => ⟨k, .inl q⟩) id
                · exact st2.es j x z
                · exact (st2.fresh z).imp (fun ⟨k, q⟩ => ⟨k, .inl q⟩) id
            · cases eg
        · cases eg
      · exact h1.elim
/-! ### built-ins by their names -/
theorem s_b1 {o : B1} {a : E} {x : Expr} {p pos : Pos} (hu : X.A.units + 64 < cLine) (hK : X.K = K) (hc : X.calm = true) (hn : nost x = true) (hg : Gl X (b1nm o)) (hm : X.mg (b1nm o) = none) (ho : o ≠ .lrev ∧ o ≠ .strue ∧ o ≠ .stri) (ha : PE X x (tE K cl Δ W a)) :
    PE X (.Call (.Name (b1nm o) p) [x] [] pos) (tE K cl Δ W (.b1 o a)) := by
  have fin : ∀ σ H Q, tE K cl Δ W (.b1 o a) σ H Q → tCB (rB1 X.K o) (tCons (tE K cl Δ W a) tNil) σ H Q := fun σ H Q ⟨env, fe, se, g, h⟩ =>
    one (G := b1op o) (N := fun v H1 => rB1 X.K o [v] H1 Q) rfl g h fun d1 v1 H2 f1 s1 d r e po => by rw [hK]; exact b1_ok r e po
  have st : starEach (x :: []) X.env = (false, eval x X.env) :: starEach [] X.env := star_of hn
  cases o with
  | len => exact (pe_callB (b1_call hc hu .len) hg hm (by decide +kernel) (pa_cons ha pa_nil st) (by decide) (by decide) st).imp fin
  | sum => exact (pe_callB (b1_call hc hu .sum) hg hm (by decide +kernel) (pa_cons ha pa_nil st) (by decide) (by decide) st).imp fin
  | mn => exact (pe_callB (b1_call hc hu .mn) hg hm (by decide +kernel) (pa_cons ha pa_nil st) (by decide) (by decide) st).imp fin
  | mx => exact (pe_callB (b1_call hc hu .mx) hg hm (by decide +kernel) (pa_cons ha pa_nil st) (by decide) (by decide) st).imp fin
  | abs => exact (pe_callB (b1_call hc hu .abs) hg hm (by decide +kernel) (pa_cons ha pa_nil st) (by decide) (by decide) st).imp fin
  | int => exact (pe_callTy (b1_call hc hu .int) hg hm (by decide +kernel) (pa_cons ha pa_nil st) (by decide) (by decide) st).imp fin
  | all => exact (pe_callB (b1_call hc hu .all) hg hm (by decide +kernel) (pa_cons ha pa_nil st) (by decide) (by decide) st).imp fin
  | any => exact (pe_callB (b1_call hc hu .any) hg hm (by decide +kernel) (pa_cons ha pa_nil st) (by decide) (by decide) st).imp fin
  | lis => exact (pe_callTy (b1_call hc hu .lis) hg hm (by decide +kernel) (pa_cons ha pa_nil st) (by decide) (by decide) st).imp fin
  | tup => exact (pe_callTy (b1_call hc hu .tup) hg hm (by decide +kernel) (pa_cons ha pa_nil st) (by decide) (by decide) st).imp fin
  | srt => exact (pe_callB (b1_call hc hu .srt) hg hm (by decide +kernel) (pa_cons ha pa_nil st) (by decide) (by decide) st).imp fin
  | lrev => exact absurd rfl ho.1
  | strue => exact absurd rfl ho.2.1
  | stri => exact absurd rfl ho.2.2
def b2nm : B2 → Str
  | .mn => "min"
  | .mx => "max"
theorem s_b2 {o : B2} {a b : E} {x y : Expr} {p pos : Pos} (hc : X.calm = true) (hn : nost x = true) (hn2 : nost y = true) (hg : Gl X (b2nm o)) (hm : X.mg (b2nm o) = none) (ha : PE X x (tE K cl Δ W a)) (hb : PE X y (tE K cl Δ W b)) :
    PE X (.Call (.Name (b2nm o) p) [x, y] [] pos) (tE K cl Δ W (.b2 o a b)) := by
  have st : starEach [x, y] X.env = (false, eval x X.env) :: starEach [y] X.env := star_of hn
  have st2 : starEach [y] X.env = (false, eval y X.env) :: starEach [] X.env := star_of hn2
  have pl : (backTo pos (starEach [y] X.env)).any (·.1) = false := any_star (by show (nost y && true) = true; rw [hn2]; rfl)
  have pa := pa_cons ha (pa_cons hb pa_nil st2) st
  cases o with
  | mn =>
    refine (pe_callB (call_min2 hc) hg hm (by decide +kernel) pa (by decide) (by decide) st pl).imp fun σ H Q ⟨env, fe, se, g, h⟩ => two (G := b2op .mn) rfl g h fun d1 d2 v1 v2 H2 f1 s1 f2 s2 d r1 r2 e po => ?_
    cases d1 <;> cases d2 <;> first | cases e | skip
    exact ⟨_, _, by rw [r1.int_inv, r2.int_inv], po.int⟩
  | mx =>
    refine (pe_callB (call_max2 hc) hg hm (by decide +kernel) pa (by decide) (by decide) st pl).imp fun σ H Q ⟨env, fe, se, g, h⟩ => two (G := b2op .mx) rfl g h fun d1 d2 v1 v2 H2 f1 s1 f2 s2 d r1 r2 e po => ?_
    cases d1 <;> cases d2 <;> first | cases e | skip
    exact ⟨_, _, by rw [r1.int_inv, r2.int_inv], po.int⟩
end
end Vi

set_option Elab.async false
set_option linter.all false
set_option maxRecDepth 100000
set_option maxHeartbeats 2000000
/-! Vi10: isinstance, reversed lists, frozen variables, attributes, new dicts. -/
namespace Vi
open PySem PySem.Spec L2
def tyS : Ty → String
  | .int => "int"
  | .bool => "bool"
  | .str => "str"
  | .list => "list"
  | .tuple => "tuple"
  | .dict => "dict"
def tyN : D → String
  | .non => "NoneType"
  | .bl _ => "bool"
  | .int _ => "int"
  | .str _ => "str"
  | .hole => "?"
  | .nd k _ => (match k with
    | .tup => "tuple"
    | .lst _ => "list"
    | .dK _ _ => "dict"
    | .dT _ _ => "dict"
    | .obj _ _ _ => "?")
section
variable {K : PySem.W.Frag} {cl : Nat → Addr} {W : WX} {Δ : Dl} {X : Cx} {H H1 H2 H3 : Hp} {env env1 env2 : List D} {σ : St} {fe se fe1 se1 fe2 se2 : Nat → List Addr}
theorem R.ty {d : D} {v : V} {f s : List Addr} (h : R K cl H d v f s) (e : okTy d = true) : TyX K H v (.type (tyN d)) := by
  cases h with
  | non => exact .base .non
  | bl b => exact .base (.bl b)
  | int i => exact .base (.int i)
  | str x => exact .base (.str x)
  | tup h1 h2 =>
    rcases h1 with (h1 | ⟨o, h1⟩) | ⟨o, its, n, h1, h2, _⟩
    · exact .base (.tup h1)
    · exact .fTuple h1
    · exact .kTuple h1 h2
  | @own k xs a vs f s h0 h1 h2 =>
    cases k with
    | tup => cases h0
    | lst o =>
      cases o with
      | true => exact .base (.lst h1)
      | false => cases h0
    | dK o ks => exact .base (.dK h1.1)
    | dT o ks => exact .base (.dT h1.1)
    | obj o c ns => cases e
  | @frz k xs a vs s h0 h1 h2 =>
    cases k with
    | tup => cases h0
    | lst o =>
      cases o with
      | true => cases h0
      | false =>
        rcases h1 with h1 | ⟨o, h1⟩
        · exact .base (.lst h1)
        · exact .base (.frz h1)
    | dK o ks => exact .base (.dK h1.1)
    | dT o ks => exact .base (.dT h1.1)
    | obj o c ns => cases e
  | @kst k xs a vs h0 h1 h2 =>
    cases k with
    | lst o =>
      rcases (show SqL K (fun _ => none) a vs from h1) with z | ⟨o, its, n, h1, h2, _⟩
      · rcases z with z | ⟨_, z⟩ <;> cases z
      · exact .kList h1 h2
    | _ => exact h1.elim
theorem kitT_int (t : Ty) : PySem.W.kitOne K (.type "int") (.type (tyS t)) = some (isTy (.int 0) t) := by cases t <;> exact kit_ty (by decide +kernel)
theorem kitT_bool (t : Ty) : PySem.W.kitOne K (.type "bool") (.type (tyS t)) = some (isTy (.bl true) t) := by cases t <;> exact kit_ty (by decide +kernel)
theorem kitT_non (t : Ty) : PySem.W.kitOne K (.type "NoneType") (.type (tyS t)) = some (isTy .non t) := by cases t <;> exact kit_ty (by decide +kernel)
theorem kitT_str (t : Ty) : PySem.W.kitOne K (.type "str") (.type (tyS t)) = some (isTy (.str "") t) := by cases t <;> exact kit_ty (by decide +kernel)
theorem kitT_tup (t : Ty) : PySem.W.kitOne K (.type "tuple") (.type (tyS t)) = some (isTy (.nd .tup []) t) := by cases t <;> exact kit_ty (by decide +kernel)
theorem kitT_lst (t : Ty) : PySem.W.kitOne K (.type "list") (.type (tyS t)) = some (isTy (.nd (.lst true) []) t) := by cases t <;> exact kit_ty (by decide +kernel)
theorem kitT_dct (t : Ty) : PySem.W.kitOne K (.type "dict") (.type (tyS t)) = some (isTy (.nd (.dK true []) []) t) := by cases t <;> exact kit_ty (by decide +kernel)
theorem kit_d {d : D} (h : okTy d = true) (t : Ty) : PySem.W.kitOne K (.type (tyN d)) (.type (tyS t)) = some (isTy d t) := by
  cases d with
  | hole => cases h
  | non => exact kitT_non t
  | bl b => have q := kitT_bool (K := K) t; cases t <;> exact q
  | int i => have q := kitT_int (K := K) t; cases t <;> exact q
  | str x => have q := kitT_str (K := K) t; cases t <;> exact q
  | nd k xs =>
    cases k with
    | tup => have q := kitT_tup (K := K) t; cases t <;> exact q
    | lst o => have q := kitT_lst (K := K) t; cases t <;> exact q
    | dK o ks => have q := kitT_dct (K := K) t; cases t <;> exact q
    | dT o ks => have q := kitT_dct (K := K) t; cases t <;> exact q
    | obj o c ns => cases h
theorem kits_d {d : D} (h : okTy d = true) : ∀ ts : List Ty, PySem.W.kitAny K (.type (tyN d)) (ts.map fun t => .type (tyS t)) = some (ts.any (isTy d))
  | [] => kitAny_nil
  | t :: ts => kitAny_cons (kit_d h t) (fun z => by rw [kits_d h ts]; show _ = some (isTy d t || ts.any (isTy d)); rw [z]; rfl) (fun z => by show (isTy d t || ts.any (isTy d)) = true; rw [z]; rfl)
/-- the names of built-in types -/
theorem p_ty {t : Ty} {p : Pos} (hg : Gl X (tyS t)) (hm : X.mg (tyS t) = none) : PE X (.Name (tyS t) p) (tC (.ty (tyS t))) := by
  cases t <;> exact pe_bltn hg hm (by decide +kernel) rfl
def tTys : List Ty → TA
  | [] => tNil
  | t :: ts => tCons (tC (.ty (tyS t))) (tTys ts)
def tyX (ts : List Ty) (ps : List Pos) : List Expr := (ts.zip ps).map fun q => .Name (tyS q.1) q.2
theorem tTys_q {Q : List V → Hp → Prop} : ∀ {ts : List Ty}, Q (ts.map fun t => .ty (tyS t)) H → tTys ts σ H Q
  | [], h => h
  | t :: ts, h => tTys_q (Q := fun vs H' => Q (.ty (tyS t) :: vs) H') (ts := ts) h
theorem tys_paired : ∀ ts : List Ty, Paired ClsV (ts.map fun t => V.ty (tyS t)) (ts.map fun t => Value.type (tyS t))
  | [] => .nil
  | t :: ts => .cons (.ty _) (tys_paired ts)
theorem s_isi {a : E} {t : Ty} {x : Expr} {p p2 pos : Pos} (hK : X.K = K) (hn : nost x = true) (hg : Gl X "isinstance") (hm : X.mg "isinstance" = none) (hgt : Gl X (tyS t)) (hmt : X.mg (tyS t) = none) (ha : PE X x (tE K cl Δ W a)) :
    PE X (.Call (.Name "isinstance" p) [x, .Name (tyS t) p2] [] pos) (tE K cl Δ W (.isi a [t])) :=
  (pe_callB call_isi hg hm (by decide +kernel) (pa_cons ha (pa_cons (p_ty hgt hmt) pa_nil) (star_of hn)) (by decide) (by decide) (star_of hn)).imp fun σ H Q ⟨env, fe, se, g, h⟩ =>
    one (G := fun x => if okTy x then some (.bl ([t].any (isTy x))) else none) (N := fun v H1 => rIsi X.K [v, .ty (tyS t)] H1 Q) rfl g h fun d1 v1 H2 f1 s1 d r e po => by
      split at e
      · rename_i ho
        cases e
        rw [hK]
        have q := kit_d (K := K) ho t
        exact ⟨v1, .ty (tyS t), _, _, _, rfl, .ty _, r.ty ho, q, by have z := po.bl; simpa using z⟩
      · cases e
theorem s_isiT {a : E} {ts : List Ty} {x : Expr} {xs : List Expr} {k : Nat} {p p2 pos : Pos} (hK : X.K = K) (hn : nost x = true) (hg : Gl X "isinstance") (hm : X.mg "isinstance" = none) (hl : ts.length ≤ 100) (hxs : PA X xs (tTys ts)) (ha : PE X x (tE K cl Δ W a)) :
    PE X (.Call (.Name "isinstance" p) [x, .Tuple xs k p2] [] pos) (tE K cl Δ W (.isi a ts)) :=
  (pe_callB call_isiT hg hm (by decide +kernel) (pa_cons ha (pa_cons (pe_tup hxs) pa_nil) (star_of hn)) (by decide) (by decide) (star_of hn)).imp fun σ H Q ⟨env, fe, se, g, h⟩ =>
    one (G := fun x => if okTy x then some (.bl (ts.any (isTy x))) else none) (N := fun v H1 => tTup (tTys ts) σ H1 fun w H2 => rIsiT X.K [v, w] H2 Q) rfl g h fun d1 v1 H2 f1 s1 d r e po => by
      split at e
      · rename_i ho
        cases e
        rw [hK]
        refine tTys_q (Q := fun vs H' => _) ⟨by rw [List.length_map, sizeLine_eq]; omega, fun p np => ?_⟩
        have gr : Grow H2 (upd H2 p (.tup (ts.map fun t => .ty (tyS t)))) := Grow.upd np
        refine ⟨v1, p, _, _, _, _, rfl, upd_same, ?_, (r.grow gr).ty ho, kits_d (K := K) ho ts, po _ _ [] [] gr (.bl _) List.nodup_nil (fun _ z => (nomatch z)) (fun _ z => (nomatch z))⟩
        exact tys_paired ts
      · cases e
/-! ### a reversed list -/
theorem Rs.rev {xs : List D} {vs : List V} {s : List Addr} : ∀ {xs : List D} {vs : List V} {s : List Addr}, Rs K cl H xs vs [] s → ∃ s', Rs K cl H xs.reverse vs.reverse [] s' ∧ ∀ a, a ∈ s' → a ∈ s
  | [], _, _, h => by cases h; exact ⟨[], .nil, fun _ z => z⟩
  | d :: ds, _, _, h => by
    generalize hf : ([] : List Addr) = f0 at h
    cases h with
    | @cons _ _ v vs' f1 f2 s1 s2 h1 h2 =>
      obtain ⟨rfl, rfl⟩ := List.append_eq_nil_iff.mp hf.symm
      obtain ⟨s', r, q⟩ := Rs.rev (xs := []) (vs := []) (s := []) h2
      rw [List.reverse_cons, List.reverse_cons]
      exact ⟨s' ++ s1, Rs.append r (Rs.one h1), fun a ha => (List.mem_append.mp ha).elim (fun z => List.mem_append_right _ (q a z)) fun z => List.mem_append_left _ z⟩
theorem s_slr {a : E} {x : Expr} {k : Nat} {p1 p2 p3 pos : Pos} (hK : X.K = K) (ha : PE X x (tE K cl Δ W a)) : PE X (.Subscript x (.Slice none none (some (.UnaryOp .USub (.Constant (.int 1) k p1) p2)) p3) pos) (tE K cl Δ W (.slr a)) :=
  (ViR.pe_revT ha).imp fun σ H Q ⟨env, fe, se, g, h⟩ =>
    one (G := rvD) rfl g h fun d1 v1 H2 f1 s1 d r e po => by
      obtain ⟨k0, xs, rfl⟩ : ∃ k0 xs, d1 = .nd k0 xs := by
        cases d1 <;> first | exact ⟨_, _, rfl⟩ | cases e
      unfold rvD at e
      dsimp only at e
      split at e
      · rename_i hi
        split at e
        · cases e
          obtain ⟨b, vs, rfl, q, w⟩ := r.tupl
          have ef := Rs.imm _ w hi
          subst ef
          obtain ⟨s2, r2, q2⟩ := Rs.rev (xs := []) (vs := []) (s := []) w
          rw [hK]
          exact .inl ⟨b, vs, rfl, q, po.tup r2 q2⟩
        · cases e
          obtain ⟨b, vs, s', rfl, q, w, m⟩ := r.lst hi
          obtain ⟨s2, r2, q2⟩ := Rs.rev (xs := []) (vs := []) (s := []) w
          rw [hK]
          exact .inr ⟨b, vs, rfl, q, po.list r2 fun c hc => m c (q2 c hc)⟩
        · cases e
      · cases e
/-! ### a variable frozen -/
theorem GE.freeze {i : Nat} {d : D} (g : GE K cl H env σ fe se) (e : look env i = some d) : ∃ s', (∀ b, b ∈ s' → b ∈ fe i ∨ b ∈ se i) ∧
    GE K cl H (env.set i (frz d)) σ (fun j => if j = i then [] else fe j) (fun j => if j = i then s' else se j) := by
  obtain ⟨v, e1, r⟩ := g.var e
  obtain ⟨e0, _⟩ := look_some e
  have hi : i < env.length := (List.getElem?_eq_some_iff.mp e0).1
  obtain ⟨s', r', m⟩ := R.freeze d r
  refine ⟨s', m, by simp [g.len], fun j d' ej => ?_, fun j hj => ?_, fun j => ?_, fun j k a hjk ha => ?_, fun j k a ha => ?_⟩
  · by_cases hj : j = i
    · subst hj
      rw [List.getElem?_set_self hi] at ej; cases ej
      simp only [if_pos rfl]
      exact .inr ⟨v, e1, r'⟩
    · rw [List.getElem?_set_ne (Ne.symm hj)] at ej
      simp only [if_neg hj]
      exact g.slot j d' ej
  · have hj : env.length ≤ j := by simpa using hj
    have h : j ≠ i := by omega
    simp only [if_neg h]; exact g.out j hj
  · by_cases h : j = i
    · simp [h]
    · simp only [if_neg h]; exact g.nd j
  · by_cases h : j = i
    · simp [h] at ha
    · simp only [if_neg h] at ha
      by_cases h2 : k = i
      · simp [h2]
      · simp only [if_neg h2]; exact g.dj j k a hjk ha
  · by_cases h : j = i
    · simp [h] at ha
    · simp only [if_neg h] at ha
      by_cases h2 : k = i
      · simp only [if_pos h2]
        intro z
        rcases m a z with z | z
        · exact g.dj j i a h ha z
        · exact g.ds j i a ha z
      · simp only [if_neg h2]; exact g.ds j k a ha
theorem s_fz {i : Nat} {a : E} {x : Expr} (ha : PE X x (tE K cl Δ W a)) : PE X x (tE K cl Δ W (.fz i a)) :=
  ha.imp fun σ H Q ⟨env, fe, se, g, h⟩ => by
    have h : PostE K cl W false true 0 none (match look env i with
      | some d => (ev Δ a (env.set i (frz d))).bind fun d e' => Res.of (own a d) e'
      | none => .bad) env σ H fe se Q := h
    cases e : look env i with
    | none => rw [e] at h; exact h.elim
    | some d =>
      rw [e] at h
      obtain ⟨s', m, g2⟩ := g.freeze e
      have st : Sp0 H fe se H (fun j => if j = i then [] else fe j) (fun j => if j = i then s' else se j) := by
        refine ⟨fun _ _ q _ => q, fun j a ha => .inl ⟨j, ?_⟩, fun j a ha => .inl ?_⟩
        · by_cases q : j = i
          · simp [q] at ha
          · simpa only [if_neg q] using ha
        · by_cases q : j = i
          · simp only [if_pos q] at ha
            exact (m a ha).elim (fun z => ⟨i, .inl z⟩) fun z => ⟨i, .inr z⟩
          · simp only [if_neg q] at ha
            exact ⟨j, .inr ha⟩
      refine ⟨_, _, _, g2, bindE g st h fun d1 env1 v1 H1 f1 s1 fe1 se1 e1 F1 h1 => ?_⟩
      obtain ⟨d2, ed, h3⟩ := Res.of_post h1
      obtain ⟨rfl, F2⟩ := F1.kept ed
      have F3 := F2.behind g st (p1 := true) (fun z => (nomatch z))
      exact h3 v1 H1 f1 s1 fe1 se1 F3
/-! ### attributes -/
theorem lookup_zip {f : Str} : ∀ {ns : List Str} {vs : List V} {n : Nat}, posOf f ns = some n → ns.length = vs.length → (ns.zip vs).lookup f = vs[n]?
  | [], _, _, h, _ => by cases h
  | x :: ns, [], _, _, hl => by cases hl
  | x :: ns, v :: vs, n, h, hl => by
    unfold posOf at h
    rw [List.zip_cons_cons, List.lookup_cons]
    by_cases hx : x = f
    · rw [if_pos hx] at h
      cases h
      subst hx
      simp
    · rw [if_neg hx] at h
      have hb : (f == x) = false := beq_eq_false_iff_ne.mpr (Ne.symm hx)
      rw [hb]
      split at h
      · rename_i m hm
        cases h
        have hl : ns.length = vs.length := Nat.succ.inj hl
        rw [List.getElem?_cons_succ]
        exact lookup_zip hm hl
      · cases h
/-- what the module holds of a class -/
structure ClsF (K : PySem.W.Frag) (cl : Nat → Addr) (c : Nat) (fs : List Str) : Prop where
  cls : Cls K (cl c)
  no : ∀ f, f ∈ fs → NoAttr K (cl c) f
theorem s_attr {a : E} {x : Expr} {f : Str} {pos : Pos} (hK : X.K = K) (hcl : ∀ c, Cls K (cl c)) (hno : ∀ c, NoAttr K (cl c) f) (ha : PE X x (tE K cl Δ W a)) (hb : attributeBase x f X.env (eval x X.env) = eval x X.env) : PE X (.Attribute x f pos) (tE K cl Δ W (.attr a f)) :=
  (pe_fld ha hb).imp fun σ H Q ⟨env, fe, se, g, h⟩ => by
    have h : PostE K cl W (vw a) (ef a) (rt a) none ((ev Δ a env).bind fun x e => Res.of (att x f) e) env σ H fe se Q := h
    refine ⟨env, fe, se, g, bindE g Sp0.refl h fun d1 env1 v1 H1 f1 s1 fe1 se1 e1 F1 h1 => ?_⟩
    obtain ⟨d, ed, h3⟩ := Res.of_post h1
    unfold att at ed
    split at ed
    · rename_i o c ns xs
      split at ed
      · rename_i n en
        have key : ∃ p dx vs f' s', v1 = .ref p ∧ H1 p = some (.ins (cl c) dx (ns.zip vs)) ∧ ns.length = vs.length ∧ Rs K cl H1 xs vs f' s' ∧ (∀ b, b ∈ f' → b ∈ f1) ∧ (∀ b, b ∈ s' → b ∈ s1) ∧ (f1.Nodup → f'.Nodup) := by
          cases F1.rv with
          | own h0 h1 h2 => obtain ⟨dx, q1, q2⟩ := h1; exact ⟨_, dx, _, _, _, rfl, q1, q2, h2, fun _ z => List.mem_cons_of_mem _ z, fun _ z => z, fun z => (List.nodup_cons.mp z).2⟩
          | frz h0 h1 h2 => obtain ⟨dx, q1, q2⟩ := h1; exact ⟨_, dx, _, _, _, rfl, q1, q2, h2, fun _ z => z, fun _ z => List.mem_cons_of_mem _ z, id⟩
          | kst h0 h1 h2 => exact h1.elim
        obtain ⟨p, dx, vs, f', s', rfl, q1, q2, w, m1, m2, m3⟩ := key
        obtain ⟨v, fd, sd, e3, r, n1, n2, n3⟩ := R.child w ed
        rw [hK]
        refine ⟨p, cl c, dx, _, v, rfl, q1, hcl c, hno c, by rw [lookup_zip en q2]; exact e3, ?_⟩
        refine h3 v H1 fd sd fe1 se1 ⟨F1.ge, r, F1.st, fun b hb => F1.vo b (m1 b (n1 b hb)), fun b hb => F1.vs b (m2 b (n2 b hb)), fun z => ?_, fun z => ?_, F1.pure, fun _ z => (nomatch z)⟩
        · obtain ⟨x0, x1, x2, x3⟩ := F1.ext z
          exact ⟨n3 (m3 x0), fun b h1 h2 => x1 b (m1 b (n1 b h1)) (m2 b (n2 b h2)), fun b j h => x2 b j (m1 b (n1 b h)), fun b j h => x3 b j (m2 b (n2 b h))⟩
        · obtain ⟨q1, q2⟩ := F1.view z
          exact ⟨fun b hb => q1 b (m1 b (n1 b hb)), fun b hb => q2 b (m2 b (n2 b hb))⟩
      · cases ed
    · cases ed
theorem s_dct {t : Bool} {pos : Pos} : PE X (.Dict [] [] pos) (tE K cl Δ W (.dct t)) := by
  cases t with
  | true =>
    refine pe_dnewT.imp fun σ H Q ⟨env, fe, se, g, h⟩ p np => ?_
    exact fin_here g h _ _ [p] [] (Grow.upd np) (.own rfl ⟨upd_same, rfl⟩ .nil) (by simp) (fun a ha => by
      have e : a = p := by simpa using ha
      rw [e]; exact np) (fun _ z => (nomatch z))
  | false =>
    refine pe_dnewK.imp fun σ H Q ⟨env, fe, se, g, h⟩ p np => ?_
    exact fin_here g h _ _ [p] [] (Grow.upd np) (.own rfl ⟨upd_same, rfl⟩ .nil) (by simp) (fun a ha => by
      have e : a = p := by simpa using ha
      rw [e]; exact np) (fun _ z => (nomatch z))
end
end Vi

set_option Elab.async false
set_option linter.all false
set_option maxRecDepth 100000
set_option maxHeartbeats 2000000
/-! Vi11: places. -/
namespace Vi
open PySem PySem.Spec L2
theorem ixN_lt {n : Nat} {i : Int} {m : Nat} (h : L2.ixN n i = some m) : m < n := by
  exact (L2.ixN_seq h).2.1
theorem posOf_lt {α : Type} [DecidableEq α] {k : α} : ∀ {l : List α} {n : Nat}, posOf k l = some n → n < l.length
  | [], _, h => by cases h
  | x :: r, n, h => by
    unfold posOf at h
    split at h
    · cases h; exact Nat.succ_pos _
    · split at h
      · rename_i m e
        cases h
        exact Nat.succ_lt_succ (posOf_lt e)
      · cases h
theorem getL_frz : ∀ {t : D} {l : List Nat} {k : Kd} {xs : List D} {n : Nat}, getL t l = some (.nd k xs) → k.ow = some false → getL t (l ++ [n]) = none
  | t, [], k, xs, n, h, hk => by
    unfold getL at h
    cases h
    show getL (.nd k xs) [n] = none
    unfold getL
    rw [if_pos hk]
  | t, m :: l, k, xs, n, h, hk => by
    cases t with
    | nd k2 ys =>
      unfold getL at h
      rw [List.cons_append]
      unfold getL
      split at h
      · cases h
      · rename_i h2
        rw [if_neg h2]
        split at h
        · rename_i y hy
          exact getL_frz h hk
        · cases h
    | _ => unfold getL at h; cases h
theorem getL_app : ∀ {t : D} {l : List Nat} {k : Kd} {xs : List D} {n : Nat} {x : D}, getL t l = some (.nd k xs) → k.ow ≠ some false → xs[n]? = some x → getL t (l ++ [n]) = some x
  | t, [], k, xs, n, x, h, hk, e => by
    unfold getL at h
    cases h
    show getL (.nd k xs) [n] = some x
    unfold getL
    rw [if_neg hk, e]
    show getL x [] = some x
    unfold getL
    rfl
  | t, m :: l, k, xs, n, x, h, hk, e => by
    cases t with
    | nd k2 ys =>
      unfold getL at h
      rw [List.cons_append]
      unfold getL
      split at h
      · cases h
      · rename_i h2
        rw [if_neg h2]
        split at h
        · exact getL_app h hk e
        · cases h
    | _ => unfold getL at h; cases h
theorem setL_app : ∀ {t : D} {l : List Nat} {k : Kd} {xs : List D} {n : Nat} {x d' : D}, getL t l = some (.nd k xs) → xs[n]? = some x → setL d' t (l ++ [n]) = setL (.nd k (xs.set n d')) t l
  | t, [], k, xs, n, x, d', h, e => by
    unfold getL at h
    cases h
    show setL d' (.nd k xs) [n] = setL _ _ []
    unfold setL
    rw [e]
    show D.nd k (xs.set n (setL d' x [])) = _
    unfold setL
    rfl
  | t, m :: l, k, xs, n, x, d', h, e => by
    cases t with
    | nd k2 ys =>
      unfold getL at h
      rw [List.cons_append]
      unfold setL
      split at h
      · cases h
      · split at h
        · rename_i h2 _ y hy
          show D.nd k2 (ys.set m (setL d' y (l ++ [n]))) = _
          rw [setL_app h e]
        · cases h
    | _ => unfold getL at h; cases h
section
variable (K : PySem.W.Frag) (cl : Nat → Addr)
/-- a place under a tree, what stands around it -/
structure Foc (H : Hp) (t : D) (v0 : V) (fT sT : List Addr) (l : List Nat) (d : D) (v : V) (f s : List Addr) : Prop where
  gt : getL t l = some d
  rv : R K cl H d v f s
  vt : l = [] → v = v0
  ctx : ∃ ga gb ha hb, fT = ga ++ f ++ gb ∧ sT = ha ++ s ++ hb ∧ ∀ H' d' f' s', (∀ b o, H b = some o → b ∈ ga ∨ b ∈ gb ∨ b ∈ ha ∨ b ∈ hb ∨ immo o → H' b = some o) → R K cl H' d' v f' s' →
    R K cl H' (setL d' t l) v0 (ga ++ f' ++ gb) (ha ++ s' ++ hb)
def PostP (o : Option (Nat × List Nat)) (env : List D) (σ : St) (H : Hp) (fe se : Nat → List Addr) (Q : VK) : Prop := match o with
  | some (r, l) => ∃ t d, look env r = some t ∧ getL t l = some d ∧ ∀ v0 v H' f s, GE K cl H' env σ fe se → Grow H H' → σ[r]? = some (some v0) → Foc K cl H' t v0 (fe r) (se r) l d v f s → Q v H'
  | none => False
def tP (Δ : Dl) (p : E) : TE := fun σ H Q => ∃ env fe se, GE K cl H env σ fe se ∧ PostP K cl (pth Δ p env) env σ H fe se Q
end
section
variable {K : PySem.W.Frag} {cl : Nat → Addr} {W : WX} {Δ : Dl} {X : Cx} {H H1 H2 H3 : Hp} {env env1 env2 : List D} {σ : St} {fe se fe1 se1 fe2 se2 : Nat → List Addr}
theorem Foc.nil {t : D} {v : V} {f s : List Addr} (r : R K cl H t v f s) : Foc K cl H t v f s [] t v f s := by
  refine ⟨by unfold getL; rfl, r, fun _ => rfl, [], [], [], [], by simp, by simp, fun H' d' f' s' _ r' => ?_⟩
  have e : setL d' t [] = d' := by unfold setL; rfl
  rw [e]
  simpa using r'
theorem Foc.grow {t : D} {v0 v : V} {fT sT f s : List Addr} {l : List Nat} {d : D} (F : Foc K cl H t v0 fT sT l d v f s) (g : Grow H H1) : Foc K cl H1 t v0 fT sT l d v f s := by
  obtain ⟨gt, rv, vt, ga, gb, ha, hb, e1, e2, h⟩ := F
  exact ⟨gt, rv.grow g, vt, ga, gb, ha, hb, e1, e2, fun H' d' f' s' q r => h H' d' f' s' (fun b o e z => q b o (g b o e) z) r⟩
/-- a step down -/
theorem Foc.down {t : D} {v0 : V} {fT sT f s : List Addr} {l : List Nat} {k : Kd} {xs : List D} {a : Addr} {vs : List V} {f0 : List Addr} {n : Nat} {x : D} (F : Foc K cl H t v0 fT sT l (.nd k xs) (.ref a) f s) (hk : k.ow ≠ some false) (e : xs[n]? = some x)
    (hf : f = f0 ∧ k.ow = none ∨ f = a :: f0 ∧ k.ow = some true) (hc : Cell K cl H a k vs) (w : Rs K cl H xs vs f0 s) : ∃ v' f' s', vs[n]? = some v' ∧ Foc K cl H t v0 fT sT (l ++ [n]) x v' f' s' := by
  obtain ⟨v', fa, fd, fb, sa, sd, sb, e1, e2, e3, r, w1, w2⟩ := w.split e
  obtain ⟨gt, rv, _, ga, gb, ha, hb, q1, q2, h⟩ := F
  subst e2 e3
  refine ⟨v', fd, sd, e1, getL_app gt hk e, r, fun z => by simp at z, ?_⟩
  have hn : n < xs.length := (List.getElem?_eq_some_iff.mp e).1
  have inner : ∀ {H' : Hp} {d' : D} {f' s' : List Addr}, (∀ b o, H b = some o → b ∈ fa ∨ b ∈ fb ∨ b ∈ sa ∨ b ∈ sb ∨ immo o → H' b = some o) → R K cl H' d' v' f' s' → Rs K cl H' (xs.set n d') vs (fa ++ f' ++ fb) (sa ++ s' ++ sb) := fun q r' => by
    refine Rs.join hn e1 r' (Rs.keep _ w1 fun b o e z => q b o e ?_) (Rs.keep _ w2 fun b o e z => q b o e ?_)
    · rcases z with z | z | z
      · exact .inl z
      · exact .inr (.inr (.inl z))
      · exact .inr (.inr (.inr (.inr z)))
    · rcases z with z | z | z
      · exact .inr (.inl z)
      · exact .inr (.inr (.inr (.inl z)))
      · exact .inr (.inr (.inr (.inr z)))
  rcases hf with ⟨rfl, hk2⟩ | ⟨rfl, hk2⟩
  · refine ⟨ga ++ fa, fb ++ gb, ha ++ sa, sb ++ hb, by simp [q1], by simp [q2], fun H' d' f' s' q r' => ?_⟩
    rw [setL_app gt e]
    have z := h H' (.nd k (xs.set n d')) (fa ++ f' ++ fb) (sa ++ s' ++ sb) (fun b o e z => q b o e (by
      simp only [List.mem_append]
      rcases z with z | z | z | z | z
      · exact .inl (.inl z)
      · exact .inr (.inl (.inr z))
      · exact .inr (.inr (.inl (.inl z)))
      · exact .inr (.inr (.inr (.inl (.inr z))))
      · exact .inr (.inr (.inr (.inr z))))) (by
      have kt : k = .tup := by cases k <;> first | rfl | cases hk2
      subst kt
      exact .tup (SqT.keep hc fun b o e i => q b o e (.inr (.inr (.inr (.inr i))))) (inner (fun b o e z => q b o e (by
        simp only [List.mem_append]
        rcases z with z | z | z | z | z
        · exact .inl (.inr z)
        · exact .inr (.inl (.inl z))
        · exact .inr (.inr (.inl (.inr z)))
        · exact .inr (.inr (.inr (.inl (.inl z))))
        · exact .inr (.inr (.inr (.inr z))))) r'))
    simpa [List.append_assoc] using z
  · refine ⟨ga ++ a :: fa, fb ++ gb, ha ++ sa, sb ++ hb, by simp [q1], by simp [q2], fun H' d' f' s' q r' => ?_⟩
    rw [setL_app gt e]
    have z := h H' (.nd k (xs.set n d')) (a :: (fa ++ f' ++ fb)) (sa ++ s' ++ sb) (fun b o e z => q b o e (by
      simp only [List.mem_append, List.mem_cons]
      rcases z with z | z | z | z | z
      · exact .inl (.inl z)
      · exact .inr (.inl (.inr z))
      · exact .inr (.inr (.inl (.inl z)))
      · exact .inr (.inr (.inr (.inl (.inr z))))
      · exact .inr (.inr (.inr (.inr z))))) (by
      exact .own hk2 (hc.keep fun b o e i => q b o e (by
        simp only [List.mem_append, List.mem_cons]
        rcases i with i | i
        · exact .inl (.inr (.inl i))
        · exact .inr (.inr (.inr (.inr i))))) (inner (fun b o e z => q b o e (by
        simp only [List.mem_append, List.mem_cons]
        rcases z with z | z | z | z | z
        · exact .inl (.inr (.inr z))
        · exact .inr (.inl (.inl z))
        · exact .inr (.inr (.inl (.inr z)))
        · exact .inr (.inr (.inr (.inl (.inl z))))
        · exact .inr (.inr (.inr (.inr z))))) r'))
    simpa [List.append_assoc] using z
theorem p_var {i : Nat} {x : Str} {pos : Pos} (hN : X.N[i]? = some x) (hv : Vis X.env.scope x) (hd : (x == ("__debug__" : Str)) = false) (hc : (x == ("__classdict__" : Str)) = false) : PE X (.Name x pos) (tP K cl Δ (.var i)) :=
  (pe_var hN hv hd hc).imp fun σ H Q ⟨env, fe, se, g, h⟩ => by
    have h : PostP K cl (some (i, [])) env σ H fe se Q := h
    obtain ⟨t, d, e1, e2, h⟩ := h
    obtain ⟨v, e3, r⟩ := g.var e1
    unfold getL at e2
    cases e2
    exact ⟨v, e3, h v v H _ _ g Grow.refl e3 (.nil r)⟩
theorem p_idx {a i : E} {x y : Expr} {pos : Pos} (hK : X.K = K) (ha : PE X x (tP K cl Δ a)) (hi : PE X y (tE K cl Δ W i)) (hs : PlainIx y) : PE X (.Subscript x y pos) (tP K cl Δ (.idx a i)) :=
  (pe_ix ix_seq ha hi hs).imp fun σ H Q ⟨env, fe, se, g, h⟩ => by
    have h : PostP K cl (match pth Δ a env with
      | some (r, l) => (match look env r with
        | some t => (match getL t l with
          | some (.nd k xs) => if ef i then none else (match ev Δ i env with
            | .ok j _ => (match kid k xs.length j with
              | some n => some (r, l ++ [n])
              | none => none)
            | _ => none)
          | _ => none)
        | none => none)
      | none => none) env σ H fe se Q := h
    split at h
    · rename_i r l e1
      split at h
      · rename_i t e2
        split at h
        · rename_i k xs e3
          split at h
          · exact h.elim
          · rename_i hef
            have hef : ef i = false := by simpa using hef
            split at h
            · rename_i j env2 e4
              split at h
              · rename_i n e5
                obtain ⟨t', d, q1, q2, h⟩ := h
                rw [e2] at q1; cases q1
                refine ⟨env, fe, se, g, ?_⟩
                rw [e1]
                refine ⟨t, _, e2, e3, fun v0 v H1 f s g1 gr ev0 F => ?_⟩
                refine ⟨env, fe, se, g1, ?_⟩
                rw [e4]
                intro v2 H2 f2 s2 fe2 se2 F2
                obtain ⟨rfl, rfl, rfl, gr2⟩ := F2.pure hef
                have F3 := F.grow gr2
                rw [hK]
                have hx : ∃ x, xs[n]? = some x := by
                  cases hq : xs[n]? with
                  | some x => exact ⟨x, rfl⟩
                  | none =>
                    have hl : n < xs.length := by
                      unfold kid at e5
                      split at e5
                      · exact ixN_lt e5
                      · exact ixN_lt e5
                      · cases e5
                    rw [List.getElem?_eq_none_iff] at hq
                    omega
                obtain ⟨x0, hx⟩ := hx
                have hk : k.ow ≠ some false := fun hk => by
                  have : getL t (l ++ [n]) = none := getL_frz e3 hk
                  rw [this] at q2; cases q2
                have q3 := getL_app e3 hk hx
                rw [q3] at q2; cases q2
                unfold kid at e5
                split at e5
                · obtain ⟨a', vs, rfl, q, w⟩ := F3.rv.tupl
                  obtain ⟨v', f', s', e6, F4⟩ := F3.down hk hx (.inl ⟨rfl, rfl⟩) q w
                  refine .inr (.inl ⟨a', vs, _, v', rfl, F2.rv.int_inv, q, ?_, h v0 v' H2 f' s' F2.ge (gr.trans gr2) ev0 F4⟩)
                  unfold atI
                  rw [← w.length, e5]
                  exact e6
                · rename_i o _
                  have ho : o = true := by cases o <;> first | rfl | exact absurd rfl hk
                  subst ho
                  cases F3.rv with
                  | own h0 h1 h2 =>
                    obtain ⟨v', f', s', e6, F4⟩ := F3.down hk hx (.inr ⟨rfl, rfl⟩) h1 h2
                    refine .inl ⟨_, _, _, v', rfl, F2.rv.int_inv, .inl (.inl h1), ?_, h v0 v' H2 f' s' F2.ge (gr.trans gr2) ev0 F4⟩
                    unfold atI
                    rw [← h2.length, e5]
                    exact e6
                  | frz h0 _ _ => cases h0
                  | kst h0 _ _ => cases h0
                · cases e5
              · exact h.elim
            · exact h.elim
        · exact h.elim
      · exact h.elim
    · exact h.elim
theorem p_attr {a : E} {x : Expr} {f : Str} {pos : Pos} (hK : X.K = K) (hcl : ∀ c, Cls K (cl c)) (hno : ∀ c, NoAttr K (cl c) f) (ha : PE X x (tP K cl Δ a)) (hb : attributeBase x f X.env (eval x X.env) = eval x X.env) : PE X (.Attribute x f pos) (tP K cl Δ (.attr a f)) :=
  (pe_fld ha hb).imp fun σ H Q ⟨env, fe, se, g, h⟩ => by
    have h : PostP K cl (match pth Δ a env with
      | some (r, l) => (match look env r with
        | some t => (match getL t l with
          | some (.nd (.obj _ _ ns) _) => (match posOf f ns with
            | some n => some (r, l ++ [n])
            | none => none)
          | _ => none)
        | none => none)
      | none => none) env σ H fe se Q := h
    split at h
    · rename_i r l e1
      split at h
      · rename_i t e2
        split at h
        · rename_i o c ns xs e3
          split at h
          · rename_i n en
            obtain ⟨t', d, q1, q2, h⟩ := h
            rw [e2] at q1; cases q1
            refine ⟨env, fe, se, g, ?_⟩
            rw [e1]
            refine ⟨t, _, e2, e3, fun v0 v H1 f s g1 gr ev0 F => ?_⟩
            have hk : (Kd.obj o c ns).ow ≠ some false := fun hk => by
              have : getL t (l ++ [n]) = none := getL_frz e3 hk
              rw [this] at q2; cases q2
            have ho : o = true := by cases o <;> first | rfl | exact absurd rfl hk
            subst ho
            cases F.rv with
            | own h0 h1 h2 =>
              obtain ⟨dx, z1, z2⟩ := id h1
              have hl : n < xs.length := by
                rw [h2.length, ← z2]
                exact posOf_lt en
              have hx : xs[n]? = some xs[n] := by simp [hl]
              obtain ⟨v', f', s', e6, F4⟩ := F.down hk hx (.inr ⟨rfl, rfl⟩) h1 h2
              have q3 := F4.gt
              rw [q3] at q2
              have q2 := Option.some.inj q2
              rw [hK]
              exact ⟨_, cl c, dx, _, v', rfl, z1, hcl c, hno c, by rw [lookup_zip en z2]; exact e6, h v0 v' H1 f' s' g1 gr ev0 (q2 ▸ F4)⟩
            | frz h0 _ _ => cases h0
            | kst h0 _ _ => cases h0
          · exact h.elim
        · exact h.elim
      · exact h.elim
    · exact h.elim
end
end Vi

set_option Elab.async false
set_option linter.all false
set_option maxRecDepth 100000
set_option maxHeartbeats 2000000
/-! Vi12: calls. -/
namespace Vi
open PySem PySem.Spec L2
/-- the mutable ones of the values -/
def selV : List Bool → List V → List V
  | true :: ms, v :: vs => v :: selV ms vs
  | false :: ms, _ :: vs => selV ms vs
  | _, _ => []
def modesA : As → List Bool
  | .nil => []
  | .ro _ r => false :: modesA r
  | .mu _ r => true :: modesA r
section
variable (K : PySem.W.Frag) (cl : Nat → Addr)
/-- what is handed back -/
structure Rt (H : Hp) (ws : List V) (fl sl : List Addr) (outs : List D) (fo so : List Addr) (H' : Hp) : Prop where
  ro : Rs K cl H' outs ws fo so
  nd : fo.Nodup
  fs : ∀ a, a ∈ fo → a ∉ so
  keep : ∀ a o, H a = some o → a ∉ fl ∨ immo o → H' a = some o
  eo : ∀ a, a ∈ fo → a ∈ fl ∨ H a = none
  es : ∀ a, a ∈ so → a ∈ fl ∨ a ∈ sl ∨ H a = none
/-- .. and the value -/
structure Rv (H : Hp) (fl sl : List Addr) (fo so : List Addr) (d : D) (v : V) (f s : List Addr) (H' : Hp) : Prop where
  rv : R K cl H' d v f s
  nd : f.Nodup
  fx : ∀ a, a ∈ f → a ∉ s ∧ a ∉ fo ∧ a ∉ so
  sx : ∀ a, a ∈ s → a ∉ fo
  vo : ∀ a, a ∈ f → a ∈ fl ∨ H a = none
  vs : ∀ a, a ∈ s → a ∈ fl ∨ a ∈ sl ∨ H a = none
def PostF (r : Fo) (ws : List V) (H : Hp) (fl sl : List Addr) (Q : VK) (E : XK) : Prop := match r with
  | .ok d outs => ∀ v H' f s fo so, Rt K cl H ws fl sl outs fo so H' → Rv K cl H fl sl fo so d v f s H' → Q v H'
  | .err x outs => ∀ cls dd H' fo so, Rt K cl H ws fl sl outs fo so H' → XR cl H' x cls dd → E cls dd H'
  | .bad => False
def spF (ms : List Bool) (f : List D → Fo) : Sp := fun vs H Q E => ∃ ds fl sl, Rs K cl H ds vs fl sl ∧ fl.Nodup ∧ (∀ a, a ∈ fl → a ∉ sl) ∧ PostF K cl (f ds) (selV ms vs) H fl sl Q E
inductive AR (H : Hp) (env : List D) (σ : St) (fe se : Nat → List Addr) (O : Addr → Prop) : As → List (Option D) → List (Nat × List Nat) → List V → Prop
  | nil : AR H env σ fe se O .nil [] [] []
  | ro {e : E} {as : As} {d : D} {ds : List (Option D)} {ps : List (Nat × List Nat)} {v : V} {vs : List V} {f s : List Addr} : R K cl H d v f s → (∀ a, a ∈ f → O a) → (∀ a, a ∈ s → O a) → (∀ a i, a ∈ s → a ∉ fe i) →
      (∀ a, a ∈ f → (∀ i, a ∉ fe i) ∨ (vw e = true ∧ a ∈ fe (rt e))) → AR H env σ fe se O as ds ps vs → AR H env σ fe se O (.ro e as) (some d :: ds) ps (v :: vs)
  | mu {p : E} {as : As} {ds : List (Option D)} {ps : List (Nat × List Nat)} {v : V} {vs : List V} {r : Nat} {l : List Nat} : (∀ t d, look env r = some t → getL t l = some d → ∃ v0 f s, σ[r]? = some (some v0) ∧ Foc K cl H t v0 (fe r) (se r) l d v f s) →
      AR H env σ fe se O as ds ps vs → AR H env σ fe se O (.mu p as) (none :: ds) ((r, l) :: ps) (v :: vs)
def PostA (Δ : Dl) (W : WX) (as : As) (res : Res (List (Option D))) (env : List D) (σ : St) (H : Hp) (fe se : Nat → List Addr) (Q : List V → Hp → Prop) : Prop := match res with
  | .ok ds env' => ∀ vs H' fe' se', GE K cl H' env' σ fe' se' → Sp0 H fe se H' fe' se' → (efr as = false → Pur env H fe se env' H' fe' se') →
      (∀ ps, pths Δ as env' = some ps → AR K cl H' env' σ fe' se' (fun a => (∃ j, a ∈ fe j ∨ a ∈ se j) ∨ H a = none) as ds ps vs) → Q vs H'
  | .err x env' => PostX K cl W x env' σ H fe se
  | .bad => False
def tAs (Δ : Dl) (W : WX) (as : As) : TA := fun σ H Q => ∃ env fe se, GE K cl H env σ fe se ∧ PostA K cl Δ W as (eva Δ as env) env σ H fe se Q
end
section
variable {K : PySem.W.Frag} {cl : Nat → Addr} {W : WX} {Δ : Dl} {X : Cx} {H H1 H2 H3 : Hp} {env env1 env2 : List D} {σ : St} {fe se fe1 se1 fe2 se2 : Nat → List Addr}
theorem AR.imp {O O' : Addr → Prop} (h : ∀ a, O a → O' a) : ∀ {as : As} {ds : List (Option D)} {ps : List (Nat × List Nat)} {vs : List V}, AR K cl H env σ fe se O as ds ps vs → AR K cl H env σ fe se O' as ds ps vs
  | .nil, _, _, _, a => by cases a; exact .nil
  | .ro e as, _, _, _, a => by
    cases a with
    | ro r1 r2 r3 r4 r5 r6 => exact .ro r1 (fun a z => h a (r2 a z)) (fun a z => h a (r3 a z)) r4 r5 (AR.imp h r6)
  | .mu e as, _, _, _, a => by
    cases a with
    | mu r1 r2 => exact .mu r1 (AR.imp h r2)
theorem opdA {a : E} {p p2 : Bool} {d d' : D} {v : V} {f s : List Addr} (F : Fi K cl (vw a) p (rt a) (varOf a) env σ H fe se d env1 v H1 f s fe1 se1)
    (g2 : GE K cl H2 env2 σ fe2 se2) (st : Sp0 H1 fe1 se1 H2 fe2 se2) (pu : p2 = false → Pur env1 H1 fe1 se1 env2 H2 fe2 se2) (e : re a p2 d env2 = some d') (hl : ∀ i x, x ∈ fe i → ∃ o, H x = some o) :
    ∃ f' s', R K cl H2 d' v f' s' ∧ (∀ a, a ∈ f' → (∃ j, a ∈ fe j ∨ a ∈ se j) ∨ H a = none) ∧ (∀ a, a ∈ s' → (∃ j, a ∈ fe j ∨ a ∈ se j) ∨ H a = none) ∧ (∀ a i, a ∈ s' → a ∉ fe2 i) ∧ (∀ b, b ∈ f' → (∀ i, b ∉ fe2 i) ∨ (vw a = true ∧ b ∈ fe2 (rt a))) := by
  have w : ∀ {b : Addr}, ((∃ j, b ∈ fe j) ∨ H b = none) → (∃ j, b ∈ fe j ∨ b ∈ se j) ∨ H b = none := fun z => z.imp (fun ⟨j, q⟩ => ⟨j, .inl q⟩) id
  unfold re at e
  by_cases hc : (vw a && p2) = true
  · rw [if_pos hc] at e
    obtain ⟨h1, h2⟩ := Bool.and_eq_true_iff.mp hc
    split at e
    · rename_i i
      obtain ⟨v', e1, r1⟩ := g2.var e
      rw [F.vr i rfl] at e1; cases e1
      exact ⟨_, _, r1, fun x hx => w ((F.st.trans st hl).eo i x hx), fun x hx => (F.st.trans st hl).es i x hx, fun x j hx z => g2.ds j i x z hx, fun x hx => .inr ⟨rfl, hx⟩⟩
    · split at e
      · rename_i hi
        cases e
        have x := F.still (fun _ => hi)
        obtain ⟨r1, x1⟩ := x.stays F.ge F.rv st
        exact ⟨f, s, r1, fun x hx => w (F.vo x hx), F.vs, x1.sx, fun x hx => .inl fun i => (x1.fx x i hx).1⟩
      · cases e
  · rw [if_neg hc] at e
    cases e
    cases hw : vw a with
    | false =>
      obtain ⟨r1, x1⟩ := (F.ext hw).stays F.ge F.rv st
      exact ⟨f, s, r1, fun x hx => w (F.vo x hx), F.vs, x1.sx, fun x hx => .inl fun i => (x1.fx x i hx).1⟩
    | true =>
      have h2 : p2 = false := by
        rw [hw] at hc; simpa using hc
      obtain ⟨rfl, rfl, rfl, gr⟩ := pu h2
      exact ⟨f, s, F.rv.grow gr, fun x hx => w (F.vo x hx), F.vs, fun x i hx z => F.ge.ds i (rt a) x z ((F.view hw).2 x hx), fun x hx => .inr ⟨rfl, (F.view hw).1 x hx⟩⟩
theorem as_nil : PA X [] (tAs K cl Δ W .nil) := pa_nil.imp fun σ H Q ⟨env, fe, se, g, h⟩ =>
  h [] H fe se g Sp0.refl (fun _ => ⟨rfl, rfl, rfl, Grow.refl⟩) fun ps e => by
    have e : some [] = some ps := e
    cases e
    exact .nil
theorem bindA {α : Type} {res : Res α} {as : As} {k : α → List D → Res (List (Option D))} {Q : List V → Hp → Prop} (h : PostA K cl Δ W as (res.bind k) env σ H fe se Q) : (∃ d e, res = .ok d e ∧ PostA K cl Δ W as (k d e) env σ H fe se Q) ∨ ∃ x e, res = .err x e ∧ PostX K cl W x e σ H fe se := by
  cases res with
  | ok d e => exact .inl ⟨d, e, rfl, h⟩
  | err x e => exact .inr ⟨x, e, rfl, h⟩
  | bad => exact h.elim
theorem PostX.behind {x : Ex} (g : GE K cl H env σ fe se) (st : Sp0 H fe se H1 fe1 se1) (h : PostX K cl W x env2 σ H fe se) : PostX K cl W x env2 σ H1 fe1 se1 :=
  fun cls dd H' fe' se' a b c => h cls dd H' fe' se' a b (st.trans c fun i x hx => g.live (.inl hx))
theorem as_ro {e : E} {r : As} {x : Expr} {xs : List Expr} (hn : nost x = true) (hx : PE X x (tE K cl Δ W e)) (hr : PA X xs (tAs K cl Δ W r)) : PA X (x :: xs) (tAs K cl Δ W (.ro e r)) :=
  (pa_cons hx hr (star_of hn)).imp fun σ H Q ⟨env, fe, se, g, h⟩ => by
    have hl : ∀ i x, x ∈ fe i → ∃ o, H x = some o := fun i x hx => g.live (.inl hx)
    have h : PostA K cl Δ W (.ro e r) ((ev Δ e env).bind fun d e1 => (eva Δ r e1).bind fun ds e2 => (match re e (efr r) d e2 with
      | some d => .ok (some d :: ds) e2
      | none => .bad)) env σ H fe se Q := h
    refine ⟨env, fe, se, g, ?_⟩
    rcases bindA h with ⟨d, env1, e1, h⟩ | ⟨x, env1, e1, h⟩
    · rw [e1]
      intro v H1 f s fe1 se1 F1
      refine ⟨env1, fe1, se1, F1.ge, ?_⟩
      rcases bindA h with ⟨ds, env2, e2, h⟩ | ⟨x, env2, e2, h⟩
      · rw [e2]
        intro vs H2 fe2 se2 g2 st2 pu2 ar
        split at h
        · rename_i d' e3
          obtain ⟨f', s', r1, o1, o2, o3, o4⟩ := opdA F1 g2 st2 pu2 e3 hl
          refine h (v :: vs) H2 fe2 se2 g2 (F1.st.trans st2 hl) (fun z => ?_) fun ps ep => .ro r1 o1 o2 o3 o4 ((ar ps ep).imp fun a ha => ?_)
          · obtain ⟨z1, z2⟩ := Bool.or_eq_false_iff.mp (show (ef e || efr r) = false from z)
            exact (F1.pure z1).trans (pu2 z2)
          · rcases ha with ⟨j, z | z⟩ | z
            · exact (F1.st.eo j a z).imp (fun ⟨k, q⟩ => ⟨k, .inl q⟩) id
            · exact F1.st.es j a z
            · exact (F1.st.fresh z).imp (fun ⟨k, q⟩ => ⟨k, .inl q⟩) id
        · exact h.elim
      · rw [e2]
        exact h.behind g F1.st
    · rw [e1]
      exact h
theorem as_mu {p : E} {r : As} {x : Expr} {xs : List Expr} (hn : nost x = true) (hx : PE X x (tP K cl Δ p)) (hr : PA X xs (tAs K cl Δ W r)) : PA X (x :: xs) (tAs K cl Δ W (.mu p r)) :=
  (pa_cons hx hr (star_of hn)).imp fun σ H Q ⟨env, fe, se, g, h⟩ => by
    have hl : ∀ i x, x ∈ fe i → ∃ o, H x = some o := fun i x hx => g.live (.inl hx)
    have h : PostA K cl Δ W (.mu p r) (if isVar p || !efr r then (match pth Δ p env with
      | some (i, l) => (match look env i with
        | some t => (match getL t l with
          | some _ => (eva Δ r env).bind fun ds e2 => .ok (none :: ds) e2
          | none => .bad)
        | none => .bad)
      | none => .bad) else .bad) env σ H fe se Q := h
    split at h
    · rename_i hc
      split at h
      · rename_i i l e1
        split at h
        · rename_i t e2
          split at h
          · rename_i d e3
            refine ⟨env, fe, se, g, ?_⟩
            rw [e1]
            refine ⟨t, d, e2, e3, fun v0 v H1 f s g1 gr ev0 F => ?_⟩
            refine ⟨env, fe, se, g1, ?_⟩
            have st1 : Sp0 H fe se H1 fe se := Sp0.refl.grow gr
            rcases bindA h with ⟨ds, env2, e4, h⟩ | ⟨x, env2, e4, h⟩
            · rw [e4]
              intro vs H2 fe2 se2 g2 st2 pu2 ar
              refine h (v :: vs) H2 fe2 se2 g2 (st1.trans st2 hl) (fun z => ?_) fun ps ep => ?_
              · obtain ⟨a1, a2, a3, a4⟩ := pu2 z
                exact ⟨a1, a2, a3, gr.trans a4⟩
              · have ep : (match pth Δ p env2 with
                  | some q => (match pths Δ r env2 with
                    | some l => some (q :: l)
                    | none => none)
                  | none => none) = some ps := ep
                split at ep
                · rename_i q eq
                  split at ep
                  · rename_i l2 el
                    cases ep
                    obtain ⟨r2, l3⟩ := q
                    refine .mu (fun t2 d2 et ed => ?_) ((ar l2 el).imp fun a ha => ?_)
                    · cases hp : isVar p with
                      | true =>
                        cases p with
                        | var i2 =>
                          have eq : some (i2, ([] : List Nat)) = some (r2, l3) := eq
                          cases eq
                          have e1 : some (r2, ([] : List Nat)) = some (i, l) := e1
                          cases e1
                          obtain ⟨v2, e5, rr⟩ := g2.var et
                          rw [ev0] at e5; cases e5
                          have ed : some t2 = some d2 := ed
                          cases ed
                          have hv : v = v0 := F.vt rfl
                          subst hv
                          exact ⟨v, _, _, ev0, .nil rr⟩
                        | _ => cases hp
                      | false =>
                        have hz : efr r = false := by
                          rw [hp] at hc; simpa using hc
                        obtain ⟨a1, a2, a3, a4⟩ := pu2 hz
                        subst a1 a2 a3
                        rw [e1] at eq; cases eq
                        rw [e2] at et; cases et
                        rw [e3] at ed; cases ed
                        exact ⟨v0, f, s, ev0, F.grow a4⟩
                    · rcases ha with ⟨j, z⟩ | z
                      · exact .inl ⟨j, z⟩
                      · exact (st1.fresh z).imp (fun ⟨k, q⟩ => ⟨k, .inl q⟩) id
                  · cases ep
                · cases ep
            · rw [e4]
              exact h.behind g st1
          · exact h.elim
        · exact h.elim
      · exact h.elim
    · exact h.elim
end
end Vi

set_option Elab.async false
set_option linter.all false
set_option maxRecDepth 100000
set_option maxHeartbeats 2000000
/-! Vi13: calls: what goes in, what comes back. -/
namespace Vi
open PySem PySem.Spec L2
theorem nodupB_cons {x : Nat} {r : List Nat} (h : nodupB (x :: r) = true) : x ∉ r ∧ nodupB r = true := by
  obtain ⟨h1, h2⟩ := Bool.and_eq_true_iff.mp (show (!r.contains x && nodupB r) = true from h)
  refine ⟨fun z => ?_, h2⟩
  have : r.contains x = true := by simpa using z
  rw [this] at h1; cases h1
section
variable (K : PySem.W.Frag) (cl : Nat → Addr)
/-- the mutable places -/
inductive Pl (H : Hp) (env : List D) (σ : St) (fe se : Nat → List Addr) : List (Nat × List Nat) → List V → List Addr → Prop
  | nil : Pl H env σ fe se [] [] []
  | cons {r : Nat} {l : List Nat} {ps : List (Nat × List Nat)} {t d : D} {v0 v : V} {vs : List V} {f s fl : List Addr} : look env r = some t → σ[r]? = some (some v0) → Foc K cl H t v0 (fe r) (se r) l d v f s → r ∉ roots ps →
      Pl H env σ fe se ps vs fl → Pl H env σ fe se ((r, l) :: ps) (v :: vs) (f ++ fl)
end
section
variable {K : PySem.W.Frag} {cl : Nat → Addr} {W : WX} {Δ : Dl} {X : Cx} {H H1 H2 H3 : Hp} {env env0 env1 env2 env3 : List D} {σ : St} {fe se fe1 se1 fe2 se2 : Nat → List Addr}
theorem Foc.sub {t : D} {v0 v : V} {fT sT f s : List Addr} {l : List Nat} {d : D} (F : Foc K cl H t v0 fT sT l d v f s) : (∀ a, a ∈ f → a ∈ fT) ∧ (∀ a, a ∈ s → a ∈ sT) ∧ (fT.Nodup → f.Nodup) := by
  obtain ⟨gt, rv, vt, ga, gb, ha, hb, q1, q2, h⟩ := F
  subst q1 q2
  exact ⟨fun a z => by simp [z], fun a z => by simp [z], fun z => (List.nodup_append.mp (List.nodup_append.mp z).1).2.1⟩
theorem Pl.sub : ∀ {ps : List (Nat × List Nat)} {vs : List V} {fl : List Addr}, Pl K cl H env σ fe se ps vs fl → ∀ a, a ∈ fl → ∃ r, r ∈ roots ps ∧ a ∈ fe r
  | [], _, _, h, a, ha => by cases h; cases ha
  | p :: ps, _, _, h, a, ha => by
    cases h with
    | @cons r l ps t d v0 v vs f s fl h1 h2 h3 h4 h5 =>
      rcases List.mem_append.mp ha with z | z
      · exact ⟨r, List.mem_cons_self, h3.sub.1 a z⟩
      · obtain ⟨r2, q1, q2⟩ := Pl.sub h5 a z
        exact ⟨r2, List.mem_cons_of_mem _ q1, q2⟩
theorem Pl.nodup (g : GE K cl H env σ fe se) : ∀ {ps : List (Nat × List Nat)} {vs : List V} {fl : List Addr}, Pl K cl H env σ fe se ps vs fl → fl.Nodup
  | [], _, _, h => by cases h; exact List.nodup_nil
  | p :: ps, _, _, h => by
    cases h with
    | @cons r l ps t d v0 v vs f s fl h1 h2 h3 h4 h5 =>
      refine List.nodup_append.mpr ⟨h3.sub.2.2 (g.nd r), Pl.nodup g h5, fun a ha b hb e => ?_⟩
      subst e
      obtain ⟨r2, q1, q2⟩ := Pl.sub h5 a hb
      exact g.dj r r2 a (fun z => h4 (z ▸ q1)) (h3.sub.1 a ha) q2
theorem AR.args {O : Addr → Prop} (hO : ∀ a j, a ∈ se j → O a) (g : GE K cl H env σ fe se) : ∀ {as : As} {ds : List (Option D)} {ps : List (Nat × List Nat)} {vs : List V}, AR K cl H env σ fe se O as ds ps vs → ∀ {l : List D} {ms : List Nat} {b : Bool}, argsD env ds ps = some l → apart as ds ms = some b →
    nodupB (roots ps) = true → ∃ fl sl, Rs K cl H l vs fl sl ∧ Pl K cl H env σ fe se ps (selV (modesA as) vs) fl ∧ (∀ a, a ∈ sl → O a) ∧ (∀ a, a ∈ sl → (∀ i, a ∉ fe i) ∨ (b = false ∧ ∃ i, i ∉ ms ∧ a ∈ fe i))
  | .nil, _, _, _, h, l, ms, b, e1, e2, _ => by
    cases h
    have e1 : some [] = some l := e1
    cases e1
    exact ⟨[], [], .nil, .nil, fun _ z => (nomatch z), fun _ z => (nomatch z)⟩
  | .ro e as, _, ps, _, h, l, ms, b, e1, e2, e3 => by
    cases h with
    | @ro _ _ d ds _ v vs f s r1 r2 r3 r4 r5 r6 =>
      have e1 : (match argsD env ds ps with
        | some l => some (frz d :: l)
        | none => none) = some l := by
          cases ps <;> (unfold argsD at e1; exact e1)
      have e2 : (match apart as ds ms with
        | some b => if vw e && !imm d then (if ms.contains (rt e) then none else some false) else some b
        | none => none) = some b := e2
      split at e1
      · rename_i l2 el
        cases e1
        split at e2
        · rename_i b2 eb
          obtain ⟨fl, sl, q1, q2, q3, q4⟩ := AR.args hO g r6 el eb e3
          obtain ⟨s', w1, w2⟩ := R.freeze d r1
          refine ⟨fl, s' ++ sl, .cons w1 q1, q2, fun a ha => ?_, fun a ha => ?_⟩
          · rcases List.mem_append.mp ha with z | z
            · exact (w2 a z).elim (r2 a) (r3 a)
            · exact q3 a z
          · rcases List.mem_append.mp ha with z | z
            · rcases w2 a z with z | z
              · rcases r5 a z with z2 | ⟨z2, z3⟩
                · exact .inl z2
                · split at e2
                  · rename_i hc
                    split at e2
                    · cases e2
                    · rename_i hm
                      cases e2
                      exact .inr ⟨rfl, rt e, fun z => hm (by simpa using z), z3⟩
                  · rename_i hc
                    have hi : imm d = true := by
                      rw [z2] at hc; simpa using hc
                    rw [R.imm d r1 hi] at z; cases z
              · exact .inl fun i => r4 a i z
            · rcases q4 a z with z | ⟨rfl, z⟩
              · exact .inl z
              · refine .inr ⟨?_, z⟩
                split at e2
                · split at e2
                  · cases e2
                  · cases e2; rfl
                · cases e2; rfl
        · cases e2
      · cases e1
  | .mu p as, _, _, _, h, l, ms, b, e1, e2, e3 => by
    cases h with
    | @mu _ _ ds ps v vs r l0 r1 r2 =>
      have e1 : (match look env r with
        | some t => (match getL t l0 with
          | some d => (match argsD env ds ps with
            | some l => some (d :: l)
            | none => none)
          | none => none)
        | none => none) = some l := e1
      have e2 : apart as ds ms = some b := e2
      obtain ⟨n1, n2⟩ := nodupB_cons (show nodupB (r :: roots ps) = true from e3)
      split at e1
      · rename_i t et
        split at e1
        · rename_i d ed
          split at e1
          · rename_i l2 el
            cases e1
            obtain ⟨v0, f, s, h1, F⟩ := r1 t d et ed
            obtain ⟨fl, sl, q1, q2, q3, q4⟩ := AR.args hO g r2 el e2 n2
            refine ⟨f ++ fl, s ++ sl, .cons F.rv q1, .cons et h1 F n1 q2, fun a ha => ?_, fun a ha => ?_⟩
            · rcases List.mem_append.mp ha with z | z
              · exact hO a r (F.sub.2.1 a z)
              · exact q3 a z
            · rcases List.mem_append.mp ha with z | z
              · exact .inl fun i q => g.ds i r a q (F.sub.2.1 a z)
              · exact q4 a z
          · cases e1
        · cases e1
      · cases e1
theorem look_iff {r : Nat} {t : D} (h : look env r = some t) : env[r]? = some t := (look_some h).1
/-- what comes back is put in its places -/
theorem Pl.put (g : GE K cl H env σ fe se) {FL : List Addr} (keep : ∀ a o, H a = some o → a ∉ FL ∨ immo o → H3 a = some o) :
    ∀ {ps : List (Nat × List Nat)} {vs : List V} {fl : List Addr}, Pl K cl H env σ fe se ps vs fl → ∀ {outs : List D} {fo so : List Addr} {env0 env3 : List D}, Rs K cl H3 outs vs fo so → fo.Nodup → putAll env0 ps outs = some env3 →
    (∀ i, i ∈ roots ps → env0[i]? = env[i]?) → (∀ a, a ∈ FL → a ∈ fl ∨ ∃ r, r ∉ roots ps ∧ a ∈ fe r) → (∀ a, a ∈ fo → a ∈ FL ∨ ∀ i, a ∉ fe i) →
    ∃ fe3 se3 : Nat → List Addr, env3.length = env0.length ∧ (∀ i, i ∉ roots ps → env3[i]? = env0[i]? ∧ fe3 i = fe i ∧ se3 i = se i) ∧
      (∀ i, i ∈ roots ps → ∃ d v, env3[i]? = some d ∧ σ[i]? = some (some v) ∧ R K cl H3 d v (fe3 i) (se3 i) ∧ (fe3 i).Nodup) ∧
      (∀ i a, i ∈ roots ps → a ∈ fe3 i → (a ∈ fe i ∧ a ∉ FL) ∨ a ∈ fo) ∧ (∀ i j a, i ∈ roots ps → j ∈ roots ps → i ≠ j → a ∈ fe3 i → a ∉ fe3 j) ∧ (∀ i a, i ∈ roots ps → a ∈ se3 i → a ∈ se i ∨ a ∈ so)
  | [], _, _, h, outs, fo, so, env0, env3, ro, nd, e, h0, hF, hf => by
    cases h
    cases ro
    have e : some env0 = some env3 := e
    cases e
    exact ⟨fe, se, rfl, fun _ _ => ⟨rfl, rfl, rfl⟩, fun i z => (nomatch z), fun i a z => (nomatch z), fun i j a z => (nomatch z), fun i a z => (nomatch z)⟩
  | p :: ps, _, _, h, outs, fo, so, env0, env3, ro, nd, e, h0, hF, hf => by
    cases h with
    | @cons r l ps t d v0 v vs f s fl h1 h2 h3 h4 h5 =>
      cases ro with
      | @cons d' outs' v' vs' f1 f2 s1 s2 w1 w2 =>
        have e : (match env0[r]? with
          | some t => putAll (env0.set r (setL d' t l)) ps outs'
          | none => none) = some env3 := e
        rw [h0 r List.mem_cons_self, look_iff h1] at e
        have e : putAll (env0.set r (setL d' t l)) ps outs' = some env3 := e
        obtain ⟨n1, n2, n3⟩ := List.nodup_append.mp nd
        have hr0 : r < env0.length := by
          have := h0 r List.mem_cons_self
          rw [look_iff h1] at this
          exact (List.getElem?_eq_some_iff.mp this).1
        obtain ⟨fe3, se3, k0, k1, k2, k3, k4, k5⟩ := Pl.put g keep h5 w2 n2 e (fun i hi => by
            have hne : r ≠ i := fun z => h4 (z ▸ hi)
            rw [List.getElem?_set_ne hne]
            exact h0 i (List.mem_cons_of_mem _ hi)) (fun a ha => by
            rcases hF a ha with z | ⟨r2, z1, z2⟩
            · rcases List.mem_append.mp z with z | z
              · exact .inr ⟨r, h4, h3.sub.1 a z⟩
              · exact .inl z
            · exact .inr ⟨r2, fun q => z1 (List.mem_cons_of_mem _ q), z2⟩) (fun a ha => hf a (List.mem_append_right _ ha))
        obtain ⟨gt, rv, vt, ga, gb, ha, hb, q1, q2, plug⟩ := h3
        have fsub : ∀ a, a ∈ ga ∨ a ∈ gb → a ∈ fe r := fun a z => by rw [q1]; rcases z with z | z <;> simp [z]
        have ssub : ∀ a, a ∈ ha ∨ a ∈ hb → a ∈ se r := fun a z => by rw [q2]; rcases z with z | z <;> simp [z]
        have ndr := g.nd r
        rw [q1] at ndr
        obtain ⟨m1, m2, m3⟩ := List.nodup_append.mp ndr
        obtain ⟨m4, m5, m6⟩ := List.nodup_append.mp m1
        have restF : ∀ a, a ∈ ga ∨ a ∈ gb → a ∉ FL := fun a z hz => by
          rcases hF a hz with y | ⟨r2, y1, y2⟩
          · rcases List.mem_append.mp y with y | y
            · rcases z with z | z
              · exact m6 a z a y rfl
              · exact m3 a (List.mem_append_right _ y) a z rfl
            · obtain ⟨r2, y1, y2⟩ := Pl.sub h5 a y
              exact g.dj r r2 a (fun q => h4 (q ▸ y1)) (fsub a z) y2
          · exact g.dj r r2 a (fun q => y1 (q ▸ List.mem_cons_self)) (fsub a z) y2
        have restS : ∀ a, a ∈ ha ∨ a ∈ hb → a ∉ FL := fun a z hz => by
          rcases hF a hz with y | ⟨r2, y1, y2⟩
          · rcases List.mem_append.mp y with y | y
            · exact g.ds r r a (by rw [q1]; simp [y]) (ssub a z)
            · obtain ⟨r2, y1, y2⟩ := Pl.sub h5 a y
              exact g.ds r2 r a y2 (ssub a z)
          · exact g.ds r2 r a y2 (ssub a z)
        have rr := plug H3 d' f1 s1 (fun b o e z => keep b o e (by
          rcases z with z | z | z | z | z
          · exact .inl (restF b (.inl z))
          · exact .inl (restF b (.inr z))
          · exact .inl (restS b (.inl z))
          · exact .inl (restS b (.inr z))
          · exact .inr z)) w1
        have f1FL : ∀ a, a ∈ f1 → a ∈ FL ∨ ∀ i, a ∉ fe i := fun a z => hf a (List.mem_append_left _ z)
        have f2FL : ∀ a, a ∈ f2 → a ∈ FL ∨ ∀ i, a ∉ fe i := fun a z => hf a (List.mem_append_right _ z)
        have lv : ∀ a, a ∈ ga ∨ a ∈ gb → ¬ ∀ i, a ∉ fe i := fun a z q => q r (fsub a z)
        have nd3 : (ga ++ f1 ++ gb).Nodup := by
          refine List.nodup_append.mpr ⟨List.nodup_append.mpr ⟨m4, n1, fun a z b y e => ?_⟩, m2, fun a z b y e => ?_⟩
          · subst e
            exact (f1FL a y).elim (restF a (.inl z)) (lv a (.inl z))
          · subst e
            rcases List.mem_append.mp z with z | z
            · exact m3 a (List.mem_append_left _ z) a y rfl
            · exact (f1FL a z).elim (restF a (.inr y)) (lv a (.inr y))
        have at3 : ∀ a, a ∈ ga ++ f1 ++ gb → (a ∈ fe r ∧ a ∉ FL ∧ ¬ ∀ i, a ∉ fe i) ∨ a ∈ f1 := fun a z => by
          rcases List.mem_append.mp z with z | z
          · rcases List.mem_append.mp z with z | z
            · exact .inl ⟨fsub a (.inl z), restF a (.inl z), lv a (.inl z)⟩
            · exact .inr z
          · exact .inl ⟨fsub a (.inr z), restF a (.inr z), lv a (.inr z)⟩
        have er3 : env3[r]? = some (setL d' t l) := by
          rw [(k1 r h4).1, List.getElem?_set_self hr0]
        have cross : ∀ i a, i ∈ roots ps → a ∈ fe3 i → a ∉ ga ++ f1 ++ gb := fun i a hi z y => by
          have hne : i ≠ r := fun q => h4 (q ▸ hi)
          rcases k3 i a hi z with ⟨z1, z2⟩ | z
          · rcases at3 a y with ⟨y1, _⟩ | y
            · exact g.dj i r a hne z1 y1
            · rcases f1FL a y with y | y
              · exact z2 y
              · exact y i z1
          · rcases at3 a y with ⟨y1, y2, y3⟩ | y
            · exact (f2FL a z).elim y2 y3
            · exact n3 a y a z rfl
        refine ⟨fun i => if i = r then ga ++ f1 ++ gb else fe3 i, fun i => if i = r then ha ++ s1 ++ hb else se3 i, by rw [k0, List.length_set], fun i hi => ?_, fun i hi => ?_, fun i a hi z => ?_, fun i j a hi hj hij z => ?_, fun i a hi z => ?_⟩
        · have hne : i ≠ r := fun z => hi (z ▸ List.mem_cons_self)
          have hn2 : i ∉ roots ps := fun z => hi (List.mem_cons_of_mem _ z)
          obtain ⟨a1, a2, a3⟩ := k1 i hn2
          simp only [if_neg hne]
          exact ⟨by rw [a1, List.getElem?_set_ne (Ne.symm hne)], a2, a3⟩
        · by_cases hir : i = r
          · subst hir
            simp only [if_pos rfl]
            exact ⟨_, v0, er3, h2, rr, nd3⟩
          · simp only [if_neg hir]
            exact k2 i ((List.mem_cons.mp hi).resolve_left hir)
        · by_cases hir : i = r
          · subst hir
            simp only [if_pos rfl] at z
            exact (at3 a z).imp (fun q => ⟨q.1, q.2.1⟩) (List.mem_append_left _)
          · simp only [if_neg hir] at z
            exact (k3 i a ((List.mem_cons.mp hi).resolve_left hir) z).imp id (List.mem_append_right _)
        · by_cases hir : i = r
          · subst hir
            have hjr : j ≠ i := Ne.symm hij
            simp only [if_pos rfl] at z
            simp only [if_neg hjr]
            exact fun y => cross j a ((List.mem_cons.mp hj).resolve_left hjr) y z
          · simp only [if_neg hir] at z
            by_cases hjr : j = r
            · simp only [if_pos hjr]
              exact cross i a ((List.mem_cons.mp hi).resolve_left hir) z
            · simp only [if_neg hjr]
              exact k4 i j a ((List.mem_cons.mp hi).resolve_left hir) ((List.mem_cons.mp hj).resolve_left hjr) hij z
        · by_cases hir : i = r
          · subst hir
            simp only [if_pos rfl] at z
            rcases List.mem_append.mp z with z | z
            · rcases List.mem_append.mp z with z | z
              · exact .inl (ssub a (.inl z))
              · exact .inr (List.mem_append_left _ z)
            · exact .inl (ssub a (.inr z))
          · simp only [if_neg hir] at z
            exact (k5 i a ((List.mem_cons.mp hi).resolve_left hir) z).imp id (List.mem_append_right _)
end
end Vi

set_option Elab.async false
set_option linter.all false
set_option maxRecDepth 100000
set_option maxHeartbeats 2000000
/-! Vi14: a call. -/
namespace Vi
open PySem PySem.Spec L2
section
variable {K : PySem.W.Frag} {cl : Nat → Addr} {W : WX} {Δ : Dl} {X : Cx} {H H1 H2 H3 : Hp} {env env0 env1 env2 env3 : List D} {σ : St} {fe se fe1 se1 fe2 se2 : Nat → List Addr}
theorem Pl.look {ps : List (Nat × List Nat)} {vs : List V} {fl : List Addr} : ∀ {ps : List (Nat × List Nat)} {vs : List V} {fl : List Addr}, Pl K cl H env σ fe se ps vs fl → ∀ i, i ∈ roots ps → i < env.length
  | [], _, _, _, i, hi => nomatch hi
  | p :: ps, _, _, h, i, hi => by
    cases h with
    | @cons r l ps t d v0 v vs f s fl h1 h2 h3 h4 h5 =>
      rcases List.mem_cons.mp hi with rfl | hi
      · exact (List.getElem?_eq_some_iff.mp (look_some h1).1).1
      · exact Pl.look (ps := ps) (vs := vs) (fl := fl) h5 i hi
theorem GE.put {ps : List (Nat × List Nat)} {ws : List V} {fl fo so : List Addr} {outs : List D} (g : GE K cl H env σ fe se) (P : Pl K cl H env σ fe se ps ws fl) (ro : Rs K cl H3 outs ws fo so) (nd : fo.Nodup) (fs : ∀ a, a ∈ fo → a ∉ so) (keep : ∀ a o, H a = some o → a ∉ fl ∨ immo o → H3 a = some o)
    (eo : ∀ a, a ∈ fo → a ∈ fl ∨ ∀ i, a ∉ fe i ∧ a ∉ se i) (e : putAll env ps outs = some env3)
    (hso : ∀ a, a ∈ so → a ∈ fl ∨ ∀ i, a ∉ fe i) : ∃ fe3 se3, GE K cl H3 env3 σ fe3 se3 ∧ (∀ i a, a ∈ fe3 i → (a ∈ fe i ∧ a ∉ fl) ∨ a ∈ fo) ∧ (∀ i a, a ∈ se3 i → a ∈ se i ∨ a ∈ so) ∧ ∀ i, i ∉ roots ps → fe3 i = fe i ∧ se3 i = se i := by
  obtain ⟨fe3, se3, k0, k1, k2, k3, k4, k5⟩ := Pl.put g keep P ro nd e (fun _ _ => rfl) (fun a ha => .inl ha) (fun a ha => (eo a ha).imp id fun z i => (z i).1)
  have flf : ∀ a i, a ∈ fl → i ∉ roots ps → a ∉ fe i := fun a i ha hi z => by
    obtain ⟨r, q1, q2⟩ := Pl.sub P a ha
    exact g.dj r i a (fun y => hi (y ▸ q1)) q2 z
  have fls : ∀ a i, a ∈ fl → a ∉ se i := fun a i ha z => by
    obtain ⟨r, q1, q2⟩ := Pl.sub P a ha
    exact g.ds r i a q2 z
  have lv : ∀ a i, a ∈ fe i ∨ a ∈ se i → ¬ ∀ i, a ∉ fe i ∧ a ∉ se i := fun a i z q => z.elim (q i).1 (q i).2
  have fo3 : ∀ i a, a ∈ fe3 i → (a ∈ fe i ∧ a ∉ fl) ∨ a ∈ fo := fun i a ha => by
    by_cases hi : i ∈ roots ps
    · exact k3 i a hi ha
    · rw [(k1 i hi).2.1] at ha
      exact .inl ⟨ha, fun z => flf a i z hi ha⟩
  have so3 : ∀ i a, a ∈ se3 i → a ∈ se i ∨ a ∈ so := fun i a ha => by
    by_cases hi : i ∈ roots ps
    · exact k5 i a hi ha
    · rw [(k1 i hi).2.2] at ha
      exact .inl ha
  refine ⟨fe3, se3, ⟨by rw [k0, g.len], fun i d ei => ?_, fun i hi => ?_, fun i => ?_, fun i j a hij ha hb => ?_, fun i j a ha hb => ?_⟩, fo3, so3, fun i hi => (k1 i hi).2⟩
  · by_cases hi : i ∈ roots ps
    · obtain ⟨d', v, h1, h2, h3, _⟩ := k2 i hi
      rw [h1] at ei; cases ei
      exact .inr ⟨v, h2, h3⟩
    · obtain ⟨h1, h2, h3⟩ := k1 i hi
      rw [h1] at ei
      rw [h2, h3]
      refine (g.slot i d ei).imp id fun ⟨v, s1, s2⟩ => ⟨v, s1, R.keep d s2 fun b o eb hb => keep b o eb ?_⟩
      rcases hb with hb | hb | hb
      · exact .inl fun z => flf b i z hi hb
      · exact .inl fun z => fls b i z hb
      · exact .inr hb
  · rw [k0] at hi
    have hn : i ∉ roots ps := fun z => by
      have := Pl.look (ps := ps) (vs := ws) (fl := fl) P i z
      omega
    rw [(k1 i hn).2.1, (k1 i hn).2.2]
    exact g.out i hi
  · by_cases hi : i ∈ roots ps
    · obtain ⟨_, _, _, _, _, h⟩ := k2 i hi
      exact h
    · rw [(k1 i hi).2.1]; exact g.nd i
  · by_cases hi : i ∈ roots ps
    · by_cases hj : j ∈ roots ps
      · exact k4 i j a hi hj hij ha hb
      · rw [(k1 j hj).2.1] at hb
        rcases k3 i a hi ha with ⟨z, _⟩ | z
        · exact g.dj i j a hij z hb
        · exact (eo a z).elim (fun y => flf a j y hj hb) (lv a j (.inl hb))
    · rw [(k1 i hi).2.1] at ha
      rcases fo3 j a hb with ⟨z, _⟩ | z
      · exact g.dj i j a hij ha z
      · exact (eo a z).elim (fun y => flf a i y hi ha) (lv a i (.inl ha))
  · rcases fo3 i a ha with ⟨z1, z2⟩ | z
    · rcases so3 j a hb with y | y
      · exact g.ds i j a z1 y
      · rcases hso a y with w | w
        · exact z2 w
        · exact w i z1
    · rcases so3 j a hb with y | y
      · exact (eo a z).elim (fun w => fls a j w y) (lv a j (.inr y))
      · exact fs a z y
theorem pths_nil : ∀ {as : As} {ps : List (Nat × List Nat)}, efa as = false → pths Δ as env = some ps → ps = []
  | .nil, ps, _, h => by
    have h : some [] = some ps := h
    cases h; rfl
  | .ro e r, ps, hz, h => pths_nil (as := r) (Bool.or_eq_false_iff.mp (show (ef e || efa r) = false from hz)).2 h
  | .mu p r, ps, hz, h => by cases hz
theorem efa_efr : ∀ {as : As}, efa as = false → efr as = false
  | .nil, _ => rfl
  | .ro e r, h => by
    obtain ⟨h1, h2⟩ := Bool.or_eq_false_iff.mp (show (ef e || efa r) = false from h)
    show (ef e || efr r) = false
    rw [h1, efa_efr h2]; rfl
  | .mu p r, h => by cases h
theorem Sp0.put {fl fo so : List Addr} {fe3 se3 : Nat → List Addr} (g : GE K cl H env σ fe se) (st : Sp0 H fe se H2 fe2 se2) (hfl : ∀ a, a ∈ fl → ∃ j, a ∈ fe2 j) (keep : ∀ a o, H2 a = some o → a ∉ fl ∨ immo o → H3 a = some o)
    (eo : ∀ a, a ∈ fo → a ∈ fl ∨ (∃ j, a ∈ fe j) ∨ H a = none) (es : ∀ a, a ∈ so → a ∈ fl ∨ (∃ j, a ∈ fe j ∨ a ∈ se j) ∨ H a = none) (h1 : ∀ i a, a ∈ fe3 i → (a ∈ fe2 i ∧ a ∉ fl) ∨ a ∈ fo) (h2 : ∀ i a, a ∈ se3 i → a ∈ se2 i ∨ a ∈ so) : Sp0 H fe se H3 fe3 se3 := by
  have hl : ∀ i x, x ∈ fe i → ∃ o, H x = some o := fun i x hx => g.live (.inl hx)
  refine ⟨fun a o e h => keep a o (st.keep a o e h) (h.imp (fun n z => ?_) id), fun i a ha => ?_, fun i a ha => ?_⟩
  · obtain ⟨j, hj⟩ := hfl a z
    rcases st.eo j a hj with ⟨k, y⟩ | y
    · exact n k y
    · rw [e] at y; cases y
  · rcases h1 i a ha with ⟨z, _⟩ | z
    · exact st.eo i a z
    · rcases eo a z with y | y
      · obtain ⟨j, hj⟩ := hfl a y
        exact st.eo j a hj
      · exact y
  · rcases h2 i a ha with z | z
    · exact st.es i a z
    · rcases es a z with y | y
      · obtain ⟨j, hj⟩ := hfl a y
        exact (st.eo j a hj).imp (fun ⟨k, q⟩ => ⟨k, .inl q⟩) id
      · exact y
/-- behind the arguments: the call -/
theorem call_ok {as : As} {f : List D → Fo} {ds : List (Option D)} {ps : List (Nat × List Nat)} {vs : List V} {Q : VK} {c : E} (hc1 : vw c = false) (hc2 : ef c = efa as) (hc3 : varOf c = none) (g : GE K cl H env σ fe se) (g2 : GE K cl H2 env2 σ fe2 se2) (st : Sp0 H fe se H2 fe2 se2) (pu : efr as = false → Pur env H fe se env2 H2 fe2 se2)
    (ep : pths Δ as env2 = some ps) (ar : AR K cl H2 env2 σ fe2 se2 (fun a => (∃ j, a ∈ fe j ∨ a ∈ se j) ∨ H a = none) as ds ps vs) (h : PostE K cl W (vw c) (ef c) (rt c) (varOf c) (callE as f ds ps env2) env σ H fe se Q) : spF K cl (modesA as) f vs H2 Q (WE W σ) := by
  unfold callE at h
  split at h
  · rename_i hnd
    split at h
    · rename_i clean e1
      split at h
      · rename_i l e2
        obtain ⟨fl, sl, rs, P, hO, hsl⟩ := AR.args (fun a j hj => st.es j a hj) g2 ar e2 e1 hnd
        have flr := Pl.sub P
        have dis : ∀ a, a ∈ fl → a ∉ sl := fun a ha hs => by
          obtain ⟨r, q1, q2⟩ := flr a ha
          rcases hsl a hs with z | ⟨_, i, z1, z2⟩
          · exact z r q2
          · exact g2.dj r i a (fun y => z1 (y ▸ q1)) q2 z2
        have hfl : ∀ a, a ∈ fl → ∃ j, a ∈ fe2 j := fun a ha => by
          obtain ⟨r, _, q2⟩ := flr a ha
          exact ⟨r, q2⟩
        have lv : ∀ a i, a ∈ fe2 i ∨ a ∈ se2 i → H2 a ≠ none := fun a i z q => by
          obtain ⟨o, e⟩ := g2.live z
          rw [q] at e; cases e
        refine ⟨l, fl, sl, rs, Pl.nodup g2 P, dis, ?_⟩
        have nso : ∀ {so : List Addr} {outs : List D} {fo : List Addr} {H3 : Hp}, Rt K cl H2 (selV (modesA as) vs) fl sl outs fo so H3 → (clean = true ∨ nofs outs = true) → ∀ a, a ∈ so → a ∈ fl ∨ ∀ i, a ∉ fe2 i := fun q hcl a ha => by
          rcases hcl with hcl | hcl
          · rcases q.es a ha with z | z | z
            · exact .inl z
            · rcases hsl a z with y | ⟨y, _⟩
              · exact .inr y
              · rw [hcl] at y; cases y
            · exact .inr fun i w => lv a i (.inl w) z
          · rw [Rs.nof _ q.ro hcl] at ha; cases ha
        have qeo : ∀ {so : List Addr} {outs : List D} {fo : List Addr} {H3 : Hp}, Rt K cl H2 (selV (modesA as) vs) fl sl outs fo so H3 → ∀ a, a ∈ fo → a ∈ fl ∨ ∀ i, a ∉ fe2 i ∧ a ∉ se2 i := fun q a ha =>
          (q.eo a ha).imp id fun z i => ⟨fun w => lv a i (.inl w) z, fun w => lv a i (.inr w) z⟩
        have qeo2 : ∀ {so : List Addr} {outs : List D} {fo : List Addr} {H3 : Hp}, Rt K cl H2 (selV (modesA as) vs) fl sl outs fo so H3 → ∀ a, a ∈ fo → a ∈ fl ∨ (∃ j, a ∈ fe j) ∨ H a = none := fun q a ha =>
          (q.eo a ha).imp id fun z => st.fresh z
        have qes2 : ∀ {so : List Addr} {outs : List D} {fo : List Addr} {H3 : Hp}, Rt K cl H2 (selV (modesA as) vs) fl sl outs fo so H3 → ∀ a, a ∈ so → a ∈ fl ∨ (∃ j, a ∈ fe j ∨ a ∈ se j) ∨ H a = none := fun q a ha => by
          rcases q.es a ha with z | z | z
          · exact .inl z
          · exact .inr (hO a z)
          · exact .inr ((st.fresh z).imp (fun ⟨k, q⟩ => ⟨k, .inl q⟩) id)
        cases hf : f l with
        | ok d outs =>
          rw [hf] at h
          intro v H3 f3 s3 fo so q qv
          have h : PostE K cl W (vw c) (ef c) (rt c) (varOf c) (if (clean || (nof d && nofs outs)) = true then (match putAll env2 ps outs with
            | some env' => .ok d env'
            | none => .bad) else .bad) env σ H fe se Q := h
          split at h
          · rename_i hcl
            split at h
            · rename_i env3 e3
              have hcl1 : clean = true ∨ nofs outs = true := by
                rcases Bool.or_eq_true_iff.mp hcl with z | z
                · exact .inl z
                · exact .inr (Bool.and_eq_true_iff.mp z).2
              have hcl2 : clean = true ∨ nof d = true := by
                rcases Bool.or_eq_true_iff.mp hcl with z | z
                · exact .inl z
                · exact .inr (Bool.and_eq_true_iff.mp z).1
              obtain ⟨fe3, se3, g3, k1, k2, k3⟩ := g2.put P q.ro q.nd q.fs q.keep (qeo q) e3 (nso q hcl1)
              have st3 : Sp0 H fe se H3 fe3 se3 := Sp0.put g st hfl q.keep (qeo2 q) (qes2 q) k1 k2
              rw [hc1, hc3] at h
              refine h v H3 f3 s3 fe3 se3 ⟨g3, qv.rv, st3, fun a ha => ?_, fun a ha => ?_, fun _ => ⟨qv.nd, fun a ha => (qv.fx a ha).1, fun a i ha => ⟨fun z => ?_, fun z => ?_⟩, fun a i ha z => ?_⟩, fun z => (nomatch z), fun z => ?_, fun _ z => (nomatch z)⟩
              · rcases qv.vo a ha with y | y
                · obtain ⟨j, hj⟩ := hfl a y
                  exact st.eo j a hj
                · exact st.fresh y
              · rcases qv.vs a ha with y | y | y
                · obtain ⟨j, hj⟩ := hfl a y
                  exact (st.eo j a hj).imp (fun ⟨k, q⟩ => ⟨k, .inl q⟩) id
                · exact hO a y
                · exact (st.fresh y).imp (fun ⟨k, q⟩ => ⟨k, .inl q⟩) id
              · rcases k1 i a z with ⟨z1, z2⟩ | z
                · exact (qv.vo a ha).elim z2 (lv a i (.inl z1))
                · exact (qv.fx a ha).2.1 z
              · rcases k2 i a z with z | z
                · rcases qv.vo a ha with y | y
                  · obtain ⟨j, hj⟩ := hfl a y
                    exact g2.ds j i a hj z
                  · exact lv a i (.inr z) y
                · exact (qv.fx a ha).2.2 z
              · rcases k1 i a z with ⟨z1, z2⟩ | z
                · rcases hcl2 with hcl2 | hcl2
                  · rcases qv.vs a ha with y | y | y
                    · exact z2 y
                    · rcases hsl a y with w | ⟨w, _⟩
                      · exact w i z1
                      · rw [hcl2] at w; cases w
                    · exact lv a i (.inl z1) y
                  · rw [R.nof _ qv.rv hcl2] at ha; cases ha
                · exact qv.sx a ha z
              · rw [hc2] at z
                have hps := pths_nil z ep
                subst hps
                obtain ⟨a1, a2, a3, a4⟩ := pu (efa_efr z)
                have hfl0 : fl = [] := by
                  generalize selV (modesA as) vs = ws at P
                  cases P; rfl
                have ho : env3 = env2 := by
                  cases outs with
                  | nil =>
                    have e3 : some env2 = some env3 := e3
                    cases e3; rfl
                  | cons _ _ => cases e3
                refine ⟨ho.trans a1, ?_, ?_, a4.trans fun a o e => q.keep a o e (.inl (by rw [hfl0]; exact fun z => nomatch z))⟩
                · rw [← a2]; exact funext fun i => (k3 i fun z => nomatch z).1
                · rw [← a3]; exact funext fun i => (k3 i fun z => nomatch z).2
            · exact h.elim
          · exact h.elim
        | err x outs =>
          rw [hf] at h
          intro cls dd H3 fo so q qx
          have h : PostE K cl W (vw c) (ef c) (rt c) (varOf c) (if (clean || nofs outs) = true then (match putAll env2 ps outs with
            | some env' => .err x env'
            | none => .bad) else .bad) env σ H fe se Q := h
          split at h
          · rename_i hcl
            split at h
            · rename_i env3 e3
              obtain ⟨fe3, se3, g3, k1, k2, k3⟩ := g2.put P q.ro q.nd q.fs q.keep (qeo q) e3 (nso q (Bool.or_eq_true_iff.mp hcl))
              exact h cls dd H3 fe3 se3 qx g3 (Sp0.put g st hfl q.keep (qeo2 q) (qes2 q) k1 k2)
            · exact h.elim
          · exact h.elim
        | bad =>
          rw [hf] at h
          exact h.elim
      · exact h.elim
    · exact h.elim
  · exact h.elim
theorem s_call {j k : Nat} {as : As} {x : Str} {e : Expr} {es : List Expr} {f : Addr} {fd : FuncData} {pn : List Str} {p pos : Pos} (F : FnOk X.prog X.w X.K X.mg X.base (L2.CX X.prog X.w) k f fd pn (spF K cl (modesA as) (Δ.call j))) (hr : Room k X.A) (hg : Gl X x) (hm : X.mg x = some (.ref f))
    (hk : PySem.W.keepIn X.K (.ref f) = true) (hb : Binds X.K fd pn []) (tk : Takes X W) (hd : (x == ("__debug__" : Str)) = false) (hn : (e :: es).all nost = true) (ha : PA X (e :: es) (tAs K cl Δ W as)) : PE X (.Call (.Name x p) (e :: es) [] pos) (tE K cl Δ W (.call j as)) := by
  obtain ⟨h1, h2⟩ := Bool.and_eq_true_iff.mp (show (nost e && es.all nost) = true from hn)
  refine (pe_callS F hr hg hm hk hb (fun σ => passAt tk σ) ha hd (star_of h1) (any_star h2)).imp fun σ H Q ⟨env, fe, se, g, h⟩ => ?_
  have h : PostE K cl W false (efa as) 0 none ((eva Δ as env).bind fun ds e => (match pths Δ as e with
    | some ps => callE as (Δ.call j) ds ps e
    | none => .bad)) env σ H fe se Q := h
  refine ⟨env, fe, se, g, ?_⟩
  cases e1 : eva Δ as env with
  | ok ds env2 =>
    rw [e1] at h
    intro vs H2 fe2 se2 g2 st pu ar
    have h : PostE K cl W false (efa as) 0 none (match pths Δ as env2 with
      | some ps => callE as (Δ.call j) ds ps env2
      | none => .bad) env σ H fe se Q := h
    split at h
    · rename_i ps ep
      exact call_ok (c := .call j as) rfl rfl rfl g g2 st pu ep (ar ps ep) h
    · exact h.elim
  | err x e2 =>
    rw [e1] at h
    exact h
  | bad =>
    rw [e1] at h
    exact h.elim
theorem GE.kept (g : GE K cl H env σ fe se) (k : ∀ a o, H a = some o → (∃ i, a ∈ fe i ∨ a ∈ se i) ∨ immo o → H2 a = some o) : GE K cl H2 env σ fe se :=
  ⟨g.len, fun i d e => (g.slot i d e).imp id fun ⟨v, s, r⟩ => ⟨v, s, R.keep d r fun b o eb hb => k b o eb (by
    rcases hb with z | z | z
    · exact .inl ⟨i, .inl z⟩
    · exact .inl ⟨i, .inr z⟩
    · exact .inr z)⟩, g.out, g.nd, g.dj, g.ds⟩
/-- a value of no one's goes in to be written -/
theorem s_callO {j k : Nat} {a : E} {x : Str} {e : Expr} {f : Addr} {fd : FuncData} {pn : List Str} {p pos : Pos} (F : FnOk X.prog X.w X.K X.mg X.base (L2.CX X.prog X.w) k f fd pn (spF K cl [true] (Δ.call j))) (hr : Room k X.A) (hg : Gl X x) (hm : X.mg x = some (.ref f))
    (hk : PySem.W.keepIn X.K (.ref f) = true) (hb : Binds X.K fd pn []) (tk : Takes X W) (hd : (x == ("__debug__" : Str)) = false) (hn : nost e = true) (ha : PE X e (tE K cl Δ W a)) : PE X (.Call (.Name x p) [e] [] pos) (tE K cl Δ W (.callO j a)) := by
  refine (pe_callS F hr hg hm hk hb (fun σ => passAt tk σ) (pa_cons ha pa_nil (star_of hn)) hd (star_of hn) rfl).imp fun σ H Q ⟨env, fe, se, g, h⟩ => ?_
  have hl : ∀ i x, x ∈ fe i → ∃ o, H x = some o := fun i x hx => g.live (.inl hx)
  have h : PostE K cl W false (ef a) 0 none ((ev Δ a env).bind fun d e => if vw a then .bad else (match Δ.call j [d] with
    | .ok r _ => .ok r e
    | .err x _ => .err x e
    | .bad => .bad)) env σ H fe se Q := h
  refine ⟨env, fe, se, g, bindE g Sp0.refl h fun d env1 v H1 f1 s1 fe1 se1 e1 F1 h1 => ?_⟩
  cases hv : vw a with
  | true => rw [hv] at h1; exact h1.elim
  | false =>
    rw [hv] at h1
    have h1 : PostE K cl W false (ef a) 0 none (match Δ.call j [d] with
      | .ok r _ => .ok r env1
      | .err x _ => .err x env1
      | .bad => .bad) env σ H fe se Q := h1
    have x1 := F1.ext hv
    refine ⟨[d], f1 ++ [], s1 ++ [], .cons F1.rv .nil, by rw [List.append_nil]; exact x1.nd, by rw [List.append_nil, List.append_nil]; exact x1.fs, ?_⟩
    rw [List.append_nil, List.append_nil]
    have lv : ∀ a i, a ∈ fe1 i ∨ a ∈ se1 i → H1 a ≠ none := fun a i z q => by
      obtain ⟨o, e⟩ := F1.ge.live z
      rw [q] at e; cases e
    have gg : ∀ {ws : List V} {outs : List D} {fo so : List Addr} {H3 : Hp}, Rt K cl H1 ws f1 s1 outs fo so H3 → GE K cl H3 env1 σ fe1 se1 ∧ Sp0 H fe se H3 fe1 se1 := fun q => by
      refine ⟨F1.ge.kept fun a o ea hz => q.keep a o ea (hz.imp (fun u z => by
        obtain ⟨i, y⟩ := u
        exact y.elim (x1.fx a i z).1 (x1.fx a i z).2) id), fun a o ea hz => q.keep a o (F1.st.keep a o ea hz) (hz.imp (fun n z => by
        rcases F1.vo a z with ⟨i, y⟩ | y
        · exact n i y
        · rw [ea] at y; cases y) id), F1.st.eo, F1.st.es⟩
    cases hf : Δ.call j [d] with
    | ok r outs =>
      rw [hf] at h1
      intro v3 H3 f3 s3 fo so q qv
      obtain ⟨g3, st3⟩ := gg q
      refine h1 v3 H3 f3 s3 fe1 se1 ⟨g3, qv.rv, st3, fun b hb => ?_, fun b hb => ?_, fun _ => ⟨qv.nd, fun b hb => (qv.fx b hb).1, fun b i hb => ⟨fun z => ?_, fun z => ?_⟩, fun b i hb z => ?_⟩, fun z => (nomatch z), fun z => ?_, fun _ z => (nomatch z)⟩
      · exact (qv.vo b hb).elim (F1.vo b) fun z => F1.st.fresh z
      · rcases qv.vs b hb with y | y | y
        · exact (F1.vo b y).imp (fun ⟨k, q⟩ => ⟨k, .inl q⟩) id
        · exact F1.vs b y
        · exact (F1.st.fresh y).imp (fun ⟨k, q⟩ => ⟨k, .inl q⟩) id
      · exact (qv.vo b hb).elim (fun y => (x1.fx b i y).1 z) (lv b i (.inl z))
      · exact (qv.vo b hb).elim (fun y => (x1.fx b i y).2 z) (lv b i (.inr z))
      · rcases qv.vs b hb with y | y | y
        · exact (x1.fx b i y).1 z
        · exact x1.sx b i y z
        · exact lv b i (.inl z) y
      · obtain ⟨p1, p2, p3, p4⟩ := F1.pure z
        refine ⟨p1, p2, p3, fun b o eb => q.keep b o (p4 b o eb) (.inl fun y => ?_)⟩
        rcases F1.vo b y with ⟨i, y2⟩ | y2
        · rw [← p2] at y2
          exact (x1.fx b i y).1 y2
        · rw [eb] at y2; cases y2
    | err y outs =>
      rw [hf] at h1
      intro cls dd H3 fo so q qx
      obtain ⟨g3, st3⟩ := gg q
      exact h1 cls dd H3 fe1 se1 qx g3 st3
    | bad => rw [hf] at h1; exact h1.elim
end
end Vi

set_option Elab.async false
set_option linter.all false
set_option maxRecDepth 100000
set_option maxHeartbeats 2000000
/-! Vi15: list methods that write. -/
namespace Vi
open PySem PySem.Spec L2
theorem lst1_some {d : D} {xs : List D} (h : lst1 d = some xs) : d = .nd (.lst true) xs := by
  unfold lst1 at h
  split at h
  · split at h
    · cases h; rfl
    · cases h
  · cases h
theorem lst1_at {o : Option D} {xs : List D} (h : o.bind lst1 = some xs) : o = some (.nd (.lst true) xs) := by
  obtain ⟨d, h1, h2⟩ := Option.bind_eq_some_iff.mp h
  rw [h1, lst1_some h2]
section
variable {K : PySem.W.Frag} {cl : Nat → Addr} {W : WX} {Δ : Dl} {X : Cx} {H H1 H2 H3 : Hp} {env env0 env1 env2 env3 : List D} {σ : St} {fe se fe1 se1 fe2 se2 : Nat → List Addr}
/-- a list of one's own, its cell -/
theorem R.own1 {xs : List D} {v : V} {f s : List Addr} (h : R K cl H (.nd (.lst true) xs) v f s) : ∃ a vs fx, v = .ref a ∧ f = a :: fx ∧ H a = some (.lst vs) ∧ Rs K cl H xs vs fx s := by
  cases h with
  | own h0 h1 h2 => exact ⟨_, _, _, rfl, rfl, h1, h2⟩
  | frz h0 _ _ => cases h0
  | kst h0 _ _ => cases h0
theorem R.upd {d : D} {v : V} {f s : List Addr} {a : Addr} {vs : List V} {o : HO} (h : R K cl H d v f s) (e : H a = some (.lst vs)) (hf : a ∉ f) (hs : a ∉ s) : R K cl (upd H a o) d v f s :=
  R.keep d h fun b o2 eb hb => by
    have hne : b ≠ a := fun z => by
      subst z
      rcases hb with z | z | z
      · exact hf z
      · exact hs z
      · rw [e] at eb; cases eb; exact z
    rw [upd_ne hne]; exact eb
theorem Rs.upd {d : List D} {v : List V} {f s : List Addr} {a : Addr} {vs : List V} {o : HO} (h : Rs K cl H d v f s) (e : H a = some (.lst vs)) (hf : a ∉ f) (hs : a ∉ s) : Rs K cl (upd H a o) d v f s :=
  Rs.keep d h fun b o2 eb hb => by
    have hne : b ≠ a := fun z => by
      subst z
      rcases hb with z | z | z
      · exact hf z
      · exact hs z
      · rw [e] at eb; cases eb; exact z
    rw [upd_ne hne]; exact eb
/-- a list is rewritten -/
theorem GE.wr {r : Nat} {l : List Nat} {t : D} {v0 : V} {xs ys : List D} {a : Addr} {vs ws : List V} {fx sx fy sy : List Addr} (g : GE K cl H env σ fe se) (e1 : look env r = some t) (ev0 : σ[r]? = some (some v0)) (F : Foc K cl H t v0 (fe r) (se r) l (.nd (.lst true) xs) (.ref a) (a :: fx) sx) (ea : H a = some (.lst vs))
    (w : Rs K cl H ys ws fy sy) (nd : fy.Nodup) (fs : ∀ b, b ∈ fy → b ∉ sy) (eo : ∀ b, b ∈ fy → b ∈ fx ∨ ∀ i, b ∉ fe i ∧ b ∉ se i) (es : ∀ b, b ∈ sy → b ∈ sx ∨ ∀ i, b ∉ fe i) :
    a ∉ fy ∧ a ∉ sy ∧ a ∉ fx ∧ a ∉ sx ∧ ∃ fe3 se3, GE K cl (L2.upd H a (.lst ws)) (env.set r (setL (.nd (.lst true) ys) t l)) σ fe3 se3 ∧ (∀ i b, b ∈ fe3 i → (b ∈ fe i ∧ b ∉ a :: fx) ∨ b ∈ a :: fy) ∧ (∀ i b, b ∈ se3 i → b ∈ se i ∨ b ∈ sy) ∧ ∀ i, i ≠ r → fe3 i = fe i ∧ se3 i = se i := by
  have fr : ∀ b, b ∈ a :: fx → b ∈ fe r := F.sub.1
  have sr : ∀ b, b ∈ sx → b ∈ se r := F.sub.2.1
  have ndx : (a :: fx).Nodup := F.sub.2.2 (g.nd r)
  have n1 : a ∉ fx := (List.nodup_cons.mp ndx).1
  have n2 : a ∉ sx := fun z => g.ds r r a (fr a List.mem_cons_self) (sr a z)
  have n3 : a ∉ fy := fun z => (eo a z).elim n1 fun q => (q r).1 (fr a List.mem_cons_self)
  have n4 : a ∉ sy := fun z => (es a z).elim n2 fun q => q r (fr a List.mem_cons_self)
  refine ⟨n3, n4, n1, n2, ?_⟩
  have P : Pl K cl H env σ fe se [(r, l)] [.ref a] ((a :: fx) ++ []) := .cons e1 ev0 F (fun z => nomatch z) .nil
  rw [List.append_nil] at P
  have hlen : r < env.length := (List.getElem?_eq_some_iff.mp (look_some e1).1).1
  obtain ⟨fe3, se3, g3, k1, k2, k3⟩ := g.put (outs := [.nd (.lst true) ys]) (fo := a :: fy) (so := sy) (env3 := env.set r (setL (.nd (.lst true) ys) t l)) (H3 := L2.upd H a (.lst ws)) P
    (Rs.one (.own rfl (show L2.upd H a (.lst ws) a = _ from upd_same) (w.upd ea n3 n4))) (List.nodup_cons.mpr ⟨n3, nd⟩) (fun b hb hs => by
      rcases List.mem_cons.mp hb with rfl | hb
      · exact n4 hs
      · exact fs b hb hs) (fun b o eb hb => by
      have hne : b ≠ a := fun z => by
        subst z
        rcases hb with z | z
        · exact z List.mem_cons_self
        · rw [ea] at eb; cases eb; exact z
      rw [upd_ne hne]; exact eb) (fun b hb => by
      rcases List.mem_cons.mp hb with rfl | hb
      · exact .inl List.mem_cons_self
      · exact (eo b hb).imp (List.mem_cons_of_mem _) id) (by
      show (match env[r]? with
        | some t => putAll (env.set r (setL (.nd (.lst true) ys) t l)) [] []
        | none => none) = _
      rw [(look_some e1).1]
      rfl) (fun b hb => (es b hb).elim (fun z => .inr fun i q => g.ds i r b q (sr b z)) .inr)
  exact ⟨fe3, se3, g3, k1, k2, fun i hi => k3 i fun z => hi (by simpa [roots] using z)⟩
theorem R.ownT {ks : List (List Key)} {xs : List D} {v : V} {f s : List Addr} (h : R K cl H (.nd (.dT true ks) xs) v f s) : ∃ a vs fx, v = .ref a ∧ f = a :: fx ∧ H a = some (.dT (ks.zip vs)) ∧ ks.length = vs.length ∧ Rs K cl H xs vs fx s := by
  cases h with
  | own h0 h1 h2 => exact ⟨_, _, _, rfl, rfl, h1.1, h1.2, h2⟩
  | frz h0 _ _ => cases h0
  | kst h0 _ _ => cases h0
theorem Rs.updT {d : List D} {v : List V} {f s : List Addr} {a : Addr} {kvs : List (List Key × V)} {o : HO} (h : Rs K cl H d v f s) (e : H a = some (.dT kvs)) (hf : a ∉ f) (hs : a ∉ s) : Rs K cl (L2.upd H a o) d v f s :=
  Rs.keep d h fun b o2 eb hb => by
    have hne : b ≠ a := fun z => by
      subst z
      rcases hb with z | z | z
      · exact hf z
      · exact hs z
      · rw [e] at eb; cases eb; exact z
    rw [upd_ne hne]; exact eb
/-- a dict is rewritten -/
theorem GE.wrT {ks ks2 : List (List Key)} {r : Nat} {l : List Nat} {t : D} {v0 : V} {xs ys : List D} {a : Addr} {vs ws : List V} {fx sx fy sy : List Addr} (g : GE K cl H env σ fe se) (e1 : look env r = some t) (ev0 : σ[r]? = some (some v0)) (F : Foc K cl H t v0 (fe r) (se r) l (.nd (.dT true ks) xs) (.ref a) (a :: fx) sx) (ea : H a = some (.dT (ks.zip vs))) (hkw : ks2.length = ws.length)
    (w : Rs K cl H ys ws fy sy) (nd : fy.Nodup) (fs : ∀ b, b ∈ fy → b ∉ sy) (eo : ∀ b, b ∈ fy → b ∈ fx ∨ ∀ i, b ∉ fe i ∧ b ∉ se i) (es : ∀ b, b ∈ sy → b ∈ sx ∨ ∀ i, b ∉ fe i) :
    a ∉ fy ∧ a ∉ sy ∧ a ∉ fx ∧ a ∉ sx ∧ ∃ fe3 se3, GE K cl (L2.upd H a (.dT (ks2.zip ws))) (env.set r (setL (.nd (.dT true ks2) ys) t l)) σ fe3 se3 ∧ (∀ i b, b ∈ fe3 i → (b ∈ fe i ∧ b ∉ a :: fx) ∨ b ∈ a :: fy) ∧ (∀ i b, b ∈ se3 i → b ∈ se i ∨ b ∈ sy) ∧ ∀ i, i ≠ r → fe3 i = fe i ∧ se3 i = se i := by
  have fr : ∀ b, b ∈ a :: fx → b ∈ fe r := F.sub.1
  have sr : ∀ b, b ∈ sx → b ∈ se r := F.sub.2.1
  have ndx : (a :: fx).Nodup := F.sub.2.2 (g.nd r)
  have n1 : a ∉ fx := (List.nodup_cons.mp ndx).1
  have n2 : a ∉ sx := fun z => g.ds r r a (fr a List.mem_cons_self) (sr a z)
  have n3 : a ∉ fy := fun z => (eo a z).elim n1 fun q => (q r).1 (fr a List.mem_cons_self)
  have n4 : a ∉ sy := fun z => (es a z).elim n2 fun q => q r (fr a List.mem_cons_self)
  refine ⟨n3, n4, n1, n2, ?_⟩
  have P : Pl K cl H env σ fe se [(r, l)] [.ref a] ((a :: fx) ++ []) := .cons e1 ev0 F (fun z => nomatch z) .nil
  rw [List.append_nil] at P
  have hlen : r < env.length := (List.getElem?_eq_some_iff.mp (look_some e1).1).1
  obtain ⟨fe3, se3, g3, k1, k2, k3⟩ := g.put (outs := [.nd (.dT true ks2) ys]) (fo := a :: fy) (so := sy) (env3 := env.set r (setL (.nd (.dT true ks2) ys) t l)) (H3 := L2.upd H a (.dT (ks2.zip ws))) P
    (Rs.one (.own rfl ⟨(show L2.upd H a (.dT (ks2.zip ws)) a = _ from upd_same), hkw⟩ (w.updT ea n3 n4))) (List.nodup_cons.mpr ⟨n3, nd⟩) (fun b hb hs => by
      rcases List.mem_cons.mp hb with rfl | hb
      · exact n4 hs
      · exact fs b hb hs) (fun b o eb hb => by
      have hne : b ≠ a := fun z => by
        subst z
        rcases hb with z | z
        · exact z List.mem_cons_self
        · rw [ea] at eb; cases eb; exact z
      rw [upd_ne hne]; exact eb) (fun b hb => by
      rcases List.mem_cons.mp hb with rfl | hb
      · exact .inl List.mem_cons_self
      · exact (eo b hb).imp (List.mem_cons_of_mem _) id) (by
      show (match env[r]? with
        | some t => putAll (env.set r (setL (.nd (.dT true ks2) ys) t l)) [] []
        | none => none) = _
      rw [(look_some e1).1]
      rfl) (fun b hb => (es b hb).elim (fun z => .inr fun i q => g.ds i r b q (sr b z)) .inr)
  exact ⟨fe3, se3, g3, k1, k2, fun i hi => k3 i fun z => hi (by simpa [roots] using z)⟩
/-- .. and a value is given -/
theorem wr_fin {r : Nat} {l : List Nat} {t : D} {v0 : V} {xs ys : List D} {a : Addr} {vs ws : List V} {fx sx fy sy : List Addr} {d : D} {v : V} {f s : List Addr} {Q : VK} (g : GE K cl H env σ fe se) (st : Sp0 H fe se H2 fe2 se2) (g2 : GE K cl H2 env2 σ fe2 se2) (e1 : look env2 r = some t) (ev0 : σ[r]? = some (some v0))
    (F : Foc K cl H2 t v0 (fe2 r) (se2 r) l (.nd (.lst true) xs) (.ref a) (a :: fx) sx) (ea : H2 a = some (.lst vs)) (w : Rs K cl H2 ys ws fy sy) (nd : fy.Nodup) (fs : ∀ b, b ∈ fy → b ∉ sy)
    (eo : ∀ b, b ∈ fy → b ∈ fx ∨ ((∀ i, b ∉ fe2 i ∧ b ∉ se2 i) ∧ ((∃ j, b ∈ fe j) ∨ H b = none))) (es : ∀ b, b ∈ sy → b ∈ sx ∨ ((∀ i, b ∉ fe2 i) ∧ ((∃ j, b ∈ fe j ∨ b ∈ se j) ∨ H b = none)))
    (rv : R K cl H2 d v f s) (fnd : f.Nodup) (hf : ∀ b, b ∈ f → b ∈ fx ∧ b ∉ fy ∧ b ∉ s ∧ b ∉ sy) (hs : ∀ b, b ∈ s → b ∈ sx)
    (h : PostE K cl W false true 0 none (.ok d (env2.set r (setL (.nd (.lst true) ys) t l))) env σ H fe se Q) : Q v (L2.upd H2 a (.lst ws)) := by
  obtain ⟨n3, n4, n1, n2, fe3, se3, g3, k1, k2, _⟩ := g2.wr e1 ev0 F ea w nd fs (fun b hb => (eo b hb).imp id fun z => z.1) (fun b hb => (es b hb).imp id fun z => z.1)
  have fr : ∀ b, b ∈ a :: fx → b ∈ fe2 r := F.sub.1
  have sr : ∀ b, b ∈ sx → b ∈ se2 r := F.sub.2.1
  have st3 : Sp0 H fe se (L2.upd H2 a (.lst ws)) fe3 se3 := Sp0.put (fl := a :: fx) (fo := a :: fy) (so := sy) g st (fun b hb => ⟨r, fr b hb⟩) (fun b o eb hb => by
      have hne : b ≠ a := fun z => by
        subst z
        rcases hb with z | z
        · exact z List.mem_cons_self
        · rw [ea] at eb; cases eb; exact z
      rw [upd_ne hne]; exact eb) (fun b hb => by
      rcases List.mem_cons.mp hb with rfl | hb
      · exact .inl List.mem_cons_self
      · exact (eo b hb).imp (List.mem_cons_of_mem _) fun z => z.2) (fun b hb => by
      rcases es b hb with z | z
      · exact .inr (st.es r b (sr b z))
      · exact .inr z.2) k1 k2
  refine h v _ f s fe3 se3 ⟨g3, rv.upd ea (fun z => n1 (hf a z).1) (fun z => n2 (hs a z)), st3, fun b hb => st.eo r b (fr b (List.mem_cons_of_mem _ (hf b hb).1)), fun b hb => st.es r b (sr b (hs b hb)), fun _ => ⟨fnd, fun b hb => (hf b hb).2.2.1, fun b i hb => ⟨fun z => ?_, fun z => ?_⟩, fun b i hb z => ?_⟩, fun z => (nomatch z), fun z => (nomatch z), fun _ z => (nomatch z)⟩
  · rcases k1 i b z with ⟨_, z⟩ | z
    · exact z (List.mem_cons_of_mem _ (hf b hb).1)
    · rcases List.mem_cons.mp z with rfl | z
      · exact n1 (hf b hb).1
      · exact (hf b hb).2.1 z
  · rcases k2 i b z with z | z
    · exact g2.ds r i b (fr b (List.mem_cons_of_mem _ (hf b hb).1)) z
    · exact (hf b hb).2.2.2 z
  · have hb := hs b hb
    rcases k1 i b z with ⟨z, _⟩ | z
    · exact g2.ds i r b z (sr b hb)
    · rcases List.mem_cons.mp z with rfl | z
      · exact n2 hb
      · rcases eo b z with y | ⟨y, _⟩
        · exact g2.ds r r b (fr b (List.mem_cons_of_mem _ y)) (sr b hb)
        · exact (y r).2 (sr b hb)
theorem Rs.last {xs : List D} {vs : List V} {f s : List Addr} {d : D} (h : Rs K cl H xs vs f s) (e : xs.getLast? = some d) : ∃ v f1 fd s1 sd, vs[vs.length - 1]? = some v ∧ f = f1 ++ fd ∧ s = s1 ++ sd ∧ R K cl H d v fd sd ∧ Rs K cl H xs.dropLast vs.dropLast f1 s1 := by
  have hl := h.length
  rw [List.getLast?_eq_getElem?] at e
  obtain ⟨v, fa, fd, fb, sa, sd, sb, e1, e2, e3, r, w1, w2⟩ := h.split e
  have hn : xs.length - 1 < xs.length := (List.getElem?_eq_some_iff.mp e).1
  rw [show xs.length - 1 + 1 = xs.length by omega, List.drop_length] at w2
  have hv : vs.drop xs.length = [] := by rw [hl, List.drop_length]
  rw [hv] at w2
  cases w2
  rw [hl] at e1
  rw [List.append_nil] at e2 e3
  rw [List.dropLast_eq_take, List.dropLast_eq_take]
  exact ⟨v, fa, fd, sa, sd, e1, e2, e3, r, by rw [← hl]; exact w1⟩
theorem Rs.erase {xs : List D} {vs : List V} {f s : List Addr} {n : Nat} {d : D} (h : Rs K cl H xs vs f s) (e : xs[n]? = some d) : ∃ v fa fd fb sa sd sb, vs[n]? = some v ∧ f = fa ++ fd ++ fb ∧ s = sa ++ sd ++ sb ∧ R K cl H d v fd sd ∧ Rs K cl H (xs.eraseIdx n) (vs.eraseIdx n) (fa ++ fb) (sa ++ sb) := by
  obtain ⟨v, fa, fd, fb, sa, sd, sb, e1, e2, e3, r, w1, w2⟩ := h.split e
  refine ⟨v, fa, fd, fb, sa, sd, sb, e1, e2, e3, r, ?_⟩
  rw [List.eraseIdx_eq_take_drop_succ, List.eraseIdx_eq_take_drop_succ]
  exact w1.append w2
def m0nm : M0 → Str
  | .pop => "pop"
  | .clear => "clear"
  | .reverse => "reverse"
def m1nm : M1 → Str
  | .append => "append"
  | .extend => "extend"
  | .popAt => "pop"
/-- a place, then no argument -/
theorem place0 {p : E} {σ : St} {H : Hp} {Q : VK} {k : D → List D → Nat → List Nat → Res D} {N : V → Hp → Prop} (g : GE K cl H env σ fe se)
    (h : PostE K cl W false true 0 none (match pth Δ p env with
      | some (r, l) => (match look env r with
        | some t => (match (getL t l).bind lst1 with
          | some xs => k t xs r l
          | none => .bad)
        | none => .bad)
      | none => .bad) env σ H fe se Q)
    (hk : ∀ t xs r l v0 a vs fx sx H1, GE K cl H1 env σ fe se → Grow H H1 → look env r = some t → σ[r]? = some (some v0) → Foc K cl H1 t v0 (fe r) (se r) l (.nd (.lst true) xs) (.ref a) (a :: fx) sx → H1 a = some (.lst vs) → Rs K cl H1 xs vs fx sx →
      PostE K cl W false true 0 none (k t xs r l) env σ H fe se Q → N (.ref a) H1) : tP K cl Δ p σ H N := by
  split at h
  · rename_i r l e1
    split at h
    · rename_i t e2
      split at h
      · rename_i xs e3
        have e3 := lst1_at e3
        refine ⟨env, fe, se, g, ?_⟩
        rw [e1]
        refine ⟨t, _, e2, e3, fun v0 v H1 f s g1 gr ev0 F => ?_⟩
        obtain ⟨a, vs, fx, rfl, rfl, ea, w⟩ := F.rv.own1
        exact hk t xs r l v0 a vs fx s H1 g1 gr e2 ev0 F ea w h
      · exact h.elim
    · exact h.elim
  · exact h.elim
theorem s_mut0 {m : M0} {p : E} {x : Expr} {apos cpos : Pos} (hx : PE X x (tP K cl Δ p)) (hbase : attributeBase x (m0nm m) X.env (eval x X.env) = eval x X.env) (hline : (apos.endLine == cpos.line) = true) : PE X (.Call (.Attribute x (m0nm m) apos) [] [] cpos) (tE K cl Δ W (.mut0 m p)) := by
  have key : ∀ (r : V → List V → Hp → VK → Prop), (∀ H2 a xs vs fx sx Q ys d, Rs K cl H2 xs vs fx sx → H2 a = some (.lst vs) → m0op m xs = some (ys, d) → (a :: fx).Nodup → (∀ b, b ∈ fx → b ∉ sx) →
      (∀ ws fy sy v f s, Rs K cl H2 ys ws fy sy → fy.Nodup → (∀ b, b ∈ fy → b ∉ sy) → (∀ b, b ∈ fy → b ∈ fx) → (∀ b, b ∈ sy → b ∈ sx) → R K cl H2 d v f s → f.Nodup → (∀ b, b ∈ f → b ∈ fx ∧ b ∉ fy ∧ b ∉ s ∧ b ∉ sy) → (∀ b, b ∈ s → b ∈ sx) → Q v (L2.upd H2 a (.lst ws))) → r (.ref a) [] H2 Q) →
      ∀ σ H Q, tE K cl Δ W (.mut0 m p) σ H Q → tBM0 X.K "list" r (tP K cl Δ p) σ H Q := fun r hr σ H Q ⟨env, fe, se, g, h⟩ => by
    refine place0 (k := fun t xs r l => (match m0op m xs with
      | some (ys, d) => .ok d (env.set r (setL (.nd (.lst true) ys) t l))
      | none => .bad)) g h fun t xs r' l v0 a vs fx sx H1 g1 gr e2 ev0 F ea w h => ?_
    refine ⟨.inl ⟨rfl, vs, .inl (.inl ea)⟩, ?_⟩
    have h : PostE K cl W false true 0 none (match m0op m xs with
      | some (ys, d) => .ok d (env.set r' (setL (.nd (.lst true) ys) t l))
      | none => .bad) env σ H fe se Q := h
    split at h
    · rename_i ys d em
      have ndx : (a :: fx).Nodup := F.sub.2.2 (g1.nd r')
      refine hr H1 a xs vs fx sx Q ys d w ea em ndx (fun b z1 z2 => g1.ds r' r' b (F.sub.1 b (List.mem_cons_of_mem _ z1)) (F.sub.2.1 b z2)) fun ws fy sy v f s w2 nd fs eo es rv fnd hf hs => ?_
      exact wr_fin g (Sp0.refl.grow gr) g1 e2 ev0 F ea w2 nd fs (fun b hb => .inl (eo b hb)) (fun b hb => .inl (es b hb)) rv fnd hf hs h
    · exact h.elim
  cases m with
  | pop =>
    refine (pe_bm0 PySem.F.plainAttrs_list PySem.F.slot_list_pop PySem.F.type_list_pop mt_pop hx hbase hline).imp (key rPop fun H2 a xs vs fx sx Q ys d w ea em nd fs hq => ?_)
    have em : (match xs.getLast? with
      | some d => some (xs.dropLast, d)
      | none => none) = some (ys, d) := em
    split at em
    · rename_i d' e
      cases em
      obtain ⟨v, f1, fd, s1, sd, e1, rfl, rfl, r, w2⟩ := w.last e
      obtain ⟨m1, m2, m3⟩ := List.nodup_append.mp (List.nodup_cons.mp nd).2
      exact ⟨a, vs, v, rfl, rfl, ea, e1, hq vs.dropLast f1 s1 v fd sd w2 m1 (fun b z1 z2 => fs b (List.mem_append_left _ z1) (List.mem_append_left _ z2)) (fun b z => List.mem_append_left _ z) (fun b z => List.mem_append_left _ z) r m2
        (fun b z => ⟨List.mem_append_right _ z, fun y => m3 b y b z rfl, fun y => fs b (List.mem_append_right _ z) (List.mem_append_right _ y), fun y => fs b (List.mem_append_right _ z) (List.mem_append_left _ y)⟩) (fun b z => List.mem_append_right _ z)⟩
    · cases em
  | clear =>
    refine (pe_bm0 PySem.F.plainAttrs_list PySem.F.slot_list_clear PySem.F.type_list_clear mt_clear hx hbase hline).imp (key rClear fun H2 a xs vs fx sx Q ys d w ea em nd fs hq => ?_)
    have em : some ([], D.non) = some (ys, d) := em
    cases em
    exact ⟨a, vs, rfl, rfl, ea, hq [] [] [] .non [] [] .nil List.nodup_nil (fun _ z => nomatch z) (fun _ z => nomatch z) (fun _ z => nomatch z) .non List.nodup_nil (fun _ z => nomatch z) (fun _ z => nomatch z)⟩
  | reverse =>
    refine (pe_bm0 PySem.F.plainAttrs_list PySem.F.slot_list_reverse PySem.F.type_list_reverse mt_reverse hx hbase hline).imp (key rReverse fun H2 a xs vs fx sx Q ys d w ea em nd fs hq => ?_)
    have em : (if imms xs = true then some (xs.reverse, D.non) else none) = some (ys, d) := em
    split at em
    · rename_i hi
      cases em
      have e := Rs.imm _ w hi
      subst e
      obtain ⟨s2, w2, q2⟩ := Rs.rev (xs := []) (vs := []) (s := []) w
      exact ⟨a, vs, rfl, rfl, ea, hq vs.reverse [] s2 .non [] [] w2 List.nodup_nil (fun _ z => nomatch z) (fun _ z => nomatch z) q2 .non List.nodup_nil (fun _ z => nomatch z) (fun _ z => nomatch z)⟩
    · cases em
end
end Vi

set_option Elab.async false
set_option linter.all false
set_option maxRecDepth 100000
set_option maxHeartbeats 2000000
/-! Vi16: list methods that write, with an argument. -/
namespace Vi
open PySem PySem.Spec L2
section
variable {K : PySem.W.Frag} {cl : Nat → Addr} {W : WX} {Δ : Dl} {X : Cx} {H H1 H2 H3 : Hp} {env env0 env1 env2 env3 : List D} {σ : St} {fe se fe1 se1 fe2 se2 : Nat → List Addr}
/-- a place, then an argument -/
theorem place1 {p a : E} {σ : St} {H : Hp} {Q : VK} {k : D → List D → Nat → List Nat → D → List D → Res D} {N0 : V → Hp → Prop} {N : V → V → Hp → Prop} (g : GE K cl H env σ fe se)
    (h : PostE K cl W false true 0 none (if isVar p || !ef a then (match pth Δ p env with
      | some (r, l) => (match look env r with
        | some t => (match (getL t l).bind lst1 with
          | some _ => (ev Δ a env).bind fun x env => (match own a x with
            | some x => (match look env r with
              | some t => (match (getL t l).bind lst1 with
                | some xs => k t xs r l x env
                | none => .bad)
              | none => .bad)
            | none => .bad)
          | none => .bad)
        | none => .bad)
      | none => .bad) else .bad) env σ H fe se Q)
    (h0 : ∀ a vs H1, H1 a = some (.lst vs) → N0 (.ref a) H1)
    (hk : ∀ t xs r l v0 b vs fx sx x v H1 fa sa env1 fe1 se1, GE K cl H1 env1 σ fe1 se1 → Sp0 H fe se H1 fe1 se1 → look env1 r = some t → σ[r]? = some (some v0) → Foc K cl H1 t v0 (fe1 r) (se1 r) l (.nd (.lst true) xs) (.ref b) (b :: fx) sx → H1 b = some (.lst vs) → Rs K cl H1 xs vs fx sx →
      R K cl H1 x v fa sa → Ext fe1 se1 fa sa → (∀ b, b ∈ fa → (∃ j, b ∈ fe j) ∨ H b = none) → (∀ b, b ∈ sa → (∃ j, b ∈ fe j ∨ b ∈ se j) ∨ H b = none) →
      PostE K cl W false true 0 none (k t xs r l x env1) env σ H fe se Q → N (.ref b) v H1) : tP K cl Δ p σ H fun y H1 => N0 y H1 ∧ tE K cl Δ W a σ H1 fun v H2 => N y v H2 := by
  have hl : ∀ i x, x ∈ fe i → ∃ o, H x = some o := fun i x hx => g.live (.inl hx)
  split at h
  · rename_i hc
    split at h
    · rename_i r l e1
      split at h
      · rename_i t e2
        split at h
        · rename_i xs e3
          have e3 := lst1_at e3
          refine ⟨env, fe, se, g, ?_⟩
          rw [e1]
          refine ⟨t, _, e2, e3, fun v0 v H1 f s g1 gr ev0 F => ?_⟩
          obtain ⟨b, vs, fx, rfl, rfl, eb, w⟩ := F.rv.own1
          have st1 : Sp0 H fe se H1 fe se := Sp0.refl.grow gr
          refine ⟨h0 b vs H1 eb, env, fe, se, g1, bindE g st1 h fun x env2 va H2 fa sa fe2 se2 e4 F2 h => ?_⟩
          have h : PostE K cl W false true 0 none (match own a x with
            | some x => (match look env2 r with
              | some t => (match (getL t l).bind lst1 with
                | some xs => k t xs r l x env2
                | none => .bad)
              | none => .bad)
            | none => .bad) env σ H fe se Q := h
          cases e5 : own a x with
          | none => rw [e5] at h; exact h.elim
          | some x' =>
            rw [e5] at h
            have h9 : PostE K cl W false true 0 none (match look env2 r with
              | some t => (match (getL t l).bind lst1 with
                | some xs => k t xs r l x' env2
                | none => .bad)
              | none => .bad) env σ H fe se Q := h
            obtain ⟨rfl, F3⟩ := F2.kept e5
            have F4 := F3.behind g st1 (p1 := true) (fun z => (nomatch z))
            cases e6 : look env2 r with
            | none => rw [e6] at h9; exact h9.elim
            | some t2 =>
              rw [e6] at h9
              have h8 : PostE K cl W false true 0 none (match (getL t2 l).bind lst1 with
                | some xs => k t2 xs r l x' env2
                | none => .bad) env σ H fe se Q := h9
              split at h8
              · rename_i xs2 e7
                have e7 := lst1_at e7
                have FF : ∃ f2 s2, Foc K cl H2 t2 v0 (fe2 r) (se2 r) l (.nd (.lst true) xs2) (.ref b) f2 s2 := by
                  cases hp : isVar p with
                  | true =>
                    cases p with
                    | var i2 =>
                      have e1 : some (i2, ([] : List Nat)) = some (r, l) := e1
                      cases e1
                      obtain ⟨v2, q1, q2⟩ := F2.ge.var e6
                      rw [ev0] at q1; cases q1
                      have e7 : some t2 = some (.nd (.lst true) xs2) := e7
                      cases e7
                      rw [← F.vt rfl] at q2 ⊢
                      exact ⟨_, _, .nil q2⟩
                    | _ => cases hp
                  | false =>
                    have hz : ef a = false := by
                      rw [hp] at hc; simpa using hc
                    obtain ⟨a1, a2, a3, a4⟩ := F2.pure hz
                    subst a1 a2 a3
                    rw [e2] at e6; cases e6
                    rw [e3] at e7; cases e7
                    exact ⟨_, _, F.grow a4⟩
                obtain ⟨f2, s2, F5⟩ := FF
                obtain ⟨b2, vs2, fx2, q1, rfl, eb2, w2⟩ := F5.rv.own1
                cases q1
                exact hk t2 xs2 r l v0 b vs2 fx2 s2 x' va H2 fa sa env2 fe2 se2 F2.ge F4.st e6 ev0 F5 eb2 w2 F4.rv (F4.ext rfl) F4.vo F4.vs h8
              · exact h8.elim
        · exact h.elim
      · exact h.elim
    · exact h.elim
  · exact h.elim
theorem few1 {e : Expr} {cpos : Pos} {env : Env} (hn : nost e = true) : ((backTo cpos (starEach [e] env)).all (fun x => !x.1) && (backToKw cpos (keywordEach [] env)).all (fun x => x.1.isSome)
      && decide ([e].length + ([] : List Keyword).length + (if ([] : List Keyword).isEmpty then 0 else 1) < 30)) = true := by
  rw [show starEach [e] env = (false, eval e env) :: starEach [] env from star_of hn]
  rfl
theorem Rs.mid {xs : List D} {vs : List V} {x : D} {v : V} {f s fa sa : List Addr} (h : Rs K cl H xs vs f s) (r : R K cl H x v fa sa) : Rs K cl H (xs ++ [x]) (vs ++ [v]) (f ++ fa) (s ++ sa) := h.append (.one r)
theorem s_mut1 {m : M1} {p a : E} {x y : Expr} {apos cpos : Pos} (hx : PE X x (tP K cl Δ p)) (hy : PE X y (tE K cl Δ W a)) (hn : nost y = true) (hbase : attributeBase x (m1nm m) X.env (eval x X.env) = eval x X.env) (hline : (apos.endLine == cpos.line) = true) :
    PE X (.Call (.Attribute x (m1nm m) apos) [y] [] cpos) (tE K cl Δ W (.mut1 m p a)) := by
  have st : starEach [y] X.env = (false, eval y X.env) :: starEach [] X.env := star_of hn
  have key : ∀ (r : V → List V → Hp → VK → Prop), (∀ H2 b xs vs fx sx Q z v fa sa ys d (fe se : Nat → List Addr), Rs K cl H2 xs vs fx sx → H2 b = some (.lst vs) → m1op m xs z = some (ys, d) → (b :: fx).Nodup → (∀ c, c ∈ b :: fx → c ∉ sx) → R K cl H2 z v fa sa → Ext fe se fa sa → (∀ c, c ∈ b :: fx → ∃ i, c ∈ fe i) → (∀ c, c ∈ sx → ∃ i, c ∈ se i) →
      (∀ ws fy sy v f s, Rs K cl H2 ys ws fy sy → fy.Nodup → (∀ c, c ∈ fy → c ∉ sy) → (∀ c, c ∈ fy → c ∈ fx ∨ c ∈ fa) → (∀ c, c ∈ sy → c ∈ sx ∨ c ∈ sa) → R K cl H2 d v f s → f.Nodup → (∀ c, c ∈ f → c ∈ fx ∧ c ∉ fy ∧ c ∉ s ∧ c ∉ sy) → (∀ c, c ∈ s → c ∈ sx) → Q v (L2.upd H2 b (.lst ws))) → r (.ref b) [v] H2 Q) →
      ∀ σ H Q, tE K cl Δ W (.mut1 m p a) σ H Q → tBM X.K "list" r (tP K cl Δ p) (tCons (tE K cl Δ W a) tNil) σ H Q := fun r hr σ H Q ⟨env, fe, se, g, h⟩ => by
    refine place1 (N0 := fun y H1 => tyV X.K "list" y H1) (k := fun t xs r l x env => (match m1op m xs x with
      | some (ys, d) => .ok d (env.set r (setL (.nd (.lst true) ys) t l))
      | none => .bad)) (N := fun y v H2 => r y [v] H2 Q) g h (fun b vs H1 eb => .inl ⟨rfl, vs, .inl (.inl eb)⟩) fun t xs r' l v0 b vs fx sx z v H1 fa sa env1 fe1 se1 g1 st1 e2 ev0 F eb w rz xz vo vs' h => ?_
    have h : PostE K cl W false true 0 none (match m1op m xs z with
      | some (ys, d) => .ok d (env1.set r' (setL (.nd (.lst true) ys) t l))
      | none => .bad) env σ H fe se Q := h
    split at h
    · rename_i ys d em
      have ndx : (b :: fx).Nodup := F.sub.2.2 (g1.nd r')
      refine hr H1 b xs vs fx sx Q z v fa sa ys d fe1 se1 w eb em ndx (fun c z1 z2 => g1.ds r' r' c (F.sub.1 c z1) (F.sub.2.1 c z2)) rz xz (fun c hc => ⟨r', F.sub.1 c hc⟩) (fun c hc => ⟨r', F.sub.2.1 c hc⟩) fun ws fy sy v f s w2 nd fs eo es rv fnd hf hs => ?_
      exact wr_fin g st1 g1 e2 ev0 F eb w2 nd fs (fun c hc => (eo c hc).imp id fun q => ⟨fun i => xz.fx c i q, vo c q⟩) (fun c hc => (es c hc).imp id fun q => ⟨fun i => xz.sx c i q, vs' c q⟩) rv fnd hf hs h
    · exact h.elim
  cases m with
  | append =>
    refine (pe_bm PySem.F.plainAttrs_list PySem.F.slot_list_append PySem.F.type_list_append mt_append hx (pa_cons hy pa_nil st) hbase (few1 hn) hline st rfl).imp (key rAppend fun H2 b xs vs fx sx Q z v fa sa ys d fe se w eb em nd fs rz xz hfe hse hq => ?_)
    have em : (if xs.length < sizeL then some (xs ++ [z], D.non) else none) = some (ys, d) := em
    split at em
    · rename_i hz
      cases em
      obtain ⟨n1, n2⟩ := List.nodup_cons.mp nd
      refine ⟨b, vs, v, rfl, rfl, eb, by rw [← w.length, ← sizeL_eq]; exact hz, hq (vs ++ [v]) (fx ++ fa) (sx ++ sa) .non [] [] (w.mid rz) (List.nodup_append.mpr ⟨n2, xz.nd, fun c h1 c2 h2 e => ?_⟩) (fun c h1 h2 => ?_) (fun c hc => List.mem_append.mp hc) (fun c hc => List.mem_append.mp hc) .non List.nodup_nil (fun _ z => nomatch z) (fun _ z => nomatch z)⟩
      · subst e
        obtain ⟨i, hi⟩ := hfe c (List.mem_cons_of_mem _ h1)
        exact (xz.fx c i h2).1 hi
      · rcases List.mem_append.mp h1 with h1 | h1
        · rcases List.mem_append.mp h2 with h2 | h2
          · exact fs c (List.mem_cons_of_mem _ h1) h2
          · obtain ⟨i, hi⟩ := hfe c (List.mem_cons_of_mem _ h1)
            exact xz.sx c i h2 hi
        · rcases List.mem_append.mp h2 with h2 | h2
          · obtain ⟨i, hi⟩ := hse c h2
            exact (xz.fx c i h1).2 hi
          · exact xz.fs c h1 h2
    · cases em
  | extend =>
    refine (pe_bm PySem.F.plainAttrs_list PySem.F.slot_list_extend PySem.F.type_list_extend mt_extend hx (pa_cons hy pa_nil st) hbase (few1 hn) hline st rfl).imp (key rExtend fun H2 b xs vs fx sx Q z v fa sa ys d fe se w eb em nd fs rz xz hfe hse hq => ?_)
    have em : (match lst1 z with
      | some zs => if (imms zs && decide (xs.length + zs.length ≤ sizeL)) = true then some (xs ++ zs, D.non) else none
      | none => none) = some (ys, d) := em
    split at em
    · rename_i zs e
      split at em
      · rename_i hc
        cases em
        obtain ⟨c1, c2⟩ := Bool.and_eq_true_iff.mp hc
        have c2 := of_decide_eq_true c2
        have e := lst1_some e
        subst e
        obtain ⟨b2, vs2, fx2, rfl, rfl, eb2, w2⟩ := rz.own1
        have e := Rs.imm _ w2 c1
        subst e
        obtain ⟨n1, n2⟩ := List.nodup_cons.mp nd
        have wa := w.append w2
        rw [List.append_nil] at wa
        refine ⟨b, b2, vs, vs2, rfl, rfl, eb, eb2, by rw [← w.length, ← w2.length, ← sizeL_eq]; exact c2, hq (vs ++ vs2) fx (sx ++ sa) .non [] [] wa n2 (fun c h1 h2 => ?_) (fun c hc => .inl hc) (fun c hc => List.mem_append.mp hc) .non List.nodup_nil (fun _ z => nomatch z) (fun _ z => nomatch z)⟩
        rcases List.mem_append.mp h2 with h2 | h2
        · exact fs c (List.mem_cons_of_mem _ h1) h2
        · obtain ⟨i, hi⟩ := hfe c (List.mem_cons_of_mem _ h1)
          exact xz.sx c i h2 hi
      · cases em
    · cases em
  | popAt =>
    refine (pe_bm PySem.F.plainAttrs_list PySem.F.slot_list_pop PySem.F.type_list_pop mt_popAt hx (pa_cons hy pa_nil st) hbase (few1 hn) hline st rfl).imp (key rPopAt fun H2 b xs vs fx sx Q z v fa sa ys d fe se w eb em nd fs rz xz hfe hse hq => ?_)
    cases z with
    | int i =>
      have em : (if xs.length ≤ sizeL then (match ixN xs.length i with
        | some n => (match xs[n]? with
          | some d => some (xs.eraseIdx n, d)
          | none => none)
        | none => none) else none) = some (ys, d) := em
      split at em
      · rename_i hz
        split at em
        · rename_i n e1
          split at em
          · rename_i d' e2
            cases em
            obtain ⟨v1, a1, fd, b1, s1, sd, s2, q1, rfl, rfl, r, w2⟩ := w.erase e2
            obtain ⟨k1, k2, k3, k4⟩ := ixN_seq e1
            have hzz : sizeL < 2 ^ 63 := by decide
            have nx := (List.nodup_cons.mp nd).2
            obtain ⟨m1, m2, m3⟩ := List.nodup_append.mp nx
            obtain ⟨m4, m5, m6⟩ := List.nodup_append.mp m1
            rw [w.length] at k1
            refine ⟨b, vs, i, n, v1, rfl, by rw [rz.int_inv], eb, by omega, by omega, k1, q1, hq (vs.eraseIdx n) (a1 ++ b1) (s1 ++ s2) v1 fd sd w2 (List.nodup_append.mpr ⟨m4, m2, fun c h1 c2 h2 e => m3 c (List.mem_append_left _ h1) c2 h2 e⟩) (fun c h1 h2 => ?_) (fun c hc => ?_) (fun c hc => ?_) r m5 (fun c hc => ?_) (fun c hc => ?_)⟩
            · refine fs c (List.mem_cons_of_mem _ ?_) ?_
              · rcases List.mem_append.mp h1 with z | z <;> simp [z]
              · rcases List.mem_append.mp h2 with z | z <;> simp [z]
            · rcases List.mem_append.mp hc with z | z <;> simp [z]
            · rcases List.mem_append.mp hc with z | z <;> simp [z]
            · have hm : c ∈ a1 ++ fd ++ b1 := by simp [hc]
              refine ⟨hm, fun z => ?_, fun z => fs c (List.mem_cons_of_mem _ hm) (by simp [z]), fun z => fs c (List.mem_cons_of_mem _ hm) ?_⟩
              · rcases List.mem_append.mp z with z | z
                · exact m6 c z c hc rfl
                · exact m3 c (List.mem_append_right _ hc) c z rfl
              · rcases List.mem_append.mp z with z | z <;> simp [z]
            · simp [hc]
          · cases em
        · cases em
      · cases em
    | _ => cases em
end
end Vi

set_option Elab.async false
set_option linter.all false
set_option maxRecDepth 100000
set_option maxHeartbeats 2000000
/-! Vi17: targets. -/
namespace Vi
open PySem PySem.Spec L2
mutual
def tsl : T → List Nat
  | .name i => [i]
  | .tup ts => tsls ts
  | .idx _ _ => []
  | .dix _ _ => []
  | .attr _ _ => []
def tsls : Ts → List Nat
  | .nil => []
  | .cons t ts => tsl t ++ tsls ts
end
mutual
def nmT : T → Bool
  | .name _ => true
  | .tup ts => nmTs ts
  | .idx _ _ => false
  | .dix _ _ => false
  | .attr _ _ => false
def nmTs : Ts → Bool
  | .nil => true
  | .cons t ts => nmT t && nmTs ts
end
def lenT : Ts → Nat
  | .nil => 0
  | .cons _ ts => lenT ts + 1
section
variable (K : PySem.W.Frag) (cl : Nat → Addr)
/-- a step that takes a value in -/
structure Sp1 (H : Hp) (fe se : Nat → List Addr) (f s : List Addr) (H' : Hp) (fe' se' : Nat → List Addr) : Prop where
  keep : ∀ a o, H a = some o → ((∀ i, a ∉ fe i) ∧ a ∉ f) ∨ immo o → H' a = some o
  eo : ∀ i a, a ∈ fe' i → (∃ j, a ∈ fe j) ∨ a ∈ f ∨ H a = none
  es : ∀ i a, a ∈ se' i → (∃ j, a ∈ fe j ∨ a ∈ se j) ∨ (a ∈ f ∨ a ∈ s) ∨ H a = none
def PostG (o : Option (List D)) (nm : Bool) (ts : List Nat) (σ : St) (H : Hp) (fe se : Nat → List Addr) (f s : List Addr) (Q : St → Hp → Prop) : Prop := match o with
  | some env' => ∀ σ' H' fe' se', GE K cl H' env' σ' fe' se' → Sp1 H fe se f s H' fe' se' → (∀ i, i ∉ ts → σ'[i]? = σ[i]?) → (nm = true → H' = H ∧ ∀ i, i ∉ ts → fe' i = fe i ∧ se' i = se i) → Q σ' H'
  | none => False
def tG (Δ : Dl) (t : T) : TG := fun v σ H Q => ∃ env fe se d f s, GE K cl H env σ fe se ∧ R K cl H d v f s ∧ Ext fe se f s ∧ PostG K cl (asgT Δ t d env) (nmT t) (tsl t) σ H fe se f s Q
def tGs (Δ : Dl) (ts : Ts) : TGs := fun vs σ H Q => ∃ env fe se ds f s, GE K cl H env σ fe se ∧ Rs K cl H ds vs f s ∧ Ext fe se f s ∧ PostG K cl (asgTs Δ ts ds env) (nmTs ts) (tsls ts) σ H fe se f s Q
end
section
variable {K : PySem.W.Frag} {cl : Nat → Addr} {W : WX} {Δ : Dl} {X : Cx} {H H1 H2 H3 : Hp} {env env0 env1 env2 env3 : List D} {σ : St} {fe se fe1 se1 fe2 se2 : Nat → List Addr}
/-- a variable is written -/
theorem GE.store {i : Nat} {d : D} {v : V} {f s : List Addr} (g : GE K cl H env σ fe se) (r : R K cl H d v f s) (x : Ext fe se f s) (hi : i < env.length) :
    GE K cl H (env.set i d) (σ.set i (some v)) (fun j => if j = i then f else fe j) (fun j => if j = i then s else se j) := by
  refine ⟨by simp [g.len], fun j d' ej => ?_, fun j hj => ?_, fun j => ?_, fun j k a hjk ha => ?_, fun j k a ha => ?_⟩
  · by_cases hj : j = i
    · subst hj
      rw [List.getElem?_set_self hi] at ej; cases ej
      rw [List.getElem?_set_self (by rw [← g.len]; exact hi)]
      simp only [if_pos rfl]
      exact .inr ⟨v, rfl, r⟩
    · rw [List.getElem?_set_ne (Ne.symm hj)] at ej
      rw [List.getElem?_set_ne (Ne.symm hj)]
      simp only [if_neg hj]
      exact g.slot j d' ej
  · have hj : env.length ≤ j := by simpa using hj
    have h : j ≠ i := by omega
    simp only [if_neg h]; exact g.out j hj
  · by_cases h : j = i
    · simp only [if_pos h]; exact x.nd
    · simp only [if_neg h]; exact g.nd j
  · by_cases h : j = i
    · simp only [if_pos h] at ha
      have h2 : k ≠ i := fun z => hjk (h.trans z.symm)
      simp only [if_neg h2]; exact (x.fx a k ha).1
    · simp only [if_neg h] at ha
      by_cases h2 : k = i
      · simp only [if_pos h2]; exact fun z => (x.fx a j z).1 ha
      · simp only [if_neg h2]; exact g.dj j k a hjk ha
  · by_cases h : j = i
    · simp only [if_pos h] at ha
      by_cases h2 : k = i
      · simp only [if_pos h2]; exact x.fs a ha
      · simp only [if_neg h2]; exact (x.fx a k ha).2
    · simp only [if_neg h] at ha
      by_cases h2 : k = i
      · simp only [if_pos h2]; exact fun z => x.sx a j z ha
      · simp only [if_neg h2]; exact g.ds j k a ha
/-- a variable is forgotten -/
theorem GE.drop {i : Nat} (g : GE K cl H env σ fe se) (hi : i < env.length) (o : Option V) : GE K cl H (env.set i .hole) (σ.set i o) (fun j => if j = i then [] else fe j) (fun j => if j = i then [] else se j) := by
  refine ⟨by simp [g.len], fun j d' ej => ?_, fun j hj => ?_, fun j => ?_, fun j k a hjk ha => ?_, fun j k a ha => ?_⟩
  · by_cases hj : j = i
    · subst hj
      rw [List.getElem?_set_self hi] at ej; cases ej
      exact .inl ⟨rfl, by simp, by simp⟩
    · rw [List.getElem?_set_ne (Ne.symm hj)] at ej
      rw [List.getElem?_set_ne (Ne.symm hj)]
      simp only [if_neg hj]
      exact g.slot j d' ej
  · have hj : env.length ≤ j := by simpa using hj
    have h : j ≠ i := by omega
    simp only [if_neg h]; exact g.out j hj
  · by_cases h : j = i
    · simp [h]
    · simp only [if_neg h]; exact g.nd j
  · by_cases h : j = i
    · simp [h] at ha
    · simp only [if_neg h] at ha
      by_cases h2 : k = i
      · simp [h2]
      · simp only [if_neg h2]; exact g.dj j k a hjk ha
  · by_cases h : j = i
    · simp [h] at ha
    · simp only [if_neg h] at ha
      by_cases h2 : k = i
      · simp [h2]
      · simp only [if_neg h2]; exact g.ds j k a ha
theorem PostG.some {o : Option (List D)} {nm : Bool} {ts : List Nat} {f s : List Addr} {Q : St → Hp → Prop} (h : PostG K cl o nm ts σ H fe se f s Q) : ∃ e, o = some e ∧ PostG K cl (some e) nm ts σ H fe se f s Q := by
  cases o with
  | none => exact h.elim
  | some e => exact ⟨e, rfl, h⟩
theorem g_name {i : Nat} {x : Str} {pos : Pos} (hN : X.N.Nodup) (hi : X.N[i]? = some x) (hx : Loc X.env.scope x) (hf : X.fn x = true ∨ X.env.scope.names.lookup x = some .local) : PG X (.Name x pos) (tG K cl Δ (.name i)) := by
  refine ⟨fun pins s σ H v u Q I r ⟨env, fe, se, d, f, s', g, rv, ex, h⟩ => (pg_name hN hi hx hf).run pins s σ H v u Q I r ?_⟩
  have h : PostG K cl (if i < env.length then some (env.set i d) else none) true [i] σ H fe se f s' Q := h
  split at h
  · rename_i hi2
    refine h _ H _ _ (g.store rv ex hi2) ⟨fun _ _ q _ => q, fun j a ha => ?_, fun j a ha => ?_⟩ (fun j hj => ?_) fun _ => ⟨rfl, fun j hj => ?_⟩
    · by_cases q : j = i
      · simp only [if_pos q] at ha; exact .inr (.inl ha)
      · simp only [if_neg q] at ha; exact .inl ⟨j, ha⟩
    · by_cases q : j = i
      · simp only [if_pos q] at ha; exact .inr (.inl (.inr ha))
      · simp only [if_neg q] at ha; exact .inl ⟨j, .inr ha⟩
    · have hne : i ≠ j := fun z => hj (by simp [z])
      exact List.getElem?_set_ne hne
    · have hne : j ≠ i := fun z => hj (by simp [z])
      simp only [if_neg hne]
      exact ⟨trivial, trivial⟩
  · exact h.elim
theorem gs_nil : PGs X [] (tGs K cl Δ .nil) := by
  refine ⟨fun pins s σ H vs us Q I r ⟨env, fe, se, ds, f, s', g, rv, ex, h⟩ => pgs_nil.run pins s σ H vs us Q I r ?_⟩
  cases ds with
  | nil =>
    cases rv
    exact ⟨rfl, h σ H fe se g ⟨fun _ _ q _ => q, fun j a ha => .inl ⟨j, ha⟩, fun j a ha => .inl ⟨j, .inr ha⟩⟩ (fun _ _ => rfl) fun _ => ⟨rfl, fun _ _ => ⟨rfl, rfl⟩⟩⟩
  | cons _ _ => exact h.elim
/-- a value beside, behind a step that takes another in -/
theorem Ext.stays1 {d : List D} {v : List V} {f s f0 s0 : List Addr} (g : GE K cl H1 env1 σ fe1 se1) (r : Rs K cl H1 d v f s) (x : Ext fe1 se1 f s) (st : Sp1 H1 fe1 se1 f0 s0 H2 fe2 se2) (h1 : ∀ a, a ∈ f → a ∉ f0 ∧ a ∉ s0) (h2 : ∀ a, a ∈ s → a ∉ f0) : Rs K cl H2 d v f s ∧ Ext fe2 se2 f s := by
  refine ⟨Rs.keep d r fun b o e h => st.keep b o e ?_, x.nd, x.fs, fun a i ha => ⟨fun z => ?_, fun z => ?_⟩, fun a i ha z => ?_⟩
  · rcases h with h | h | h
    · exact .inl ⟨fun i => (x.fx b i h).1, (h1 b h).1⟩
    · exact .inl ⟨fun i => x.sx b i h, h2 b h⟩
    · exact .inr h
  · obtain ⟨o, e⟩ := Rs.live d r a (.inl ha)
    rcases st.eo i a z with ⟨j, q⟩ | q | q
    · exact (x.fx a j ha).1 q
    · exact (h1 a ha).1 q
    · rw [e] at q; cases q
  · obtain ⟨o, e⟩ := Rs.live d r a (.inl ha)
    rcases st.es i a z with ⟨j, q | q⟩ | (q | q) | q
    · exact (x.fx a j ha).1 q
    · exact (x.fx a j ha).2 q
    · exact (h1 a ha).1 q
    · exact (h1 a ha).2 q
    · rw [e] at q; cases q
  · obtain ⟨o, e⟩ := Rs.live d r a (.inr ha)
    rcases st.eo i a z with ⟨j, q⟩ | q | q
    · exact x.sx a j ha q
    · exact h2 a ha q
    · rw [e] at q; cases q
theorem gs_cons {t : T} {ts : Ts} {e : Expr} {es : List Expr} (hn : nost e = true) (h1 : PG X e (tG K cl Δ t)) (h2 : PGs X es (tGs K cl Δ ts)) : PGs X (e :: es) (tGs K cl Δ (.cons t ts)) := by
  refine ⟨fun pins s σ H vs us Q I r ⟨env, fe, se, ds, f, s', g, rv, ex, h⟩ => (pgs_cons h1 h2 (by cases e <;> first | rfl | cases hn)).run pins s σ H vs us Q I r ?_⟩
  cases ds with
  | nil => exact h.elim
  | cons d ds =>
    cases rv with
    | @cons _ _ v vs f1 f2 s1 s2 r1 r2 =>
      obtain ⟨n1, n2, n3⟩ := List.nodup_append.mp ex.nd
      have h : PostG K cl (match asgT Δ t d env with
        | some e => asgTs Δ ts ds e
        | none => none) (nmT t && nmTs ts) (tsl t ++ tsls ts) σ H fe se (f1 ++ f2) (s1 ++ s2) Q := h
      cases e1 : asgT Δ t d env with
      | none => rw [e1] at h; exact h.elim
      | some env1 =>
        rw [e1] at h
        have h : PostG K cl (asgTs Δ ts ds env1) (nmT t && nmTs ts) (tsl t ++ tsls ts) σ H fe se (f1 ++ f2) (s1 ++ s2) Q := h
        refine ⟨v, vs, rfl, env, fe, se, d, f1, s1, g, r1, ⟨n1, fun a z1 z2 => ex.fs a (List.mem_append_left _ z1) (List.mem_append_left _ z2), fun a i z => ex.fx a i (List.mem_append_left _ z), fun a i z => ex.sx a i (List.mem_append_left _ z)⟩, ?_⟩
        rw [e1]
        intro σ1 H1 fe1 se1 g1 st1 hσ1 hm1
        have x2 : Ext fe se f2 s2 := ⟨n2, fun a z1 z2 => ex.fs a (List.mem_append_right _ z1) (List.mem_append_right _ z2), fun a i z => ex.fx a i (List.mem_append_right _ z), fun a i z => ex.sx a i (List.mem_append_right _ z)⟩
        obtain ⟨r3, x3⟩ := x2.stays1 g r2 st1 (fun a z => ⟨fun y => n3 a y a z rfl, fun y => ex.fs a (List.mem_append_right _ z) (List.mem_append_left _ y)⟩) (fun a z y => ex.fs a (List.mem_append_left _ y) (List.mem_append_right _ z))
        refine ⟨env1, fe1, se1, ds, f2, s2, g1, r3, x3, ?_⟩
        obtain ⟨env2, e2, h⟩ := h.some
        rw [e2]
        intro σ2 H2 fe2 se2 g2 st2 hσ2 hm2
        have fresh : ∀ a, H1 a = none → (∃ j, a ∈ fe j) ∨ a ∈ f1 ∨ H a = none := fun a z => by
          cases q : H a with
          | none => exact .inr (.inr rfl)
          | some o =>
            by_cases hf : a ∈ f1
            · exact .inr (.inl hf)
            · refine .inl (Classical.byContradiction fun n => ?_)
              rw [st1.keep a o q (.inl ⟨fun i hi => n ⟨i, hi⟩, hf⟩)] at z; cases z
        refine h σ2 H2 fe2 se2 g2 ⟨fun a o q hq => ?_, fun i a ha => ?_, fun i a ha => ?_⟩ (fun i hi => ?_) fun hz => ?_
        · by_cases ho : immo o
          · exact st2.keep a o (st1.keep a o q (.inr ho)) (.inr ho)
          · obtain ⟨hq1, hq2⟩ := hq.resolve_right ho
            refine st2.keep a o (st1.keep a o q (.inl ⟨hq1, fun z => hq2 (List.mem_append_left _ z)⟩)) (.inl ⟨fun i z => ?_, fun z => hq2 (List.mem_append_right _ z)⟩)
            rcases st1.eo i a z with ⟨j, y⟩ | y | y
            · exact hq1 j y
            · exact hq2 (List.mem_append_left _ y)
            · rw [q] at y; cases y
        · rcases st2.eo i a ha with ⟨j, z⟩ | z | z
          · exact (st1.eo j a z).imp id fun z => z.imp (List.mem_append_left _) id
          · exact .inr (.inl (List.mem_append_right _ z))
          · exact (fresh a z).imp id fun z => z.imp (List.mem_append_left _) id
        · rcases st2.es i a ha with ⟨j, z | z⟩ | (z | z) | z
          · rcases st1.eo j a z with ⟨k, y⟩ | y | y
            · exact .inl ⟨k, .inl y⟩
            · exact .inr (.inl (.inl (List.mem_append_left _ y)))
            · exact .inr (.inr y)
          · rcases st1.es j a z with y | (y | y) | y
            · exact .inl y
            · exact .inr (.inl (.inl (List.mem_append_left _ y)))
            · exact .inr (.inl (.inr (List.mem_append_left _ y)))
            · exact .inr (.inr y)
          · exact .inr (.inl (.inl (List.mem_append_right _ z)))
          · exact .inr (.inl (.inr (List.mem_append_right _ z)))
          · rcases fresh a z with ⟨j, y⟩ | y | y
            · exact .inl ⟨j, .inl y⟩
            · exact .inr (.inl (.inl (List.mem_append_left _ y)))
            · exact .inr (.inr y)
        · rw [hσ2 i fun z => hi (List.mem_append_right _ z), hσ1 i fun z => hi (List.mem_append_left _ z)]
        · obtain ⟨z1, z2⟩ := Bool.and_eq_true_iff.mp hz
          obtain ⟨a1, a2⟩ := hm1 z1
          obtain ⟨b1, b2⟩ := hm2 z2
          refine ⟨b1.trans a1, fun i hi => ?_⟩
          obtain ⟨c1, c2⟩ := b2 i fun z => hi (List.mem_append_right _ z)
          obtain ⟨d1, d2⟩ := a2 i fun z => hi (List.mem_append_left _ z)
          exact ⟨c1.trans d1, c2.trans d2⟩
theorem asgTs_len : ∀ {ts : Ts} {ds : List D} {env e : List D}, asgTs Δ ts ds env = some e → ds.length = lenT ts
  | .nil, [], _, _, _ => rfl
  | .nil, _ :: _, _, _, h => by cases h
  | .cons t ts, [], _, _, h => by cases h
  | .cons t ts, d :: ds, env, e, h => by
    have h : (match asgT Δ t d env with
      | some e => asgTs Δ ts ds e
      | none => none) = some e := h
    split at h
    · show ds.length + 1 = lenT ts + 1
      rw [asgTs_len h]
    · cases h
theorem nost_each : ∀ {es : List Expr} {env : Env}, es.all nost = true → (assignEach es env).length = es.length ∧ (assignEach es env).findIdx? (·.1) = none
  | [], _, _ => ⟨rfl, rfl⟩
  | e :: es, env, h => by
    obtain ⟨h1, h2⟩ := Bool.and_eq_true_iff.mp (show (nost e && es.all nost) = true from h)
    obtain ⟨k1, k2⟩ := nost_each (env := env) h2
    have q : assignEach (e :: es) env = (false, assign e env) :: assignEach es env := by cases e <;> first | rfl | cases h1
    rw [q]
    refine ⟨by simp [k1], ?_⟩
    rw [List.findIdx?_cons]
    simp [k2]
theorem g_tup {ts : Ts} {es : List Expr} {k : Nat} {pos : Pos} (hK : X.K = K) (hc : X.calm = true) (h : PGs X es (tGs K cl Δ ts)) (hn : es.all nost = true) (hl : es.length = lenT ts) : PG X (.Tuple es k pos) (tG K cl Δ (.tup ts)) := by
  obtain ⟨k1, k2⟩ := nost_each (env := X.env) hn
  refine ⟨fun pins s σ H v u Q I r ⟨env, fe, se, d, f, s', g, rv, ex, h9⟩ => (pg_tup hc h (k1.trans hl) k2).run pins s σ H v u Q I r ?_⟩
  cases d with
  | nd kd xs =>
    cases kd with
    | tup =>
      have h9 : PostG K cl (asgTs Δ ts xs env) (nmTs ts) (tsls ts) σ H fe se f s' Q := h9
      obtain ⟨a, vs, rfl, q, w⟩ := rv.tupl
      obtain ⟨e, he, _⟩ := h9.some
      exact ⟨a, vs, rfl, by rw [hK]; exact q, by rw [← w.length]; exact asgTs_len he, env, fe, se, xs, f, s', g, w, ex, h9⟩
    | _ => exact h9.elim
  | _ => exact h9.elim
theorem Rs.put {xs : List D} {vs : List V} {f s fd sd : List Addr} {n : Nat} {d : D} {v : V} (h : Rs K cl H xs vs f s) (hn : n < xs.length) (r : R K cl H d v fd sd) :
    ∃ fa fo fb sa so sb, f = fa ++ fo ++ fb ∧ s = sa ++ so ++ sb ∧ Rs K cl H (xs.set n d) (vs.set n v) (fa ++ fd ++ fb) (sa ++ sd ++ sb) := by
  obtain ⟨v0, fa, fo, fb, sa, so, sb, e1, e2, e3, r0, w1, w2⟩ := h.split (show xs[n]? = some xs[n] by simp [hn])
  have hv : n < vs.length := (List.getElem?_eq_some_iff.mp e1).1
  refine ⟨fa, fo, fb, sa, so, sb, e2, e3, Rs.join hn (by rw [List.getElem?_set_self hv]) r ?_ ?_⟩
  · rw [List.take_set_of_le (Nat.le_refl _)]; exact w1
  · rw [List.drop_set_of_lt (Nat.lt_succ_self _)]; exact w2
/-- o[i] = .. -/
theorem g_idx {p i : E} {o y : Expr} {pos : Pos} (hK : X.K = K) (tk : True) (ho : PE X o (tP K cl Δ p)) (hi : PE X y (tE K cl Δ W i)) (ha : ∀ v, assign (.Subscript o y pos) X.env v = (do
      let ov ← holding [v] (eval o X.env)
      let iv ← holding [v, ov] (eval y X.env)
      standAt pos
      holding [v, ov, iv] (setItem ov iv v)
      release [v, ov, iv] [])) : PG X (.Subscript o y pos) (tG K cl Δ (.idx p i)) := by
  refine ⟨fun pins s σ H v u Q I r ⟨env, fe, se, d, f, s', g, rv, ex, h⟩ => (pg_sub ho hi set_list ha).run pins s σ H v u Q I r ?_⟩
  have h : PostG K cl (if ef i then none else (match pth Δ p env with
    | some (r, l) => (match look env r with
      | some t => (match (getL t l).bind lst1 with
        | some xs => (match ev Δ i env with
          | .ok j _ => (match (toI j).bind (ixN xs.length) with
            | some n => some (env.set r (setL (.nd (.lst true) (xs.set n d)) t l))
            | none => none)
          | _ => none)
        | none => none)
      | none => none)
    | none => none)) false [] σ H fe se f s' Q := h
  split at h
  · exact h.elim
  · rename_i hef
    have hef : ef i = false := by simpa using hef
    split at h
    · rename_i r l e1
      split at h
      · rename_i t e2
        split at h
        · rename_i xs e3
          have e3 := lst1_at e3
          split at h
          · rename_i j env2 e4
            split at h
            · rename_i n e5
              obtain ⟨ji, e6, e7⟩ := Option.bind_eq_some_iff.mp e5
              have := toI_some e6
              subst this
              refine ⟨env, fe, se, g, ?_⟩
              rw [e1]
              refine ⟨t, _, e2, e3, fun v0 v1 H1 f1 s1 g1 gr ev0 F => ?_⟩
              refine ⟨env, fe, se, g1, ?_⟩
              rw [e4]
              intro v2 H2 f2 s2 fe2 se2 F2
              obtain ⟨rfl, rfl, rfl, gr2⟩ := F2.pure hef
              have F3 := F.grow gr2
              have gr3 := gr.trans gr2
              obtain ⟨b, vs, fx, rfl, rfl, eb, w⟩ := F3.rv.own1
              have hn : n < xs.length := ixN_lt e7
              have r3 := rv.grow gr3
              obtain ⟨fa, fo, fb, sa, so, sb, q1, q2, w3⟩ := w.put hn r3
              have g2 := F2.ge
              have fr : ∀ c, c ∈ b :: fx → c ∈ fe2 r := F3.sub.1
              have sr : ∀ c, c ∈ s1 → c ∈ se2 r := F3.sub.2.1
              have ndx : (b :: fx).Nodup := F3.sub.2.2 (g2.nd r)
              have nx := (List.nodup_cons.mp ndx).2
              rw [q1] at nx
              obtain ⟨m1, m2, m3⟩ := List.nodup_append.mp nx
              obtain ⟨m4, m5, m6⟩ := List.nodup_append.mp m1
              have inx : ∀ c, c ∈ fa ∨ c ∈ fb → c ∈ fx := fun c z => by rw [q1]; rcases z with z | z <;> simp [z]
              have ins : ∀ c, c ∈ sa ∨ c ∈ sb → c ∈ s1 := fun c z => by rw [q2]; rcases z with z | z <;> simp [z]
              have frx : ∀ c, c ∈ fa ∨ c ∈ fb → c ∈ fe2 r := fun c z => fr c (List.mem_cons_of_mem _ (inx c z))
              obtain ⟨n3, n4, n1, n2, fe3, se3, g3, k1, k2, k3⟩ := g2.wr e2 ev0 F3 eb w3 (List.nodup_append.mpr ⟨List.nodup_append.mpr ⟨m4, ex.nd, fun c z1 c2 z2 e => by
                  subst e
                  exact (ex.fx c r z2).1 (frx c (.inl z1))⟩, m2, fun c z1 c2 z2 e => by
                  subst e
                  rcases List.mem_append.mp z1 with z1 | z1
                  · exact m3 c (List.mem_append_left _ z1) c z2 rfl
                  · exact (ex.fx c r z1).1 (frx c (.inr z2))⟩) (fun c z1 z2 => by
                  rcases List.mem_append.mp z1 with z1 | z1
                  · rcases List.mem_append.mp z1 with z1 | z1
                    · rcases List.mem_append.mp z2 with z2 | z2
                      · rcases List.mem_append.mp z2 with z2 | z2
                        · exact g2.ds r r c (frx c (.inl z1)) (sr c (ins c (.inl z2)))
                        · exact ex.sx c r z2 (frx c (.inl z1))
                      · exact g2.ds r r c (frx c (.inl z1)) (sr c (ins c (.inr z2)))
                    · rcases List.mem_append.mp z2 with z2 | z2
                      · rcases List.mem_append.mp z2 with z2 | z2
                        · exact (ex.fx c r z1).2 (sr c (ins c (.inl z2)))
                        · exact ex.fs c z1 z2
                      · exact (ex.fx c r z1).2 (sr c (ins c (.inr z2)))
                  · rcases List.mem_append.mp z2 with z2 | z2
                    · rcases List.mem_append.mp z2 with z2 | z2
                      · exact g2.ds r r c (frx c (.inr z1)) (sr c (ins c (.inl z2)))
                      · exact ex.sx c r z2 (frx c (.inr z1))
                    · exact g2.ds r r c (frx c (.inr z1)) (sr c (ins c (.inr z2)))) (fun c z => by
                  rcases List.mem_append.mp z with z | z
                  · rcases List.mem_append.mp z with z | z
                    · exact .inl (inx c (.inl z))
                    · exact .inr fun i => ex.fx c i z
                  · exact .inl (inx c (.inr z))) (fun c z => by
                  rcases List.mem_append.mp z with z | z
                  · rcases List.mem_append.mp z with z | z
                    · exact .inl (ins c (.inl z))
                    · exact .inr fun i => ex.sx c i z
                  · exact .inl (ins c (.inr z)))
              refine ⟨b, vs, ji, n, rfl, F2.rv.int_inv, eb, by rw [← w.length]; exact e7, ?_⟩
              refine h σ _ fe3 se3 g3 ⟨fun c o q hq => ?_, fun i c hc => ?_, fun i c hc => ?_⟩ (fun _ _ => rfl) fun z => (nomatch z)
              · have q2 := gr3 c o q
                have hne : c ≠ b := fun z => by
                  subst z
                  rcases hq with z | z
                  · exact z.1 r (fr c List.mem_cons_self)
                  · rw [eb] at q2; cases q2; exact z
                rw [upd_ne hne]; exact q2
              · rcases k1 i c hc with ⟨z, _⟩ | z
                · exact .inl ⟨i, z⟩
                · rcases List.mem_cons.mp z with rfl | z
                  · exact .inl ⟨r, fr c List.mem_cons_self⟩
                  · rcases List.mem_append.mp z with z | z
                    · rcases List.mem_append.mp z with z | z
                      · exact .inl ⟨r, frx c (.inl z)⟩
                      · exact .inr (.inl z)
                    · exact .inl ⟨r, frx c (.inr z)⟩
              · rcases k2 i c hc with z | z
                · exact .inl ⟨i, .inr z⟩
                · rcases List.mem_append.mp z with z | z
                  · rcases List.mem_append.mp z with z | z
                    · exact .inl ⟨r, .inr (sr c (ins c (.inl z)))⟩
                    · exact .inr (.inl (.inr z))
                  · exact .inl ⟨r, .inr (sr c (ins c (.inr z)))⟩
            · exact h.elim
          · exact h.elim
        · exact h.elim
      · exact h.elim
    · exact h.elim
/-! ### d[(..)] = .. -/
theorem dct1_at {o : Option D} {ks : List (List Key)} {xs : List D} (h : o.bind dct1 = some (ks, xs)) : o = some (.nd (.dT true ks) xs) := by
  obtain ⟨d, e, h⟩ := Option.bind_eq_some_iff.mp h
  rw [e]
  unfold dct1 at h
  split at h
  · split at h
    · cases h; rfl
    · cases h
  · cases h
theorem kPut_len {α : Type} {q : List Key} {v : α} : ∀ {ks : List (List Key)} {vs : List α}, ks.length = vs.length → (kPut q v ks vs).length = ks.length
  | [], _, _ => rfl
  | k :: ks, [], h => by cases h
  | k :: ks, x :: vs, h => by show (kPut q v ks vs).length + 1 = ks.length + 1; rw [kPut_len (by simpa using h)]
theorem kPut_zip {q : List Key} {v : V} : ∀ {ks : List (List Key)} {vs : List V}, ks.length = vs.length → ks.zip (kPut q v ks vs) = (ks.zip vs).map fun kv => if kv.1 = q then (kv.1, v) else kv
  | [], _, _ => rfl
  | k :: ks, [], h => by cases h
  | k :: ks, x :: vs, h => by
    show (k, if k = q then v else x) :: ks.zip (kPut q v ks vs) = (if (k, x).1 = q then ((k, x).1, v) else (k, x)) :: (ks.zip vs).map _
    rw [kPut_zip (by simpa using h)]
    by_cases c : k = q
    · rw [if_pos c, if_pos (show (k, x).1 = q from c)]
    · rw [if_neg c, if_neg (show ¬ (k, x).1 = q from c)]
theorem Rs.kput {q : List Key} {d : D} {v : V} {sd : List Addr} (r : R K cl H d v [] sd) : ∀ {ks : List (List Key)} {xs : List D} {vs : List V} {f s : List Addr}, ks.length = vs.length → imms xs = true → Rs K cl H xs vs f s →
    ∃ s', Rs K cl H (kPut q d ks xs) (kPut q v ks vs) [] s' ∧ ∀ a, a ∈ s' → a ∈ s ∨ a ∈ sd
  | [], _, _, _, _, _, _, h => by
    refine ⟨[], ?_, fun _ z => (nomatch z)⟩
    cases h <;> exact .nil
  | k :: ks, [], vs, _, _, e, _, h => by cases h; cases e
  | k :: ks, x :: xs, _, _, _, e, hi, h => by
    obtain ⟨i1, i2⟩ := Bool.and_eq_true_iff.mp (show (Vi.imm x && imms xs) = true from hi)
    cases h with
    | @cons _ _ v1 vs1 f1 f2 s1 s2 h1 h2 =>
      obtain ⟨s', w, m⟩ := Rs.kput (q := q) r (ks := ks) (by simpa using e) i2 h2
      have := R.imm x h1 i1
      subst this
      by_cases c : k = q
      · refine ⟨sd ++ s', ?_, fun a ha => ?_⟩
        · show Rs K cl H ((if k = q then d else x) :: kPut q d ks xs) ((if k = q then v else v1) :: kPut q v ks vs1) [] _
          rw [if_pos c, if_pos c]
          exact Rs.cons (f := []) (f' := []) r w
        · rcases List.mem_append.mp ha with z | z
          · exact .inr z
          · exact (m a z).imp (List.mem_append_right _) id
      · refine ⟨s1 ++ s', ?_, fun a ha => ?_⟩
        · show Rs K cl H ((if k = q then d else x) :: kPut q d ks xs) ((if k = q then v else v1) :: kPut q v ks vs1) [] _
          rw [if_neg c, if_neg c]
          exact Rs.cons (f := []) (f' := []) h1 w
        · rcases List.mem_append.mp ha with z | z
          · exact .inl (List.mem_append_left _ z)
          · exact (m a z).imp (List.mem_append_right _) id
theorem dput_R {q : List Key} {d : D} {v : V} {sd : List Addr} (r : R K cl H d v [] sd) {ks : List (List Key)} {xs : List D} {vs : List V} {f s : List Addr} (hl : ks.length = vs.length) (hi : imms xs = true) (w : Rs K cl H xs vs f s) :
    ∃ ks2 ys ws s', dput ks xs q d = .nd (.dT true ks2) ys ∧ putK (ks.zip vs) q v = ks2.zip ws ∧ ks2.length = ws.length ∧ Rs K cl H ys ws [] s' ∧ ∀ a, a ∈ s' → a ∈ s ∨ a ∈ sd := by
  have hq := kHas_val q ks vs hl
  unfold dput
  by_cases c : kHas q ks = true
  · rw [if_pos c]
    obtain ⟨s', w2, m⟩ := Rs.kput (q := q) r hl hi w
    refine ⟨ks, _, kPut q v ks vs, s', rfl, ?_, (kPut_len hl).symm, w2, m⟩
    rw [kPut_zip hl]
    unfold putK
    rw [c] at hq
    rw [if_pos (by rw [valV_any]; exact hq.symm)]
  · rw [if_neg c]
    have e := Rs.imm _ w hi
    subst e
    refine ⟨ks ++ [q], _, vs ++ [v], s ++ sd, rfl, ?_, by simp [hl], Rs.append (f := []) (f' := []) w (.one r), fun a ha => List.mem_append.mp ha⟩
    have hn : valV (ks.zip vs) q = none := by
      cases e : valV (ks.zip vs) q with
      | none => rfl
      | some _ => rw [e] at hq; exact absurd hq c
    rw [putK_new v hn, List.zip_append hl]; rfl
theorem g_dix {p : E} {es : Es} {o : Expr} {ys : List Expr} {j : Nat} {pos pos2 : Pos} (hu : X.A.units + 64 < cLine) (ho : PE X o (tP K cl Δ p)) (hes : PA X ys (tEs K cl Δ W es)) : PG X (.Subscript o (.Tuple ys j pos2) pos) (tG K cl Δ (.dix p es)) := by
  refine ⟨fun pins s σ H v u Q I r ⟨env, fe, se, d, f, s', g, rv, ex, h⟩ => (pg_sub ho (pe_tup hes) (ViD.set_dict (by omega))).run pins s σ H v u Q I r ?_⟩
  have h : PostG K cl (if efs es then none else (match pth Δ p env with
    | some (r, l) => (match look env r with
      | some t => (match (getL t l).bind dct1 with
        | some (ks, xs) => (match evs Δ es env with
          | .ok js _ => (match keysOf js with
            | some q => if imm d && (imms xs && (decide (ks.length < sizeL) && decide (js.length ≤ sizeL))) then some (env.set r (setL (dput ks xs q d) t l)) else none
            | none => none)
          | _ => none)
        | none => none)
      | none => none)
    | none => none)) false [] σ H fe se f s' Q := h
  split at h
  · exact h.elim
  · rename_i hef
    have hef : efs es = false := by simpa using hef
    split at h
    · rename_i r l e1
      split at h
      · rename_i t e2
        split at h
        · rename_i ks xs e3
          have e3 := dct1_at e3
          split at h
          · rename_i js env2 e4
            split at h
            · rename_i q e5
              split at h
              · rename_i hc
                obtain ⟨hi, hc⟩ := Bool.and_eq_true_iff.mp hc
                obtain ⟨hx, hc⟩ := Bool.and_eq_true_iff.mp hc
                obtain ⟨hz, hj⟩ := Bool.and_eq_true_iff.mp hc
                have hz := of_decide_eq_true hz
                have hj := of_decide_eq_true hj
                have ef := R.imm _ rv hi
                subst ef
                refine ⟨env, fe, se, g, ?_⟩
                rw [e1]
                refine ⟨t, _, e2, e3, fun v0 v1 H1 f1 s1 g1 gr ev0 F => ?_⟩
                refine ⟨env, fe, se, g1, ?_⟩
                rw [e4]
                intro vs2 H2 f2 s2 fe2 se2 F2
                obtain ⟨rfl, rfl, rfl, gr2⟩ := F2.pure hef
                obtain ⟨rfl, _, rfl, rfl⟩ := F2.rv.keys e5
                refine ⟨by rw [← F2.rv.length, ← sizeL_eq]; exact hj, fun pp np => ?_⟩
                have gr3 : Grow H2 (upd H2 pp (.tup (q.map kV))) := Grow.upd np
                have gr4 : Grow H (upd H2 pp (.tup (q.map kV))) := (gr.trans gr2).trans gr3
                have F3 := F.grow (gr2.trans gr3)
                obtain ⟨b, vs, fx, rfl, rfl, eb, hlen, w⟩ := F3.rv.ownT
                have efx := Rs.imm _ w hx
                subst efx
                obtain ⟨ks2, ys2, ws, sy, q1, q2, q3, w3, q4⟩ := dput_R (q := q) (rv.grow gr4) hlen hx w
                rw [q1] at h
                have g2 := F2.ge.grow gr3
                have fr : ∀ c, c ∈ [b] → c ∈ fe2 r := F3.sub.1
                have sr : ∀ c, c ∈ s1 → c ∈ se2 r := F3.sub.2.1
                obtain ⟨n3, n4, n1, n2, fe3, se3, g3, k1, k2, k3⟩ := g2.wrT e2 ev0 F3 eb q3 w3 List.nodup_nil (fun c z => (nomatch z)) (fun c z => (nomatch z)) (fun c z => (q4 c z).imp id fun z i => ex.sx c i z)
                refine ⟨b, pp, ks.zip vs, q, rfl, rfl, eb, upd_same, ?_, ?_⟩
                · rw [List.length_zip, hlen, Nat.min_self, ← hlen, ← sizeL_eq]; exact hz
                · rw [q2]
                  refine h σ _ fe3 se3 g3 ⟨fun c o hq hcc => ?_, fun i c hc => ?_, fun i c hc => ?_⟩ (fun _ _ => rfl) fun z => (nomatch z)
                  · have q2 := gr4 c o hq
                    have hne : c ≠ b := fun z => by
                      subst z
                      rcases hcc with z | z
                      · exact z.1 r (fr c List.mem_cons_self)
                      · rw [eb] at q2; cases q2; exact z
                    rw [upd_ne hne]; exact q2
                  · rcases k1 i c hc with ⟨z, _⟩ | z
                    · exact .inl ⟨i, z⟩
                    · have z : c = b := by simpa using z
                      subst z
                      exact .inl ⟨r, fr c List.mem_cons_self⟩
                  · rcases k2 i c hc with z | z
                    · exact .inl ⟨i, .inr z⟩
                    · rcases q4 c z with z | z
                      · exact .inl ⟨r, .inr (sr c z)⟩
                      · exact .inr (.inl (.inr z))
              · exact h.elim
            · exact h.elim
          · exact h.elim
        · exact h.elim
      · exact h.elim
    · exact h.elim
mutual
theorem asgT_len : ∀ {t : T} {d : D} {env e : List D}, nmT t = true → asgT Δ t d env = some e → e.length = env.length ∧ ∀ i, i ∉ tsl t → e[i]? = env[i]?
  | .name i, d, env, e, _, h => by
    have h : (if i < env.length then some (env.set i d) else none) = some e := h
    split at h
    · cases h
      exact ⟨List.length_set, fun j hj => List.getElem?_set_ne fun z => hj (by rw [z]; exact List.mem_cons_self)⟩
    · cases h
  | .tup ts, d, env, e, hm, h => by
    cases d with
    | nd k xs =>
      cases k with
      | tup => exact asgTs_len2 (ts := ts) hm h
      | _ => cases h
    | _ => cases h
  | .idx _ _, _, _, _, hm, _ => by cases hm
  | .dix _ _, _, _, _, hm, _ => by cases hm
  | .attr _ _, _, _, _, hm, _ => by cases hm
theorem asgTs_len2 : ∀ {ts : Ts} {ds : List D} {env e : List D}, nmTs ts = true → asgTs Δ ts ds env = some e → e.length = env.length ∧ ∀ i, i ∉ tsls ts → e[i]? = env[i]?
  | .nil, [], _, _, _, h => by
    cases h
    exact ⟨rfl, fun _ _ => rfl⟩
  | .nil, _ :: _, _, _, _, h => by cases h
  | .cons t ts, [], _, _, _, h => by cases h
  | .cons t ts, d :: ds, env, e, hm, h => by
    obtain ⟨z1, z2⟩ := Bool.and_eq_true_iff.mp hm
    have h : (match asgT Δ t d env with
      | some e => asgTs Δ ts ds e
      | none => none) = some e := h
    split at h
    · rename_i e1 he
      obtain ⟨a1, a2⟩ := asgT_len z1 he
      obtain ⟨b1, b2⟩ := asgTs_len2 z2 h
      exact ⟨b1.trans a1, fun i hi => (b2 i fun z => hi (List.mem_append_right _ z)).trans (a2 i fun z => hi (List.mem_append_left _ z))⟩
    · cases h
end
end
end Vi

set_option Elab.async false
set_option linter.all false
set_option maxRecDepth 100000
set_option maxHeartbeats 2000000
/-! Vi18: what is walked. -/
namespace Vi
open PySem PySem.Spec L2
def srcV : E → List Nat
  | .var i => [i]
  | _ => []
section
variable (K : PySem.W.Frag) (cl : Nat → Addr)
/-- untouched so far -/
def Zt (src : List Nat) (env1 : List D) (σ1 : St) (H1 : Hp) (f0 s0 : List Addr) (H : Hp) (env : List D) (σ : St) : Prop :=
  (∀ i, i ∈ src → env[i]? = env1[i]? ∧ σ[i]? = σ1[i]?) ∧ ∀ b o, H1 b = some o → b ∈ f0 ∨ b ∈ s0 ∨ immo o → H b = some o
structure Wk (J : It) (ds : List D) (src : List Nat) (env1 : List D) (σ1 : St) (H1 : Hp) (f0 s0 : List Addr) : Prop where
  goes : ∀ i H env σ fe se, i < ds.length → GE K cl H env σ fe se → Zt src env1 σ1 H1 f0 s0 H env σ → J.go i H
  stops : ∀ H env σ fe se, GE K cl H env σ fe se → Zt src env1 σ1 H1 f0 s0 H env σ → J.stop ds.length H
  yields : ∀ i H env σ fe se x H', i < ds.length → GE K cl H env σ fe se → Zt src env1 σ1 H1 f0 s0 H env σ → J.yld i H x H' → ∃ d s, ds[i]? = some d ∧ Grow H H' ∧ R K cl H' d x [] s ∧ ∀ b, b ∈ s → b ∈ s0 ∨ ∃ j, b ∈ se j
def Hold (d : D) (v : V) (src : List Nat) (env1 : List D) (σ1 : St) (H1 : Hp) (f0 s0 : List Addr) : Prop :=
  ∀ H env σ fe se, GE K cl H env σ fe se → Zt src env1 σ1 H1 f0 s0 H env σ → ∃ f s, R K cl H d v f s ∧ ∀ b, b ∈ s → b ∈ s0 ∨ ∃ j, b ∈ se j
def PostI (W : WX) (p : Bool) (src : List Nat) (res : Res (List D)) (env : List D) (σ : St) (H : Hp) (fe se : Nat → List Addr) (Q : It → Hp → Prop) : Prop := match res with
  | .ok ds env1 => ∀ J H1 fe1 se1 f0 s0, GE K cl H1 env1 σ fe1 se1 → Sp0 H fe se H1 fe1 se1 → Ext fe1 se1 f0 s0 → (∀ b, b ∈ f0 ∨ b ∈ s0 → ∃ o, H1 b = some o) → (∀ b, b ∈ s0 → (∃ j, b ∈ fe j ∨ b ∈ se j) ∨ H b = none) →
      (p = false → Pur env H fe se env1 H1 fe1 se1) → Wk K cl J ds src env1 σ H1 f0 s0 → Q J H1
  | .err x env' => PostX K cl W x env' σ H fe se
  | .bad => False
def tI (Δ : Dl) (W : WX) (it : I) : TI := fun σ H Q => ∃ env fe se, GE K cl H env σ fe se ∧ PostI K cl W (efi it) (srcs it) (evi Δ it env) env σ H fe se Q
end
section
variable {K : PySem.W.Frag} {cl : Nat → Addr} {W : WX} {Δ : Dl} {X : Cx} {H H1 H2 H3 : Hp} {env env0 env1 env2 env3 : List D} {σ : St} {fe se fe1 se1 fe2 se2 : Nat → List Addr}
theorem look_congr {i : Nat} (h : env1[i]? = env2[i]?) : look env1 i = look env2 i := by
  unfold look; rw [h]
theorem Hold.mono {d : D} {v : V} {src src' : List Nat} {f0 s0 f1 s1 : List Addr} (h : Hold K cl d v src env1 σ H1 f0 s0) (a : ∀ i, i ∈ src → i ∈ src') (b : ∀ i, i ∈ f0 → i ∈ f1) (c : ∀ i, i ∈ s0 → i ∈ s1) (g : Grow H1 H2) (hl : ∀ b, b ∈ f0 ∨ b ∈ s0 → ∃ o, H1 b = some o) : Hold K cl d v src' env1 σ H2 f1 s1 :=
  fun H env σ fe se ge z => by
    obtain ⟨f, s, r, q⟩ := h H env σ fe se ge ⟨fun i hi => z.1 i (a i hi), fun x o e hx => z.2 x o (g x o e) (hx.imp (b x) fun y => y.imp (c x) id)⟩
    exact ⟨f, s, r, fun x hx => (q x hx).imp (c x) id⟩
/-- the operand that is walked -/
theorem hold_of {a : E} {p : Bool} {d : D} {v : V} {f s : List Addr} (g : GE K cl H env σ fe se) (F : Fi K cl (vw a) p (rt a) (varOf a) env σ H fe se d env1 v H1 f s fe1 se1) (he : ev Δ a env = .ok d env1) (hw : wkd a d = true) :
    ∃ f0 s0, Ext fe1 se1 f0 s0 ∧ (∀ b, b ∈ f0 ∨ b ∈ s0 → ∃ o, H1 b = some o) ∧ (∀ b, b ∈ f0 → (∃ j, b ∈ fe j) ∨ H b = none) ∧ (∀ b, b ∈ s0 → (∃ j, b ∈ fe j ∨ b ∈ se j) ∨ H b = none) ∧ Hold K cl d v (srcV a) env1 σ H1 f0 s0 := by
  have key : (vw a = true → imm d = true) → ∃ f0 s0, Ext fe1 se1 f0 s0 ∧ (∀ b, b ∈ f0 ∨ b ∈ s0 → ∃ o, H1 b = some o) ∧ (∀ b, b ∈ f0 → (∃ j, b ∈ fe j) ∨ H b = none) ∧ (∀ b, b ∈ s0 → (∃ j, b ∈ fe j ∨ b ∈ se j) ∨ H b = none) ∧ Hold K cl d v (srcV a) env1 σ H1 f0 s0 := fun hi =>
    ⟨f, s, F.still hi, (fun b hb => R.live d F.rv b hb), F.vo, F.vs, fun H2 env2 σ2 fe2 se2 g2 z => ⟨f, s, R.keep d F.rv z.2, fun b hb => .inl hb⟩⟩
  unfold wkd at hw
  cases hv : isVar a with
  | true =>
    cases a with
    | var i =>
      have he : Res.of (look env i) env = .ok d env1 := he
      cases hl : look env i with
      | none => rw [hl] at he; cases he
      | some d' =>
        rw [hl] at he
        cases he
        refine ⟨[], [], ⟨List.nodup_nil, fun _ z => (nomatch z), fun _ _ z => (nomatch z), fun _ _ z => (nomatch z)⟩, fun b z => (by rcases z with z | z <;> cases z), fun _ z => (nomatch z), fun _ z => (nomatch z), fun H2 env2 σ2 fe2 se2 g2 z => ?_⟩
        obtain ⟨z1, z2⟩ := z.1 i List.mem_cons_self
        obtain ⟨v2, q1, q2⟩ := g2.var ((look_congr z1).trans hl)
        rw [z2, F.vr i rfl] at q1
        cases q1
        exact ⟨_, _, q2, fun b hb => .inr ⟨i, hb⟩⟩
    | _ => cases hv
  | false =>
    rw [hv] at hw
    refine key fun hvw => ?_
    rw [hvw] at hw
    simpa using hw
theorem Hold.lst {o : Bool} {xs : List D} {v : V} {src : List Nat} {f0 s0 : List Addr} (h : Hold K cl (.nd (.lst o) xs) v src env1 σ H1 f0 s0) (hi : imms xs = true) {H : Hp} {env : List D} {σ' : St} {fe se : Nat → List Addr} (g : GE K cl H env σ' fe se) (z : Zt src env1 σ H1 f0 s0 H env σ') :
    ∃ a vs s, v = .ref a ∧ SqL K H a vs ∧ Rs K cl H xs vs [] s ∧ ∀ b, b ∈ s → b ∈ s0 ∨ ∃ j, b ∈ se j := by
  obtain ⟨f, s, r, q⟩ := h H env σ' fe se g z
  obtain ⟨a, vs, s', h1, h2, h3, h4⟩ := r.lst hi
  exact ⟨a, vs, s', h1, h2, h3, fun b hb => q b (h4 b hb)⟩
theorem Hold.tup {xs : List D} {v : V} {src : List Nat} {f0 s0 : List Addr} (h : Hold K cl (.nd .tup xs) v src env1 σ H1 f0 s0) (hi : imms xs = true) {H : Hp} {env : List D} {σ' : St} {fe se : Nat → List Addr} (g : GE K cl H env σ' fe se) (z : Zt src env1 σ H1 f0 s0 H env σ') :
    ∃ a vs s, v = .ref a ∧ SqT K H a vs ∧ Rs K cl H xs vs [] s ∧ ∀ b, b ∈ s → b ∈ s0 ∨ ∃ j, b ∈ se j := by
  obtain ⟨f, s, r, q⟩ := h H env σ' fe se g z
  obtain ⟨a, vs, h1, h2, h3⟩ := r.tupl
  have e := Rs.imm _ h3 hi
  subst e
  exact ⟨a, vs, s, h1, h2, h3, q⟩
theorem Rs.nth {xs : List D} {vs : List V} {s : List Addr} {i : Nat} (h : Rs K cl H xs vs [] s) (hi : i < xs.length) : ∃ v sd, vs[i]? = some v ∧ R K cl H xs[i] v [] sd ∧ ∀ b, b ∈ sd → b ∈ s := by
  obtain ⟨v, fd, sd, e, r, h1, h2, _⟩ := R.child h (show xs[i]? = some xs[i] by simp [hi])
  have : fd = [] := by
    cases fd with
    | nil => rfl
    | cons x l => exact absurd (h1 x List.mem_cons_self) (List.not_mem_nil)
  subst this
  exact ⟨v, sd, e, r, h2⟩
theorem wk_list {o : Bool} {xs : List D} {v : V} {a : Addr} {src : List Nat} {f0 s0 : List Addr} (h : Hold K cl (.nd (.lst o) xs) v src env1 σ H1 f0 s0) (hi : imms xs = true) (hv : v = .ref a) : Wk K cl (Itl K a) xs src env1 σ H1 f0 s0 := by
  subst hv
  refine ⟨fun i H env σ' fe se hn g z => ?_, fun H env σ' fe se g z => ?_, fun i H env σ' fe se x H' hn g z y => ?_⟩
  · obtain ⟨a', vs, s, e, q, w, _⟩ := h.lst hi g z
    cases e
    obtain ⟨v, sd, e, _⟩ := w.nth hn
    exact ⟨vs, v, q, e⟩
  · obtain ⟨a', vs, s, e, q, w, _⟩ := h.lst hi g z
    cases e
    exact ⟨vs, q, by rw [w.length]; exact Nat.le_refl _⟩
  · obtain ⟨a', vs, s, e, q, w, hs⟩ := h.lst hi g z
    cases e
    obtain ⟨v, sd, e, r, m⟩ := w.nth hn
    obtain ⟨rfl, y2⟩ := y
    have := y2 vs q
    rw [e] at this; cases this
    exact ⟨xs[i], sd, by simp [hn], Grow.refl, r, fun b hb => hs b (m b hb)⟩
theorem wk_tup {xs : List D} {v : V} {a : Addr} {src : List Nat} {f0 s0 : List Addr} (h : Hold K cl (.nd .tup xs) v src env1 σ H1 f0 s0) (hi : imms xs = true) (hv : v = .ref a) : Wk K cl (Itt K a) xs src env1 σ H1 f0 s0 := by
  subst hv
  refine ⟨fun i H env σ' fe se hn g z => ?_, fun H env σ' fe se g z => ?_, fun i H env σ' fe se x H' hn g z y => ?_⟩
  · obtain ⟨a', vs, s, e, q, w, _⟩ := h.tup hi g z
    cases e
    obtain ⟨v, sd, e, _⟩ := w.nth hn
    exact ⟨vs, v, q, e⟩
  · obtain ⟨a', vs, s, e, q, w, _⟩ := h.tup hi g z
    cases e
    exact ⟨vs, q, by rw [w.length]; exact Nat.le_refl _⟩
  · obtain ⟨a', vs, s, e, q, w, hs⟩ := h.tup hi g z
    cases e
    obtain ⟨v, sd, e, r, m⟩ := w.nth hn
    obtain ⟨rfl, y2⟩ := y
    have := y2 vs q
    rw [e] at this; cases this
    exact ⟨xs[i], sd, by simp [hn], Grow.refl, r, fun b hb => hs b (m b hb)⟩
/-- a new pair -/
theorem R.pair {H : Hp} {T : Addr} {d1 d2 : D} {v1 v2 : V} {s1 s2 : List Addr} (r1 : R K cl H d1 v1 [] s1) (r2 : R K cl H d2 v2 [] s2) (hn : H T = none) : R K cl (L2.upd H T (.tup [v1, v2])) (.nd .tup [d1, d2]) (.ref T) [] (s1 ++ s2) := by
  have w := (Rs.one r1).append (Rs.one r2)
  exact .tup (.inl (.inl upd_same)) (w.grow (Grow.upd hn))
theorem idxs_len : ∀ (n : Nat) (xs : List D), (idxs n xs).length = xs.length
  | _, [] => rfl
  | n, d :: r => by show (idxs (n + 1) r).length + 1 = r.length + 1; rw [idxs_len]
theorem idxs_get : ∀ (n : Nat) (xs : List D) (i : Nat) (h : i < xs.length), (idxs n xs)[i]? = some (.nd .tup [.int ((n + i : Nat) : Int), xs[i]])
  | _, [], i, h => by simp at h
  | n, d :: r, 0, h => by simp [idxs]
  | n, d :: r, i + 1, h => by
    have h' : i < r.length := Nat.lt_of_succ_lt_succ h
    show (idxs (n + 1) r)[i]? = _
    rw [idxs_get (n + 1) r i h']
    simp only [List.getElem_cons_succ]
    rw [show n + 1 + i = n + (i + 1) by omega]
theorem wk_enum {o : Bool} {xs : List D} {v : V} {a : Addr} {src : List Nat} {f0 s0 : List Addr} (h : Hold K cl (.nd (.lst o) xs) v src env1 σ H1 f0 s0) (hi : imms xs = true) (hv : v = .ref a) : Wk K cl (Ite K a) (idxs 0 xs) src env1 σ H1 f0 s0 := by
  subst hv
  refine ⟨fun i H env σ' fe se hn g z => ?_, fun H env σ' fe se g z => ?_, fun i H env σ' fe se x H' hn g z y => ?_⟩
  · rw [idxs_len] at hn
    obtain ⟨a', vs, s, e, q, w, _⟩ := h.lst hi g z
    cases e
    obtain ⟨v, sd, e, _⟩ := w.nth hn
    exact ⟨vs, v, q, e⟩
  · obtain ⟨a', vs, s, e, q, w, _⟩ := h.lst hi g z
    cases e
    exact ⟨vs, q, by rw [idxs_len, w.length]; exact Nat.le_refl _⟩
  · rw [idxs_len] at hn
    obtain ⟨a', vs, s, e, q, w, hs⟩ := h.lst hi g z
    cases e
    obtain ⟨v, sd, e, r, m⟩ := w.nth hn
    obtain ⟨T, x', rfl, y1, rfl, y2⟩ := y
    have := y2 vs q
    rw [e] at this; cases this
    refine ⟨_, [] ++ sd, idxs_get 0 xs i hn, Grow.upd y1, R.pair ?_ r y1, fun b hb => hs b (m b (by simpa using hb))⟩
    rw [Nat.zero_add]
    exact .int _
theorem zipD_get : ∀ (xs ys : List D) (i : Nat), (zipD xs ys)[i]? = (match xs[i]?, ys[i]? with | some x, some y => some (.nd .tup [x, y]) | _, _ => none)
  | [], _, i => by simp [zipD]
  | x :: xs, [], i => by
    simp only [zipD]
    cases (x :: xs)[i]? <;> simp
  | x :: xs, y :: ys, 0 => by simp [zipD]
  | x :: xs, y :: ys, i + 1 => by
    show (zipD xs ys)[i]? = _
    rw [zipD_get xs ys i]
    simp
theorem zipD_len : ∀ (xs ys : List D), (zipD xs ys).length = min xs.length ys.length
  | [], _ => by simp [zipD]
  | x :: xs, [] => by simp [zipD]
  | x :: xs, y :: ys => by
    show (zipD xs ys).length + 1 = _
    rw [zipD_len xs ys]
    simp only [List.length_cons]
    omega
theorem wk_zip {o o2 : Bool} {xs ys : List D} {a b : Addr} {src : List Nat} {f0 s0 : List Addr} (h : Hold K cl (.nd (.lst o) xs) (.ref a) src env1 σ H1 f0 s0) (h2 : Hold K cl (.nd (.lst o2) ys) (.ref b) src env1 σ H1 f0 s0) (hi : imms xs = true) (hi2 : imms ys = true) : Wk K cl (Itz K a b) (zipD xs ys) src env1 σ H1 f0 s0 := by
  refine ⟨fun i H env σ' fe se hn g z => ?_, fun H env σ' fe se g z => ?_, fun i H env σ' fe se x H' hn g z y => ?_⟩
  · rw [zipD_len] at hn
    obtain ⟨a', vs, s, e, q, w, _⟩ := h.lst hi g z
    cases e
    obtain ⟨b', ws, t, e, q2, w2, _⟩ := h2.lst hi2 g z
    cases e
    obtain ⟨v, sd, e, _⟩ := w.nth (show i < xs.length by omega)
    obtain ⟨v2, sd2, e2, _⟩ := w2.nth (show i < ys.length by omega)
    exact ⟨vs, ws, v, v2, q, q2, e, e2⟩
  · obtain ⟨a', vs, s, e, q, w, _⟩ := h.lst hi g z
    cases e
    obtain ⟨b', ws, t, e, q2, w2, _⟩ := h2.lst hi2 g z
    cases e
    refine ⟨vs, ws, q, q2, ?_⟩
    rw [zipD_len, ← w.length, ← w2.length]
    omega
  · rw [zipD_len] at hn
    obtain ⟨a', vs, s, e, q, w, hs⟩ := h.lst hi g z
    cases e
    obtain ⟨b', ws, t, e, q2, w2, ht⟩ := h2.lst hi2 g z
    cases e
    have l1 : i < xs.length := by omega
    have l2 : i < ys.length := by omega
    obtain ⟨v, sd, e, r, m⟩ := w.nth l1
    obtain ⟨v2, sd2, e2, r2, m2⟩ := w2.nth l2
    obtain ⟨T, x', y', rfl, y1, rfl, y2, y3⟩ := y
    have q3 := y2 vs q
    rw [e] at q3; cases q3
    have q3 := y3 ws q2
    rw [e2] at q3; cases q3
    refine ⟨.nd .tup [xs[i], ys[i]], sd ++ sd2, ?_, Grow.upd y1, R.pair r r2 y1, fun c hc => (List.mem_append.mp hc).elim (fun z => hs c (m c z)) fun z => ht c (m2 c z)⟩
    rw [zipD_get]
    simp [l1, l2]
theorem wk_zipT {xs ys : List D} {a b : Addr} {src : List Nat} {f0 s0 : List Addr} (h : Hold K cl (.nd .tup xs) (.ref a) src env1 σ H1 f0 s0) (h2 : Hold K cl (.nd .tup ys) (.ref b) src env1 σ H1 f0 s0) (hi : imms xs = true) (hi2 : imms ys = true) : Wk K cl (RZ.ItzT K a b) (zipD xs ys) src env1 σ H1 f0 s0 := by
  refine ⟨fun i H env σ' fe se hn g z => ?_, fun H env σ' fe se g z => ?_, fun i H env σ' fe se x H' hn g z y => ?_⟩
  · rw [zipD_len] at hn
    obtain ⟨a', vs, s, e, q, w, _⟩ := h.tup hi g z
    cases e
    obtain ⟨b', ws, t, e, q2, w2, _⟩ := h2.tup hi2 g z
    cases e
    obtain ⟨v, sd, e, _⟩ := w.nth (show i < xs.length by omega)
    obtain ⟨v2, sd2, e2, _⟩ := w2.nth (show i < ys.length by omega)
    exact ⟨vs, ws, v, v2, q, q2, e, e2⟩
  · obtain ⟨a', vs, s, e, q, w, _⟩ := h.tup hi g z
    cases e
    obtain ⟨b', ws, t, e, q2, w2, _⟩ := h2.tup hi2 g z
    cases e
    refine ⟨vs, ws, q, q2, ?_⟩
    rw [zipD_len, ← w.length, ← w2.length]
    omega
  · rw [zipD_len] at hn
    obtain ⟨a', vs, s, e, q, w, hs⟩ := h.tup hi g z
    cases e
    obtain ⟨b', ws, t, e, q2, w2, ht⟩ := h2.tup hi2 g z
    cases e
    have l1 : i < xs.length := by omega
    have l2 : i < ys.length := by omega
    obtain ⟨v, sd, e, r, m⟩ := w.nth l1
    obtain ⟨v2, sd2, e2, r2, m2⟩ := w2.nth l2
    obtain ⟨T, x', y', rfl, y1, rfl, y2, y3⟩ := y
    have q3 := y2 vs q
    rw [e] at q3; cases q3
    have q3 := y3 ws q2
    rw [e2] at q3; cases q3
    refine ⟨.nd .tup [xs[i], ys[i]], sd ++ sd2, ?_, Grow.upd y1, R.pair r r2 y1, fun c hc => (List.mem_append.mp hc).elim (fun z => hs c (m c z)) fun z => ht c (m2 c z)⟩
    rw [zipD_get]
    simp [l1, l2]
/-- a list or a tuple -/
def kdB : Kd → Option Bool
  | .tup => some true
  | .lst _ => some false
  | _ => none
theorem Hold.sqB {k : Kd} {t : Bool} {xs : List D} {v : V} {src : List Nat} {f0 s0 : List Addr} (h : Hold K cl (.nd k xs) v src env1 σ H1 f0 s0) (hk : kdB k = some t) (hi : imms xs = true) {H : Hp} {env : List D} {σ' : St} {fe se : Nat → List Addr} (g : GE K cl H env σ' fe se) (z : Zt src env1 σ H1 f0 s0 H env σ') :
    ∃ a vs s, v = .ref a ∧ ViZ.SqB t K H a vs ∧ Rs K cl H xs vs [] s ∧ ∀ b, b ∈ s → b ∈ s0 ∨ ∃ j, b ∈ se j := by
  cases k <;> cases hk
  · exact h.tup hi g z
  · exact h.lst hi g z
theorem R.sqB {k : Kd} {t : Bool} {xs : List D} {H : Hp} {v : V} {f s : List Addr} (h : R K cl H (.nd k xs) v f s) (hk : kdB k = some t) (hi : imms xs = true) : ∃ a vs, v = .ref a ∧ ViZ.SqB t K H a vs := by
  cases k <;> cases hk
  · obtain ⟨a, vs, e, q, _⟩ := h.tupl
    exact ⟨a, vs, e, q⟩
  · obtain ⟨a, vs, _, e, q, _⟩ := h.lst hi
    exact ⟨a, vs, e, q⟩
theorem wk_zipM {k l : Kd} {t1 t2 : Bool} {xs ys : List D} {a b : Addr} {src : List Nat} {f0 s0 : List Addr} (h : Hold K cl (.nd k xs) (.ref a) src env1 σ H1 f0 s0) (h2 : Hold K cl (.nd l ys) (.ref b) src env1 σ H1 f0 s0) (hk : kdB k = some t1) (hl : kdB l = some t2) (hi : imms xs = true) (hi2 : imms ys = true) : Wk K cl (ViZ.ItZ t1 t2 K a b) (zipD xs ys) src env1 σ H1 f0 s0 := by
  refine ⟨fun i H env σ' fe se hn g z => ?_, fun H env σ' fe se g z => ?_, fun i H env σ' fe se x H' hn g z y => ?_⟩
  · rw [zipD_len] at hn
    obtain ⟨a', vs, s, e, q, w, _⟩ := h.sqB hk hi g z
    cases e
    obtain ⟨b', ws, t, e, q2, w2, _⟩ := h2.sqB hl hi2 g z
    cases e
    obtain ⟨v, sd, e, _⟩ := w.nth (show i < xs.length by omega)
    obtain ⟨v2, sd2, e2, _⟩ := w2.nth (show i < ys.length by omega)
    exact ⟨vs, ws, v, v2, q, q2, e, e2⟩
  · obtain ⟨a', vs, s, e, q, w, _⟩ := h.sqB hk hi g z
    cases e
    obtain ⟨b', ws, t, e, q2, w2, _⟩ := h2.sqB hl hi2 g z
    cases e
    refine ⟨vs, ws, q, q2, ?_⟩
    rw [zipD_len, ← w.length, ← w2.length]
    omega
  · rw [zipD_len] at hn
    obtain ⟨a', vs, s, e, q, w, hs⟩ := h.sqB hk hi g z
    cases e
    obtain ⟨b', ws, t, e, q2, w2, ht⟩ := h2.sqB hl hi2 g z
    cases e
    have l1 : i < xs.length := by omega
    have l2 : i < ys.length := by omega
    obtain ⟨v, sd, e, r, m⟩ := w.nth l1
    obtain ⟨v2, sd2, e2, r2, m2⟩ := w2.nth l2
    obtain ⟨T, x', y', rfl, y1, rfl, y2, y3⟩ := y
    have q3 := y2 vs q
    rw [e] at q3; cases q3
    have q3 := y3 ws q2
    rw [e2] at q3; cases q3
    refine ⟨.nd .tup [xs[i], ys[i]], sd ++ sd2, ?_, Grow.upd y1, R.pair r r2 y1, fun c hc => (List.mem_append.mp hc).elim (fun z => hs c (m c z)) fun z => ht c (m2 c z)⟩
    rw [zipD_get]
    simp [l1, l2]
theorem rangeD_len : ∀ (lo : Int) (n : Nat), (rangeD lo n).length = n
  | _, 0 => rfl
  | lo, n + 1 => by show (rangeD (lo + 1) n).length + 1 = n + 1; rw [rangeD_len]
theorem rangeD_get : ∀ (lo : Int) (n i : Nat), i < n → (rangeD lo n)[i]? = some (.int (lo + i))
  | _, 0, i, h => by omega
  | lo, n + 1, 0, _ => by simp [rangeD]
  | lo, n + 1, i + 1, h => by
    show (rangeD (lo + 1) n)[i]? = _
    rw [rangeD_get (lo + 1) n i (by omega)]
    have : lo + 1 + (i : Int) = lo + ((i + 1 : Nat) : Int) := by omega
    rw [this]
theorem wk_range {lo : Int} {n : Nat} {src : List Nat} : Wk K cl (Itr lo n) (rangeD lo n) src env1 σ H1 [] [] := by
  refine ⟨fun i H env σ' fe se hn g z => ?_, fun H env σ' fe se g z => ?_, fun i H env σ' fe se x H' hn g z y => ?_⟩
  · rw [rangeD_len] at hn; exact hn
  · rw [rangeD_len]; exact Nat.le_refl _
  · rw [rangeD_len] at hn
    obtain ⟨rfl, rfl⟩ := y
    exact ⟨_, [], rangeD_get lo n i hn, Grow.refl, .int _, fun _ z => nomatch z⟩
theorem wk_rev {o : Bool} {xs : List D} {v : V} {a : Addr} {src : List Nat} {f0 s0 : List Addr} (h : Hold K cl (.nd (.lst o) xs) v src env1 σ H1 f0 s0) (hi : imms xs = true) (hv : v = .ref a) {n : Nat} (hn0 : n = xs.length) : Wk K cl (Itv K a n) xs.reverse src env1 σ H1 f0 s0 := by
  subst hv hn0
  refine ⟨fun i H env σ' fe se hn g z => ?_, fun H env σ' fe se g z => ?_, fun i H env σ' fe se x H' hn g z y => ?_⟩
  · rw [List.length_reverse] at hn
    obtain ⟨a', vs, s, e, q, w, _⟩ := h.lst hi g z
    cases e
    obtain ⟨v, sd, e, _⟩ := w.nth (show xs.length - 1 - i < xs.length by omega)
    exact ⟨hn, vs, v, q, e⟩
  · rw [List.length_reverse]
    exact Nat.le_refl _
  · rw [List.length_reverse] at hn
    obtain ⟨a', vs, s, e, q, w, hs⟩ := h.lst hi g z
    cases e
    have l1 : xs.length - 1 - i < xs.length := by omega
    obtain ⟨v, sd, e, r, m⟩ := w.nth l1
    obtain ⟨rfl, y2⟩ := y
    have := y2 vs q
    rw [e] at this; cases this
    exact ⟨_, sd, by rw [List.getElem?_reverse hn]; simp [l1], Grow.refl, r, fun b hb => hs b (m b hb)⟩
end
end Vi

set_option Elab.async false
set_option linter.all false
set_option maxRecDepth 100000
set_option maxHeartbeats 4000000
namespace PySem
open Sem (wp)
open AutoSeq1 (wpAny_loadPart')
theorem meets_enumerate_newT (l : Addr) (items : Array Value) (n : Nat) (dct : Option Addr) (sl : Array (Option Value)) :
    Meets (Builtin.«enumerate.__new__» ⟨[.type "enumerate", .ref l], []⟩) (fun _ R s => s.heap.get? l = some { cls := .type "tuple", dict := dct, data := .seq items n, slots := sl } ∧
      R (.ok (.ret (.ref (s.heap.push { cls := .type "tuple_iterator", data := .fields #[.ref l, .int 0 0] }).objs.size)))
        { s with heap := (s.heap.push { cls := .type "tuple_iterator", data := .fields #[.ref l, .int 0 0] }).push { cls := .type "enumerate", data := .fields #[.none, .bool false, .ref s.heap.objs.size, rawInt 0, .none, .none] } }) :=
  .of_wp fun prog w A R s h => by
    obtain ⟨hp, g, d, tk, os⟩ := s; obtain ⟨hl, h⟩ := h
    have hsub := sub_enumerate
    have hL : Heap.IsTuple (Shared.heap ⟨hp, g, d, tk, os⟩) l items := ⟨_, hl, rfl, n, rfl⟩
    wp_walk using wpAny_loadPart' hl
    refine wpAny_stack_any fun st => wpAny_pure ?_
    split
    · rename_i c _ _ _ _ _
      cases (c == Value.type "enumerate")
      · wp_walk using wpAny_loadPart' hl, wpAny_pyIter_tuple hL
        exact ⟨_, rfl, h⟩
      · wp_walk using wpAny_loadPart' hl, wpAny_pyIter_tuple hL
        exact ⟨_, rfl, h⟩
    · wp_walk using wpAny_loadPart' hl, wpAny_pyIter_tuple hL
      exact ⟨_, rfl, h⟩
section
variable {prog : Program} {w : World} {A : Around} {E : Value → Shared → Prop} {s : Shared}
theorem call_enumerate_tuple {l : Addr} {items : Array Value} {Q : Value → Shared → Prop} (hL : s.heap.IsTuple l items)
    (h : ∀ h', IsEnum h' (s.heap.objs.size + 1) s.heap.objs.size 0 .none → h'.IsTupleIter s.heap.objs.size l 0 → h'.objs.size = s.heap.objs.size + 2 →
      (∀ b o, s.heap.get? b = some o → h'.get? b = some o) → Q (.ref (s.heap.objs.size + 1)) { s with heap := h' }) :
    wpAny (model prog w) A (call (.type "enumerate") [.ref l]) Q E s := by
  obtain ⟨⟨c, dct, dt, sl⟩, hl, hc, n, hd⟩ := hL
  replace hc : c = .type "tuple" := hc
  replace hd : dt = .seq items n := hd
  subst hc hd
  refine callType_new F.called_enumerate (by decide) (F.typeCall_enumerate_1 _) (F.newCall_enumerate_1 _) (fun obj => F.args_object_init_2 obj _) F.entry_enumerate_new
    (meets_enumerate_newT l items n dct sl) ⟨hl, ?_⟩
  have hz : (s.heap.push { cls := .type "tuple_iterator", data := .fields #[.ref l, .int 0 0] }).objs.size = s.heap.objs.size + 1 := Heap.size_push ..
  show _ ∧ _
  rw [hz]
  have he : IsEnum ((s.heap.push { cls := .type "tuple_iterator", data := .fields #[.ref l, .int 0 0] }).push
      { cls := .type "enumerate", data := .fields #[.none, .bool false, .ref s.heap.objs.size, rawInt 0, .none, .none] }) (s.heap.objs.size + 1) s.heap.objs.size 0 .none := by
    have := Heap.get?_push_size (s.heap.push { cls := .type "tuple_iterator", data := .fields #[.ref l, .int 0 0] })
      (o := { cls := .type "enumerate", data := .fields #[.none, .bool false, .ref s.heap.objs.size, rawInt 0, .none, .none] }) rfl
    rw [hz] at this; exact this
  refine ⟨⟨_, he, rfl⟩, h _ he ⟨_, Heap.get?_push_of_some _ (Heap.get?_push_size _ rfl), rfl, rfl⟩ (by rw [Heap.size_push, hz]) fun b o x => Heap.get?_push_of_some _ (Heap.get?_push_of_some _ x)⟩
end
theorem Draws.tuple {prog : Program} {w : World} {A : Around} (hh : A.handled = none) (it l : Addr) (hne : l ≠ it) (items : Array Value) :
    Draws prog w A it [it, l] items.size (fun i v => items[i]? = some v) (fun i h => h.IsTupleIter it l i ∧ h.IsTuple l items) where
  live := fun _ _ st => let ⟨o, ho, _⟩ := st.1; ⟨o, ho⟩
  frame := fun _ _ _ st hk => ⟨let ⟨o, ho, r⟩ := st.1; ⟨o, hk it (by simp) o ho, r⟩, let ⟨o, ho, r⟩ := st.2; ⟨o, hk l (by simp) o ho, r⟩⟩
  item := fun i s Q E hi st hQ => by
    refine RZ.nextOf_tuple_item st.1 st.2 (x := items[i]) (by simp [hi]) fun h' hit' hs' => ?_
    exact hQ _ h' s.toks (by simp [hi]) ⟨hit', let ⟨o, ho, r⟩ := st.2; ⟨o, (hs'.2 l hne).trans ho, r⟩⟩ hs'
  done := fun s Q E st hE => RZ.nextOf_tuple_end hh st.1 st.2 (by simp) hE
end PySem
namespace L2
open PySem PySem.Spec PyProof.Rows
/-- enumerate(tuple) -/
def IteT (K : PySem.W.Frag) (a : Addr) : It :=
  ⟨fun i H => ∃ (xs : List V) (x : V), SqT K H a xs ∧ xs[i]? = some x, fun i H v H' => ∃ T x, v = .ref T ∧ H T = none ∧ H' = upd H T (.tup [.int (i : Nat), x]) ∧ ∀ xs, SqT K H a xs → xs[i]? = some x, fun i H => ∃ xs : List V, SqT K H a xs ∧ xs.length ≤ i⟩
theorem turn_enumT {P : Program} {w : World} {K : PySem.W.Frag} {elts : List Expr} {kk : Nat} {tpos : Pos} (a e it : Addr) :
    Turn P w K (.Tuple elts kk tpos) (IteT K a) [e, it] e (fun i h => (∃ old, IsEnum h e it ((i : Nat) : Int) old) ∧ h.IsTupleIter it a i ∧ e ≠ it) where
  mem := by simp
  obj := fun i h st b hb => by
    obtain ⟨⟨old, he⟩, ⟨o, ho, hc, hd⟩, _⟩ := st
    have e' : b = e ∨ b = it := by simpa using hb
    rcases e' with z | z
    · rw [z]; exact ⟨_, he, fun v q => nomatch q⟩
    · rw [z]; exact ⟨o, ho, fun v q => by rw [hd] at q; cases q⟩
  keep := fun i h h' st k => let ⟨⟨old, he⟩, ⟨o, ho, r⟩, hne⟩ := st; ⟨⟨old, k e (by simp) _ he⟩, ⟨o, k it (by simp) o ho, r⟩, hne⟩
  item := by
    intro X hP hw hK hc i pins s σ H E I hf st hg
    subst hP hw hK
    obtain ⟨⟨old, he⟩, hit, hne⟩ := st
    obtain ⟨xs, x, hq, hx⟩ := hg
    obtain ⟨its, rv, p, hz⟩ := I.tuple hq
    obtain ⟨u, hu, ru⟩ := rv.get hx
    have hel : e < s.heap.objs.size := Heap.lt_size he
    have hil : it < s.heap.objs.size := by obtain ⟨_, q, _⟩ := hit; exact Heap.lt_size q
    have hai : a ≠ it := fun z => by
      obtain ⟨o, ho, hc1, _⟩ := hit
      obtain ⟨o2, ho2, hc2, _⟩ := p
      rw [z, ho] at ho2; cases ho2
      rw [hc1] at hc2; exact absurd (Value.type.inj hc2) (by decide)
    have hae : e ∉ [it, a] := fun z => by
      rcases List.mem_cons.mp z with z | z
      · exact hne z
      · have z : e = a := by simpa using z
        obtain ⟨o2, ho2, hc2, _⟩ := p
        rw [← z, he] at ho2; cases ho2; exact absurd (Value.type.inj hc2) (by decide)
    have hlt : i < its.toArray.size := by
      rw [List.size_toArray]
      exact (List.getElem?_eq_some_iff.mp hu).1
    refine wpAny_pyNext_enum_itemD (PySem.Draws.tuple (A := X.A.in1) (I.ok.hd hc) it a hai its.toArray) he ⟨hit, p⟩ hlt hne hae fun x' h' tk px ho hit' hT hsz hk => ?_
    have ex : x' = u := by
      have : its.toArray[i]? = some x' := px
      rw [← Array.getElem?_toList] at this
      have h2 : its[i]? = some x' := by simpa using this
      rw [hu] at h2; exact (Option.some.inj h2).symm
    subst ex
    refine ⟨_, rfl, wpAny_letOwnedTupleGo_enum (s := { s with heap := h', toks := tk + 1 }) ho fun h'' he' sb => ?_⟩
    have hT2 : h''.get? s.heap.objs.size = some { cls := .type "tuple", data := .seq #[.int i tk, x'] } := (sb.2 _ (Nat.ne_of_gt hel)).trans hT
    have new : ObjOk X.prog X.w (upd H s.heap.objs.size (.tup [.int (i : Nat), x])) h'' s.heap.objs.size (.tup [.int (i : Nat), x]) :=
      ⟨by show 2 ≤ sizeLine; decide, [.int i tk, x'], .cons ⟨_, rfl⟩ (.cons ru .nil), ⟨_, hT2, rfl, _, rfl⟩⟩
    have I1 : Inv X pins σ (upd H s.heap.objs.size (.tup [.int (i : Nat), x])) { s with heap := h'', toks := tk + 1 } :=
      I.turnedNew (ch := [e, it]) (fun b ob hb q => (sb.2 b (fun z => hb (by simp [z]))).trans (hk b ob (fun z => hb (by simp [z])) (fun z => hb (by simp [z])) q)) hf (Nat.le_refl _) new
    refine ⟨.ref s.heap.objs.size, _, I1, rfl, ⟨_, x, rfl, I.hok.fresh (Nat.le_refl _), rfl, fun ys hy => by rw [I.tuple_inj hy hq]; exact hx⟩, ⟨⟨x', ?_⟩, ?_, hne⟩, fun b hb => ?_⟩
    · have e1 : ((i + 1 : Nat) : Int) = (i : Int) + 1 := by omega
      rw [e1]; exact he'
    · obtain ⟨o, ho2, r⟩ := hit'.1
      exact ⟨o, (sb.2 it (Ne.symm hne)).trans ho2, r⟩
    · have hb' : b < s.heap.objs.size := by
        have e' : b = e ∨ b = it := by simpa using hb
        rcases e' with z | z
        · rw [z]; exact hel
        · rw [z]; exact hil
      rw [upd_ne (Nat.ne_of_lt hb')]
      exact (hf b hb).1
  done := by
    intro X hP hw hK hc i pins s σ H E I hf st hg
    subst hP hw hK
    obtain ⟨⟨old, he⟩, hit, hne⟩ := st
    obtain ⟨xs, hq, hx⟩ := hg
    obtain ⟨its, rv, p, hz⟩ := I.tuple hq
    obtain ⟨f0, f1, f2, f3, f4, f5⟩ := hf it (by simp)
    have hl := rv.length
    have hT : s.TypeIs (.ref e) "enumerate" := ⟨_, he, rfl⟩
    unfold pyNext
    refine wpAny_bind (wpAny_attempt (wpAny_callSpecial?_slot (name := Str.ofString "__next__") hT F.slot_enumerate_next
      (wpAny_call_entry F.slot_enumerate_next hT F.entry_enumerate_next ?_ (F.args_enumerate_next_1 _))))
    show wpAny _ _ (field (.ref e) 2 >>= _) _ _ _
    refine wpAny_bind (wpAny_field he rfl (x := .ref it) rfl ?_)
    refine wpAny_bind (RZ.nextOf_tuple_end (A := X.A.in1) (I.ok.hd hc) hit p (by simp; omega) fun h' x he' hx' => ?_)
    obtain ⟨o, ho, hc⟩ := hx'
    refine wpAny_bind (wpAny_isInstance (T := "StopIteration") (b := true) ⟨o, ho, hc⟩ isSubtype_stop ?_)
    exact wpAny_pure ⟨rfl, I.turned (t' := s.toks) (fun b o hb q => he' b o hb q) f0 f1 f3 f4 f5⟩
  self := fun A i s Q E st h => let ⟨⟨_, he⟩, _⟩ := st; wpAny_pyIter_enum he h
def iEnumA (K : PySem.W.Frag) (ta : TA) : TI := fun σ H R => ta σ H fun vs H1 => ∃ a, vs = [.ref a] ∧ ((∃ xs, SqL K H1 a xs ∧ R (Ite K a) H1) ∨ (∃ xs, SqT K H1 a xs ∧ R (IteT K a) H1))
theorem pi_enumA {X : Cx} {e : Expr} {ta : TA} {p pos tpos : Pos} {elts : List Expr} {kk : Nat} (hg : Gl X "enumerate") (hm : X.mg "enumerate" = none) (ha : PA X [e] ta) (hs : starEach [e] X.env = [(false, eval e X.env)] := by rfl) :
    PI X (.Tuple elts kk tpos) (.Call (.Name "enumerate" p) [e] [] pos) (iEnumA X.K ta) := by
  refine ⟨fun pins s σ H R I h => ?_⟩
  refine Call_ (ld_blt I hg hm boot_enumerate (PyProof.Rows.callWith_type1 (thn (ha.run pos pins s σ H _ I h) fun us s1 ⟨vs, H1, I1, r1, q1⟩ => ?_) hs rfl))
  obtain ⟨a, ex, hq⟩ := q1
  subst ex
  cases r1 with
  | cons r rr =>
    cases rr
    cases r
    have two : ∀ b, b ∈ [s1.heap.objs.size + 1, s1.heap.objs.size] → s1.heap.objs.size ≤ b := fun b hb => by
      have e' : b = s1.heap.objs.size + 1 ∨ b = s1.heap.objs.size := by simpa using hb
      rcases e' with z | z
      · rw [z]; exact Nat.le_add_right _ _
      · rw [z]; exact Nat.le_refl _
    rcases hq with ⟨xs, hq, q⟩ | ⟨xs, hq, q⟩
    · obtain ⟨its, rv, p', hz⟩ := I1.list hq
      refine call_enumerate_list p'.isList fun h' he hit hsz hk => wpAny_pyIter_enum he ?_
      have I2 : Inv X pins σ H1 { s1 with heap := h' } := I1.kept (t' := s1.toks) hk
      exact ⟨s1.heap.objs.size + 1, [s1.heap.objs.size + 1, s1.heap.objs.size], _, _, H1, rfl, I2, turn_enum a (s1.heap.objs.size + 1) s1.heap.objs.size, ⟨⟨.none, he⟩, hit, Nat.succ_ne_self _⟩, fun b hb => I1.fpOk (two b hb) (I1.hok.fresh (two b hb)), q⟩
    · obtain ⟨its, rv, p', hz⟩ := I1.tuple hq
      refine PySem.call_enumerate_tuple (show s1.heap.IsTuple a its.toArray from p') fun h' he hit hsz hk => wpAny_pyIter_enum he ?_
      have I2 : Inv X pins σ H1 { s1 with heap := h' } := I1.kept (t' := s1.toks) hk
      exact ⟨s1.heap.objs.size + 1, [s1.heap.objs.size + 1, s1.heap.objs.size], _, _, H1, rfl, I2, turn_enumT a (s1.heap.objs.size + 1) s1.heap.objs.size, ⟨⟨.none, he⟩, hit, Nat.succ_ne_self _⟩, fun b hb => I1.fpOk (two b hb) (I1.hok.fresh (two b hb)), q⟩
end L2

set_option Elab.async false
set_option linter.all false
set_option maxRecDepth 100000
set_option maxHeartbeats 2000000
/-! Vi19: iterators. -/
namespace L2
open PySem PySem.Spec PyProof.Rows
section
variable {X : Cx} {tg : Expr}
def iAny (K : PySem.W.Frag) (tl : TE) : TI := fun σ H R => tl σ H fun x H1 => ∃ a, x = .ref a ∧ (((∃ xs, SqL K H1 a xs) ∧ R (Itl K a) H1) ∨ ((∃ xs, SqT K H1 a xs) ∧ R (Itt K a) H1))
theorem pi_any {l : Expr} {tl : TE} (hl : PE X l tl) : PI X tg l (iAny X.K tl) := by
  refine ⟨fun pins s σ H R I h => ?_⟩
  refine thn (hl.run pins s σ H _ I h) fun v s1 ⟨x, H1, I1, r1, q1⟩ => ?_
  obtain ⟨a, e, q1⟩ := q1
  subst e
  cases r1
  rcases q1 with ⟨⟨xs, hq⟩, q⟩ | ⟨⟨xs, hq⟩, q⟩
  · obtain ⟨its, rv, p, hz⟩ := I1.list hq
    refine wpAny_pyIter_list p.isList ?_
    refine ⟨s1.heap.objs.size, [s1.heap.objs.size], _, _, H1, rfl, I1.kept (t' := s1.toks) fun b o e => Heap.get?_push_of_some _ e, turn_list a _, ⟨_, Heap.get?_push_size _ rfl, rfl, rfl⟩, fun b hb => ?_, q⟩
    have e : b = s1.heap.objs.size := by simpa using hb
    subst e
    exact I1.fpOk (Nat.le_refl _) (I1.hok.fresh (Nat.le_refl _))
  · obtain ⟨its, rv, p, hz⟩ := I1.tuple hq
    refine wpAny_pyIter_tuple (show s1.heap.IsTuple a its.toArray from p) ?_
    refine ⟨s1.heap.objs.size, [s1.heap.objs.size], _, _, H1, rfl, I1.kept (t' := s1.toks) fun b o e => Heap.get?_push_of_some _ e, turn_tuple a _, ⟨_, Heap.get?_push_size _ rfl, rfl, rfl⟩, fun b hb => ?_, q⟩
    have e : b = s1.heap.objs.size := by simpa using hb
    subst e
    exact I1.fpOk (Nat.le_refl _) (I1.hok.fresh (Nat.le_refl _))
end
theorem PI.imp {X : Cx} {tg e : Expr} {t t' : TI} (h : PI X tg e t) (i : ∀ σ H Q, t' σ H Q → t σ H Q) : PI X tg e t' := ⟨fun pins s σ H R I q => h.run pins s σ H R I (i σ H R q)⟩
theorem PS.imp {X : Cx} {e : Stmt} {t t' : TS} (h : PS X e t) (i : ∀ D σ H, t' D σ H → t D σ H) : PS X e t' := ⟨fun pins s σ H D I q => h.run pins s σ H D I (i D σ H q)⟩
theorem PSs.imp {X : Cx} {e : List Stmt} {t t' : TS} (h : PSs X e t) (i : ∀ D σ H, t' D σ H → t D σ H) : PSs X e t' := ⟨fun pins s σ H D I q => h.run pins s σ H D I (i D σ H q)⟩
end L2
namespace Vi
open PySem PySem.Spec L2
section
variable {K : PySem.W.Frag} {cl : Nat → Addr} {W : WX} {Δ : Dl} {X : Cx} {H H1 H2 H3 : Hp} {env env0 env1 env2 env3 : List D} {σ : St} {fe se fe1 se1 fe2 se2 : Nat → List Addr} {tg : Expr}
theorem bindI {res : Res D} {k : D → List D → Res (List D)} {w1 p1 p : Bool} {r1 : Nat} {x1 : Option Nat} {src : List Nat} {N : VK} {Q : It → Hp → Prop} (g : GE K cl H env σ fe se) (st : Sp0 H fe se H1 fe1 se1) (h : PostI K cl W p src (res.bind k) env σ H fe se Q)
    (hk : ∀ d env2 v H2 f s fe2 se2, res = .ok d env2 → Fi K cl w1 p1 r1 x1 env1 σ H1 fe1 se1 d env2 v H2 f s fe2 se2 → PostI K cl W p src (k d env2) env σ H fe se Q → N v H2) :
    PostE K cl W w1 p1 r1 x1 res env1 σ H1 fe1 se1 N := by
  cases res with
  | ok d e => exact fun v H' f s fe' se' F => hk d e v H' f s fe' se' rfl F h
  | err _ e => exact fun cls dd H' fe' se' a b c => h cls dd H' fe' se' a b (st.trans c fun i x hx => g.live (.inl hx))
  | bad => exact h
theorem Res.of_postI {p : Bool} {src : List Nat} {o : Option (List D)} {Q : It → Hp → Prop} (h : PostI K cl W p src (Res.of o env2) env σ H fe se Q) : ∃ d, o = some d ∧ PostI K cl W p src (.ok d env2) env σ H fe se Q := by
  cases o with
  | none => exact h.elim
  | some d => exact ⟨d, rfl, h⟩
theorem lsto_nd {d : D} {xs : List D} (h : lstI d = some xs) : ∃ o, d = .nd (.lst o) xs ∧ imms xs = true := by
  unfold lstI at h
  split at h
  · rename_i ys e
    split at h
    · rename_i hi
      cases h
      obtain ⟨o, rfl⟩ := lsto_some e
      exact ⟨o, rfl, hi⟩
    · cases h
  · cases h
theorem seqI_nd {d : D} {xs : List D} (h : seqI d = some xs) : ((∃ o, d = .nd (.lst o) xs) ∨ d = .nd .tup xs) ∧ imms xs = true := by
  unfold seqI at h
  split at h
  · rename_i ys e
    split at h
    · rename_i hi
      cases h
      refine ⟨?_, hi⟩
      unfold seqOf at e
      split at e
      · split at e
        · cases e; exact .inr rfl
        · cases e; exact .inl ⟨_, rfl⟩
        · cases e
      · cases e
    · cases h
  · cases h
theorem srcs_seq {a : E} : srcs (.seq a) = srcV a ∧ srcs (.enum a) = srcV a ∧ srcs (.rev a) = srcV a := by
  cases a <;> exact ⟨rfl, rfl, rfl⟩
theorem srcs_zip {a b : E} : srcs (.zip a b) = srcV a ++ srcV b := by
  cases a <;> cases b <;> rfl
theorem i_seq {a : E} {x : Expr} (hK : X.K = K) (ha : PE X x (tE K cl Δ W a)) : PI X tg x (tI K cl Δ W (.seq a)) :=
  (pi_any ha).imp fun σ H Q ⟨env, fe, se, g, h⟩ => by
    have h : PostI K cl W (ef a) (srcs (.seq a)) ((ev Δ a env).bind fun d e => Res.of (if wkd a d then seqI d else none) e) env σ H fe se Q := h
    rw [srcs_seq.1] at h
    refine ⟨env, fe, se, g, bindI g Sp0.refl h fun d env1 v H1 f s fe1 se1 e1 F1 h1 => ?_⟩
    obtain ⟨ds, ed, h2⟩ := Res.of_postI h1
    split at ed
    · rename_i hw
      obtain ⟨f0, s0, x0, lv, _, og, hd⟩ := hold_of g F1 e1 hw
      obtain ⟨hk, hi⟩ := seqI_nd ed
      have here := hd H1 env1 σ fe1 se1 F1.ge ⟨fun _ _ => ⟨rfl, rfl⟩, fun _ _ e _ => e⟩
      rw [hK]
      rcases hk with ⟨o, rfl⟩ | rfl
      · obtain ⟨b, vs, s', rfl, q, _, _⟩ := F1.rv.lst hi
        exact ⟨b, rfl, .inl ⟨⟨vs, q⟩, h2 _ H1 fe1 se1 f0 s0 F1.ge F1.st x0 lv og F1.pure (wk_list hd hi rfl)⟩⟩
      · obtain ⟨b, vs, rfl, q, _⟩ := F1.rv.tupl
        exact ⟨b, rfl, .inr ⟨⟨vs, q⟩, h2 _ H1 fe1 se1 f0 s0 F1.ge F1.st x0 lv og F1.pure (wk_tup hd hi rfl)⟩⟩
    · cases ed
theorem wk_enumT {xs : List D} {v : V} {a : Addr} {src : List Nat} {f0 s0 : List Addr} (h : Hold K cl (.nd .tup xs) v src env1 σ H1 f0 s0) (hi : imms xs = true) (hv : v = .ref a) : Wk K cl (IteT K a) (idxs 0 xs) src env1 σ H1 f0 s0 := by
  subst hv
  refine ⟨fun i H env σ' fe se hn g z => ?_, fun H env σ' fe se g z => ?_, fun i H env σ' fe se x H' hn g z y => ?_⟩
  · rw [idxs_len] at hn
    obtain ⟨a', vs, s, e, q, w, _⟩ := h.tup hi g z
    cases e
    obtain ⟨v, sd, e, _⟩ := w.nth hn
    exact ⟨vs, v, q, e⟩
  · obtain ⟨a', vs, s, e, q, w, _⟩ := h.tup hi g z
    cases e
    exact ⟨vs, q, by rw [idxs_len, w.length]; exact Nat.le_refl _⟩
  · rw [idxs_len] at hn
    obtain ⟨a', vs, s, e, q, w, hs⟩ := h.tup hi g z
    cases e
    obtain ⟨v, sd, e, r, m⟩ := w.nth hn
    obtain ⟨T, x', rfl, y1, rfl, y2⟩ := y
    have := y2 vs q
    rw [e] at this; cases this
    refine ⟨_, [] ++ sd, idxs_get 0 xs i hn, Grow.upd y1, R.pair ?_ r y1, fun b hb => hs b (m b (by simpa using hb))⟩
    rw [Nat.zero_add]
    exact .int _
theorem i_enum {a : E} {x : Expr} {elts : List Expr} {kk : Nat} {p tpos pos : Pos} (hK : X.K = K) (hn : nost x = true) (hg : Gl X "enumerate") (hm : X.mg "enumerate" = none) (ha : PE X x (tE K cl Δ W a)) : PI X (.Tuple elts kk tpos) (.Call (.Name "enumerate" p) [x] [] pos) (tI K cl Δ W (.enum a)) :=
  (pi_enumA hg hm (pa_cons ha pa_nil (star_of hn)) (star_of hn)).imp fun σ H Q ⟨env, fe, se, g, h⟩ => by
    have h : PostI K cl W (ef a) (srcs (.enum a)) ((ev Δ a env).bind fun d e => Res.of (if wkd a d then (seqI d).map (idxs 0) else none) e) env σ H fe se Q := h
    rw [srcs_seq.2.1] at h
    refine ⟨env, fe, se, g, bindI g Sp0.refl h fun d env1 v H1 f s fe1 se1 e1 F1 h1 => ?_⟩
    obtain ⟨ds, ed, h2⟩ := Res.of_postI h1
    split at ed
    · rename_i hw
      obtain ⟨f0, s0, x0, lv, _, og, hd⟩ := hold_of g F1 e1 hw
      obtain ⟨xs, e2, rfl⟩ := Option.map_eq_some_iff.mp ed
      obtain ⟨hk, hi⟩ := seqI_nd e2
      rw [hK]
      rcases hk with ⟨o, rfl⟩ | rfl
      · obtain ⟨b, vs, s', rfl, q, _, _⟩ := F1.rv.lst hi
        exact ⟨b, rfl, .inl ⟨vs, q, h2 _ H1 fe1 se1 f0 s0 F1.ge F1.st x0 lv og F1.pure (wk_enum hd hi rfl)⟩⟩
      · obtain ⟨b, vs, rfl, q, _⟩ := F1.rv.tupl
        exact ⟨b, rfl, .inr ⟨vs, q, h2 _ H1 fe1 se1 f0 s0 F1.ge F1.st x0 lv og F1.pure (wk_enumT hd hi rfl)⟩⟩
    · cases ed
theorem i_rev {a : E} {x : Expr} {p pos : Pos} (hK : X.K = K) (hn : nost x = true) (hg : Gl X "reversed") (hm : X.mg "reversed" = none) (ha : PE X x (tE K cl Δ W a)) : PI X tg (.Call (.Name "reversed" p) [x] [] pos) (tI K cl Δ W (.rev a)) :=
  (pi_reversed hg hm (pa_cons ha pa_nil (star_of hn)) (star_of hn)).imp fun σ H Q ⟨env, fe, se, g, h⟩ => by
    have h : PostI K cl W (ef a) (srcs (.rev a)) ((ev Δ a env).bind fun d e => Res.of (if wkd a d then (lstI d).map List.reverse else none) e) env σ H fe se Q := h
    rw [srcs_seq.2.2] at h
    refine ⟨env, fe, se, g, bindI g Sp0.refl h fun d env1 v H1 f s fe1 se1 e1 F1 h1 => ?_⟩
    obtain ⟨ds, ed, h2⟩ := Res.of_postI h1
    split at ed
    · rename_i hw
      obtain ⟨f0, s0, x0, lv, _, og, hd⟩ := hold_of g F1 e1 hw
      obtain ⟨xs, e2, rfl⟩ := Option.map_eq_some_iff.mp ed
      obtain ⟨o, rfl, hi⟩ := lsto_nd e2
      rw [hK]
      obtain ⟨b, vs, s', rfl, q, w, _⟩ := F1.rv.lst hi
      exact ⟨b, vs, rfl, q, h2 _ H1 fe1 se1 f0 s0 F1.ge F1.st x0 lv og F1.pure (wk_rev hd hi rfl w.length.symm)⟩
    · cases ed
theorem small_ok {i : Int} (h : small i = true) : -(2 ^ 62) ≤ i ∧ i < 2 ^ 62 := by
  have h := of_decide_eq_true h
  have e : (2 : Int) ^ 62 = 4611686018427387904 := by decide
  rw [e]; exact h
theorem none_ext {fe se : Nat → List Addr} : Ext fe se [] [] := ⟨List.nodup_nil, fun _ z => (nomatch z), fun _ _ z => (nomatch z), fun _ _ z => (nomatch z)⟩
theorem i_range1 {a : E} {x : Expr} {p pos : Pos} (hn : nost x = true) (hg : Gl X "range") (hm : X.mg "range" = none) (ha : PE X x (tE K cl Δ W a)) : PI X tg (.Call (.Name "range" p) [x] [] pos) (tI K cl Δ W (.range1 a)) :=
  (pi_range1 hg hm (pa_cons ha pa_nil (star_of hn)) (star_of hn)).imp fun σ H Q ⟨env, fe, se, g, h⟩ => by
    have h : PostI K cl W (ef a) [] ((ev Δ a env).bind fun d e => Res.of ((toI d).bind fun j => if small j then some (rangeD 0 j.toNat) else none) e) env σ H fe se Q := h
    refine ⟨env, fe, se, g, bindI g Sp0.refl h fun d env1 v H1 f s fe1 se1 e1 F1 h1 => ?_⟩
    obtain ⟨ds, ed, h2⟩ := Res.of_postI h1
    obtain ⟨j, e2, e3⟩ := Option.bind_eq_some_iff.mp ed
    have := toI_some e2
    subst this
    split at e3
    · rename_i hs
      cases e3
      obtain ⟨b1, b2⟩ := small_ok hs
      exact ⟨j, by rw [F1.rv.int_inv], b1, b2, h2 _ H1 fe1 se1 [] [] F1.ge F1.st none_ext (fun _ z => (by rcases z with z | z <;> cases z)) (fun _ z => (nomatch z)) F1.pure wk_range⟩
    · cases e3
theorem i_range2 {a b : E} {x y : Expr} {p pos : Pos} (hn : nost x = true) (hn2 : nost y = true) (hg : Gl X "range") (hm : X.mg "range" = none) (ha : PE X x (tE K cl Δ W a)) (hb : PE X y (tE K cl Δ W b)) : PI X tg (.Call (.Name "range" p) [x, y] [] pos) (tI K cl Δ W (.range2 a b)) := by
  have st2 : starEach [y] X.env = [(false, eval y X.env)] := star_of hn2
  have st1 : starEach [x, y] X.env = (false, eval x X.env) :: starEach [y] X.env := star_of hn
  refine (pi_range2 hg hm (pa_cons ha (pa_cons hb pa_nil st2) st1) (by rw [st1, st2]) st2).imp fun σ H Q ⟨env, fe, se, g, h⟩ => ?_
  have h : PostI K cl W (ef a || ef b) [] ((ev Δ a env).bind fun x e1 => (match x with
    | .int i => (ev Δ b e1).bind fun y e2 => Res.of ((toI y).bind fun j => if small i && small j then some (rangeD i (j - i).toNat) else none) e2
    | _ => .bad)) env σ H fe se Q := h
  refine ⟨env, fe, se, g, bindI g Sp0.refl h fun d env1 v H1 f s fe1 se1 e1 F1 h1 => ?_⟩
  cases d with
  | int i =>
    refine ⟨env1, fe1, se1, F1.ge, bindI g F1.st h1 fun d env2 v2 H2 f2 s2 fe2 se2 e2 F2 h2 => ?_⟩
    obtain ⟨ds, ed, h3⟩ := Res.of_postI h2
    obtain ⟨j, e3, e4⟩ := Option.bind_eq_some_iff.mp ed
    have := toI_some e3
    subst this
    split at e4
    · rename_i hs
      cases e4
      obtain ⟨s1, s2⟩ := Bool.and_eq_true_iff.mp hs
      obtain ⟨b1, b2⟩ := small_ok s1
      obtain ⟨b3, b4⟩ := small_ok s2
      refine ⟨i, j, by rw [F1.rv.int_inv, F2.rv.int_inv], ⟨b1, b2, b3, b4⟩, h3 _ H2 fe2 se2 [] [] F2.ge (F1.st.trans F2.st fun i x hx => g.live (.inl hx)) none_ext (fun _ z => (by rcases z with z | z <;> cases z)) (fun _ z => (nomatch z)) (fun z => ?_) wk_range⟩
      obtain ⟨z1, z2⟩ := Bool.or_eq_false_iff.mp z
      exact (F1.pure z1).trans (F2.pure z2)
    · cases e4
  | _ => exact h1.elim
theorem Ext.both2 {f1 s1 f2 s2 : List Addr} (g : GE K cl H1 env1 σ fe1 se1) (x1 : Ext fe1 se1 f1 s1) (x2 : Ext fe1 se1 f2 s2) (lv : ∀ b, b ∈ f1 ∨ b ∈ s1 → ∃ o, H b = some o) (vo : ∀ a, a ∈ f2 → (∃ j, a ∈ fe1 j) ∨ H a = none) (vs : ∀ a, a ∈ s2 → (∃ j, a ∈ fe1 j ∨ a ∈ se1 j) ∨ H a = none) : Ext fe1 se1 (f1 ++ f2) (s1 ++ s2) := by
  have nn : ∀ a, (a ∈ f1 ∨ a ∈ s1) → H a ≠ none := fun a z q => by
    obtain ⟨o, e⟩ := lv a z
    rw [q] at e; cases e
  refine ⟨List.nodup_append.mpr ⟨x1.nd, x2.nd, fun a h1 b h2 e => ?_⟩, fun a h1 h2 => ?_, fun a i h => ?_, fun a i h => ?_⟩
  · subst e
    rcases vo a h2 with ⟨j, z⟩ | z
    · exact (x1.fx a j h1).1 z
    · exact nn a (.inl h1) z
  · rcases List.mem_append.mp h1 with h1 | h1
    · rcases List.mem_append.mp h2 with h2 | h2
      · exact x1.fs a h1 h2
      · rcases vs a h2 with ⟨j, z | z⟩ | z
        · exact (x1.fx a j h1).1 z
        · exact (x1.fx a j h1).2 z
        · exact nn a (.inl h1) z
    · rcases List.mem_append.mp h2 with h2 | h2
      · rcases vo a h1 with ⟨j, z⟩ | z
        · exact x1.sx a j h2 z
        · exact nn a (.inr h2) z
      · exact x2.fs a h1 h2
  · exact (List.mem_append.mp h).elim (x1.fx a i) (x2.fx a i)
  · exact (List.mem_append.mp h).elim (x1.sx a i) (x2.sx a i)
theorem i_zip {a b : E} {x y : Expr} {elts : List Expr} {kk : Nat} {p tpos pos : Pos} (hK : X.K = K) (hn : nost x = true) (hn2 : nost y = true) (hg : Gl X "zip") (hm : X.mg "zip" = none) (ha : PE X x (tE K cl Δ W a)) (hb : PE X y (tE K cl Δ W b)) : PI X (.Tuple elts kk tpos) (.Call (.Name "zip" p) [x, y] [] pos) (tI K cl Δ W (.zip a b)) := by
  have st2 : starEach [y] X.env = (false, eval y X.env) :: starEach [] X.env := star_of hn2
  have st1 : starEach [x, y] X.env = (false, eval x X.env) :: starEach [y] X.env := star_of hn
  have pl : (backTo pos (starEach [y] X.env)).any (·.1) = false := any_star (by show (nost y && true) = true; rw [hn2]; rfl)
  refine (ViZ.pi_Z hg hm (pa_cons ha (pa_cons hb pa_nil st2) st1) st1 pl).imp fun σ H Q ⟨env, fe, se, g, h⟩ => ?_
  have h : PostI K cl W (ef a || ef b) (srcs (.zip a b)) (if ef b then .bad else (ev Δ a env).bind fun x e1 => (ev Δ b e1).bind fun y e2 => Res.of (if wkd a x && wkd b y then zipS x y else none) e2) env σ H fe se Q := h
  rw [srcs_zip] at h
  cases hef : ef b with
  | true => rw [hef] at h; exact h.elim
  | false =>
    rw [hef] at h
    have h : PostI K cl W (ef a || false) (srcV a ++ srcV b) ((ev Δ a env).bind fun x e1 => (ev Δ b e1).bind fun y e2 => Res.of (if wkd a x && wkd b y then zipS x y else none) e2) env σ H fe se Q := h
    refine ⟨env, fe, se, g, bindI g Sp0.refl h fun d env1 v H1 f s fe1 se1 e1 F1 h1 => ?_⟩
    refine ⟨env1, fe1, se1, F1.ge, bindI g F1.st h1 fun d2 env2 v2 H2 f2 s2 fe2 se2 e2 F2 h2 => ?_⟩
    obtain ⟨ds, ed, h3⟩ := Res.of_postI h2
    split at ed
    · rename_i hw
      obtain ⟨w1, w2⟩ := Bool.and_eq_true_iff.mp hw
      obtain ⟨f0, s0, x0, lv, og0, og, hd⟩ := hold_of g F1 e1 w1
      obtain ⟨g0, t0, y0, lv2, ogg, og2, hd2⟩ := hold_of F1.ge F2 e2 w2
      obtain ⟨p1, p2, p3, gr⟩ := F2.pure hef
      subst p1 p2 p3
      have xx : Ext fe2 se2 (f0 ++ g0) (s0 ++ t0) := Ext.both2 F2.ge x0 y0 lv ogg og2
      have k1 := hd.mono (src' := srcV a ++ srcV b) (f1 := f0 ++ g0) (s1 := s0 ++ t0) (fun i h => List.mem_append_left _ h) (fun i h => List.mem_append_left _ h) (fun i h => List.mem_append_left _ h) gr lv
      have k2 := hd2.mono (src' := srcV a ++ srcV b) (f1 := f0 ++ g0) (s1 := s0 ++ t0) (fun i h => List.mem_append_right _ h) (fun i h => List.mem_append_right _ h) (fun i h => List.mem_append_right _ h) Grow.refl lv2
      have st : Sp0 H fe se H2 fe2 se2 := F1.st.grow gr
      have lv3 : ∀ b, b ∈ f0 ++ g0 ∨ b ∈ s0 ++ t0 → ∃ o, H2 b = some o := fun b hb => by
        rcases hb with hb | hb
        · rcases List.mem_append.mp hb with z | z
          · obtain ⟨o, e⟩ := lv b (.inl z); exact ⟨o, gr _ _ e⟩
          · exact lv2 b (.inl z)
        · rcases List.mem_append.mp hb with z | z
          · obtain ⟨o, e⟩ := lv b (.inr z); exact ⟨o, gr _ _ e⟩
          · exact lv2 b (.inr z)
      have og3 : ∀ b, b ∈ s0 ++ t0 → (∃ j, b ∈ fe j ∨ b ∈ se j) ∨ H b = none := fun b hb => by
        rcases List.mem_append.mp hb with z | z
        · exact og b z
        · rcases og2 b z with ⟨j, y | y⟩ | y
          · exact (F1.st.eo j b y).imp (fun ⟨k, q⟩ => ⟨k, .inl q⟩) id
          · exact F1.st.es j b y
          · exact (F1.st.fresh y).imp (fun ⟨k, q⟩ => ⟨k, .inl q⟩) id
      have pu : (ef a || false) = false → Pur env H fe se env2 H2 fe2 se2 := fun z => by
        obtain ⟨q1, q2, q3, q4⟩ := F1.pure (by simpa using z)
        exact ⟨q1, q2, q3, q4.trans gr⟩
      rw [hK]
      unfold zipS at ed
      split at ed
      · rename_i k xs l ys
        split at ed
        · rename_i hi
          obtain ⟨i1, i2⟩ := Bool.and_eq_true_iff.mp hi
          have go : ∀ t1 t2, kdB k = some t1 → kdB l = some t2 → ds = zipD xs ys → ∃ t1 t2 a b ws zs, [v, v2] = [.ref a, .ref b] ∧ ViZ.SqB t1 K H2 a ws ∧ ViZ.SqB t2 K H2 b zs ∧ Q (ViZ.ItZ t1 t2 K a b) H2 := fun t1 t2 hk hl e => by
            subst e
            obtain ⟨b1, vs, rfl, q1⟩ := (F1.rv.grow gr).sqB hk i1
            obtain ⟨b2, ws, rfl, q2⟩ := F2.rv.sqB hl i2
            exact ⟨t1, t2, b1, b2, vs, ws, rfl, q1, q2, h3 _ H2 fe2 se2 _ _ F2.ge st xx lv3 og3 pu (wk_zipM k1 k2 hk hl i1 i2)⟩
          split at ed
          · exact go _ _ rfl rfl (by cases ed; rfl)
          · exact go _ _ rfl rfl (by cases ed; rfl)
          · exact go _ _ rfl rfl (by cases ed; rfl)
          · exact go _ _ rfl rfl (by cases ed; rfl)
          · cases ed
        · cases ed
      · cases ed
    · cases ed
end
end Vi

set_option Elab.async false
set_option linter.all false
set_option maxRecDepth 100000
set_option maxHeartbeats 2000000
/-! Vi20: comprehensions: the state within. -/
namespace Vi
open PySem PySem.Spec L2
theorem wipeE_len : ∀ (ow : List Nat) (env : List D), (wipeE env ow).length = env.length
  | [], _ => rfl
  | i :: l, env => by show ((wipeE env l).set i .hole).length = _; rw [List.length_set, wipeE_len l env]
theorem wipeE_out : ∀ {ow : List Nat} {env : List D} {i : Nat}, i ∉ ow → (wipeE env ow)[i]? = env[i]?
  | [], _, _, _ => rfl
  | j :: l, env, i, h => by
    show ((wipeE env l).set j .hole)[i]? = _
    rw [List.getElem?_set_ne fun z => h (by rw [z]; exact List.mem_cons_self)]
    exact wipeE_out fun z => h (List.mem_cons_of_mem _ z)
theorem wipeE_in : ∀ {ow : List Nat} {env : List D} {i : Nat}, i ∈ ow → i < env.length → (wipeE env ow)[i]? = some .hole
  | j :: l, env, i, h, hl => by
    show ((wipeE env l).set j .hole)[i]? = _
    by_cases hj : j = i
    · rw [hj, List.getElem?_set_self (by rw [wipeE_len]; exact hl)]
    · rw [List.getElem?_set_ne hj]
      exact wipeE_in ((List.mem_cons.mp h).resolve_left (Ne.symm hj)) hl
theorem holesE_at {env : List D} {ow : List Nat} (h : holesE env ow = true) {i : Nat} (hi : i ∈ ow) : env[i]? = some .hole := by
  have := List.all_eq_true.mp h i hi
  split at this
  · assumption
  · cases this
theorem holesE_of {env : List D} {ow : List Nat} (h : ∀ i, i ∈ ow → env[i]? = some .hole) : holesE env ow = true := by
  refine List.all_eq_true.mpr fun i hi => ?_
  rw [h i hi]
section
variable {K : PySem.W.Frag} {cl : Nat → Addr} {W : WX} {Δ : Dl} {X : Cx} {H H1 H2 H3 : Hp} {env env0 env1 env2 env3 : List D} {σ σ2 : St} {fe se fe1 se1 fe2 se2 : Nat → List Addr}
theorem GE.wiped {ow : List Nat} (g : GE K cl H env σ fe se) (h : holesE env ow = true) : GE K cl H env (wipe σ ow) fe se := by
  refine ⟨by rw [g.len, wipe_length], fun i d e => ?_, g.out, g.nd, g.dj, g.ds⟩
  by_cases hi : i ∈ ow
  · rw [holesE_at h hi] at e
    cases e
    rcases g.slot i .hole (holesE_at h hi) with z | ⟨v, _, r⟩
    · exact .inl z
    · cases r
  · rw [wipe_out hi]; exact g.slot i d e
theorem GE.unwiped {ow : List Nat} (g : GE K cl H env σ2 fe se) (hl : σ2.length = σ.length) (h : ∀ i, i ∉ ow → σ2[i]? = σ[i]?) (ho : ∀ i, i ∈ ow → i < env.length) : GE K cl H (wipeE env ow) σ (fun j => if j ∈ ow then [] else fe j) (fun j => if j ∈ ow then [] else se j) := by
  refine ⟨by rw [wipeE_len, g.len, hl], fun j d e => ?_, fun j hj => ?_, fun j => ?_, fun j k a hjk ha => ?_, fun j k a ha => ?_⟩
  · by_cases hj : j ∈ ow
    · rw [wipeE_in hj (ho j hj)] at e
      cases e
      simp only [if_pos hj]
      exact .inl ⟨trivial, trivial, trivial⟩
    · rw [wipeE_out hj] at e
      simp only [if_neg hj]
      rw [← h j hj]
      exact g.slot j d e
  · rw [wipeE_len] at hj
    by_cases h : j ∈ ow
    · simp only [if_pos h]; exact ⟨trivial, trivial⟩
    · simp only [if_neg h]; exact g.out j hj
  · by_cases h : j ∈ ow
    · simp only [if_pos h]; exact List.nodup_nil
    · simp only [if_neg h]; exact g.nd j
  · by_cases h : j ∈ ow
    · simp only [if_pos h] at ha; cases ha
    · simp only [if_neg h] at ha
      by_cases h2 : k ∈ ow
      · simp only [if_pos h2]; exact fun z => nomatch z
      · simp only [if_neg h2]; exact g.dj j k a hjk ha
  · by_cases h : j ∈ ow
    · simp only [if_pos h] at ha; cases ha
    · simp only [if_neg h] at ha
      by_cases h2 : k ∈ ow
      · simp only [if_pos h2]; exact fun z => nomatch z
      · simp only [if_neg h2]; exact g.ds j k a ha
theorem GE.upd {a : Addr} {vs : List V} {o : HO} (g : GE K cl H env σ fe se) (e : H a = some (.lst vs)) (h1 : ∀ i, a ∉ fe i) (h2 : ∀ i, a ∉ se i) : GE K cl (L2.upd H a o) env σ fe se :=
  ⟨g.len, fun i d ei => (g.slot i d ei).imp id fun ⟨v, s, r⟩ => ⟨v, s, r.upd e (h1 i) (h2 i)⟩, g.out, g.nd, g.dj, g.ds⟩
/-- what stands beside, through a step -/
theorem Ext.step0 {f s : List Addr} (x : Ext fe1 se1 f s) (lv : ∀ a, a ∈ f ∨ a ∈ s → ∃ o, H1 a = some o) (st : Sp0 H1 fe1 se1 H2 fe2 se2) : Ext fe2 se2 f s := by
  refine ⟨x.nd, x.fs, fun a i ha => ⟨fun z => ?_, fun z => ?_⟩, fun a i ha z => ?_⟩
  · obtain ⟨o, e⟩ := lv a (.inl ha)
    rcases st.eo i a z with ⟨j, q⟩ | q
    · exact (x.fx a j ha).1 q
    · rw [e] at q; cases q
  · obtain ⟨o, e⟩ := lv a (.inl ha)
    rcases st.es i a z with ⟨j, q | q⟩ | q
    · exact (x.fx a j ha).1 q
    · exact (x.fx a j ha).2 q
    · rw [e] at q; cases q
  · obtain ⟨o, e⟩ := lv a (.inr ha)
    rcases st.eo i a z with ⟨j, q⟩ | q
    · exact x.sx a j ha q
    · rw [e] at q; cases q
theorem Ext.step1 {f s t : List Addr} (x : Ext fe1 se1 f s) (lv : ∀ a, a ∈ f ∨ a ∈ s → ∃ o, H1 a = some o) (st : Sp1 H1 fe1 se1 [] t H2 fe2 se2) (ht : ∀ a, a ∈ f → a ∉ t) : Ext fe2 se2 f s := by
  refine ⟨x.nd, x.fs, fun a i ha => ⟨fun z => ?_, fun z => ?_⟩, fun a i ha z => ?_⟩
  · obtain ⟨o, e⟩ := lv a (.inl ha)
    rcases st.eo i a z with ⟨j, q⟩ | q | q
    · exact (x.fx a j ha).1 q
    · cases q
    · rw [e] at q; cases q
  · obtain ⟨o, e⟩ := lv a (.inl ha)
    rcases st.es i a z with ⟨j, q | q⟩ | (q | q) | q
    · exact (x.fx a j ha).1 q
    · exact (x.fx a j ha).2 q
    · cases q
    · exact ht a ha q
    · rw [e] at q; cases q
  · obtain ⟨o, e⟩ := lv a (.inr ha)
    rcases st.eo i a z with ⟨j, q⟩ | q | q
    · exact x.sx a j ha q
    · cases q
    · rw [e] at q; cases q
end
section
variable (K : PySem.W.Frag) (cl : Nat → Addr)
/-- the state within a comprehension: the start (env0, H0, fe0, se0), the walk's start H1, what it holds (f0, s0), the list at D -/
structure MI (ow : List Nat) (f0 s0 : List Addr) (env0 : List D) (H0 : Hp) (fe0 se0 : Nat → List Addr) (H1 : Hp) (p : Bool) (σ : St) (D0 : Addr) (acc : List D) (env : List D) (σ2 : St) (H : Hp) (fe se : Nat → List Addr) (vs : List V) (fa sa : List Addr) : Prop where
  ge : GE K cl H env σ2 fe se
  sl : σ2.length = σ.length
  sg : ∀ i, i ∉ ow → σ2[i]? = σ[i]?
  ol : ∀ i, i ∈ ow → i < env.length
  kp : ∀ b o, H1 b = some o → b ∈ f0 ∨ b ∈ s0 ∨ immo o → H b = some o
  lv1 : ∀ b, b ∈ f0 ∨ b ∈ s0 → ∃ o, H1 b = some o
  d1 : H1 D0 = none
  ac : H D0 = some (.lst vs)
  ar : Rs K cl H acc vs fa sa
  ex : Ext fe se (f0 ++ D0 :: fa) (s0 ++ sa)
  st : Sp0 H0 fe0 se0 H fe se
  hl : ∀ i x, x ∈ fe0 i → ∃ o, H0 x = some o
  og : ∀ b, b ∈ s0 → (∃ j, b ∈ fe0 j ∨ b ∈ se0 j) ∨ H0 b = none
  fo : ∀ b, b ∈ fa → (∃ j, b ∈ fe0 j) ∨ H0 b = none
  so : ∀ b, b ∈ sa → (∃ j, b ∈ fe0 j ∨ b ∈ se0 j) ∨ H0 b = none
  dn : (∃ j, D0 ∈ fe0 j) ∨ H0 D0 = none
  pu : p = false → H0 D0 = none ∧ env.length = env0.length ∧ (∀ i, i ∉ ow → env[i]? = env0[i]? ∧ fe i = fe0 i ∧ se i = se0 i) ∧ Grow H0 H
end
section
variable {K : PySem.W.Frag} {cl : Nat → Addr} {W : WX} {Δ : Dl} {X : Cx} {H H0 H1 H2 H3 : Hp} {env env0 env1 env2 env3 : List D} {σ σ2 σ3 : St} {fe se fe0 se0 fe1 se1 fe2 se2 : Nat → List Addr} {ow : List Nat} {f0 s0 fa sa : List Addr} {p : Bool} {D0 : Addr} {acc : List D} {vs : List V}
theorem MI.live (M : MI K cl ow f0 s0 env0 H0 fe0 se0 H1 p σ D0 acc env σ2 H fe se vs fa sa) : ∀ b, b ∈ f0 ++ D0 :: fa ∨ b ∈ s0 ++ sa → ∃ o, H b = some o := fun b hb => by
  have one : ∀ b, b ∈ f0 ∨ b ∈ s0 → ∃ o, H b = some o := fun b z => by
    obtain ⟨o, e⟩ := M.lv1 b z
    exact ⟨o, M.kp b o e (z.imp id .inl)⟩
  rcases hb with hb | hb
  · rcases List.mem_append.mp hb with z | z
    · exact one b (.inl z)
    · rcases List.mem_cons.mp z with rfl | z
      · exact ⟨_, M.ac⟩
      · exact Rs.live _ M.ar b (.inl z)
  · rcases List.mem_append.mp hb with z | z
    · exact one b (.inr z)
    · exact Rs.live _ M.ar b (.inr z)
/-- through a run -/
theorem MI.run {p' : Bool} (M : MI K cl ow f0 s0 env0 H0 fe0 se0 H1 p σ D0 acc env σ2 H fe se vs fa sa) (g : GE K cl H2 env2 σ2 fe2 se2) (st : Sp0 H fe se H2 fe2 se2) (hp : p = false → p' = false) (pu : p' = false → Pur env H fe se env2 H2 fe2 se2) :
    MI K cl ow f0 s0 env0 H0 fe0 se0 H1 p σ D0 acc env2 σ2 H2 fe2 se2 vs fa sa := by
  have nfe : ∀ b, b ∈ f0 ++ D0 :: fa ∨ b ∈ s0 ++ sa → ∀ i, b ∉ fe i := fun b z i => z.elim (fun z => (M.ex.fx b i z).1) fun z => M.ex.sx b i z
  refine ⟨g, M.sl, M.sg, fun i hi => ?_, fun b o e hb => ?_, M.lv1, M.d1, st.keep _ _ M.ac (.inl (nfe D0 (.inl (by simp)))), Rs.keep _ M.ar fun b o e hb => st.keep b o e ?_, M.ex.step0 M.live st, M.st.trans st M.hl, M.hl, M.og, M.fo, M.so, M.dn, fun z => ?_⟩
  · rw [g.len, ← M.ge.len]; exact M.ol i hi
  · refine st.keep b o (M.kp b o e hb) ?_
    rcases hb with hb | hb | hb
    · exact .inl (nfe b (.inl (by simp [hb])))
    · exact .inl (nfe b (.inr (by simp [hb])))
    · exact .inr hb
  · rcases hb with hb | hb | hb
    · exact .inl (nfe b (.inl (by simp [hb])))
    · exact .inl (nfe b (.inr (by simp [hb])))
    · exact .inr hb
  · obtain ⟨a1, a2, a3, a4⟩ := pu (hp z)
    subst a1 a2 a3
    obtain ⟨b0, b1, b2, b3⟩ := M.pu z
    exact ⟨b0, b1, b2, b3.trans a4⟩
/-- the item comes, is stored -/
theorem MI.item {s : List Addr} {tl : List Nat} (M : MI K cl ow f0 s0 env0 H0 fe0 se0 H1 p σ D0 acc env σ H fe se vs fa sa) (gr : Grow H H2) (hs : ∀ b, b ∈ s → b ∈ s0 ∨ ∃ j, b ∈ se j) (g : GE K cl H2 env2 σ2 fe2 se2) (st : Sp1 H2 fe se [] s H2 fe2 se2)
    (hσ : ∀ i, i ∉ tl → σ2[i]? = (wipe σ ow)[i]?) (htl : ∀ i, i ∈ tl → i ∈ ow) (he : env2.length = env.length ∧ ∀ i, i ∉ tl → env2[i]? = env[i]?) (hf : ∀ i, i ∉ tl → fe2 i = fe i ∧ se2 i = se i) :
    MI K cl ow f0 s0 env0 H0 fe0 se0 H1 p σ D0 acc env2 σ2 H2 fe2 se2 vs fa sa := by
  have st0 : Sp0 H0 fe0 se0 H2 fe se := M.st.grow gr
  have lv : ∀ a, a ∈ f0 ++ D0 :: fa ∨ a ∈ s0 ++ sa → ∃ o, H2 a = some o := fun a z => by
    obtain ⟨o, e⟩ := M.live a z
    exact ⟨o, gr _ _ e⟩
  refine ⟨g, by rw [← g.len, he.1, M.ge.len], fun i hi => ?_, fun i hi => ?_, fun b o e hb => gr _ _ (M.kp b o e hb), M.lv1, M.d1, gr _ _ M.ac, M.ar.grow gr, M.ex.step1 lv st fun a h1 h2 => ?_, ⟨st0.keep, fun i a ha => ?_, fun i a ha => ?_⟩, M.hl, M.og, M.fo, M.so, M.dn, fun z => ?_⟩
  · rw [hσ i fun z => hi (htl i z), wipe_out hi]
  · rw [he.1]; exact M.ol i hi
  · rcases hs a h2 with z | ⟨j, z⟩
    · exact M.ex.fs a h1 (List.mem_append_left _ z)
    · exact (M.ex.fx a j h1).2 z
  · rcases st.eo i a ha with ⟨j, z⟩ | z | z
    · exact st0.eo j a z
    · cases z
    · exact st0.fresh z
  · rcases st.es i a ha with ⟨j, z | z⟩ | (z | z) | z
    · exact (st0.eo j a z).imp (fun ⟨k, q⟩ => ⟨k, .inl q⟩) id
    · exact st0.es j a z
    · cases z
    · rcases hs a z with y | ⟨j, y⟩
      · exact M.og a y
      · exact st0.es j a y
    · exact (st0.fresh z).imp (fun ⟨k, q⟩ => ⟨k, .inl q⟩) id
  · obtain ⟨b0, b1, b2, b3⟩ := M.pu z
    refine ⟨b0, he.1.trans b1, fun i hi => ?_, b3.trans gr⟩
    have hn : i ∉ tl := fun q => hi (htl i q)
    obtain ⟨c1, c2, c3⟩ := b2 i hi
    exact ⟨(he.2 i hn).trans c1, (hf i hn).1.trans c2, (hf i hn).2.trans c3⟩
/-- the names are forgotten -/
theorem MI.back (M : MI K cl ow f0 s0 env0 H0 fe0 se0 H1 p σ D0 acc env σ2 H fe se vs fa sa) : MI K cl ow f0 s0 env0 H0 fe0 se0 H1 p σ D0 acc (wipeE env ow) σ H (fun j => if j ∈ ow then [] else fe j) (fun j => if j ∈ ow then [] else se j) vs fa sa := by
  have inf : ∀ i a, a ∈ (if i ∈ ow then [] else fe i) → a ∈ fe i := fun i a z => by
    by_cases h : i ∈ ow
    · rw [if_pos h] at z; cases z
    · rwa [if_neg h] at z
  have ins : ∀ i a, a ∈ (if i ∈ ow then [] else se i) → a ∈ se i := fun i a z => by
    by_cases h : i ∈ ow
    · rw [if_pos h] at z; cases z
    · rwa [if_neg h] at z
  refine ⟨M.ge.unwiped M.sl M.sg M.ol, rfl, fun _ _ => rfl, fun i hi => by rw [wipeE_len]; exact M.ol i hi, M.kp, M.lv1, M.d1, M.ac, M.ar, ⟨M.ex.nd, M.ex.fs, fun a i z => ⟨fun y => (M.ex.fx a i z).1 (inf i a y), fun y => (M.ex.fx a i z).2 (ins i a y)⟩, fun a i z y => M.ex.sx a i z (inf i a y)⟩,
    ⟨M.st.keep, fun i a z => M.st.eo i a (inf i a z), fun i a z => M.st.es i a (ins i a z)⟩, M.hl, M.og, M.fo, M.so, M.dn, fun z => ?_⟩
  obtain ⟨b0, b1, b2, b3⟩ := M.pu z
  refine ⟨b0, by rw [wipeE_len]; exact b1, fun i hi => ?_, b3⟩
  simp only [if_neg hi]
  rw [wipeE_out hi]
  exact b2 i hi
/-- an element is put behind -/
theorem MI.put {p' : Bool} {x : D} {y : V} {fx sx : List Addr} (M : MI K cl ow f0 s0 env0 H0 fe0 se0 H1 p σ D0 acc env σ2 H fe se vs fa sa) (F : Fi K cl false p' 0 none env σ2 H fe se x env2 y H2 fx sx fe2 se2) (hp : p = false → p' = false) :
    H2 D0 = some (.lst vs) ∧ MI K cl ow f0 s0 env0 H0 fe0 se0 H1 p σ D0 (acc ++ [x]) env2 σ2 (L2.upd H2 D0 (.lst (vs ++ [y]))) fe2 se2 (vs ++ [y]) (fa ++ fx) (sa ++ sx) := by
  have N := M.run F.ge F.st hp F.pure
  refine ⟨N.ac, ?_⟩
  have nn : ∀ a, (a ∈ f0 ++ D0 :: fa ∨ a ∈ s0 ++ sa) → H a ≠ none := fun a z q => by
    obtain ⟨o, e⟩ := M.live a z
    rw [q] at e; cases e
  have ex : Ext fe2 se2 ((f0 ++ D0 :: fa) ++ fx) ((s0 ++ sa) ++ sx) := by
    have x2 := F.ext rfl
    refine ⟨List.nodup_append.mpr ⟨N.ex.nd, x2.nd, fun a h1 b h2 e => ?_⟩, fun a h1 h2 => ?_, fun a i h => (List.mem_append.mp h).elim (N.ex.fx a i) (x2.fx a i), fun a i h => (List.mem_append.mp h).elim (N.ex.sx a i) (x2.sx a i)⟩
    · subst e
      rcases F.vo a h2 with ⟨j, z⟩ | z
      · exact (M.ex.fx a j h1).1 z
      · exact nn a (.inl h1) z
    · rcases List.mem_append.mp h1 with h1 | h1
      · rcases List.mem_append.mp h2 with h2 | h2
        · exact N.ex.fs a h1 h2
        · rcases F.vs a h2 with ⟨j, z | z⟩ | z
          · exact (M.ex.fx a j h1).1 z
          · exact (M.ex.fx a j h1).2 z
          · exact nn a (.inl h1) z
      · rcases List.mem_append.mp h2 with h2 | h2
        · rcases F.vo a h1 with ⟨j, z⟩ | z
          · exact M.ex.sx a j h2 z
          · exact nn a (.inr h2) z
        · exact x2.fs a h1 h2
  rw [List.append_assoc, List.append_assoc] at ex
  have hD : D0 ∈ f0 ++ D0 :: fa := by simp
  have dF : ∀ i, D0 ∉ fe2 i := fun i => (N.ex.fx D0 i hD).1
  have dS : ∀ i, D0 ∉ se2 i := fun i => (N.ex.fx D0 i hD).2
  obtain ⟨m1, m2, m3⟩ := List.nodup_append.mp ex.nd
  have m2' : (D0 :: (fa ++ fx)).Nodup := m2
  obtain ⟨m4, m5⟩ := List.nodup_cons.mp m2'
  have hD2 : D0 ∈ f0 ++ (D0 :: fa ++ fx) := by simp
  have dSx : D0 ∉ sa ++ sx := fun z => ex.fs D0 hD2 (List.mem_append_right _ z)
  have w : Rs K cl H2 (acc ++ [x]) (vs ++ [y]) (fa ++ fx) (sa ++ sx) := N.ar.append (.one F.rv)
  refine ⟨F.ge.upd N.ac dF dS, M.sl, M.sg, N.ol, fun b o e hb => ?_, M.lv1, M.d1, upd_same, w.upd N.ac m4 dSx, ex, ⟨fun a o e h => ?_, N.st.eo, N.st.es⟩, M.hl, M.og, fun b hb => ?_, fun b hb => ?_, M.dn, fun z => ?_⟩
  · have hne : b ≠ D0 := fun z => by rw [z, M.d1] at e; cases e
    rw [upd_ne hne]; exact N.kp b o e hb
  · have hne : a ≠ D0 := fun z => by
      subst z
      rcases h with h | h
      · rcases M.dn with ⟨j, z⟩ | z
        · exact h j z
        · rw [z] at e; cases e
      · have z := N.st.keep a o e (.inr h)
        rw [N.ac] at z; cases z; exact h
    rw [upd_ne hne]; exact N.st.keep a o e h
  · rcases List.mem_append.mp hb with z | z
    · exact M.fo b z
    · rcases F.vo b z with ⟨j, y⟩ | y
      · exact M.st.eo j b y
      · exact M.st.fresh y
  · rcases List.mem_append.mp hb with z | z
    · exact M.so b z
    · rcases F.vs b z with ⟨j, y | y⟩ | y
      · exact (M.st.eo j b y).imp (fun ⟨k, q⟩ => ⟨k, .inl q⟩) id
      · exact M.st.es j b y
      · exact (M.st.fresh y).imp (fun ⟨k, q⟩ => ⟨k, .inl q⟩) id
  · obtain ⟨b0, b1, b2, b3⟩ := N.pu z
    refine ⟨b0, b1, b2, fun a o e => ?_⟩
    have hne : a ≠ D0 := fun z => by rw [z, b0] at e; cases e
    rw [upd_ne hne]; exact b3 a o e
end
end Vi

set_option Elab.async false
set_option linter.all false
set_option maxRecDepth 100000
set_option maxHeartbeats 2000000
/-! Vi21: comprehensions. -/
namespace Vi
open PySem PySem.Spec L2
/-- no exception gets out -/
def W0 : WX := fun _ _ _ _ => False
theorem takes0 {X : Cx} : Takes X W0 := fun _ _ h => by
  obtain ⟨_, _, _, _, _, _, _, _, _, _, _, _, _, _, _, _, w⟩ := h
  exact w.elim
def contL (turn : D → List D → Res (Option D)) (chk : List D → Bool) (rest acc : List D) : Option D → List D → Res D := fun o e2 => if chk e2 then (match o with
    | some x => if acc.length < sizeL then loopC turn chk rest (acc ++ [x]) e2 else .bad
    | none => loopC turn chk rest acc e2) else .bad
theorem loopC_cons {turn : D → List D → Res (Option D)} {chk : List D → Bool} {d : D} {rest acc env : List D} : loopC turn chk (d :: rest) acc env = (turn d env).calm.bind (contL turn chk rest acc) := rfl
theorem wipe_eq {σ σ2 : St} {ow : List Nat} (hl : σ2.length = σ.length) (h : ∀ i, i ∉ ow → σ2[i]? = σ[i]?) : wipe σ2 ow = wipe σ ow := by
  refine List.ext_getElem? fun i => ?_
  by_cases hi : i ∈ ow
  · have key : ∀ (τ : St) (l : List Nat), i ∈ l → i < τ.length → (wipe τ l)[i]? = some none := fun τ l => by
      induction l with
      | nil => exact fun z => nomatch z
      | cons v r ih =>
        intro hm ht
        show ((wipe τ r).set v none)[i]? = _
        by_cases hv : v = i
        · rw [hv, List.getElem?_set_self (by rw [wipe_length]; exact ht)]
        · rw [List.getElem?_set_ne hv]
          exact ih ((List.mem_cons.mp hm).resolve_left (Ne.symm hv)) ht
    by_cases ht : i < σ.length
    · rw [key σ ow hi ht, key σ2 ow hi (by rw [hl]; exact ht)]
    · rw [List.getElem?_eq_none (by rw [wipe_length, hl]; omega), List.getElem?_eq_none (by rw [wipe_length]; omega)]
  · rw [wipe_out hi, wipe_out hi]; exact h i hi
section
variable {K : PySem.W.Frag} {cl : Nat → Addr} {W : WX} {Δ : Dl} {X : Cx} {H H0 H1 H2 H3 : Hp} {env env0 env1 env2 env3 : List D} {σ σ2 σ3 : St} {fe se fe0 se0 fe1 se1 fe2 se2 : Nat → List Addr} {ow : List Nat} {f0 s0 fa sa : List Addr} {p : Bool} {D0 : Addr} {acc : List D} {vs : List V}
/-- what the turns keep -/
def CI (K : PySem.W.Frag) (cl : Nat → Addr) (W : WX) (src ow : List Nat) (f0 s0 : List Addr) (env0 : List D) (H0 : Hp) (fe0 se0 : Nat → List Addr) (env1 : List D) (H1 : Hp) (p : Bool) (σ : St) (D0 : Addr) (turn : D → List D → Res (Option D)) (chk : List D → Bool) (Q : VK) (rest : List D) (H : Hp) : Prop :=
  ∃ acc env fe se vs fa sa, MI K cl ow f0 s0 env0 H0 fe0 se0 H1 p σ D0 acc env σ H fe se vs fa sa ∧ holesE env ow = true ∧ (∀ k, k ∈ src → env[k]? = env1[k]?) ∧ PostE K cl W false p 0 none (loopC turn chk rest acc env) env0 σ H0 fe0 se0 Q
theorem elt_part {elt : E} {src : List Nat} {turn : D → List D → Res (Option D)} {chk : List D → Bool} {Q : VK} {rest : List D} (hchk : ∀ e, chk e = true → ∀ k, k ∈ src → e[k]? = env1[k]?) (hp : p = false → ef elt = false)
    (M : MI K cl ow f0 s0 env0 H0 fe0 se0 H1 p σ D0 acc env σ2 H fe se vs fa sa)
    (h : PostE K cl W false p 0 none (((ev Δ elt env).bind fun x e3 => (match own elt x with
      | some x => .ok (some x) (wipeE e3 ow)
      | none => .bad)).calm.bind (contL turn chk rest acc)) env0 σ H0 fe0 se0 Q) :
    tE K cl Δ W0 elt σ2 H fun y H4 => ∃ l, H4 D0 = some (.lst l) ∧ l.length < sizeLine ∧ CI K cl W src ow f0 s0 env0 H0 fe0 se0 env1 H1 p σ D0 turn chk Q rest (L2.upd H4 D0 (.lst (l ++ [y]))) := by
  refine ⟨env, fe, se, M.ge, ?_⟩
  cases e1 : ev Δ elt env with
  | ok x e3 =>
    rw [e1] at h
    intro y H4 fx sx fe4 se4 F
    cases e2 : own elt x with
    | none =>
      have h : PostE K cl W false p 0 none (((match own elt x with
        | some x => .ok (some x) (wipeE e3 ow)
        | none => .bad) : Res (Option D)).calm.bind (contL turn chk rest acc)) env0 σ H0 fe0 se0 Q := h
      rw [e2] at h; exact h.elim
    | some x' =>
      have h : PostE K cl W false p 0 none (((match own elt x with
        | some x => .ok (some x) (wipeE e3 ow)
        | none => .bad) : Res (Option D)).calm.bind (contL turn chk rest acc)) env0 σ H0 fe0 se0 Q := h
      rw [e2] at h
      have h8 : PostE K cl W false p 0 none (if chk (wipeE e3 ow) = true then (if acc.length < sizeL then loopC turn chk rest (acc ++ [x']) (wipeE e3 ow) else .bad) else .bad) env0 σ H0 fe0 se0 Q := h
      obtain ⟨rfl, F3⟩ := F.kept e2
      split at h8
      · rename_i hc
        split at h8
        · rename_i hz
          obtain ⟨h1, N⟩ := M.put F3 hp
          have B := N.back
          refine ⟨vs, h1, by rw [← M.ar.length, ← sizeL_eq]; exact hz, _, _, _, _, _, _, _, B, holesE_of fun i hi => wipeE_in hi (N.ol i hi), fun k hk => hchk _ hc k hk, h8⟩
        · exact h8.elim
      · exact h8.elim
  | err x e3 =>
    rw [e1] at h
    exact h.elim
  | bad =>
    rw [e1] at h
    exact h.elim
/-- the whole loop -/
theorem loop_part {it : I} {t : T} {elt : E} {src : List Nat} {turn : D → List D → Res (Option D)} {chk : List D → Bool} {Q : VK} {J : It} {ds : List D} {tt : TT} {te : TE} (hchk : ∀ e, chk e = true → ∀ k, k ∈ src → e[k]? = env1[k]?)
    (hnm : nmT t = true) (htl : ∀ i, i ∈ tsl t → i ∈ ow) (g : GE K cl H0 env0 σ fe0 se0) (g1 : GE K cl H1 env1 σ fe1 se1) (st1 : Sp0 H0 fe0 se0 H1 fe1 se1) (x0 : Ext fe1 se1 f0 s0) (lv : ∀ b, b ∈ f0 ∨ b ∈ s0 → ∃ o, H1 b = some o) (og : ∀ b, b ∈ s0 → (∃ j, b ∈ fe0 j ∨ b ∈ se0 j) ∨ H0 b = none)
    (pu : p = false → Pur env0 H0 fe0 se0 env1 H1 fe1 se1) (wk : Wk K cl J ds src env1 σ H1 f0 s0) (ho : holesE env1 ow = true) (h : PostE K cl W false p 0 none (loopC turn chk ds [] env1) env0 σ H0 fe0 se0 Q)
    (hturn : ∀ d env, turn d env = .bad ∨ (∃ x e, turn d env = .err x e) ∨ ∃ e2, asgT Δ t d env = some e2)
    (body : ∀ d rest acc env e2 σ2 H2 fe2 se2 vs fa sa, asgT Δ t d env = some e2 → MI K cl ow f0 s0 env0 H0 fe0 se0 H1 p σ D0 acc e2 σ2 H2 fe2 se2 vs fa sa → PostE K cl W false p 0 none ((turn d env).calm.bind (contL turn chk rest acc)) env0 σ H0 fe0 se0 Q →
      tt σ2 H2 fun b H3 => if b = true then te σ2 H3 fun y H4 => ∃ l, H4 D0 = some (.lst l) ∧ l.length < sizeLine ∧ CI K cl W src ow f0 s0 env0 H0 fe0 se0 env1 H1 p σ D0 turn chk Q rest (L2.upd H4 D0 (.lst (l ++ [y]))) else CI K cl W src ow f0 s0 env0 H0 fe0 se0 env1 H1 p σ D0 turn chk Q rest H3)
    (hD : H1 D0 = none) :
    ∃ Wn : Nat → Nat → Hp → Prop, (∃ m, Wn 0 m (L2.upd H1 D0 (.lst []))) ∧ ∀ i m H, Wn i m H →
      (J.stop i H ∧ Q (.ref D0) H) ∨ (J.go i H ∧ ∃ Nx : Hp → Prop, (∀ H', Nx H' → ∃ m', m' < m ∧ Wn (i + 1) m' H') ∧ ∀ x H', J.yld i H x H' → tG K cl Δ t x (wipe σ ow) H' fun σ2 H2 => wipe σ2 ow = wipe σ ow ∧ tt σ2 H2 fun b H3 =>
        if b = true then te σ2 H3 fun y H4 => ∃ acc, H4 D0 = some (.lst acc) ∧ acc.length < sizeLine ∧ Nx (L2.upd H4 D0 (.lst (acc ++ [y]))) else Nx H3) := by
  have dn : (∃ j, D0 ∈ fe0 j) ∨ H0 D0 = none := st1.fresh hD
  have nD : ∀ b, (b ∈ f0 ∨ b ∈ s0) → b ≠ D0 := fun b z q => by
    obtain ⟨o, e⟩ := lv b z
    rw [q, hD] at e; cases e
  have dF : ∀ i, D0 ∉ fe1 i := fun i z => by
    obtain ⟨o, e⟩ := g1.live (.inl z)
    rw [hD] at e; cases e
  have dS : ∀ i, D0 ∉ se1 i := fun i z => by
    obtain ⟨o, e⟩ := g1.live (.inr z)
    rw [hD] at e; cases e
  refine ⟨fun i m H => m = ds.length - i ∧ i ≤ ds.length ∧ CI K cl W src ow f0 s0 env0 H0 fe0 se0 env1 H1 p σ D0 turn chk Q (ds.drop i) H, ⟨ds.length, rfl, Nat.zero_le _, [], env1, fe1, se1, [], [], [], ⟨g1.grow (Grow.upd hD), rfl, fun _ _ => rfl, fun i hi => (List.getElem?_eq_some_iff.mp (holesE_at ho hi)).1, fun b o e _ => Grow.upd hD b o e, lv, hD, upd_same, .nil, ?_, st1.grow (Grow.upd hD), fun i x hx => g.live (.inl hx), og, fun _ z => (nomatch z), fun _ z => (nomatch z), dn, fun z => ?_⟩, ho, fun _ _ => rfl, h⟩, ?_⟩
  · refine ⟨List.nodup_append.mpr ⟨x0.nd, by simp, fun a h1 b h2 e => ?_⟩, fun a h1 h2 => ?_, fun a i h => ?_, fun a i h => ?_⟩
    · have : b = D0 := by simpa using h2
      exact nD a (.inl h1) (e.trans this)
    · have h2 : a ∈ s0 := by simpa using h2
      rcases List.mem_append.mp h1 with h1 | h1
      · exact x0.fs a h1 h2
      · have : a = D0 := by simpa using h1
        exact nD a (.inr h2) this
    · rcases List.mem_append.mp h with h | h
      · exact x0.fx a i h
      · have : a = D0 := by simpa using h
        rw [this]; exact ⟨dF i, dS i⟩
    · have h : a ∈ s0 := by simpa using h
      exact x0.sx a i h
  · obtain ⟨a1, a2, a3, a4⟩ := pu z
    subst a1 a2 a3
    refine ⟨?_, rfl, fun _ _ => ⟨rfl, rfl, rfl⟩, a4.trans (Grow.upd hD)⟩
    cases q : H0 D0 with
    | none => rfl
    | some o => rw [a4 _ _ q] at hD; cases hD
  · rintro i m H ⟨rfl, hi, acc, env, fe, se, vs, fa, sa, M, hol, hsrc, hpost⟩
    have zt : Zt src env1 σ H1 f0 s0 H env σ := ⟨fun k hk => ⟨hsrc k hk, rfl⟩, M.kp⟩
    by_cases hlt : i < ds.length
    · refine .inr ⟨wk.goes i H env σ fe se hlt M.ge zt, fun H' => CI K cl W src ow f0 s0 env0 H0 fe0 se0 env1 H1 p σ D0 turn chk Q (ds.drop (i + 1)) H', fun H' q => ⟨ds.length - (i + 1), by omega, rfl, hlt, q⟩, fun x H' hy => ?_⟩
      obtain ⟨d, s, ed, gr, r, hs⟩ := wk.yields i H env σ fe se x H' hlt M.ge zt hy
      have hdrop : ds.drop i = d :: ds.drop (i + 1) := by
        rw [List.drop_eq_getElem_cons hlt]
        have := (List.getElem?_eq_some_iff.mp ed).2
        rw [this]
      rw [hdrop, loopC_cons] at hpost
      have hasg : ∃ e2, asgT Δ t d env = some e2 := by
        rcases hturn d env with z | ⟨x, e, z⟩ | z
        · rw [z] at hpost; exact hpost.elim
        · rw [z] at hpost; exact hpost.elim
        · exact z
      obtain ⟨e2, ea⟩ := hasg
      have sx : ∀ a j, a ∈ s → a ∉ fe j := fun a j ha z => by
        rcases hs a ha with y | ⟨k, y⟩
        · exact M.ex.sx a j (List.mem_append_left _ y) z
        · exact M.ge.ds j k a z y
      refine ⟨env, fe, se, d, [], s, (M.ge.wiped hol).grow gr, r, ⟨List.nodup_nil, fun _ z => (nomatch z), fun _ _ z => (nomatch z), sx⟩, ?_⟩
      rw [ea]
      intro σ2 H2 fe2 se2 g2 st2 hσ2 hm
      obtain ⟨rfl, hf⟩ := hm hnm
      obtain ⟨hl2, he2⟩ := asgT_len hnm ea
      have N := M.item gr hs g2 st2 hσ2 htl ⟨hl2, he2⟩ hf
      refine ⟨wipe_eq N.sl N.sg, ?_⟩
      exact body d _ acc env e2 σ2 H2 fe2 se2 vs fa sa ea N hpost
    · have e : i = ds.length := by omega
      subst e
      refine .inl ⟨wk.stops H env σ fe se M.ge zt, ?_⟩
      rw [List.drop_length] at hpost
      have ex2 : Ext fe se (D0 :: fa) sa := by
        obtain ⟨n1, n2, n3⟩ := List.nodup_append.mp M.ex.nd
        exact ⟨n2, fun a h1 h2 => M.ex.fs a (List.mem_append_right _ h1) (List.mem_append_right _ h2), fun a j h => M.ex.fx a j (List.mem_append_right _ h), fun a j h => M.ex.sx a j (List.mem_append_right _ h)⟩
      refine hpost (.ref D0) H (D0 :: fa) sa fe se ⟨M.ge, .own rfl M.ac M.ar, M.st, fun a ha => ?_, M.so, fun _ => ex2, fun z => (nomatch z), fun z => ?_, fun _ z => (nomatch z)⟩
      · rcases List.mem_cons.mp ha with rfl | ha
        · exact dn
        · exact M.fo a ha
      · obtain ⟨b0, b1, b2, b3⟩ := M.pu z
        obtain ⟨a1, _, _, _⟩ := pu z
        have hol0 : holesE env0 ow = true := by rw [← a1]; exact ho
        have hole : ∀ {env : List D} {H : Hp} {fe se : Nat → List Addr}, GE K cl H env σ fe se → holesE env ow = true → ∀ i, i ∈ ow → fe i = [] ∧ se i = [] := fun g h i hi => by
          rcases g.slot i .hole (holesE_at h hi) with z | ⟨v, _, r⟩
          · exact z.2
          · cases r
        refine ⟨List.ext_getElem? fun i => ?_, funext fun i => ?_, funext fun i => ?_, b3⟩
        · by_cases hi : i ∈ ow
          · rw [holesE_at hol hi, holesE_at hol0 hi]
          · exact (b2 i hi).1
        · by_cases hi : i ∈ ow
          · rw [(hole M.ge hol i hi).1, (hole g hol0 i hi).1]
          · exact (b2 i hi).2.1
        · by_cases hi : i ∈ ow
          · rw [(hole M.ge hol i hi).2, (hole g hol0 i hi).2]
          · exact (b2 i hi).2.2
end
end Vi

set_option Elab.async false
set_option linter.all false
set_option maxRecDepth 100000
set_option maxHeartbeats 2000000
/-! Vi22: comprehensions, their rules. -/
namespace Vi
open PySem PySem.Spec L2
theorem stay_ok {src : List Nat} {e1 e : List D} (h : stay src e1 e = true) : ∀ k, k ∈ src → e[k]? = e1[k]? := fun k hk => (of_decide_eq_true (List.all_eq_true.mp h k hk)).symm
def eltC (Δ : Dl) (ow : List Nat) (elt : E) (e : List D) : Res (Option D) := (ev Δ elt e).bind fun x e3 => (match own elt x with
  | some x => .ok (some x) (wipeE e3 ow)
  | none => .bad)
def turnC (Δ : Dl) (ow : List Nat) (t : T) (elt : E) (d : D) (env : List D) : Res (Option D) := match asgT Δ t d env with
  | some e2 => eltC Δ ow elt e2
  | none => .bad
def testC (Δ : Dl) (ow : List Nat) (c elt : E) (e2 : List D) : Res (Option D) := (ev Δ c e2).bind fun b e3 => (match b with
  | .bl true => eltC Δ ow elt e3
  | .bl false => .ok none (wipeE e3 ow)
  | _ => .bad)
def turnI (Δ : Dl) (ow : List Nat) (t : T) (c elt : E) (d : D) (env : List D) : Res (Option D) := match asgT Δ t d env with
  | some e2 => testC Δ ow c elt e2
  | none => .bad
theorem ev_comp {Δ : Dl} {ow : List Nat} {t : T} {it : I} {elt : E} {env : List D} : ev Δ (.comp ow t it elt) env = (evi Δ it env).bind fun ds e1 => if holesE e1 ow then loopC (turnC Δ ow t elt) (stay (srcs it) e1) ds [] e1 else .bad := rfl
theorem ev_compI {Δ : Dl} {ow : List Nat} {t : T} {it : I} {c elt : E} {env : List D} : ev Δ (.compI ow t it c elt) env = (evi Δ it env).bind fun ds e1 => if holesE e1 ow then loopC (turnI Δ ow t c elt) (stay (srcs it) e1) ds [] e1 else .bad := rfl
section
variable {K : PySem.W.Frag} {cl : Nat → Addr} {W : WX} {Δ : Dl} {X : Cx} {H H0 H1 H2 H3 : Hp} {env env0 env1 env2 env3 : List D} {σ σ2 σ3 : St} {fe se fe0 se0 fe1 se1 fe2 se2 : Nat → List Addr} {ow : List Nat}
theorem lc_imp {t : T} {it : I} {elt : E} (hnm : nmT t = true) (htl : ∀ i, i ∈ tsl t → i ∈ ow) : ∀ σ H0 Q, tE K cl Δ W (.comp ow t it elt) σ H0 Q → tLc (tI K cl Δ W it) (tG K cl Δ t) tYes (tE K cl Δ W0 elt) ow σ H0 Q :=
  fun σ H0 Q ⟨env0, fe0, se0, g, h⟩ => by
    refine ⟨env0, fe0, se0, g, ?_⟩
    have h2 : PostE K cl W false (efi it || ef elt) 0 none (ev Δ (.comp ow t it elt) env0) env0 σ H0 fe0 se0 Q := h
    rw [ev_comp] at h2
    cases e1 : evi Δ it env0 with
    | ok ds env1 =>
      rw [e1] at h2
      have h3 : PostE K cl W false (efi it || ef elt) 0 none (if holesE env1 ow then loopC (turnC Δ ow t elt) (stay (srcs it) env1) ds [] env1 else .bad) env0 σ H0 fe0 se0 Q := h2
      split at h3
      · rename_i ho
        intro J H1 fe1 se1 f0 s0 g1 st1 x0 lv og pu wk D0 hD
        refine loop_part (W := W) (tt := tYes) (te := tE K cl Δ W0 elt) (it := it) (elt := elt) (turn := turnC Δ ow t elt) (fun e he => stay_ok (src := srcs it) (e1 := env1) (e := e) he) hnm htl g g1 st1 x0 lv og (fun z => pu (Bool.or_eq_false_iff.mp z).1) wk ho h3 (fun d env => ?_) (fun d rest acc env e2 σ2 H2 fe2 se2 vs fa sa ea M hp => ?_) hD
        · unfold turnC
          cases ea : asgT Δ t d env with
          | some e2 => exact .inr (.inr ⟨e2, rfl⟩)
          | none => exact .inl rfl
        · unfold tYes
          dsimp only
          rw [if_pos rfl]
          refine elt_part (fun e he => stay_ok (src := srcs it) (e1 := env1) (e := e) he) (fun z => (Bool.or_eq_false_iff.mp z).2) M ?_
          have e9 : turnC Δ ow t elt d env = eltC Δ ow elt e2 := by unfold turnC; rw [ea]
          rw [e9] at hp
          exact hp
      · exact h3.elim
    | err x e2 =>
      rw [e1] at h2
      exact h2
    | bad =>
      rw [e1] at h2
      exact h2.elim
/-- .. with a test -/
theorem lcI_imp {t : T} {it : I} {c elt : E} (hnm : nmT t = true) (htl : ∀ i, i ∈ tsl t → i ∈ ow) : ∀ σ H0 Q, tE K cl Δ W (.compI ow t it c elt) σ H0 Q → tLc (tI K cl Δ W it) (tG K cl Δ t) (tT K cl Δ W0 c) (tE K cl Δ W0 elt) ow σ H0 Q :=
  fun σ H0 Q ⟨env0, fe0, se0, g, h⟩ => by
    refine ⟨env0, fe0, se0, g, ?_⟩
    have h2 : PostE K cl W false (efi it || (ef c || ef elt)) 0 none (ev Δ (.compI ow t it c elt) env0) env0 σ H0 fe0 se0 Q := h
    rw [ev_compI] at h2
    cases e1 : evi Δ it env0 with
    | ok ds env1 =>
      rw [e1] at h2
      have h3 : PostE K cl W false (efi it || (ef c || ef elt)) 0 none (if holesE env1 ow then loopC (turnI Δ ow t c elt) (stay (srcs it) env1) ds [] env1 else .bad) env0 σ H0 fe0 se0 Q := h2
      split at h3
      · rename_i ho
        intro J H1 fe1 se1 f0 s0 g1 st1 x0 lv og pu wk D0 hD
        refine loop_part (W := W) (tt := tT K cl Δ W0 c) (te := tE K cl Δ W0 elt) (it := it) (elt := elt) (turn := turnI Δ ow t c elt) (fun e he => stay_ok (src := srcs it) (e1 := env1) (e := e) he) hnm htl g g1 st1 x0 lv og (fun z => pu (Bool.or_eq_false_iff.mp z).1) wk ho h3 (fun d env => ?_) (fun d rest acc env e2 σ2 H2 fe2 se2 vs fa sa ea M hp => ?_) hD
        · unfold turnI
          cases ea : asgT Δ t d env with
          | some e2 => exact .inr (.inr ⟨e2, rfl⟩)
          | none => exact .inl rfl
        · have e9 : turnI Δ ow t c elt d env = testC Δ ow c elt e2 := by unfold turnI; rw [ea]
          rw [e9] at hp
          unfold testC at hp
          refine ⟨e2, fe2, se2, M.ge, ?_⟩
          cases ec : ev Δ c e2 with
          | ok b e3 =>
            rw [ec] at hp
            cases b with
            | bl b =>
              refine ⟨b, rfl, fun H' fe' se' g' st' pu' => ?_⟩
              have N := M.run g' st' (p' := ef c) (fun z => (Bool.or_eq_false_iff.mp (Bool.or_eq_false_iff.mp z).2).1) pu'
              cases b with
              | true =>
                dsimp only
                rw [if_pos rfl]
                exact elt_part (fun e he => stay_ok (src := srcs it) (e1 := env1) (e := e) he) (fun z => (Bool.or_eq_false_iff.mp (Bool.or_eq_false_iff.mp z).2).2) N hp
              | false =>
                dsimp only
                rw [if_neg Bool.false_ne_true]
                have hp : PostE K cl W false (efi it || (ef c || ef elt)) 0 none (if stay (srcs it) env1 (wipeE e3 ow) = true then loopC (turnI Δ ow t c elt) (stay (srcs it) env1) rest acc (wipeE e3 ow) else .bad) env0 σ H0 fe0 se0 Q := hp
                split at hp
                · rename_i hck
                  exact ⟨acc, _, _, _, vs, fa, sa, N.back, holesE_of fun i hi => wipeE_in hi (N.ol i hi), stay_ok hck, hp⟩
                · exact hp.elim
            | _ => exact hp.elim
          | err x e3 =>
            rw [ec] at hp
            exact hp.elim
          | bad =>
            rw [ec] at hp
            exact hp.elim
      · exact h3.elim
    | err x e2 =>
      rw [e1] at h2
      exact h2
    | bad =>
      rw [e1] at h2
      exact h2.elim
/-- what a comprehension's parts are -/
structure CompOk (K : PySem.W.Frag) (cl : Nat → Addr) (Δ : Dl) (W : WX) (X : Cx) (ow : List Nat) (names : List (Str × Nat)) (t : T) (it : I) (elt : E) (tg iter ex : Expr) (scope : Scope) : Prop where
  how : names.map (·.2) = ow
  hc : X.calm = true
  hN : X.N.Nodup
  hi : PI X tg iter (tI K cl Δ W it)
  ok : BlkOk X.N X.env.scope scope names
  hg : ∀ (s : Shared) (H : Hp) (C : Addr) (c : List (Str × Addr)) (fp : List Addr), PG (X.blk s H scope (compEnvC scope c C X.env) fp) tg (tG K cl Δ t)
  he : ∀ (s : Shared) (H : Hp) (C : Addr) (c : List (Str × Addr)) (fp : List Addr), PE (X.blk s H scope (compEnvC scope c C X.env) fp) ex (tE K cl Δ W0 elt)
  hs : ∀ x, foldedSetIterable iter X.env x = pure x
  hnm : nmT t = true
  htl : ∀ i, i ∈ tsl t → i ∈ ow
theorem s_comp {names : List (Str × Nat)} {t : T} {it : I} {elt : E} {tg iter ex : Expr} {scope : Scope} {pos : Pos} (C : CompOk K cl Δ W X ow names t it elt tg iter ex scope) : PE X (.ListComp ex [⟨tg, iter, [], 0⟩] scope pos) (tE K cl Δ W (.comp ow t it elt)) :=
  (pe_lc C.hc C.hN C.hi C.ok C.hg (fun _ _ _ _ _ => pts_nil) C.he C.hs).imp fun σ H0 Q h => by
    rw [C.how]; exact lc_imp C.hnm C.htl σ H0 Q h
theorem s_compI {names : List (Str × Nat)} {t : T} {it : I} {c elt : E} {tg iter cx ex : Expr} {scope : Scope} {pos : Pos} (C : CompOk K cl Δ W X ow names t it elt tg iter ex scope)
    (ht : ∀ (s : Shared) (H : Hp) (C : Addr) (l : List (Str × Addr)) (fp : List Addr), PT (X.blk s H scope (compEnvC scope l C X.env) fp) cx (tT K cl Δ W0 c)) : PE X (.ListComp ex [⟨tg, iter, [cx], 0⟩] scope pos) (tE K cl Δ W (.compI ow t it c elt)) :=
  (pe_lc C.hc C.hN C.hi C.ok C.hg (fun s H C l fp => pts_one (ht s H C l fp)) C.he C.hs).imp fun σ H0 Q h => by
    rw [C.how]; exact lcI_imp C.hnm C.htl σ H0 Q h
end
end Vi

set_option Elab.async false
set_option linter.all false
set_option maxRecDepth 100000
set_option maxHeartbeats 2000000
/-! Vi23: statements. -/
namespace Vi
open PySem PySem.Spec L2
def isComp : Expr → Bool
  | .ListComp .. => true
  | .SetComp .. => true
  | .DictComp .. => true
  | _ => false
def isTupX : Expr → Bool
  | .Tuple .. => true
  | _ => false
theorem sw_no {e : Expr} {t : Option Expr} {l : Nat} {env : Env} (h : isComp e = false) : swapsWith e t l env = pure false := by
  cases e <;> first | rfl | cases h
theorem ss_no {tg e : Expr} {env : Env} (h : isTupX e = false) : swappedStores [tg] e env = pure none := by
  cases e <;> first | (cases tg <;> rfl) | cases h
section
variable (K : PySem.W.Frag) (cl : Nat → Addr)
def PostQ (W : WX) (M : List Nat) (o : Out) (σ : St) (H : Hp) (fe se : Nat → List Addr) (D : Ends) : Prop := match o with
  | .next e => ∀ σ' H' fe' se', GE K cl H' e σ' fe' se' → Sp0 H fe se H' fe' se' → (∀ i, i ∈ M → σ'[i]? = σ[i]?) → D.nx σ' H'
  | .brk e => ∀ σ' H' fe' se', GE K cl H' e σ' fe' se' → Sp0 H fe se H' fe' se' → (∀ i, i ∈ M → σ'[i]? = σ[i]?) → D.bk σ' H'
  | .cont e => ∀ σ' H' fe' se', GE K cl H' e σ' fe' se' → Sp0 H fe se H' fe' se' → (∀ i, i ∈ M → σ'[i]? = σ[i]?) → D.ct σ' H'
  | .ret d e => ∀ σ' v H' f s fe' se', GE K cl H' e σ' fe' se' → Sp0 H fe se H' fe' se' → (∀ i, i ∈ M → σ'[i]? = σ[i]?) → R K cl H' d v f s → Ext fe' se' f s → (∀ a, a ∈ f → (∃ j, a ∈ fe j) ∨ H a = none) → (∀ a, a ∈ s → (∃ j, a ∈ fe j ∨ a ∈ se j) ∨ H a = none) → D.rt v H'
  | .err x e => ∀ σ' cls dd H' fe' se', XR cl H' x cls dd → GE K cl H' e σ' fe' se' → Sp0 H fe se H' fe' se' → (∀ i, i ∈ M → σ'[i]? = σ[i]?) → W cls dd σ' H'
  | .bad => False
def tS (Δ : Dl) (W : WX) (M : List Nat) (s : S) : TS := fun D σ H => ∃ env fe se, GE K cl H env σ fe se ∧ PostQ K cl W M (exs Δ s env) σ H fe se D
def tSs (Δ : Dl) (W : WX) (M : List Nat) (s : Ss) : TS := fun D σ H => ∃ env fe se, GE K cl H env σ fe se ∧ PostQ K cl W M (exss Δ s env) σ H fe se D
end
section
variable {K : PySem.W.Frag} {cl : Nat → Addr} {W : WX} {Δ : Dl} {X : Cx} {H H0 H1 H2 H3 : Hp} {env env0 env1 env2 env3 : List D} {σ σ1 σ2 σ3 : St} {fe se fe0 se0 fe1 se1 fe2 se2 : Nat → List Addr} {M : List Nat} {D : Ends}
theorem PostQ.behind {o : Out} (g : GE K cl H env σ fe se) (st : Sp0 H fe se H1 fe1 se1) (ag : ∀ i, i ∈ M → σ1[i]? = σ[i]?) (h : PostQ K cl W M o σ H fe se D) : PostQ K cl W M o σ1 H1 fe1 se1 D := by
  have hl : ∀ i x, x ∈ fe i → ∃ o, H x = some o := fun i x hx => g.live (.inl hx)
  cases o with
  | next e => exact fun σ' H' fe' se' a b c => h σ' H' fe' se' a (st.trans b hl) fun i hi => (c i hi).trans (ag i hi)
  | brk e => exact fun σ' H' fe' se' a b c => h σ' H' fe' se' a (st.trans b hl) fun i hi => (c i hi).trans (ag i hi)
  | cont e => exact fun σ' H' fe' se' a b c => h σ' H' fe' se' a (st.trans b hl) fun i hi => (c i hi).trans (ag i hi)
  | ret d e =>
    exact fun σ' v H' f s fe' se' a b c r x vo vs => h σ' v H' f s fe' se' a (st.trans b hl) (fun i hi => (c i hi).trans (ag i hi)) r x (fun y hy => by
      rcases vo y hy with ⟨j, z⟩ | z
      · exact st.eo j y z
      · exact st.fresh z) fun y hy => by
      rcases vs y hy with ⟨j, z | z⟩ | z
      · exact (st.eo j y z).imp (fun ⟨k, q⟩ => ⟨k, .inl q⟩) id
      · exact st.es j y z
      · exact (st.fresh z).imp (fun ⟨k, q⟩ => ⟨k, .inl q⟩) id
  | err x e => exact fun σ' cls dd H' fe' se' xr a b c => h σ' cls dd H' fe' se' xr a (st.trans b hl) fun i hi => (c i hi).trans (ag i hi)
  | bad => exact h
theorem ss_nil : PSs X [] (tSs K cl Δ W M .nil) := pss_nil.imp fun D σ H ⟨env, fe, se, g, h⟩ => h σ H fe se g Sp0.refl fun _ _ => rfl
theorem ss_cons {s : S} {ss : Ss} {st : Stmt} {r : List Stmt} (h1 : PS X st (tS K cl Δ W M s)) (h2 : PSs X r (tSs K cl Δ W M ss)) : PSs X (st :: r) (tSs K cl Δ W M (.cons s ss)) :=
  (pss_cons h1 h2).imp fun D σ H ⟨env, fe, se, g, h⟩ => by
    have h : PostQ K cl W M (match exs Δ s env with
      | .next e => exss Δ ss e
      | r => r) σ H fe se D := h
    refine ⟨env, fe, se, g, ?_⟩
    cases e1 : exs Δ s env with
    | next e =>
      rw [e1] at h
      exact fun σ' H' fe' se' a b c => ⟨e, fe', se', a, h.behind g b c⟩
    | brk e => rw [e1] at h; exact h
    | cont e => rw [e1] at h; exact h
    | ret d e => rw [e1] at h; exact h
    | err x e => rw [e1] at h; exact h
    | bad => rw [e1] at h; exact h.elim
theorem ss_drop {i : Nat} {ss : Ss} {r : List Stmt} (h2 : PSs X r (tSs K cl Δ W M ss)) : PSs X r (tSs K cl Δ W M (.cons (.drop i) ss)) :=
  h2.imp fun D σ H ⟨env, fe, se, g, h⟩ => by
    have h : PostQ K cl W M (exss Δ ss (env.set i .hole)) σ H fe se D := h
    by_cases hi : i < env.length
    · have g2 := g.drop hi (σ[i]?.getD none)
      have e : σ.set i (σ[i]?.getD none) = σ := by
        refine List.ext_getElem? fun j => ?_
        by_cases hj : i = j
        · subst hj
          have hl : i < σ.length := by rw [← g.len]; exact hi
          rw [List.getElem?_set_self hl]
          simp [hl]
        · rw [List.getElem?_set_ne hj]
      rw [e] at g2
      refine ⟨_, _, _, g2, h.behind g ⟨fun _ _ q _ => q, fun j a ha => ?_, fun j a ha => ?_⟩ fun _ _ => rfl⟩
      · by_cases q : j = i
        · simp only [if_pos q] at ha; cases ha
        · simp only [if_neg q] at ha; exact .inl ⟨j, ha⟩
      · by_cases q : j = i
        · simp only [if_pos q] at ha; cases ha
        · simp only [if_neg q] at ha; exact .inl ⟨j, .inr ha⟩
    · rw [List.set_eq_of_length_le (by omega)] at h
      exact ⟨env, fe, se, g, h⟩
theorem s_pass {pos : Pos} : PS X (.Pass pos) (tS K cl Δ W M .pass) := ps_pass.imp fun D σ H ⟨env, fe, se, g, h⟩ => h σ H fe se g Sp0.refl fun _ _ => rfl
theorem s_brk {pos : Pos} : PS X (.Break pos) (tS K cl Δ W M .brk) := ps_break.imp fun D σ H ⟨env, fe, se, g, h⟩ => h σ H fe se g Sp0.refl fun _ _ => rfl
theorem s_cont {pos : Pos} : PS X (.Continue pos) (tS K cl Δ W M .cont) := ps_continue.imp fun D σ H ⟨env, fe, se, g, h⟩ => h σ H fe se g Sp0.refl fun _ _ => rfl
theorem s_doc {x : Str} {j : Nat} {pos pos' : Pos} : PS X (.Expr (.Constant (.str x) j pos) pos') (tS K cl Δ W M .doc) := ps_doc.imp fun D σ H ⟨env, fe, se, g, h⟩ => h σ H fe se g Sp0.refl fun _ _ => rfl
theorem s_ret0 {pos : Pos} : PS X (.Return none pos) (tS K cl Δ W M .ret0) := ps_retN.imp fun D σ H ⟨env, fe, se, g, h⟩ =>
  h σ .non H [] [] fe se g Sp0.refl (fun _ _ => rfl) .non none_ext (fun _ z => nomatch z) fun _ z => nomatch z
/-- an expression, then a statement's end -/
theorem outP {w p : Bool} {r : Nat} {x : Option Nat} {res : Res Vi.D} {k : Vi.D → List Vi.D → Out} {Q : VK} (h : PostQ K cl W M (res.out k) σ H fe se D)
    (hk : ∀ d e v H' f s fe' se', res = .ok d e → Fi K cl w p r x env σ H fe se d e v H' f s fe' se' → PostQ K cl W M (k d e) σ H fe se D → Q v H') : PostE K cl W w p r x res env σ H fe se Q := by
  cases res with
  | ok d e => exact fun v H' f s fe' se' F => hk d e v H' f s fe' se' rfl F h
  | err x e => exact fun cls dd H' fe' se' a b c => h σ cls dd H' fe' se' a b c fun _ _ => rfl
  | bad => exact h.elim
theorem s_expr {e : E} {x : Expr} {pos : Pos} (hx : PE X x (tE K cl Δ W e)) (hc : isComp x = false) : PS X (.Expr x pos) (tS K cl Δ W M (.expr e)) :=
  (ps_expr hx (sw_no hc)).imp fun D σ H ⟨env, fe, se, g, h⟩ => ⟨env, fe, se, g, outP h fun d e v H' f s fe' se' e1 F h2 => h2 σ H' fe' se' F.ge F.st fun _ _ => rfl⟩
theorem s_ret {e : E} {x : Expr} {pos : Pos} (hx : PE X x (tE K cl Δ W e)) : PS X (.Return (some x) pos) (tS K cl Δ W M (.ret e)) :=
  (ps_ret hx).imp fun D σ H ⟨env, fe, se, g, h⟩ => ⟨env, fe, se, g, outP h fun d e1 v H' f s fe' se' e2 F h2 => by
    have h3 : PostQ K cl W M (match own e d with
      | some d => .ret d e1
      | none => .bad) σ H fe se D := h2
    split at h3
    · rename_i d' ho
      obtain ⟨hd, F2⟩ := F.kept ho
      subst hd
      exact h3 σ v H' f s fe' se' F2.ge F2.st (fun _ _ => rfl) F2.rv (F2.ext rfl) F2.vo F2.vs
    · exact h3.elim⟩
/-- behind a value and a store of it -/
theorem Sp0.into {p : Bool} {d : Vi.D} {v : V} {f s : List Addr} (g : GE K cl H env σ fe se) (F : Fi K cl false p 0 none env σ H fe se d env1 v H1 f s fe1 se1) (st : Sp1 H1 fe1 se1 f s H2 fe2 se2) : Sp0 H fe se H2 fe2 se2 := by
  have fresh : ∀ a, H1 a = none → (∃ j, a ∈ fe j) ∨ H a = none := fun a z => F.st.fresh z
  have new2 : ∀ a, H1 a = none → (∃ j, a ∈ fe j) ∨ H a = none := fresh
  refine ⟨fun a o e h => ?_, fun i a ha => ?_, fun i a ha => ?_⟩
  · refine st.keep a o (F.st.keep a o e h) (h.imp (fun n => ⟨fun i z => ?_, fun z => ?_⟩) id)
    · rcases F.st.eo i a z with ⟨j, y⟩ | y
      · exact n j y
      · rw [e] at y; cases y
    · rcases F.vo a z with ⟨j, y⟩ | y
      · exact n j y
      · rw [e] at y; cases y
  · rcases st.eo i a ha with ⟨j, z⟩ | z | z
    · exact F.st.eo j a z
    · exact F.vo a z
    · exact fresh a z
  · have up : ((∃ j, a ∈ fe j) ∨ H a = none) → (∃ j, a ∈ fe j ∨ a ∈ se j) ∨ H a = none := fun q => q.imp (fun ⟨k, q⟩ => ⟨k, .inl q⟩) id
    rcases st.es i a ha with ⟨j, z | z⟩ | (z | z) | z
    · exact up (F.st.eo j a z)
    · exact F.st.es j a z
    · exact up (F.vo a z)
    · exact F.vs a z
    · exact up (fresh a z)
theorem set_imp {i : Nat} {e : E} (hM : i ∉ M) : ∀ D σ H, tS K cl Δ W M (.set i e) D σ H → tAsg (tE K cl Δ W e) (gName i) D σ H := fun D σ H ⟨env, fe, se, g, h⟩ =>
  ⟨env, fe, se, g, outP h fun d e1 v H' f s fe' se' e2 F h2 => by
    have h3 : PostQ K cl W M (match own e d with
      | some d => if i < e1.length then .next (e1.set i d) else .bad
      | none => .bad) σ H fe se D := h2
    split at h3
    · rename_i d' ho
      obtain ⟨hd, F2⟩ := F.kept ho
      subst hd
      split at h3
      · rename_i hi
        have g2 := F2.ge.store F2.rv (F2.ext rfl) hi
        refine h3 _ H' _ _ g2 (Sp0.into g F2 ⟨fun _ _ q _ => q, fun j a ha => ?_, fun j a ha => ?_⟩) fun j hj => List.getElem?_set_ne (fun (z : i = j) => hM (z ▸ hj))
        · by_cases q : j = i
          · simp only [if_pos q] at ha; exact .inr (.inl ha)
          · simp only [if_neg q] at ha; exact .inl ⟨j, ha⟩
        · by_cases q : j = i
          · simp only [if_pos q] at ha; exact .inr (.inl (.inr ha))
          · simp only [if_neg q] at ha; exact .inl ⟨j, .inr ha⟩
      · exact h3.elim
    · exact h3.elim⟩
theorem s_set {i : Nat} {e : E} {x : Str} {y : Expr} {pos' pos : Pos} (hM : i ∉ M) (hN : X.N.Nodup) (hi : X.N[i]? = some x) (hx : Loc X.env.scope x) (hf : X.fn x = true ∨ X.env.scope.names.lookup x = some .local) (hy : PE X y (tE K cl Δ W e)) (hc : isComp y = false) : PS X (.Assign [.Name x pos'] y pos) (tS K cl Δ W M (.set i e)) :=
  (ps_set hN hi hx hy (sw_no hc) hf).imp (set_imp hM)
theorem sw_cell {ex : Expr} {gs : List Comprehension} {s : Scope} {q p : Pos} {t : Str} {l : Nat} {env : Env} (h : env.scope.names.lookup t = some .cell) : swapsWith (.ListComp ex gs s q) (some (.Name t p)) l env = pure false := by
  have e : env.kindOf t = some .cell := h
  show (pure (env.blockKind == ScopeKind.function && env.kindOf t == some NameKind.local && (p.line == (Expr.pos (.ListComp ex gs s q)).line) && !(s.names.any fun (n, k) => n == t && (k == .local || k == .cell))) : Sem Bool) = pure false
  rw [e]
  congr 1
  cases env.blockKind == ScopeKind.function <;> rfl
theorem s_setX {i : Nat} {e : E} {x : Str} {y : Expr} {pos' pos : Pos} (hM : i ∉ M) (hN : X.N.Nodup) (hi : X.N[i]? = some x) (hx : Loc X.env.scope x) (hf : X.fn x = true ∨ X.env.scope.names.lookup x = some .local) (hy : PE X y (tE K cl Δ W e)) (hs : swapsWith y (some (.Name x pos')) pos.line X.env = pure false) : PS X (.Assign [.Name x pos'] y pos) (tS K cl Δ W M (.set i e)) :=
  (ps_set hN hi hx hy hs hf).imp (set_imp hM)
theorem s_setC {i : Nat} {ow : List Nat} {names : List (Str × Nat)} {t : T} {it : I} {elt : E} {tg iter ex : Expr} {scope : Scope} {y : Str} {py pos spos : Pos} (hM : i ∉ M) (hi : X.N[i]? = some y) (hk : X.env.scope.kind = .function) (hy : X.env.scope.names.lookup y = some .local)
    (hl : (py.line == pos.line) = true) (ha : (scope.names.any fun (n, k) => n == y && (k == .local || k == .cell)) = false) (C : CompOk K cl Δ W X ow names t it elt tg iter ex scope) : PS X (.Assign [.Name y py] (.ListComp ex [⟨tg, iter, [], 0⟩] scope pos) spos) (tS K cl Δ W M (.set i (.comp ow t it elt))) :=
  (ps_setLc C.hc C.hN hi hy (sw_true hk hy hl ha) C.hi C.ok C.hg (fun _ _ _ _ _ => pts_nil) C.he C.hs).imp fun D σ H h => by
    rw [C.how]; exact lc_imp C.hnm C.htl σ H _ (set_imp hM D σ H h)
theorem s_setCI {i : Nat} {ow : List Nat} {names : List (Str × Nat)} {t : T} {it : I} {c elt : E} {tg iter cx ex : Expr} {scope : Scope} {y : Str} {py pos spos : Pos} (hM : i ∉ M) (hi : X.N[i]? = some y) (hk : X.env.scope.kind = .function) (hy : X.env.scope.names.lookup y = some .local)
    (hl : (py.line == pos.line) = true) (ha : (scope.names.any fun (n, k) => n == y && (k == .local || k == .cell)) = false) (C : CompOk K cl Δ W X ow names t it elt tg iter ex scope)
    (ht : ∀ (s : Shared) (H : Hp) (C : Addr) (l : List (Str × Addr)) (fp : List Addr), PT (X.blk s H scope (compEnvC scope l C X.env) fp) cx (tT K cl Δ W0 c)) : PS X (.Assign [.Name y py] (.ListComp ex [⟨tg, iter, [cx], 0⟩] scope pos) spos) (tS K cl Δ W M (.set i (.compI ow t it c elt))) :=
  (ps_setLc C.hc C.hN hi hy (sw_true hk hy hl ha) C.hi C.ok C.hg (fun s H C l fp => pts_one (ht s H C l fp)) C.he C.hs).imp fun D σ H h => by
    rw [C.how]; exact lcI_imp C.hnm C.htl σ H _ (set_imp hM D σ H h)
def isName : Expr → Bool
  | .Name .. => true
  | _ => false
/-- stores that are not exchanged -/
def swOk (tg z : Expr) : Bool := !isTupX z || (match tg with
  | .Tuple ts _ _ => ts.any fun t => !isName t
  | .List _ _ => false
  | _ => true)
theorem fm_lt {f : Expr → Option Str} (hf : ∀ t, isName t = false → f t = none) : ∀ ts : List Expr, (ts.any fun t => !isName t) = true → (ts.filterMap f).length < ts.length
  | [], h => nomatch h
  | t :: ts, h => by
    have le := List.length_filterMap_le f ts
    cases q : isName t with
    | false => rw [List.filterMap_cons_none (hf t q), List.length_cons]; omega
    | true =>
      have h2 : (ts.any fun t => !isName t) = true := by simpa [q] using h
      have := fm_lt hf ts h2
      rw [List.filterMap_cons]
      split <;> simp only [List.length_cons] <;> omega
theorem ss_ok {tg e : Expr} {env : Env} (h : swOk tg e = true) : swappedStores [tg] e env = pure none := by
  cases q : isTupX e with
  | false => exact ss_no q
  | true =>
    cases e with
    | Tuple vs a b =>
      unfold swOk at h
      rw [q] at h
      cases tg with
      | Tuple ts c d =>
        have h : (ts.any fun t => !isName t) = true := h
        unfold swappedStores
        dsimp only
        split
        · rfl
        · split
          · rfl
          · rw [if_pos]
            have := fm_lt (f := fun
                | .Name id pos => if env.kindOf id == some .local && pos.line == (ts.head?.map (·.pos.line)).getD 0 then some id else none
                | _ => none) (fun t ht => by cases t <;> first | rfl | cases ht) ts h
            simp only [Bool.or_eq_true, bne_iff_ne, ne_eq]
            left
            exact Nat.ne_of_lt this
      | List _ _ => cases h
      | _ => rfl
    | _ => cases q
theorem s_asg {t : T} {e : E} {tg y : Expr} {pos : Pos} (hM : ∀ i, i ∈ tsl t → i ∉ M) (hg : PG X tg (tG K cl Δ t)) (hy : PE X y (tE K cl Δ W e)) (hn : nost tg = true) (hc : isComp y = false) (ht : swOk tg y = true) : PS X (.Assign [tg] y pos) (tS K cl Δ W M (.asg t e)) :=
  (ps_asg hy hg (sw_no hc) (ss_ok ht) (by cases tg <;> first | rfl | cases hn)).imp fun D σ H ⟨env, fe, se, g, h⟩ => ⟨env, fe, se, g, outP h fun d e1 v H' f s fe' se' e2 F h2 => by
    have h3 : PostQ K cl W M (match own e d with
      | some d => Out.of (asgT Δ t d e1)
      | none => .bad) σ H fe se D := h2
    split at h3
    · rename_i d' ho
      obtain ⟨hd, F2⟩ := F.kept ho
      subst hd
      refine ⟨e1, fe', se', _, f, s, F2.ge, F2.rv, F2.ext rfl, ?_⟩
      cases ea : asgT Δ t d' e1 with
      | none => rw [ea] at h3; exact h3.elim
      | some e3 =>
        rw [ea] at h3
        exact fun σ' H'' fe'' se'' g2 st2 hσ _ => h3 σ' H'' fe'' se'' g2 (Sp0.into g F2 st2) fun i hi => hσ i fun z => hM i z hi
    · exact h3.elim⟩
theorem s_par {i j : Nat} {a b : E} {x y : Str} {ea eb : Expr} {px py pt pos : Pos} {kt k2 : Nat} {pt2 : Pos} (hMi : i ∉ M) (hMj : j ∉ M) (hc : X.calm = true) (hN : X.N.Nodup) (hi : X.N[i]? = some x) (hj : X.N[j]? = some y)
    (hx : X.env.scope.names.lookup x = some .local) (hy : X.env.scope.names.lookup y = some .local) (hij : i ≠ j) (ha : PA X [ea, eb] (tEs K cl Δ W (.cons a (.cons b .nil))))
    (hw : swappedStores [.Tuple [.Name x px, .Name y py] kt pt] (.Tuple [ea, eb] k2 pt2) X.env = pure (some [x, y])) : PS X (.Assign [.Tuple [.Name x px, .Name y py] kt pt] (.Tuple [ea, eb] k2 pt2) pos) (tS K cl Δ W M (.par i j a b)) :=
  (ps_par hc hN hi hj hij hx hy ha hw rfl).imp fun D σ H ⟨env, fe, se, g, h⟩ => by
    have h : PostQ K cl W M (match evs Δ (.cons a (.cons b .nil)) env with
      | .ok [x, y] e2 => if i < e2.length ∧ j < e2.length ∧ i ≠ j then .next ((e2.set i x).set j y) else .bad
      | .err x e => .err x e
      | _ => .bad) σ H fe se D := h
    refine ⟨env, fe, se, g, ?_⟩
    cases e1 : evs Δ (.cons a (.cons b .nil)) env with
    | ok ds e2 =>
      rw [e1] at h
      intro vs H' f s fe' se' F
      cases ds with
      | nil => exact h.elim
      | cons d1 ds =>
        cases ds with
        | nil => exact h.elim
        | cons d2 ds =>
          cases ds with
          | cons _ _ => exact h.elim
          | nil =>
            have h : PostQ K cl W M (if i < e2.length ∧ j < e2.length ∧ i ≠ j then .next ((e2.set i d1).set j d2) else .bad) σ H fe se D := h
            split at h
            · rename_i hij2
              cases F.rv with
              | @cons _ _ v1 _ f1 f' s1 s' r1 w =>
                cases w with
                | @cons _ _ v2 _ f2 f'' s2 s'' r2 w =>
                  cases w
                  have ex := F.ext
                  rw [List.append_nil, List.append_nil] at ex
                  obtain ⟨n1, n2, n3⟩ := List.nodup_append.mp ex.nd
                  have x1 : Ext fe' se' f1 s1 := ⟨n1, fun a z1 z2 => ex.fs a (List.mem_append_left _ z1) (List.mem_append_left _ z2), fun a i z => ex.fx a i (List.mem_append_left _ z), fun a i z => ex.sx a i (List.mem_append_left _ z)⟩
                  have g2 := F.ge.store r1 x1 hij2.1
                  have x2 : Ext (fun k => if k = i then f1 else fe' k) (fun k => if k = i then s1 else se' k) f2 s2 := by
                    refine ⟨n2, fun a z1 z2 => ex.fs a (List.mem_append_right _ z1) (List.mem_append_right _ z2), fun a k z => ⟨?_, ?_⟩, fun a k z => ?_⟩
                    · by_cases q : k = i
                      · simp only [if_pos q]; exact fun y => n3 a y a z rfl
                      · simp only [if_neg q]; exact (ex.fx a k (List.mem_append_right _ z)).1
                    · by_cases q : k = i
                      · simp only [if_pos q]; exact fun y => ex.fs a (List.mem_append_right _ z) (List.mem_append_left _ y)
                      · simp only [if_neg q]; exact (ex.fx a k (List.mem_append_right _ z)).2
                    · by_cases q : k = i
                      · simp only [if_pos q]; exact fun y => ex.fs a (List.mem_append_left _ y) (List.mem_append_right _ z)
                      · simp only [if_neg q]; exact ex.sx a k (List.mem_append_right _ z)
                  have g3 := g2.store r2 x2 (by rw [List.length_set]; exact hij2.2.1)
                  refine ⟨v1, v2, rfl, h _ H' _ _ g3 ⟨F.st.keep, fun k a ha => ?_, fun k a ha => ?_⟩ fun k hk => ?_⟩
                  · by_cases q : k = j
                    · simp only [if_pos q] at ha; exact F.vo a (by simp [ha])
                    · simp only [if_neg q] at ha
                      by_cases q2 : k = i
                      · simp only [if_pos q2] at ha; exact F.vo a (by simp [ha])
                      · simp only [if_neg q2] at ha; exact F.st.eo k a ha
                  · by_cases q : k = j
                    · simp only [if_pos q] at ha; exact F.vs a (by simp [ha])
                    · simp only [if_neg q] at ha
                      by_cases q2 : k = i
                      · simp only [if_pos q2] at ha; exact F.vs a (by simp [ha])
                      · simp only [if_neg q2] at ha; exact F.st.es k a ha
                  · rw [List.getElem?_set_ne (fun (z : j = k) => hMj (z ▸ hk)), List.getElem?_set_ne (fun (z : i = k) => hMi (z ▸ hk))]
            · exact h.elim
    | err x e =>
      rw [e1] at h
      exact fun cls dd H' fe' se' a b c => h σ cls dd H' fe' se' a b c fun _ _ => rfl
    | bad => rw [e1] at h; exact h.elim
end
end Vi

set_option Elab.async false
set_option linter.all false
set_option maxRecDepth 100000
set_option maxHeartbeats 2000000
/-! Vi24: augmented stores. -/
namespace L2
open PySem PySem.Spec PyProof.Rows
theorem pget_list {X : Cx} : PGet X (rIxL X.K) := by
  intro pins s σ H x y v u Q I rx ry h
  obtain ⟨p, xs, i, z, rfl, rfl, hq, he, q⟩ := h
  cases rx
  obtain ⟨t, rfl⟩ := ry
  obtain ⟨its, r, pl, hz⟩ := I.list hq
  obtain ⟨j, h1, h2, h3, h4, h5⟩ := atI_get he
  obtain ⟨w, ew, rw'⟩ := r.get h2
  have hl := r.length
  have hn := line63
  have fin : EP X pins σ Q w s := ⟨z, H, I, rw', q⟩
  by_cases h0 : 0 ≤ i
  · have hj : i.toNat = j := by
      rw [seqIndex_of h0 h5] at h1
      exact Option.some.inj h1
    exact wpAny_getItem_list pl.isList h0 (by omega) (by rw [hj]; simpa using ew) fin
  · have hj : (i + (its.toArray.size : Int)).toNat = j := by
      rw [seqIndex_neg (by omega) h4] at h1
      rw [List.size_toArray, ← hl]
      exact Option.some.inj h1
    exact wpAny_getItem_list_neg pl.isList (by omega) (by rw [List.size_toArray] <;> omega) (by omega) (by rw [hj]; simpa using ew) fin
end L2
namespace Vi
open PySem PySem.Spec L2
def tIp (o : Bop) : TIp := fun x y H Q => ∃ i j k, x = .int i ∧ y = .int j ∧ iop o i j = some k ∧ Q (.int k) H
theorem ip_o {X : Cx} : ∀ o : Bop, PIp X (oper o) (tIp o)
  | .add => fun pins s σ H x y v u Q I rx ry ⟨i, j, k, e1, e2, e3, q⟩ => ip_add pins s σ H x y v u Q I rx ry ⟨i, j, e1, e2, by cases e3; exact q⟩
  | .sub => fun pins s σ H x y v u Q I rx ry ⟨i, j, k, e1, e2, e3, q⟩ => ip_sub pins s σ H x y v u Q I rx ry ⟨i, j, e1, e2, by cases e3; exact q⟩
  | .mul => fun pins s σ H x y v u Q I rx ry ⟨i, j, k, e1, e2, e3, q⟩ => nomatch e3
  | .div => fun pins s σ H x y v u Q I rx ry ⟨i, j, k, e1, e2, e3, q⟩ => nomatch e3
  | .mod => fun pins s σ H x y v u Q I rx ry ⟨i, j, k, e1, e2, e3, q⟩ => nomatch e3
  | .shl => fun pins s σ H x y v u Q I rx ry ⟨i, j, k, e1, e2, e3, q⟩ => nomatch e3
  | .shr => fun pins s σ H x y v u Q I rx ry ⟨i, j, k, e1, e2, e3, q⟩ => nomatch e3
  | .band => fun pins s σ H x y v u Q I rx ry ⟨i, j, k, e1, e2, e3, q⟩ => nomatch e3
section
variable {K : PySem.W.Frag} {cl : Nat → Addr} {W : WX} {Δ : Dl} {X : Cx} {H H0 H1 H2 H3 : Hp} {env env0 env1 env2 env3 : List D} {σ σ1 σ2 σ3 : St} {fe se fe0 se0 fe1 se1 fe2 se2 : Nat → List Addr} {M : List Nat} {D : Ends}
theorem s_aug {i : Nat} {o : Bop} {e : E} {x : Str} {y : Expr} {pos' pos : Pos} (hM : i ∉ M) (hN : X.N.Nodup) (hi : X.N[i]? = some x) (hx : Loc X.env.scope x) (hf : X.fn x = true ∨ X.env.scope.names.lookup x = some .local) (hy : PE X y (tE K cl Δ W e)) : PS X (.AugAssign (.Name x pos') (oper o) y pos) (tS K cl Δ W M (.aug i o e)) :=
  (ps_aug hN hi hx hy (ip_o o) hf).imp fun D σ H ⟨env, fe, se, g, h⟩ => by
    have h : PostQ K cl W M (match (look env i).bind toI with
      | some x => (ev Δ e env).out fun y e1 => (match (toI y).bind fun y => iop o x y with
        | some z => if i < e1.length then .next (e1.set i (.int z)) else .bad
        | none => .bad)
      | none => .bad) σ H fe se D := h
    split at h
    · rename_i n en
      obtain ⟨d, e1, e2⟩ := Option.bind_eq_some_iff.mp en
      have e2 := toI_some e2
      subst e2
      obtain ⟨v, e3, r⟩ := g.var e1
      rw [r.int_inv] at e3
      refine ⟨.int n, e3, env, fe, se, g, outP h fun d2 e4 v2 H' f s fe' se' e5 F h2 => ?_⟩
      have h3 : PostQ K cl W M (match (toI d2).bind fun y => iop o n y with
        | some z => if i < e4.length then .next (e4.set i (.int z)) else .bad
        | none => .bad) σ H fe se D := h2
      split at h3
      · rename_i z ez
        obtain ⟨m, e6, e7⟩ := Option.bind_eq_some_iff.mp ez
        have e6 := toI_some e6
        split at h3
        · rename_i hi
          refine ⟨n, m, z, rfl, by rw [e6] at F; exact F.rv.int_inv, e7, ?_⟩
          have g2 := F.ge.store (i := i) (d := .int z) (v := .int z) (f := []) (s := []) (.int z) none_ext hi
          refine h3 _ H' _ _ g2 ⟨F.st.keep, fun j a ha => ?_, fun j a ha => ?_⟩ fun j hj => List.getElem?_set_ne (fun (z : i = j) => hM (z ▸ hj))
          · by_cases q : j = i
            · simp only [if_pos q] at ha; cases ha
            · simp only [if_neg q] at ha; exact F.st.eo j a ha
          · by_cases q : j = i
            · simp only [if_pos q] at ha; cases ha
            · simp only [if_neg q] at ha; exact F.st.es j a ha
        · exact h3.elim
      · exact h3.elim
    · exact h.elim
theorem s_augI {p i e : E} {o : Bop} {ox ix y : Expr} {tpos pos : Pos} (hK : X.K = K) (hp : PE X ox (tP K cl Δ p)) (hi : PE X ix (tE K cl Δ W i)) (he : PE X y (tE K cl Δ W e))
    (ha : ∀ ov iv new, augStore ix ov iv new = (do holding [new, ov, iv] (setItem ov iv new); release [new, ov, iv] []; pure .next)) : PS X (.AugAssign (.Subscript ox ix tpos) (oper o) y pos) (tS K cl Δ W M (.augI p i o e)) :=
  (ps_augS hp hi pget_list he (ip_o o) set_list ha).imp fun D σ H ⟨env, fe, se, g, h⟩ => by
    have h : PostQ K cl W M (if ef i || ef e then .bad else (match pth Δ p env with
      | some (r, l) => (match look env r with
        | some t => (match (getL t l).bind lst1 with
          | some xs => (match ev Δ i env with
            | .ok j _ => (match (toI j).bind (ixN xs.length) with
              | some n => (match xs[n]? with
                | some x => (ev Δ e env).out fun y _ => (match (toI x).bind fun x => (toI y).bind fun y => iop o x y with
                  | some z => .next (env.set r (setL (.nd (.lst true) (xs.set n (.int z))) t l))
                  | none => .bad)
                | none => .bad)
              | none => .bad)
            | _ => .bad)
          | none => .bad)
        | none => .bad)
      | none => .bad)) σ H fe se D := h
    split at h
    · exact h.elim
    · rename_i hef
      have hef : ef i = false ∧ ef e = false := by simpa using hef
      split at h
      · rename_i r l e1
        split at h
        · rename_i t e2
          split at h
          · rename_i xs e3
            have e3 := lst1_at e3
            split at h
            · rename_i j env2 e4
              split at h
              · rename_i n e5
                obtain ⟨ji, e6, e7⟩ := Option.bind_eq_some_iff.mp e5
                have := toI_some e6
                subst this
                split at h
                · rename_i x0 ex
                  refine ⟨env, fe, se, g, ?_⟩
                  rw [e1]
                  refine ⟨t, _, e2, e3, fun v0 v1 H1 f1 s1 g1 gr ev0 F => ?_⟩
                  refine ⟨env, fe, se, g1, ?_⟩
                  rw [e4]
                  intro v2 H2 f2 s2 fe2 se2 F2
                  obtain ⟨rfl, rfl, rfl, gr2⟩ := F2.pure hef.1
                  have F3 := F.grow gr2
                  have gr3 := gr.trans gr2
                  obtain ⟨b, vs, fx, rfl, rfl, eb, w⟩ := F3.rv.own1
                  obtain ⟨vx, fd, sd, q1, rx, _, _, _⟩ := R.child w ex
                  refine ⟨b, vs, ji, vx, rfl, F2.rv.int_inv, .inl (.inl eb), by unfold atI; rw [← w.length, e7]; exact q1, ?_⟩
                  refine ⟨env2, fe2, se2, F2.ge, ?_⟩
                  have st2 : Sp0 H fe2 se2 H2 fe2 se2 := Sp0.refl.grow gr3
                  have h2 := h.behind (σ1 := σ) g st2 fun _ _ => rfl
                  refine outP h2 fun d3 e8 v3 H3 f3 s3 fe3 se3 e9 F4 h5 => ?_
                  obtain ⟨p1, p2, p3, gr4⟩ := F4.pure hef.2
                  subst p1 p2 p3
                  have h6 : PostQ K cl W M (match (toI x0).bind fun x => (toI d3).bind fun y => iop o x y with
                    | some z => .next (e8.set r (setL (.nd (.lst true) (xs.set n (.int z))) t l))
                    | none => .bad) σ H2 fe3 se3 D := h5
                  split at h6
                  · rename_i z ez
                    obtain ⟨m1, k1, k2⟩ := Option.bind_eq_some_iff.mp ez
                    obtain ⟨m2, k3, k4⟩ := Option.bind_eq_some_iff.mp k2
                    have k1 := toI_some k1
                    have k3 := toI_some k3
                    subst k1 k3
                    refine ⟨m1, m2, z, rx.int_inv, F4.rv.int_inv, k4, ?_⟩
                    have hn : n < xs.length := ixN_lt e7
                    have F5 := F3.grow gr4
                    have eb3 := gr4 _ _ eb
                    have w3 := w.grow gr4
                    obtain ⟨fa, fo, fb, sa, so, sb, q2, q3, w4⟩ := w3.put (d := .int z) (v := .int z) (fd := []) (sd := []) hn (.int z)
                    have ndx : (b :: fx).Nodup := F5.sub.2.2 (F4.ge.nd r)
                    have nx := (List.nodup_cons.mp ndx).2
                    rw [q2] at nx
                    obtain ⟨m3, m4, m5⟩ := List.nodup_append.mp nx
                    obtain ⟨m6, m7, m8⟩ := List.nodup_append.mp m3
                    have inx : ∀ c, c ∈ fa ++ [] ++ fb → c ∈ fx := fun c y => by
                      rw [q2]; rw [List.append_nil] at y
                      rcases List.mem_append.mp y with y | y <;> simp [y]
                    have ins : ∀ c, c ∈ sa ++ [] ++ sb → c ∈ s1 := fun c y => by
                      rw [q3]; rw [List.append_nil] at y
                      rcases List.mem_append.mp y with y | y <;> simp [y]
                    obtain ⟨_, _, _, _, fe5, se5, g5, c1, c2, c3⟩ := F4.ge.wr e2 ev0 F5 eb3 w4 (by
                      rw [List.append_nil]
                      exact List.nodup_append.mpr ⟨m6, m4, fun c h1 c2 h2 e => m5 c (List.mem_append_left _ h1) c2 h2 e⟩) (fun c h1 h2 => F4.ge.ds r r c (F5.sub.1 c (List.mem_cons_of_mem _ (inx c h1))) (F5.sub.2.1 c (ins c h2))) (fun c hc => .inl (inx c hc)) (fun c hc => .inl (ins c hc))
                    refine ⟨b, vs, ji, n, rfl, F2.rv.int_inv, eb3, by rw [← w.length]; exact e7, ?_⟩
                    refine h6 σ _ fe5 se5 g5 ⟨fun a o2 q hq => ?_, fun k a ha => ?_, fun k a ha => ?_⟩ fun _ _ => rfl
                    · have q4 := gr4 a o2 q
                      have hne : a ≠ b := fun y => by
                        subst y
                        rcases hq with y | y
                        · exact y r (F5.sub.1 a List.mem_cons_self)
                        · rw [eb3] at q4; cases q4; exact y
                      rw [upd_ne hne]; exact q4
                    · rcases c1 k a ha with ⟨y, _⟩ | y
                      · exact .inl ⟨k, y⟩
                      · rcases List.mem_cons.mp y with rfl | y
                        · exact .inl ⟨r, F5.sub.1 a List.mem_cons_self⟩
                        · exact .inl ⟨r, F5.sub.1 a (List.mem_cons_of_mem _ (inx a y))⟩
                    · rcases c2 k a ha with y | y
                      · exact .inl ⟨k, .inr y⟩
                      · exact .inl ⟨r, .inr (F5.sub.2.1 a (ins a y))⟩
                  · exact h6.elim
                · exact h.elim
              · exact h.elim
            · exact h.elim
          · exact h.elim
        · exact h.elim
      · exact h.elim
theorem s_if {c : E} {a b : Ss} {x : Expr} {sa sb : List Stmt} {pos : Pos} (hc : PT X x (tT K cl Δ W c)) (ha : PSs X sa (tSs K cl Δ W M a)) (hb : PSs X sb (tSs K cl Δ W M b)) : PS X (.If x sa sb pos) (tS K cl Δ W M (.iff c a b)) :=
  (ps_if hc ha hb).imp fun D σ H ⟨env, fe, se, g, h⟩ => by
    have h : PostQ K cl W M ((ev Δ c env).out fun d e => (match d with
      | .bl true => exss Δ a e
      | .bl false => exss Δ b e
      | _ => .bad)) σ H fe se D := h
    refine ⟨env, fe, se, g, ?_⟩
    cases e1 : ev Δ c env with
    | ok d e =>
      rw [e1] at h
      cases d with
      | bl k =>
        refine ⟨k, rfl, fun H' fe' se' g' st' _ => ?_⟩
        cases k with
        | true =>
          rw [if_pos rfl]
          exact ⟨e, fe', se', g', PostQ.behind g st' (fun _ _ => rfl) h⟩
        | false =>
          rw [if_neg Bool.false_ne_true]
          exact ⟨e, fe', se', g', PostQ.behind g st' (fun _ _ => rfl) h⟩
      | _ => exact h.elim
    | err x e =>
      rw [e1] at h
      exact fun cls dd H' fe' se' a b c => h σ cls dd H' fe' se' a b c fun _ _ => rfl
    | bad => rw [e1] at h; exact h.elim
theorem s_whl {c : E} {b : Ss} {x : Expr} {sb : List Stmt} {pos : Pos} (hp : PassesOwn (model X.prog X.w) X.A X.env X.xe) (hc : PT X x (tT K cl Δ W c)) (hb : PSs X sb (tSs K cl Δ W M b)) : PS X (.While x sb [] pos) (tS K cl Δ W M (.whl c b)) :=
  (ps_while hp hc hb).imp fun D σ H ⟨env, fe, se, g, h⟩ => by
    have hl : ∀ i x, x ∈ fe i → ∃ o, H x = some o := fun i x hx => g.live (.inl hx)
    refine ⟨fun n σ' H' => ∃ e fe' se', GE K cl H' e σ' fe' se' ∧ Sp0 H fe se H' fe' se' ∧ (∀ i, i ∈ M → σ'[i]? = σ[i]?) ∧ PostQ K cl W M (loopW (ev Δ c) (exss Δ b) n e) σ H fe se D, ⟨Δ.w, env, fe, se, g, Sp0.refl, fun _ _ => rfl, h⟩, ?_⟩
    rintro n σ1 H1 ⟨e, fe1, se1, g1, st1, ag1, h1⟩
    cases n with
    | zero => exact h1.elim
    | succ n =>
      have h1 : PostQ K cl W M (match ev Δ c e with
        | .ok (.bl true) e => (match exss Δ b e with
          | .next e => loopW (ev Δ c) (exss Δ b) n e
          | .cont e => loopW (ev Δ c) (exss Δ b) n e
          | .brk e => .next e
          | .ret x e => .ret x e
          | .err x e => .err x e
          | .bad => .bad)
        | .ok (.bl false) e => .next e
        | .err x e => .err x e
        | _ => .bad) σ H fe se D := h1
      refine ⟨e, fe1, se1, g1, ?_⟩
      cases e1 : ev Δ c e with
      | ok d e2 =>
        rw [e1] at h1
        cases d with
        | bl k =>
          refine ⟨k, rfl, fun H2 fe2 se2 g2 st2 _ => ?_⟩
          have st := st1.trans st2 hl
          cases k with
          | false =>
            dsimp only
            rw [if_neg Bool.false_ne_true]
            exact h1 σ1 H2 fe2 se2 g2 st ag1
          | true =>
            dsimp only
            rw [if_pos rfl]
            refine ⟨fun σ' H' => ∃ e fe' se', GE K cl H' e σ' fe' se' ∧ Sp0 H fe se H' fe' se' ∧ (∀ i, i ∈ M → σ'[i]? = σ[i]?) ∧ PostQ K cl W M (loopW (ev Δ c) (exss Δ b) n e) σ H fe se D, fun σ' H' q => ⟨n, Nat.lt_succ_self n, q⟩, e2, fe2, se2, g2, ?_⟩
            have h2 : PostQ K cl W M (match exss Δ b e2 with
              | .next e => loopW (ev Δ c) (exss Δ b) n e
              | .cont e => loopW (ev Δ c) (exss Δ b) n e
              | .brk e => .next e
              | .ret x e => .ret x e
              | .err x e => .err x e
              | .bad => .bad) σ H fe se D := h1
            cases e3 : exss Δ b e2 with
            | next e4 =>
              rw [e3] at h2
              exact fun σ' H' fe' se' a b c => ⟨e4, fe', se', a, st.trans b hl, fun i hi => (c i hi).trans (ag1 i hi), h2⟩
            | cont e4 =>
              rw [e3] at h2
              exact fun σ' H' fe' se' a b c => ⟨e4, fe', se', a, st.trans b hl, fun i hi => (c i hi).trans (ag1 i hi), h2⟩
            | brk e4 =>
              rw [e3] at h2
              exact fun σ' H' fe' se' a b c => h2 σ' H' fe' se' a (st.trans b hl) fun i hi => (c i hi).trans (ag1 i hi)
            | ret d e4 =>
              rw [e3] at h2
              exact PostQ.behind (o := .ret d e4) g st ag1 h2
            | err x e4 =>
              rw [e3] at h2
              exact PostQ.behind (o := .err x e4) g st ag1 h2
            | bad => rw [e3] at h2; exact h2.elim
        | _ => exact h1.elim
      | err x e2 =>
        rw [e1] at h1
        exact fun cls dd H' fe' se' a b c => h1 σ1 cls dd H' fe' se' a b (st1.trans c hl) ag1
      | bad => rw [e1] at h1; exact h1.elim
/-- what a for's turns keep -/
structure FI (K : PySem.W.Frag) (cl : Nat → Addr) (M src : List Nat) (f0 s0 : List Addr) (σ : St) (H0 : Hp) (fe0 se0 : Nat → List Addr) (env1 : List Vi.D) (H1 : Hp) (env : List Vi.D) (σ' : St) (H : Hp) (fe se : Nat → List Addr) : Prop where
  ge : GE K cl H env σ' fe se
  zt : Zt src env1 σ H1 f0 s0 H env σ'
  ex : Ext fe se f0 s0
  lv : ∀ b, b ∈ f0 ∨ b ∈ s0 → ∃ o, H1 b = some o
  st : Sp0 H0 fe0 se0 H fe se
  ag : ∀ i, i ∈ M → σ'[i]? = σ[i]?
theorem s_for {t : T} {it : I} {b : Ss} {tg iter : Expr} {sb : List Stmt} {pos : Pos} (hp : PassesOwn (model X.prog X.w) X.A X.env X.xe) (hc : X.calm = true) (hi : PI X tg iter (tI K cl Δ W it)) (hg : PG X tg (tG K cl Δ t)) (hb : PSs X sb (tSs K cl Δ W (M ++ srcs it) b))
    (hs : ∀ x, foldedSetIterable iter X.env x = pure x) (hM : ∀ i, i ∈ tsl t → i ∉ M ++ srcs it) : PS X (.For tg iter sb [] pos) (tS K cl Δ W M (.fo t it b)) :=
  (ps_for hp hc hi hg hb hs).imp fun D σ H ⟨env, fe, se, g, h⟩ => by
    have hl : ∀ i x, x ∈ fe i → ∃ o, H x = some o := fun i x hx => g.live (.inl hx)
    have h : PostQ K cl W M (match evi Δ it env with
      | .ok ds e1 => loopF (fun d env => (match asgT Δ t d env with
          | some e2 => exss Δ b e2
          | none => .bad)) (stay (srcs it) e1) ds e1
      | .err x e => .err x e
      | .bad => .bad) σ H fe se D := h
    refine ⟨env, fe, se, g, ?_⟩
    cases e1 : evi Δ it env with
    | err x e => rw [e1] at h; exact fun cls dd H' fe' se' a b c => h σ cls dd H' fe' se' a b c fun _ _ => rfl
    | bad => rw [e1] at h; exact h.elim
    | ok ds env1 =>
      rw [e1] at h
      have h : PostQ K cl W M (loopF (fun d env => (match asgT Δ t d env with
          | some e2 => exss Δ b e2
          | none => .bad)) (stay (srcs it) env1) ds env1) σ H fe se D := h
      intro J H1 fe1 se1 f0 s0 g1 st1 x0 lv og pu wk
      refine ⟨fun i m σ' H' => m = ds.length - i ∧ i ≤ ds.length ∧ ∃ e fe' se', FI K cl M (srcs it) f0 s0 σ H fe se env1 H1 e σ' H' fe' se' ∧ PostQ K cl W M (loopF (fun d env => (match asgT Δ t d env with
          | some e2 => exss Δ b e2
          | none => .bad)) (stay (srcs it) env1) (ds.drop i) e) σ H fe se D, ⟨ds.length, rfl, Nat.zero_le _, env1, fe1, se1, ⟨g1, ⟨fun _ _ => ⟨rfl, rfl⟩, fun _ _ e _ => e⟩, x0, lv, st1, fun _ _ => rfl⟩, h⟩, ?_⟩
      rintro i m σ1 H2 ⟨rfl, hil, e, fe2, se2, F, h1⟩
      by_cases hlt : i < ds.length
      · refine .inr ⟨wk.goes i H2 e σ1 fe2 se2 hlt F.ge F.zt, fun σ' H' => ∃ e fe' se', FI K cl M (srcs it) f0 s0 σ H fe se env1 H1 e σ' H' fe' se' ∧ PostQ K cl W M (loopF (fun d env => (match asgT Δ t d env with
          | some e2 => exss Δ b e2
          | none => .bad)) (stay (srcs it) env1) (ds.drop (i + 1)) e) σ H fe se D, fun σ' H' q => ⟨ds.length - (i + 1), by omega, rfl, hlt, q⟩, fun x H3 hy => ?_⟩
        obtain ⟨d, s, ed, gr, r, hss⟩ := wk.yields i H2 e σ1 fe2 se2 x H3 hlt F.ge F.zt hy
        have hdrop : ds.drop i = d :: ds.drop (i + 1) := by
          rw [List.drop_eq_getElem_cons hlt]
          have := (List.getElem?_eq_some_iff.mp ed).2
          rw [this]
        rw [hdrop] at h1
        have h2 : PostQ K cl W M (match (match asgT Δ t d e with
            | some e2 => exss Δ b e2
            | none => .bad) with
          | .next e => if stay (srcs it) env1 e then loopF (fun d env => (match asgT Δ t d env with
            | some e2 => exss Δ b e2
            | none => .bad)) (stay (srcs it) env1) (ds.drop (i + 1)) e else .bad
          | .cont e => if stay (srcs it) env1 e then loopF (fun d env => (match asgT Δ t d env with
            | some e2 => exss Δ b e2
            | none => .bad)) (stay (srcs it) env1) (ds.drop (i + 1)) e else .bad
          | .brk e => .next e
          | .ret x e => .ret x e
          | .err x e => .err x e
          | .bad => .bad) σ H fe se D := h1
        have sx : ∀ a j, a ∈ s → a ∉ fe2 j := fun a j ha z => by
          rcases hss a ha with y | ⟨k, y⟩
          · exact F.ex.sx a j y z
          · exact F.ge.ds j k a z y
        refine ⟨e, fe2, se2, d, [], s, F.ge.grow gr, r, ⟨List.nodup_nil, fun _ z => (nomatch z), fun _ _ z => (nomatch z), sx⟩, ?_⟩
        cases ea : asgT Δ t d e with
        | none => rw [ea] at h2; exact h2.elim
        | some e3 =>
          rw [ea] at h2
          intro σ2 H4 fe4 se4 g4 st4 hσ4 _
          refine ⟨e3, fe4, se4, g4, ?_⟩
          have st0 : Sp0 H fe se H3 fe2 se2 := F.st.grow gr
          have hl2 : ∀ a, (a ∈ f0 ∨ a ∈ s0) → ∃ o, H3 a = some o := fun a z => by
            obtain ⟨o, e⟩ := lv a z
            exact ⟨o, gr _ _ (F.zt.2 a o e (z.imp id .inl))⟩
          have ex4 : Ext fe4 se4 f0 s0 := F.ex.step1 hl2 st4 fun a h1 h2 => by
            rcases hss a h2 with z | ⟨j, z⟩
            · exact F.ex.fs a h1 z
            · exact (F.ex.fx a j h1).2 z
          have st4' : Sp0 H fe se H4 fe4 se4 := by
            refine ⟨fun a o q hq => ?_, fun k a ha => ?_, fun k a ha => ?_⟩
            · refine st4.keep a o (st0.keep a o q hq) (hq.imp (fun n => ⟨fun j z => ?_, fun z => nomatch z⟩) id)
              rcases st0.eo j a z with ⟨k, y⟩ | y
              · exact n k y
              · rw [q] at y; cases y
            · rcases st4.eo k a ha with ⟨j, z⟩ | z | z
              · exact st0.eo j a z
              · cases z
              · exact st0.fresh z
            · rcases st4.es k a ha with ⟨j, z | z⟩ | (z | z) | z
              · exact (st0.eo j a z).imp (fun ⟨k, q⟩ => ⟨k, .inl q⟩) id
              · exact st0.es j a z
              · cases z
              · rcases hss a z with y | ⟨j, y⟩
                · exact og a y
                · exact st0.es j a y
              · exact (st0.fresh z).imp (fun ⟨k, q⟩ => ⟨k, .inl q⟩) id
          have ag4 : ∀ k, k ∈ M ++ srcs it → σ2[k]? = σ[k]? := fun k hk => by
            rw [hσ4 k fun z => hM k z hk]
            rcases List.mem_append.mp hk with z | z
            · exact F.ag k z
            · exact (F.zt.1 k z).2
          have kp4 : ∀ a o, H1 a = some o → a ∈ f0 ∨ a ∈ s0 ∨ immo o → H4 a = some o := fun a o q hq => by
            refine st4.keep a o (gr _ _ (F.zt.2 a o q hq)) ?_
            rcases hq with hq | hq | hq
            · exact .inl ⟨fun j => (F.ex.fx a j hq).1, fun z => nomatch z⟩
            · exact .inl ⟨fun j => F.ex.sx a j hq, fun z => nomatch z⟩
            · exact .inr hq
          have lv4 : ∀ a, a ∈ f0 ∨ a ∈ s0 → ∃ o, H4 a = some o := fun a z => by
            obtain ⟨o, e⟩ := lv a z
            exact ⟨o, kp4 a o e (z.imp id .inl)⟩
          have again : ∀ {e5 : List Vi.D}, PostQ K cl W M (if stay (srcs it) env1 e5 then loopF (fun d env => (match asgT Δ t d env with
            | some e2 => exss Δ b e2
            | none => .bad)) (stay (srcs it) env1) (ds.drop (i + 1)) e5 else .bad) σ H fe se D → ∀ σ' H' fe' se', GE K cl H' e5 σ' fe' se' → Sp0 H4 fe4 se4 H' fe' se' → (∀ k, k ∈ M ++ srcs it → σ'[k]? = σ2[k]?) → ∃ e fe' se', FI K cl M (srcs it) f0 s0 σ H fe se env1 H1 e σ' H' fe' se' ∧ PostQ K cl W M (loopF (fun d env => (match asgT Δ t d env with
            | some e2 => exss Δ b e2
            | none => .bad)) (stay (srcs it) env1) (ds.drop (i + 1)) e) σ H fe se D := fun h5 σ' H' fe' se' g5 st5 ag5 => by
            split at h5
            · rename_i hck
              refine ⟨_, fe', se', ⟨g5, ⟨fun k hk => ⟨stay_ok hck k hk, ?_⟩, fun a o q hq => st5.keep a o (kp4 a o q hq) ?_⟩, ex4.step0 lv4 st5, lv, st4'.trans st5 hl, fun k hk => ?_⟩, h5⟩
              · rw [ag5 k (List.mem_append_right _ hk), ag4 k (List.mem_append_right _ hk)]
              · rcases hq with hq | hq | hq
                · exact .inl fun j => (ex4.fx a j hq).1
                · exact .inl fun j => ex4.sx a j hq
                · exact .inr hq
              · rw [ag5 k (List.mem_append_left _ hk), ag4 k (List.mem_append_left _ hk)]
            · exact h5.elim
          cases e3' : exss Δ b e3 with
          | next e5 =>
            have h3 : PostQ K cl W M (match exss Δ b e3 with
              | .next e => if stay (srcs it) env1 e then loopF (fun d env => (match asgT Δ t d env with
                | some e2 => exss Δ b e2
                | none => .bad)) (stay (srcs it) env1) (ds.drop (i + 1)) e else .bad
              | .cont e => if stay (srcs it) env1 e then loopF (fun d env => (match asgT Δ t d env with
                | some e2 => exss Δ b e2
                | none => .bad)) (stay (srcs it) env1) (ds.drop (i + 1)) e else .bad
              | .brk e => .next e
              | .ret x e => .ret x e
              | .err x e => .err x e
              | .bad => .bad) σ H fe se D := h2
            rw [e3'] at h3
            exact again h3
          | cont e5 =>
            have h3 : PostQ K cl W M (match exss Δ b e3 with
              | .next e => if stay (srcs it) env1 e then loopF (fun d env => (match asgT Δ t d env with
                | some e2 => exss Δ b e2
                | none => .bad)) (stay (srcs it) env1) (ds.drop (i + 1)) e else .bad
              | .cont e => if stay (srcs it) env1 e then loopF (fun d env => (match asgT Δ t d env with
                | some e2 => exss Δ b e2
                | none => .bad)) (stay (srcs it) env1) (ds.drop (i + 1)) e else .bad
              | .brk e => .next e
              | .ret x e => .ret x e
              | .err x e => .err x e
              | .bad => .bad) σ H fe se D := h2
            rw [e3'] at h3
            exact again h3
          | brk e5 =>
            have h3 : PostQ K cl W M (match exss Δ b e3 with
              | .next e => if stay (srcs it) env1 e then loopF (fun d env => (match asgT Δ t d env with
                | some e2 => exss Δ b e2
                | none => .bad)) (stay (srcs it) env1) (ds.drop (i + 1)) e else .bad
              | .cont e => if stay (srcs it) env1 e then loopF (fun d env => (match asgT Δ t d env with
                | some e2 => exss Δ b e2
                | none => .bad)) (stay (srcs it) env1) (ds.drop (i + 1)) e else .bad
              | .brk e => .next e
              | .ret x e => .ret x e
              | .err x e => .err x e
              | .bad => .bad) σ H fe se D := h2
            rw [e3'] at h3
            exact fun σ' H' fe' se' a b c => h3 σ' H' fe' se' a (st4'.trans b hl) fun k hk => (c k (List.mem_append_left _ hk)).trans (ag4 k (List.mem_append_left _ hk))
          | ret d5 e5 =>
            have h3 : PostQ K cl W M (match exss Δ b e3 with
              | .next e => if stay (srcs it) env1 e then loopF (fun d env => (match asgT Δ t d env with
                | some e2 => exss Δ b e2
                | none => .bad)) (stay (srcs it) env1) (ds.drop (i + 1)) e else .bad
              | .cont e => if stay (srcs it) env1 e then loopF (fun d env => (match asgT Δ t d env with
                | some e2 => exss Δ b e2
                | none => .bad)) (stay (srcs it) env1) (ds.drop (i + 1)) e else .bad
              | .brk e => .next e
              | .ret x e => .ret x e
              | .err x e => .err x e
              | .bad => .bad) σ H fe se D := h2
            rw [e3'] at h3
            have h4 := PostQ.behind (o := .ret d5 e5) (σ1 := σ2) g st4' (fun k hk => ag4 k (List.mem_append_left _ hk)) h3
            exact fun σ' v H' f s fe' se' a b c => h4 σ' v H' f s fe' se' a b fun k hk => c k (List.mem_append_left _ hk)
          | err x5 e5 =>
            have h3 : PostQ K cl W M (match exss Δ b e3 with
              | .next e => if stay (srcs it) env1 e then loopF (fun d env => (match asgT Δ t d env with
                | some e2 => exss Δ b e2
                | none => .bad)) (stay (srcs it) env1) (ds.drop (i + 1)) e else .bad
              | .cont e => if stay (srcs it) env1 e then loopF (fun d env => (match asgT Δ t d env with
                | some e2 => exss Δ b e2
                | none => .bad)) (stay (srcs it) env1) (ds.drop (i + 1)) e else .bad
              | .brk e => .next e
              | .ret x e => .ret x e
              | .err x e => .err x e
              | .bad => .bad) σ H fe se D := h2
            rw [e3'] at h3
            have h4 := PostQ.behind (o := .err x5 e5) (σ1 := σ2) g st4' (fun k hk => ag4 k (List.mem_append_left _ hk)) h3
            exact fun σ' cls dd H' fe' se' xr a b c => h4 σ' cls dd H' fe' se' xr a b fun k hk => c k (List.mem_append_left _ hk)
          | bad =>
            have h3 : PostQ K cl W M (match exss Δ b e3 with
              | .next e => if stay (srcs it) env1 e then loopF (fun d env => (match asgT Δ t d env with
                | some e2 => exss Δ b e2
                | none => .bad)) (stay (srcs it) env1) (ds.drop (i + 1)) e else .bad
              | .cont e => if stay (srcs it) env1 e then loopF (fun d env => (match asgT Δ t d env with
                | some e2 => exss Δ b e2
                | none => .bad)) (stay (srcs it) env1) (ds.drop (i + 1)) e else .bad
              | .brk e => .next e
              | .ret x e => .ret x e
              | .err x e => .err x e
              | .bad => .bad) σ H fe se D := h2
            rw [e3'] at h3
            exact h3.elim
      · have e2 : i = ds.length := by omega
        subst e2
        refine .inl ⟨wk.stops H2 e σ1 fe2 se2 F.ge F.zt, ?_⟩
        rw [List.drop_length] at h1
        exact h1 σ1 H2 fe2 se2 F.ge F.st F.ag
end
end Vi

set_option Elab.async false
set_option linter.all false
set_option maxRecDepth 100000
set_option maxHeartbeats 2000000
/-! Vi24b: loops whose turns change the items. -/
namespace Vi
open PySem PySem.Spec L2
def preA (k : Kd) (a : Addr) : List Addr := match k with
  | .tup => []
  | _ => [a]
def itk (K : PySem.W.Frag) (k : Kd) (a : Addr) : It := match k with
  | .tup => Itt K a
  | _ => Itl K a
section
variable {K : PySem.W.Frag} {cl : Nat → Addr} {W : WX} {Δ : Dl} {X : Cx} {H H0 H1 H2 H3 H' : Hp} {env env0 env1 env2 env3 : List D} {σ σ1 σ2 σ3 : St} {fe se fe0 se0 fe1 se1 fe2 se2 fe3 se3 fe' se' : Nat → List Addr} {M : List Nat} {D : Ends}
theorem R.km {k : Kd} {xs : List Vi.D} {v : V} {F S : List Addr} (hk : kM k = true) (h : R K cl H (.nd k xs) v F S) : ∃ a vs f, v = .ref a ∧ Cell K cl H a k vs ∧ Rs K cl H xs vs f S ∧ F = preA k a ++ f := by
  cases k with
  | tup =>
    cases h with
    | tup h1 h2 => exact ⟨_, _, _, rfl, h1, h2, rfl⟩
    | own h0 _ _ => cases h0
    | frz h0 _ _ => cases h0
    | kst h0 _ _ => cases h0
  | lst o =>
    have hk : o = true := hk
    subst hk
    cases h with
    | own h0 h1 h2 => exact ⟨_, _, _, rfl, h1, h2, rfl⟩
    | frz h0 _ _ => cases h0
    | kst h0 _ _ => cases h0
  | dK _ _ => cases hk
  | dT _ _ => cases hk
  | obj _ _ _ => cases hk
theorem R.mk {k : Kd} {xs : List Vi.D} {a : Addr} {vs : List V} {f S : List Addr} (hk : kM k = true) (c : Cell K cl H a k vs) (r : Rs K cl H xs vs f S) : R K cl H (.nd k xs) (.ref a) (preA k a ++ f) S := by
  cases k with
  | tup => exact .tup c r
  | lst o =>
    have hk : o = true := hk
    subst hk
    exact .own rfl c r
  | dK _ _ => cases hk
  | dT _ _ => cases hk
  | obj _ _ _ => cases hk
theorem itk_go {k : Kd} {a : Addr} {vs : List V} {n : Nat} {v : V} (hk : kM k = true) (c : Cell K cl H a k vs) (hv : vs[n]? = some v) : (itk K k a).go n H := by
  cases k with
  | tup => exact ⟨vs, v, c, hv⟩
  | lst o =>
    have hk : o = true := hk
    subst hk
    exact ⟨vs, v, .inl (.inl c), hv⟩
  | dK _ _ => cases hk
  | dT _ _ => cases hk
  | obj _ _ _ => cases hk
theorem itk_stop {k : Kd} {a : Addr} {vs : List V} {n : Nat} (hk : kM k = true) (c : Cell K cl H a k vs) (hv : vs.length ≤ n) : (itk K k a).stop n H := by
  cases k with
  | tup => exact ⟨vs, c, hv⟩
  | lst o =>
    have hk : o = true := hk
    subst hk
    exact ⟨vs, .inl (.inl c), hv⟩
  | dK _ _ => cases hk
  | dT _ _ => cases hk
  | obj _ _ _ => cases hk
theorem itk_yld {k : Kd} {a : Addr} {vs : List V} {n : Nat} {x : V} (hk : kM k = true) (c : Cell K cl H a k vs) (h : (itk K k a).yld n H x H') : H' = H ∧ vs[n]? = some x := by
  cases k with
  | tup => exact ⟨h.1, h.2 vs c⟩
  | lst o =>
    have hk : o = true := hk
    subst hk
    exact ⟨h.1, h.2 vs (.inl (.inl c))⟩
  | dK _ _ => cases hk
  | dT _ _ => cases hk
  | obj _ _ _ => cases hk
structure FM (K : PySem.W.Frag) (cl : Nat → Addr) (M : List Nat) (σ : St) (H0 : Hp) (fe0 se0 : Nat → List Addr) (k : Kd) (a : Addr) (xs : List Vi.D) (env : List Vi.D) (σ' : St) (H : Hp) (fe se : Nat → List Addr) (F S : List Addr) : Prop where
  ge : GE K cl H env σ' fe se
  rv : R K cl H (.nd k xs) (.ref a) F S
  ex : Ext fe se F S
  st : Sp0 H0 fe0 se0 H fe se
  fo : ∀ b, b ∈ F → (∃ j, b ∈ fe0 j) ∨ H0 b = none
  so : ∀ b, b ∈ S → (∃ j, b ∈ fe0 j ∨ b ∈ se0 j) ∨ H0 b = none
  ag : ∀ i, i ∈ M → σ'[i]? = σ[i]?
/-- one turn: an item out into the variable x, changed there, put back -/
theorem FM.turn {k : Kd} {a : Addr} {xs : List Vi.D} {F S : List Addr} {n x : Nat} {d' : Vi.D} {vs : List V} {fa fd fb sa sd sb : List Addr} {v : V} {e5 : List Vi.D} {σ' : St} (hk : kM k = true) (hl : ∀ i b, b ∈ fe0 i → ∃ o, H0 b = some o)
    (F0 : FM K cl M σ H0 fe0 se0 k a xs env σ1 H2 fe2 se2 F S) (hx : x < env.length) (hxM : x ∉ M) (hn : n < xs.length) (hv : vs[n]? = some v) (c : Cell K cl H2 a k vs)
    (r1 : Rs K cl H2 (xs.take n) (vs.take n) fa sa) (r2 : Rs K cl H2 (xs.drop (n + 1)) (vs.drop (n + 1)) fb sb) (eF : F = preA k a ++ (fa ++ fd ++ fb)) (eS : S = sa ++ sd ++ sb)
    (g5 : GE K cl H' e5 σ' fe' se') (st5 : Sp0 H2 (fun j => if j = x then fd else fe2 j) (fun j => if j = x then sd else se2 j) H' fe' se') (ag5 : ∀ i, i ∈ x :: M → σ'[i]? = (σ1.set x (some v))[i]?) (hd' : look e5 x = some d') :
    ∃ fe6 se6 F6 S6, FM K cl M σ H0 fe0 se0 k a (xs.set n d') (e5.set x .hole) σ' H' fe6 se6 F6 S6 := by
  have hxσ : x < σ1.length := by rw [← F0.ge.len]; exact hx
  obtain ⟨v', ev, rd⟩ := g5.var hd'
  have hv' : v' = v := by
    have := ag5 x List.mem_cons_self
    rw [List.getElem?_set_self hxσ, ev] at this
    cases this; rfl
  subst hv'
  have hx5 : x < e5.length := by
    have := (look_some hd').1
    exact (List.getElem?_eq_some_iff.mp this).1
  have inF : ∀ b, (b ∈ preA k a ∨ b ∈ fa ∨ b ∈ fb) → b ∈ F := fun b h => by
    rw [eF]; rcases h with h | h | h <;> simp [h]
  have inS : ∀ b, (b ∈ sa ∨ b ∈ sb) → b ∈ S := fun b h => by
    rw [eS]; rcases h with h | h <;> simp [h]
  have fdF : ∀ b, b ∈ fd → b ∈ F := fun b h => by rw [eF]; simp [h]
  have sdS : ∀ b, b ∈ sd → b ∈ S := fun b h => by rw [eS]; simp [h]
  have nd0 := F0.ex.nd
  rw [eF] at nd0
  obtain ⟨n1, n2, n3⟩ := List.nodup_append.mp nd0
  obtain ⟨n4, n5, n6⟩ := List.nodup_append.mp n2
  obtain ⟨n7, n8, n9⟩ := List.nodup_append.mp n4
  have notd : ∀ b, (b ∈ preA k a ∨ b ∈ fa ∨ b ∈ fb) → b ∉ fd := fun b h hb => by
    rcases h with h | h | h
    · exact n3 b h b (by simp [hb]) rfl
    · exact n9 b h b hb rfl
    · exact n6 b (List.mem_append_right _ hb) b h rfl
  -- what stays out of the turn
  have out : ∀ b, (b ∈ preA k a ∨ b ∈ fa ∨ b ∈ fb) → ∀ j, b ∉ (fun j => if j = x then fd else fe2 j) j := fun b h j => by
    by_cases q : j = x
    · simp only [if_pos q]; exact notd b h
    · simp only [if_neg q]; exact (F0.ex.fx b j (inF b h)).1
  have outS : ∀ b, (b ∈ sa ∨ b ∈ sb) → ∀ j, b ∉ (fun j => if j = x then fd else fe2 j) j := fun b h j => by
    by_cases q : j = x
    · simp only [if_pos q]; exact fun z => F0.ex.fs b (fdF b z) (inS b h)
    · simp only [if_neg q]; exact F0.ex.sx b j (inS b h)
  have live : ∀ b, (b ∈ F ∨ b ∈ S) → ∃ o, H2 b = some o := fun b h => R.live _ F0.rv b h
  have back : ∀ j b, b ∈ fe' j → b ∈ F ∨ (∃ i, b ∈ fe2 i) ∨ H2 b = none := fun j b h => by
    rcases st5.eo j b h with ⟨i, z⟩ | z
    · by_cases q : i = x
      · simp only [if_pos q] at z; exact .inl (fdF b z)
      · simp only [if_neg q] at z; exact .inr (.inl ⟨i, z⟩)
    · exact .inr (.inr z)
  have backS : ∀ j b, b ∈ se' j → (b ∈ F ∨ b ∈ S) ∨ (∃ i, b ∈ fe2 i ∨ b ∈ se2 i) ∨ H2 b = none := fun j b h => by
    rcases st5.es j b h with ⟨i, z⟩ | z
    · by_cases q : i = x
      · simp only [if_pos q] at z; exact .inl (z.imp (fdF b) (sdS b))
      · simp only [if_neg q] at z; exact .inr (.inl ⟨i, z⟩)
    · exact .inr (.inr z)
  -- old pieces are in no variable behind the turn
  have old1 : ∀ b, (b ∈ preA k a ∨ b ∈ fa ∨ b ∈ fb) → ∀ j, b ∉ fe' j := fun b h j hb => by
    rcases st5.eo j b hb with ⟨i, z⟩ | z
    · exact out b h i z
    · obtain ⟨o, e⟩ := live b (.inl (inF b h))
      rw [e] at z; cases z
  have old2 : ∀ b, (b ∈ preA k a ∨ b ∈ fa ∨ b ∈ fb) → ∀ j, b ∉ se' j := fun b h j hb => by
    rcases st5.es j b hb with ⟨i, z⟩ | z
    · rcases z with z | z
      · exact out b h i z
      · by_cases q : i = x
        · simp only [if_pos q] at z; exact F0.ex.fs b (inF b h) (sdS b z)
        · simp only [if_neg q] at z; exact (F0.ex.fx b i (inF b h)).2 z
    · obtain ⟨o, e⟩ := live b (.inl (inF b h))
      rw [e] at z; cases z
  have old3 : ∀ b, (b ∈ sa ∨ b ∈ sb) → ∀ j, b ∉ fe' j := fun b h j hb => by
    rcases st5.eo j b hb with ⟨i, z⟩ | z
    · exact outS b h i z
    · obtain ⟨o, e⟩ := live b (.inr (inS b h))
      rw [e] at z; cases z
  have c' : Cell K cl H' a k vs := by
    cases k with
    | tup => exact SqT.keep c fun b o e i => st5.keep b o e (.inr i)
    | lst o =>
      have hk : o = true := hk
      subst hk
      exact st5.keep a _ c (.inl (out a (.inl (List.mem_singleton.mpr rfl))))
    | dK _ _ => cases hk
    | dT _ _ => cases hk
    | obj _ _ _ => cases hk
  have r1' : Rs K cl H' (xs.take n) (vs.take n) fa sa := Rs.keep _ r1 fun b o e h => st5.keep b o e (by
    rcases h with h | h | h
    · exact .inl (out b (.inr (.inl h)))
    · exact .inl (outS b (.inl h))
    · exact .inr h)
  have r2' : Rs K cl H' (xs.drop (n + 1)) (vs.drop (n + 1)) fb sb := Rs.keep _ r2 fun b o e h => st5.keep b o e (by
    rcases h with h | h | h
    · exact .inl (out b (.inr (.inr h)))
    · exact .inl (outS b (.inr h))
    · exact .inr h)
  have toF : ∀ b, b ∈ F → (∃ j, b ∈ fe0 j) ∨ H0 b = none := F0.fo
  have fe_back : ∀ j b, b ∈ fe' j → (∃ j, b ∈ fe0 j) ∨ H0 b = none := fun j b h => by
    rcases back j b h with z | ⟨i, z⟩ | z
    · exact toF b z
    · exact F0.st.eo i b z
    · exact F0.st.fresh z
  have se_back : ∀ j b, b ∈ se' j → (∃ j, b ∈ fe0 j ∨ b ∈ se0 j) ∨ H0 b = none := fun j b h => by
    rcases backS j b h with (z | z) | ⟨i, z | z⟩ | z
    · exact (toF b z).imp (fun ⟨k, q⟩ => ⟨k, .inl q⟩) id
    · exact F0.so b z
    · exact (F0.st.eo i b z).imp (fun ⟨k, q⟩ => ⟨k, .inl q⟩) id
    · exact F0.st.es i b z
    · exact (F0.st.fresh z).imp (fun ⟨k, q⟩ => ⟨k, .inl q⟩) id
  have g6 := g5.drop hx5 (σ'[x]?.getD none)
  have eσ : σ'.set x (σ'[x]?.getD none) = σ' := by
    refine List.ext_getElem? fun j => ?_
    by_cases hj : x = j
    · subst hj
      rw [List.getElem?_set_self (by rw [← g5.len]; exact hx5), ev]; rfl
    · rw [List.getElem?_set_ne hj]
  rw [eσ] at g6
  have sub1 : ∀ j b, b ∈ (fun j => if j = x then [] else fe' j) j → j ≠ x ∧ b ∈ fe' j := fun j b h => by
    by_cases q : j = x
    · simp only [if_pos q] at h; cases h
    · simp only [if_neg q] at h; exact ⟨q, h⟩
  have sub2 : ∀ j b, b ∈ (fun j => if j = x then [] else se' j) j → j ≠ x ∧ b ∈ se' j := fun j b h => by
    by_cases q : j = x
    · simp only [if_pos q] at h; cases h
    · simp only [if_neg q] at h; exact ⟨q, h⟩
  have mF : ∀ b, b ∈ preA k a ++ (fa ++ fe' x ++ fb) → (b ∈ preA k a ∨ b ∈ fa ∨ b ∈ fb) ∨ b ∈ fe' x := fun b h => by
    simp at h
    rcases h with h | h | h | h
    · exact .inl (.inl h)
    · exact .inl (.inr (.inl h))
    · exact .inr h
    · exact .inl (.inr (.inr h))
  have mS : ∀ b, b ∈ sa ++ se' x ++ sb → (b ∈ sa ∨ b ∈ sb) ∨ b ∈ se' x := fun b h => by
    simp at h
    rcases h with h | h | h
    · exact .inl (.inl h)
    · exact .inr h
    · exact .inl (.inr h)
  refine ⟨_, _, preA k a ++ (fa ++ fe' x ++ fb), sa ++ se' x ++ sb, g6, R.mk hk c' (Rs.join hn hv rd r1' r2'), ⟨?_, fun b h1 h2 => ?_, fun b i h => ⟨fun z => ?_, fun z => ?_⟩, fun b i h z => ?_⟩, ⟨fun b o e h => ?_, fun i b h => fe_back i b (sub1 i b h).2, fun i b h => se_back i b (sub2 i b h).2⟩, fun b h => ?_, fun b h => ?_, fun i hi => ?_⟩
  · refine List.nodup_append.mpr ⟨n1, List.nodup_append.mpr ⟨List.nodup_append.mpr ⟨n7, g5.nd x, fun b h1 b' h2 e => ?_⟩, n5, fun b h1 b' h2 e => ?_⟩, fun b h1 b' h2 e => ?_⟩
    · subst e; exact old1 b (.inr (.inl h1)) x h2
    · subst e
      rcases List.mem_append.mp h1 with z | z
      · exact n6 b (List.mem_append_left _ z) b h2 rfl
      · exact old1 b (.inr (.inr h2)) x z
    · subst e
      rcases List.mem_append.mp h2 with z | z
      · rcases List.mem_append.mp z with y | y
        · exact n3 b h1 b (by simp [y]) rfl
        · exact old1 b (.inl h1) x y
      · exact n3 b h1 b (by simp [z]) rfl
  · rcases mF b h1 with y | y
    · rcases mS b h2 with z | z
      · exact F0.ex.fs b (inF b y) (inS b z)
      · exact old2 b y x z
    · rcases mS b h2 with z | z
      · exact old3 b z x y
      · exact g5.ds x x b y z
  · obtain ⟨q, z⟩ := sub1 i b z
    rcases mF b h with y | y
    · exact old1 b y i z
    · exact g5.dj x i b (Ne.symm q) y z
  · obtain ⟨q, z⟩ := sub2 i b z
    rcases mF b h with y | y
    · exact old2 b y i z
    · exact g5.ds x i b y z
  · obtain ⟨q, z⟩ := sub1 i b z
    rcases mS b h with y | y
    · exact old3 b y i z
    · exact g5.ds i x b z y
  · refine st5.keep b o (F0.st.keep b o e h) (h.imp (fun nn j hj => ?_) id)
    by_cases q : j = x
    · simp only [if_pos q] at hj
      rcases toF b (fdF b hj) with ⟨i, z⟩ | z
      · exact nn i z
      · rw [e] at z; cases z
    · simp only [if_neg q] at hj
      rcases F0.st.eo j b hj with ⟨i, z⟩ | z
      · exact nn i z
      · rw [e] at z; cases z
  · rcases mF b h with y | y
    · exact toF b (inF b y)
    · exact fe_back x b y
  · rcases mS b h with y | y
    · exact F0.so b (inS b y)
    · exact se_back x b y
  · rw [ag5 i (List.mem_cons_of_mem _ hi), List.getElem?_set_ne (fun (z : x = i) => hxM (z ▸ hi)), F0.ag i hi]
/-- the loop, from its first turn on -/
theorem fm_core {k : Kd} {a : Addr} {x : Nat} {b : Ss} {ds : List Vi.D} {P : List Vi.D → Prop} {chk : List Vi.D → Bool} {fin : List Vi.D → List Vi.D → Out} {M' : List Nat} {F S : List Addr} (hk : kM k = true) (hl : ∀ i b, b ∈ fe0 i → ∃ o, H0 b = some o) (hxM : x ∉ M')
    (F0 : FM K cl M' σ H0 fe0 se0 k a ds env σ1 H2 fe2 se2 F S) (hP0 : P env) (hx : x < env.length) (hP : ∀ e, chk e = true → P (e.set x .hole))
    (hfin : ∀ acc e σ' H' fe' se' F S, P e → FM K cl M' σ H0 fe0 se0 k a acc e σ' H' fe' se' F S → PostQ K cl W M (fin acc e) σ H0 fe0 se0 D → D.nx σ' H')
    (h : PostQ K cl W M (loopM (fun d e => exss Δ b (e.set x d)) x chk fin ds [] env) σ H0 fe0 se0 D) :
    ∃ Wv : Nat → Nat → St → Hp → Prop, (∃ m, Wv 0 m σ1 H2) ∧ ∀ i m σ H, Wv i m σ H →
      ((itk K k a).stop i H ∧ D.nx σ H) ∨ ((itk K k a).go i H ∧ ∃ N : St → Hp → Prop, (∀ σ' H', N σ' H' → ∃ m', m' < m ∧ Wv (i + 1) m' σ' H') ∧ ∀ y H', (itk K k a).yld i H y H' → gName x y σ H' fun σ2 H2 => tSs K cl Δ W (x :: M') b { D with nx := N, ct := N, bk := D.nx } σ2 H2) := by
  refine ⟨fun i m σ' H' => ∃ acc rest e fe' se' F S, i = acc.length ∧ m = rest.length ∧ P e ∧ x < e.length ∧ FM K cl M' σ H0 fe0 se0 k a (acc ++ rest) e σ' H' fe' se' F S ∧ PostQ K cl W M (loopM (fun d e => exss Δ b (e.set x d)) x chk fin rest acc e) σ H0 fe0 se0 D,
    ⟨ds.length, [], ds, env, fe2, se2, F, S, rfl, rfl, hP0, hx, F0, h⟩, ?_⟩
  rintro i m σ3 H3 ⟨acc, rest, e, fe3, se3, F3, S3, rfl, rfl, hPe, hxe, FF, hh⟩
  obtain ⟨a', vs, f, ea, c, rs, eF⟩ := R.km hk FF.rv
  cases ea
  cases rest with
  | nil =>
    rw [List.append_nil] at FF rs
    refine .inl ⟨itk_stop hk c (by rw [rs.length]; exact Nat.le_refl _), hfin acc e σ3 H3 fe3 se3 F3 S3 hPe FF hh⟩
  | cons d rest =>
    have ed : (acc ++ d :: rest)[acc.length]? = some d := by simp
    obtain ⟨v, fa, fd, fb, sa, sd, sb, hv, ef, es, rd, r1, r2⟩ := rs.split ed
    refine .inr ⟨itk_go hk c hv, fun σ' H' => ∃ d' e fe' se' F S, P e ∧ x < e.length ∧ FM K cl M' σ H0 fe0 se0 k a ((acc ++ [d']) ++ rest) e σ' H' fe' se' F S ∧ PostQ K cl W M (loopM (fun d e => exss Δ b (e.set x d)) x chk fin rest (acc ++ [d']) e) σ H0 fe0 se0 D,
      fun σ' H' ⟨d', e, fe', se', F, S, q1, q2, q3, q4⟩ => ⟨rest.length, Nat.lt_succ_self _, acc ++ [d'], rest, e, fe', se', F, S, by simp, rfl, q1, q2, q3, q4⟩, fun y H4 hy => ?_⟩
    obtain ⟨rfl, hy2⟩ := itk_yld hk c hy
    rw [hv] at hy2
    cases hy2
    rw [ef] at eF
    have xd : Ext fe3 se3 fd sd := by
      have nd0 := FF.ex.nd
      rw [eF] at nd0
      have n2 := (List.nodup_append.mp nd0).2.1
      have n4 := (List.nodup_append.mp n2).1
      have fdF : ∀ b, b ∈ fd → b ∈ F3 := fun b h => by rw [eF]; simp [h]
      have sdS : ∀ b, b ∈ sd → b ∈ S3 := fun b h => by rw [es]; simp [h]
      exact ⟨(List.nodup_append.mp n4).2.1, fun b z1 z2 => FF.ex.fs b (fdF b z1) (sdS b z2), fun b i z => FF.ex.fx b i (fdF b z), fun b i z => FF.ex.sx b i (sdS b z)⟩
    show tSs K cl Δ W (x :: M') b _ (σ3.set x (some v)) H4
    refine ⟨e.set x d, _, _, FF.ge.store rd xd hxe, ?_⟩
    have next : ∀ {e5 : List Vi.D}, PostQ K cl W M (match look e5 x with
        | some d' => if chk e5 then loopM (fun d e => exss Δ b (e.set x d)) x chk fin rest (acc ++ [d']) (e5.set x .hole) else .bad
        | none => .bad) σ H0 fe0 se0 D → ∀ σ' H' fe' se', GE K cl H' e5 σ' fe' se' → Sp0 H4 (fun j => if j = x then fd else fe3 j) (fun j => if j = x then sd else se3 j) H' fe' se' → (∀ i, i ∈ x :: M' → σ'[i]? = (σ3.set x (some v))[i]?) →
        ∃ d' e fe' se' F S, P e ∧ x < e.length ∧ FM K cl M' σ H0 fe0 se0 k a ((acc ++ [d']) ++ rest) e σ' H' fe' se' F S ∧ PostQ K cl W M (loopM (fun d e => exss Δ b (e.set x d)) x chk fin rest (acc ++ [d']) e) σ H0 fe0 se0 D := by
      intro e5 h5 σ' H' fe' se' g5 st5 ag5
      cases hlk : look e5 x with
      | none => rw [hlk] at h5; exact h5.elim
      | some d' =>
        rw [hlk] at h5
        dsimp only at h5
        split at h5
        · rename_i hc
          obtain ⟨fe6, se6, F6, S6, q⟩ := FF.turn hk hl hxe hxM (n := acc.length) (by simp) hv c r1 r2 eF es g5 st5 ag5 hlk
          have es2 : (acc ++ d :: rest).set acc.length d' = (acc ++ [d']) ++ rest := by simp
          rw [es2] at q
          refine ⟨d', e5.set x .hole, fe6, se6, F6, S6, hP e5 hc, ?_, q, h5⟩
          rw [List.length_set]
          exact (List.getElem?_eq_some_iff.mp (look_some hlk).1).1
        · exact h5.elim
    have hh : PostQ K cl W M (match exss Δ b (e.set x d) with
      | .next e => (match look e x with
        | some d' => if chk e then loopM (fun d e => exss Δ b (e.set x d)) x chk fin rest (acc ++ [d']) (e.set x .hole) else .bad
        | none => .bad)
      | .cont e => (match look e x with
        | some d' => if chk e then loopM (fun d e => exss Δ b (e.set x d)) x chk fin rest (acc ++ [d']) (e.set x .hole) else .bad
        | none => .bad)
      | _ => .bad) σ H0 fe0 se0 D := hh
    cases q : exss Δ b (e.set x d) with
    | next e5 => rw [q] at hh; exact next hh
    | cont e5 => rw [q] at hh; exact next hh
    | brk e5 => rw [q] at hh; exact hh.elim
    | ret d5 e5 => rw [q] at hh; exact hh.elim
    | err x5 e5 => rw [q] at hh; exact hh.elim
    | bad => rw [q] at hh; exact hh.elim
theorem set_same {σ : St} {i : Nat} {v : Option V} (h : σ[i]? = some v) : σ.set i v = σ := by
  refine List.ext_getElem? fun j => ?_
  by_cases hj : i = j
  · subst hj
    rw [List.getElem?_set_self (List.getElem?_eq_some_iff.mp h).1, h]
  · rw [List.getElem?_set_ne hj]
theorem s_fom {x i : Nat} {b : Ss} {y : Str} {iter : Expr} {sb : List Stmt} {p pos : Pos} (hp : PassesOwn (model X.prog X.w) X.A X.env X.xe) (hc : X.calm = true) (hK : X.K = K) (hN : X.N.Nodup) (hi : X.N[x]? = some y) (hx : Loc X.env.scope y) (hf : X.fn y = true ∨ X.env.scope.names.lookup y = some .local)
    (hit : PE X iter (tE K cl Δ W (.var i))) (hb : PSs X sb (tSs K cl Δ W (x :: (M ++ [i])) b)) (hs : ∀ x, foldedSetIterable iter X.env x = pure x) (hxM : x ∉ M ++ [i]) : PS X (.For (.Name y p) iter sb [] pos) (tS K cl Δ W M (.fom x i b)) :=
  (ps_for hp hc (pi_any hit) (pg_name hN hi hx hf) hb hs).imp fun D σ H ⟨env, fe, se, g, h⟩ => by
    subst hK
    have h : PostQ X.K cl W M (match look env i with
      | some (.nd k ds) => if kM k && (decide (x < env.length) && decide (x ≠ i)) then loopM (fun d e => exss Δ b (e.set x d)) x (fun e => decide (e[i]? = some .hole)) (fun acc e => .next (e.set i (.nd k acc))) ds [] (env.set i .hole) else .bad
      | _ => .bad) σ H fe se D := h
    cases hl : look env i with
    | none => rw [hl] at h; exact h.elim
    | some d =>
      rw [hl] at h
      cases d with
      | nd k ds =>
        dsimp only at h
        split at h
        · rename_i hcond
          obtain ⟨hk, hcond⟩ := Bool.and_eq_true_iff.mp hcond
          obtain ⟨hxl, hxi⟩ := Bool.and_eq_true_iff.mp hcond
          have hxl := of_decide_eq_true hxl
          have hxi := of_decide_eq_true hxi
          have hil : i < env.length := (List.getElem?_eq_some_iff.mp (look_some hl).1).1
          refine ⟨env, fe, se, g, ?_⟩
          show PostE X.K cl W true false i (some i) (Res.of (look env i) env) env σ H fe se _
          rw [hl]
          intro v H1 f s fe1 se1 F1
          obtain ⟨v', ev, rv⟩ := F1.ge.var hl
          rw [F1.vr i rfl] at ev
          cases ev
          obtain ⟨a, vs, f', rfl, c, rs, eF⟩ := R.km hk rv
          have g2 := F1.ge.drop hil (σ[i]?.getD none)
          have eσ : σ.set i (σ[i]?.getD none) = σ := set_same (by rw [F1.vr i rfl]; rfl)
          rw [eσ] at g2
          have sub1 : ∀ j b, b ∈ (fun j => if j = i then [] else fe1 j) j → j ≠ i ∧ b ∈ fe1 j := fun j b h => by
            by_cases q : j = i
            · simp only [if_pos q] at h; cases h
            · simp only [if_neg q] at h; exact ⟨q, h⟩
          have sub2 : ∀ j b, b ∈ (fun j => if j = i then [] else se1 j) j → j ≠ i ∧ b ∈ se1 j := fun j b h => by
            by_cases q : j = i
            · simp only [if_pos q] at h; cases h
            · simp only [if_neg q] at h; exact ⟨q, h⟩
          have F0 : FM X.K cl (M ++ [i]) σ H fe se k a ds (env.set i .hole) σ H1 _ _ (fe1 i) (se1 i) := {
            ge := g2
            rv := rv
            ex := ⟨F1.ge.nd i, fun b z => F1.ge.ds i i b z, fun b j z => ⟨fun q => F1.ge.dj i j b (Ne.symm (sub1 j b q).1) z (sub1 j b q).2, fun q => F1.ge.ds i j b z (sub2 j b q).2⟩, fun b j z q => F1.ge.ds j i b (sub1 j b q).2 z⟩
            st := ⟨F1.st.keep, fun j b z => F1.st.eo j b (sub1 j b z).2, fun j b z => F1.st.es j b (sub2 j b z).2⟩
            fo := fun b z => F1.st.eo i b z
            so := fun b z => F1.st.es i b z
            ag := fun _ _ => rfl }
          have key := fm_core (W := W) (M := M) (D := D) (P := fun e => e[i]? = some .hole) hk (fun j b hb => g.live (.inl hb)) hxM F0 (List.getElem?_set_self hil) (by rw [List.length_set]; exact hxl) (fun e he => by
            rw [List.getElem?_set_ne hxi]; exact of_decide_eq_true he) (fun acc e σ' H' fe' se' F S hPe q hq => by
            have eσ' : σ'[i]? = some (some (.ref a)) := by rw [q.ag i (by simp), F1.vr i rfl]
            have hie : i < e.length := (List.getElem?_eq_some_iff.mp hPe).1
            have g3 := q.ge.store q.rv q.ex hie
            rw [set_same eσ'] at g3
            refine hq σ' H' _ _ g3 ⟨q.st.keep, fun j b z => ?_, fun j b z => ?_⟩ fun j hj => q.ag j (List.mem_append_left _ hj)
            · by_cases w : j = i
              · simp only [if_pos w] at z; exact q.fo b z
              · simp only [if_neg w] at z; exact q.st.eo j b z
            · by_cases w : j = i
              · simp only [if_pos w] at z; exact q.so b z
              · simp only [if_neg w] at z; exact q.st.es j b z) h
          refine ⟨a, rfl, ?_⟩
          cases k with
          | tup => exact .inr ⟨⟨vs, c⟩, key⟩
          | lst o =>
            have hk : o = true := hk
            subst hk
            exact .inl ⟨⟨vs, .inl (.inl c)⟩, key⟩
          | dK _ _ => cases hk
          | dT _ _ => cases hk
          | obj _ _ _ => cases hk
        · exact h.elim
      | _ => exact h.elim
theorem s_fot {x : Nat} {e : E} {b : Ss} {y : Str} {iter : Expr} {sb : List Stmt} {p pos : Pos} (hp : PassesOwn (model X.prog X.w) X.A X.env X.xe) (hc : X.calm = true) (hK : X.K = K) (hN : X.N.Nodup) (hi : X.N[x]? = some y) (hx : Loc X.env.scope y) (hf : X.fn y = true ∨ X.env.scope.names.lookup y = some .local)
    (hit : PE X iter (tE K cl Δ W e)) (hb : PSs X sb (tSs K cl Δ W (x :: M) b)) (hs : ∀ x, foldedSetIterable iter X.env x = pure x) (hxM : x ∉ M) : PS X (.For (.Name y p) iter sb [] pos) (tS K cl Δ W M (.fot x e b)) :=
  (ps_for hp hc (pi_any hit) (pg_name hN hi hx hf) hb hs).imp fun D σ H ⟨env, fe, se, g, h⟩ => by
    subst hK
    have h : PostQ X.K cl W M (if vw e then .bad else (ev Δ e env).out fun d e1 => (match d with
      | .nd k ds => if kM k && decide (x < e1.length) then loopM (fun d e => exss Δ b (e.set x d)) x (fun _ => true) (fun _ e => .next e) ds [] e1 else .bad
      | _ => .bad)) σ H fe se D := h
    cases hv : vw e with
    | true => rw [hv] at h; exact h.elim
    | false =>
      rw [hv] at h
      refine ⟨env, fe, se, g, outP h fun d e1 v H1 f s fe1 se1 _ F1 h2 => ?_⟩
      cases d with
      | nd k ds =>
        have h3 : PostQ X.K cl W M (if kM k && decide (x < e1.length) then loopM (fun d e => exss Δ b (e.set x d)) x (fun _ => true) (fun _ e => .next e) ds [] e1 else .bad) σ H fe se D := h2
        split at h3
        · rename_i hcond
          obtain ⟨hk, hxl⟩ := Bool.and_eq_true_iff.mp hcond
          have hxl := of_decide_eq_true hxl
          obtain ⟨a, vs, f', rfl, c, rs, eF⟩ := R.km hk F1.rv
          have F0 : FM X.K cl M σ H fe se k a ds e1 σ H1 fe1 se1 f s := {
            ge := F1.ge
            rv := F1.rv
            ex := F1.ext hv
            st := F1.st
            fo := F1.vo
            so := F1.vs
            ag := fun _ _ => rfl }
          have key := fm_core (W := W) (M := M) (D := D) (P := fun _ => True) (fin := fun _ e => .next e) hk (fun j b hb => g.live (.inl hb)) hxM F0 trivial hxl (fun _ _ => trivial) (fun acc e σ' H' fe' se' F S _ q hq => hq σ' H' _ _ q.ge q.st q.ag) h3
          refine ⟨a, rfl, ?_⟩
          cases k with
          | tup => exact .inr ⟨⟨vs, c⟩, key⟩
          | lst o =>
            have hk : o = true := hk
            subst hk
            exact .inl ⟨⟨vs, .inl (.inl c)⟩, key⟩
          | dK _ _ => cases hk
          | dT _ _ => cases hk
          | obj _ _ _ => cases hk
        · exact h3.elim
      | _ => exact h2.elim
end
end Vi

set_option Elab.async false
set_option linter.all false
set_option maxRecDepth 100000
set_option maxHeartbeats 4000000
/-! Vi25: contexts; the matcher. -/
namespace Vi
open PySem PySem.Spec L2
/-- what a text's names mean: the slots' names, free names of built-ins, functions, constants -/
structure Cfg where
  N : List Str
  free : List Str
  fns : List (Str × List Bool)
  gls : List (Str × Int)
structure MOk (C : Cfg) (P : Program) (w : World) (K : PySem.W.Frag) (cl : Nat → Addr) (mg : Str → Option Value) (base : Heap) (Δ : Dl) (k : Nat) : Prop where
  fr : ∀ x, x ∈ C.free → mg x = none
  fn : ∀ j x ms, C.fns[j]? = some (x, ms) → ∃ f fd pn, FnOk P w K mg base (L2.CX P w) k f fd pn (spF K cl ms (Δ.call j)) ∧ mg x = some (.ref f) ∧ PySem.W.keepIn K (.ref f) = true ∧ Binds K fd pn []
  gl : ∀ x i, (x, i) ∈ C.gls → ∃ t, mg x = some (.int i t)
structure XOk (N : List Str) (P : Program) (w : World) (K : PySem.W.Frag) (mg : Str → Option Value) (base : Heap) (k : Nat) (sc : Scope) (X : Cx) : Prop where
  hN : X.N = N
  nd : N.Nodup
  hP : X.prog = P
  hw : X.w = w
  hK : X.K = K
  hm : X.mg = mg
  hb : X.base = base
  calm : X.calm = true
  room : Room k X.A
  kind : X.env.scope.kind = .function
  loc : ∀ x, sc.names.lookup x = some .local → X.env.scope.names.lookup x = some .local
  cel : ∀ x, sc.names.lookup x = some .cell → X.env.scope.names.lookup x = some .cell ∧ X.fn x = true
  fre : ∀ x, sc.names.lookup x = some .free → X.env.scope.names.lookup x = some .cell ∨ X.env.scope.names.lookup x = some .free
  gl : ∀ x, sc.names.lookup x = some .globalImplicit → X.env.scope.names.lookup x = some .globalImplicit
def visB (sc : Scope) (x : Str) : Bool := match sc.names.lookup x with
  | some .local => true
  | some .cell => true
  | some .free => true
  | _ => false
def locB (sc : Scope) (x : Str) : Bool := match sc.names.lookup x with
  | some .local => true
  | some .cell => true
  | _ => false
def gloB (sc : Scope) (x : Str) : Bool := match sc.names.lookup x with
  | some .globalImplicit => true
  | _ => false
def nameB (C : Cfg) (sc : Scope) (i : Nat) (x : Str) : Bool := decide (C.N[i]? = some x) && (visB sc x && (!(x == ("__debug__" : Str)) && !(x == ("__classdict__" : Str))))
def bltB (C : Cfg) (sc : Scope) (x : Str) : Bool := decide (x ∈ C.free) && gloB sc x
section
variable {C : Cfg} {N : List Str} {P : Program} {w : World} {K : PySem.W.Frag} {mg : Str → Option Value} {base : Heap} {k : Nat} {sc : Scope} {X : Cx}
theorem XOk.un (h : XOk N P w K mg base k sc X) : X.A.units + 64 < cLine := by have := h.room.un; omega
theorem XOk.vis (h : XOk N P w K mg base k sc X) {x : Str} (e : visB sc x = true) : Vis X.env.scope x := by
  unfold visB at e
  split at e
  · rename_i q; exact .inl (h.loc x q)
  · rename_i q; exact .inr (.inl (h.cel x q).1)
  · rename_i q; exact .inr (h.fre x q)
  · cases e
theorem XOk.lc (h : XOk N P w K mg base k sc X) {x : Str} (e : locB sc x = true) : Loc X.env.scope x ∧ (X.fn x = true ∨ X.env.scope.names.lookup x = some .local) := by
  unfold locB at e
  split at e
  · rename_i q; exact ⟨.inl (h.loc x q), .inr (h.loc x q)⟩
  · rename_i q; exact ⟨.inr (h.cel x q).1, .inl (h.cel x q).2⟩
  · cases e
theorem XOk.glo (h : XOk N P w K mg base k sc X) {x : Str} (e : gloB sc x = true) : Gl X x := by
  unfold gloB at e
  split at e
  · rename_i q; exact h.gl x q
  · cases e
theorem XOk.name (h : XOk C.N P w K mg base k sc X) {i : Nat} {x : Str} (e : nameB C sc i x = true) : X.N[i]? = some x ∧ Vis X.env.scope x ∧ (x == ("__debug__" : Str)) = false ∧ (x == ("__classdict__" : Str)) = false := by
  obtain ⟨e1, e⟩ := Bool.and_eq_true_iff.mp e
  obtain ⟨e2, e⟩ := Bool.and_eq_true_iff.mp e
  obtain ⟨e3, e4⟩ := Bool.and_eq_true_iff.mp e
  refine ⟨by rw [h.hN]; exact of_decide_eq_true e1, h.vis e2, ?_, ?_⟩
  · cases q : (x == ("__debug__" : Str)) with
    | false => rfl
    | true => rw [q] at e3; cases e3
  · cases q : (x == ("__classdict__" : Str)) with
    | false => rfl
    | true => rw [q] at e4; cases e4
theorem XOk.blt (h : XOk N P w K mg base k sc X) {cl : Nat → Addr} {Δ : Dl} {j : Nat} (m : MOk C P w K cl mg base Δ j) {x : Str} (e : bltB C sc x = true) : Gl X x ∧ X.mg x = none := by
  obtain ⟨e1, e2⟩ := Bool.and_eq_true_iff.mp e
  exact ⟨h.glo e2, by rw [h.hm]; exact m.fr x (of_decide_eq_true e1)⟩
theorem lookup_relabel {env : Env} : ∀ {names : List (Str × NameKind)} {x : Str} {q : NameKind}, names.lookup x = some q →
    (names.map fun (n, k) => if (k == NameKind.free && env.scope.kind == .function && env.kindOf n == some .cell) then (n, NameKind.cell) else (n, k)).lookup x = some (if (q == NameKind.free && env.scope.kind == .function && env.kindOf x == some .cell) then .cell else q)
  | [], _, _, h => by simp at h
  | (n, k) :: r, x, q, h => by
    rw [List.lookup_cons] at h
    rw [List.map_cons]
    dsimp only
    cases hx : (x == n) with
    | true =>
      rw [hx] at h
      cases h
      have hx' : x = n := by simpa using hx
      subst hx'
      by_cases hc : (k == NameKind.free && env.scope.kind == .function && env.kindOf x == some .cell) = true
      · rw [if_pos hc, if_pos hc, List.lookup_cons, hx]
      · rw [if_neg hc, if_neg hc, List.lookup_cons, hx]
    | false =>
      rw [hx] at h
      by_cases hc : (k == NameKind.free && env.scope.kind == .function && env.kindOf n == some .cell) = true
      · rw [if_pos hc, List.lookup_cons, hx]; exact lookup_relabel h
      · rw [if_neg hc, List.lookup_cons, hx]; exact lookup_relabel h
/-- the context of a comprehension's block -/
theorem XOk.blk (h : XOk N P w K mg base k sc X) {scope : Scope} (hk : scope.kind = .function) (s : Shared) (H : Hp) (C : Addr) (c : List (Str × Addr)) (fp : List Addr) : XOk N P w K mg base k scope (X.blk s H scope (compEnvC scope c C X.env) fp) := by
  refine ⟨h.hN, h.nd, h.hP, h.hw, h.hK, h.hm, h.hb, h.calm, h.room, hk, fun x e => ?_, fun x e => ⟨?_, ?_⟩, fun x e => ?_, fun x e => ?_⟩
  · exact (lookup_relabel (env := X.env) e).trans rfl
  · exact (lookup_relabel (env := X.env) e).trans rfl
  · show (scope.names.lookup x == some .cell) = true
    rw [e]; rfl
  · have q := lookup_relabel (env := X.env) e
    by_cases hc : (NameKind.free == NameKind.free && X.env.scope.kind == .function && X.env.kindOf x == some .cell) = true
    · rw [if_pos hc] at q; exact .inl q
    · rw [if_neg hc] at q; exact .inr q
  · exact (lookup_relabel (env := X.env) e).trans rfl
theorem XOk.blkOk (h : XOk N P w K mg base k sc X) {scope : Scope} {own : List (Str × Nat)} (e : blkC N sc scope own = true) : BlkOk X.N X.env.scope scope own := by
  have b := blkOk_by e
  rw [h.hN]
  exact ⟨b.kind, b.uniq, b.ix, fun y hy e => by
    rcases b.free y hy e with q | q
    · exact .inl (h.cel _ q).1
    · exact h.fre _ q, b.own⟩
end
def noSet : Expr → Bool
  | .Set .. => false
  | _ => true
theorem fold_no {x : Expr} {env : Env} (h : noSet x = true) : ∀ v, foldedSetIterable x env v = pure v := by
  cases x <;> first | (intro v; rfl) | cases h
theorem mark_no {o : CmpOp} {x : Expr} (h : noSet x = true) : behindInMarks o x = false := by
  cases x <;> first | rfl | cases h
def plainB : Expr → Bool
  | .Slice .. => false
  | _ => true
theorem plain_ix {x : Expr} (h : plainB x = true) : PlainIx x := by
  cases x <;> first | (intro o i; rfl) | cases h
/-- an expression whose test is its value's truth -/
def truB : Expr → Bool
  | .UnaryOp .. => false
  | .BoolOp .. => false
  | .IfExp .. => false
  | .Compare .. => false
  | _ => true
theorem tru_is {x : Expr} {env : Env} (h : truB x = true) : ∀ whole, isTrue x env whole = (do let v ← whole; standAt x.pos; holding [v] (truthy v)) := by
  cases x <;> first | (intro o; rfl) | cases h
/-- what may stand as a test -/
def tst : E → Bool
  | .not a => tst a
  | .and es => tsts es
  | .or es => tsts es
  | .ite _ _ _ => false
  | .fz _ _ => false
  | .neg _ => false
  | _ => true
where tsts : Es → Bool
  | .nil => true
  | .cons e es => tst e && tsts es
def tyXs : List Ty → List Expr → Bool
  | [], [] => true
  | t :: ts, .Name x _ :: xs => decide (x = tyS t) && tyXs ts xs
  | _, _ => false
end Vi

set_option Elab.async false
set_option linter.all false
set_option maxRecDepth 100000
set_option maxHeartbeats 4000000
/-! Vi26: the matcher. -/
namespace Vi
open PySem PySem.Spec L2
def isNil {α : Type} : List α → Bool
  | [] => true
  | _ => false
def owN (C : Cfg) (ow : List Nat) : List (Str × Nat) := ow.map fun i => (C.N.getD i "", i)
def subB (a b : List Nat) : Bool := a.all fun i => b.contains i
def disB (a b : List Nat) : Bool := a.all fun i => !b.contains i
def isCp : E → Bool
  | .comp _ _ _ _ => true
  | .compI _ _ _ _ _ => true
  | _ => false
mutual
def mE (C : Cfg) (sc : Scope) : E → Expr → Bool
  | .int i, x => (match x with
    | .Constant (.int j) _ _ => decide (i = j)
    | _ => false)
  | .bl b, x => (match x with
    | .Constant (.bool c) _ _ => b == c
    | _ => false)
  | .non, x => (match x with
    | .Constant .none _ _ => true
    | _ => false)
  | .str s, x => (match x with
    | .Constant (.str t) _ _ => decide (s = t)
    | _ => false)
  | .pow b e, x => (match x with
    | .BinOp (.Constant (.int i) _ _) o (.Constant (.int j) _ _) _ => decide (o = .Pow) && (decide ((b : Int) = i) && (decide ((e : Int) = j) && (decide (b < 1000) && decide (e ≤ 1000))))
    | _ => false)
  | .glo y d, x => (match x, d with
    | .Name z _, .int i => decide (y = z) && (decide ((y, i) ∈ C.gls) && (gloB sc y && !(y == ("__debug__" : Str))))
    | _, _ => false)
  | .var i, x => (match x with
    | .Name y _ => nameB C sc i y
    | _ => false)
  | .mv i, x => (match x with
    | .Name y _ => nameB C sc i y
    | _ => false)
  | .fz _ e, x => mE C sc e x
  | .neg a, x => (match x with
    | .UnaryOp o y _ => decide (o = .USub) && mE C sc a y
    | _ => false)
  | .bin o a b, x => (match x with
    | .BinOp y p z _ => decide (p = oper o) && (mE C sc a y && mE C sc b z)
    | _ => false)
  | .cmp o a b, x => (match x with
    | .Compare y [p] [z] _ => decide (p = coper o) && (noSet z && (mE C sc a y && mE C sc b z))
    | _ => false)
  | .chain o p a b c, x => (match x with
    | .Compare y [q, r] [z, u] _ => decide (q = coper o) && (decide (r = coper p) && (noSet u && (mE C sc a y && (mE C sc b z && mE C sc c u))))
    | _ => false)
  | .not a, x => (match x with
    | .UnaryOp o y _ => decide (o = .Not) && mE C sc a y
    | _ => false)
  | .and es, x => (match x with
    | .BoolOp o ys _ => decide (o = .And) && (!isNil ys && mEs C sc es ys)
    | _ => false)
  | .or es, x => (match x with
    | .BoolOp o ys _ => decide (o = .Or) && (!isNil ys && mEs C sc es ys)
    | _ => false)
  | .ite c a b, x => (match x with
    | .IfExp y z u _ => tst c && (mE C sc c y && (mE C sc a z && mE C sc b u))
    | _ => false)
  | .tup es, x => (match x with
    | .Tuple ys _ _ => mEs C sc es ys
    | _ => false)
  | .lst es, x => (match x with
    | .List ys _ => mEs C sc es ys
    | _ => false)
  | .dct _, x => (match x with
    | .Dict [] [] _ => true
    | _ => false)
  | .idx a i, x => (match x with
    | .Subscript y z _ => plainB z && (mE C sc a y && mE C sc i z)
    | _ => false)
  | .sl10 a l, x => (match x with
    | .Subscript y (.Slice (some z) none none _) _ => mE C sc a y && mE C sc l z
    | _ => false)
  | .sl01 a l, x => (match x with
    | .Subscript y (.Slice none (some z) none _) _ => mE C sc a y && mE C sc l z
    | _ => false)
  | .sl11 a l h, x => (match x with
    | .Subscript y (.Slice (some z) (some u) none _) _ => mE C sc a y && (mE C sc l z && mE C sc h u)
    | _ => false)
  | .slr a, x => (match x with
    | .Subscript y (.Slice none none (some (.UnaryOp o (.Constant (.int i) _ _) _)) _) _ => decide (o = .USub) && (decide (i = 1) && mE C sc a y)
    | _ => false)
  | .attr _ _, _ => false
  | .b1 o a, x => (match x with
    | .Call (.Name f _) [y] [] _ => decide (f = b1nm o) && (decide (o ≠ .lrev ∧ o ≠ .strue ∧ o ≠ .stri) && (bltB C sc f && (nost y && mE C sc a y)))
    | _ => false)
  | .b2 o a b, x => (match x with
    | .Call (.Name f _) [y, z] [] _ => decide (f = b2nm o) && (bltB C sc f && (nost y && (nost z && (mE C sc a y && mE C sc b z))))
    | _ => false)
  | .isi a ts, x => (match x with
    | .Call (.Name f _) [y, z] [] _ => decide (f = "isinstance") && (bltB C sc f && (nost y && (mE C sc a y && (match z with
      | .Name u _ => (match ts with
        | [t] => decide (u = tyS t) && bltB C sc u
        | _ => false)
      | .Tuple us _ _ => tyXs ts us && (decide (ts.length ≤ 100) && ts.all fun t => bltB C sc (tyS t))
      | _ => false))))
    | _ => false)
  | .dget a k w, x => (match x with
    | .Call (.Attribute y f q) [z, u] [] r => decide (f = "get") && ((q.endLine == r.line) && (nost z && (nost u && (mP C sc a y && (mE C sc a y && (mE C sc k z && mE C sc w u))))))
    | _ => false)
  | .call j as, x => (match x with
    | .Call (.Name f _) (y :: ys) [] _ => decide (C.fns[j]? = some (f, modesA as)) && (gloB sc f && (!(f == ("__debug__" : Str)) && ((y :: ys).all nost && mAs C sc as (y :: ys))))
    | _ => false)
  | .callO j a, x => (match x with
    | .Call (.Name f _) [y] [] _ => decide (C.fns[j]? = some (f, [true])) && (gloB sc f && (!(f == ("__debug__" : Str)) && (nost y && mE C sc a y)))
    | _ => false)
  | .mk _ _ _, _ => false
  | .mut0 m p, x => (match x with
    | .Call (.Attribute y f q) [] [] r => decide (f = m0nm m) && ((q.endLine == r.line) && mP C sc p y)
    | _ => false)
  | .mut1 m p a, x => (match x with
    | .Call (.Attribute y f q) [z] [] r => decide (f = m1nm m) && ((q.endLine == r.line) && (nost z && (mP C sc p y && mE C sc a z)))
    | _ => false)
  | .ins _ _ _, _ => false
  | .comp ow t it e, x => (match x with
    | .ListComp y [⟨tg, iter, ifs, a⟩] s2 _ => isNil ifs && (decide (a = 0) && (blkC C.N sc s2 (owN C ow) && (nmT t && (subB (tsl t) ow && (mI C sc tg it iter && (mT C s2 t tg && mE C s2 e y))))))
    | _ => false)
  | .compI ow t it c e, x => (match x with
    | .ListComp y [⟨tg, iter, [z], a⟩] s2 _ => decide (a = 0) && (blkC C.N sc s2 (owN C ow) && (nmT t && (subB (tsl t) ow && (mI C sc tg it iter && (mT C s2 t tg && (tst c && (mE C s2 c z && mE C s2 e y)))))))
    | _ => false)
def mEs (C : Cfg) (sc : Scope) : Es → List Expr → Bool
  | .nil, xs => isNil xs
  | .cons e es, xs => (match xs with
    | y :: ys => nost y && (mE C sc e y && mEs C sc es ys)
    | [] => false)
def mAs (C : Cfg) (sc : Scope) : As → List Expr → Bool
  | .nil, xs => isNil xs
  | .ro e r, xs => (match xs with
    | y :: ys => nost y && (mE C sc e y && mAs C sc r ys)
    | [] => false)
  | .mu p r, xs => (match xs with
    | y :: ys => nost y && (mP C sc p y && mAs C sc r ys)
    | [] => false)
/-- a place -/
def mP (C : Cfg) (sc : Scope) : E → Expr → Bool
  | .var i, x => (match x with
    | .Name y _ => nameB C sc i y
    | _ => false)
  | .idx a i, x => (match x with
    | .Subscript y z _ => plainB z && (mP C sc a y && mE C sc i z)
    | _ => false)
  | _, _ => false
def mI (C : Cfg) (sc : Scope) (tg : Expr) : I → Expr → Bool
  | .seq a, x => noSet x && mE C sc a x
  | .range1 a, x => (match x with
    | .Call (.Name f _) [y] [] _ => decide (f = "range") && (bltB C sc f && (nost y && mE C sc a y))
    | _ => false)
  | .range2 a b, x => (match x with
    | .Call (.Name f _) [y, z] [] _ => decide (f = "range") && (bltB C sc f && (nost y && (nost z && (mE C sc a y && mE C sc b z))))
    | _ => false)
  | .zip a b, x => (match x with
    | .Call (.Name f _) [y, z] [] _ => decide (f = "zip") && (isTupX tg && (bltB C sc f && (nost y && (nost z && (mE C sc a y && mE C sc b z)))))
    | _ => false)
  | .enum a, x => (match x with
    | .Call (.Name f _) [y] [] _ => decide (f = "enumerate") && (isTupX tg && (bltB C sc f && (nost y && mE C sc a y)))
    | _ => false)
  | .rev a, x => (match x with
    | .Call (.Name f _) [y] [] _ => decide (f = "reversed") && (bltB C sc f && (nost y && mE C sc a y))
    | _ => false)
def mT (C : Cfg) (sc : Scope) : T → Expr → Bool
  | .name i, x => (match x with
    | .Name y _ => decide (C.N[i]? = some y) && locB sc y
    | _ => false)
  | .tup ts, x => (match x with
    | .Tuple ys _ _ => ys.all nost && (decide (ys.length = lenT ts) && mTs C sc ts ys)
    | _ => false)
  | .idx p i, x => (match x with
    | .Subscript y z _ => plainB z && (mP C sc p y && mE C sc i z)
    | _ => false)
  | .dix p es, x => (match x with
    | .Subscript y (.Tuple ys _ _) _ => mP C sc p y && mEs C sc es ys
    | _ => false)
  | .attr _ _, _ => false
def mTs (C : Cfg) (sc : Scope) : Ts → List Expr → Bool
  | .nil, xs => isNil xs
  | .cons t ts, xs => (match xs with
    | y :: ys => nost y && (mT C sc t y && mTs C sc ts ys)
    | [] => false)
end
mutual
def mS (C : Cfg) (sc : Scope) : List Nat → S → Stmt → Bool
  | M, .expr e, x => (match x with
    | .Expr y _ => !isComp y && mE C sc e y
    | _ => false)
  | M, .set i e, x => (match x with
    | .Assign [.Name y p] z _ => !M.contains i && (decide (C.N[i]? = some y) && (locB sc y && (mE C sc e z && (match z with
      | .ListComp _ _ s2 q => isCp e && (decide (sc.names.lookup y = some .cell) || (decide (sc.names.lookup y = some .local) && ((p.line == q.line) && !(s2.names.any fun (n, k) => n == y && (k == .local || k == .cell)))))
      | z => !isComp z))))
    | _ => false)
  | M, .asg t e, x => (match x with
    | .Assign [tg] z _ => disB (tsl t) M && (nost tg && (!isComp z && (swOk tg z && (mT C sc t tg && mE C sc e z))))
    | _ => false)
  | M, .par i j a b, x => (match x with
    | .Assign [.Tuple [.Name y p, .Name z q] _ _] (.Tuple [u, v] _ _) _ => !M.contains i && (!M.contains j && (decide (C.N[i]? = some y) && (decide (C.N[j]? = some z) && (decide (sc.names.lookup y = some .local) && (decide (sc.names.lookup z = some .local) &&
        (decide (i ≠ j) && ((p.line == q.line) && (decide (y ≠ z) && (nost u && (nost v && (!([u, v].all (foldedForSure 8)) && (!([u, v].all (constantsAlone 8)) && (mE C sc a u && mE C sc b v)))))))))))))
    | _ => false)
  | M, .aug i o e, x => (match x with
    | .AugAssign (.Name y _) p z _ => !M.contains i && (decide (p = oper o) && (decide (C.N[i]? = some y) && (locB sc y && mE C sc e z)))
    | _ => false)
  | M, .augI p i o e, x => (match x with
    | .AugAssign (.Subscript y z _) q u _ => decide (q = oper o) && (plainB z && (mP C sc p y && (mE C sc i z && mE C sc e u)))
    | _ => false)
  | M, .iff c a b, x => (match x with
    | .If y as bs _ => tst c && (mE C sc c y && (mSs C sc M a as && mSs C sc M b bs))
    | _ => false)
  | M, .whl c b, x => (match x with
    | .While y bs os _ => isNil os && (tst c && (mE C sc c y && mSs C sc M b bs))
    | _ => false)
  | M, .fo t it b, x => (match x with
    | .For tg iter bs os _ => isNil os && (noSet iter && (disB (tsl t) (M ++ srcs it) && (mI C sc tg it iter && (mT C sc t tg && mSs C sc (M ++ srcs it) b bs))))
    | _ => false)
  | M, .fom j i b, x => (match x with
    | .For (.Name y _) (.Name z _) bs os _ => isNil os && (!(M ++ [i]).contains j && (decide (C.N[j]? = some y) && (locB sc y && (nameB C sc i z && mSs C sc (j :: (M ++ [i])) b bs))))
    | _ => false)
  | M, .fot j e b, x => (match x with
    | .For (.Name y _) iter bs os _ => isNil os && (noSet iter && (!M.contains j && (decide (C.N[j]? = some y) && (locB sc y && (mE C sc e iter && mSs C sc (j :: M) b bs)))))
    | _ => false)
  | M, .ret e, x => (match x with
    | .Return (some y) _ => mE C sc e y
    | _ => false)
  | M, .ret0, x => (match x with
    | .Return none _ => true
    | _ => false)
  | M, .pass, x => (match x with
    | .Pass _ => true
    | _ => false)
  | M, .brk, x => (match x with
    | .Break _ => true
    | _ => false)
  | M, .cont, x => (match x with
    | .Continue _ => true
    | _ => false)
  | M, .doc, x => (match x with
    | .Expr (.Constant (.str _) _ _) _ => true
    | _ => false)
  | M, .drop _, _ => false
  | M, .never, _ => true
def mSs (C : Cfg) (sc : Scope) : List Nat → Ss → List Stmt → Bool
  | M, .nil, xs => isNil xs
  | M, .cons s ss, xs => (match s with
    | .drop _ => mSs C sc M ss xs
    | s => (match xs with
      | y :: ys => mS C sc M s y && mSs C sc M ss ys
      | [] => false))
end
end Vi

set_option Elab.async false
set_option linter.all false
set_option maxRecDepth 100000
set_option maxHeartbeats 4000000
/-! Vi27: what matches keeps to its reading: expressions. -/
namespace Vi
open PySem PySem.Spec L2
theorem and2 {a b : Bool} (h : (a && b) = true) : a = true ∧ b = true := Bool.and_eq_true_iff.mp h
theorem nb {a : Bool} (h : (!a) = true) : a = false := by cases a <;> first | rfl | cases h
theorem isNil_nil {α : Type} {l : List α} (h : isNil l = true) : l = [] := by
  cases l <;> first | rfl | cases h
section
variable {C : Cfg} {P : Program} {w : World} {K : PySem.W.Frag} {cl : Nat → Addr} {mg : Str → Option Value} {base : Heap} {Δ : Dl} {k : Nat}
theorem s_glo {X : Cx} {W : WX} {y : Str} {i : Int} {pos : Pos} (hg : Gl X y) (hm : ∃ t, X.mg y = some (.int i t)) (hd : (y == ("__debug__" : Str)) = false) : PE X (.Name y pos) (tE K cl Δ W (.glo y (.int i))) := by
  obtain ⟨t, hm⟩ := hm
  exact (pe_glob (v := .int i) hg hm ⟨t, rfl⟩ hd).imp fun _ _ _ ⟨_, _, _, g, h⟩ => (fin_here g h).int
theorem t_chain {X : Cx} {W : WX} {o p : Cop} {a b c : E} {x y z : Expr} {pos : Pos} (hK : X.K = K) (hu : X.A.units + 64 < cLine) (ha : PE X x (tE K cl Δ W a)) (hb : PE X y (tE K cl Δ W b)) (hc : PE X z (tE K cl Δ W c)) (hm : lastMarks [coper o, coper p] [y, z] = false) :
    PT X (.Compare x [coper o, coper p] [y, z] pos) (tT K cl Δ W (.chain o p a b c)) :=
  (pt_chain (oc hu o) (oc hu p) ha hb hc hm).imp fun σ H Q h => by
    obtain ⟨env, fe, se, g, h⟩ := tT_tE h
    have hl : ∀ i x, x ∈ fe i → ∃ o, H x = some o := fun i x hx => g.live (.inl hx)
    refine ⟨env, fe, se, g, bindE g Sp0.refl h fun d1 env1 v1 H1 f1 s1 fe1 se1 e1 F1 h1 => ?_⟩
    refine ⟨env1, fe1, se1, F1.ge, bindE g F1.st h1 fun d2 env2 v2 H2 f2 s2 fe2 se2 e2 F2 h2 => ?_⟩
    have st := F1.st.trans F2.st hl
    split at h2
    · rename_i e3
      obtain ⟨d1', e3, e4⟩ := Option.bind_eq_some_iff.mp e3
      obtain ⟨f1', s1', o1⟩ := opd F1 F2.ge F2.st F2.pure e3 hl
      rw [hK]
      refine cop_ok o1.rv F2.rv e4 ⟨true, rfl, ?_⟩
      rw [if_pos rfl]
      refine ⟨env2, fe2, se2, F2.ge, bindE g st h2 fun d3 env3 v3 H3 f3 s3 fe3 se3 e5 F3 h3 => ?_⟩
      obtain ⟨d, ed, h4⟩ := Res.of_post h3
      obtain ⟨d2', e6, ed⟩ := Option.bind_eq_some_iff.mp ed
      obtain ⟨f2', s2', o2⟩ := opd F2 F3.ge F3.st F3.pure e6 fun i x hx => F1.ge.live (.inl hx)
      have st3 := st.trans F3.st hl
      refine cop_po o2.rv F3.rv ed (sP := fun _ => False) (fin_prim g F3.ge st3 (fun z => ?_) (fun _ z => z.elim) (fun _ z => z.elim) (fun _ _ z => z.elim) h4)
      have z : (ef a || (ef b || ef c)) = false := z
      obtain ⟨z1, z⟩ := Bool.or_eq_false_iff.mp z
      obtain ⟨z2, z3⟩ := Bool.or_eq_false_iff.mp z
      exact ((F1.pure z1).trans (F2.pure z2)).trans (F3.pure z3)
    · rename_i e3
      obtain ⟨d1', e3, e4⟩ := Option.bind_eq_some_iff.mp e3
      obtain ⟨f1', s1', o1⟩ := opd F1 F2.ge F2.st F2.pure e3 hl
      rw [hK]
      refine cop_ok o1.rv F2.rv e4 ⟨false, rfl, ?_⟩
      rw [if_neg Bool.false_ne_true]
      refine (fin_prim (sP := fun _ => False) g F2.ge st (fun z => ?_) (fun _ z => z.elim) (fun _ z => z.elim) (fun _ _ z => z.elim) h2).bl
      have z : (ef a || (ef b || ef c)) = false := z
      obtain ⟨z1, z⟩ := Bool.or_eq_false_iff.mp z
      obtain ⟨z2, z3⟩ := Bool.or_eq_false_iff.mp z
      exact (F1.pure z1).trans (F2.pure z2)
    · exact h2.elim
theorem tys_pa {X : Cx} {sc : Scope} (x : XOk C.N P w K mg base k sc X) (m : MOk C P w K cl mg base Δ k) : ∀ {ts : List Ty} {us : List Expr}, tyXs ts us = true → (ts.all fun t => bltB C sc (tyS t)) = true → PA X us (tTys ts)
  | [], [], _, _ => pa_nil
  | [], _ :: _, h, _ => by cases h
  | t :: ts, [], h, _ => by cases h
  | t :: ts, u :: us, h, h2 => by
    cases u with
    | Name y p =>
      obtain ⟨h1, h3⟩ := and2 (show (decide (y = tyS t) && tyXs ts us) = true from h)
      obtain ⟨h4, h5⟩ := and2 (show (bltB C sc (tyS t) && ts.all fun t => bltB C sc (tyS t)) = true from h2)
      have h1 := of_decide_eq_true h1
      subst h1
      obtain ⟨b1, b2⟩ := x.blt m h4
      exact pa_cons (p_ty b1 b2) (tys_pa x m h3 h5) (star_of rfl)
    | _ => cases h
/-- what is had of an expression -/
structure EOk (K : PySem.W.Frag) (cl : Nat → Addr) (Δ : Dl) (W : WX) (X : Cx) (e : E) (x : Expr) : Prop where
  pe : PE X x (tE K cl Δ W e)
  pt : tst e = true → PT X x (tT K cl Δ W e)
theorem EOk.of {W : WX} {X : Cx} {e : E} {x : Expr} (h : PE X x (tE K cl Δ W e)) (t : truB x = true) : EOk K cl Δ W X e x := ⟨h, fun _ => t_val h (tru_is t)⟩
/-- and, or: each of them a pair -/
inductive EsOk (K : PySem.W.Frag) (cl : Nat → Addr) (Δ : Dl) (W : WX) (X : Cx) : Es → List Expr → Prop
  | nil : EsOk K cl Δ W X .nil []
  | cons {e : E} {es : Es} {x : Expr} {xs : List Expr} : nost x = true → EOk K cl Δ W X e x → EsOk K cl Δ W X es xs → EsOk K cl Δ W X (.cons e es) (x :: xs)
theorem EsOk.pa {W : WX} {X : Cx} : ∀ {es : Es} {xs : List Expr}, EsOk K cl Δ W X es xs → PA X xs (tEs K cl Δ W es)
  | .nil, _, h => by cases h; exact es_nil
  | .cons e es, _, h => by
    cases h with
    | cons h1 h2 h3 => exact es_cons h1 h2.pe h3.pa
theorem EsOk.bo {W : WX} {X : Cx} {q : Bool} {pos : Pos} : ∀ {es : Es} {xs : List Expr}, EsOk K cl Δ W X es xs → xs ≠ [] → PE X (.BoolOp (bkop q) xs pos) (tAn K cl Δ W q es)
  | .nil, _, h, n => by cases h; exact absurd rfl n
  | .cons e .nil, _, h, _ => by
    cases h with
    | cons h1 h2 h3 => cases h3; exact n_one h2.pe
  | .cons e (.cons e2 es), _, h, _ => by
    cases h with
    | cons h1 h2 h3 =>
      have r := EsOk.bo (q := q) (pos := pos) h3 (by cases h3; simp)
      cases h3 with
      | cons h4 h5 h6 => exact n_cons h2.pe r
theorem EsOk.bt {W : WX} {X : Cx} {q : Bool} {pos : Pos} : ∀ {es : Es} {xs : List Expr}, EsOk K cl Δ W X es xs → xs ≠ [] → tst.tsts es = true → PW X (.BoolOp (bkop q) xs pos) (tAt K cl Δ W q es)
  | .nil, _, h, n, _ => by cases h; exact absurd rfl n
  | .cons e .nil, _, h, _, t => by
    cases h with
    | cons h1 h2 h3 => cases h3; exact m_one (h2.pt (and2 t).1)
  | .cons e (.cons e2 es), _, h, _, t => by
    cases h with
    | cons h1 h2 h3 =>
      have r := EsOk.bt (q := q) (pos := pos) h3 (by cases h3; simp) (and2 t).2
      cases h3 with
      | cons h4 h5 h6 => exact m_cons (h2.pt (and2 t).1) r
theorem n_and {W : WX} {X : Cx} {es : Es} {x : Expr} (h : PE X x (tAn K cl Δ W true es)) : PE X x (tE K cl Δ W (.and es)) := h.imp fun _ _ _ h => h
theorem n_or {W : WX} {X : Cx} {es : Es} {x : Expr} (h : PE X x (tAn K cl Δ W false es)) : PE X x (tE K cl Δ W (.or es)) := h.imp fun _ _ _ h => h
theorem m_and {W : WX} {X : Cx} {es : Es} {x : Expr} (h : PW X x (tAt K cl Δ W true es)) : PT X x (tT K cl Δ W (.and es)) := h.pt.imp fun _ _ _ h => h
theorem m_or {W : WX} {X : Cx} {es : Es} {x : Expr} (h : PW X x (tAt K cl Δ W false es)) : PT X x (tT K cl Δ W (.or es)) := h.pt.imp fun _ _ _ h => h
theorem subB_ok {a b : List Nat} (h : subB a b = true) : ∀ i, i ∈ a → i ∈ b := fun i hi => by
  have := List.all_eq_true.mp h i hi
  simpa using this
theorem disB_ok {a b : List Nat} (h : disB a b = true) : ∀ i, i ∈ a → i ∉ b := fun i hi => by
  have := List.all_eq_true.mp h i hi
  simpa using this
theorem owN_map {ow : List Nat} : (owN C ow).map (·.2) = ow := by
  unfold owN
  rw [List.map_map]
  exact List.map_id _
theorem attrBase_p {sc : Scope} {p : E} {y : Expr} {f : Str} {env : Env} (h : mP C sc p y = true) : attributeBase y f env (eval y env) = eval y env := by
  cases p with
  | var i => cases y <;> first | rfl | cases h
  | idx a i => cases y <;> first | rfl | cases h
  | _ => cases h
mutual
theorem sE {sc : Scope} {X : Cx} {W : WX} (m : MOk C P w K cl mg base Δ k) (x : XOk C.N P w K mg base k sc X) (tk : Takes X W) : ∀ (e : E) (y : Expr), mE C sc e y = true → EOk K cl Δ W X e y
  | .int i, y, h => by
    unfold mE at h
    split at h
    · have := of_decide_eq_true h; subst this; exact .of s_int rfl
    · cases h
  | .bl b, y, h => by
    unfold mE at h
    split at h
    · have := eq_of_beq h; subst this; exact .of s_bl rfl
    · cases h
  | .non, y, h => by
    unfold mE at h
    split at h
    · exact .of s_non rfl
    · cases h
  | .str s, y, h => by
    unfold mE at h
    split at h
    · have := of_decide_eq_true h; subst this; exact .of s_str rfl
    · cases h
  | .pow b e, y, h => by
    unfold mE at h
    split at h
    · obtain ⟨h1, h⟩ := and2 h
      obtain ⟨h2, h⟩ := and2 h
      obtain ⟨h3, h⟩ := and2 h
      obtain ⟨h4, h5⟩ := and2 h
      have h1 := of_decide_eq_true h1
      have h2 := of_decide_eq_true h2
      have h3 := of_decide_eq_true h3
      subst h1 h2 h3
      exact .of (s_pow (of_decide_eq_true h4) (of_decide_eq_true h5)) rfl
    · cases h
  | .glo u d, y, h => by
    unfold mE at h
    split at h
    · obtain ⟨h1, h⟩ := and2 h
      obtain ⟨h2, h⟩ := and2 h
      obtain ⟨h3, h4⟩ := and2 h
      have h1 := of_decide_eq_true h1
      subst h1
      exact .of (s_glo (x.glo h3) (by rw [x.hm]; exact m.gl _ _ (of_decide_eq_true h2)) (nb h4)) rfl
    · cases h
  | .var i, y, h => by
    unfold mE at h
    split at h
    · obtain ⟨h1, h2, h3, h4⟩ := x.name h
      exact .of (s_var h1 h2 h3 h4) rfl
    · cases h
  | .mv i, y, h => by
    unfold mE at h
    split at h
    · obtain ⟨h1, h2, h3, h4⟩ := x.name h
      exact .of (s_mv h1 h2 h3 h4) rfl
    · cases h
  | .fz i e, y, h => by
    unfold mE at h
    exact ⟨s_fz (sE m x tk e y h).pe, fun t => nomatch t⟩
  | .neg a, y, h => by
    unfold mE at h
    split at h
    · obtain ⟨h1, h2⟩ := and2 h
      have h1 := of_decide_eq_true h1
      subst h1
      exact ⟨s_neg (sE m x tk a _ h2).pe, fun t => nomatch t⟩
    · cases h
  | .bin o a b, y, h => by
    unfold mE at h
    split at h
    · obtain ⟨h1, h⟩ := and2 h
      obtain ⟨h2, h3⟩ := and2 h
      have h1 := of_decide_eq_true h1
      subst h1
      exact .of (s_bin x.hK (sE m x tk a _ h2).pe (sE m x tk b _ h3).pe) rfl
    · cases h
  | .cmp o a b, y, h => by
    unfold mE at h
    split at h
    · obtain ⟨h1, h⟩ := and2 h
      obtain ⟨h0, h⟩ := and2 h
      obtain ⟨h2, h3⟩ := and2 h
      have h1 := of_decide_eq_true h1
      subst h1
      have ha := (sE m x tk a _ h2).pe
      have hb := (sE m x tk b _ h3).pe
      exact ⟨s_cmp x.hK x.un ha hb (mark_no h0), fun _ => t_cmp x.hK x.un ha hb (mark_no h0)⟩
    · cases h
  | .chain o p a b c, y, h => by
    unfold mE at h
    split at h
    · obtain ⟨h1, h⟩ := and2 h
      obtain ⟨h0, h⟩ := and2 h
      obtain ⟨h9, h⟩ := and2 h
      obtain ⟨h2, h⟩ := and2 h
      obtain ⟨h3, h4⟩ := and2 h
      have h1 := of_decide_eq_true h1
      have h0 := of_decide_eq_true h0
      subst h1 h0
      have ha := (sE m x tk a _ h2).pe
      have hb := (sE m x tk b _ h3).pe
      have hc := (sE m x tk c _ h4).pe
      have hm : ∀ y z, noSet z = true → lastMarks [coper o, coper p] [y, z] = false := fun y z q => mark_no q
      exact ⟨s_chain x.hK x.un ha hb hc (hm _ _ h9), fun _ => t_chain x.hK x.un ha hb hc (hm _ _ h9)⟩
    · cases h
  | .not a, y, h => by
    unfold mE at h
    split at h
    · obtain ⟨h1, h2⟩ := and2 h
      have h1 := of_decide_eq_true h1
      subst h1
      have r := sE m x tk a _ h2
      exact ⟨s_not r.pe, fun t => t_not (r.pt t)⟩
    · cases h
  | .and es, y, h => by
    unfold mE at h
    split at h
    · obtain ⟨h1, h⟩ := and2 h
      obtain ⟨h2, h3⟩ := and2 h
      have h1 := of_decide_eq_true h1
      subst h1
      have r := sEs m x tk es _ h3
      have n : ∀ {l : List Expr}, (!isNil l) = true → l ≠ [] := fun q z => by subst z; cases q
      exact ⟨n_and (EsOk.bo (q := true) r (n h2)), fun t => m_and (EsOk.bt (q := true) r (n h2) t)⟩
    · cases h
  | .or es, y, h => by
    unfold mE at h
    split at h
    · obtain ⟨h1, h⟩ := and2 h
      obtain ⟨h2, h3⟩ := and2 h
      have h1 := of_decide_eq_true h1
      subst h1
      have r := sEs m x tk es _ h3
      have n : ∀ {l : List Expr}, (!isNil l) = true → l ≠ [] := fun q z => by subst z; cases q
      exact ⟨n_or (EsOk.bo (q := false) r (n h2)), fun t => m_or (EsOk.bt (q := false) r (n h2) t)⟩
    · cases h
  | .ite c a b, y, h => by
    unfold mE at h
    split at h
    · obtain ⟨h0, h⟩ := and2 h
      obtain ⟨h1, h⟩ := and2 h
      obtain ⟨h2, h3⟩ := and2 h
      exact ⟨s_ite ((sE m x tk c _ h1).pt h0) (sE m x tk a _ h2).pe (sE m x tk b _ h3).pe, fun t => nomatch t⟩
    · cases h
  | .tup es, y, h => by
    unfold mE at h
    split at h
    · exact .of (s_tup (sEs m x tk es _ h).pa) rfl
    · cases h
  | .lst es, y, h => by
    unfold mE at h
    split at h
    · exact .of (s_lst (sEs m x tk es _ h).pa) rfl
    · cases h
  | .dct t, y, h => by
    unfold mE at h
    split at h
    · exact .of s_dct rfl
    · cases h
  | .idx a i, y, h => by
    unfold mE at h
    split at h
    · obtain ⟨h0, h⟩ := and2 h
      obtain ⟨h1, h2⟩ := and2 h
      exact .of (s_idx x.un x.hK (sE m x tk a _ h1).pe (sE m x tk i _ h2).pe (plain_ix h0)) rfl
    · cases h
  | .sl10 a l, y, h => by
    unfold mE at h
    split at h
    · obtain ⟨h1, h2⟩ := and2 h
      exact .of (s_sl10 x.hK (sE m x tk a _ h1).pe (sE m x tk l _ h2).pe) rfl
    · cases h
  | .sl01 a l, y, h => by
    unfold mE at h
    split at h
    · obtain ⟨h1, h2⟩ := and2 h
      exact .of (s_sl01 x.hK (sE m x tk a _ h1).pe (sE m x tk l _ h2).pe) rfl
    · cases h
  | .sl11 a l u, y, h => by
    unfold mE at h
    split at h
    · obtain ⟨h1, h⟩ := and2 h
      obtain ⟨h2, h3⟩ := and2 h
      exact .of (s_sl11 x.hK (sE m x tk a _ h1).pe (sE m x tk l _ h2).pe (sE m x tk u _ h3).pe) rfl
    · cases h
  | .slr a, y, h => by
    unfold mE at h
    split at h
    · obtain ⟨h1, h⟩ := and2 h
      obtain ⟨h2, h3⟩ := and2 h
      have h1 := of_decide_eq_true h1
      have h2 := of_decide_eq_true h2
      subst h1 h2
      exact .of (s_slr x.hK (sE m x tk a _ h3).pe) rfl
    · cases h
  | .attr _ _, y, h => by unfold mE at h; cases h
  | .b1 o a, y, h => by
    unfold mE at h
    split at h
    · obtain ⟨h1, h⟩ := and2 h
      obtain ⟨h2, h⟩ := and2 h
      obtain ⟨h3, h⟩ := and2 h
      obtain ⟨h4, h5⟩ := and2 h
      have h1 := of_decide_eq_true h1
      subst h1
      obtain ⟨b1, b2⟩ := x.blt m h3
      exact .of (s_b1 x.un x.hK x.calm h4 b1 b2 (of_decide_eq_true h2) (sE m x tk a _ h5).pe) rfl
    · cases h
  | .b2 o a b, y, h => by
    unfold mE at h
    split at h
    · obtain ⟨h1, h⟩ := and2 h
      obtain ⟨h3, h⟩ := and2 h
      obtain ⟨h4, h⟩ := and2 h
      obtain ⟨h5, h⟩ := and2 h
      obtain ⟨h6, h7⟩ := and2 h
      have h1 := of_decide_eq_true h1
      subst h1
      obtain ⟨b1, b2⟩ := x.blt m h3
      exact .of (s_b2 x.calm h4 h5 b1 b2 (sE m x tk a _ h6).pe (sE m x tk b _ h7).pe) rfl
    · cases h
  | .isi a ts, y, h => by
    unfold mE at h
    split at h
    · obtain ⟨h1, hA⟩ := and2 h
      obtain ⟨h3, hB⟩ := and2 hA
      obtain ⟨h4, hC⟩ := and2 hB
      obtain ⟨h5, hD⟩ := and2 hC
      clear h hA hB hC
      have h1 := of_decide_eq_true h1
      subst h1
      obtain ⟨b1, b2⟩ := x.blt m h3
      have r := (sE m x tk a _ h5).pe
      split at hD
      · split at hD
        · obtain ⟨h6, h7⟩ := and2 hD
          have h6 := of_decide_eq_true h6
          subst h6
          obtain ⟨b3, b4⟩ := x.blt m h7
          exact .of (s_isi x.hK h4 b1 b2 b3 b4 r) rfl
        · cases hD
      · obtain ⟨h6, hE⟩ := and2 hD
        obtain ⟨h7, h8⟩ := and2 hE
        exact .of (s_isiT x.hK h4 b1 b2 (of_decide_eq_true h7) (tys_pa x m h6 h8) r) rfl
      · cases hD
    · cases h
  | .dget a k w, y, h => by
    unfold mE at h
    split at h
    · obtain ⟨h1, h⟩ := and2 h
      obtain ⟨h2, h⟩ := and2 h
      obtain ⟨h3, h⟩ := and2 h
      obtain ⟨h4, h⟩ := and2 h
      obtain ⟨h5, h⟩ := and2 h
      obtain ⟨h6, h⟩ := and2 h
      obtain ⟨h7, h8⟩ := and2 h
      have h1 := of_decide_eq_true h1
      subst h1
      exact .of (s_dget x.un x.hK (sE m x tk a _ h6).pe (sE m x tk k _ h7).pe (sE m x tk w _ h8).pe h3 h4 (attrBase_p h5) h2) rfl
    · cases h
  | .call j as, y, h => by
    unfold mE at h
    split at h
    · obtain ⟨h1, h⟩ := and2 h
      obtain ⟨h2, h⟩ := and2 h
      obtain ⟨h3, h⟩ := and2 h
      obtain ⟨h4, h5⟩ := and2 h
      obtain ⟨f, fd, pn, F, q1, q2, q3⟩ := m.fn _ _ _ (of_decide_eq_true h1)
      refine .of (s_call (j := j) (k := k) (f := f) (fd := fd) (pn := pn) ?_ x.room (x.glo h2) (by rw [x.hm]; exact q1) (by rw [x.hK]; exact q2) (by rw [x.hK]; exact q3) tk (nb h3) h4 (sAs m x tk as _ h5)) rfl
      rw [x.hP, x.hw, x.hK, x.hm, x.hb]
      exact F
    · cases h
  | .callO j a, y, h => by
    unfold mE at h
    split at h
    · obtain ⟨h1, h⟩ := and2 h
      obtain ⟨h2, h⟩ := and2 h
      obtain ⟨h3, h⟩ := and2 h
      obtain ⟨h4, h5⟩ := and2 h
      obtain ⟨f, fd, pn, F, q1, q2, q3⟩ := m.fn _ _ _ (of_decide_eq_true h1)
      refine .of (s_callO (j := j) (k := k) (f := f) (fd := fd) (pn := pn) ?_ x.room (x.glo h2) (by rw [x.hm]; exact q1) (by rw [x.hK]; exact q2) (by rw [x.hK]; exact q3) tk (nb h3) h4 (sE m x tk a _ h5).pe) rfl
      rw [x.hP, x.hw, x.hK, x.hm, x.hb]
      exact F
    · cases h
  | .mk _ _ _, y, h => by unfold mE at h; cases h
  | .mut0 u p, y, h => by
    unfold mE at h
    split at h
    · obtain ⟨h1, h⟩ := and2 h
      obtain ⟨h2, h3⟩ := and2 h
      have h1 := of_decide_eq_true h1
      subst h1
      exact .of (s_mut0 (sP (W := W) m x tk p _ h3) (attrBase_p h3) h2) rfl
    · cases h
  | .mut1 u p a, y, h => by
    unfold mE at h
    split at h
    · obtain ⟨h1, h⟩ := and2 h
      obtain ⟨h2, h⟩ := and2 h
      obtain ⟨h3, h⟩ := and2 h
      obtain ⟨h4, h5⟩ := and2 h
      have h1 := of_decide_eq_true h1
      subst h1
      exact .of (s_mut1 (sP (W := W) m x tk p _ h4) (sE m x tk a _ h5).pe h3 (attrBase_p h4) h2) rfl
    · cases h
  | .ins _ _ _, y, h => by unfold mE at h; cases h
  | .comp ow t it e, y, h => by
    unfold mE at h
    split at h
    · rename_i u tg iter ifs a s2 _
      obtain ⟨h1, h⟩ := and2 h
      obtain ⟨h2, h⟩ := and2 h
      obtain ⟨h3, h⟩ := and2 h
      obtain ⟨h4, h⟩ := and2 h
      obtain ⟨h5, h⟩ := and2 h
      obtain ⟨h6, h⟩ := and2 h
      obtain ⟨h7, h8⟩ := and2 h
      have h1 := isNil_nil h1
      have h2 := of_decide_eq_true h2
      subst h1 h2
      have bo := x.blkOk h3
      obtain ⟨i1, i2⟩ := sI (tg := tg) m x tk it iter h6
      refine .of (s_comp ⟨owN_map, x.calm, by rw [x.hN]; exact x.nd, i1, bo, fun s H D c fp => sT (W := W0) m (x.blk bo.kind s H D c fp) takes0 t tg h7, fun s H D c fp => (sE m (x.blk bo.kind s H D c fp) takes0 e u h8).pe, i2 _, h4, subB_ok h5⟩) rfl
    · cases h
  | .compI ow t it c e, y, h => by
    unfold mE at h
    split at h
    · rename_i u tg iter z a s2 _
      obtain ⟨h2, h⟩ := and2 h
      obtain ⟨h3, h⟩ := and2 h
      obtain ⟨h4, h⟩ := and2 h
      obtain ⟨h5, h⟩ := and2 h
      obtain ⟨h6, h⟩ := and2 h
      obtain ⟨h7, h⟩ := and2 h
      obtain ⟨h0, h⟩ := and2 h
      obtain ⟨h8, h9⟩ := and2 h
      have h2 := of_decide_eq_true h2
      subst h2
      have bo := x.blkOk h3
      obtain ⟨i1, i2⟩ := sI (tg := tg) m x tk it iter h6
      refine .of (s_compI ⟨owN_map, x.calm, by rw [x.hN]; exact x.nd, i1, bo, fun s H D c fp => sT (W := W0) m (x.blk bo.kind s H D c fp) takes0 t tg h7, fun s H D c fp => (sE m (x.blk bo.kind s H D c fp) takes0 e u h9).pe, i2 _, h4, subB_ok h5⟩ fun s H D l fp => (sE m (x.blk bo.kind s H D l fp) takes0 c z h8).pt h0) rfl
    · cases h
theorem sEs {sc : Scope} {X : Cx} {W : WX} (m : MOk C P w K cl mg base Δ k) (x : XOk C.N P w K mg base k sc X) (tk : Takes X W) : ∀ (es : Es) (ys : List Expr), mEs C sc es ys = true → EsOk K cl Δ W X es ys
  | .nil, ys, h => by
    unfold mEs at h
    have := isNil_nil h
    subst this
    exact .nil
  | .cons e es, ys, h => by
    unfold mEs at h
    split at h
    · obtain ⟨h1, h⟩ := and2 h
      obtain ⟨h2, h3⟩ := and2 h
      exact .cons h1 (sE m x tk e _ h2) (sEs m x tk es _ h3)
    · cases h
theorem sAs {sc : Scope} {X : Cx} {W : WX} (m : MOk C P w K cl mg base Δ k) (x : XOk C.N P w K mg base k sc X) (tk : Takes X W) : ∀ (as : As) (ys : List Expr), mAs C sc as ys = true → PA X ys (tAs K cl Δ W as)
  | .nil, ys, h => by
    unfold mAs at h
    have := isNil_nil h
    subst this
    exact as_nil
  | .ro e r, ys, h => by
    unfold mAs at h
    split at h
    · obtain ⟨h1, h⟩ := and2 h
      obtain ⟨h2, h3⟩ := and2 h
      exact as_ro h1 (sE m x tk e _ h2).pe (sAs m x tk r _ h3)
    · cases h
  | .mu p r, ys, h => by
    unfold mAs at h
    split at h
    · obtain ⟨h1, h⟩ := and2 h
      obtain ⟨h2, h3⟩ := and2 h
      exact as_mu h1 (sP (W := W) m x tk p _ h2) (sAs m x tk r _ h3)
    · cases h
theorem sP {sc : Scope} {X : Cx} {W : WX} (m : MOk C P w K cl mg base Δ k) (x : XOk C.N P w K mg base k sc X) (tk : Takes X W) : ∀ (p : E) (y : Expr), mP C sc p y = true → PE X y (tP K cl Δ p)
  | .var i, y, h => by
    unfold mP at h
    split at h
    · obtain ⟨h1, h2, h3, h4⟩ := x.name h
      exact p_var h1 h2 h3 h4
    · cases h
  | .idx a i, y, h => by
    unfold mP at h
    split at h
    · obtain ⟨h0, h⟩ := and2 h
      obtain ⟨h1, h2⟩ := and2 h
      exact p_idx (W := W) x.hK (sP (W := W) m x tk a _ h1) (sE m x tk i _ h2).pe (plain_ix h0)
    · cases h
  | .int _, y, h => by unfold mP at h; cases h
  | .bl _, y, h => by unfold mP at h; cases h
  | .non, y, h => by unfold mP at h; cases h
  | .str _, y, h => by unfold mP at h; cases h
  | .pow _ _, y, h => by unfold mP at h; cases h
  | .glo _ _, y, h => by unfold mP at h; cases h
  | .mv _, y, h => by unfold mP at h; cases h
  | .fz _ _, y, h => by unfold mP at h; cases h
  | .neg _, y, h => by unfold mP at h; cases h
  | .bin _ _ _, y, h => by unfold mP at h; cases h
  | .cmp _ _ _, y, h => by unfold mP at h; cases h
  | .chain _ _ _ _ _, y, h => by unfold mP at h; cases h
  | .not _, y, h => by unfold mP at h; cases h
  | .and _, y, h => by unfold mP at h; cases h
  | .or _, y, h => by unfold mP at h; cases h
  | .ite _ _ _, y, h => by unfold mP at h; cases h
  | .tup _, y, h => by unfold mP at h; cases h
  | .lst _, y, h => by unfold mP at h; cases h
  | .dct _, y, h => by unfold mP at h; cases h
  | .sl10 _ _, y, h => by unfold mP at h; cases h
  | .sl01 _ _, y, h => by unfold mP at h; cases h
  | .sl11 _ _ _, y, h => by unfold mP at h; cases h
  | .slr _, y, h => by unfold mP at h; cases h
  | .attr _ _, y, h => by unfold mP at h; cases h
  | .b1 _ _, y, h => by unfold mP at h; cases h
  | .b2 _ _ _, y, h => by unfold mP at h; cases h
  | .isi _ _, y, h => by unfold mP at h; cases h
  | .dget _ _ _, y, h => by unfold mP at h; cases h
  | .call _ _, y, h => by unfold mP at h; cases h
  | .callO _ _, y, h => by unfold mP at h; cases h
  | .mk _ _ _, y, h => by unfold mP at h; cases h
  | .mut0 _ _, y, h => by unfold mP at h; cases h
  | .mut1 _ _ _, y, h => by unfold mP at h; cases h
  | .ins _ _ _, y, h => by unfold mP at h; cases h
  | .comp _ _ _ _, y, h => by unfold mP at h; cases h
  | .compI _ _ _ _ _, y, h => by unfold mP at h; cases h
theorem sI {sc : Scope} {X : Cx} {W : WX} {tg : Expr} (m : MOk C P w K cl mg base Δ k) (x : XOk C.N P w K mg base k sc X) (tk : Takes X W) : ∀ (it : I) (y : Expr), mI C sc tg it y = true → PI X tg y (tI K cl Δ W it) ∧ ∀ env v, foldedSetIterable y env v = pure v
  | .seq a, y, h => by
    unfold mI at h
    obtain ⟨h1, h2⟩ := and2 h
    exact ⟨i_seq x.hK (sE m x tk a _ h2).pe, fun env => fold_no h1⟩
  | .range1 a, y, h => by
    unfold mI at h
    split at h
    · obtain ⟨h1, h⟩ := and2 h
      obtain ⟨h2, h⟩ := and2 h
      obtain ⟨h3, h4⟩ := and2 h
      have h1 := of_decide_eq_true h1
      subst h1
      obtain ⟨b1, b2⟩ := x.blt m h2
      exact ⟨i_range1 h3 b1 b2 (sE m x tk a _ h4).pe, fun env => fold_no rfl⟩
    · cases h
  | .range2 a b, y, h => by
    unfold mI at h
    split at h
    · obtain ⟨h1, h⟩ := and2 h
      obtain ⟨h2, h⟩ := and2 h
      obtain ⟨h3, h⟩ := and2 h
      obtain ⟨h4, h⟩ := and2 h
      obtain ⟨h5, h6⟩ := and2 h
      have h1 := of_decide_eq_true h1
      subst h1
      obtain ⟨b1, b2⟩ := x.blt m h2
      exact ⟨i_range2 h3 h4 b1 b2 (sE m x tk a _ h5).pe (sE m x tk b _ h6).pe, fun env => fold_no rfl⟩
    · cases h
  | .zip a b, y, h => by
    unfold mI at h
    split at h
    · obtain ⟨h1, h⟩ := and2 h
      obtain ⟨h0, h⟩ := and2 h
      obtain ⟨h2, h⟩ := and2 h
      obtain ⟨h3, h⟩ := and2 h
      obtain ⟨h4, h⟩ := and2 h
      obtain ⟨h5, h6⟩ := and2 h
      have h1 := of_decide_eq_true h1
      subst h1
      obtain ⟨b1, b2⟩ := x.blt m h2
      cases tg <;> first | cases h0 | skip
      exact ⟨i_zip x.hK h3 h4 b1 b2 (sE m x tk a _ h5).pe (sE m x tk b _ h6).pe, fun env => fold_no rfl⟩
    · cases h
  | .enum a, y, h => by
    unfold mI at h
    split at h
    · obtain ⟨h1, h⟩ := and2 h
      obtain ⟨h0, h⟩ := and2 h
      obtain ⟨h2, h⟩ := and2 h
      obtain ⟨h3, h4⟩ := and2 h
      have h1 := of_decide_eq_true h1
      subst h1
      obtain ⟨b1, b2⟩ := x.blt m h2
      cases tg <;> first | cases h0 | skip
      exact ⟨i_enum x.hK h3 b1 b2 (sE m x tk a _ h4).pe, fun env => fold_no rfl⟩
    · cases h
  | .rev a, y, h => by
    unfold mI at h
    split at h
    · obtain ⟨h1, h⟩ := and2 h
      obtain ⟨h2, h⟩ := and2 h
      obtain ⟨h3, h4⟩ := and2 h
      have h1 := of_decide_eq_true h1
      subst h1
      obtain ⟨b1, b2⟩ := x.blt m h2
      exact ⟨i_rev x.hK h3 b1 b2 (sE m x tk a _ h4).pe, fun env => fold_no rfl⟩
    · cases h
theorem sT {sc : Scope} {X : Cx} {W : WX} (m : MOk C P w K cl mg base Δ k) (x : XOk C.N P w K mg base k sc X) (tk : Takes X W) : ∀ (t : T) (y : Expr), mT C sc t y = true → PG X y (tG K cl Δ t)
  | .name i, y, h => by
    unfold mT at h
    split at h
    · obtain ⟨h1, h2⟩ := and2 h
      obtain ⟨l1, l2⟩ := x.lc h2
      exact g_name (by rw [x.hN]; exact x.nd) (by rw [x.hN]; exact of_decide_eq_true h1) l1 l2
    · cases h
  | .tup ts, y, h => by
    unfold mT at h
    split at h
    · obtain ⟨h1, h⟩ := and2 h
      obtain ⟨h2, h3⟩ := and2 h
      exact g_tup x.hK x.calm (sTs (W := W) m x tk ts _ h3) h1 (of_decide_eq_true h2)
    · cases h
  | .idx p i, y, h => by
    unfold mT at h
    split at h
    · obtain ⟨h0, h⟩ := and2 h
      obtain ⟨h1, h2⟩ := and2 h
      refine g_idx (W := W) x.hK trivial (sP (W := W) m x tk p _ h1) (sE m x tk i _ h2).pe ?_
      rename_i z _ _
      cases z <;> first | (intro v; rfl) | cases h0
    · cases h
  | .dix p es, y, h => by
    unfold mT at h
    split at h
    · obtain ⟨h1, h2⟩ := and2 h
      exact g_dix x.un (sP (W := W) m x tk p _ h1) (sEs m x tk es _ h2).pa
    · cases h
  | .attr _ _, y, h => by unfold mT at h; cases h
theorem sTs {sc : Scope} {X : Cx} {W : WX} (m : MOk C P w K cl mg base Δ k) (x : XOk C.N P w K mg base k sc X) (tk : Takes X W) : ∀ (ts : Ts) (ys : List Expr), mTs C sc ts ys = true → PGs X ys (tGs K cl Δ ts)
  | .nil, ys, h => by
    unfold mTs at h
    have := isNil_nil h
    subst this
    exact gs_nil
  | .cons t ts, ys, h => by
    unfold mTs at h
    split at h
    · obtain ⟨h1, h⟩ := and2 h
      obtain ⟨h2, h3⟩ := and2 h
      exact gs_cons h1 (sT (W := W) m x tk t _ h2) (sTs (W := W) m x tk ts _ h3)
    · cases h
end
end
end Vi

set_option Elab.async false
set_option linter.all false
set_option maxRecDepth 100000
set_option maxHeartbeats 4000000
/-! Vi28: what matches keeps to its reading: statements. -/
namespace Vi
open PySem PySem.Spec L2
theorem ss_two {y z : Str} {p q pt pt2 : Pos} {kt k2 : Nat} {u v : Expr} {env : Env} (hk : env.scope.kind = .function) (hy : env.scope.names.lookup y = some .local) (hz : env.scope.names.lookup z = some .local) (hl : (p.line == q.line) = true) (hne : y ≠ z)
    (hu : nost u = true) (hv : nost v = true) (h1 : ([u, v].all (foldedForSure 8)) = false) (h2 : ([u, v].all (constantsAlone 8)) = false) : swappedStores [.Tuple [.Name y p, .Name z q] kt pt] (.Tuple [u, v] k2 pt2) env = pure (some [y, z]) := by
  have ky : env.kindOf y = some .local := hy
  have kz : env.kindOf z = some .local := hz
  have hb : env.blockKind = .function := by unfold Env.blockKind; rw [hk]; rfl
  have st : ∀ x : Expr, nost x = true → (fun x : Expr => match x with | .Starred .. => true | _ => false) x = false := fun x hx => by cases x <;> first | rfl | cases hx
  have hs : ([u, v].any fun x => match x with | .Starred .. => true | _ => false) = false := by
    rw [List.any_cons, List.any_cons, List.any_nil]
    have e1 := st u hu
    have e2 := st v hv
    simp only at e1 e2
    rw [e1, e2]
    rfl
  have hl2 : q.line = p.line := (eq_of_beq hl).symm
  have hzy : (z == y) = false := beq_eq_false_iff_ne.mpr (Ne.symm hne)
  have hyz : (y == z) = false := beq_eq_false_iff_ne.mpr hne
  have e : (([y, z] : List Str).eraseDups.length != ([y, z] : List Str).length) = false := by
    simp [List.eraseDups_cons, List.filter_cons, hzy, hyz]
  have hn : ([.Name y p, .Name z q] : List Expr).filterMap (fun x => match x with
    | .Name id pos => if (env.kindOf id == some .local && pos.line == p.line) = true then some id else none
    | _ => none) = [y, z] := by
    have a1 : (env.kindOf y == some NameKind.local && p.line == p.line) = true := by rw [ky]; simp
    have a2 : (env.kindOf z == some NameKind.local && q.line == p.line) = true := by rw [kz, hl2]; simp
    simp only [List.filterMap_cons, List.filterMap_nil, a1, a2, if_true]
  unfold swappedStores
  have hp : (Expr.Name y p).pos = p := rfl
  dsimp only [pure_bind]
  simp only [hb, List.head?_cons, Option.map_some, Option.getD_some, hp]
  generalize hnm : List.filterMap _ _ = names
  have hnm2 : names = [y, z] := hnm.symm.trans hn
  subst hnm2
  refine (if_neg (by simp)).trans ?_
  refine (if_neg (fun q => Bool.false_ne_true (hs.symm.trans q))).trans ?_
  refine (if_neg (fun hq => ?_)).trans ?_
  · have e2 : (([y, z] : List Str).length != [Expr.Name y p, Expr.Name z q].length || ([y, z] : List Str).eraseDups.length != ([y, z] : List Str).length) = false := by
      rw [e]; rfl
    rw [e2] at hq; cases hq
  refine (if_neg (fun q => Bool.false_ne_true (h1.symm.trans q))).trans ?_
  refine (if_neg (fun q => Bool.false_ne_true (h2.symm.trans q))).trans ?_
  rfl
section
variable {C : Cfg} {P : Program} {w : World} {K : PySem.W.Frag} {cl : Nat → Addr} {mg : Str → Option Value} {base : Heap} {Δ : Dl} {k : Nat}
theorem compOk_of {sc : Scope} {X : Cx} {W : WX} {ow : List Nat} {t : T} {it : I} {e : E} {y : Expr} {gens : List Comprehension} {s2 : Scope} {pos : Pos} (m : MOk C P w K cl mg base Δ k) (x : XOk C.N P w K mg base k sc X) (tk : Takes X W) (h : mE C sc (.comp ow t it e) (.ListComp y gens s2 pos) = true) :
    ∃ tg iter, gens = [⟨tg, iter, [], 0⟩] ∧ CompOk K cl Δ W X ow (owN C ow) t it e tg iter y s2 := by
  unfold mE at h
  split at h
  · rename_i u tg iter ifs a s3 _ heq
    cases heq
    obtain ⟨h1, h⟩ := and2 h
    obtain ⟨h2, h⟩ := and2 h
    obtain ⟨h3, h⟩ := and2 h
    obtain ⟨h4, h⟩ := and2 h
    obtain ⟨h5, h⟩ := and2 h
    obtain ⟨h6, h⟩ := and2 h
    obtain ⟨h7, h8⟩ := and2 h
    have h1 := isNil_nil h1
    have h2 := of_decide_eq_true h2
    subst h1 h2
    have bo := x.blkOk h3
    obtain ⟨i1, i2⟩ := sI (tg := tg) m x tk it iter h6
    exact ⟨tg, iter, rfl, owN_map, x.calm, by rw [x.hN]; exact x.nd, i1, bo, fun s H D c fp => sT (W := W0) m (x.blk bo.kind s H D c fp) takes0 t tg h7, fun s H D c fp => (sE m (x.blk bo.kind s H D c fp) takes0 e _ h8).pe, i2 _, h4, subB_ok h5⟩
  · cases h
theorem compIOk_of {sc : Scope} {X : Cx} {W : WX} {ow : List Nat} {t : T} {it : I} {c e : E} {y : Expr} {gens : List Comprehension} {s2 : Scope} {pos : Pos} (m : MOk C P w K cl mg base Δ k) (x : XOk C.N P w K mg base k sc X) (tk : Takes X W) (h : mE C sc (.compI ow t it c e) (.ListComp y gens s2 pos) = true) :
    ∃ tg iter z, gens = [⟨tg, iter, [z], 0⟩] ∧ CompOk K cl Δ W X ow (owN C ow) t it e tg iter y s2 ∧ ∀ (s : Shared) (H : Hp) (D : Addr) (l : List (Str × Addr)) (fp : List Addr), PT (X.blk s H s2 (compEnvC s2 l D X.env) fp) z (tT K cl Δ W0 c) := by
  unfold mE at h
  split at h
  · rename_i u tg iter z a s3 _ heq
    cases heq
    obtain ⟨h2, h⟩ := and2 h
    obtain ⟨h3, h⟩ := and2 h
    obtain ⟨h4, h⟩ := and2 h
    obtain ⟨h5, h⟩ := and2 h
    obtain ⟨h6, h⟩ := and2 h
    obtain ⟨h7, h⟩ := and2 h
    obtain ⟨h0, h⟩ := and2 h
    obtain ⟨h8, h9⟩ := and2 h
    have h2 := of_decide_eq_true h2
    subst h2
    have bo := x.blkOk h3
    obtain ⟨i1, i2⟩ := sI (tg := tg) m x tk it iter h6
    exact ⟨tg, iter, z, rfl, ⟨owN_map, x.calm, by rw [x.hN]; exact x.nd, i1, bo, fun s H D c fp => sT (W := W0) m (x.blk bo.kind s H D c fp) takes0 t tg h7, fun s H D c fp => (sE m (x.blk bo.kind s H D c fp) takes0 e _ h9).pe, i2 _, h4, subB_ok h5⟩, fun s H D l fp => (sE m (x.blk bo.kind s H D l fp) takes0 c z h8).pt h0⟩
  · cases h
theorem nin_of {M : List Nat} {i : Nat} (h : (!M.contains i) = true) : i ∉ M := fun z => by
  have : M.contains i = true := by simpa using z
  rw [this] at h; cases h
mutual
theorem sS {sc : Scope} {X : Cx} {W : WX} (m : MOk C P w K cl mg base Δ k) (x : XOk C.N P w K mg base k sc X) (tk : Takes X W) (pw : PassesOwn (model X.prog X.w) X.A X.env X.xe) : ∀ (M : List Nat) (s : S) (y : Stmt), mS C sc M s y = true → PS X y (tS K cl Δ W M s)
  | M, .expr e, y, h => by
    unfold mS at h
    split at h
    · obtain ⟨h1, h2⟩ := and2 h
      exact s_expr (sE m x tk e _ h2).pe (nb h1)
    · cases h
  | M, .set i e, y, h => by
    unfold mS at h
    split at h
    · rename_i u p z q
      obtain ⟨h1, hA⟩ := and2 h
      obtain ⟨h2, hB⟩ := and2 hA
      obtain ⟨h3, hC⟩ := and2 hB
      obtain ⟨h4, hD⟩ := and2 hC
      clear h hA hB hC
      obtain ⟨l1, l2⟩ := x.lc h3
      have hN : X.N.Nodup := by rw [x.hN]; exact x.nd
      have hi : X.N[i]? = some u := by rw [x.hN]; exact of_decide_eq_true h2
      split at hD
      · obtain ⟨k0, hE⟩ := and2 hD
        rcases Bool.or_eq_true_iff.mp hE with hcell | hE
        · exact s_setX (nin_of h1) hN hi l1 l2 (sE m x tk e _ h4).pe (sw_cell (x.cel u (of_decide_eq_true hcell)).1)
        obtain ⟨k1, hF⟩ := and2 hE
        obtain ⟨k2, k3⟩ := and2 hF
        have ky := x.loc u (of_decide_eq_true k1)
        cases e with
        | comp ow t it el =>
          obtain ⟨tg, iter, rfl, co⟩ := compOk_of m x tk h4
          exact s_setC (nin_of h1) hi x.kind ky k2 (nb k3) co
        | compI ow t it c el =>
          obtain ⟨tg, iter, z, rfl, co, ct⟩ := compIOk_of m x tk h4
          exact s_setCI (nin_of h1) hi x.kind ky k2 (nb k3) co ct
        | _ => cases k0
      · exact s_set (nin_of h1) hN hi l1 l2 (sE m x tk e _ h4).pe (nb hD)
    · cases h
  | M, .asg t e, y, h => by
    unfold mS at h
    split at h
    · obtain ⟨h1, h⟩ := and2 h
      obtain ⟨h2, h⟩ := and2 h
      obtain ⟨h3, h⟩ := and2 h
      obtain ⟨h4, h⟩ := and2 h
      obtain ⟨h5, h6⟩ := and2 h
      exact s_asg (disB_ok h1) (sT (W := W) m x tk t _ h5) (sE m x tk e _ h6).pe h2 (nb h3) h4
    · cases h
  | M, .par i j a b, y, h => by
    unfold mS at h
    split at h
    · obtain ⟨h1, h⟩ := and2 h
      obtain ⟨h2, h⟩ := and2 h
      obtain ⟨h3, h⟩ := and2 h
      obtain ⟨h4, h⟩ := and2 h
      obtain ⟨h5, h⟩ := and2 h
      obtain ⟨h6, h⟩ := and2 h
      obtain ⟨h7, h⟩ := and2 h
      obtain ⟨h8, h⟩ := and2 h
      obtain ⟨h9, h⟩ := and2 h
      obtain ⟨k1, h⟩ := and2 h
      obtain ⟨k2, h⟩ := and2 h
      obtain ⟨k3, h⟩ := and2 h
      obtain ⟨k4, h⟩ := and2 h
      obtain ⟨k5, k6⟩ := and2 h
      have ly := x.loc _ (of_decide_eq_true h5)
      have lz := x.loc _ (of_decide_eq_true h6)
      exact s_par (nin_of h1) (nin_of h2) x.calm (by rw [x.hN]; exact x.nd) (by rw [x.hN]; exact of_decide_eq_true h3) (by rw [x.hN]; exact of_decide_eq_true h4) ly lz (of_decide_eq_true h7) (es_cons k1 (sE m x tk a _ k5).pe (es_cons k2 (sE m x tk b _ k6).pe es_nil))
        (ss_two x.kind ly lz h8 (of_decide_eq_true h9) k1 k2 (nb k3) (nb k4))
    · cases h
  | M, .aug i o e, y, h => by
    unfold mS at h
    split at h
    · obtain ⟨h1, h⟩ := and2 h
      obtain ⟨h2, h⟩ := and2 h
      obtain ⟨h3, h⟩ := and2 h
      obtain ⟨h4, h5⟩ := and2 h
      have h2 := of_decide_eq_true h2
      subst h2
      obtain ⟨l1, l2⟩ := x.lc h4
      exact s_aug (nin_of h1) (by rw [x.hN]; exact x.nd) (by rw [x.hN]; exact of_decide_eq_true h3) l1 l2 (sE m x tk e _ h5).pe
    · cases h
  | M, .augI p i o e, y, h => by
    unfold mS at h
    split at h
    · rename_i oy oz tp oq ou ps
      obtain ⟨h1, h⟩ := and2 h
      obtain ⟨h2, h⟩ := and2 h
      obtain ⟨h3, h⟩ := and2 h
      obtain ⟨h4, h5⟩ := and2 h
      have h1 := of_decide_eq_true h1
      subst h1
      refine s_augI x.hK (sP (W := W) m x tk p _ h3) (sE m x tk i _ h4).pe (sE m x tk e _ h5).pe ?_
      intro ov iv new
      cases oz <;> first | rfl | cases h2
    · cases h
  | M, .iff c a b, y, h => by
    unfold mS at h
    split at h
    · obtain ⟨h1, h⟩ := and2 h
      obtain ⟨h2, h⟩ := and2 h
      obtain ⟨h3, h4⟩ := and2 h
      exact s_if ((sE m x tk c _ h2).pt h1) (sSs m x tk pw M a _ h3) (sSs m x tk pw M b _ h4)
    · cases h
  | M, .whl c b, y, h => by
    unfold mS at h
    split at h
    · obtain ⟨h1, h⟩ := and2 h
      obtain ⟨h2, h⟩ := and2 h
      obtain ⟨h3, h4⟩ := and2 h
      have h1 := isNil_nil h1
      subst h1
      exact s_whl pw ((sE m x tk c _ h3).pt h2) (sSs m x tk pw M b _ h4)
    · cases h
  | M, .fo t it b, y, h => by
    unfold mS at h
    split at h
    · obtain ⟨h1, h⟩ := and2 h
      obtain ⟨h2, h⟩ := and2 h
      obtain ⟨h3, h⟩ := and2 h
      obtain ⟨h4, h⟩ := and2 h
      obtain ⟨h5, h6⟩ := and2 h
      have h1 := isNil_nil h1
      subst h1
      exact s_for pw x.calm (sI m x tk it _ h4).1 (sT (W := W) m x tk t _ h5) (sSs m x tk pw (M ++ srcs it) b _ h6) (fold_no h2) (disB_ok h3)
    · cases h
  | M, .fom j i b, y, h => by
    unfold mS at h
    split at h
    · obtain ⟨h1, h⟩ := and2 h
      obtain ⟨h2, h⟩ := and2 h
      obtain ⟨h3, h⟩ := and2 h
      obtain ⟨h4, h⟩ := and2 h
      obtain ⟨h5, h6⟩ := and2 h
      have h1 := isNil_nil h1
      subst h1
      obtain ⟨l1, l2⟩ := x.lc h4
      obtain ⟨v1, v2, v3, v4⟩ := x.name h5
      exact s_fom pw x.calm x.hK (by rw [x.hN]; exact x.nd) (by rw [x.hN]; exact of_decide_eq_true h3) l1 l2 (s_var v1 v2 v3 v4) (sSs m x tk pw (j :: (M ++ [i])) b _ h6) (fun _ => rfl) (nin_of h2)
    · cases h
  | M, .fot j e b, y, h => by
    unfold mS at h
    split at h
    · obtain ⟨h1, h⟩ := and2 h
      obtain ⟨h2, h⟩ := and2 h
      obtain ⟨h3, h⟩ := and2 h
      obtain ⟨h4, h⟩ := and2 h
      obtain ⟨h5, h⟩ := and2 h
      obtain ⟨h6, h7⟩ := and2 h
      have h1 := isNil_nil h1
      subst h1
      obtain ⟨l1, l2⟩ := x.lc h5
      exact s_fot pw x.calm x.hK (by rw [x.hN]; exact x.nd) (by rw [x.hN]; exact of_decide_eq_true h4) l1 l2 (sE m x tk e _ h6).pe (sSs m x tk pw (j :: M) b _ h7) (fold_no h2) (nin_of h3)
    · cases h
  | M, .ret e, y, h => by
    unfold mS at h
    split at h
    · exact s_ret (sE m x tk e _ h).pe
    · cases h
  | M, .ret0, y, h => by
    unfold mS at h
    split at h
    · exact s_ret0
    · cases h
  | M, .pass, y, h => by
    unfold mS at h
    split at h
    · exact s_pass
    · cases h
  | M, .brk, y, h => by
    unfold mS at h
    split at h
    · exact s_brk
    · cases h
  | M, .cont, y, h => by
    unfold mS at h
    split at h
    · exact s_cont
    · cases h
  | M, .doc, y, h => by
    unfold mS at h
    split at h
    · exact s_doc
    · cases h
  | M, .drop _, y, h => by unfold mS at h; cases h
  | M, .never, y, h => ⟨fun pins s σ H D I ⟨env, fe, se, g, q⟩ => q.elim⟩
theorem sSs {sc : Scope} {X : Cx} {W : WX} (m : MOk C P w K cl mg base Δ k) (x : XOk C.N P w K mg base k sc X) (tk : Takes X W) (pw : PassesOwn (model X.prog X.w) X.A X.env X.xe) : ∀ (M : List Nat) (ss : Ss) (ys : List Stmt), mSs C sc M ss ys = true → PSs X ys (tSs K cl Δ W M ss)
  | M, .nil, ys, h => by
    unfold mSs at h
    have := isNil_nil h
    subst this
    exact ss_nil
  | M, .cons s ss, ys, h => by
    unfold mSs at h
    split at h
    · exact ss_drop (sSs m x tk pw M ss ys h)
    · split at h
      · obtain ⟨h1, h2⟩ := and2 h
        exact ss_cons (sS m x tk pw M s _ h1) (sSs m x tk pw M ss _ h2)
      · cases h
end
end
end Vi

set_option Elab.async false
set_option linter.all false
set_option maxRecDepth 100000
set_option maxHeartbeats 4000000
/-! Vi29: functions, all of them, by depth. -/
namespace Vi
open PySem PySem.Spec L2
def muS : Nat → List Bool → List Nat
  | _, [] => []
  | n, true :: r => n :: muS (n + 1) r
  | n, false :: r => muS (n + 1) r
theorem muS_mem : ∀ {ms : List Bool} {n i : Nat}, ms[i]? = some true → n + i ∈ muS n ms
  | [], n, i, h => by simp at h
  | true :: r, n, 0, h => by show n + 0 ∈ n :: muS (n + 1) r; simp
  | false :: r, n, 0, h => by simp at h
  | true :: r, n, i + 1, h => by
    have q := muS_mem (n := n + 1) (show r[i]? = some true by simpa using h)
    show n + (i + 1) ∈ n :: muS (n + 1) r
    rw [show n + (i + 1) = n + 1 + i by omega]
    exact List.mem_cons_of_mem _ q
  | false :: r, n, i + 1, h => by
    have q := muS_mem (n := n + 1) (show r[i]? = some true by simpa using h)
    show n + (i + 1) ∈ muS (n + 1) r
    rw [show n + (i + 1) = n + 1 + i by omega]
    exact q
section
variable {K : PySem.W.Frag} {cl : Nat → Addr} {W : WX} {Δ : Dl} {H H0 H1 H2 H3 : Hp} {env e : List D} {σ σ1 σ2 σ3 : St} {fe se fe0 se0 fe1 se1 fe2 se2 : Nat → List Addr}
/-- the parts of a list, by number -/
theorem Rs.funs : ∀ {ds : List D} {vs : List V} {f s : List Addr}, Rs K cl H ds vs f s → f.Nodup → ∃ fe se : Nat → List Addr, (∀ i d, ds[i]? = some d → ∃ v, vs[i]? = some v ∧ R K cl H d v (fe i) (se i)) ∧ (∀ i, ds.length ≤ i → fe i = [] ∧ se i = []) ∧
    (∀ i, (fe i).Nodup) ∧ (∀ i j a, i ≠ j → a ∈ fe i → a ∉ fe j) ∧ (∀ i a, a ∈ fe i → a ∈ f) ∧ (∀ i a, a ∈ se i → a ∈ s)
  | [], _, _, _, h, _ => by
    cases h
    exact ⟨fun _ => [], fun _ => [], fun i d e => by simp at e, fun _ _ => ⟨rfl, rfl⟩, fun _ => List.nodup_nil, fun _ _ _ _ z => (nomatch z), fun _ _ z => (nomatch z), fun _ _ z => (nomatch z)⟩
  | d :: ds, _, _, _, h, nd => by
    cases h with
    | @cons _ _ v vs f1 f2 s1 s2 h1 h2 =>
      obtain ⟨n1, n2, n3⟩ := List.nodup_append.mp nd
      obtain ⟨fe, se, k1, k2, k3, k4, k5, k6⟩ := Rs.funs h2 n2
      refine ⟨fun i => match i with | 0 => f1 | i + 1 => fe i, fun i => match i with | 0 => s1 | i + 1 => se i, fun i d' e => ?_, fun i hi => ?_, fun i => ?_, fun i j a hij ha => ?_, fun i a ha => ?_, fun i a ha => ?_⟩
      · cases i with
        | zero => simp at e; subst e; exact ⟨v, by simp, h1⟩
        | succ i =>
          obtain ⟨v', q1, q2⟩ := k1 i d' (by simpa using e)
          exact ⟨v', by simpa using q1, q2⟩
      · cases i with
        | zero => simp at hi
        | succ i => exact k2 i (by simpa using hi)
      · cases i with
        | zero => exact n1
        | succ i => exact k3 i
      · cases i with
        | zero =>
          cases j with
          | zero => exact absurd rfl hij
          | succ j => exact fun z => n3 a ha a (k5 j a z) rfl
        | succ i =>
          cases j with
          | zero => exact fun z => n3 a z a (k5 i a ha) rfl
          | succ j => exact k4 i j a (fun z => hij (by rw [z])) ha
      · cases i with
        | zero => exact List.mem_append_left _ ha
        | succ i => exact List.mem_append_right _ (k5 i a ha)
      · cases i with
        | zero => exact List.mem_append_left _ ha
        | succ i => exact List.mem_append_right _ (k6 i a ha)
/-- at the entry -/
theorem GE.enter {ds : List D} {vs : List V} {f s : List Addr} {N : List Str} {m : Nat} (h : Rs K cl H ds vs f s) (nd : f.Nodup) (dj : ∀ a, a ∈ f → a ∉ s) (hm : ds.length + m = N.length) : ∃ fe se, GE K cl H (ds ++ List.replicate m .hole) (L2.start N vs) fe se ∧ (∀ i a, a ∈ fe i → a ∈ f) ∧ ∀ i a, a ∈ se i → a ∈ s := by
  obtain ⟨fe, se, k1, k2, k3, k4, k5, k6⟩ := Rs.funs h nd
  have hl := h.length
  refine ⟨fe, se, ⟨?_, fun i d e => ?_, fun i hi => ?_, k3, k4, fun i j a ha hb => dj a (k5 i a ha) (k6 j a hb)⟩, k5, k6⟩
  · unfold L2.start
    simp
    omega
  · by_cases hi : i < ds.length
    · rw [List.getElem?_append_left hi] at e
      obtain ⟨v, q1, q2⟩ := k1 i d e
      refine .inr ⟨v, ?_, q2⟩
      unfold L2.start
      rw [List.getElem?_append_left (by simp; omega), List.getElem?_map, q1]
      rfl
    · rw [List.getElem?_append_right (by omega)] at e
      rw [List.getElem?_replicate] at e
      split at e
      · cases e
        exact .inl ⟨rfl, (k2 i (by omega)).1, (k2 i (by omega)).2⟩
      · cases e
  · exact k2 i (by simp at hi; omega)
theorem start_at {N : List Str} {vs : List V} {i : Nat} {v : V} (h : vs[i]? = some v) : (L2.start N vs)[i]? = some (some v) := by
  have hi : i < vs.length := (List.getElem?_eq_some_iff.mp h).1
  unfold L2.start
  rw [List.getElem?_append_left (by simpa using hi), List.getElem?_map, h]
  rfl
theorem outsOf_true {d : D} {ms : List Bool} {env : List D} (h : d ≠ .hole) : outsOf (true :: ms) (d :: env) = (match outsOf ms env with
    | some l => some (d :: l)
    | none => none) := by
  cases d <;> first | rfl | exact absurd rfl h
/-- what is handed back -/
theorem outs_ok (g : GE K cl H e σ fe se) : ∀ {ms : List Bool} {env : List D} {vs : List V} {n : Nat} {l : List D}, outsOf ms env = some l → (∀ i, env[i]? = e[n + i]?) → ms.length ≤ vs.length → (∀ i v, ms[i]? = some true → vs[i]? = some v → σ[n + i]? = some (some v)) →
    ∃ fo so, Rs K cl H l (selV ms vs) fo so ∧ fo.Nodup ∧ (∀ a, a ∈ fo → ∃ i, n ≤ i ∧ a ∈ fe i) ∧ ∀ a, a ∈ so → ∃ i, a ∈ se i
  | [], env, vs, n, l, h, _, _, _ => by
    have h : some [] = some l := by cases env <;> exact h
    cases h
    refine ⟨[], [], ?_, List.nodup_nil, fun _ z => (nomatch z), fun _ z => (nomatch z)⟩
    cases vs <;> exact .nil
  | b :: ms, env, [], n, l, h, _, hl, _ => by simp at hl
  | true :: ms, [], v :: vs, n, l, h, _, _, _ => by cases h
  | false :: ms, [], v :: vs, n, l, h, _, _, _ => by cases h
  | true :: ms, d :: env, v :: vs, n, l, h, he, hl, hσ => by
    have hd : e[n]? = some d := by
      have := he 0
      simpa using this.symm
    have step : ∀ (l' : List D), outsOf ms env = some l' → ∃ fo so, Rs K cl H l' (selV ms vs) fo so ∧ fo.Nodup ∧ (∀ a, a ∈ fo → ∃ i, n + 1 ≤ i ∧ a ∈ fe i) ∧ ∀ a, a ∈ so → ∃ i, a ∈ se i := fun l' hl' =>
      outs_ok g hl' (fun i => by
        have := he (i + 1)
        simpa [Nat.add_assoc, Nat.add_comm 1 i] using this) (by simpa using hl) (fun i v' h1 h2 => by
        have := hσ (i + 1) v' (by simpa using h1) (by simpa using h2)
        rw [show n + 1 + i = n + (i + 1) by omega]; exact this)
    have h : d ≠ .hole ∧ ∃ l', outsOf ms env = some l' ∧ l = d :: l' := by
      have hne : d ≠ .hole := fun z => by subst z; cases h
      refine ⟨hne, ?_⟩
      rw [outsOf_true hne] at h
      split at h
      · rename_i l' hl'
        cases h
        exact ⟨l', hl', rfl⟩
      · cases h
    obtain ⟨hne, l', hl', rfl⟩ := h
    obtain ⟨fo, so, r, nd, h1, h2⟩ := step l' hl'
    rcases g.slot n d hd with ⟨z, _⟩ | ⟨v', z1, z2⟩
    · exact absurd z hne
    · have := hσ 0 v (by simp) (by simp)
      rw [Nat.add_zero, z1] at this
      cases this
      refine ⟨fe n ++ fo, se n ++ so, .cons z2 r, List.nodup_append.mpr ⟨g.nd n, nd, fun a ha b hb q => ?_⟩, fun a ha => ?_, fun a ha => ?_⟩
      · subst q
        obtain ⟨i, i1, i2⟩ := h1 a hb
        exact g.dj n i a (by omega) ha i2
      · rcases List.mem_append.mp ha with z | z
        · exact ⟨n, Nat.le_refl _, z⟩
        · obtain ⟨i, i1, i2⟩ := h1 a z
          exact ⟨i, by omega, i2⟩
      · rcases List.mem_append.mp ha with z | z
        · exact ⟨n, z⟩
        · exact h2 a z
  | false :: ms, d :: env, v :: vs, n, l, h, he, hl, hσ => by
    have h : outsOf ms env = some l := h
    obtain ⟨fo, so, r, nd, h1, h2⟩ := outs_ok (n := n + 1) (vs := vs) g h (fun i => by
        have := he (i + 1)
        simpa [Nat.add_assoc, Nat.add_comm 1 i] using this) (by simpa using hl) (fun i v' h1 h2 => by
        have := hσ (i + 1) v' (by simpa using h1) (by simpa using h2)
        rw [show n + 1 + i = n + (i + 1) by omega]; exact this)
    exact ⟨fo, so, r, nd, fun a ha => by obtain ⟨i, i1, i2⟩ := h1 a ha; exact ⟨i, by omega, i2⟩, h2⟩
/-- a body does what its promise says -/
theorem body_ok {g : Fn} {N : List Str} {vs : List V} {Q : VK} {E : XK} (hn : N.length = g.nn) (hnn : g.mu.length ≤ g.nn) (h : spF K cl g.mu (runF Δ g) vs H Q E) : tSs K cl Δ (fun cls d _ H' => E cls d H') (muS 0 g.mu) g.body { nx := fun _ H' => Q .non H', rt := Q } (L2.start N vs) H := by
  obtain ⟨ds, fl, sl, rs, nd, dj, h⟩ := h
  unfold runF at h
  split at h
  · rename_i hlen
    have hvl := rs.length
    · obtain ⟨fe, se, ge, k1, k2⟩ := GE.enter (m := g.nn - g.mu.length) (N := N) rs nd dj (by omega)
      refine ⟨_, fe, se, ge, ?_⟩
      have fl_of : ∀ a, ((∃ j, a ∈ fe j) ∨ H a = none) → a ∈ fl ∨ H a = none := fun a z => z.imp (fun ⟨j, q⟩ => k1 j a q) id
      have sl_of : ∀ a, ((∃ j, a ∈ fe j ∨ a ∈ se j) ∨ H a = none) → a ∈ fl ∨ a ∈ sl ∨ H a = none := fun a z => by
        rcases z with ⟨j, q | q⟩ | q
        · exact .inl (k1 j a q)
        · exact .inr (.inl (k2 j a q))
        · exact .inr (.inr q)
      have rt : ∀ {e : List D} {l : List D} {σ' : St} {H' : Hp} {fe' se' : Nat → List Addr}, GE K cl H' e σ' fe' se' → Sp0 H fe se H' fe' se' → (∀ i, i ∈ muS 0 g.mu → σ'[i]? = (L2.start N vs)[i]?) → outsOf g.mu e = some l →
          ∃ fo so, Rt K cl H (selV g.mu vs) fl sl l fo so H' ∧ (∀ a, a ∈ fo → ∃ i, a ∈ fe' i) ∧ ∀ a, a ∈ so → ∃ i, a ∈ se' i := fun g' st ag hl => by
        obtain ⟨fo, so, r, n1, q1, q2⟩ := outs_ok (n := 0) (vs := vs) g' hl (fun i => by rw [Nat.zero_add]) (by omega) (fun i v h1 h2 => by
          rw [Nat.zero_add]
          have := muS_mem (n := 0) h1
          rw [Nat.zero_add] at this
          rw [ag i this]
          exact start_at h2)
        refine ⟨fo, so, ⟨r, n1, fun a ha hs => ?_, fun a o e h => st.keep a o e (h.imp (fun z i q => z (k1 i a q)) id), fun a ha => ?_, fun a ha => ?_⟩, fun a ha => ?_, q2⟩
        · obtain ⟨i, _, z⟩ := q1 a ha
          obtain ⟨j, y⟩ := q2 a hs
          exact g'.ds i j a z y
        · obtain ⟨i, _, z⟩ := q1 a ha
          exact fl_of a (st.eo i a z)
        · obtain ⟨j, y⟩ := q2 a ha
          exact sl_of a (st.es j a y)
        · obtain ⟨i, _, z⟩ := q1 a ha
          exact ⟨i, z⟩
      cases hx : exss Δ g.body (ds ++ List.replicate (g.nn - g.mu.length) .hole) with
      | next e =>
        rw [hx] at h
        intro σ' H' fe' se' g' st ag
        have h : PostF K cl (match outsOf g.mu e with
          | some l => .ok .non l
          | none => .bad) (selV g.mu vs) H fl sl Q E := h
        split at h
        · rename_i l hl
          obtain ⟨fo, so, r, _, _⟩ := rt g' st ag hl
          exact h .non H' [] [] fo so r ⟨.non, List.nodup_nil, fun _ z => (nomatch z), fun _ z => (nomatch z), fun _ z => (nomatch z), fun _ z => (nomatch z)⟩
        · exact h.elim
      | ret d e =>
        rw [hx] at h
        intro σ' v H' f s fe' se' g' st ag rv ex vo vs'
        have h : PostF K cl (match outsOf g.mu e with
          | some l => .ok d l
          | none => .bad) (selV g.mu vs) H fl sl Q E := h
        split at h
        · rename_i l hl
          obtain ⟨fo, so, r, q1, q2⟩ := rt g' st ag hl
          refine h v H' f s fo so r ⟨rv, ex.nd, fun a ha => ⟨ex.fs a ha, fun z => ?_, fun z => ?_⟩, fun a ha z => ?_, fun a ha => fl_of a (vo a ha), fun a ha => sl_of a (vs' a ha)⟩
          · obtain ⟨i, y⟩ := q1 a z
            exact (ex.fx a i ha).1 y
          · obtain ⟨i, y⟩ := q2 a z
            exact (ex.fx a i ha).2 y
          · obtain ⟨i, y⟩ := q1 a z
            exact ex.sx a i ha y
        · exact h.elim
      | err x e =>
        rw [hx] at h
        intro σ' cls dd H' fe' se' xr g' st ag
        have h : PostF K cl (match outsOf g.mu e with
          | some l => .err x l
          | none => .bad) (selV g.mu vs) H fl sl Q E := h
        split at h
        · rename_i l hl
          obtain ⟨fo, so, r, q1, q2⟩ := rt g' st ag hl
          exact h cls dd H' fo so r xr
        · exact h.elim
      | brk e => rw [hx] at h; exact h.elim
      | cont e => rw [hx] at h; exact h.elim
      | bad => rw [hx] at h; exact h.elim
  · exact h.elim
end
end Vi

set_option Elab.async false
set_option linter.all false
set_option maxRecDepth 100000
set_option maxHeartbeats 4000000
/-! Vi30: a module's functions, all of them. -/
namespace Vi
open PySem PySem.Spec L2
/-- a def of the text beside its own form -/
structure Df where
  x : Str
  g : Fn
  ps : List Str
  N : List Str
  st : Stmt
structure Md where
  ds : List Df
  free : List Str
  gls : List (Str × Int)
def Md.cfg (m : Md) (N : List Str) : Cfg := ⟨N, m.free, m.ds.map fun d => (d.x, d.g.mu), m.gls⟩
def Md.prog (m : Md) : List Fn := m.ds.map Df.g
def Df.ok (m : Md) (d : Df) : Bool := C8.scC d.N d.ps (defScope d.st) && (decide (d.N.length = d.g.nn) && (decide (d.ps.length = d.g.mu.length) && (decide (d.g.mu.length ≤ d.g.nn) && mSs (m.cfg d.N) (defScope d.st) (muS 0 d.g.mu) d.g.body (defBody d.st))))
def BindH (d : Df) : Prop := ∀ (kV doc pm : Value) (an : Option Addr) (cdv ct : Value) (us : List Value), us.length = d.ps.length → bindArgs (PySem.W.fnOf d.x d.x (defArgs d.st) (defBody d.st) (defScope d.st) .none kV doc pm an cdv ct) ⟨us, []⟩ = pure (d.ps.zip us)
inductive AllB : List Df → Prop
  | nil : AllB []
  | cons {d : Df} {ds : List Df} : BindH d → AllB ds → AllB (d :: ds)
theorem AllB.at : ∀ {ds : List Df}, AllB ds → ∀ d, d ∈ ds → BindH d
  | [], _, d, h => nomatch h
  | e :: ds, b, d, h => by
    cases b with
    | cons b1 b2 =>
      rcases List.mem_cons.mp h with rfl | h
      · exact b1
      · exact b2.at d h
abbrev FnP (K : PySem.W.Frag) (d : Df) (f : Addr) (fd : FuncData) : Prop := FunD K d.x d.x (defArgs d.st) (defBody d.st) (defScope d.st) [] [] f fd
structure Fx (m : Md) (K : PySem.W.Frag) (mg : Str → Option Value) : Prop where
  fr : ∀ x, x ∈ m.free → mg x = none
  fn : ∀ (j : Nat) (d : Df), m.ds[j]? = some d → ∃ f fd, FnP K d f fd ∧ mg d.x = some (.ref f) ∧ Binds K fd d.ps []
  gl : ∀ x i, (x, i) ∈ m.gls → ∃ t, mg x = some (.int i t)
section
variable {m : Md} {P : Program} {w : World} {K : PySem.W.Frag} {cl : Nat → Addr} {mg : Str → Option Value} {base : Heap} {W : Nat}
theorem xok_of {k : Nat} {N ps : List Str} {qual : Str} {sc : Scope} {f : Addr} {cdv : Value} {A : Around} {outer : List Env} {s : Shared} {H : Hp} {E : XK} (S : FnScope N ps sc) (hr : Room k (A.deeper (PyProof.Rows.envOfC qual sc s.heap.objs.size f cdv))) :
    XOk N P w K mg base k sc (cxOf (L2.CX P w) P w K mg base N qual sc f cdv A outer s H E) :=
  ⟨rfl, S.nd, rfl, rfl, rfl, rfl, rfl, rfl, hr, S.kind, fun _ h => h, fun _ h => ⟨h, rfl⟩, fun _ h => .inr h, fun _ h => h⟩
theorem all_ok (X : Fx m K mg) (hk : (m.ds.all fun d => d.ok m) = true) : ∀ (n : Nat) (j : Nat) (d : Df) (f : Addr) (fd : FuncData), m.ds[j]? = some d → FnP K d f fd → FnOk P w K mg base (L2.CX P w) n f fd d.ps (spF K cl d.g.mu ((dl m.prog W n).call j))
  | 0, j, d, f, fd, hj, F => ⟨fun vs H Q E ⟨_, _, _, _, _, _, h⟩ => h.elim, fun A outer s H args us vs Q E _ _ _ _ ⟨_, _, _, _, _, _, h⟩ => h.elim⟩
  | n + 1, j, d, f, fd, hj, F => by
    have hm := List.all_eq_true.mp hk d (List.mem_of_getElem? hj)
    obtain ⟨h1, hA⟩ := and2 hm
    obtain ⟨h2, hB⟩ := and2 hA
    obtain ⟨h3, hC⟩ := and2 hB
    obtain ⟨h4, h5⟩ := and2 hC
    have h2 := of_decide_eq_true h2
    have h3 := of_decide_eq_true h3
    have h4 := of_decide_eq_true h4
    have S := C8.fnScope_by h1
    have hcall : (dl m.prog W (n + 1)).call j = runF (dl m.prog W n) d.g := by
      funext ds
      show (match m.prog[j]? with
        | some g => runF (dl m.prog W n) g ds
        | none => .bad) = _
      have : m.prog[j]? = some d.g := by
        show (m.ds.map Df.g)[j]? = _
        rw [List.getElem?_map, hj]; rfl
      rw [this]
    rw [hcall]
    have M : MOk (m.cfg d.N) P w K cl mg base (dl m.prog W n) n := by
      refine ⟨X.fr, fun i x ms e => ?_, X.gl⟩
      have e : (m.ds.map fun d => (d.x, d.g.mu))[i]? = some (x, ms) := e
      rw [List.getElem?_map] at e
      cases q : m.ds[i]? with
      | none => rw [q] at e; cases e
      | some d2 =>
        rw [q] at e
        cases e
        obtain ⟨f2, fd2, F2, g2, b2⟩ := X.fn i d2 q
        exact ⟨f2, fd2, d2.ps, all_ok X hk n i d2 f2 fd2 q F2, g2, F2.kp, b2⟩
    refine F.ok S (fun vs H Q E ⟨ds, fl, sl, r, _, _, h⟩ => ?_) fun cdv A outer s H vs Q E hr h => ⟨_, sSs M (xok_of (P := P) (w := w) (K := K) (mg := mg) (base := base) S hr) (takes_of rfl rfl rfl rfl) (passes_of rfl) (muS 0 d.g.mu) d.g.body (defBody d.st) h5, body_ok h2 h4 h⟩
    unfold runF at h
    split at h
    · rename_i hl
      rw [← r.length, hl, h3]
    · exact h.elim
/-! ### the head -/
def Df.df (d : Df) : He.DefD := ⟨(d.x, none), d.x, d.x, defArgs d.st, defBody d.st, defScope d.st, [], []⟩
def Md.fn (m : Md) : List He.DefD := m.ds.map Df.df
def Md.fa (m : Md) : List He.Fa := m.ds.map (fun d => He.Fa.glo d.x) ++ (m.free.map He.Fa.free ++ m.gls.map fun p => He.Fa.int p.1 p.2)
theorem Md.facts {h : Heap} (X : K.In h) (G : h.Ns mainGlobals mg) (c : He.SaysD m.fa m.fn K) (hb : AllB m.ds) : Fx m K mg := by
  refine ⟨fun x hx => He.free_ok X G (c.facts ?_), fun j d hj => ?_, fun x i hx => He.int_ok X G (c.facts ?_)⟩
  · exact List.mem_append_right _ (List.mem_append_left _ (List.mem_map_of_mem hx))
  · have hd := List.mem_of_getElem? hj
    obtain ⟨fd, F⟩ := c.defs (d := d.df) (List.mem_map_of_mem hd)
    refine ⟨_, fd, F, He.glo_ok X G (c.facts (f := .glo d.x) ?_), ?_⟩
    · exact List.mem_append_left _ (List.mem_map_of_mem (f := fun d : Df => He.Fa.glo d.x) hd)
    · exact FunD.bindsN F (hb.at d hd)
  · exact List.mem_append_right _ (List.mem_append_right _ (List.mem_map_of_mem (f := fun p : Str × Int => He.Fa.int p.1 p.2) hx))
/-- the law's promise, from a plain equation -/
theorem law_sp {j n : Nat} {d : Df} (hmu : d.g.mu = [false]) (hl : ∀ ns : List Int, ns.length ≤ n → ∃ outs, (dl m.prog W w0).call j [.nd (.lst false) (ns.map D.int)] = .ok (.bl true) outs) :
    ∀ (H : Hp) (a : Addr) (ns : List Int), ns.length ≤ n → SqL K H a (ns.map V.int) → spF K cl d.g.mu ((dl m.prog W w0).call j) [.ref a] H (fun v _ => v = .bl true) fun _ _ _ => False := by
  intro H a ns hn hS
  have intz : ∀ l : List Int, Rs K cl H (l.map D.int) (l.map V.int) [] [] := fun l => by
    induction l with
    | nil => exact .nil
    | cons i l ih => exact Rs.cons (f := []) (f' := []) (s := []) (s' := []) (.int i) ih
  obtain ⟨outs, he⟩ := hl ns hn
  have fin : ∀ s, R K cl H (.nd (.lst false) (ns.map D.int)) (.ref a) [] s → spF K cl d.g.mu ((dl m.prog W w0).call j) [.ref a] H (fun v _ => v = .bl true) fun _ _ _ => False := fun s r => by
    refine ⟨[.nd (.lst false) (ns.map D.int)], [] ++ [], s ++ [], .cons r .nil, by simp, fun _ z => (nomatch z), ?_⟩
    rw [he]
    intro v H' f s fo so _ rv
    exact rv.rv.bl_inv
  rcases hS with h | h
  · exact fin _ (.frz rfl h (intz ns))
  · exact fin _ (.kst rfl (show SqL K (fun _ => none) a (ns.map V.int) from .inr h) (intz ns))
theorem cx_none {P : Program} {w : World} {H : Hp} {s : Shared} {e : Value} {s' : Shared} (h : L2.CX P w [] H s (fun _ _ _ => False) e s') : False := by
  obtain ⟨_, _, _, _, _, _, _, _, _, _, _, _, hE⟩ := h
  exact hE
end
end Vi
namespace L2
open PySem PySem.Spec PySem.W PySem.Calls PyProof.Rows
/-- the end of a law's walk, exceptions by world -/
theorem walk_v {l : PySem.W.OpenLaw} {n k : Nat} {q : Program} {loose : List PySem.Str} {XP : (PySem.Str → Option Value) → Heap → Prop} {YP : World → Heap → Prop} {d : DefRec} {x : PySem.Str}
    (hn : l.most = some n) (hn2 : n ≤ sizeLine) (hdf : d.params.defaults = []) (hr : Room k callerA)
    (F : ∀ (w : World) (mg : PySem.Str → Option Value) (fa : Addr) (h : Heap), YP w h → h.Ns mainGlobals mg → mg d.name = some (.ref fa) →
      ∃ (K : PySem.W.Frag) (fd : FuncData) (sp : Sp), K.In h ∧ (∀ (s : Shared) (u : Value), BindsTo s fd ⟨[u], []⟩ [(x, u)]) ∧
        (∀ (H : Hp) (a : Addr) (ns : List Int), ns.length ≤ n → Only H → SqL K H a (ns.map V.int) → sp [.ref a] H (fun v _ => v = .bl true) fun _ _ _ => False) ∧
        ∀ base : Heap, K.In base → base.Ns mainGlobals mg → FnOk l.prog w K mg base (L2.CX l.prog w) k fa fd [x] sp) :
    PySem.W.WalkO q loose XP YP l.row.toRowW d [] (fun f vs => PySem.call f vs) := by
  refine Att.attach_call hn hdf fun w s₀ s₁ mg mb fa o pm cd doc a vs ns G Y ho hd hcd hmg hobj hints hlen hg => ?_
  obtain ⟨K, fd, sp, KX, hb, hsp, hF⟩ := F w mg fa _ Y G.T.g hmg
  exact law_call KX G.T.g G.T.b G.T.builtins G.T.nolimit hg hobj hints (Nat.le_trans hlen hn2) hr hF hb (fun H hO hS => hsp H a ns hlen hO hS) fun H e s' => Vi.cx_none
end L2

set_option Elab.async false
set_option linter.all false
set_option maxRecDepth 100000
set_option maxHeartbeats 4000000
/-! Vi31: plain reasoning about the evaluator. -/
namespace Vi
/-- what is wanted of a run -/
structure Wn where
  nx : List D → Prop
  rt : D → List D → Prop := fun _ _ => False
  bk : List D → Prop := fun _ => False
  ct : List D → Prop := fun _ => False
  er : Ex → List D → Prop := fun _ _ => False
def Wt (o : Out) (Q : Wn) : Prop := match o with
  | .next e => Q.nx e
  | .brk e => Q.bk e
  | .cont e => Q.ct e
  | .ret d e => Q.rt d e
  | .err x e => Q.er x e
  | .bad => False
variable {Δ : Dl} {env : List D} {Q : Wn}
theorem w_nil (h : Q.nx env) : Wt (exss Δ .nil env) Q := h
theorem w_cons {s : S} {ss : Ss} (h : Wt (exs Δ s env) { Q with nx := fun e => Wt (exss Δ ss e) Q }) : Wt (exss Δ (.cons s ss) env) Q := by
  show Wt (match exs Δ s env with
    | .next e => exss Δ ss e
    | r => r) Q
  cases e : exs Δ s env <;> (rw [e] at h; exact h)
/-- a loop over ds: I by what is left -/
theorem w_loop {turn : D → List D → Out} {chk : List D → Bool} (I : List D → List D → Prop) (step : ∀ d r e, I (d :: r) e → Wt (turn d e) { nx := fun e => chk e = true ∧ I r e, ct := fun e => chk e = true ∧ I r e, bk := Q.nx, rt := Q.rt, er := Q.er }) (fin : ∀ e, I [] e → Q.nx e) :
    ∀ (ds : List D) (e : List D), I ds e → Wt (loopF turn chk ds e) Q
  | [], e, h => fin e h
  | d :: ds, e, h => by
    have w := step d ds e h
    show Wt (match turn d e with
      | .next e => if chk e then loopF turn chk ds e else .bad
      | .cont e => if chk e then loopF turn chk ds e else .bad
      | .brk e => .next e
      | .ret x e => .ret x e
      | .err x e => .err x e
      | .bad => .bad) Q
    cases q : turn d e with
    | next e2 =>
      rw [q] at w
      obtain ⟨w1, w2⟩ := w
      show Wt (if chk e2 then loopF turn chk ds e2 else .bad) Q
      rw [if_pos w1]
      exact w_loop I step fin ds e2 w2
    | cont e2 =>
      rw [q] at w
      obtain ⟨w1, w2⟩ := w
      show Wt (if chk e2 then loopF turn chk ds e2 else .bad) Q
      rw [if_pos w1]
      exact w_loop I step fin ds e2 w2
    | brk e2 => rw [q] at w; exact w
    | ret d2 e2 => rw [q] at w; exact w
    | err x e2 => rw [q] at w; exact w
    | bad => rw [q] at w; exact w
theorem w_fo {t : T} {it : I} {b : Ss} {ds : List D} {e1 : List D} (h : evi Δ it env = .ok ds e1) (Iv : List D → List D → Prop) (h0 : Iv ds e1)
    (step : ∀ d r e, Iv (d :: r) e → ∃ e2, asgT Δ t d e = some e2 ∧ Wt (exss Δ b e2) { nx := fun e => stay (srcs it) e1 e = true ∧ Iv r e, ct := fun e => stay (srcs it) e1 e = true ∧ Iv r e, bk := Q.nx, rt := Q.rt, er := Q.er }) (fin : ∀ e, Iv [] e → Q.nx e) : Wt (exs Δ (.fo t it b) env) Q := by
  show Wt (match evi Δ it env with
    | .ok ds e1 => loopF (fun d env => (match asgT Δ t d env with
        | some e2 => exss Δ b e2
        | none => .bad)) (stay (srcs it) e1) ds e1
    | .err x e => .err x e
    | .bad => .bad) Q
  rw [h]
  refine w_loop Iv (fun d r e hi => ?_) fin ds e1 h0
  obtain ⟨e2, a, w⟩ := step d r e hi
  rw [a]
  exact w
theorem w_iff {c : E} {a b : Ss} {k : Bool} {e1 : List D} (h : ev Δ c env = .ok (.bl k) e1) (ht : k = true → Wt (exss Δ a e1) Q) (hf : k = false → Wt (exss Δ b e1) Q) : Wt (exs Δ (.iff c a b) env) Q := by
  show Wt ((ev Δ c env).out fun d e => (match d with
    | .bl true => exss Δ a e
    | .bl false => exss Δ b e
    | _ => .bad)) Q
  rw [h]
  cases k with
  | true => exact ht rfl
  | false => exact hf rfl
theorem w_set {i : Nat} {e : E} {d d' : D} {e1 : List D} (h : ev Δ e env = .ok d e1) (ho : own e d = some d') (hi : i < e1.length) (hq : Q.nx (e1.set i d')) : Wt (exs Δ (.set i e) env) Q := by
  show Wt ((ev Δ e env).out fun d e1 => (match own e d with
    | some d => if i < e1.length then .next (e1.set i d) else .bad
    | none => .bad)) Q
  rw [h]
  show Wt (match own e d with
    | some d => if i < e1.length then .next (e1.set i d) else .bad
    | none => .bad) Q
  rw [ho]
  show Wt (if i < e1.length then .next (e1.set i d') else .bad) Q
  rw [if_pos hi]
  exact hq
theorem w_ret {e : E} {d d' : D} {e1 : List D} (h : ev Δ e env = .ok d e1) (ho : own e d = some d') (hq : Q.rt d' e1) : Wt (exs Δ (.ret e) env) Q := by
  show Wt ((ev Δ e env).out fun d e1 => (match own e d with
    | some d => .ret d e1
    | none => .bad)) Q
  rw [h]
  show Wt (match own e d with
    | some d => .ret d e1
    | none => .bad) Q
  rw [ho]
  exact hq
theorem w_expr {e : E} {d : D} {e1 : List D} (h : ev Δ e env = .ok d e1) (hq : Q.nx e1) : Wt (exs Δ (.expr e) env) Q := by
  show Wt ((ev Δ e env).out fun _ e => .next e) Q
  rw [h]
  exact hq
/-- a call by its body -/
theorem w_run {f : Fn} {ds : List D} {P : D → List D → Prop} (hl : ds.length = f.mu.length) (h : Wt (exss Δ f.body (ds ++ List.replicate (f.nn - f.mu.length) .hole)) { nx := fun e => ∃ l, outsOf f.mu e = some l ∧ P .non l, rt := fun d e => ∃ l, outsOf f.mu e = some l ∧ P d l }) : ∃ d l, runF Δ f ds = .ok d l ∧ P d l := by
  unfold runF
  rw [if_pos hl]
  cases q : exss Δ f.body (ds ++ List.replicate (f.nn - f.mu.length) .hole) with
  | next e =>
    rw [q] at h
    obtain ⟨l, h1, h2⟩ := h
    exact ⟨.non, l, by simp only [h1], h2⟩
  | ret d e =>
    rw [q] at h
    obtain ⟨l, h1, h2⟩ := h
    exact ⟨d, l, by simp only [h1], h2⟩
  | brk e => rw [q] at h; exact h.elim
  | cont e => rw [q] at h; exact h.elim
  | err x e => rw [q] at h; exact h.elim
  | bad => rw [q] at h; exact h.elim
theorem loop_fil {turn : D → List D → Res (Option D)} {chk : List D → Bool} (f : D → Option D) (hc : chk env = true) : ∀ (ds acc : List D), (∀ d, d ∈ ds → turn d env = .ok (f d) env) → acc.length + ds.length ≤ sizeL → loopC turn chk ds acc env = .ok (.nd (.lst true) (acc ++ ds.filterMap f)) env
  | [], acc, _, _ => by simp [loopC]
  | d :: ds, acc, h, hz => by
    have h1 := h d List.mem_cons_self
    have hl : acc.length + (ds.length + 1) ≤ sizeL := hz
    show ((turn d env).calm.bind fun o e2 => if chk e2 then (match o with
      | some x => if acc.length < sizeL then loopC turn chk ds (acc ++ [x]) e2 else .bad
      | none => loopC turn chk ds acc e2) else .bad) = _
    rw [h1]
    show (if chk env = true then (match f d with
      | some x => if acc.length < sizeL then loopC turn chk ds (acc ++ [x]) env else .bad
      | none => loopC turn chk ds acc env) else .bad) = _
    rw [if_pos hc]
    cases e : f d with
    | some x =>
      show (if acc.length < sizeL then loopC turn chk ds (acc ++ [x]) env else .bad) = _
      rw [if_pos (by omega), loop_fil f hc ds (acc ++ [x]) (fun e he => h e (List.mem_cons_of_mem _ he)) (by simp; omega)]
      simp [e]
    | none =>
      show loopC turn chk ds acc env = _
      rw [loop_fil f hc ds acc (fun e he => h e (List.mem_cons_of_mem _ he)) (by omega)]
      simp [e]
theorem loop_map {turn : D → List D → Res (Option D)} {chk : List D → Bool} (f : D → D) (hc : chk env = true) (ds : List D) (h : ∀ d, d ∈ ds → turn d env = .ok (some (f d)) env) (hz : ds.length ≤ sizeL) : loopC turn chk ds [] env = .ok (.nd (.lst true) (ds.map f)) env := by
  rw [loop_fil (fun d => some (f d)) hc ds [] h (by simpa using hz)]
  simp
theorem ev_comp' {ow : List Nat} {t : T} {it : I} {elt : E} {ds : List D} {f : D → D} {e1 : List D} (hi : evi Δ it env = .ok ds e1) (ho : holesE e1 ow = true) (hs : stay (srcs it) e1 e1 = true) (h : ∀ d, d ∈ ds → turnC Δ ow t elt d e1 = .ok (some (f d)) e1) (hz : ds.length ≤ sizeL) : ev Δ (.comp ow t it elt) env = .ok (.nd (.lst true) (ds.map f)) e1 := by
  rw [ev_comp, hi]
  show (if holesE e1 ow = true then loopC (turnC Δ ow t elt) (stay (srcs it) e1) ds [] e1 else .bad) = _
  rw [if_pos ho]
  exact loop_map f hs ds h hz
theorem ev_compI' {ow : List Nat} {t : T} {it : I} {c elt : E} {ds : List D} {f : D → Option D} {e1 : List D} (hi : evi Δ it env = .ok ds e1) (ho : holesE e1 ow = true) (hs : stay (srcs it) e1 e1 = true) (h : ∀ d, d ∈ ds → turnI Δ ow t c elt d e1 = .ok (f d) e1) (hz : ds.length ≤ sizeL) : ev Δ (.compI ow t it c elt) env = .ok (.nd (.lst true) (ds.filterMap f)) e1 := by
  rw [ev_compI, hi]
  show (if holesE e1 ow = true then loopC (turnI Δ ow t c elt) (stay (srcs it) e1) ds [] e1 else .bad) = _
  rw [if_pos ho, loop_fil f hs ds [] h (by simpa using hz)]
  rfl
theorem stay_self {l : List Nat} {e : List D} : stay l e e = true := List.all_eq_true.mpr fun i _ => by simp
end Vi

set_option Elab.async false
set_option linter.all false
set_option maxRecDepth 100000
set_option maxHeartbeats 4000000
/-! Vi32: rules, each forward, for plain reasoning about the evaluator. -/
namespace Vi
open PySem L2
def EK {α : Type} (r : Res α) (K : α → List D → Prop) (X : Ex → List D → Prop) : Prop := match r with
  | .ok d e => K d e
  | .err x e => X x e
  | .bad => False
def OK {α : Type} (o : Option α) (K : α → Prop) : Prop := ∃ a, o = some a ∧ K a
def FK (r : Fo) (K : D → List D → Prop) (X : Ex → List D → Prop) : Prop := match r with
  | .ok d l => K d l
  | .err x l => X x l
  | .bad => False
/-- by a truth -/
def BK (d : D) (A B : Prop) : Prop := match d with
  | .bl b => (b = true → A) ∧ (b = false → B)
  | _ => False
inductive SetR : List D → Nat → D → List D → Prop
  | zero {a d : D} {l : List D} : SetR (a :: l) 0 d (d :: l)
  | succ {a d : D} {l l' : List D} {n : Nat} : SetR l n d l' → SetR (a :: l) (n + 1) d (a :: l')
theorem SetR.eq : ∀ {l : List D} {n : Nat} {d : D} {l' : List D}, SetR l n d l' → l.set n d = l' ∧ n < l.length
  | _, _, _, _, .zero => ⟨rfl, Nat.succ_pos _⟩
  | _, _, _, _, .succ h => ⟨by rw [List.set_cons_succ, h.eq.1], Nat.succ_lt_succ h.eq.2⟩
inductive PutR : List D → List (Nat × List Nat) → List D → List D → Prop
  | nil {e : List D} : PutR e [] [] e
  | cons {e e1 e2 : List D} {i : Nat} {d : D} {ps : List (Nat × List Nat)} {ds : List D} : SetR e i d e1 → PutR e1 ps ds e2 → PutR e ((i, []) :: ps) (d :: ds) e2
theorem PutR.eq : ∀ {e : List D} {ps : List (Nat × List Nat)} {ds e2 : List D}, PutR e ps ds e2 → putAll e ps ds = some e2
  | _, _, _, _, .nil => rfl
  | e, _, _, _, .cons (i := i) (d := d) (ps := ps) (ds := ds) h r => by
    obtain ⟨h1, h2⟩ := h.eq
    show (match e[i]? with
      | some t => putAll (e.set i (setL d t [])) ps ds
      | none => none) = _
    rw [List.getElem?_eq_getElem h2]
    show putAll (e.set i d) ps ds = _
    rw [h1]
    exact r.eq
variable {Δ : Dl} {env : List D} {Q : Wn} {K : D → List D → Prop} {X : Ex → List D → Prop}
theorem k_some {α : Type} {a : α} {K : α → Prop} (h : K a) : OK (some a) K := ⟨a, rfl, h⟩
theorem k_eq {α : Type} {o : Option α} {a : α} {K : α → Prop} (e : o = some a) (h : K a) : OK o K := ⟨a, e, h⟩
theorem k_bind {α β : Type} {r : Res α} {k : α → List D → Res β} {K : β → List D → Prop} (h : EK r (fun a e => EK (k a e) K X) X) : EK (r.bind k) K X := by
  cases r with
  | ok a e => exact h
  | err x e => exact h
  | bad => exact h
theorem k_of {α : Type} {o : Option α} {K : α → List D → Prop} (h : OK o fun d => K d env) : EK (Res.of o env) K X := by
  obtain ⟨a, rfl, h⟩ := h
  exact h
theorem OK.bind {α β : Type} {o : Option α} {f : α → Option β} {K : β → Prop} (h : OK o fun a => OK (f a) K) : OK (o.bind f) K := by
  obtain ⟨a, rfl, h⟩ := h
  exact h
theorem OK.map {α β : Type} {o : Option α} {f : α → β} {K : β → Prop} (h : OK o fun a => K (f a)) : OK (o.map f) K := by
  obtain ⟨a, rfl, h⟩ := h
  exact ⟨_, rfl, h⟩
theorem EK.imp {α : Type} {r : Res α} {K K' : α → List D → Prop} {X X' : Ex → List D → Prop} (h : EK r K X) (k : ∀ a e, K a e → K' a e) (x : ∀ a e, X a e → X' a e) : EK r K' X' := by
  cases r with
  | ok a e => exact k _ _ h
  | err a e => exact x _ _ h
  | bad => exact h
theorem FK.imp {r : Fo} {K K' : D → List D → Prop} {X X' : Ex → List D → Prop} (h : FK r K X) (k : ∀ a e, K a e → K' a e) (x : ∀ a e, X a e → X' a e) : FK r K' X' := by
  cases r with
  | ok a e => exact k _ _ h
  | err a e => exact x _ _ h
  | bad => exact h
theorem FK.ok {r : Fo} {d : D} {l : List D} (e : r = .ok d l) (h : K d l) : FK r K X := by rw [e]; exact h
theorem FK.get {r : Fo} {P : D → List D → Prop} (h : FK r P fun _ _ => False) : ∃ d l, r = .ok d l ∧ P d l := by
  cases r with
  | ok d l => exact ⟨d, l, rfl, h⟩
  | err x l => exact h.elim
  | bad => exact h.elim
/-! ### truths -/
theorem bk_true {A B : Prop} (h : A) : BK (.bl true) A B := ⟨fun _ => h, fun z => nomatch z⟩
theorem bk_false {A B : Prop} (h : B) : BK (.bl false) A B := ⟨fun z => (nomatch z), fun _ => h⟩
theorem bk_dec {p : Prop} [Decidable p] {A B : Prop} (h : p → A) (h' : ¬p → B) : BK (.bl (decide p)) A B := ⟨fun z => h (of_decide_eq_true z), fun z => h' (of_decide_eq_false z)⟩
theorem bk_not {b : Bool} {A B : Prop} (h : BK (.bl b) B A) : BK (.bl (!b)) A B := by
  cases b with
  | true => exact bk_false (h.1 rfl)
  | false => exact bk_true (h.2 rfl)
theorem bk_and {a b : Bool} {A B : Prop} (h : BK (.bl a) (BK (.bl b) A B) B) : BK (.bl (a && b)) A B := by
  cases a with
  | true => exact h.1 rfl
  | false => exact bk_false (h.2 rfl)
theorem bk_or {a b : Bool} {A B : Prop} (h : BK (.bl a) A (BK (.bl b) A B)) : BK (.bl (a || b)) A B := by
  cases a with
  | true => exact bk_true (h.1 rfl)
  | false => exact h.2 rfl
theorem bk_any {b : Bool} {A B : Prop} (h : b = true → A) (h' : b = false → B) : BK (.bl b) A B := ⟨h, h'⟩
/-! ### expressions -/
theorem k_int {i : Int} (h : K (.int i) env) : EK (ev Δ (.int i) env) K X := h
theorem k_bl {b : Bool} (h : K (.bl b) env) : EK (ev Δ (.bl b) env) K X := h
theorem k_non (h : K .non env) : EK (ev Δ .non env) K X := h
theorem k_str {x : Str} (h : K (.str x) env) : EK (ev Δ (.str x) env) K X := h
theorem k_pow {b e : Nat} {i : Int} (hi : (b : Int) ^ e = i) (h : K (.int i) env) : EK (ev Δ (.pow b e) env) K X := by subst hi; exact h
theorem k_glo {x : Str} {d : D} (h : K d env) : EK (ev Δ (.glo x d) env) K X := h
theorem k_var {i : Nat} {d : D} (e : look env i = some d) (h : K d env) : EK (ev Δ (.var i) env) K X := by
  show EK (Res.of (look env i) env) K X
  rw [e]; exact h
theorem k_mv {i : Nat} {d : D} {env' : List D} (e : look env i = some d) (s : SetR env i .hole env') (h : K d env') : EK (ev Δ (.mv i) env) K X := by
  show EK (match look env i with
    | some d => .ok d (env.set i .hole)
    | none => .bad) K X
  rw [e, ← s.eq.1] at *; exact h
theorem k_neg {a : E} (h : EK (ev Δ a env) (fun d e => OK (toI d) fun i => K (.int (-i)) e) X) : EK (ev Δ (.neg a) env) K X :=
  k_bind (h.imp (fun d e q => k_of q.map) fun _ _ q => q)
theorem k_bin {o : Bop} {a b : E} (h : EK (ev Δ a env) (fun x e1 => EK (ev Δ b e1) (fun y e2 => OK (re a (ef b) x e2) fun x => OK (bop o x y) fun z => K z e2) X) X) : EK (ev Δ (.bin o a b) env) K X :=
  k_bind (h.imp (fun d e q => k_bind (q.imp (fun d e q => k_of q.bind) fun _ _ q => q)) fun _ _ q => q)
theorem k_b2 {o : B2} {a b : E} (h : EK (ev Δ a env) (fun x e1 => EK (ev Δ b e1) (fun y e2 => OK (re a (ef b) x e2) fun x => OK (b2op o x y) fun z => K z e2) X) X) : EK (ev Δ (.b2 o a b) env) K X :=
  k_bind (h.imp (fun d e q => k_bind (q.imp (fun d e q => k_of q.bind) fun _ _ q => q)) fun _ _ q => q)
theorem k_cmp {o : Cop} {a b : E} (h : EK (ev Δ a env) (fun x e1 => EK (ev Δ b e1) (fun y e2 => OK (re a (ef b) x e2) fun x => OK (cop o x y) fun z => K (.bl z) e2) X) X) : EK (ev Δ (.cmp o a b) env) K X :=
  k_bind (h.imp (fun d e q => k_bind (q.imp (fun d e q => k_of (OK.bind (q.imp fun x ⟨h1, h2⟩ => ⟨h1, h2.map⟩))) fun _ _ q => q)) fun _ _ q => q)
theorem k_chain {o p : Cop} {a b c : E} (h : EK (ev Δ a env) (fun x e1 => EK (ev Δ b e1) (fun y e2 => OK (re a (ef b) x e2) fun x => OK (cop o x y) fun t => BK (.bl t) (EK (ev Δ c e2) (fun z e3 => OK (re b (ef c) y e3) fun y => OK (cop p y z) fun t => K (.bl t) e3) X) (K (.bl false) e2)) X) X) : EK (ev Δ (.chain o p a b c) env) K X := by
  refine k_bind (h.imp (fun d e q => k_bind (q.imp (fun y e q => ?_) fun _ _ q => q)) fun _ _ q => q)
  obtain ⟨x, h1, t, h2, h3⟩ := q
  rw [h1]
  dsimp only [Option.bind]
  rw [h2]
  cases t with
  | true => exact k_bind ((h3.1 rfl).imp (fun d e q => k_of (OK.bind (q.imp fun x ⟨h1, h2⟩ => ⟨h1, h2.map⟩))) fun _ _ q => q)
  | false => exact h3.2 rfl
theorem k_not {a : E} (h : EK (ev Δ a env) (fun d e => match d with | .bl b => K (.bl (!b)) e | _ => False) X) : EK (ev Δ (.not a) env) K X :=
  k_bind (h.imp (fun d e q => by cases d <;> first | exact q | exact q.elim) fun _ _ q => q)
theorem k_and {es : Es} (h : EK (evn Δ true es env) K X) : EK (ev Δ (.and es) env) K X := h
theorem k_or {es : Es} (h : EK (evn Δ false es env) K X) : EK (ev Δ (.or es) env) K X := h
theorem k_nnil {k : Bool} (h : K (.bl k) env) : EK (evn Δ k .nil env) K X := h
theorem k_and1 {e : E} {es : Es} (h : EK (ev Δ e env) (fun d e1 => BK d (EK (evn Δ true es e1) K X) (K (.bl false) e1)) X) : EK (evn Δ true (.cons e es) env) K X :=
  k_bind (h.imp (fun d e q => by
    cases d <;> first | exact q.elim | skip
    rename_i b
    cases b with
    | true => exact q.1 rfl
    | false => exact q.2 rfl) fun _ _ q => q)
theorem k_or1 {e : E} {es : Es} (h : EK (ev Δ e env) (fun d e1 => BK d (K (.bl true) e1) (EK (evn Δ false es e1) K X)) X) : EK (evn Δ false (.cons e es) env) K X :=
  k_bind (h.imp (fun d e q => by
    cases d <;> first | exact q.elim | skip
    rename_i b
    cases b with
    | true => exact q.1 rfl
    | false => exact q.2 rfl) fun _ _ q => q)
/-- the last of them -/
theorem k_nlast {k : Bool} {e : E} (h : EK (ev Δ e env) (fun d e1 => match d with | .bl b => K (.bl b) e1 | _ => False) X) : EK (evn Δ k (.cons e .nil) env) K X :=
  k_bind (h.imp (fun d e q => by
    cases d <;> first | exact q.elim | skip
    rename_i b
    show EK (if b = k then evn Δ k .nil e else .ok (.bl (!k)) e) K X
    cases b <;> cases k <;> exact q) fun _ _ q => q)
theorem k_ite {c a b : E} (h : EK (ev Δ c env) (fun d e => BK d (EK (ev Δ a e) (fun d e => OK (own a d) fun d => K d e) X) (EK (ev Δ b e) (fun d e => OK (own b d) fun d => K d e) X)) X) : EK (ev Δ (.ite c a b) env) K X :=
  k_bind (h.imp (fun d e q => by
    cases d <;> first | exact q.elim | skip
    rename_i k
    cases k with
    | true => exact k_bind ((q.1 rfl).imp (fun d e q => k_of q) fun _ _ q => q)
    | false => exact k_bind ((q.2 rfl).imp (fun d e q => k_of q) fun _ _ q => q)) fun _ _ q => q)
theorem k_tup {es : Es} (h : EK (evs Δ es env) (fun ds e => ds.length ≤ sizeL ∧ K (.nd .tup ds) e) X) : EK (ev Δ (.tup es) env) K X :=
  k_bind (h.imp (fun d e q => by
    show EK (if d.length ≤ sizeL then Res.ok (D.nd .tup d) e else .bad) K X
    rw [if_pos q.1]; exact q.2) fun _ _ q => q)
theorem k_lst {es : Es} (h : EK (evs Δ es env) (fun ds e => ds.length ≤ sizeL ∧ K (.nd (.lst true) ds) e) X) : EK (ev Δ (.lst es) env) K X :=
  k_bind (h.imp (fun d e q => by
    show EK (if d.length ≤ sizeL then Res.ok (D.nd (.lst true) d) e else .bad) K X
    rw [if_pos q.1]; exact q.2) fun _ _ q => q)
theorem k_enil {K : List D → List D → Prop} (h : K [] env) : EK (evs Δ .nil env) K X := h
theorem k_econs {K : List D → List D → Prop} {e : E} {es : Es} (h : EK (ev Δ e env) (fun d e1 => OK (own e d) fun d => EK (evs Δ es e1) (fun ds e2 => K (d :: ds) e2) X) X) : EK (evs Δ (.cons e es) env) K X :=
  k_bind (h.imp (fun d e1 q => by
    obtain ⟨d', h1, h2⟩ := q
    show EK (match own e d with
      | some d => (evs Δ es e1).bind fun ds e2 => .ok (d :: ds) e2
      | none => .bad) K X
    rw [h1]
    exact k_bind h2) fun _ _ q => q)
theorem k_idx {a i : E} (h : EK (ev Δ a env) (fun x e1 => EK (ev Δ i e1) (fun y e2 => OK (reV a (ef i) x e2) fun x => OK (ix x y) fun z => K z e2) X) X) : EK (ev Δ (.idx a i) env) K X :=
  k_bind (h.imp (fun d e q => k_bind (q.imp (fun d e q => k_of q.bind) fun _ _ q => q)) fun _ _ q => q)
theorem k_sl10 {a i : E} (h : EK (ev Δ a env) (fun x e1 => EK (ev Δ i e1) (fun y e2 => OK (re a (ef i) x e2) fun x => OK (toI y) fun i => OK (cut x (some i) none) fun z => K z e2) X) X) : EK (ev Δ (.sl10 a i) env) K X :=
  k_bind (h.imp (fun d e q => k_bind (q.imp (fun d e q => k_of (OK.bind (q.imp fun x ⟨h1, h2⟩ => ⟨h1, h2.bind⟩))) fun _ _ q => q)) fun _ _ q => q)
theorem k_sl01 {a i : E} (h : EK (ev Δ a env) (fun x e1 => EK (ev Δ i e1) (fun y e2 => OK (re a (ef i) x e2) fun x => OK (toI y) fun i => OK (cut x none (some i)) fun z => K z e2) X) X) : EK (ev Δ (.sl01 a i) env) K X :=
  k_bind (h.imp (fun d e q => k_bind (q.imp (fun d e q => k_of (OK.bind (q.imp fun x ⟨h1, h2⟩ => ⟨h1, h2.bind⟩))) fun _ _ q => q)) fun _ _ q => q)
theorem k_slr {a : E} (h : EK (ev Δ a env) (fun x e => OK (rvD x) fun z => K z e) X) : EK (ev Δ (.slr a) env) K X :=
  k_bind (h.imp (fun d e q => k_of q) fun _ _ q => q)
theorem k_b1 {o : B1} {a : E} (h : EK (ev Δ a env) (fun x e => OK (b1op o x) fun z => K z e) X) : EK (ev Δ (.b1 o a) env) K X :=
  k_bind (h.imp (fun d e q => k_of q) fun _ _ q => q)
theorem k_isi {a : E} {ts : List Ty} (h : EK (ev Δ a env) (fun x e => okTy x = true ∧ K (.bl (ts.any (isTy x))) e) X) : EK (ev Δ (.isi a ts) env) K X :=
  k_bind (h.imp (fun d e q => k_of (by rw [if_pos q.1]; exact k_some q.2)) fun _ _ q => q)
/-! ### calls -/
theorem k_anil {K : List (Option D) → List D → Prop} (h : K [] env) : EK (eva Δ .nil env) K X := h
theorem k_aro {K : List (Option D) → List D → Prop} {e : E} {r : As} (h : EK (ev Δ e env) (fun d e1 => EK (eva Δ r e1) (fun ds e2 => OK (re e (efr r) d e2) fun d => K (some d :: ds) e2) X) X) : EK (eva Δ (.ro e r) env) K X :=
  k_bind (h.imp (fun d e1 q => k_bind (q.imp (fun ds e2 q => by
    obtain ⟨d', h1, h2⟩ := q
    show EK (match re e (efr r) d e2 with
      | some d => .ok (some d :: ds) e2
      | none => .bad) K X
    rw [h1]
    exact h2) fun _ _ q => q)) fun _ _ q => q)
theorem k_amu {K : List (Option D) → List D → Prop} {i : Nat} {d : D} {r : As} (e : look env i = some d) (h : EK (eva Δ r env) (fun ds e2 => K (none :: ds) e2) X) : EK (eva Δ (.mu (.var i) r) env) K X := by
  show EK (match look env i with
    | some t => (match getL t [] with
      | some _ => (eva Δ r env).bind fun ds e2 => .ok (none :: ds) e2
      | none => .bad)
    | none => .bad) K X
  rw [e]
  exact k_bind h
/-- what is seen of an argument is no part of a mutable one -/
def apartB : As → List Nat → Bool
  | .nil, _ => true
  | .ro e r, ms => (!vw e || !ms.contains (rt e)) && apartB r ms
  | .mu _ r, ms => apartB r ms
def likeA : As → List (Option D) → Bool
  | .nil, [] => true
  | .ro _ r, some _ :: l => likeA r l
  | .mu _ r, none :: l => likeA r l
  | _, _ => false
theorem apart_is : ∀ (as : As) (ds : List (Option D)) (ms : List Nat), apartB as ms = true → likeA as ds = true → ∃ b, apart as ds ms = some b
  | .nil, [], ms, _, _ => ⟨_, rfl⟩
  | .nil, _ :: _, ms, _, h => nomatch h
  | .ro e r, [], ms, _, h => nomatch h
  | .ro e r, none :: l, ms, _, h => nomatch h
  | .ro e r, some d :: l, ms, h, h' => by
    obtain ⟨h1, h2⟩ := Bool.and_eq_true_iff.mp h
    obtain ⟨b, hb⟩ := apart_is r l ms h2 h'
    show ∃ b, (match apart r l ms with
      | some b => if vw e && !imm d then (if ms.contains (rt e) then none else some false) else some b
      | none => none) = some b
    rw [hb]
    dsimp only
    by_cases c : (vw e && !imm d) = true
    · rw [if_pos c]
      have v := (Bool.and_eq_true_iff.mp c).1
      rw [v] at h1
      have : ms.contains (rt e) = false := by simpa using h1
      rw [this]
      exact ⟨_, rfl⟩
    · rw [if_neg c]; exact ⟨_, rfl⟩
  | .mu e r, [], ms, _, h => nomatch h
  | .mu e r, some d :: l, ms, _, h => nomatch h
  | .mu e r, none :: l, ms, h, h' => apart_is r l ms h h'
theorem k_call {f : Nat} {as : As} (h : EK (eva Δ as env) (fun ds e => OK (pths Δ as e) fun ps => nodupB (roots ps) = true ∧ apartB as (roots ps) = true ∧ likeA as ds = true ∧ OK (argsD e ds ps) fun l => FK (Δ.call f l) (fun d outs => nof d = true ∧ nofs outs = true ∧ ∃ e', PutR e ps outs e' ∧ K d e') fun x outs => nofs outs = true ∧ ∃ e', PutR e ps outs e' ∧ X x e') X) : EK (ev Δ (.call f as) env) K X :=
  k_bind (h.imp (fun ds e q => by
    obtain ⟨ps, h1, h2, h3, h4, l, h5, h6⟩ := q
    show EK (match pths Δ as e with
      | some ps => callE as (Δ.call f) ds ps e
      | none => .bad) K X
    rw [h1]
    obtain ⟨b, hb⟩ := apart_is as ds _ h3 h4
    show EK (callE as (Δ.call f) ds ps e) K X
    unfold callE
    rw [if_pos h2, hb]
    dsimp only
    rw [h5]
    dsimp only
    cases r : Δ.call f l with
    | ok d outs =>
      rw [r] at h6
      obtain ⟨n1, n2, e', p, k⟩ := h6
      have c : (b || (nof d && nofs outs)) = true := by rw [n1, n2]; cases b <;> rfl
      dsimp only
      rw [if_pos c, p.eq]
      exact k
    | err x outs =>
      rw [r] at h6
      obtain ⟨n1, e', p, k⟩ := h6
      have c : (b || nofs outs) = true := by rw [n1]; cases b <;> rfl
      dsimp only
      rw [if_pos c, p.eq]
      exact k
    | bad => rw [r] at h6; exact h6.elim) fun _ _ q => q)
theorem k_callO {f : Nat} {a : E} (hv : vw a = false) (h : EK (ev Δ a env) (fun d e => FK (Δ.call f [d]) (fun d _ => K d e) fun x _ => X x e) X) : EK (ev Δ (.callO f a) env) K X :=
  k_bind (h.imp (fun d e q => by
    show EK (if vw a = true then .bad else (match Δ.call f [d] with
      | .ok r _ => .ok r e
      | .err x _ => .err x e
      | .bad => .bad)) K X
    rw [hv]
    simp only [Bool.false_eq_true, if_false]
    cases r : Δ.call f [d] with
    | ok d outs => rw [r] at q; exact q
    | err x outs => rw [r] at q; exact q
    | bad => rw [r] at q; exact q) fun _ _ q => q)
/-! ### list methods on a variable -/
theorem k_mut1 {m : M1} {i : Nat} {a : E} {d : D} {xs : List D} {env : List D} (e1 : look env i = some d) (e2 : lst1 d = some xs) (h : EK (ev Δ a env) (fun x env => OK (own a x) fun x => OK ((look env i).bind lst1) fun xs => OK (m1op m xs x) fun p => ∃ env', SetR env i (.nd (.lst true) p.1) env' ∧ K p.2 env') X) : EK (ev Δ (.mut1 m (.var i) a) env) K X := by
  show EK (match look env i with
      | some t => (match (getL t []).bind lst1 with
        | some _ => (ev Δ a env).bind fun x env => (match own a x with
          | some x => (match look env i with
            | some t => (match (getL t []).bind lst1 with
              | some xs => (match m1op m xs x with
                | some (ys, d) => .ok d (env.set i (setL (.nd (.lst true) ys) t []))
                | none => .bad)
              | none => .bad)
            | none => .bad)
          | none => .bad)
        | none => .bad)
      | none => .bad) K X
  rw [e1]
  show EK (match lst1 d with
        | some _ => (ev Δ a env).bind fun x env => (match own a x with
          | some x => (match look env i with
            | some t => (match (getL t []).bind lst1 with
              | some xs => (match m1op m xs x with
                | some (ys, d) => .ok d (env.set i (setL (.nd (.lst true) ys) t []))
                | none => .bad)
              | none => .bad)
            | none => .bad)
          | none => .bad)
        | none => .bad) K X
  rw [e2]
  refine k_bind (h.imp (fun x env q => ?_) fun _ _ q => q)
  obtain ⟨x', h1, xs', h2, ⟨ys, d'⟩, h3, env', s, k⟩ := q
  rw [h1]
  obtain ⟨t, h4, h5⟩ := Option.bind_eq_some_iff.mp h2
  dsimp only
  rw [h4]
  show EK (match lst1 t with
              | some xs => (match m1op m xs x' with
                | some (ys, d) => .ok d (env.set i (setL (.nd (.lst true) ys) t []))
                | none => .bad)
              | none => .bad) K X
  rw [h5]
  dsimp only
  rw [h3]
  show K d' (env.set i (.nd (.lst true) ys))
  rw [s.eq.1]
  exact k
theorem k_mut0 {m : M0} {i : Nat} {d : D} {xs : List D} {env : List D} (e1 : look env i = some d) (e2 : lst1 d = some xs) (h : OK (m0op m xs) fun p => ∃ env', SetR env i (.nd (.lst true) p.1) env' ∧ K p.2 env') : EK (ev Δ (.mut0 m (.var i)) env) K X := by
  show EK (match look env i with
      | some t => (match (getL t []).bind lst1 with
        | some xs => (match m0op m xs with
          | some (ys, d) => .ok d (env.set i (setL (.nd (.lst true) ys) t []))
          | none => .bad)
        | none => .bad)
      | none => .bad) K X
  rw [e1]
  show EK (match lst1 d with
        | some xs => (match m0op m xs with
          | some (ys, d') => .ok d' (env.set i (setL (.nd (.lst true) ys) d []))
          | none => .bad)
        | none => .bad) K X
  rw [e2]
  obtain ⟨⟨ys, d'⟩, h3, env', s, k⟩ := h
  dsimp only
  rw [h3]
  show K d' (env.set i (.nd (.lst true) ys))
  rw [s.eq.1]
  exact k
/-! ### what is walked -/
theorem k_seq {K : List D → List D → Prop} {a : E} (h : EK (ev Δ a env) (fun d e => wkd a d = true ∧ OK (seqI d) fun l => K l e) X) : EK (evi Δ (.seq a) env) K X :=
  k_bind (h.imp (fun d e q => k_of (by rw [if_pos q.1]; exact q.2)) fun _ _ q => q)
theorem k_range1 {K : List D → List D → Prop} {a : E} (h : EK (ev Δ a env) (fun d e => OK (toI d) fun j => small j = true ∧ K (rangeD 0 j.toNat) e) X) : EK (evi Δ (.range1 a) env) K X :=
  k_bind (h.imp (fun d e q => k_of (OK.bind (q.imp fun x ⟨h1, h2⟩ => ⟨h1, by dsimp only; rw [if_pos h2.1]; exact k_some h2.2⟩))) fun _ _ q => q)
theorem k_range2 {K : List D → List D → Prop} {a b : E} (h : EK (ev Δ a env) (fun x e => match x with | .int i => EK (ev Δ b e) (fun y e => OK (toI y) fun j => small i = true ∧ small j = true ∧ K (rangeD i (j - i).toNat) e) X | _ => False) X) : EK (evi Δ (.range2 a b) env) K X :=
  k_bind (h.imp (fun d e q => by
    cases d <;> first | exact q.elim | skip
    rename_i i
    exact k_bind (EK.imp q (fun d e q => k_of (OK.bind (q.imp fun x ⟨h1, h2⟩ => ⟨h1, by dsimp only; rw [h2.1, h2.2.1]; exact k_some h2.2.2⟩))) fun _ _ q => q)) fun _ _ q => q)
theorem k_zip {K : List D → List D → Prop} {a b : E} (hb : ef b = false) (h : EK (ev Δ a env) (fun x e => EK (ev Δ b e) (fun y e => wkd a x = true ∧ wkd b y = true ∧ OK (zipS x y) fun l => K l e) X) X) : EK (evi Δ (.zip a b) env) K X := by
  show EK (if ef b = true then .bad else _) K X
  rw [hb]
  simp only [Bool.false_eq_true, if_false]
  exact k_bind (h.imp (fun d e q => k_bind (q.imp (fun y e q => k_of (by rw [q.1, q.2.1]; exact q.2.2)) fun _ _ q => q)) fun _ _ q => q)
theorem k_enum {K : List D → List D → Prop} {a : E} (h : EK (ev Δ a env) (fun d e => wkd a d = true ∧ OK (seqI d) fun l => K (idxs 0 l) e) X) : EK (evi Δ (.enum a) env) K X :=
  k_bind (h.imp (fun d e q => k_of (by rw [if_pos q.1]; exact q.2.map)) fun _ _ q => q)
theorem k_rev {K : List D → List D → Prop} {a : E} (h : EK (ev Δ a env) (fun d e => wkd a d = true ∧ OK (lstI d) fun l => K l.reverse e) X) : EK (evi Δ (.rev a) env) K X :=
  k_bind (h.imp (fun d e q => k_of (by rw [if_pos q.1]; exact q.2.map)) fun _ _ q => q)
/-! ### comprehensions -/
theorem loopC_inv {turn : D → List D → Res (Option D)} {chk : List D → Bool} {α : Type} {enc : α → D} (I : List α → List D → List D → Prop)
    (step : ∀ a r acc e, I (a :: r) acc e → EK (turn (enc a) e) (fun o e2 => chk e2 = true ∧ match o with | some x => acc.length < sizeL ∧ I r (acc ++ [x]) e2 | none => I r acc e2) fun _ _ => False) (fin : ∀ acc e, I [] acc e → K (.nd (.lst true) acc) e) :
    ∀ (l : List α) (acc e : List D), I l acc e → EK (loopC turn chk (l.map enc) acc e) K X
  | [], acc, e, h => fin acc e h
  | a :: l, acc, e, h => by
    have w := step a l acc e h
    show EK ((turn (enc a) e).calm.bind fun o e2 => if chk e2 then (match o with
      | some x => if acc.length < sizeL then loopC turn chk (l.map enc) (acc ++ [x]) e2 else .bad
      | none => loopC turn chk (l.map enc) acc e2) else .bad) K X
    cases q : turn (enc a) e with
    | ok o e2 =>
      rw [q] at w
      obtain ⟨w1, w2⟩ := w
      show EK (if chk e2 = true then (match o with
        | some x => if acc.length < sizeL then loopC turn chk (l.map enc) (acc ++ [x]) e2 else .bad
        | none => loopC turn chk (l.map enc) acc e2) else .bad) K X
      rw [if_pos w1]
      cases o with
      | some x =>
        dsimp only
        rw [if_pos w2.1]
        exact loopC_inv I step fin l _ e2 w2.2
      | none => exact loopC_inv I step fin l acc e2 w2
    | err x e2 => rw [q] at w; exact w.elim
    | bad => rw [q] at w; exact w.elim
inductive WipeR : List D → List Nat → List D → Prop
  | nil {e : List D} : WipeR e [] e
  | cons {e e1 e2 : List D} {i : Nat} {l : List Nat} : WipeR e l e1 → SetR e1 i .hole e2 → WipeR e (i :: l) e2
theorem WipeR.eq : ∀ {e e2 : List D} {l : List Nat}, WipeR e l e2 → wipeE e l = e2
  | _, _, _, .nil => rfl
  | e, _, _, .cons (i := i) (l := l) h s => by
    show (wipeE e l).set i .hole = _
    rw [h.eq, s.eq.1]
/-- a comprehension that changes nothing -/
theorem k_comp {α : Type} {ow : List Nat} {t : T} {it : I} {elt : E} (l : List α) (enc g : α → D)
    (h : EK (evi Δ it env) (fun ds e1 => ds = l.map enc ∧ holesE e1 ow = true ∧ l.length ≤ sizeL ∧ (∀ a, a ∈ l → OK (asgT Δ t (enc a) e1) fun e2 => EK (ev Δ elt e2) (fun x e3 => OK (own elt x) fun x => x = g a ∧ WipeR e3 ow e1) fun _ _ => False) ∧ K (.nd (.lst true) (l.map g)) e1) X) : EK (ev Δ (.comp ow t it elt) env) K X := by
  rw [ev_comp]
  refine k_bind (h.imp (fun ds e1 q => ?_) fun _ _ q => q)
  obtain ⟨rfl, h1, h2, h3, h4⟩ := q
  show EK (if holesE e1 ow = true then loopC (turnC Δ ow t elt) (stay (srcs it) e1) (l.map enc) [] e1 else .bad) K X
  rw [if_pos h1]
  refine loopC_inv (fun r acc e => ∃ p, l = p ++ r ∧ acc = p.map g ∧ e = e1) (fun a r acc e hI => ?_) (fun acc e hI => ?_) l [] e1 ⟨[], rfl, rfl, rfl⟩
  · obtain ⟨p, rfl, rfl, rfl⟩ := hI
    obtain ⟨e2, h5, h6⟩ := h3 a (by simp)
    unfold turnC
    rw [h5]
    refine k_bind (h6.imp (fun x e3 q => ?_) fun _ _ q => q)
    obtain ⟨x', h7, rfl, h8⟩ := q
    rw [h7]
    refine ⟨?_, ?_, p ++ [a], by simp, by simp, h8.eq⟩
    · show stay (srcs it) e (wipeE e3 ow) = true
      rw [h8.eq]; exact stay_self
    · simp at h2 ⊢; omega
  · obtain ⟨p, h5, rfl, rfl⟩ := hI
    have : p = l := by simpa using h5.symm
    subst this
    exact h4
/-- .. with a test -/
theorem k_compI {α : Type} {ow : List Nat} {t : T} {it : I} {c elt : E} (l : List α) (enc g : α → D) (p : α → Bool)
    (h : EK (evi Δ it env) (fun ds e1 => ds = l.map enc ∧ holesE e1 ow = true ∧ l.length ≤ sizeL ∧ (∀ a, a ∈ l → OK (asgT Δ t (enc a) e1) fun e2 => EK (ev Δ c e2) (fun d e3 => BK d (p a = true ∧ EK (ev Δ elt e3) (fun x e4 => OK (own elt x) fun x => x = g a ∧ WipeR e4 ow e1) fun _ _ => False) (p a = false ∧ WipeR e3 ow e1)) fun _ _ => False) ∧ K (.nd (.lst true) ((l.filter p).map g)) e1) X) : EK (ev Δ (.compI ow t it c elt) env) K X := by
  rw [ev_compI]
  refine k_bind (h.imp (fun ds e1 q => ?_) fun _ _ q => q)
  obtain ⟨rfl, h1, h2, h3, h4⟩ := q
  show EK (if holesE e1 ow = true then loopC (turnI Δ ow t c elt) (stay (srcs it) e1) (l.map enc) [] e1 else .bad) K X
  rw [if_pos h1]
  refine loopC_inv (fun r acc e => ∃ q, l = q ++ r ∧ acc = (q.filter p).map g ∧ e = e1) (fun a r acc e hI => ?_) (fun acc e hI => ?_) l [] e1 ⟨[], rfl, rfl, rfl⟩
  · obtain ⟨q, rfl, rfl, rfl⟩ := hI
    obtain ⟨e2, h5, h6⟩ := h3 a (by simp)
    unfold turnI
    rw [h5]
    refine k_bind (h6.imp (fun x e3 w => ?_) fun _ _ q => q)
    cases x <;> first | exact w.elim | skip
    rename_i b
    cases b with
    | true =>
      obtain ⟨w1, w2⟩ := w.1 rfl
      refine k_bind (EK.imp w2 (fun x e4 w => ?_) fun _ _ q => q)
      obtain ⟨x', h7, rfl, h8⟩ := w
      
      rw [h7]
      refine ⟨?_, ?_, q ++ [a], by simp, by simp [w1], h8.eq⟩
      · show stay (srcs it) e (wipeE e4 ow) = true
        rw [h8.eq]; exact stay_self
      · have := List.length_filter_le p q
        simp at h2 ⊢; omega
    | false =>
      obtain ⟨w1, w2⟩ := w.2 rfl
      refine ⟨?_, q ++ [a], by simp, by simp [w1], w2.eq⟩
      show stay (srcs it) e (wipeE e3 ow) = true
      rw [w2.eq]; exact stay_self
  · obtain ⟨q, h5, rfl, rfl⟩ := hI
    have : q = l := by simpa using h5.symm
    subst this
    exact h4
/-- a comprehension by what holds between its turns -/
theorem k_compV {α : Type} {ow : List Nat} {t : T} {it : I} {elt : E} (l : List α) (enc : α → D) (I : List α → List D → List D → Prop)
    (h : EK (evi Δ it env) (fun ds e1 => ds = l.map enc ∧ holesE e1 ow = true ∧ I l [] e1 ∧ (∀ a r acc e, (a :: r) <:+ l → I (a :: r) acc e → OK (asgT Δ t (enc a) e) fun e2 => EK (ev Δ elt e2) (fun x e3 => OK (own elt x) fun x => ∃ e4, WipeR e3 ow e4 ∧ stay (srcs it) e1 e4 = true ∧ acc.length < sizeL ∧ I r (acc ++ [x]) e4) fun _ _ => False) ∧ ∀ acc e, I [] acc e → K (.nd (.lst true) acc) e) X) : EK (ev Δ (.comp ow t it elt) env) K X := by
  rw [ev_comp]
  refine k_bind (h.imp (fun ds e1 q => ?_) fun _ _ q => q)
  obtain ⟨rfl, h1, h2, h3, h4⟩ := q
  show EK (if holesE e1 ow = true then loopC (turnC Δ ow t elt) (stay (srcs it) e1) (l.map enc) [] e1 else .bad) K X
  rw [if_pos h1]
  refine loopC_inv (fun r acc e => r <:+ l ∧ I r acc e) (fun a r acc e hI => ?_) (fun acc e hI => h4 acc e hI.2) l [] e1 ⟨List.suffix_refl l, h2⟩
  obtain ⟨e2, h5, h6⟩ := h3 a r acc e hI.1 hI.2
  unfold turnC
  rw [h5]
  refine k_bind (h6.imp (fun x e3 q => ?_) fun _ _ q => q)
  obtain ⟨x', h7, e4, h8, h9, h10, h11⟩ := q
  
  rw [h7]
  refine ⟨?_, h10, (List.suffix_cons a r).trans hI.1, ?_⟩
  · show stay (srcs it) e1 (wipeE e3 ow) = true
    rw [h8.eq]; exact h9
  · show I r (acc ++ [x']) (wipeE e3 ow)
    rw [h8.eq]; exact h11
/-! ### targets -/
theorem j_name {i : Nat} {d : D} {e' : List D} {K : List D → Prop} (s : SetR env i d e') (h : K e') : OK (asgT Δ (.name i) d env) K := by
  obtain ⟨h1, h2⟩ := s.eq
  show OK (if i < env.length then some (env.set i d) else none) K
  rw [if_pos h2, h1]
  exact k_some h
theorem j_tup {ts : Ts} {xs : List D} {K : List D → Prop} (h : OK (asgTs Δ ts xs env) K) : OK (asgT Δ (.tup ts) (.nd .tup xs) env) K := h
theorem j_nil {K : List D → Prop} (h : K env) : OK (asgTs Δ .nil [] env) K := k_some h
theorem j_cons {t : T} {ts : Ts} {d : D} {ds : List D} {K : List D → Prop} (h : OK (asgT Δ t d env) fun e => OK (asgTs Δ ts ds e) K) : OK (asgTs Δ (.cons t ts) (d :: ds) env) K := by
  obtain ⟨e, h1, h2⟩ := h
  show OK (match asgT Δ t d env with
    | some e => asgTs Δ ts ds e
    | none => none) K
  rw [h1]
  exact h2
theorem j_idx {r : Nat} {i : E} {d t : D} {xs : List D} {K : List D → Prop} (hf : ef i = false) (e1 : look env r = some t) (e2 : lst1 t = some xs) (h : EK (ev Δ i env) (fun j _ => OK ((toI j).bind (ixN xs.length)) fun n => ∃ e', SetR env r (.nd (.lst true) (xs.set n d)) e' ∧ K e') fun _ _ => False) : OK (asgT Δ (.idx (.var r) i) d env) K := by
  show OK (if ef i then none else (match look env r with
      | some t => (match (getL t []).bind lst1 with
        | some xs => (match ev Δ i env with
          | .ok j _ => (match (toI j).bind (ixN xs.length) with
            | some n => some (env.set r (setL (.nd (.lst true) (xs.set n d)) t []))
            | none => none)
          | _ => none)
        | none => none)
      | none => none)) K
  rw [hf, e1]
  simp only [Bool.false_eq_true, if_false]
  show OK (match lst1 t with
        | some xs => (match ev Δ i env with
          | .ok j _ => (match (toI j).bind (ixN xs.length) with
            | some n => some (env.set r (.nd (.lst true) (xs.set n d)))
            | none => none)
          | _ => none)
        | none => none) K
  rw [e2]
  cases q : ev Δ i env with
  | ok j e =>
    rw [q] at h
    obtain ⟨n, h1, e', s, k⟩ := h
    dsimp only
    rw [h1]
    dsimp only
    rw [s.eq.1]
    exact k_some k
  | err x e => rw [q] at h; exact h.elim
  | bad => rw [q] at h; exact h.elim
/-! ### statements -/
def Ss.app : Ss → Ss → Ss
  | .nil, b => b
  | .cons s ss, b => .cons s (ss.app b)
theorem exss_app {b : Ss} : ∀ {a : Ss} {env : List D}, exss Δ (a.app b) env = (match exss Δ a env with
    | .next e => exss Δ b e
    | r => r)
  | .nil, _ => rfl
  | .cons s ss, env => by
    show (match exs Δ s env with
      | .next e => exss Δ (ss.app b) e
      | r => r) = (match (match exs Δ s env with
      | .next e => exss Δ ss e
      | r => r) with
    | .next e => exss Δ b e
    | r => r)
    cases exs Δ s env with
    | next e => exact exss_app
    | _ => rfl
theorem z_out {s : S} {ss : Ss} {r : Res D} {k : D → List D → Out} (hs : exs Δ s env = r.out k) (h : EK r (fun d e => Wt (match k d e with
    | .next e => exss Δ ss e
    | r => r) Q) Q.er) : Wt (exss Δ (.cons s ss) env) Q := by
  show Wt (match exs Δ s env with
    | .next e => exss Δ ss e
    | r => r) Q
  rw [hs]
  cases r with
  | ok d e => exact h
  | err x e => exact h
  | bad => exact h
theorem z_nil (h : Q.nx env) : Wt (exss Δ .nil env) Q := h
theorem z_set {i : Nat} {e : E} {ss : Ss} (h : EK (ev Δ e env) (fun d e1 => OK (own e d) fun d => ∃ e2, SetR e1 i d e2 ∧ Wt (exss Δ ss e2) Q) Q.er) : Wt (exss Δ (.cons (.set i e) ss) env) Q :=
  z_out (s := .set i e) rfl (h.imp (fun d e1 q => by
    obtain ⟨d', h1, e2, s, k⟩ := q
    rw [h1]
    dsimp only
    rw [if_pos s.eq.2, s.eq.1]
    exact k) fun _ _ q => q)
theorem z_expr {e : E} {ss : Ss} (h : EK (ev Δ e env) (fun _ e1 => Wt (exss Δ ss e1) Q) Q.er) : Wt (exss Δ (.cons (.expr e) ss) env) Q :=
  z_out (s := .expr e) rfl (h.imp (fun d e1 q => q) fun _ _ q => q)
theorem z_ret {e : E} {ss : Ss} (h : EK (ev Δ e env) (fun d e1 => OK (own e d) fun d => Q.rt d e1) Q.er) : Wt (exss Δ (.cons (.ret e) ss) env) Q :=
  z_out (s := .ret e) rfl (h.imp (fun d e1 q => by
    obtain ⟨d', h1, h2⟩ := q
    rw [h1]
    exact h2) fun _ _ q => q)
theorem z_asg {t : T} {e : E} {ss : Ss} (h : EK (ev Δ e env) (fun d e1 => OK (own e d) fun d => OK (asgT Δ t d e1) fun e2 => Wt (exss Δ ss e2) Q) Q.er) : Wt (exss Δ (.cons (.asg t e) ss) env) Q :=
  z_out (s := .asg t e) rfl (h.imp (fun d e1 q => by
    obtain ⟨d', h1, e2, h2, h3⟩ := q
    rw [h1]
    dsimp only
    rw [h2]
    exact h3) fun _ _ q => q)
theorem z_par {i j : Nat} {a b : E} {ss : Ss} (hij : i ≠ j) (h : EK (evs Δ (.cons a (.cons b .nil)) env) (fun ds e => match ds with
    | [x, y] => ∃ e1 e2, SetR e i x e1 ∧ SetR e1 j y e2 ∧ Wt (exss Δ ss e2) Q
    | _ => False) Q.er) : Wt (exss Δ (.cons (.par i j a b) ss) env) Q := by
  show Wt (match (match evs Δ (.cons a (.cons b .nil)) env with
    | .ok [x, y] e2 => if i < e2.length ∧ j < e2.length ∧ i ≠ j then Out.next ((e2.set i x).set j y) else Out.bad
    | .err x e => .err x e
    | _ => .bad) with
    | .next e => exss Δ ss e
    | r => r) Q
  cases q : evs Δ (.cons a (.cons b .nil)) env with
  | ok ds e =>
    rw [q] at h
    cases ds with
    | nil => exact h.elim
    | cons x r =>
      cases r with
      | nil => exact h.elim
      | cons y r2 =>
        cases r2 with
        | nil =>
          obtain ⟨e1, e2, s1, s2, k⟩ := h
          have l1 := s1.eq
          have l2 := s2.eq
          have l3 : j < e.length := by
            have := l2.2
            rw [← l1.1, List.length_set] at this
            exact this
          dsimp only
          rw [if_pos ⟨l1.2, l3, hij⟩, l1.1, l2.1]
          exact k
        | cons _ _ => exact h.elim
  | err x e => rw [q] at h; exact h
  | bad => rw [q] at h; exact h.elim
theorem z_aug {i : Nat} {o : Bop} {e : E} {x : Int} {ss : Ss} (e0 : look env i = some (.int x)) (h : EK (ev Δ e env) (fun y e1 => OK (toI y) fun y => OK (iop o x y) fun z => ∃ e2, SetR e1 i (.int z) e2 ∧ Wt (exss Δ ss e2) Q) Q.er) : Wt (exss Δ (.cons (.aug i o e) ss) env) Q := by
  refine z_out (s := .aug i o e) (r := ev Δ e env) (k := fun y e1 => (match (toI y).bind fun y => iop o x y with
      | some z => if i < e1.length then .next (e1.set i (.int z)) else .bad
      | none => .bad)) ?_ (h.imp (fun d e1 q => ?_) fun _ _ q => q)
  · show (match (look env i).bind toI with
      | some x => (ev Δ e env).out fun y e1 => (match (toI y).bind fun y => iop o x y with
        | some z => if i < e1.length then .next (e1.set i (.int z)) else .bad
        | none => .bad)
      | none => .bad) = _
    rw [e0]; rfl
  · obtain ⟨y, h1, z, h2, e2, s, k⟩ := q
    rw [h1]
    dsimp only [Option.bind]
    rw [h2]
    dsimp only
    rw [if_pos s.eq.2, s.eq.1]
    exact k
theorem z_augI {r : Nat} {i : E} {o : Bop} {e : E} {t : D} {xs : List D} {ss : Ss} (hf : (ef i || ef e) = false) (e1 : look env r = some t) (e2 : lst1 t = some xs)
    (h : EK (ev Δ i env) (fun j _ => OK ((toI j).bind (ixN xs.length)) fun n => OK xs[n]? fun x => EK (ev Δ e env) (fun y _ => OK (toI x) fun x => OK (toI y) fun y => OK (iop o x y) fun z => ∃ e2, SetR env r (.nd (.lst true) (xs.set n (.int z))) e2 ∧ Wt (exss Δ ss e2) Q) Q.er) fun _ _ => False) : Wt (exss Δ (.cons (.augI (.var r) i o e) ss) env) Q := by
  show Wt (match (if ef i || ef e then .bad else (match look env r with
      | some t => (match (getL t []).bind lst1 with
        | some xs => (match ev Δ i env with
          | .ok j _ => (match (toI j).bind (ixN xs.length) with
            | some n => (match xs[n]? with
              | some x => (ev Δ e env).out fun y _ => (match (toI x).bind fun x => (toI y).bind fun y => iop o x y with
                | some z => .next (env.set r (setL (.nd (.lst true) (xs.set n (.int z))) t []))
                | none => .bad)
              | none => .bad)
            | none => .bad)
          | _ => .bad)
        | none => .bad)
      | none => .bad)) with
    | .next e => exss Δ ss e
    | r => r) Q
  rw [hf, e1]
  simp only [Bool.false_eq_true, if_false]
  show Wt (match (match lst1 t with
        | some xs => (match ev Δ i env with
          | .ok j _ => (match (toI j).bind (ixN xs.length) with
            | some n => (match xs[n]? with
              | some x => (ev Δ e env).out fun y _ => (match (toI x).bind fun x => (toI y).bind fun y => iop o x y with
                | some z => .next (env.set r (.nd (.lst true) (xs.set n (.int z))))
                | none => .bad)
              | none => .bad)
            | none => .bad)
          | _ => .bad)
        | none => .bad) with
    | .next e => exss Δ ss e
    | r => r) Q
  rw [e2]
  cases q : ev Δ i env with
  | ok j e0 =>
    rw [q] at h
    obtain ⟨n, h1, x, h2, h3⟩ := h
    dsimp only
    rw [h1]
    dsimp only
    rw [h2]
    dsimp only
    cases q2 : ev Δ e env with
    | ok y e3 =>
      rw [q2] at h3
      obtain ⟨x1, g1, y1, g2, z, g3, e4, s, k⟩ := h3
      show Wt (match (match (toI x).bind fun x => (toI y).bind fun y => iop o x y with
                | some z => Out.next (env.set r (.nd (.lst true) (xs.set n (.int z))))
                | none => .bad) with
        | .next e => exss Δ ss e
        | r => r) Q
      rw [g1, g2]
      dsimp only [Option.bind]
      rw [g3]
      dsimp only
      rw [s.eq.1]
      exact k
    | err x e => rw [q2] at h3; exact h3
    | bad => rw [q2] at h3; exact h3.elim
  | err x e => rw [q] at h; exact h.elim
  | bad => rw [q] at h; exact h.elim
theorem z_iff {c : E} {a b ss : Ss} (h : EK (ev Δ c env) (fun d e => BK d (Wt (exss Δ (a.app ss) e) Q) (Wt (exss Δ (b.app ss) e) Q)) Q.er) : Wt (exss Δ (.cons (.iff c a b) ss) env) Q :=
  z_out (s := .iff c a b) rfl (h.imp (fun d e q => by
    cases d <;> first | exact q.elim | skip
    rename_i k
    cases k with
    | true => have := q.1 rfl; rw [exss_app] at this; exact this
    | false => have := q.2 rfl; rw [exss_app] at this; exact this) fun _ _ q => q)
theorem z_ret0 {ss : Ss} (h : Q.rt .non env) : Wt (exss Δ (.cons .ret0 ss) env) Q := h
theorem z_pass {ss : Ss} (h : Wt (exss Δ ss env) Q) : Wt (exss Δ (.cons .pass ss) env) Q := h
theorem z_doc {ss : Ss} (h : Wt (exss Δ ss env) Q) : Wt (exss Δ (.cons .doc ss) env) Q := h
theorem z_brk {ss : Ss} (h : Q.bk env) : Wt (exss Δ (.cons .brk ss) env) Q := h
theorem z_cont {ss : Ss} (h : Q.ct env) : Wt (exss Δ (.cons .cont ss) env) Q := h
theorem z_drop {i : Nat} {ss : Ss} {env' : List D} (s : SetR env i .hole env') (h : Wt (exss Δ ss env') Q) : Wt (exss Δ (.cons (.drop i) ss) env) Q := by
  show Wt (exss Δ ss (env.set i .hole)) Q
  rw [s.eq.1]; exact h
/-- a loop by what holds between its turns, by what is left -/
theorem z_fo {α : Type} {t : T} {it : I} {b ss : Ss} (l : List α) (enc : α → D) (I : List α → List D → Prop)
    (h : EK (evi Δ it env) (fun ds e1 => ds = l.map enc ∧ I l e1 ∧ (∀ a r e, (a :: r) <:+ l → I (a :: r) e → OK (asgT Δ t (enc a) e) fun e2 => Wt (exss Δ b e2) { nx := fun e => stay (srcs it) e1 e = true ∧ I r e, ct := fun e => stay (srcs it) e1 e = true ∧ I r e, bk := fun e => Wt (exss Δ ss e) Q, rt := Q.rt, er := Q.er }) ∧ ∀ e, I [] e → Wt (exss Δ ss e) Q) Q.er) : Wt (exss Δ (.cons (.fo t it b) ss) env) Q := by
  have key : ∀ ds e1, (ds = l.map enc ∧ I l e1 ∧ (∀ a r e, (a :: r) <:+ l → I (a :: r) e → OK (asgT Δ t (enc a) e) fun e2 => Wt (exss Δ b e2) { nx := fun e => stay (srcs it) e1 e = true ∧ I r e, ct := fun e => stay (srcs it) e1 e = true ∧ I r e, bk := fun e => Wt (exss Δ ss e) Q, rt := Q.rt, er := Q.er }) ∧ ∀ e, I [] e → Wt (exss Δ ss e) Q) →
      Wt (match loopF (fun d env => (match asgT Δ t d env with
        | some e2 => exss Δ b e2
        | none => .bad)) (stay (srcs it) e1) ds e1 with
        | .next e => exss Δ ss e
        | r => r) Q := fun ds e1 ⟨h1, h2, h3, h4⟩ => by
    subst h1
    have w : Wt (loopF (fun d env => (match asgT Δ t d env with
        | some e2 => exss Δ b e2
        | none => .bad)) (stay (srcs it) e1) (l.map enc) e1) { Q with nx := fun e => Wt (exss Δ ss e) Q } := by
      refine w_loop (fun ds e => ∃ r, ds = r.map enc ∧ r <:+ l ∧ I r e) (fun d r e hI => ?_) (fun e hI => ?_) _ e1 ⟨l, rfl, List.suffix_refl l, h2⟩
      · obtain ⟨r', hr, hs, hi⟩ := hI
        cases r' with
        | nil => cases hr
        | cons a r' =>
          cases hr
          obtain ⟨e2, g1, g2⟩ := h3 a r' e hs hi
          rw [g1]
          dsimp only
          cases q : exss Δ b e2 with
          | next e => rw [q] at g2; exact ⟨g2.1, r', rfl, (List.suffix_cons a r').trans hs, g2.2⟩
          | cont e => rw [q] at g2; exact ⟨g2.1, r', rfl, (List.suffix_cons a r').trans hs, g2.2⟩
          | brk e => rw [q] at g2; exact g2
          | ret d e => rw [q] at g2; exact g2
          | err x e => rw [q] at g2; exact g2
          | bad => rw [q] at g2; exact g2
      · obtain ⟨r', hr, hs, hi⟩ := hI
        cases r' with
        | nil => exact h4 e hi
        | cons a r' => cases hr
    cases q : loopF (fun d env => (match asgT Δ t d env with
        | some e2 => exss Δ b e2
        | none => .bad)) (stay (srcs it) e1) (l.map enc) e1 with
    | next e => rw [q] at w; exact w
    | cont e => rw [q] at w; exact w
    | brk e => rw [q] at w; exact w
    | ret d e => rw [q] at w; exact w
    | err x e => rw [q] at w; exact w
    | bad => rw [q] at w; exact w
  show Wt (match (match evi Δ it env with
    | .ok ds e1 => loopF (fun d env => (match asgT Δ t d env with
        | some e2 => exss Δ b e2
        | none => .bad)) (stay (srcs it) e1) ds e1
    | .err x e => .err x e
    | .bad => .bad) with
    | .next e => exss Δ ss e
    | r => r) Q
  cases q : evi Δ it env with
  | ok ds e1 => rw [q] at h; exact key ds e1 h
  | err x e => rw [q] at h; exact h
  | bad => rw [q] at h; exact h.elim
theorem loopW_inv {test : List D → Res D} {body : List D → Out} (I : Nat → List D → Prop)
    (step : ∀ n e, I n e → EK (test e) (fun d e1 => BK d (Wt (body e1) { nx := fun e2 => ∃ m, m < n ∧ I m e2, ct := fun e2 => ∃ m, m < n ∧ I m e2, bk := Q.nx, rt := Q.rt, er := Q.er }) (Q.nx e1)) Q.er) :
    ∀ (fuel n : Nat) (e : List D), n < fuel → I n e → Wt (loopW test body fuel e) Q
  | 0, n, e, h, _ => absurd h (Nat.not_lt_zero n)
  | fuel + 1, n, e, h, hi => by
    have w := step n e hi
    show Wt (match test e with
    | .ok (.bl true) e => (match body e with
      | .next e => loopW test body fuel e
      | .cont e => loopW test body fuel e
      | .brk e => .next e
      | .ret x e => .ret x e
      | .err x e => .err x e
      | .bad => .bad)
    | .ok (.bl false) e => .next e
    | .err x e => .err x e
    | _ => .bad) Q
    cases q : test e with
    | ok d e1 =>
      rw [q] at w
      cases d <;> first | exact w.elim | skip
      rename_i b
      cases b with
      | false => exact w.2 rfl
      | true =>
        have w := w.1 rfl
        dsimp only
        cases q2 : body e1 with
        | next e2 =>
          rw [q2] at w
          obtain ⟨m, h1, h2⟩ := w
          exact loopW_inv I step fuel m e2 (by omega) h2
        | cont e2 =>
          rw [q2] at w
          obtain ⟨m, h1, h2⟩ := w
          exact loopW_inv I step fuel m e2 (by omega) h2
        | brk e2 => rw [q2] at w; exact w
        | ret d e2 => rw [q2] at w; exact w
        | err x e2 => rw [q2] at w; exact w
        | bad => rw [q2] at w; exact w
    | err x e1 => rw [q] at w; exact w
    | bad => rw [q] at w; exact w.elim
theorem z_whl {c : E} {b ss : Ss} (I : Nat → List D → Prop) (n : Nat) (hn : n < Δ.w) (h0 : I n env)
    (step : ∀ n e, I n e → EK (ev Δ c e) (fun d e1 => BK d (Wt (exss Δ b e1) { nx := fun e2 => ∃ m, m < n ∧ I m e2, ct := fun e2 => ∃ m, m < n ∧ I m e2, bk := fun e => Wt (exss Δ ss e) Q, rt := Q.rt, er := Q.er }) (Wt (exss Δ ss e1) Q)) Q.er) : Wt (exss Δ (.cons (.whl c b) ss) env) Q := by
  have w : Wt (loopW (ev Δ c) (exss Δ b) Δ.w env) { Q with nx := fun e => Wt (exss Δ ss e) Q } := loopW_inv I (fun n e hi => step n e hi) Δ.w n env hn h0
  show Wt (match loopW (ev Δ c) (exss Δ b) Δ.w env with
    | .next e => exss Δ ss e
    | r => r) Q
  cases q : loopW (ev Δ c) (exss Δ b) Δ.w env with
  | next e => rw [q] at w; exact w
  | cont e => rw [q] at w; exact w
  | brk e => rw [q] at w; exact w
  | ret d e => rw [q] at w; exact w
  | err x e => rw [q] at w; exact w
  | bad => rw [q] at w; exact w
/-! ### functions -/
theorem f_run {f : Fn} {ds env : List D} (hl : ds.length = f.mu.length) (he : ds ++ List.replicate (f.nn - f.mu.length) .hole = env) (h : Wt (exss Δ f.body env) { nx := fun e => OK (outsOf f.mu e) fun l => K .non l, rt := fun d e => OK (outsOf f.mu e) fun l => K d l, er := fun x e => OK (outsOf f.mu e) fun l => X x l }) : FK (runF Δ f ds) K X := by
  unfold runF
  rw [if_pos hl, he]
  cases q : exss Δ f.body env with
  | next e =>
    rw [q] at h
    obtain ⟨l, h1, h2⟩ := h
    dsimp only
    rw [h1]
    exact h2
  | ret d e =>
    rw [q] at h
    obtain ⟨l, h1, h2⟩ := h
    dsimp only
    rw [h1]
    exact h2
  | err d e =>
    rw [q] at h
    obtain ⟨l, h1, h2⟩ := h
    dsimp only
    rw [h1]
    exact h2
  | brk e => rw [q] at h; exact h.elim
  | cont e => rw [q] at h; exact h.elim
  | bad => rw [q] at h; exact h.elim
theorem f_call {P : List Fn} {W n j : Nat} {f : Fn} {ds env : List D} (hp : P[j]? = some f) (hl : ds.length = f.mu.length) (he : ds ++ List.replicate (f.nn - f.mu.length) .hole = env) (h : Wt (exss (dl P W n) f.body env) { nx := fun e => OK (outsOf f.mu e) fun l => K .non l, rt := fun d e => OK (outsOf f.mu e) fun l => K d l, er := fun x e => OK (outsOf f.mu e) fun l => X x l }) : FK ((dl P W (n + 1)).call j ds) K X := by
  show FK (match P[j]? with
    | some g => runF (dl P W n) g ds
    | none => .bad) K X
  rw [hp]
  exact f_run hl he h
end Vi

set_option Elab.async false
set_option linter.all false
set_option maxRecDepth 100000
set_option maxHeartbeats 4000000
/-! Vi33: leaves of the forward rules. -/
namespace Vi
open PySem L2
variable {Δ : Dl} {env : List D} {Q : Wn} {K : D → List D → Prop} {X : Ex → List D → Prop}
theorem k_pow' {b e : Nat} {i : Int} (hi : (b : Int) ^ e = i) (h : K (.int i) env) : EK (ev Δ (.pow b e) env) K X := k_pow hi h
def NB (d : D) (f : Bool → Prop) : Prop := match d with
  | .bl b => f b
  | _ => False
def NI (d : D) (f : Int → Prop) : Prop := match d with
  | .int b => f b
  | _ => False
def NP (d : List D) (f : D → D → Prop) : Prop := match d with
  | [x, y] => f x y
  | _ => False
theorem nb_bl {b : Bool} {f : Bool → Prop} (h : f b) : NB (.bl b) f := h
theorem ni_int {b : Int} {f : Int → Prop} (h : f b) : NI (.int b) f := h
theorem np_two {x y : D} {f : D → D → Prop} (h : f x y) : NP [x, y] f := h
theorem k_not' {a : E} (h : EK (ev Δ a env) (fun d e => NB d fun b => K (.bl (!b)) e) X) : EK (ev Δ (.not a) env) K X := k_not (h.imp (fun d e q => by cases d <;> exact q) fun _ _ q => q)
theorem k_nlast' {k : Bool} {e : E} (h : EK (ev Δ e env) (fun d e1 => NB d fun b => K (.bl b) e1) X) : EK (evn Δ k (.cons e .nil) env) K X := k_nlast (h.imp (fun d e q => by cases d <;> exact q) fun _ _ q => q)
theorem k_range2' {K : List D → List D → Prop} {a b : E} (h : EK (ev Δ a env) (fun x e => NI x fun i => EK (ev Δ b e) (fun y e => OK (toI y) fun j => small i = true ∧ small j = true ∧ K (rangeD i (j - i).toNat) e) X) X) : EK (evi Δ (.range2 a b) env) K X := k_range2 (h.imp (fun d e q => by cases d <;> exact q) fun _ _ q => q)
theorem z_par' {i j : Nat} {a b : E} {ss : Ss} (hij : i ≠ j) (h : EK (evs Δ (.cons a (.cons b .nil)) env) (fun ds e => NP ds fun x y => ∃ e1, SetR e i x e1 ∧ ∃ e2, SetR e1 j y e2 ∧ Wt (exss Δ ss e2) Q) Q.er) : Wt (exss Δ (.cons (.par i j a b) ss) env) Q := z_par hij (h.imp (fun d e q => by
  unfold NP at q
  split at q
  · obtain ⟨e1, s1, e2, s2, k⟩ := q
    exact ⟨e1, e2, s1, s2, k⟩
  · exact q.elim) fun _ _ q => q)
theorem rt_mk {nx : List D → Prop} {rt : D → List D → Prop} {bk ct : List D → Prop} {er : Ex → List D → Prop} {d : D} {e : List D} (h : rt d e) : Wn.rt ⟨nx, rt, bk, ct, er⟩ d e := h
theorem nx_mk {nx : List D → Prop} {rt : D → List D → Prop} {bk ct : List D → Prop} {er : Ex → List D → Prop} {e : List D} (h : nx e) : Wn.nx ⟨nx, rt, bk, ct, er⟩ e := h
theorem bk_mk {nx : List D → Prop} {rt : D → List D → Prop} {bk ct : List D → Prop} {er : Ex → List D → Prop} {e : List D} (h : bk e) : Wn.bk ⟨nx, rt, bk, ct, er⟩ e := h
theorem ct_mk {nx : List D → Prop} {rt : D → List D → Prop} {bk ct : List D → Prop} {er : Ex → List D → Prop} {e : List D} (h : ct e) : Wn.ct ⟨nx, rt, bk, ct, er⟩ e := h
theorem er_mk {nx : List D → Prop} {rt : D → List D → Prop} {bk ct : List D → Prop} {er : Ex → List D → Prop} {x : Ex} {e : List D} (h : er x e) : Wn.er ⟨nx, rt, bk, ct, er⟩ x e := h
/-! ### operations -/
section
variable {K : D → Prop}
theorem o_mod {a b : Int} (hb : 0 < b) (h : K (.int (a % b))) : OK (bop .mod (.int a) (.int b)) K := ⟨_, if_pos hb, h⟩
abbrev big : Int := 1000000000000000000000000000000000000000000000000000000000000
theorem o_div {a b : Int} (hb : 0 < b ∧ b ≤ 1000000000000000000000000000000000000000000000000000000000000) (h : K (.int (a / b))) : OK (bop .div (.int a) (.int b)) K := ⟨_, if_pos hb, h⟩
theorem o_mul {a b : Int} (hb : (-18446744073709551616 < a ∧ a < 18446744073709551616) ∨ (-18446744073709551616 < b ∧ b < 18446744073709551616)) (h : K (.int (a * b))) : OK (bop .mul (.int a) (.int b)) K := ⟨_, if_pos hb, h⟩
theorem o_shl {a b : Int} (hb : 0 ≤ b ∧ b ≤ 1000000 ∧ a.natAbs < 18446744073709551616) (h : K (.int (a * 2 ^ b.toNat))) : OK (bop .shl (.int a) (.int b)) K := ⟨_, if_pos hb, h⟩
theorem o_shr {a b : Int} (hb : 0 ≤ b) (h : K (.int (a / 2 ^ b.toNat))) : OK (bop .shr (.int a) (.int b)) K := ⟨_, if_pos hb, h⟩
theorem o_own {e : E} {d : D} (hi : imm d = true) (h : K d) : OK (own e d) K := by
  unfold own
  rw [hi]
  by_cases c : vw e = true
  · rw [if_pos c]; exact k_some h
  · rw [if_neg c]; exact k_some h
theorem o_re {a : E} {l : Bool} {d : D} {env : List D} (hv : isVar a = false) (hi : imm d = true) (h : K d) : OK (re a l d env) K := by
  unfold re
  by_cases c : (vw a && l) = true
  · rw [if_pos c]
    cases a <;> first | (show OK (if imm d then some d else none) K; rw [if_pos hi]; exact k_some h) | cases hv
  · rw [if_neg c]; exact k_some h
theorem ixN_at {n : Nat} {i : Int} (h0 : 0 ≤ i) (h1 : i < n) : ixN n i = some i.toNat := by unfold ixN; rw [if_pos h0, if_pos h1]
theorem kid_at {k : Kd} {n : Nat} {i : Int} (hk : k = .tup ∨ ∃ o, k = .lst o) (h0 : 0 ≤ i) (h1 : i < n) : kid k n (.int i) = some i.toNat := by
  rcases hk with rfl | ⟨o, rfl⟩ <;> exact ixN_at h0 h1
theorem ix_at {k : Kd} {xs : List D} {i : Int} (hk : k = .tup ∨ ∃ o, k = .lst o) (h0 : 0 ≤ i) (h1 : i < xs.length) (h : ∀ d, xs[i.toNat]? = some d → K d) : OK (ix (.nd k xs) (.int i)) K := by
  have hn : i.toNat < xs.length := by omega
  have e : xs[i.toNat]? = some xs[i.toNat] := List.getElem?_eq_getElem hn
  refine ⟨xs[i.toNat], ?_, h _ e⟩
  show (match kid k xs.length (.int i) with
    | some n => xs[n]?
    | none => ixD k xs (.int i)) = _
  rw [kid_at hk h0 h1]
  exact e
/-- any of a written list -/
theorem ix_any {k : Kd} {xs : List D} {i : Int} (hk : k = .tup ∨ ∃ o, k = .lst o) (h0 : 0 ≤ i) (h1 : i < xs.length) (h : ∀ d, d ∈ xs → K d) : OK (ix (.nd k xs) (.int i)) K :=
  ix_at hk h0 h1 fun d hd => h d (List.mem_of_getElem? hd)
/-- an item of a list of things of one kind -/
theorem ix_map {α : Type} {enc : α → D} {k : Kd} {l : List α} {i : Int} (hk : k = .tup ∨ ∃ o, k = .lst o) (h0 : 0 ≤ i) (h1 : i < l.length) (h : ∀ a, l[i.toNat]? = some a → K (enc a)) : OK (ix (.nd k (l.map enc)) (.int i)) K := by
  refine ix_at hk h0 (by simpa using h1) fun d hd => ?_
  rw [List.getElem?_map] at hd
  cases q : l[i.toNat]? with
  | none => rw [q] at hd; cases hd
  | some a => rw [q] at hd; cases hd; exact h a q
theorem o_len {α : Type} {enc : α → D} {k : Kd} {l : List α} (hk : k = .tup ∨ ∃ o, k = .lst o) (h : K (.int l.length)) : OK (b1op .len (.nd k (l.map enc))) K := by
  refine ⟨.int l.length, ?_, h⟩
  rcases hk with rfl | ⟨o, rfl⟩ <;> (show some (D.int (l.map enc).length) = _; rw [List.length_map])
theorem o_tup {k : Kd} {xs : List D} (hk : k = .tup ∨ ∃ o, k = .lst o) (hi : imms xs = true) (h : K (.nd .tup xs)) : OK (b1op .tup (.nd k xs)) K := by
  refine ⟨_, ?_, h⟩
  rcases hk with rfl | ⟨o, rfl⟩ <;> (show (if imms xs = true then some (D.nd .tup xs) else none) = _; rw [if_pos hi])
theorem o_lis {k : Kd} {xs : List D} (hk : k = .tup ∨ ∃ o, k = .lst o) (hi : imms xs = true) (h : K (.nd (.lst true) xs)) : OK (b1op .lis (.nd k xs)) K := by
  refine ⟨_, ?_, h⟩
  rcases hk with rfl | ⟨o, rfl⟩ <;> (show (if imms xs = true then some (D.nd (.lst true) xs) else none) = _; rw [if_pos hi])
theorem o_seqI {k : Kd} {xs : List D} {K : List D → Prop} (hk : k = .tup ∨ ∃ o, k = .lst o) (hi : imms xs = true) (h : K xs) : OK (seqI (.nd k xs)) K := by
  refine ⟨_, ?_, h⟩
  rcases hk with rfl | ⟨o, rfl⟩ <;> (show (if imms xs = true then some xs else none) = _; rw [if_pos hi])
theorem o_zipS {k l : Kd} {xs ys : List D} {K : List D → Prop} (hk : (k = .tup ∧ l = .tup) ∨ ∃ o p, k = .lst o ∧ l = .lst p) (hi : imms xs = true) (hj : imms ys = true) (h : K (zipD xs ys)) : OK (zipS (.nd k xs) (.nd l ys)) K := by
  refine ⟨_, ?_, h⟩
  unfold zipS
  dsimp only
  rw [hi, hj]
  rcases hk with ⟨rfl, rfl⟩ | ⟨o, p, rfl, rfl⟩ <;> rfl
theorem o_append {xs : List D} {d : D} {K : List D × D → Prop} (hl : xs.length < 16777216) (h : K (xs ++ [d], .non)) : OK (m1op .append xs d) K := ⟨_, if_pos hl, h⟩
theorem o_addL {o p : Bool} {xs ys : List D} (hi : imms xs = true) (hj : imms ys = true) (hl : xs.length + ys.length ≤ 16777216) (h : K (.nd (.lst true) (xs ++ ys))) : OK (bop .add (.nd (.lst o) xs) (.nd (.lst p) ys)) K := by
  refine ⟨_, ?_, h⟩
  show (if imms xs && (imms ys && decide (xs.length + ys.length ≤ sizeL)) then _ else _) = _
  rw [hi, hj, decide_eq_true (p := xs.length + ys.length ≤ sizeL) hl]; rfl
theorem o_addT {xs ys : List D} (hi : imms xs = true) (hj : imms ys = true) (hl : xs.length + ys.length ≤ 16777216) (h : K (.nd .tup (xs ++ ys))) : OK (bop .add (.nd .tup xs) (.nd .tup ys)) K := by
  refine ⟨_, ?_, h⟩
  show (if imms xs && (imms ys && decide (xs.length + ys.length ≤ sizeL)) then _ else _) = _
  rw [hi, hj, decide_eq_true (p := xs.length + ys.length ≤ sizeL) hl]; rfl
end
/-! ### lists of things of one kind -/
theorem imms_map {α : Type} {enc : α → D} (h : ∀ a, imm (enc a) = true) : ∀ l : List α, imms (l.map enc) = true
  | [] => rfl
  | a :: l => by show (imm (enc a) && imms (l.map enc)) = true; rw [h, imms_map h l]; rfl
theorem nofs_map {α : Type} {enc : α → D} (h : ∀ a, nof (enc a) = true) : ∀ l : List α, nofs (l.map enc) = true
  | [] => rfl
  | a :: l => by show (nof (enc a) && nofs (l.map enc)) = true; rw [h, nofs_map h l]; rfl
theorem frzs_map' {α : Type} {enc : α → D} (h : ∀ a, frz (enc a) = enc a) (l : List α) : frzs (l.map enc) = l.map enc := by
  rw [frzs_map, List.map_map]
  exact List.map_congr_left fun a _ => h a
theorem zipD_map {α β : Type} {f : α → D} {g : β → D} : ∀ (l : List α) (m : List β), zipD (l.map f) (m.map g) = (l.zip m).map fun p => .nd .tup [f p.1, g p.2]
  | [], _ => rfl
  | _ :: _, [] => rfl
  | a :: l, b :: m => by show _ :: zipD (l.map f) (m.map g) = _; rw [zipD_map l m]; rfl
/-- numbered -/
def num {α : Type} : Nat → List α → List (Nat × α)
  | _, [] => []
  | n, a :: l => (n, a) :: num (n + 1) l
theorem idxs_map {α : Type} {f : α → D} : ∀ (l : List α) (n : Nat), idxs n (l.map f) = (num n l).map fun p => .nd .tup [.int p.1, f p.2]
  | [], _ => rfl
  | a :: l, n => by show _ :: idxs (n + 1) (l.map f) = _; rw [idxs_map l (n + 1)]; rfl
/-- lo, lo + 1, .. -/
def rng (lo : Int) : Nat → List Int
  | 0 => []
  | n + 1 => lo :: rng (lo + 1) n
theorem rangeD_map : ∀ (n : Nat) (lo : Int), rangeD lo n = (rng lo n).map D.int
  | 0, _ => rfl
  | n + 1, lo => by show _ :: rangeD (lo + 1) n = _; rw [rangeD_map n (lo + 1)]; rfl
theorem rng_mem : ∀ {n : Nat} {lo i : Int}, i ∈ rng lo n ↔ lo ≤ i ∧ i < lo + n
  | 0, lo, i => by simp [rng]
  | n + 1, lo, i => by
    show i ∈ lo :: rng (lo + 1) n ↔ _
    rw [List.mem_cons, rng_mem]
    omega
theorem rng_length : ∀ (n : Nat) (lo : Int), (rng lo n).length = n
  | 0, _ => rfl
  | n + 1, lo => by show (rng (lo + 1) n).length + 1 = _; rw [rng_length n]
theorem okds_map {α : Type} {enc : α → D} {n : Nat} (h : ∀ a, okd n (enc a) = true) : ∀ l : List α, okds n (l.map enc) = true
  | [] => by cases n <;> rfl
  | a :: l => by
    have : okds n (enc a :: l.map enc) = (okd n (enc a) && okds n (l.map enc)) := by cases n <;> rfl
    show okds n (enc a :: l.map enc) = true
    rw [this, h, okds_map h l]; rfl
theorem deqs_map {α : Type} [DecidableEq α] {f g : α → D} (h : ∀ a b, deq (f a) (g b) = decide (a = b)) : ∀ l m : List α, deqs (l.map f) (m.map g) = decide (l = m)
  | [], [] => rfl
  | [], _ :: _ => rfl
  | _ :: _, [] => rfl
  | a :: l, b :: m => by
    show (deq (f a) (g b) && deqs (l.map f) (m.map g)) = _
    rw [h, deqs_map h l m]
    by_cases h1 : a = b <;> by_cases h2 : l = m <;> simp [h1, h2]
theorem blsOf_map {α : Type} {p : α → Bool} : ∀ l : List α, blsOf (l.map fun a => .bl (p a)) = some (l.map p)
  | [] => rfl
  | a :: l => by
    show (match blsOf (l.map fun a => .bl (p a)) with
      | some m => some (p a :: m)
      | none => none) = _
    rw [blsOf_map l]; rfl
theorem intsOf_map {α : Type} {p : α → Int} : ∀ l : List α, intsOf (l.map fun a => .int (p a)) = some (l.map p)
  | [] => rfl
  | a :: l => by
    show (match intsOf (l.map fun a => .int (p a)) with
      | some m => some (p a :: m)
      | none => none) = _
    rw [intsOf_map l]; rfl
section
variable {K : D → Prop}
theorem o_all {α : Type} {p : α → Bool} {o : Bool} {l : List α} (h : K (.bl (l.all p))) : OK (b1op .all (.nd (.lst o) (l.map fun a => .bl (p a)))) K := by
  refine ⟨.bl (l.all p), ?_, h⟩
  show (match blsOf (l.map fun a => .bl (p a)) with
      | some l => some (D.bl (l.all id))
      | none => none) = _
  rw [blsOf_map]
  simp [List.all_map]
theorem o_any {α : Type} {p : α → Bool} {o : Bool} {l : List α} (h : K (.bl (l.any p))) : OK (b1op .any (.nd (.lst o) (l.map fun a => .bl (p a)))) K := by
  refine ⟨.bl (l.any p), ?_, h⟩
  show (match blsOf (l.map fun a => .bl (p a)) with
      | some l => some (D.bl (l.any id))
      | none => none) = _
  rw [blsOf_map]
  simp [List.any_map]
theorem o_sum {α : Type} {p : α → Int} {o : Bool} {l : List α} (h : K (.int (l.map p).sum)) : OK (b1op .sum (.nd (.lst o) (l.map fun a => .int (p a)))) K := by
  refine ⟨.int (l.map p).sum, ?_, h⟩
  show (match intsOf (l.map fun a => .int (p a)) with
      | some l => some (D.int l.sum)
      | none => none) = _
  rw [intsOf_map]
theorem o_sumI {o : Bool} {l : List Int} (h : K (.int l.sum)) : OK (b1op .sum (.nd (.lst o) (l.map .int))) K := o_sum (p := fun a => a) (by simpa using h)
/-- two things are asked whether they are like -/
theorem o_eq {a b : D} {p : Prop} [Decidable p] {K : Bool → Prop} (h1 : okd 64 a = true) (h2 : okd 64 b = true) (h3 : deq a b = decide p) (h : K (decide p)) : OK (cop .eq a b) K := by
  refine ⟨_, ?_, h⟩
  show (if okd 64 a && okd 64 b then some (deq a b) else none) = _
  rw [h1, h2, h3]; rfl
theorem o_ne {a b : D} {p : Prop} [Decidable p] {K : Bool → Prop} (h1 : okd 64 a = true) (h2 : okd 64 b = true) (h3 : deq a b = decide p) (h : K (!decide p)) : OK (cop .ne a b) K := by
  refine ⟨_, ?_, h⟩
  show (if okd 64 a && okd 64 b then some (!deq a b) else none) = _
  rw [h1, h2, h3]; rfl
theorem o_nil {a b : D} {K : Bool → Prop} {k : Bool} (h1 : okd 64 a = true) (h2 : okd 64 b = true) (h3 : deq a b = k) (h : K k) : OK (cop .eq a b) K := by
  refine ⟨_, ?_, h⟩
  show (if okd 64 a && okd 64 b then some (deq a b) else none) = _
  rw [h1, h2, h3]; rfl
end
/-! ### rules without open places -/
theorem k_var' {i : Nat} (h : OK (look env i) fun d => K d env) : EK (ev Δ (.var i) env) K X := by
  obtain ⟨d, e, h⟩ := h
  exact k_var e h
theorem k_mv' {i : Nat} (h : OK (look env i) fun d => ∃ e', SetR env i .hole e' ∧ K d e') : EK (ev Δ (.mv i) env) K X := by
  obtain ⟨d, e, e', s, h⟩ := h
  exact k_mv e s h
theorem k_amu' {K : List (Option D) → List D → Prop} {i : Nat} {r : As} (h : OK (look env i) fun _ => EK (eva Δ r env) (fun ds e2 => K (none :: ds) e2) X) : EK (eva Δ (.mu (.var i) r) env) K X := by
  obtain ⟨d, e, h⟩ := h
  exact k_amu e h
theorem k_powE {b e : Nat} (h : ∀ i : Int, (b : Int) ^ e = i → K (.int i) env) : EK (ev Δ (.pow b e) env) K X := h _ rfl
theorem k_mut1' {m : M1} {i : Nat} {a : E} {env : List D} (h : OK ((look env i).bind lst1) fun _ => EK (ev Δ a env) (fun x env => OK (own a x) fun x => OK ((look env i).bind lst1) fun xs => OK (m1op m xs x) fun p => ∃ env', SetR env i (.nd (.lst true) p.1) env' ∧ K p.2 env') X) : EK (ev Δ (.mut1 m (.var i) a) env) K X := by
  obtain ⟨xs, e, h⟩ := h
  obtain ⟨t, h1, h2⟩ := Option.bind_eq_some_iff.mp e
  exact k_mut1 h1 h2 h
theorem k_mut0' {m : M0} {i : Nat} {env : List D} (h : OK ((look env i).bind lst1) fun xs => OK (m0op m xs) fun p => ∃ env', SetR env i (.nd (.lst true) p.1) env' ∧ K p.2 env') : EK (ev Δ (.mut0 m (.var i)) env) K X := by
  obtain ⟨xs, e, h⟩ := h
  obtain ⟨t, h1, h2⟩ := Option.bind_eq_some_iff.mp e
  exact k_mut0 h1 h2 h
theorem j_idx' {r : Nat} {i : E} {d : D} {K : List D → Prop} (hf : ef i = false) (h : OK ((look env r).bind lst1) fun xs => EK (ev Δ i env) (fun j _ => OK ((toI j).bind (ixN xs.length)) fun n => ∃ e', SetR env r (.nd (.lst true) (xs.set n d)) e' ∧ K e') fun _ _ => False) : OK (asgT Δ (.idx (.var r) i) d env) K := by
  obtain ⟨xs, e, h⟩ := h
  obtain ⟨t, h1, h2⟩ := Option.bind_eq_some_iff.mp e
  exact j_idx hf h1 h2 h
theorem j_name' {i : Nat} {d : D} {K : List D → Prop} (h : ∃ e', SetR env i d e' ∧ K e') : OK (asgT Δ (.name i) d env) K := by
  obtain ⟨e', s, h⟩ := h
  exact j_name s h
theorem z_drop' {i : Nat} {ss : Ss} (h : ∃ e', SetR env i .hole e' ∧ Wt (exss Δ ss e') Q) : Wt (exss Δ (.cons (.drop i) ss) env) Q := by
  obtain ⟨e', s, h⟩ := h
  exact z_drop s h
theorem z_aug' {i : Nat} {o : Bop} {e : E} {ss : Ss} (h : OK ((look env i).bind toI) fun x => EK (ev Δ e env) (fun y e1 => OK (toI y) fun y => OK (iop o x y) fun z => ∃ e2, SetR e1 i (.int z) e2 ∧ Wt (exss Δ ss e2) Q) Q.er) : Wt (exss Δ (.cons (.aug i o e) ss) env) Q := by
  obtain ⟨x, e0, h⟩ := h
  obtain ⟨t, h1, h2⟩ := Option.bind_eq_some_iff.mp e0
  cases t <;> first | (cases h2; done) | skip
  cases h2
  exact z_aug h1 h
theorem z_augI' {r : Nat} {i : E} {o : Bop} {e : E} {ss : Ss} (hf : (ef i || ef e) = false)
    (h : OK ((look env r).bind lst1) fun xs => EK (ev Δ i env) (fun j _ => OK ((toI j).bind (ixN xs.length)) fun n => OK xs[n]? fun x => EK (ev Δ e env) (fun y _ => OK (toI x) fun x => OK (toI y) fun y => OK (iop o x y) fun z => ∃ e2, SetR env r (.nd (.lst true) (xs.set n (.int z))) e2 ∧ Wt (exss Δ ss e2) Q) Q.er) fun _ _ => False) : Wt (exss Δ (.cons (.augI (.var r) i o e) ss) env) Q := by
  obtain ⟨xs, e0, h⟩ := h
  obtain ⟨t, h1, h2⟩ := Option.bind_eq_some_iff.mp e0
  exact z_augI hf h1 h2 h
theorem z_app1 {s : S} {a b : Ss} (h : Wt (exss Δ (.cons s (a.app b)) env) Q) : Wt (exss Δ ((Ss.cons s a).app b) env) Q := h
theorem z_app0 {b : Ss} (h : Wt (exss Δ b env) Q) : Wt (exss Δ (Ss.nil.app b) env) Q := h
theorem set_K {P : List D → Prop} {e e2 : List D} {i : Nat} {d : D} (s : SetR e i d e2) (h : P e2) : ∃ e2, SetR e i d e2 ∧ P e2 := ⟨e2, s, h⟩
theorem put_K {P : List D → Prop} {e e2 : List D} {ps : List (Nat × List Nat)} {ds : List D} (s : PutR e ps ds e2) (h : P e2) : ∃ e2, PutR e ps ds e2 ∧ P e2 := ⟨e2, s, h⟩
theorem wip_K {P : List D → Prop} {e e2 : List D} {l : List Nat} (s : WipeR e l e2) (h : P e2) : ∃ e2, WipeR e l e2 ∧ P e2 := ⟨e2, s, h⟩
theorem o_toIix {n : Nat} {i : Int} {K : Nat → Prop} (h0 : 0 ≤ i) (h1 : i < n) (h : K i.toNat) : OK ((toI (.int i)).bind (ixN n)) K := ⟨_, ixN_at h0 h1, h⟩
theorem rt_ok {α : Type} {o : Option α} {a : α} {K : α → Prop} (e : o = some a) (h : K a) : OK o K := ⟨a, e, h⟩
theorem seq_cp {a b : Prop} (h1 : a) (h2 : b) : a ∧ b := ⟨h1, h2⟩
mutual
inductive FrzR : D → D → Prop
  | non : FrzR .non .non
  | bl {b : Bool} : FrzR (.bl b) (.bl b)
  | int {i : Int} : FrzR (.int i) (.int i)
  | str {x : Str} : FrzR (.str x) (.str x)
  | tup {xs ys : List D} : FrzsR xs ys → FrzR (.nd .tup xs) (.nd .tup ys)
  | lst {o : Bool} {xs ys : List D} : FrzsR xs ys → FrzR (.nd (.lst o) xs) (.nd (.lst false) ys)
inductive FrzsR : List D → List D → Prop
  | nil : FrzsR [] []
  | cons {x y : D} {xs ys : List D} : FrzR x y → FrzsR xs ys → FrzsR (x :: xs) (y :: ys)
end
mutual
theorem FrzR.eq : ∀ {d d' : D}, FrzR d d' → frz d = d'
  | _, _, .non => rfl
  | _, _, .bl => rfl
  | _, _, .int => rfl
  | _, _, .str => rfl
  | _, _, .tup h => by
    show D.nd .tup (frzs _) = _
    rw [h.eq]
  | _, _, .lst h => by
    show D.nd (.lst false) (frzs _) = _
    rw [h.eq]
theorem FrzsR.eq : ∀ {d d' : List D}, FrzsR d d' → frzs d = d'
  | _, _, .nil => rfl
  | _, _, .cons h1 h2 => by
    show frz _ :: frzs _ = _
    rw [h1.eq, h2.eq]
end
theorem FrzsR.map {α : Type} {f g : α → D} (h : ∀ a, FrzR (f a) (g a)) : ∀ {l : List α}, FrzsR (l.map f) (l.map g)
  | [] => .nil
  | a :: l => .cons (h a) (FrzsR.map h)
inductive ArgsR (env : List D) : List (Option D) → List (Nat × List Nat) → List D → Prop
  | nil : ArgsR env [] [] []
  | ro {d d' : D} {r : List (Option D)} {ps : List (Nat × List Nat)} {l : List D} : FrzR d d' → ArgsR env r ps l → ArgsR env (some d :: r) ps (d' :: l)
  | mu {i : Nat} {d : D} {r : List (Option D)} {ps : List (Nat × List Nat)} {l : List D} : look env i = some d → ArgsR env r ps l → ArgsR env (none :: r) ((i, []) :: ps) (d :: l)
theorem ArgsR.eq : ∀ {ds : List (Option D)} {ps : List (Nat × List Nat)} {l : List D}, ArgsR env ds ps l → argsD env ds ps = some l
  | _, _, _, .nil => rfl
  | _, ps, _, .ro (d := d) (r := r) h k => by
    show (match argsD env r ps with
      | some l => some (frz d :: l)
      | none => none) = _
    rw [k.eq, h.eq]
  | _, _, _, .mu (i := i) (r := r) (ps := ps) h k => by
    show (match look env i with
      | some t => (match getL t [] with
        | some d => (match argsD env r ps with
          | some l => some (d :: l)
          | none => none)
        | none => none)
      | none => none) = _
    rw [h, k.eq]; rfl
theorem o_args {ds : List (Option D)} {ps : List (Nat × List Nat)} {l : List D} {K : List D → Prop} (h : ArgsR env ds ps l) (k : K l) : OK (argsD env ds ps) K := ⟨l, h.eq, k⟩
theorem isFK {r : Fo} {K : D → List D → Prop} {X : Ex → List D → Prop} (h : FK r K X) : FK r K X := h
section
variable {α : Type} {K1 : D → Prop} {KL : List D → List D → Prop} {KA : List (Option D) → List D → Prop}
theorem isev {e : E} (h : EK (ev Δ e env) K X) : EK (ev Δ e env) K X := h
theorem isEva {e : As} (h : EK (eva Δ e env) KA X) : EK (eva Δ e env) KA X := h
theorem isEvs {e : Es} (h : EK (evs Δ e env) KL X) : EK (evs Δ e env) KL X := h
theorem isEvn {e : Es} {k : Bool} (h : EK (evn Δ k e env) K X) : EK (evn Δ k e env) K X := h
theorem isEvi {e : I} (h : EK (evi Δ e env) KL X) : EK (evi Δ e env) KL X := h
theorem isOK {o : Option α} {K : α → Prop} (h : OK o K) : OK o K := h
theorem isOwn {e : E} {d : D} (h : OK (own e d) K1) : OK (own e d) K1 := h
theorem isBop {o : Bop} {x y : D} (h : OK (bop o x y) K1) : OK (bop o x y) K1 := h
theorem isBK {d : D} {A B : Prop} (h : BK d A B) : BK d A B := h
theorem isSs {ss : Ss} (h : Wt (exss Δ ss env) Q) : Wt (exss Δ ss env) Q := h
end
def eI (l : List Int) : D := .nd (.lst true) (l.map .int)
theorem intl_imm (l : List Int) : imms (l.map D.int) = true := imms_map (fun _ => rfl) l
theorem stay_of {l : List Nat} {e1 e2 : List D} (h : ∀ i, i ∈ l → e1[i]? = e2[i]?) : stay l e1 e2 = true := List.all_eq_true.mpr fun i hi => decide_eq_true (h i hi)
end Vi

set_option Elab.async false
set_option linter.all false
set_option maxRecDepth 100000
set_option maxHeartbeats 4000000
/-! Vi34: the rules as equations, for simp. -/
namespace Vi
open PySem L2
variable {Δ : Dl} {env : List D} {Q : Wn} {K : D → List D → Prop} {X : Ex → List D → Prop}





def BR (p A B : Prop) : Prop := (p → A) ∧ (¬p → B)

theorem br {p A B : Prop} (h1 : p → A) (h2 : ¬p → B) : BR p A B := ⟨h1, h2⟩
theorem br_true {A B : Prop} : BR True A B = A := propext ⟨fun h => h.1 trivial, fun h => ⟨fun _ => h, fun z => absurd trivial z⟩⟩
theorem br_false {A B : Prop} : BR False A B = B := propext ⟨fun h => h.2 id, fun h => ⟨fun z => z.elim, fun _ => h⟩⟩
theorem br_not {p A B : Prop} : BR (¬p) A B = BR p B A := propext ⟨fun h => ⟨fun z => h.2 (fun q => q z), fun z => h.1 z⟩, fun h => ⟨fun z => h.2 z, fun z => h.1 (Classical.not_not.mp z)⟩⟩
theorem q_bk {b : Bool} {A B : Prop} : BK (.bl b) A B = BR (b = true) A B := by
  cases b with
  | true => exact propext ⟨fun h => ⟨fun _ => h.1 rfl, fun z => absurd rfl z⟩, fun h => ⟨fun _ => h.1 rfl, fun z => nomatch z⟩⟩
  | false => exact propext ⟨fun h => ⟨fun z => (nomatch z), fun _ => h.2 rfl⟩, fun h => ⟨fun z => (nomatch z), fun _ => h.2 (fun z => nomatch z)⟩⟩
theorem q_bind {α β : Type} {r : Res α} {k : α → List D → Res β} {K : β → List D → Prop} : EK (r.bind k) K X = EK r (fun a e => EK (k a e) K X) X := by cases r <;> rfl
theorem q_of {α : Type} {o : Option α} {K : α → List D → Prop} : EK (Res.of o env) K X = OK o fun d => K d env := by
  cases o with
  | none => exact propext ⟨fun h => h.elim, fun ⟨a, h, _⟩ => nomatch h⟩
  | some d => exact propext ⟨fun h => ⟨d, rfl, h⟩, fun ⟨a, h, k⟩ => by cases h; exact k⟩
theorem q_ok {α : Type} {a : α} {K : α → List D → Prop} : EK (.ok a env) K X = K a env := rfl
theorem q_bad {α : Type} {K : α → List D → Prop} : EK .bad K X = False := rfl
theorem q_eite {α : Type} {c : Prop} [Decidable c] {r : Res α} {K : α → List D → Prop} : EK (if c then r else .bad) K X = (c ∧ EK r K X) := by
  by_cases h : c
  · rw [if_pos h]; exact propext ⟨fun k => ⟨h, k⟩, fun k => k.2⟩
  · rw [if_neg h]; exact propext ⟨fun k => k.elim, fun k => h k.1⟩
theorem q_some {α : Type} {a : α} {K : α → Prop} : OK (some a) K = K a := propext ⟨fun ⟨b, h, k⟩ => by cases h; exact k, fun h => ⟨a, rfl, h⟩⟩
theorem q_none {α : Type} {K : α → Prop} : OK (none : Option α) K = False := propext ⟨fun ⟨b, h, k⟩ => (nomatch h), fun h => h.elim⟩
theorem q_obind {α β : Type} {o : Option α} {f : α → Option β} {K : β → Prop} : OK (o.bind f) K = OK o fun a => OK (f a) K := by
  cases o with
  | none => show OK none K = _; rw [q_none, q_none]
  | some a => show OK (f a) K = _; rw [q_some]
theorem q_omap {α β : Type} {o : Option α} {f : α → β} {K : β → Prop} : OK (o.map f) K = OK o fun a => K (f a) := by
  cases o with
  | none => show OK none K = _; rw [q_none, q_none]
  | some a => show OK (some (f a)) K = _; rw [q_some, q_some]
theorem q_oite {α : Type} {c : Prop} [Decidable c] {o : Option α} {K : α → Prop} : OK (if c then o else none) K = (c ∧ OK o K) := by
  by_cases h : c
  · rw [if_pos h]; exact propext ⟨fun k => ⟨h, k⟩, fun k => k.2⟩
  · rw [if_neg h, q_none]; exact propext ⟨fun k => k.elim, fun k => h k.1⟩
theorem q_chain {o p : Cop} {a b c : E} : EK (ev Δ (.chain o p a b c) env) K X = EK (ev Δ a env) (fun x e1 => EK (ev Δ b e1) (fun y e2 => OK (re a (ef b) x e2) fun x => OK (cop o x y) fun t => BR (t = true) (EK (ev Δ c e2) (fun z e3 => OK (re b (ef c) y e3) fun y => OK (cop p y z) fun t => K (.bl t) e3) X) (K (.bl false) e2)) X) X := by
  show EK ((ev Δ a env).bind fun x e1 => (ev Δ b e1).bind fun y e2 => (match (re a (ef b) x e2).bind fun x => cop o x y with
    | some true => (ev Δ c e2).bind fun z e3 => Res.of ((re b (ef c) y e3).bind fun y => (cop p y z).map .bl) e3
    | some false => .ok (.bl false) e2
    | none => .bad)) K X = _
  rw [q_bind]
  congr 1; funext x e1
  rw [q_bind]
  congr 1; funext y e2
  cases h : re a (ef b) x e2 with
  | none => rw [q_none]; rfl
  | some x2 =>
    rw [q_some]
    show EK (match cop o x2 y with
    | some true => (ev Δ c e2).bind fun z e3 => Res.of ((re b (ef c) y e3).bind fun y => (cop p y z).map .bl) e3
    | some false => .ok (.bl false) e2
    | none => .bad) K X = _
    cases h2 : cop o x2 y with
    | none => rw [q_none]; rfl
    | some t =>
      rw [q_some]
      cases t with
      | true =>
        show EK ((ev Δ c e2).bind fun z e3 => Res.of ((re b (ef c) y e3).bind fun y => (cop p y z).map .bl) e3) K X = _
        rw [q_bind]
        simp only [q_of, q_obind, q_omap, br_true]
      | false =>
        have e : (false = true) = False := by simp
        rw [e, br_false]; rfl
theorem q_not {a : E} : EK (ev Δ (.not a) env) K X = EK (ev Δ a env) (fun d e => NB d fun b => K (.bl (!b)) e) X := by
  show EK ((ev Δ a env).bind fun d e => (match d with
    | .bl b => .ok (.bl (!b)) e
    | _ => .bad)) K X = _
  rw [q_bind]
  congr 1; funext d e
  cases d <;> rfl
theorem q_and {es : Es} : EK (ev Δ (.and es) env) K X = EK (evn Δ true es env) K X := rfl
theorem q_or {es : Es} : EK (ev Δ (.or es) env) K X = EK (evn Δ false es env) K X := rfl
theorem q_nnil {k : Bool} : EK (evn Δ k .nil env) K X = K (.bl k) env := rfl
theorem q_and1 {e : E} {es : Es} : EK (evn Δ true (.cons e es) env) K X = EK (ev Δ e env) (fun d e1 => BK d (EK (evn Δ true es e1) K X) (K (.bl false) e1)) X := by
  show EK ((ev Δ e env).bind fun d e1 => (match d with
    | .bl b => if b = true then evn Δ true es e1 else .ok (.bl (!true)) e1
    | _ => .bad)) K X = _
  rw [q_bind]
  congr 1; funext d e
  cases d <;> first | rfl | skip
  rename_i b
  cases b
  · rw [q_bk]; simp only [Bool.false_eq_true, br_false]; rfl
  · rw [q_bk]; simp only [br_true]; rfl
theorem q_or1 {e : E} {es : Es} : EK (evn Δ false (.cons e es) env) K X = EK (ev Δ e env) (fun d e1 => BK d (K (.bl true) e1) (EK (evn Δ false es e1) K X)) X := by
  show EK ((ev Δ e env).bind fun d e1 => (match d with
    | .bl b => if b = false then evn Δ false es e1 else .ok (.bl (!false)) e1
    | _ => .bad)) K X = _
  rw [q_bind]
  congr 1; funext d e
  cases d <;> first | rfl | skip
  rename_i b
  cases b
  · rw [q_bk]; simp only [Bool.false_eq_true, br_false]; rfl
  · rw [q_bk]; simp only [br_true]; rfl
theorem q_nlast {k : Bool} {e : E} : EK (evn Δ k (.cons e .nil) env) K X = EK (ev Δ e env) (fun d e1 => NB d fun b => K (.bl b) e1) X := by
  show EK ((ev Δ e env).bind fun d e1 => (match d with
    | .bl b => if b = k then evn Δ k .nil e1 else .ok (.bl (!k)) e1
    | _ => .bad)) K X = _
  rw [q_bind]
  congr 1; funext d e
  cases d <;> first | rfl | skip
  rename_i b
  cases b <;> cases k <;> rfl
theorem q_nb {b : Bool} {f : Bool → Prop} : NB (.bl b) f = f b := rfl
theorem q_ni {b : Int} {f : Int → Prop} : NI (.int b) f = f b := rfl
theorem q_np {x y : D} {f : D → D → Prop} : NP [x, y] f = f x y := rfl
theorem q_ite {c a b : E} : EK (ev Δ (.ite c a b) env) K X = EK (ev Δ c env) (fun d e => BK d (EK (ev Δ a e) (fun d e => OK (own a d) fun d => K d e) X) (EK (ev Δ b e) (fun d e => OK (own b d) fun d => K d e) X)) X := by
  show EK ((ev Δ c env).bind fun d e => (match d with
    | .bl true => (ev Δ a e).bind fun d e => Res.of (own a d) e
    | .bl false => (ev Δ b e).bind fun d e => Res.of (own b d) e
    | _ => .bad)) K X = _
  rw [q_bind]
  congr 1; funext d e
  cases d <;> first | rfl | skip
  rename_i b
  cases b
  · rw [q_bk]; simp only [Bool.false_eq_true, br_false, q_bind, q_of]
  · rw [q_bk]; simp only [br_true, q_bind, q_of]
theorem q_econs {K : List D → List D → Prop} {e : E} {es : Es} : EK (evs Δ (.cons e es) env) K X = EK (ev Δ e env) (fun d e1 => OK (own e d) fun d => EK (evs Δ es e1) (fun ds e2 => K (d :: ds) e2) X) X := by
  show EK ((ev Δ e env).bind fun d e1 => (match own e d with
      | some d => (evs Δ es e1).bind fun ds e2 => .ok (d :: ds) e2
      | none => .bad)) K X = _
  rw [q_bind]
  congr 1; funext d e1
  cases own e d with
  | none => rw [q_none]; rfl
  | some d => simp only [q_some, q_bind, q_ok]
theorem q_enil {K : List D → List D → Prop} : EK (evs Δ .nil env) K X = K [] env := rfl
theorem q_anil {K : List (Option D) → List D → Prop} : EK (eva Δ .nil env) K X = K [] env := rfl
theorem q_aro {K : List (Option D) → List D → Prop} {e : E} {r : As} : EK (eva Δ (.ro e r) env) K X = EK (ev Δ e env) (fun d e1 => EK (eva Δ r e1) (fun ds e2 => OK (re e (efr r) d e2) fun d => K (some d :: ds) e2) X) X := by
  show EK ((ev Δ e env).bind fun d e1 => (eva Δ r e1).bind fun ds e2 => (match re e (efr r) d e2 with
    | some d => .ok (some d :: ds) e2
    | none => .bad)) K X = _
  rw [q_bind]
  congr 1; funext d e1
  rw [q_bind]
  congr 1; funext ds e2
  cases re e (efr r) d e2 with
  | none => rw [q_none]; rfl
  | some d => simp only [q_some, q_ok]
theorem q_amu {K : List (Option D) → List D → Prop} {i : Nat} {r : As} : EK (eva Δ (.mu (.var i) r) env) K X = OK (look env i) fun _ => EK (eva Δ r env) (fun ds e2 => K (none :: ds) e2) X := by
  show EK (match look env i with
    | some t => (match getL t [] with
      | some _ => (eva Δ r env).bind fun ds e2 => .ok (none :: ds) e2
      | none => .bad)
    | none => .bad) K X = _
  cases look env i with
  | none => rw [q_none]; rfl
  | some d =>
    show EK ((eva Δ r env).bind fun ds e2 => .ok (none :: ds) e2) K X = _
    simp only [q_some, q_bind, q_ok]
theorem q_call {f : Nat} {as : As} : EK (ev Δ (.call f as) env) K X = EK (eva Δ as env) (fun ds e => OK (pths Δ as e) fun ps => nodupB (roots ps) = true ∧ OK (apart as ds (roots ps)) fun cl => OK (argsD e ds ps) fun l => FK (Δ.call f l) (fun d outs => (cl || (nof d && nofs outs)) = true ∧ OK (putAll e ps outs) fun e' => K d e') fun x outs => (cl || nofs outs) = true ∧ OK (putAll e ps outs) fun e' => X x e') X := by
  show EK ((eva Δ as env).bind fun ds e => (match pths Δ as e with
    | some ps => callE as (Δ.call f) ds ps e
    | none => .bad)) K X = _
  rw [q_bind]
  congr 1; funext ds e
  cases pths Δ as e with
  | none => rw [q_none]; rfl
  | some ps =>
    rw [q_some]
    show EK (callE as (Δ.call f) ds ps e) K X = _
    unfold callE
    rw [q_eite]
    congr 1
    cases apart as ds (roots ps) with
    | none => rw [q_none]; rfl
    | some cl =>
      rw [q_some]
      dsimp only
      cases argsD e ds ps with
      | none => rw [q_none]; rfl
      | some l =>
        rw [q_some]
        dsimp only
        cases Δ.call f l with
        | ok d outs =>
          show EK (if _ then _ else _) K X = ((cl || (nof d && nofs outs)) = true ∧ _)
          rw [q_eite]
          congr 1
          cases putAll e ps outs with
          | none => rw [q_none]; rfl
          | some e' => rw [q_some]; rfl
        | err x outs =>
          show EK (if _ then _ else _) K X = ((cl || nofs outs) = true ∧ _)
          rw [q_eite]
          congr 1
          cases putAll e ps outs with
          | none => rw [q_none]; rfl
          | some e' => rw [q_some]; rfl
        | bad => rfl
theorem q_callO {f : Nat} {a : E} : EK (ev Δ (.callO f a) env) K X = EK (ev Δ a env) (fun d e => vw a = false ∧ FK (Δ.call f [d]) (fun d _ => K d e) fun x _ => X x e) X := by
  show EK ((ev Δ a env).bind fun d e => if vw a then .bad else (match Δ.call f [d] with
    | .ok r _ => .ok r e
    | .err x _ => .err x e
    | .bad => .bad)) K X = _
  rw [q_bind]
  congr 1; funext d e
  cases h : vw a with
  | true => exact propext ⟨fun h => h.elim, fun h => nomatch h.1⟩
  | false =>
    simp only [Bool.false_eq_true, if_false, true_and]
    cases Δ.call f [d] <;> rfl
theorem q_mut1 {m : M1} {i : Nat} {a : E} : EK (ev Δ (.mut1 m (.var i) a) env) K X = OK ((look env i).bind lst1) fun _ => EK (ev Δ a env) (fun x env => OK (own a x) fun x => OK ((look env i).bind lst1) fun xs => OK (m1op m xs x) fun p => K p.2 (env.set i (.nd (.lst true) p.1))) X := by
  show EK (match look env i with
      | some t => (match lst1 t with
        | some _ => (ev Δ a env).bind fun x env => (match own a x with
          | some x => (match look env i with
            | some t => (match lst1 t with
              | some xs => (match m1op m xs x with
                | some (ys, d) => .ok d (env.set i (.nd (.lst true) ys))
                | none => .bad)
              | none => .bad)
            | none => .bad)
          | none => .bad)
        | none => .bad)
      | none => .bad) K X = _
  cases look env i with
  | none => show False = _; rw [show (none : Option D).bind lst1 = none from rfl, q_none]
  | some t =>
    show EK (match lst1 t with
        | some _ => (ev Δ a env).bind fun x env => (match own a x with
          | some x => (match look env i with
            | some t => (match lst1 t with
              | some xs => (match m1op m xs x with
                | some (ys, d) => .ok d (env.set i (.nd (.lst true) ys))
                | none => .bad)
              | none => .bad)
            | none => .bad)
          | none => .bad)
        | none => .bad) K X = OK (lst1 t) _
    cases lst1 t with
    | none => rw [q_none]; rfl
    | some l =>
      rw [q_some]
      dsimp only
      rw [q_bind]
      congr 1; funext x env
      cases own a x with
      | none => rw [q_none]; rfl
      | some x =>
        rw [q_some]
        dsimp only
        cases look env i with
        | none => rw [show (none : Option D).bind lst1 = none from rfl, q_none]; rfl
        | some t =>
          show EK (match lst1 t with
              | some xs => (match m1op m xs x with
                | some (ys, d) => .ok d (env.set i (.nd (.lst true) ys))
                | none => .bad)
              | none => .bad) K X = OK (lst1 t) _
          cases lst1 t with
          | none => rw [q_none]; rfl
          | some xs =>
            rw [q_some]
            dsimp only
            cases m1op m xs x with
            | none => rw [q_none]; rfl
            | some p => rw [q_some]; rfl
theorem q_mut0 {m : M0} {i : Nat} : EK (ev Δ (.mut0 m (.var i)) env) K X = OK ((look env i).bind lst1) fun xs => OK (m0op m xs) fun p => K p.2 (env.set i (.nd (.lst true) p.1)) := by
  show EK (match look env i with
      | some t => (match lst1 t with
        | some xs => (match m0op m xs with
          | some (ys, d) => .ok d (env.set i (.nd (.lst true) ys))
          | none => .bad)
        | none => .bad)
      | none => .bad) K X = _
  cases look env i with
  | none => show False = _; rw [show (none : Option D).bind lst1 = none from rfl, q_none]
  | some t =>
    show EK (match lst1 t with
        | some xs => (match m0op m xs with
          | some (ys, d) => .ok d (env.set i (.nd (.lst true) ys))
          | none => .bad)
        | none => .bad) K X = OK (lst1 t) _
    cases lst1 t with
    | none => rw [q_none]; rfl
    | some xs =>
      rw [q_some]
      dsimp only
      cases m0op m xs with
      | none => rw [q_none]; rfl
      | some p => rw [q_some]; rfl
/-! ### walked things -/
theorem q_seq {K : List D → List D → Prop} {a : E} : EK (evi Δ (.seq a) env) K X = EK (ev Δ a env) (fun d e => wkd a d = true ∧ OK (seqI d) fun l => K l e) X := by
  show EK ((ev Δ a env).bind _) K X = _
  rw [q_bind]; congr 1; funext d e; rw [q_of, q_oite]
theorem q_range1 {K : List D → List D → Prop} {a : E} : EK (evi Δ (.range1 a) env) K X = EK (ev Δ a env) (fun d e => OK (toI d) fun j => small j = true ∧ K ((rng 0 j.toNat).map .int) e) X := by
  show EK ((ev Δ a env).bind _) K X = _
  rw [q_bind]; congr 1; funext d e; rw [q_of, q_obind]; congr 1; funext j; rw [q_oite, q_some, rangeD_map]
theorem q_range2 {K : List D → List D → Prop} {a b : E} : EK (evi Δ (.range2 a b) env) K X = EK (ev Δ a env) (fun x e => NI x fun i => EK (ev Δ b e) (fun y e => OK (toI y) fun j => small i = true ∧ small j = true ∧ K ((rng i (j - i).toNat).map .int) e) X) X := by
  show EK ((ev Δ a env).bind fun x e1 => (match x with
    | .int i => (ev Δ b e1).bind fun y e2 => Res.of ((toI y).bind fun j => if small i && small j then some (rangeD i (j - i).toNat) else none) e2
    | _ => .bad)) K X = _
  rw [q_bind]; congr 1; funext d e
  cases d <;> first | rfl | skip
  rename_i i
  show EK ((ev Δ b e).bind _) K X = EK (ev Δ b e) _ X
  rw [q_bind]; congr 1; funext y e; rw [q_of, q_obind]; congr 1; funext j; rw [q_oite, q_some, rangeD_map, Bool.and_eq_true, and_assoc]
theorem q_zip {K : List D → List D → Prop} {a b : E} : EK (evi Δ (.zip a b) env) K X = (ef b = false ∧ EK (ev Δ a env) (fun x e => EK (ev Δ b e) (fun y e => wkd a x = true ∧ wkd b y = true ∧ OK (zipS x y) fun l => K l e) X) X) := by
  show EK (if ef b = true then .bad else (ev Δ a env).bind fun x e1 => (ev Δ b e1).bind fun y e2 => Res.of (if wkd a x && wkd b y then zipS x y else none) e2) K X = _
  cases ef b with
  | true => exact propext ⟨fun h => h.elim, fun h => nomatch h.1⟩
  | false =>
    simp only [Bool.false_eq_true, if_false, true_and]
    rw [q_bind]; congr 1; funext x e; rw [q_bind]; congr 1; funext y e; rw [q_of, q_oite, Bool.and_eq_true, and_assoc]
theorem q_enum {K : List D → List D → Prop} {a : E} : EK (evi Δ (.enum a) env) K X = EK (ev Δ a env) (fun d e => wkd a d = true ∧ OK (seqI d) fun l => K (idxs 0 l) e) X := by
  show EK ((ev Δ a env).bind _) K X = _
  rw [q_bind]; congr 1; funext d e; rw [q_of, q_oite, q_omap]
theorem q_rev {K : List D → List D → Prop} {a : E} : EK (evi Δ (.rev a) env) K X = EK (ev Δ a env) (fun d e => wkd a d = true ∧ OK (lstI d) fun l => K l.reverse e) X := by
  show EK ((ev Δ a env).bind _) K X = _
  rw [q_bind]; congr 1; funext d e; rw [q_of, q_oite, q_omap]
/-! ### comprehensions, loops -/
def CK1 (Δ : Dl) (ow : List Nat) (t : T) (elt : E) (src : List Nat) (ds e1 : List D) (K : D → List D → Prop) (X : Ex → List D → Prop) : Prop := EK (if holesE e1 ow then loopC (turnC Δ ow t elt) (stay src e1) ds [] e1 else .bad) K X
def CK2 (Δ : Dl) (ow : List Nat) (t : T) (c elt : E) (src : List Nat) (ds e1 : List D) (K : D → List D → Prop) (X : Ex → List D → Prop) : Prop := EK (if holesE e1 ow then loopC (turnI Δ ow t c elt) (stay src e1) ds [] e1 else .bad) K X


theorem q_comp {ow : List Nat} {t : T} {it : I} {elt : E} : EK (ev Δ (.comp ow t it elt) env) K X = EK (evi Δ it env) (fun ds e1 => CK1 Δ ow t elt (srcs it) ds e1 K X) X := by
  rw [ev_comp, q_bind]; rfl
theorem q_compI {ow : List Nat} {t : T} {it : I} {c elt : E} : EK (ev Δ (.compI ow t it c elt) env) K X = EK (evi Δ it env) (fun ds e1 => CK2 Δ ow t c elt (srcs it) ds e1 K X) X := by
  rw [ev_compI, q_bind]; rfl
theorem ck_map {α : Type} {ow : List Nat} {t : T} {elt : E} {src : List Nat} {l : List α} {enc : α → D} {e1 : List D} (g : α → D) (h1 : holesE e1 ow = true) (h2 : l.length ≤ 16777216) (h3 : ∀ a, a ∈ l → OK (asgT Δ t (enc a) e1) fun e2 => EK (ev Δ elt e2) (fun x e3 => OK (own elt x) fun x => x = g a ∧ wipeE e3 ow = e1) fun _ _ => False) (h4 : K (.nd (.lst true) (l.map g)) e1) : CK1 Δ ow t elt src (l.map enc) e1 K X := by
  have := k_comp (Δ := ⟨Δ.call, Δ.w⟩) (env := e1) (ow := ow) (t := t) (it := .seq .non) (elt := elt) l enc g (K := K) (X := X)
  unfold CK1
  rw [if_pos h1]
  refine loopC_inv (fun r acc e => ∃ p, l = p ++ r ∧ acc = p.map g ∧ e = e1) (fun a r acc e hI => ?_) (fun acc e hI => ?_) l [] e1 ⟨[], rfl, rfl, rfl⟩
  · obtain ⟨p, rfl, rfl, rfl⟩ := hI
    obtain ⟨e2, h5, h6⟩ := h3 a (by simp)
    unfold turnC
    rw [h5]
    refine k_bind (h6.imp (fun x e3 q => ?_) fun _ _ q => q)
    obtain ⟨x', h7, rfl, h8⟩ := q
    rw [h7]
    refine ⟨?_, ?_, p ++ [a], by simp, by simp, h8⟩
    · show stay src e (wipeE e3 ow) = true
      rw [h8]; exact stay_self
    · have : sizeL = 16777216 := rfl
      simp at h2 ⊢; omega
  · obtain ⟨p, h5, rfl, rfl⟩ := hI
    have : p = l := by simpa using h5.symm
    subst this
    exact h4
theorem ck_filter {α : Type} {ow : List Nat} {t : T} {c elt : E} {src : List Nat} {l : List α} {enc : α → D} {e1 : List D} (g : α → D) (p : α → Bool) (h1 : holesE e1 ow = true) (h2 : l.length ≤ 16777216)
    (h3 : ∀ a, a ∈ l → OK (asgT Δ t (enc a) e1) fun e2 => EK (ev Δ c e2) (fun d e3 => BK d (p a = true ∧ EK (ev Δ elt e3) (fun x e4 => OK (own elt x) fun x => x = g a ∧ wipeE e4 ow = e1) fun _ _ => False) (p a = false ∧ wipeE e3 ow = e1)) fun _ _ => False) (h4 : K (.nd (.lst true) ((l.filter p).map g)) e1) : CK2 Δ ow t c elt src (l.map enc) e1 K X := by
  unfold CK2
  rw [if_pos h1]
  refine loopC_inv (fun r acc e => ∃ q, l = q ++ r ∧ acc = (q.filter p).map g ∧ e = e1) (fun a r acc e hI => ?_) (fun acc e hI => ?_) l [] e1 ⟨[], rfl, rfl, rfl⟩
  · obtain ⟨q, rfl, rfl, rfl⟩ := hI
    obtain ⟨e2, h5, h6⟩ := h3 a (by simp)
    unfold turnI
    rw [h5]
    refine k_bind (h6.imp (fun x e3 w => ?_) fun _ _ q => q)
    cases x <;> first | exact w.elim | skip
    rename_i b
    cases b with
    | true =>
      obtain ⟨w1, w2⟩ := w.1 rfl
      refine k_bind (EK.imp w2 (fun x e4 w => ?_) fun _ _ q => q)
      obtain ⟨x', h7, rfl, h8⟩ := w
      rw [h7]
      refine ⟨?_, ?_, q ++ [a], by simp, by simp [w1], h8⟩
      · show stay src e (wipeE e4 ow) = true
        rw [h8]; exact stay_self
      · have := List.length_filter_le p q
        have : sizeL = 16777216 := rfl
        simp at h2 ⊢; omega
    | false =>
      obtain ⟨w1, w2⟩ := w.2 rfl
      refine ⟨?_, q ++ [a], by simp, by simp [w1], w2⟩
      show stay src e (wipeE e3 ow) = true
      rw [w2]; exact stay_self
  · obtain ⟨q, h5, rfl, rfl⟩ := hI
    have : q = l := by simpa using h5.symm
    subst this
    exact h4
theorem ck_inv {α : Type} {ow : List Nat} {t : T} {elt : E} {src : List Nat} {l : List α} {enc : α → D} {e1 : List D} (I : List α → List D → List D → Prop) (h1 : holesE e1 ow = true) (h2 : I l [] e1)
    (h3 : ∀ a r acc e, (a :: r) <:+ l → I (a :: r) acc e → OK (asgT Δ t (enc a) e) fun e2 => EK (ev Δ elt e2) (fun x e3 => OK (own elt x) fun x => stay src e1 (wipeE e3 ow) = true ∧ acc.length < 16777216 ∧ I r (acc ++ [x]) (wipeE e3 ow)) fun _ _ => False) (h4 : ∀ acc e, I [] acc e → K (.nd (.lst true) acc) e) : CK1 Δ ow t elt src (l.map enc) e1 K X := by
  unfold CK1
  rw [if_pos h1]
  refine loopC_inv (fun r acc e => r <:+ l ∧ I r acc e) (fun a r acc e hI => ?_) (fun acc e hI => h4 acc e hI.2) l [] e1 ⟨List.suffix_refl l, h2⟩
  obtain ⟨e2, h5, h6⟩ := h3 a r acc e hI.1 hI.2
  unfold turnC
  rw [h5]
  refine k_bind (h6.imp (fun x e3 q => ?_) fun _ _ q => q)
  obtain ⟨x', h7, h9, h10, h11⟩ := q
  rw [h7]
  exact ⟨h9, h10, (List.suffix_cons a r).trans hI.1, h11⟩
def LK (Δ : Dl) (t : T) (b ss : Ss) (src : List Nat) (ds e1 : List D) (Q : Wn) : Prop := Wt (match loopF (fun d env => (match asgT Δ t d env with
        | some e2 => exss Δ b e2
        | none => .bad)) (stay src e1) ds e1 with
        | .next e => exss Δ ss e
        | r => r) Q

theorem lk_inv {α : Type} {t : T} {b ss : Ss} {src : List Nat} {l : List α} {enc : α → D} {e1 : List D} (I : List α → List D → Prop) (h2 : I l e1)
    (h3 : ∀ a r e, (a :: r) <:+ l → I (a :: r) e → OK (asgT Δ t (enc a) e) fun e2 => Wt (exss Δ b e2) { nx := fun e => stay src e1 e = true ∧ I r e, ct := fun e => stay src e1 e = true ∧ I r e, bk := fun e => Wt (exss Δ ss e) Q, rt := Q.rt, er := Q.er })
    (h4 : ∀ e, I [] e → Wt (exss Δ ss e) Q) : LK Δ t b ss src (l.map enc) e1 Q := by
  unfold LK
  have w : Wt (loopF (fun d env => (match asgT Δ t d env with
        | some e2 => exss Δ b e2
        | none => .bad)) (stay src e1) (l.map enc) e1) { Q with nx := fun e => Wt (exss Δ ss e) Q } := by
    refine w_loop (fun ds e => ∃ r, ds = r.map enc ∧ r <:+ l ∧ I r e) (fun d r e hI => ?_) (fun e hI => ?_) _ e1 ⟨l, rfl, List.suffix_refl l, h2⟩
    · obtain ⟨r', hr, hs, hi⟩ := hI
      cases r' with
      | nil => cases hr
      | cons a r' =>
        cases hr
        obtain ⟨e2, g1, g2⟩ := h3 a r' e hs hi
        rw [g1]
        dsimp only
        cases q : exss Δ b e2 with
        | next e => rw [q] at g2; exact ⟨g2.1, r', rfl, (List.suffix_cons a r').trans hs, g2.2⟩
        | cont e => rw [q] at g2; exact ⟨g2.1, r', rfl, (List.suffix_cons a r').trans hs, g2.2⟩
        | brk e => rw [q] at g2; exact g2
        | ret d e => rw [q] at g2; exact g2
        | err x e => rw [q] at g2; exact g2
        | bad => rw [q] at g2; exact g2
    · obtain ⟨r', hr, hs, hi⟩ := hI
      cases r' with
      | nil => exact h4 e hi
      | cons a r' => cases hr
  cases q : loopF (fun d env => (match asgT Δ t d env with
        | some e2 => exss Δ b e2
        | none => .bad)) (stay src e1) (l.map enc) e1 with
  | next e => rw [q] at w; exact w
  | cont e => rw [q] at w; exact w
  | brk e => rw [q] at w; exact w
  | ret d e => rw [q] at w; exact w
  | err x e => rw [q] at w; exact w
  | bad => rw [q] at w; exact w
/-! ### statements -/
theorem q_out {s : S} {ss : Ss} {r : Res D} {k : D → List D → Out} (hs : exs Δ s env = r.out k) : Wt (exss Δ (.cons s ss) env) Q = EK r (fun d e => Wt (match k d e with
    | .next e => exss Δ ss e
    | r => r) Q) Q.er := by
  show Wt (match exs Δ s env with
    | .next e => exss Δ ss e
    | r => r) Q = _
  rw [hs]
  cases r <;> rfl
theorem q_nil : Wt (exss Δ .nil env) Q = Q.nx env := rfl
theorem q_set {i : Nat} {e : E} {ss : Ss} : Wt (exss Δ (.cons (.set i e) ss) env) Q = EK (ev Δ e env) (fun d e1 => OK (own e d) fun d => i < e1.length ∧ Wt (exss Δ ss (e1.set i d)) Q) Q.er := by
  rw [q_out (s := .set i e) rfl]
  congr 1; funext d e1
  cases own e d with
  | none => rw [q_none]; rfl
  | some d =>
    rw [q_some]
    dsimp only
    by_cases h : i < e1.length
    · rw [if_pos h]; exact propext ⟨fun k => ⟨h, k⟩, fun k => k.2⟩
    · rw [if_neg h]; exact propext ⟨fun k => k.elim, fun k => h k.1⟩
theorem q_expr {e : E} {ss : Ss} : Wt (exss Δ (.cons (.expr e) ss) env) Q = EK (ev Δ e env) (fun _ e1 => Wt (exss Δ ss e1) Q) Q.er := q_out (s := .expr e) rfl
theorem q_ret {e : E} {ss : Ss} : Wt (exss Δ (.cons (.ret e) ss) env) Q = EK (ev Δ e env) (fun d e1 => OK (own e d) fun d => Q.rt d e1) Q.er := by
  rw [q_out (s := .ret e) rfl]
  congr 1; funext d e1
  cases own e d with
  | none => rw [q_none]; rfl
  | some d => rw [q_some]; rfl
theorem q_asg {t : T} {e : E} {ss : Ss} : Wt (exss Δ (.cons (.asg t e) ss) env) Q = EK (ev Δ e env) (fun d e1 => OK (own e d) fun d => OK (asgT Δ t d e1) fun e2 => Wt (exss Δ ss e2) Q) Q.er := by
  rw [q_out (s := .asg t e) rfl]
  congr 1; funext d e1
  cases own e d with
  | none => rw [q_none]; rfl
  | some d =>
    rw [q_some]
    show Wt (match Out.of (asgT Δ t d e1) with
      | .next e => exss Δ ss e
      | r => r) Q = _
    cases asgT Δ t d e1 with
    | none => rw [q_none]; rfl
    | some d => rw [q_some]; rfl
theorem q_par {i j : Nat} {a b : E} {ss : Ss} : Wt (exss Δ (.cons (.par i j a b) ss) env) Q = EK (evs Δ (.cons a (.cons b .nil)) env) (fun ds e => NP ds fun x y => (i < e.length ∧ j < e.length ∧ i ≠ j) ∧ Wt (exss Δ ss ((e.set i x).set j y)) Q) Q.er := by
  show Wt (match (match evs Δ (.cons a (.cons b .nil)) env with
    | .ok [x, y] e2 => if i < e2.length ∧ j < e2.length ∧ i ≠ j then Out.next ((e2.set i x).set j y) else Out.bad
    | .err x e => .err x e
    | _ => .bad) with
    | .next e => exss Δ ss e
    | r => r) Q = _
  cases q : evs Δ (.cons a (.cons b .nil)) env with
  | ok ds e =>
    cases ds with
    | nil => rfl
    | cons x r =>
      cases r with
      | nil => rfl
      | cons y r2 =>
        cases r2 with
        | nil =>
          dsimp only
          by_cases h : i < e.length ∧ j < e.length ∧ i ≠ j
          · rw [if_pos h]; exact propext ⟨fun k => ⟨h, k⟩, fun k => k.2⟩
          · rw [if_neg h]; exact propext ⟨fun k => k.elim, fun k => h k.1⟩
        | cons _ _ => rfl
  | err x e => rfl
  | bad => rfl
theorem q_aug {i : Nat} {o : Bop} {e : E} {ss : Ss} : Wt (exss Δ (.cons (.aug i o e) ss) env) Q = OK ((look env i).bind toI) fun x => EK (ev Δ e env) (fun y e1 => OK (toI y) fun y => OK (iop o x y) fun z => i < e1.length ∧ Wt (exss Δ ss (e1.set i (.int z))) Q) Q.er := by
  show Wt (match (match (look env i).bind toI with
      | some x => (ev Δ e env).out fun y e1 => (match (toI y).bind fun y => iop o x y with
        | some z => if i < e1.length then .next (e1.set i (.int z)) else .bad
        | none => .bad)
      | none => .bad) with
    | .next e => exss Δ ss e
    | r => r) Q = _
  cases (look env i).bind toI with
  | none => rw [q_none]; rfl
  | some x =>
    rw [q_some]
    dsimp only
    cases ev Δ e env with
    | ok y e1 =>
      show Wt (match (match (toI y).bind fun y => iop o x y with
        | some z => if i < e1.length then Out.next (e1.set i (.int z)) else .bad
        | none => .bad) with
        | .next e => exss Δ ss e
        | r => r) Q = OK (toI y) _
      cases toI y with
      | none => rw [q_none]; rfl
      | some y =>
        rw [q_some]
        show Wt (match (match iop o x y with
        | some z => if i < e1.length then Out.next (e1.set i (.int z)) else .bad
        | none => .bad) with
        | .next e => exss Δ ss e
        | r => r) Q = _
        cases iop o x y with
        | none => rw [q_none]; rfl
        | some z =>
          rw [q_some]
          dsimp only
          by_cases h : i < e1.length
          · rw [if_pos h]; exact propext ⟨fun k => ⟨h, k⟩, fun k => k.2⟩
          · rw [if_neg h]; exact propext ⟨fun k => k.elim, fun k => h k.1⟩
    | err x e1 => rfl
    | bad => rfl
theorem q_iff {c : E} {a b ss : Ss} : Wt (exss Δ (.cons (.iff c a b) ss) env) Q = EK (ev Δ c env) (fun d e => BK d (Wt (exss Δ (a.app ss) e) Q) (Wt (exss Δ (b.app ss) e) Q)) Q.er := by
  rw [q_out (s := .iff c a b) rfl]
  congr 1; funext d e
  cases d <;> first | rfl | skip
  rename_i k
  cases k with
  | true => rw [q_bk, exss_app]; simp only [br_true] <;> (cases exss Δ a e <;> rfl)
  | false => rw [q_bk, exss_app, exss_app]; simp only [Bool.false_eq_true, br_false] <;> (cases exss Δ b e <;> rfl)
theorem q_fo {t : T} {it : I} {b ss : Ss} : Wt (exss Δ (.cons (.fo t it b) ss) env) Q = EK (evi Δ it env) (fun ds e1 => LK Δ t b ss (srcs it) ds e1 Q) Q.er := by
  show Wt (match (match evi Δ it env with
    | .ok ds e1 => loopF (fun d env => (match asgT Δ t d env with
        | some e2 => exss Δ b e2
        | none => .bad)) (stay (srcs it) e1) ds e1
    | .err x e => .err x e
    | .bad => .bad) with
    | .next e => exss Δ ss e
    | r => r) Q = _
  cases evi Δ it env <;> rfl
theorem q_ret0 {ss : Ss} : Wt (exss Δ (.cons .ret0 ss) env) Q = Q.rt .non env := rfl
theorem q_pass {ss : Ss} : Wt (exss Δ (.cons .pass ss) env) Q = Wt (exss Δ ss env) Q := rfl
theorem q_doc {ss : Ss} : Wt (exss Δ (.cons .doc ss) env) Q = Wt (exss Δ ss env) Q := rfl
theorem q_brk {ss : Ss} : Wt (exss Δ (.cons .brk ss) env) Q = Q.bk env := rfl
theorem q_cont {ss : Ss} : Wt (exss Δ (.cons .cont ss) env) Q = Q.ct env := rfl
theorem q_never {ss : Ss} : Wt (exss Δ (.cons .never ss) env) Q = False := rfl
theorem q_drop {i : Nat} {ss : Ss} : Wt (exss Δ (.cons (.drop i) ss) env) Q = Wt (exss Δ ss (env.set i .hole)) Q := rfl
theorem q_app1 {s : S} {a b : Ss} : (Ss.cons s a).app b = .cons s (a.app b) := rfl
theorem q_app0 {b : Ss} : Ss.nil.app b = b := rfl
theorem fk_call {P : List Fn} {W n j : Nat} {f : Fn} {ds env : List D} (hp : P[j]? = some f) (hl : ds.length = f.mu.length) (he : ds ++ List.replicate (f.nn - f.mu.length) .hole = env) (h : Wt (exss (dl P W n) f.body env) { nx := fun e => OK (outsOf f.mu e) fun l => K .non l, rt := fun d e => OK (outsOf f.mu e) fun l => K d l, er := fun x e => OK (outsOf f.mu e) fun l => X x l }) : FK ((dl P W (n + 1)).call j ds) K X := f_call hp hl he h
end Vi

set_option Elab.async false
set_option linter.all false
set_option maxRecDepth 100000
set_option maxHeartbeats 4000000
/-! Vi35: the equations, with what follows kept from simp. -/
namespace Vi
open PySem L2
universe u
structure Tag {α : Sort u} (a : α) : Type where
def EKt {α : Type} (r : Res α) (K : α → List D → Prop) (X : Ex → List D → Prop) (_ : Tag K := ⟨⟩) (_ : Tag X := ⟨⟩) : Prop := EK r K X
def OKt {α : Type} (o : Option α) (K : α → Prop) (_ : Tag K := ⟨⟩) : Prop := OK o K
structure FKt (r : Fo) (K : D → List D → Prop) (X : Ex → List D → Prop) (_ : Tag K := ⟨⟩) (_ : Tag X := ⟨⟩) : Prop where
  mk ::
  h : FK r K X
def BKt (d : D) (A B : Prop) (_ : Tag A := ⟨⟩) (_ : Tag B := ⟨⟩) : Prop := BK d A B
def BRt (p A B : Prop) (_ : Tag A := ⟨⟩) (_ : Tag B := ⟨⟩) : Prop := BR p A B
def Wtt (o : Out) (Q : Wn) (_ : Tag Q := ⟨⟩) : Prop := Wt o Q
def NBt (d : D) (f : Bool → Prop) (_ : Tag f := ⟨⟩) : Prop := NB d f
def NIt (d : D) (f : Int → Prop) (_ : Tag f := ⟨⟩) : Prop := NI d f
def NPt (d : List D) (f : D → D → Prop) (_ : Tag f := ⟨⟩) : Prop := NP d f
structure CK1t (Δ : Dl) (ow : List Nat) (t : T) (elt : E) (src : List Nat) (ds e1 : List D) (K : D → List D → Prop) (X : Ex → List D → Prop) (_ : Tag K := ⟨⟩) (_ : Tag X := ⟨⟩) : Prop where
  mk ::
  h : CK1 Δ ow t elt src ds e1 K X
structure CK2t (Δ : Dl) (ow : List Nat) (t : T) (c elt : E) (src : List Nat) (ds e1 : List D) (K : D → List D → Prop) (X : Ex → List D → Prop) (_ : Tag K := ⟨⟩) (_ : Tag X := ⟨⟩) : Prop where
  mk ::
  h : CK2 Δ ow t c elt src ds e1 K X
structure LKt (Δ : Dl) (t : T) (b ss : Ss) (src : List Nat) (ds e1 : List D) (Q : Wn) (_ : Tag Q := ⟨⟩) : Prop where
  mk ::
  h : LK Δ t b ss src ds e1 Q
variable {Δ : Dl} {env : List D} {Q : Wn} {K : D → List D → Prop} {X : Ex → List D → Prop}
theorem LKt_eq {t : T} {b ss : Ss} {src : List Nat} {ds e1 : List D} : LKt Δ t b ss src ds e1 Q = LK Δ t b ss src ds e1 Q := propext ⟨fun h => h.1, fun h => ⟨h⟩⟩
theorem FKt_eq {r : Fo} : FKt r K X = FK r K X := propext ⟨fun h => h.1, fun h => ⟨h⟩⟩
theorem CK1t_eq {ow : List Nat} {t : T} {elt : E} {src : List Nat} {ds e1 : List D} : CK1t Δ ow t elt src ds e1 K X = CK1 Δ ow t elt src ds e1 K X := propext ⟨fun h => h.1, fun h => ⟨h⟩⟩
theorem CK2t_eq {ow : List Nat} {t : T} {c elt : E} {src : List Nat} {ds e1 : List D} : CK2t Δ ow t c elt src ds e1 K X = CK2 Δ ow t c elt src ds e1 K X := propext ⟨fun h => h.1, fun h => ⟨h⟩⟩
theorem br_t {p A B : Prop} (h1 : p → A) (h2 : ¬p → B) : BRt p A B := br h1 h2
theorem y_br_true {A B : Prop} : BRt True A B = A := br_true
theorem y_br_false {A B : Prop} : BRt False A B = B := br_false
theorem y_br_not {p A B : Prop} : BRt (¬p) A B = BRt p B A := br_not
theorem y_bk {b : Bool} {A B : Prop} : BKt (.bl b) A B = BRt (b = true) A B := q_bk
theorem y_bind {α β : Type} {r : Res α} {k : α → List D → Res β} {K : β → List D → Prop} : EKt (r.bind k) K X = EKt r (fun a e => EKt (k a e) K X) X := q_bind
theorem y_of {α : Type} {o : Option α} {K : α → List D → Prop} : EKt (Res.of o env) K X = OKt o fun d => K d env := q_of
theorem y_ok {α : Type} {a : α} {K : α → List D → Prop} : EKt (.ok a env) K X = K a env := q_ok
theorem y_bad {α : Type} {K : α → List D → Prop} : EKt .bad K X = False := q_bad
theorem y_eite {α : Type} {c : Prop} [Decidable c] {r : Res α} {K : α → List D → Prop} : EKt (if c then r else .bad) K X = (c ∧ EKt r K X) := q_eite
theorem y_some {α : Type} {a : α} {K : α → Prop} : OKt (some a) K = K a := q_some
theorem y_none {α : Type} {K : α → Prop} : OKt (none : Option α) K = False := q_none
theorem y_obind {α β : Type} {o : Option α} {f : α → Option β} {K : β → Prop} : OKt (o.bind f) K = OKt o fun a => OKt (f a) K := q_obind
theorem y_omap {α β : Type} {o : Option α} {f : α → β} {K : β → Prop} : OKt (o.map f) K = OKt o fun a => K (f a) := q_omap
theorem y_oite {α : Type} {c : Prop} [Decidable c] {o : Option α} {K : α → Prop} : OKt (if c then o else none) K = (c ∧ OKt o K) := q_oite
theorem y_chain {o p : Cop} {a b c : E} : EKt (ev Δ (.chain o p a b c) env) K X = EKt (ev Δ a env) (fun x e1 => EKt (ev Δ b e1) (fun y e2 => OKt (re a (ef b) x e2) fun x => OKt (cop o x y) fun t => BRt (t = true) (EKt (ev Δ c e2) (fun z e3 => OKt (re b (ef c) y e3) fun y => OKt (cop p y z) fun t => K (.bl t) e3) X) (K (.bl false) e2)) X) X := q_chain
theorem y_not {a : E} : EKt (ev Δ (.not a) env) K X = EKt (ev Δ a env) (fun d e => NBt d fun b => K (.bl (!b)) e) X := q_not
theorem y_and {es : Es} : EKt (ev Δ (.and es) env) K X = EKt (evn Δ true es env) K X := q_and
theorem y_or {es : Es} : EKt (ev Δ (.or es) env) K X = EKt (evn Δ false es env) K X := q_or
theorem y_nnil {k : Bool} : EKt (evn Δ k .nil env) K X = K (.bl k) env := q_nnil
theorem y_and1 {e : E} {es : Es} : EKt (evn Δ true (.cons e es) env) K X = EKt (ev Δ e env) (fun d e1 => BKt d (EKt (evn Δ true es e1) K X) (K (.bl false) e1)) X := q_and1
theorem y_or1 {e : E} {es : Es} : EKt (evn Δ false (.cons e es) env) K X = EKt (ev Δ e env) (fun d e1 => BKt d (K (.bl true) e1) (EKt (evn Δ false es e1) K X)) X := q_or1
theorem y_nlast {k : Bool} {e : E} : EKt (evn Δ k (.cons e .nil) env) K X = EKt (ev Δ e env) (fun d e1 => NBt d fun b => K (.bl b) e1) X := q_nlast
theorem y_nb {b : Bool} {f : Bool → Prop} : NBt (.bl b) f = f b := q_nb
theorem y_ni {b : Int} {f : Int → Prop} : NIt (.int b) f = f b := q_ni
theorem y_np {x y : D} {f : D → D → Prop} : NPt [x, y] f = f x y := q_np
theorem y_ite {c a b : E} : EKt (ev Δ (.ite c a b) env) K X = EKt (ev Δ c env) (fun d e => BKt d (EKt (ev Δ a e) (fun d e => OKt (own a d) fun d => K d e) X) (EKt (ev Δ b e) (fun d e => OKt (own b d) fun d => K d e) X)) X := q_ite
theorem y_econs {K : List D → List D → Prop} {e : E} {es : Es} : EKt (evs Δ (.cons e es) env) K X = EKt (ev Δ e env) (fun d e1 => OKt (own e d) fun d => EKt (evs Δ es e1) (fun ds e2 => K (d :: ds) e2) X) X := q_econs
theorem y_enil {K : List D → List D → Prop} : EKt (evs Δ .nil env) K X = K [] env := q_enil
theorem y_anil {K : List (Option D) → List D → Prop} : EKt (eva Δ .nil env) K X = K [] env := q_anil
theorem y_aro {K : List (Option D) → List D → Prop} {e : E} {r : As} : EKt (eva Δ (.ro e r) env) K X = EKt (ev Δ e env) (fun d e1 => EKt (eva Δ r e1) (fun ds e2 => OKt (re e (efr r) d e2) fun d => K (some d :: ds) e2) X) X := q_aro
theorem y_amu {K : List (Option D) → List D → Prop} {i : Nat} {r : As} : EKt (eva Δ (.mu (.var i) r) env) K X = OKt (look env i) fun _ => EKt (eva Δ r env) (fun ds e2 => K (none :: ds) e2) X := q_amu
theorem y_call {f : Nat} {as : As} : EKt (ev Δ (.call f as) env) K X = EKt (eva Δ as env) (fun ds e => OKt (pths Δ as e) fun ps => nodupB (roots ps) = true ∧ OKt (apart as ds (roots ps)) fun cl => OKt (argsD e ds ps) fun l => FKt (Δ.call f l) (fun d outs => (cl || (nof d && nofs outs)) = true ∧ OKt (putAll e ps outs) fun e' => K d e') fun x outs => (cl || nofs outs) = true ∧ OKt (putAll e ps outs) fun e' => X x e') X := by unfold EKt OKt; simp only [FKt_eq]; exact q_call
theorem y_callO {f : Nat} {a : E} : EKt (ev Δ (.callO f a) env) K X = EKt (ev Δ a env) (fun d e => vw a = false ∧ FKt (Δ.call f [d]) (fun d _ => K d e) fun x _ => X x e) X := by unfold EKt; simp only [FKt_eq]; exact q_callO
theorem y_mut1 {m : M1} {i : Nat} {a : E} : EKt (ev Δ (.mut1 m (.var i) a) env) K X = OKt ((look env i).bind lst1) fun _ => EKt (ev Δ a env) (fun x env => OKt (own a x) fun x => OKt ((look env i).bind lst1) fun xs => OKt (m1op m xs x) fun p => K p.2 (env.set i (.nd (.lst true) p.1))) X := q_mut1
theorem y_mut0 {m : M0} {i : Nat} : EKt (ev Δ (.mut0 m (.var i)) env) K X = OKt ((look env i).bind lst1) fun xs => OKt (m0op m xs) fun p => K p.2 (env.set i (.nd (.lst true) p.1)) := q_mut0
theorem y_seq {K : List D → List D → Prop} {a : E} : EKt (evi Δ (.seq a) env) K X = EKt (ev Δ a env) (fun d e => wkd a d = true ∧ OKt (seqI d) fun l => K l e) X := q_seq
theorem y_range1 {K : List D → List D → Prop} {a : E} : EKt (evi Δ (.range1 a) env) K X = EKt (ev Δ a env) (fun d e => OKt (toI d) fun j => small j = true ∧ K ((rng 0 j.toNat).map .int) e) X := q_range1
theorem y_range2 {K : List D → List D → Prop} {a b : E} : EKt (evi Δ (.range2 a b) env) K X = EKt (ev Δ a env) (fun x e => NIt x fun i => EKt (ev Δ b e) (fun y e => OKt (toI y) fun j => small i = true ∧ small j = true ∧ K ((rng i (j - i).toNat).map .int) e) X) X := q_range2
theorem y_zip {K : List D → List D → Prop} {a b : E} : EKt (evi Δ (.zip a b) env) K X = (ef b = false ∧ EKt (ev Δ a env) (fun x e => EKt (ev Δ b e) (fun y e => wkd a x = true ∧ wkd b y = true ∧ OKt (zipS x y) fun l => K l e) X) X) := q_zip
theorem y_enum {K : List D → List D → Prop} {a : E} : EKt (evi Δ (.enum a) env) K X = EKt (ev Δ a env) (fun d e => wkd a d = true ∧ OKt (seqI d) fun l => K (idxs 0 l) e) X := q_enum
theorem y_rev {K : List D → List D → Prop} {a : E} : EKt (evi Δ (.rev a) env) K X = EKt (ev Δ a env) (fun d e => wkd a d = true ∧ OKt (lstI d) fun l => K l.reverse e) X := q_rev
theorem y_comp {ow : List Nat} {t : T} {it : I} {elt : E} : EKt (ev Δ (.comp ow t it elt) env) K X = EKt (evi Δ it env) (fun ds e1 => CK1t Δ ow t elt (srcs it) ds e1 K X) X := by unfold EKt; simp only [CK1t_eq]; exact q_comp
theorem y_compI {ow : List Nat} {t : T} {it : I} {c elt : E} : EKt (ev Δ (.compI ow t it c elt) env) K X = EKt (evi Δ it env) (fun ds e1 => CK2t Δ ow t c elt (srcs it) ds e1 K X) X := by unfold EKt; simp only [CK2t_eq]; exact q_compI
theorem ck_map_t {α : Type} {ow : List Nat} {t : T} {elt : E} {src : List Nat} {l : List α} {enc : α → D} {e1 : List D} (g : α → D) (h1 : holesE e1 ow = true) (h2 : l.length ≤ 16777216) (h3 : ∀ a, a ∈ l → OKt (asgT Δ t (enc a) e1) fun e2 => EKt (ev Δ elt e2) (fun x e3 => OKt (own elt x) fun x => x = g a ∧ wipeE e3 ow = e1) fun _ _ => False) (h4 : K (.nd (.lst true) (l.map g)) e1) : CK1t Δ ow t elt src (l.map enc) e1 K X := ⟨ck_map g h1 h2 h3 h4⟩
theorem ck_filter_t {α : Type} {ow : List Nat} {t : T} {c elt : E} {src : List Nat} {l : List α} {enc : α → D} {e1 : List D} (g : α → D) (p : α → Bool) (h1 : holesE e1 ow = true) (h2 : l.length ≤ 16777216)
    (h3 : ∀ a, a ∈ l → OKt (asgT Δ t (enc a) e1) fun e2 => EKt (ev Δ c e2) (fun d e3 => BKt d (p a = true ∧ EKt (ev Δ elt e3) (fun x e4 => OKt (own elt x) fun x => x = g a ∧ wipeE e4 ow = e1) fun _ _ => False) (p a = false ∧ wipeE e3 ow = e1)) fun _ _ => False) (h4 : K (.nd (.lst true) ((l.filter p).map g)) e1) : CK2t Δ ow t c elt src (l.map enc) e1 K X := ⟨ck_filter g p h1 h2 h3 h4⟩
theorem ck_inv_t {α : Type} {ow : List Nat} {t : T} {elt : E} {src : List Nat} {l : List α} {enc : α → D} {e1 : List D} (I : List α → List D → List D → Prop) (h1 : holesE e1 ow = true) (h2 : I l [] e1)
    (h3 : ∀ a r acc e, (a :: r) <:+ l → I (a :: r) acc e → OKt (asgT Δ t (enc a) e) fun e2 => EKt (ev Δ elt e2) (fun x e3 => OKt (own elt x) fun x => stay src e1 (wipeE e3 ow) = true ∧ acc.length < 16777216 ∧ I r (acc ++ [x]) (wipeE e3 ow)) fun _ _ => False) (h4 : ∀ acc e, I [] acc e → K (.nd (.lst true) acc) e) : CK1t Δ ow t elt src (l.map enc) e1 K X := ⟨ck_inv I h1 h2 h3 h4⟩
theorem lk_inv_t {α : Type} {t : T} {b ss : Ss} {src : List Nat} {l : List α} {enc : α → D} {e1 : List D} (I : List α → List D → Prop) (h2 : I l e1)
    (h3 : ∀ a r e, (a :: r) <:+ l → I (a :: r) e → OKt (asgT Δ t (enc a) e) fun e2 => Wtt (exss Δ b e2) { nx := fun e => stay src e1 e = true ∧ I r e, ct := fun e => stay src e1 e = true ∧ I r e, bk := fun e => Wtt (exss Δ ss e) Q, rt := Q.rt, er := Q.er })
    (h4 : ∀ e, I [] e → Wtt (exss Δ ss e) Q) : LKt Δ t b ss src (l.map enc) e1 Q := ⟨lk_inv I h2 h3 h4⟩
theorem y_nil : Wtt (exss Δ .nil env) Q = Q.nx env := q_nil
theorem y_set {i : Nat} {e : E} {ss : Ss} : Wtt (exss Δ (.cons (.set i e) ss) env) Q = EKt (ev Δ e env) (fun d e1 => OKt (own e d) fun d => i < e1.length ∧ Wtt (exss Δ ss (e1.set i d)) Q) Q.er := q_set
theorem y_expr {e : E} {ss : Ss} : Wtt (exss Δ (.cons (.expr e) ss) env) Q = EKt (ev Δ e env) (fun _ e1 => Wtt (exss Δ ss e1) Q) Q.er := q_expr
theorem y_ret {e : E} {ss : Ss} : Wtt (exss Δ (.cons (.ret e) ss) env) Q = EKt (ev Δ e env) (fun d e1 => OKt (own e d) fun d => Q.rt d e1) Q.er := q_ret
theorem y_asg {t : T} {e : E} {ss : Ss} : Wtt (exss Δ (.cons (.asg t e) ss) env) Q = EKt (ev Δ e env) (fun d e1 => OKt (own e d) fun d => OKt (asgT Δ t d e1) fun e2 => Wtt (exss Δ ss e2) Q) Q.er := q_asg
theorem y_par {i j : Nat} {a b : E} {ss : Ss} : Wtt (exss Δ (.cons (.par i j a b) ss) env) Q = EKt (evs Δ (.cons a (.cons b .nil)) env) (fun ds e => NPt ds fun x y => (i < e.length ∧ j < e.length ∧ i ≠ j) ∧ Wtt (exss Δ ss ((e.set i x).set j y)) Q) Q.er := q_par
theorem y_aug {i : Nat} {o : Bop} {e : E} {ss : Ss} : Wtt (exss Δ (.cons (.aug i o e) ss) env) Q = OKt ((look env i).bind toI) fun x => EKt (ev Δ e env) (fun y e1 => OKt (toI y) fun y => OKt (iop o x y) fun z => i < e1.length ∧ Wtt (exss Δ ss (e1.set i (.int z))) Q) Q.er := q_aug
theorem y_iff {c : E} {a b ss : Ss} : Wtt (exss Δ (.cons (.iff c a b) ss) env) Q = EKt (ev Δ c env) (fun d e => BKt d (Wtt (exss Δ (a.app ss) e) Q) (Wtt (exss Δ (b.app ss) e) Q)) Q.er := q_iff
theorem y_fo {t : T} {it : I} {b ss : Ss} : Wtt (exss Δ (.cons (.fo t it b) ss) env) Q = EKt (evi Δ it env) (fun ds e1 => LKt Δ t b ss (srcs it) ds e1 Q) Q.er := by unfold EKt Wtt; simp only [LKt_eq]; exact q_fo
theorem y_ret0 {ss : Ss} : Wtt (exss Δ (.cons .ret0 ss) env) Q = Q.rt .non env := q_ret0
theorem y_pass {ss : Ss} : Wtt (exss Δ (.cons .pass ss) env) Q = Wtt (exss Δ ss env) Q := q_pass
theorem y_doc {ss : Ss} : Wtt (exss Δ (.cons .doc ss) env) Q = Wtt (exss Δ ss env) Q := q_doc
theorem y_brk {ss : Ss} : Wtt (exss Δ (.cons .brk ss) env) Q = Q.bk env := q_brk
theorem y_cont {ss : Ss} : Wtt (exss Δ (.cons .cont ss) env) Q = Q.ct env := q_cont
theorem y_never {ss : Ss} : Wtt (exss Δ (.cons .never ss) env) Q = False := q_never
theorem y_drop {i : Nat} {ss : Ss} : Wtt (exss Δ (.cons (.drop i) ss) env) Q = Wtt (exss Δ ss (env.set i .hole)) Q := q_drop
theorem y_app1 {s : S} {a b : Ss} : (Ss.cons s a).app b = .cons s (a.app b) := q_app1
theorem y_app0 {b : Ss} : Ss.nil.app b = b := q_app0
theorem fk_call_t {P : List Fn} {W n j : Nat} {f : Fn} {ds env : List D} (hp : P[j]? = some f) (hl : ds.length = f.mu.length) (he : ds ++ List.replicate (f.nn - f.mu.length) .hole = env) (h : Wtt (exss (dl P W n) f.body env) { nx := fun e => OKt (outsOf f.mu e) fun l => K .non l, rt := fun d e => OKt (outsOf f.mu e) fun l => K d l, er := fun x e => OKt (outsOf f.mu e) fun l => X x l }) : FKt ((dl P W (n + 1)).call j ds) K X := ⟨fk_call hp hl he h⟩
end Vi

set_option Elab.async false
set_option linter.all false
set_option maxRecDepth 100000
set_option maxHeartbeats 4000000
/-! Vi36: equations for simp. -/
namespace Vq
open PySem L2 Vi
@[simp] theorem n_ef_1 : ∀ (i : Int), Vi.ef (Vi.E.int i) = Bool.false := Vi.ef.eq_1
@[simp] theorem n_ef_2 : ∀ (b : Bool), Vi.ef (Vi.E.bl b) = Bool.false := Vi.ef.eq_2
@[simp] theorem n_ef_3 : Vi.ef Vi.E.non = Bool.false := Vi.ef.eq_3
@[simp] theorem n_ef_4 : ∀ (x_1 : PySem.Str), Vi.ef (Vi.E.str x_1) = Bool.false := Vi.ef.eq_4
@[simp] theorem n_ef_5 : ∀ (b e : Nat), Vi.ef (Vi.E.pow b e) = Bool.false := Vi.ef.eq_5
@[simp] theorem n_ef_6 : ∀ (x_1 : PySem.Str) (d : Vi.D), Vi.ef (Vi.E.glo x_1 d) = Bool.false := Vi.ef.eq_6
@[simp] theorem n_ef_7 : ∀ (i : Nat), Vi.ef (Vi.E.var i) = Bool.false := Vi.ef.eq_7
@[simp] theorem n_ef_8 : ∀ (t : Bool), Vi.ef (Vi.E.dct t) = Bool.false := Vi.ef.eq_8
@[simp] theorem n_ef_9 : ∀ (i : Nat), Vi.ef (Vi.E.mv i) = Bool.true := Vi.ef.eq_9
@[simp] theorem n_ef_10 : ∀ (i : Nat) (e : Vi.E), Vi.ef (Vi.E.fz i e) = Bool.true := Vi.ef.eq_10
@[simp] theorem n_ef_11 : ∀ (a : Vi.E), Vi.ef a.neg = Vi.ef a := Vi.ef.eq_11
@[simp] theorem n_ef_12 : ∀ (a : Vi.E), Vi.ef a.not = Vi.ef a := Vi.ef.eq_12
@[simp] theorem n_ef_13 : ∀ (a : Vi.E), Vi.ef a.slr = Vi.ef a := Vi.ef.eq_13
@[simp] theorem n_ef_14 : ∀ (a : Vi.E) (f : PySem.Str), Vi.ef (a.attr f) = Vi.ef a := Vi.ef.eq_14
@[simp] theorem n_ef_15 : ∀ (o : Vi.B1) (a : Vi.E), Vi.ef (Vi.E.b1 o a) = Vi.ef a := Vi.ef.eq_15
@[simp] theorem n_ef_16 : ∀ (a : Vi.E) (ts : List Vi.Ty), Vi.ef (a.isi ts) = Vi.ef a := Vi.ef.eq_16
@[simp] theorem n_ef_17 : ∀ (f : Nat) (a : Vi.E), Vi.ef (Vi.E.callO f a) = Vi.ef a := Vi.ef.eq_17
@[simp] theorem n_ef_18 : ∀ (es : Vi.Es), Vi.ef (Vi.E.and es) = Vi.efs es := Vi.ef.eq_18
@[simp] theorem n_ef_19 : ∀ (es : Vi.Es), Vi.ef (Vi.E.or es) = Vi.efs es := Vi.ef.eq_19
@[simp] theorem n_ef_20 : ∀ (o : Vi.Bop) (a b : Vi.E), Vi.ef (Vi.E.bin o a b) = (Vi.ef a || Vi.ef b) := Vi.ef.eq_20
@[simp] theorem n_ef_21 : ∀ (o : Vi.Cop) (a b : Vi.E), Vi.ef (Vi.E.cmp o a b) = (Vi.ef a || Vi.ef b) := Vi.ef.eq_21
@[simp] theorem n_ef_22 : ∀ (a b : Vi.E), Vi.ef (a.idx b) = (Vi.ef a || Vi.ef b) := Vi.ef.eq_22
@[simp] theorem n_ef_23 : ∀ (a b : Vi.E), Vi.ef (a.sl10 b) = (Vi.ef a || Vi.ef b) := Vi.ef.eq_23
@[simp] theorem n_ef_24 : ∀ (a b : Vi.E), Vi.ef (a.sl01 b) = (Vi.ef a || Vi.ef b) := Vi.ef.eq_24
@[simp] theorem n_ef_25 : ∀ (o : Vi.B2) (a b : Vi.E), Vi.ef (Vi.E.b2 o a b) = (Vi.ef a || Vi.ef b) := Vi.ef.eq_25
@[simp] theorem n_ef_26 : ∀ (o p : Vi.Cop) (a b c : Vi.E), Vi.ef (Vi.E.chain o p a b c) = (Vi.ef a || (Vi.ef b || Vi.ef c)) := Vi.ef.eq_26
@[simp] theorem n_ef_27 : ∀ (a b c : Vi.E), Vi.ef (a.ite b c) = (Vi.ef a || (Vi.ef b || Vi.ef c)) := Vi.ef.eq_27
@[simp] theorem n_ef_28 : ∀ (a b c : Vi.E), Vi.ef (a.sl11 b c) = (Vi.ef a || (Vi.ef b || Vi.ef c)) := Vi.ef.eq_28
@[simp] theorem n_ef_29 : ∀ (a b c : Vi.E), Vi.ef (a.dget b c) = (Vi.ef a || (Vi.ef b || Vi.ef c)) := Vi.ef.eq_29
@[simp] theorem n_ef_30 : ∀ (es : Vi.Es), Vi.ef (Vi.E.tup es) = Vi.efs es := Vi.ef.eq_30
@[simp] theorem n_ef_31 : ∀ (es : Vi.Es), Vi.ef (Vi.E.lst es) = Vi.efs es := Vi.ef.eq_31
@[simp] theorem n_ef_32 : ∀ (f : Nat) (as : Vi.As), Vi.ef (Vi.E.call f as) = Vi.efa as := Vi.ef.eq_32
@[simp] theorem n_ef_33 : ∀ (c f : Nat) (as : Vi.As), Vi.ef (Vi.E.mk c f as) = Vi.efa as := Vi.ef.eq_33
@[simp] theorem n_ef_34 : ∀ (m : Vi.M0) (p : Vi.E), Vi.ef (Vi.E.mut0 m p) = Bool.true := Vi.ef.eq_34
@[simp] theorem n_ef_35 : ∀ (m : Vi.M1) (p a : Vi.E), Vi.ef (Vi.E.mut1 m p a) = Bool.true := Vi.ef.eq_35
@[simp] theorem n_ef_36 : ∀ (p i a : Vi.E), Vi.ef (p.ins i a) = Bool.true := Vi.ef.eq_36
@[simp] theorem n_ef_37 : ∀ (own : List Nat) (t : Vi.T) (it : Vi.I) (e : Vi.E), Vi.ef (Vi.E.comp own t it e) = (Vi.efi it || Vi.ef e) := Vi.ef.eq_37
@[simp] theorem n_ef_38 : ∀ (own : List Nat) (t : Vi.T) (it : Vi.I) (c e : Vi.E), Vi.ef (Vi.E.compI own t it c e) = (Vi.efi it || (Vi.ef c || Vi.ef e)) := Vi.ef.eq_38
@[simp] theorem n_efs_1 : Vi.efs Vi.Es.nil = Bool.false := Vi.efs.eq_1
@[simp] theorem n_efs_2 : ∀ (e : Vi.E) (es : Vi.Es), Vi.efs (Vi.Es.cons e es) = (Vi.ef e || Vi.efs es) := Vi.efs.eq_2
@[simp] theorem n_efa_1 : Vi.efa Vi.As.nil = Bool.false := Vi.efa.eq_1
@[simp] theorem n_efa_2 : ∀ (e : Vi.E) (r : Vi.As), Vi.efa (Vi.As.ro e r) = (Vi.ef e || Vi.efa r) := Vi.efa.eq_2
@[simp] theorem n_efa_3 : ∀ (p : Vi.E) (r : Vi.As), Vi.efa (Vi.As.mu p r) = Bool.true := Vi.efa.eq_3
@[simp] theorem n_efr_1 : Vi.efr Vi.As.nil = Bool.false := Vi.efr.eq_1
@[simp] theorem n_efr_2 : ∀ (e : Vi.E) (r : Vi.As), Vi.efr (Vi.As.ro e r) = (Vi.ef e || Vi.efr r) := Vi.efr.eq_2
@[simp] theorem n_efr_3 : ∀ (p : Vi.E) (r : Vi.As), Vi.efr (Vi.As.mu p r) = Vi.efr r := Vi.efr.eq_3
@[simp] theorem n_efi_1 : ∀ (e : Vi.E), Vi.efi (Vi.I.seq e) = Vi.ef e := Vi.efi.eq_1
@[simp] theorem n_efi_2 : ∀ (e : Vi.E), Vi.efi (Vi.I.range1 e) = Vi.ef e := Vi.efi.eq_2
@[simp] theorem n_efi_3 : ∀ (e : Vi.E), Vi.efi (Vi.I.enum e) = Vi.ef e := Vi.efi.eq_3
@[simp] theorem n_efi_4 : ∀ (e : Vi.E), Vi.efi (Vi.I.rev e) = Vi.ef e := Vi.efi.eq_4
@[simp] theorem n_efi_5 : ∀ (a b : Vi.E), Vi.efi (Vi.I.range2 a b) = (Vi.ef a || Vi.ef b) := Vi.efi.eq_5
@[simp] theorem n_efi_6 : ∀ (a b : Vi.E), Vi.efi (Vi.I.zip a b) = (Vi.ef a || Vi.ef b) := Vi.efi.eq_6
@[simp] theorem n_vw_1 : ∀ (i : Nat), Vi.vw (Vi.E.var i) = Bool.true := Vi.vw.eq_1
@[simp] theorem n_vw_2 : ∀ (a i : Vi.E), Vi.vw (a.idx i) = Vi.vw a := Vi.vw.eq_2
@[simp] theorem n_vw_3 : ∀ (a : Vi.E) (f : PySem.Str), Vi.vw (a.attr f) = Vi.vw a := Vi.vw.eq_3
@[simp] theorem n_rt_1 : ∀ (i : Nat), Vi.rt (Vi.E.var i) = i := Vi.rt.eq_1
@[simp] theorem n_rt_2 : ∀ (a i : Vi.E), Vi.rt (a.idx i) = Vi.rt a := Vi.rt.eq_2
@[simp] theorem n_rt_3 : ∀ (a : Vi.E) (f : PySem.Str), Vi.rt (a.attr f) = Vi.rt a := Vi.rt.eq_3
@[simp] theorem n_isVar_1 : ∀ (i : Nat), Vi.isVar (Vi.E.var i) = Bool.true := Vi.isVar.eq_1
@[simp] theorem n_bop_1 : ∀ (a b : Int), Vi.bop Vi.Bop.add (Vi.D.int a) (Vi.D.int b) = Option.some (Vi.D.int (a + b)) := Vi.bop.eq_1
@[simp] theorem n_bop_2 : ∀ (a b : PySem.Str), Vi.bop Vi.Bop.add (Vi.D.str a) (Vi.D.str b) = if a.length + b.length ≤ Vi.sizeL then Option.some (Vi.D.str (a ++ b)) else Option.none := Vi.bop.eq_2
@[simp] theorem n_bop_3 : ∀ (xs ys : List Vi.D) (o o_1 : Bool), Vi.bop Vi.Bop.add (Vi.D.nd (Vi.Kd.lst o) xs) (Vi.D.nd (Vi.Kd.lst o_1) ys) = if (Vi.imms xs && (Vi.imms ys && Decidable.decide (xs.length + ys.length ≤ Vi.sizeL))) = Bool.true then Option.some (Vi.D.nd (Vi.Kd.lst Bool.true) (xs ++ ys)) else Option.none := Vi.bop.eq_3
@[simp] theorem n_bop_4 : ∀ (xs ys : List Vi.D), Vi.bop Vi.Bop.add (Vi.D.nd Vi.Kd.tup xs) (Vi.D.nd Vi.Kd.tup ys) = if (Vi.imms xs && (Vi.imms ys && Decidable.decide (xs.length + ys.length ≤ Vi.sizeL))) = Bool.true then Option.some (Vi.D.nd Vi.Kd.tup (xs ++ ys)) else Option.none := Vi.bop.eq_4
@[simp] theorem n_bop_6 : ∀ (a b : Int), Vi.bop Vi.Bop.sub (Vi.D.int a) (Vi.D.int b) = Option.some (Vi.D.int (a - b)) := Vi.bop.eq_6
@[simp] theorem n_bop_7 : ∀ (a b : Int), Vi.bop Vi.Bop.mul (Vi.D.int a) (Vi.D.int b) = if -18446744073709551616 < a ∧ a < 18446744073709551616 ∨ -18446744073709551616 < b ∧ b < 18446744073709551616 then Option.some (Vi.D.int (a * b)) else Option.none := Vi.bop.eq_7
@[simp] theorem n_bop_8 : ∀ (xs : List Vi.D) (b : Int), Vi.bop Vi.Bop.mul (Vi.D.nd (Vi.Kd.lst Bool.true) xs) (Vi.D.int b) = if (Vi.imms xs && (Decidable.decide (-9223372036854775808 ≤ b ∧ b < 9223372036854775808) && Decidable.decide (xs.length * b.toNat ≤ Vi.sizeL))) = Bool.true then Option.some (Vi.D.nd (Vi.Kd.lst Bool.true) (Vi.repl xs b.toNat)) else Option.none := Vi.bop.eq_8
@[simp] theorem n_bop_9 : ∀ (xs : List Vi.D) (b : Int), Vi.bop Vi.Bop.mul (Vi.D.nd Vi.Kd.tup xs) (Vi.D.int b) = if (Vi.imms xs && (!xs.isEmpty && (Decidable.decide (-9223372036854775808 ≤ b ∧ b ≤ 1000) && Decidable.decide (xs.length ≤ 1000)))) = Bool.true then Option.some (Vi.D.nd Vi.Kd.tup (Vi.repl xs b.toNat)) else Option.none := Vi.bop.eq_9
@[simp] theorem n_bop_11 : ∀ (a b : Int), Vi.bop Vi.Bop.div (Vi.D.int a) (Vi.D.int b) = if 0 < b ∧ b ≤ 1000000000000000000000000000000000000000000000000000000000000 then Option.some (Vi.D.int (a / b)) else Option.none := Vi.bop.eq_11
@[simp] theorem n_bop_12 : ∀ (a b : Int), Vi.bop Vi.Bop.mod (Vi.D.int a) (Vi.D.int b) = if 0 < b then Option.some (Vi.D.int (a % b)) else Option.none := Vi.bop.eq_12
@[simp] theorem n_bop_13 : ∀ (a b : Int), Vi.bop Vi.Bop.shl (Vi.D.int a) (Vi.D.int b) = if 0 ≤ b ∧ b ≤ 1000000 ∧ a.natAbs < 18446744073709551616 then Option.some (Vi.D.int (a * 2 ^ b.toNat)) else Option.none := Vi.bop.eq_13
@[simp] theorem n_bop_14 : ∀ (a b : Int), Vi.bop Vi.Bop.shr (Vi.D.int a) (Vi.D.int b) = if 0 ≤ b then Option.some (Vi.D.int (a / 2 ^ b.toNat)) else Option.none := Vi.bop.eq_14
@[simp] theorem n_bop_15 : ∀ (a b : Int), Vi.bop Vi.Bop.band (Vi.D.int a) (Vi.D.int b) = Option.some (Vi.D.int (PySem.Builtin.bitAnd a b)) := Vi.bop.eq_15
@[simp] theorem n_b1op_1 : ∀ (xs : List Vi.D), Vi.b1op Vi.B1.len (Vi.D.nd Vi.Kd.tup xs) = Option.some (Vi.D.int ↑xs.length) := Vi.b1op.eq_1
@[simp] theorem n_b1op_2 : ∀ (xs : List Vi.D) (o : Bool), Vi.b1op Vi.B1.len (Vi.D.nd (Vi.Kd.lst o) xs) = Option.some (Vi.D.int ↑xs.length) := Vi.b1op.eq_2
@[simp] theorem n_b1op_3 : ∀ (xs : List Vi.D) (o : Bool) (ks : List (List L2.Key)), Vi.b1op Vi.B1.len (Vi.D.nd (Vi.Kd.dT o ks) xs) = Option.some (Vi.D.int ↑xs.length) := Vi.b1op.eq_3
@[simp] theorem n_b1op_5 : ∀ (x_2 : PySem.Str), Vi.b1op Vi.B1.len (Vi.D.str x_2) = if x_2.length ≤ Vi.sizeL then Option.some (Vi.D.int ↑x_2.length) else Option.none := Vi.b1op.eq_5
@[simp] theorem n_b1op_10 : ∀ (i : Int), Vi.b1op Vi.B1.abs (Vi.D.int i) = Option.some (Vi.D.int (if i < 0 then -i else i)) := Vi.b1op.eq_10
@[simp] theorem n_b1op_11 : ∀ (i : Int), Vi.b1op Vi.B1.int (Vi.D.int i) = Option.some (Vi.D.int i) := Vi.b1op.eq_11
@[simp] theorem n_b1op_12 : ∀ (b : Bool), Vi.b1op Vi.B1.int (Vi.D.bl b) = Option.some (Vi.D.int (if b = Bool.true then 1 else 0)) := Vi.b1op.eq_12
@[simp] theorem n_b2op_1 : ∀ (a b : Int), Vi.b2op Vi.B2.mn (Vi.D.int a) (Vi.D.int b) = Option.some (Vi.D.int (if b < a then b else a)) := Vi.b2op.eq_1
@[simp] theorem n_b2op_2 : ∀ (a b : Int), Vi.b2op Vi.B2.mx (Vi.D.int a) (Vi.D.int b) = Option.some (Vi.D.int (if b > a then b else a)) := Vi.b2op.eq_2
@[simp] theorem n_iop_1 : ∀ (x x_1 : Int), Vi.iop Vi.Bop.add x x_1 = Option.some (x + x_1) := Vi.iop.eq_1
@[simp] theorem n_iop_2 : ∀ (x x_1 : Int), Vi.iop Vi.Bop.sub x x_1 = Option.some (x - x_1) := Vi.iop.eq_2
@[simp] theorem n_m1op_1 : ∀ (x : List Vi.D) (x_1 : Vi.D), Vi.m1op Vi.M1.append x x_1 = if x.length < Vi.sizeL then Option.some (x ++ [x_1], Vi.D.non) else Option.none := Vi.m1op.eq_1
@[simp] theorem n_m0op_2 : ∀ (x : List Vi.D), Vi.m0op Vi.M0.clear x = Option.some ([], Vi.D.non) := Vi.m0op.eq_2
@[simp] theorem n_m0op_3 : ∀ (x : List Vi.D), Vi.m0op Vi.M0.reverse x = if Vi.imms x = Bool.true then Option.some (x.reverse, Vi.D.non) else Option.none := Vi.m0op.eq_3
@[simp] theorem n_roots_1 : Vi.roots [] = [] := Vi.roots.eq_1
@[simp] theorem n_roots_2 : ∀ (p : Nat × List Nat) (r : List (Nat × List Nat)), Vi.roots (p :: r) = p.fst :: Vi.roots r := Vi.roots.eq_2
@[simp] theorem n_nodupB_1 : Vi.nodupB [] = Bool.true := Vi.nodupB.eq_1
@[simp] theorem n_nodupB_2 : ∀ (i : Nat) (l : List Nat), Vi.nodupB (i :: l) = (!l.contains i && Vi.nodupB l) := Vi.nodupB.eq_2
@[simp] theorem n_apart_1 : ∀ (ms : List Nat), Vi.apart Vi.As.nil [] ms = Option.some Bool.true := Vi.apart.eq_1
@[simp] theorem n_apart_3 : ∀ (ms : List Nat) (p : Vi.E) (r : Vi.As) (l : List (Option Vi.D)), Vi.apart (Vi.As.mu p r) (Option.none :: l) ms = Vi.apart r l ms := Vi.apart.eq_3
@[simp] theorem n_argsD_1 : ∀ (env : List Vi.D), Vi.argsD env [] [] = Option.some [] := Vi.argsD.eq_1
@[simp] theorem n_putAll_1 : ∀ (env : List Vi.D), Vi.putAll env [] [] = Option.some env := Vi.putAll.eq_1
@[simp] theorem n_getL_1 : ∀ (x : Vi.D), Vi.getL x [] = Option.some x := Vi.getL.eq_1
@[simp] theorem n_setL_1 : ∀ (d' x : Vi.D), Vi.setL d' x [] = d' := Vi.setL.eq_1
@[simp] theorem n_frz_1 : ∀ (k : Vi.Kd) (xs : List Vi.D), Vi.frz (Vi.D.nd k xs) = Vi.D.nd k.fz (Vi.frzs xs) := Vi.frz.eq_1
@[simp] theorem n_frz_2 : Vi.frz Vi.D.hole = Vi.D.hole := Vi.frz.eq_2
@[simp] theorem n_frz_3 : Vi.frz Vi.D.non = Vi.D.non := Vi.frz.eq_3
@[simp] theorem n_frz_4 : ∀ (b : Bool), Vi.frz (Vi.D.bl b) = Vi.D.bl b := Vi.frz.eq_4
@[simp] theorem n_frz_5 : ∀ (i : Int), Vi.frz (Vi.D.int i) = Vi.D.int i := Vi.frz.eq_5
@[simp] theorem n_frz_6 : ∀ (x_1 : PySem.Str), Vi.frz (Vi.D.str x_1) = Vi.D.str x_1 := Vi.frz.eq_6
@[simp] theorem n_frzs_1 : Vi.frzs [] = [] := Vi.frzs.eq_1
@[simp] theorem n_frzs_2 : ∀ (d : Vi.D) (ds : List Vi.D), Vi.frzs (d :: ds) = Vi.frz d :: Vi.frzs ds := Vi.frzs.eq_2
@[simp] theorem n_Kd_fz_1 : Vi.Kd.tup.fz = Vi.Kd.tup := Vi.Kd.fz.eq_1
@[simp] theorem n_Kd_fz_2 : ∀ (o : Bool), (Vi.Kd.lst o).fz = Vi.Kd.lst Bool.false := Vi.Kd.fz.eq_2
@[simp] theorem n_Kd_fz_3 : ∀ (o : Bool) (ks : List L2.Key), (Vi.Kd.dK o ks).fz = Vi.Kd.dK Bool.false ks := Vi.Kd.fz.eq_3
@[simp] theorem n_Kd_fz_4 : ∀ (o : Bool) (ks : List (List L2.Key)), (Vi.Kd.dT o ks).fz = Vi.Kd.dT Bool.false ks := Vi.Kd.fz.eq_4
@[simp] theorem n_Kd_fz_5 : ∀ (o : Bool) (c : Nat) (ns : List PySem.Str), (Vi.Kd.obj o c ns).fz = Vi.Kd.obj Bool.false c ns := Vi.Kd.fz.eq_5
@[simp] theorem n_Kd_ow_1 : Vi.Kd.tup.ow = Option.none := Vi.Kd.ow.eq_1
@[simp] theorem n_Kd_ow_2 : ∀ (o : Bool), (Vi.Kd.lst o).ow = Option.some o := Vi.Kd.ow.eq_2
@[simp] theorem n_Kd_ow_3 : ∀ (o : Bool) (ks : List L2.Key), (Vi.Kd.dK o ks).ow = Option.some o := Vi.Kd.ow.eq_3
@[simp] theorem n_Kd_ow_4 : ∀ (o : Bool) (ks : List (List L2.Key)), (Vi.Kd.dT o ks).ow = Option.some o := Vi.Kd.ow.eq_4
@[simp] theorem n_Kd_ow_5 : ∀ (o : Bool) (c : Nat) (ns : List PySem.Str), (Vi.Kd.obj o c ns).ow = Option.some o := Vi.Kd.ow.eq_5
@[simp] theorem n_nof_1 : ∀ (k : Vi.Kd) (xs : List Vi.D), Vi.nof (Vi.D.nd k xs) = (k.ow != Option.some Bool.false && Vi.nofs xs) := Vi.nof.eq_1
@[simp] theorem n_nof_2 : Vi.nof Vi.D.hole = Bool.true := Vi.nof.eq_2
@[simp] theorem n_nof_3 : Vi.nof Vi.D.non = Bool.true := Vi.nof.eq_3
@[simp] theorem n_nof_4 : ∀ (b : Bool), Vi.nof (Vi.D.bl b) = Bool.true := Vi.nof.eq_4
@[simp] theorem n_nof_5 : ∀ (i : Int), Vi.nof (Vi.D.int i) = Bool.true := Vi.nof.eq_5
@[simp] theorem n_nof_6 : ∀ (x_1 : PySem.Str), Vi.nof (Vi.D.str x_1) = Bool.true := Vi.nof.eq_6
@[simp] theorem n_nofs_1 : Vi.nofs [] = Bool.true := Vi.nofs.eq_1
@[simp] theorem n_nofs_2 : ∀ (d : Vi.D) (ds : List Vi.D), Vi.nofs (d :: ds) = (Vi.nof d && Vi.nofs ds) := Vi.nofs.eq_2
@[simp] theorem n_imm_1 : ∀ (k : Vi.Kd) (xs : List Vi.D), Vi.imm (Vi.D.nd k xs) = (k.ow != Option.some Bool.true && Vi.imms xs) := Vi.imm.eq_1
@[simp] theorem n_imm_2 : Vi.imm Vi.D.hole = Bool.false := Vi.imm.eq_2
@[simp] theorem n_imm_3 : Vi.imm Vi.D.non = Bool.true := Vi.imm.eq_3
@[simp] theorem n_imm_4 : ∀ (b : Bool), Vi.imm (Vi.D.bl b) = Bool.true := Vi.imm.eq_4
@[simp] theorem n_imm_5 : ∀ (i : Int), Vi.imm (Vi.D.int i) = Bool.true := Vi.imm.eq_5
@[simp] theorem n_imm_6 : ∀ (x_1 : PySem.Str), Vi.imm (Vi.D.str x_1) = Bool.true := Vi.imm.eq_6
@[simp] theorem n_imms_1 : Vi.imms [] = Bool.true := Vi.imms.eq_1
@[simp] theorem n_imms_2 : ∀ (d : Vi.D) (ds : List Vi.D), Vi.imms (d :: ds) = (Vi.imm d && Vi.imms ds) := Vi.imms.eq_2
@[simp] theorem n_srcs_1 : ∀ (i : Nat), Vi.srcs (Vi.I.seq (Vi.E.var i)) = [i] := Vi.srcs.eq_1
@[simp] theorem n_srcs_2 : ∀ (i : Nat), Vi.srcs (Vi.I.enum (Vi.E.var i)) = [i] := Vi.srcs.eq_2
@[simp] theorem n_srcs_3 : ∀ (i : Nat), Vi.srcs (Vi.I.rev (Vi.E.var i)) = [i] := Vi.srcs.eq_3
@[simp] theorem n_srcs_4 : ∀ (i i_1 : Nat), Vi.srcs (Vi.I.zip (Vi.E.var i) (Vi.E.var i_1)) = [i] ++ [i_1] := Vi.srcs.eq_4
@[simp] theorem n_wipeE_1 : ∀ (env : List Vi.D), Vi.wipeE env [] = env := Vi.wipeE.eq_1
@[simp] theorem n_wipeE_2 : ∀ (env : List Vi.D) (i : Nat) (l : List Nat), Vi.wipeE env (i :: l) = (Vi.wipeE env l).set i Vi.D.hole := Vi.wipeE.eq_2
@[simp] theorem n_okTy_1 : Vi.okTy Vi.D.hole = Bool.false := Vi.okTy.eq_1
@[simp] theorem n_okTy_2 : ∀ (xs : List Vi.D) (o : Bool) (c : Nat) (ns : List PySem.Str), Vi.okTy (Vi.D.nd (Vi.Kd.obj o c ns) xs) = Bool.false := Vi.okTy.eq_2
@[simp] theorem n_isTy_1 : ∀ (i : Int), Vi.isTy (Vi.D.int i) Vi.Ty.int = Bool.true := Vi.isTy.eq_1
@[simp] theorem n_isTy_2 : ∀ (b : Bool), Vi.isTy (Vi.D.bl b) Vi.Ty.int = Bool.true := Vi.isTy.eq_2
@[simp] theorem n_isTy_4 : ∀ (b : Bool), Vi.isTy (Vi.D.bl b) Vi.Ty.bool = Bool.true := Vi.isTy.eq_4
@[simp] theorem n_isTy_6 : ∀ (x_1 : PySem.Str), Vi.isTy (Vi.D.str x_1) Vi.Ty.str = Bool.true := Vi.isTy.eq_6
@[simp] theorem n_isTy_8 : ∀ (js : List Vi.D) (o : Bool), Vi.isTy (Vi.D.nd (Vi.Kd.lst o) js) Vi.Ty.list = Bool.true := Vi.isTy.eq_8
@[simp] theorem n_isTy_11 : ∀ (js : List Vi.D), Vi.isTy (Vi.D.nd Vi.Kd.tup js) Vi.Ty.tuple = Bool.true := Vi.isTy.eq_11
@[simp] theorem n_isTy_14 : ∀ (js : List Vi.D) (o : Bool) (ks : List L2.Key), Vi.isTy (Vi.D.nd (Vi.Kd.dK o ks) js) Vi.Ty.dict = Bool.true := Vi.isTy.eq_14
@[simp] theorem n_isTy_15 : ∀ (js : List Vi.D) (o : Bool) (ks : List (List L2.Key)), Vi.isTy (Vi.D.nd (Vi.Kd.dT o ks) js) Vi.Ty.dict = Bool.true := Vi.isTy.eq_15
@[simp] theorem n_okd_1 : ∀ (x : Nat), Vi.okd x Vi.D.non = Bool.true := Vi.okd.eq_1
@[simp] theorem n_okd_2 : ∀ (x : Nat) (b : Bool), Vi.okd x (Vi.D.bl b) = Bool.true := Vi.okd.eq_2
@[simp] theorem n_okd_3 : ∀ (x : Nat) (i : Int), Vi.okd x (Vi.D.int i) = Bool.true := Vi.okd.eq_3
@[simp] theorem n_okd_4 : ∀ (x : Nat) (x_3 : PySem.Str), Vi.okd x (Vi.D.str x_3) = PySem.PyData.strOk x_3 := Vi.okd.eq_4
@[simp] theorem n_okd_5 : ∀ (x : Nat), Vi.okd x Vi.D.hole = Bool.false := Vi.okd.eq_5
@[simp] theorem n_okd_6 : ∀ (k : Vi.Kd) (xs : List Vi.D), Vi.okd 0 (Vi.D.nd k xs) = Bool.false := Vi.okd.eq_6
@[simp] theorem n_okd_7 : ∀ (n : Nat) (xs : List Vi.D), Vi.okd n.succ (Vi.D.nd Vi.Kd.tup xs) = Vi.okds n xs := Vi.okd.eq_7
@[simp] theorem n_okd_8 : ∀ (n : Nat) (xs : List Vi.D) (o : Bool), Vi.okd n.succ (Vi.D.nd (Vi.Kd.lst o) xs) = Vi.okds n xs := Vi.okd.eq_8
@[simp] theorem n_okds_1 : ∀ (x : Nat), Vi.okds x [] = Bool.true := Vi.okds.eq_1
@[simp] theorem n_okds_2 : ∀ (x : Nat) (x_2 : Vi.D) (xs : List Vi.D), Vi.okds x (x_2 :: xs) = (Vi.okd x x_2 && Vi.okds x xs) := Vi.okds.eq_2
@[simp] theorem n_deq_1 : Vi.deq Vi.D.non Vi.D.non = Bool.true := Vi.deq.eq_1
@[simp] theorem n_deq_2 : ∀ (a b : Bool), Vi.deq (Vi.D.bl a) (Vi.D.bl b) = (a == b) := Vi.deq.eq_2
@[simp] theorem n_deq_3 : ∀ (a b : Int), Vi.deq (Vi.D.int a) (Vi.D.int b) = Decidable.decide (a = b) := Vi.deq.eq_3
@[simp] theorem n_deq_4 : ∀ (a : Bool) (b : Int), Vi.deq (Vi.D.bl a) (Vi.D.int b) = ((if a = Bool.true then 1 else 0) == b) := Vi.deq.eq_4
@[simp] theorem n_deq_5 : ∀ (a : Int) (b : Bool), Vi.deq (Vi.D.int a) (Vi.D.bl b) = (a == if b = Bool.true then 1 else 0) := Vi.deq.eq_5
@[simp] theorem n_deq_6 : ∀ (a b : PySem.Str), Vi.deq (Vi.D.str a) (Vi.D.str b) = Decidable.decide (a = b) := Vi.deq.eq_6
@[simp] theorem n_deq_7 : ∀ (xs ys : List Vi.D), Vi.deq (Vi.D.nd Vi.Kd.tup xs) (Vi.D.nd Vi.Kd.tup ys) = Vi.deqs xs ys := Vi.deq.eq_7
@[simp] theorem n_deq_8 : ∀ (xs ys : List Vi.D) (o o_1 : Bool), Vi.deq (Vi.D.nd (Vi.Kd.lst o) xs) (Vi.D.nd (Vi.Kd.lst o_1) ys) = Vi.deqs xs ys := Vi.deq.eq_8
@[simp] theorem n_deqs_1 : Vi.deqs [] [] = Bool.true := Vi.deqs.eq_1
@[simp] theorem n_deqs_2 : ∀ (x_2 : Vi.D) (xs : List Vi.D) (y : Vi.D) (ys : List Vi.D), Vi.deqs (x_2 :: xs) (y :: ys) = (Vi.deq x_2 y && Vi.deqs xs ys) := Vi.deqs.eq_2
@[simp] theorem n_kid_1 : ∀ (n : Nat) (j : Int), Vi.kid Vi.Kd.tup n (Vi.D.int j) = L2.ixN n j := Vi.kid.eq_1
@[simp] theorem n_kid_2 : ∀ (n : Nat) (o : Bool) (j : Int), Vi.kid (Vi.Kd.lst o) n (Vi.D.int j) = L2.ixN n j := Vi.kid.eq_2
@[simp] theorem n_toI_1 : ∀ (i : Int), Vi.toI (Vi.D.int i) = Option.some i := Vi.toI.eq_1
@[simp] theorem n_lst1_1 : ∀ (js : List Vi.D), Vi.lst1 (Vi.D.nd (Vi.Kd.lst Bool.true) js) = Option.some js := Vi.lst1.eq_1
@[simp] theorem n_lsto_1 : ∀ (js : List Vi.D) (o : Bool), Vi.lsto (Vi.D.nd (Vi.Kd.lst o) js) = Option.some js := Vi.lsto.eq_1
@[simp] theorem n_seqOf_1 : ∀ (js : List Vi.D), Vi.seqOf (Vi.D.nd Vi.Kd.tup js) = Option.some js := Vi.seqOf.eq_1
@[simp] theorem n_seqOf_2 : ∀ (js : List Vi.D) (o : Bool), Vi.seqOf (Vi.D.nd (Vi.Kd.lst o) js) = Option.some js := Vi.seqOf.eq_2
@[simp] theorem n_cop_1 : ∀ (x x_1 : Vi.D), Vi.cop Vi.Cop.eq x x_1 = if (Vi.okd 64 x && Vi.okd 64 x_1) = Bool.true then Option.some (Vi.deq x x_1) else Option.none := Vi.cop.eq_1
@[simp] theorem n_cop_2 : ∀ (x x_1 : Vi.D), Vi.cop Vi.Cop.ne x x_1 = if (Vi.okd 64 x && Vi.okd 64 x_1) = Bool.true then Option.some !Vi.deq x x_1 else Option.none := Vi.cop.eq_2
@[simp] theorem n_cop_3 : ∀ (a b : Int), Vi.cop Vi.Cop.lt (Vi.D.int a) (Vi.D.int b) = Option.some (Decidable.decide (a < b)) := Vi.cop.eq_3
@[simp] theorem n_cop_5 : ∀ (a b : Int), Vi.cop Vi.Cop.le (Vi.D.int a) (Vi.D.int b) = Option.some (Decidable.decide (a ≤ b)) := Vi.cop.eq_5
@[simp] theorem n_cop_7 : ∀ (a b : Int), Vi.cop Vi.Cop.gt (Vi.D.int a) (Vi.D.int b) = Option.some (Decidable.decide (b < a)) := Vi.cop.eq_7
@[simp] theorem n_cop_8 : ∀ (a b : Int), Vi.cop Vi.Cop.ge (Vi.D.int a) (Vi.D.int b) = Option.some (Decidable.decide (b ≤ a)) := Vi.cop.eq_8
@[simp] theorem n_cop_9 : ∀ (x : Vi.D), Vi.cop Vi.Cop.isn x Vi.D.non = Option.some (Decidable.decide (x = Vi.D.non)) := Vi.cop.eq_9
@[simp] theorem n_cop_10 : ∀ (x : Vi.D), Vi.cop Vi.Cop.non x Vi.D.non = Option.some !Decidable.decide (x = Vi.D.non) := Vi.cop.eq_10
@[simp] theorem n_cop_11 : ∀ (a b : Bool), Vi.cop Vi.Cop.isn (Vi.D.bl a) (Vi.D.bl b) = Option.some (Decidable.decide (a = b)) := Vi.cop.eq_11
@[simp] theorem n_cop_12 : ∀ (a b : Bool), Vi.cop Vi.Cop.non (Vi.D.bl a) (Vi.D.bl b) = Option.some !Decidable.decide (a = b) := Vi.cop.eq_12
@[simp] theorem n_cop_13 : ∀ (x : Vi.D) (xs : List Vi.D), Vi.cop Vi.Cop.isin x (Vi.D.nd Vi.Kd.tup xs) = if (Vi.flat x && xs.all Vi.flat) = Bool.true then Option.some (xs.any fun (y : Vi.D) => Vi.deq y x) else Option.none := Vi.cop.eq_13
@[simp] theorem n_cop_14 : ∀ (x : Vi.D) (xs : List Vi.D) (o : Bool), Vi.cop Vi.Cop.isin x (Vi.D.nd (Vi.Kd.lst o) xs) = if (Vi.flat x && xs.all Vi.flat) = Bool.true then Option.some (xs.any fun (y : Vi.D) => Vi.deq y x) else Option.none := Vi.cop.eq_14
@[simp] theorem n_cop_15 : ∀ (x : Vi.D) (xs : List Vi.D) (o : Bool) (ks : List L2.Key), Vi.cop Vi.Cop.isin x (Vi.D.nd (Vi.Kd.dK o ks) xs) = Option.none := Vi.cop.eq_15
@[simp] theorem n_cop_17 : ∀ (x : Vi.D) (xs : List Vi.D) (o : Bool) (c : Nat) (ns : List PySem.Str), Vi.cop Vi.Cop.isin x (Vi.D.nd (Vi.Kd.obj o c ns) xs) = Option.none := Vi.cop.eq_17
@[simp] theorem n_cop_18 : ∀ (x : Vi.D) (xs : List Vi.D), Vi.cop Vi.Cop.nin x (Vi.D.nd Vi.Kd.tup xs) = if (Vi.flat x && xs.all Vi.flat) = Bool.true then Option.some !xs.any fun (y : Vi.D) => Vi.deq y x else Option.none := Vi.cop.eq_18
@[simp] theorem n_cop_19 : ∀ (x : Vi.D) (xs : List Vi.D) (o : Bool), Vi.cop Vi.Cop.nin x (Vi.D.nd (Vi.Kd.lst o) xs) = if (Vi.flat x && xs.all Vi.flat) = Bool.true then Option.some !xs.any fun (y : Vi.D) => Vi.deq y x else Option.none := Vi.cop.eq_19
@[simp] theorem n_cop_20 : ∀ (x : Vi.D) (xs : List Vi.D) (o : Bool) (ks : List L2.Key), Vi.cop Vi.Cop.nin x (Vi.D.nd (Vi.Kd.dK o ks) xs) = Option.none := Vi.cop.eq_20
@[simp] theorem n_cop_22 : ∀ (x : Vi.D) (xs : List Vi.D) (o : Bool) (c : Nat) (ns : List PySem.Str), Vi.cop Vi.Cop.nin x (Vi.D.nd (Vi.Kd.obj o c ns) xs) = Option.none := Vi.cop.eq_22
@[simp] theorem n_outsOf_1 : ∀ (x : List Vi.D), Vi.outsOf [] x = Option.some [] := Vi.outsOf.eq_1
@[simp] theorem n_outsOf_2 : ∀ (ms : List Bool) (env : List Vi.D), Vi.outsOf (Bool.true :: ms) (Vi.D.hole :: env) = Option.none := Vi.outsOf.eq_2
@[simp] theorem n_outsOf_4 : ∀ (ms : List Bool) (head : Vi.D) (env : List Vi.D), Vi.outsOf (Bool.false :: ms) (head :: env) = Vi.outsOf ms env := Vi.outsOf.eq_4
@[simp] theorem n_outsOf_5 : ∀ (head : Bool) (tail : List Bool), Vi.outsOf (head :: tail) [] = Option.none := Vi.outsOf.eq_5
@[simp] theorem n_cut_1 : ∀ (lo hi : Option Int) (js : List Vi.D) (o : Bool), Vi.cut (Vi.D.nd (Vi.Kd.lst o) js) lo hi = if Vi.imms js = Bool.true then Option.some (Vi.D.nd (Vi.Kd.lst Bool.true) (Vi.cutL js lo hi)) else Option.none := Vi.cut.eq_1
@[simp] theorem n_cut_2 : ∀ (lo hi : Option Int) (js : List Vi.D), Vi.cut (Vi.D.nd Vi.Kd.tup js) lo hi = if Vi.imms js = Bool.true then Option.some (Vi.D.nd Vi.Kd.tup (Vi.cutL js lo hi)) else Option.none := Vi.cut.eq_2
@[simp] theorem n_zipS_1 : ∀ (xs ys : List Vi.D), Vi.zipS (Vi.D.nd Vi.Kd.tup xs) (Vi.D.nd Vi.Kd.tup ys) = if (Vi.imms xs && Vi.imms ys) = Bool.true then Option.some (Vi.zipD xs ys) else Option.none := Vi.zipS.eq_1
@[simp] theorem n_zipS_2 : ∀ (xs ys : List Vi.D) (o o_1 : Bool), Vi.zipS (Vi.D.nd (Vi.Kd.lst o) xs) (Vi.D.nd (Vi.Kd.lst o_1) ys) = if (Vi.imms xs && Vi.imms ys) = Bool.true then Option.some (Vi.zipD xs ys) else Option.none := Vi.zipS.eq_2
@[simp] theorem n_zipS_3 : ∀ (xs ys : List Vi.D) (o : Bool), Vi.zipS (Vi.D.nd Vi.Kd.tup xs) (Vi.D.nd (Vi.Kd.lst o) ys) = if (Vi.imms xs && Vi.imms ys) = Bool.true then Option.some (Vi.zipD xs ys) else Option.none := Vi.zipS.eq_3
@[simp] theorem n_zipS_4 : ∀ (xs ys : List Vi.D) (o : Bool), Vi.zipS (Vi.D.nd (Vi.Kd.lst o) xs) (Vi.D.nd Vi.Kd.tup ys) = if (Vi.imms xs && Vi.imms ys) = Bool.true then Option.some (Vi.zipD xs ys) else Option.none := Vi.zipS.eq_4
@[simp] theorem n_keyOf_1 : ∀ (i : Int), Vi.keyOf (Vi.D.int i) = Option.some (Sum.inl i) := Vi.keyOf.eq_1
@[simp] theorem n_keyOf_2 : ∀ (x_1 : PySem.Str), Vi.keyOf (Vi.D.str x_1) = Option.some (Sum.inr x_1) := Vi.keyOf.eq_2
@[simp] theorem n_keysOf_1 : Vi.keysOf [] = Option.some [] := Vi.keysOf.eq_1
@[simp] theorem n_keyQ_1 : ∀ (js : List Vi.D), Vi.keyQ (Vi.D.nd Vi.Kd.tup js) = Vi.keysOf js := Vi.keyQ.eq_1
@[simp] theorem n_dctA_1 : ∀ (js : List Vi.D) (o : Bool) (ks : List (List L2.Key)), Vi.dctA (Vi.D.nd (Vi.Kd.dT o ks) js) = Option.some (ks, js) := Vi.dctA.eq_1
@[simp] theorem n_dct1_1 : ∀ (js : List Vi.D) (ks : List (List L2.Key)), Vi.dct1 (Vi.D.nd (Vi.Kd.dT Bool.true ks) js) = Option.some (ks, js) := Vi.dct1.eq_1
@[simp] theorem n_dkeys_1 : ∀ (js : List Vi.D) (o : Bool) (ks : List (List L2.Key)), Vi.dkeys (Vi.D.nd (Vi.Kd.dT o ks) js) = Option.some (List.map Vi.keyD ks) := Vi.dkeys.eq_1
@[simp] theorem n_kD_1 : ∀ (i : Int), Vi.kD (Sum.inl i) = Vi.D.int i := Vi.kD.eq_1
@[simp] theorem n_kD_2 : ∀ (x_1 : PySem.Str), Vi.kD (Sum.inr x_1) = Vi.D.str x_1 := Vi.kD.eq_2
@[simp] theorem n_keyD_1 : ∀ (k : List L2.Key), Vi.keyD k = Vi.D.nd Vi.Kd.tup (List.map Vi.kD k) := Vi.keyD.eq_1
@[simp] theorem n_alk_1 : ∀ (i i_1 : Int), Vi.alk (Vi.D.int i) (Vi.D.int i_1) = Bool.true := Vi.alk.eq_1
@[simp] theorem n_alk_2 : ∀ (xs ys : List Vi.D), Vi.alk (Vi.D.nd Vi.Kd.tup xs) (Vi.D.nd Vi.Kd.tup ys) = Vi.alks xs ys := Vi.alk.eq_2
@[simp] theorem n_alks_1 : Vi.alks [] [] = Bool.true := Vi.alks.eq_1
@[simp] theorem n_alks_2 : ∀ (x_2 : Vi.D) (xs : List Vi.D) (y : Vi.D) (ys : List Vi.D), Vi.alks (x_2 :: xs) (y :: ys) = (Vi.alk x_2 y && Vi.alks xs ys) := Vi.alks.eq_2
@[simp] theorem n_tupN_1 : ∀ (js : List Vi.D), Vi.tupN (Vi.D.nd Vi.Kd.tup js) = !js.isEmpty := Vi.tupN.eq_1
@[simp] theorem v_int {i : Int} : vw (.int i) = false := rfl
@[simp] theorem w_int {i : Int} {l : Bool} {d : D} {env : List D} : re (.int i) l d env = some d := rfl
@[simp] theorem x_int {i : Int} {l : Bool} {d : D} {env : List D} : reV (.int i) l d env = some d := rfl
@[simp] theorem on_int {i : Int} {d : D} : own (.int i) d = some d := rfl
@[simp] theorem i_int {i : Int} : isVar (.int i) = false := rfl
@[simp] theorem wk_int {i : Int} {d : D} : wkd (.int i) d = true := rfl
@[simp] theorem v_bl {b : Bool} : vw (.bl b) = false := rfl
@[simp] theorem w_bl {b : Bool} {l : Bool} {d : D} {env : List D} : re (.bl b) l d env = some d := rfl
@[simp] theorem x_bl {b : Bool} {l : Bool} {d : D} {env : List D} : reV (.bl b) l d env = some d := rfl
@[simp] theorem on_bl {b : Bool} {d : D} : own (.bl b) d = some d := rfl
@[simp] theorem i_bl {b : Bool} : isVar (.bl b) = false := rfl
@[simp] theorem wk_bl {b : Bool} {d : D} : wkd (.bl b) d = true := rfl
@[simp] theorem v_non : vw .non = false := rfl
@[simp] theorem w_non {l : Bool} {d : D} {env : List D} : re .non l d env = some d := rfl
@[simp] theorem x_non {l : Bool} {d : D} {env : List D} : reV .non l d env = some d := rfl
@[simp] theorem on_non {d : D} : own .non d = some d := rfl
@[simp] theorem i_non : isVar .non = false := rfl
@[simp] theorem wk_non {d : D} : wkd .non d = true := rfl
@[simp] theorem v_str {x : Str} : vw (.str x) = false := rfl
@[simp] theorem w_str {x : Str} {l : Bool} {d : D} {env : List D} : re (.str x) l d env = some d := rfl
@[simp] theorem x_str {x : Str} {l : Bool} {d : D} {env : List D} : reV (.str x) l d env = some d := rfl
@[simp] theorem on_str {x : Str} {d : D} : own (.str x) d = some d := rfl
@[simp] theorem i_str {x : Str} : isVar (.str x) = false := rfl
@[simp] theorem wk_str {x : Str} {d : D} : wkd (.str x) d = true := rfl
@[simp] theorem v_pow {b e : Nat} : vw (.pow b e) = false := rfl
@[simp] theorem w_pow {b e : Nat} {l : Bool} {d : D} {env : List D} : re (.pow b e) l d env = some d := rfl
@[simp] theorem x_pow {b e : Nat} {l : Bool} {d : D} {env : List D} : reV (.pow b e) l d env = some d := rfl
@[simp] theorem on_pow {b e : Nat} {d : D} : own (.pow b e) d = some d := rfl
@[simp] theorem i_pow {b e : Nat} : isVar (.pow b e) = false := rfl
@[simp] theorem wk_pow {b e : Nat} {d : D} : wkd (.pow b e) d = true := rfl
@[simp] theorem v_glo {x : Str} {d : D} : vw (.glo x d) = false := rfl
@[simp] theorem w_glo {x : Str} {d : D} {l : Bool} {d : D} {env : List D} : re (.glo x d) l d env = some d := rfl
@[simp] theorem x_glo {x : Str} {d : D} {l : Bool} {d : D} {env : List D} : reV (.glo x d) l d env = some d := rfl
@[simp] theorem on_glo {x : Str} {d : D} {d : D} : own (.glo x d) d = some d := rfl
@[simp] theorem i_glo {x : Str} {d : D} : isVar (.glo x d) = false := rfl
@[simp] theorem wk_glo {x : Str} {d : D} {d : D} : wkd (.glo x d) d = true := rfl
@[simp] theorem v_mv {i : Nat} : vw (.mv i) = false := rfl
@[simp] theorem w_mv {i : Nat} {l : Bool} {d : D} {env : List D} : re (.mv i) l d env = some d := rfl
@[simp] theorem x_mv {i : Nat} {l : Bool} {d : D} {env : List D} : reV (.mv i) l d env = some d := rfl
@[simp] theorem on_mv {i : Nat} {d : D} : own (.mv i) d = some d := rfl
@[simp] theorem i_mv {i : Nat} : isVar (.mv i) = false := rfl
@[simp] theorem wk_mv {i : Nat} {d : D} : wkd (.mv i) d = true := rfl
@[simp] theorem v_fz {i : Nat} {e : E} : vw (.fz i e) = false := rfl
@[simp] theorem w_fz {i : Nat} {e : E} {l : Bool} {d : D} {env : List D} : re (.fz i e) l d env = some d := rfl
@[simp] theorem x_fz {i : Nat} {e : E} {l : Bool} {d : D} {env : List D} : reV (.fz i e) l d env = some d := rfl
@[simp] theorem on_fz {i : Nat} {e : E} {d : D} : own (.fz i e) d = some d := rfl
@[simp] theorem i_fz {i : Nat} {e : E} : isVar (.fz i e) = false := rfl
@[simp] theorem wk_fz {i : Nat} {e : E} {d : D} : wkd (.fz i e) d = true := rfl
@[simp] theorem v_neg {a : E} : vw (.neg a) = false := rfl
@[simp] theorem w_neg {a : E} {l : Bool} {d : D} {env : List D} : re (.neg a) l d env = some d := rfl
@[simp] theorem x_neg {a : E} {l : Bool} {d : D} {env : List D} : reV (.neg a) l d env = some d := rfl
@[simp] theorem on_neg {a : E} {d : D} : own (.neg a) d = some d := rfl
@[simp] theorem i_neg {a : E} : isVar (.neg a) = false := rfl
@[simp] theorem wk_neg {a : E} {d : D} : wkd (.neg a) d = true := rfl
@[simp] theorem v_bin {o : Bop} {a b : E} : vw (.bin o a b) = false := rfl
@[simp] theorem w_bin {o : Bop} {a b : E} {l : Bool} {d : D} {env : List D} : re (.bin o a b) l d env = some d := rfl
@[simp] theorem x_bin {o : Bop} {a b : E} {l : Bool} {d : D} {env : List D} : reV (.bin o a b) l d env = some d := rfl
@[simp] theorem on_bin {o : Bop} {a b : E} {d : D} : own (.bin o a b) d = some d := rfl
@[simp] theorem i_bin {o : Bop} {a b : E} : isVar (.bin o a b) = false := rfl
@[simp] theorem wk_bin {o : Bop} {a b : E} {d : D} : wkd (.bin o a b) d = true := rfl
@[simp] theorem v_cmp {o : Cop} {a b : E} : vw (.cmp o a b) = false := rfl
@[simp] theorem w_cmp {o : Cop} {a b : E} {l : Bool} {d : D} {env : List D} : re (.cmp o a b) l d env = some d := rfl
@[simp] theorem x_cmp {o : Cop} {a b : E} {l : Bool} {d : D} {env : List D} : reV (.cmp o a b) l d env = some d := rfl
@[simp] theorem on_cmp {o : Cop} {a b : E} {d : D} : own (.cmp o a b) d = some d := rfl
@[simp] theorem i_cmp {o : Cop} {a b : E} : isVar (.cmp o a b) = false := rfl
@[simp] theorem wk_cmp {o : Cop} {a b : E} {d : D} : wkd (.cmp o a b) d = true := rfl
@[simp] theorem v_chain {o p : Cop} {a b c : E} : vw (.chain o p a b c) = false := rfl
@[simp] theorem w_chain {o p : Cop} {a b c : E} {l : Bool} {d : D} {env : List D} : re (.chain o p a b c) l d env = some d := rfl
@[simp] theorem x_chain {o p : Cop} {a b c : E} {l : Bool} {d : D} {env : List D} : reV (.chain o p a b c) l d env = some d := rfl
@[simp] theorem on_chain {o p : Cop} {a b c : E} {d : D} : own (.chain o p a b c) d = some d := rfl
@[simp] theorem i_chain {o p : Cop} {a b c : E} : isVar (.chain o p a b c) = false := rfl
@[simp] theorem wk_chain {o p : Cop} {a b c : E} {d : D} : wkd (.chain o p a b c) d = true := rfl
@[simp] theorem v_not {a : E} : vw (.not a) = false := rfl
@[simp] theorem w_not {a : E} {l : Bool} {d : D} {env : List D} : re (.not a) l d env = some d := rfl
@[simp] theorem x_not {a : E} {l : Bool} {d : D} {env : List D} : reV (.not a) l d env = some d := rfl
@[simp] theorem on_not {a : E} {d : D} : own (.not a) d = some d := rfl
@[simp] theorem i_not {a : E} : isVar (.not a) = false := rfl
@[simp] theorem wk_not {a : E} {d : D} : wkd (.not a) d = true := rfl
@[simp] theorem v_and {a : Es} : vw (.and a) = false := rfl
@[simp] theorem w_and {a : Es} {l : Bool} {d : D} {env : List D} : re (.and a) l d env = some d := rfl
@[simp] theorem x_and {a : Es} {l : Bool} {d : D} {env : List D} : reV (.and a) l d env = some d := rfl
@[simp] theorem on_and {a : Es} {d : D} : own (.and a) d = some d := rfl
@[simp] theorem i_and {a : Es} : isVar (.and a) = false := rfl
@[simp] theorem wk_and {a : Es} {d : D} : wkd (.and a) d = true := rfl
@[simp] theorem v_or {a : Es} : vw (.or a) = false := rfl
@[simp] theorem w_or {a : Es} {l : Bool} {d : D} {env : List D} : re (.or a) l d env = some d := rfl
@[simp] theorem x_or {a : Es} {l : Bool} {d : D} {env : List D} : reV (.or a) l d env = some d := rfl
@[simp] theorem on_or {a : Es} {d : D} : own (.or a) d = some d := rfl
@[simp] theorem i_or {a : Es} : isVar (.or a) = false := rfl
@[simp] theorem wk_or {a : Es} {d : D} : wkd (.or a) d = true := rfl
@[simp] theorem v_ite {c a b : E} : vw (.ite c a b) = false := rfl
@[simp] theorem w_ite {c a b : E} {l : Bool} {d : D} {env : List D} : re (.ite c a b) l d env = some d := rfl
@[simp] theorem x_ite {c a b : E} {l : Bool} {d : D} {env : List D} : reV (.ite c a b) l d env = some d := rfl
@[simp] theorem on_ite {c a b : E} {d : D} : own (.ite c a b) d = some d := rfl
@[simp] theorem i_ite {c a b : E} : isVar (.ite c a b) = false := rfl
@[simp] theorem wk_ite {c a b : E} {d : D} : wkd (.ite c a b) d = true := rfl
@[simp] theorem v_tup {a : Es} : vw (.tup a) = false := rfl
@[simp] theorem w_tup {a : Es} {l : Bool} {d : D} {env : List D} : re (.tup a) l d env = some d := rfl
@[simp] theorem x_tup {a : Es} {l : Bool} {d : D} {env : List D} : reV (.tup a) l d env = some d := rfl
@[simp] theorem on_tup {a : Es} {d : D} : own (.tup a) d = some d := rfl
@[simp] theorem i_tup {a : Es} : isVar (.tup a) = false := rfl
@[simp] theorem wk_tup {a : Es} {d : D} : wkd (.tup a) d = true := rfl
@[simp] theorem v_lst {a : Es} : vw (.lst a) = false := rfl
@[simp] theorem w_lst {a : Es} {l : Bool} {d : D} {env : List D} : re (.lst a) l d env = some d := rfl
@[simp] theorem x_lst {a : Es} {l : Bool} {d : D} {env : List D} : reV (.lst a) l d env = some d := rfl
@[simp] theorem on_lst {a : Es} {d : D} : own (.lst a) d = some d := rfl
@[simp] theorem i_lst {a : Es} : isVar (.lst a) = false := rfl
@[simp] theorem wk_lst {a : Es} {d : D} : wkd (.lst a) d = true := rfl
@[simp] theorem v_dct {t : Bool} : vw (.dct t) = false := rfl
@[simp] theorem w_dct {t : Bool} {l : Bool} {d : D} {env : List D} : re (.dct t) l d env = some d := rfl
@[simp] theorem x_dct {t : Bool} {l : Bool} {d : D} {env : List D} : reV (.dct t) l d env = some d := rfl
@[simp] theorem on_dct {t : Bool} {d : D} : own (.dct t) d = some d := rfl
@[simp] theorem i_dct {t : Bool} : isVar (.dct t) = false := rfl
@[simp] theorem wk_dct {t : Bool} {d : D} : wkd (.dct t) d = true := rfl
@[simp] theorem v_dget {a k x : E} : vw (.dget a k x) = false := rfl
@[simp] theorem w_dget {a k x : E} {l : Bool} {d : D} {env : List D} : re (.dget a k x) l d env = some d := rfl
@[simp] theorem x_dget {a k x : E} {l : Bool} {d : D} {env : List D} : reV (.dget a k x) l d env = some d := rfl
@[simp] theorem on_dget {a k x : E} {d : D} : own (.dget a k x) d = some d := rfl
@[simp] theorem i_dget {a k x : E} : isVar (.dget a k x) = false := rfl
@[simp] theorem wk_dget {a k x : E} {d : D} : wkd (.dget a k x) d = true := rfl
@[simp] theorem v_sl10 {a b : E} : vw (.sl10 a b) = false := rfl
@[simp] theorem w_sl10 {a b : E} {l : Bool} {d : D} {env : List D} : re (.sl10 a b) l d env = some d := rfl
@[simp] theorem x_sl10 {a b : E} {l : Bool} {d : D} {env : List D} : reV (.sl10 a b) l d env = some d := rfl
@[simp] theorem on_sl10 {a b : E} {d : D} : own (.sl10 a b) d = some d := rfl
@[simp] theorem i_sl10 {a b : E} : isVar (.sl10 a b) = false := rfl
@[simp] theorem wk_sl10 {a b : E} {d : D} : wkd (.sl10 a b) d = true := rfl
@[simp] theorem v_sl01 {a b : E} : vw (.sl01 a b) = false := rfl
@[simp] theorem w_sl01 {a b : E} {l : Bool} {d : D} {env : List D} : re (.sl01 a b) l d env = some d := rfl
@[simp] theorem x_sl01 {a b : E} {l : Bool} {d : D} {env : List D} : reV (.sl01 a b) l d env = some d := rfl
@[simp] theorem on_sl01 {a b : E} {d : D} : own (.sl01 a b) d = some d := rfl
@[simp] theorem i_sl01 {a b : E} : isVar (.sl01 a b) = false := rfl
@[simp] theorem wk_sl01 {a b : E} {d : D} : wkd (.sl01 a b) d = true := rfl
@[simp] theorem v_sl11 {a b c : E} : vw (.sl11 a b c) = false := rfl
@[simp] theorem w_sl11 {a b c : E} {l : Bool} {d : D} {env : List D} : re (.sl11 a b c) l d env = some d := rfl
@[simp] theorem x_sl11 {a b c : E} {l : Bool} {d : D} {env : List D} : reV (.sl11 a b c) l d env = some d := rfl
@[simp] theorem on_sl11 {a b c : E} {d : D} : own (.sl11 a b c) d = some d := rfl
@[simp] theorem i_sl11 {a b c : E} : isVar (.sl11 a b c) = false := rfl
@[simp] theorem wk_sl11 {a b c : E} {d : D} : wkd (.sl11 a b c) d = true := rfl
@[simp] theorem v_slr {a : E} : vw (.slr a) = false := rfl
@[simp] theorem w_slr {a : E} {l : Bool} {d : D} {env : List D} : re (.slr a) l d env = some d := rfl
@[simp] theorem x_slr {a : E} {l : Bool} {d : D} {env : List D} : reV (.slr a) l d env = some d := rfl
@[simp] theorem on_slr {a : E} {d : D} : own (.slr a) d = some d := rfl
@[simp] theorem i_slr {a : E} : isVar (.slr a) = false := rfl
@[simp] theorem wk_slr {a : E} {d : D} : wkd (.slr a) d = true := rfl
@[simp] theorem v_b1 {o : B1} {a : E} : vw (.b1 o a) = false := rfl
@[simp] theorem w_b1 {o : B1} {a : E} {l : Bool} {d : D} {env : List D} : re (.b1 o a) l d env = some d := rfl
@[simp] theorem x_b1 {o : B1} {a : E} {l : Bool} {d : D} {env : List D} : reV (.b1 o a) l d env = some d := rfl
@[simp] theorem on_b1 {o : B1} {a : E} {d : D} : own (.b1 o a) d = some d := rfl
@[simp] theorem i_b1 {o : B1} {a : E} : isVar (.b1 o a) = false := rfl
@[simp] theorem wk_b1 {o : B1} {a : E} {d : D} : wkd (.b1 o a) d = true := rfl
@[simp] theorem v_b2 {o : B2} {a b : E} : vw (.b2 o a b) = false := rfl
@[simp] theorem w_b2 {o : B2} {a b : E} {l : Bool} {d : D} {env : List D} : re (.b2 o a b) l d env = some d := rfl
@[simp] theorem x_b2 {o : B2} {a b : E} {l : Bool} {d : D} {env : List D} : reV (.b2 o a b) l d env = some d := rfl
@[simp] theorem on_b2 {o : B2} {a b : E} {d : D} : own (.b2 o a b) d = some d := rfl
@[simp] theorem i_b2 {o : B2} {a b : E} : isVar (.b2 o a b) = false := rfl
@[simp] theorem wk_b2 {o : B2} {a b : E} {d : D} : wkd (.b2 o a b) d = true := rfl
@[simp] theorem v_isi {a : E} {ts : List Ty} : vw (.isi a ts) = false := rfl
@[simp] theorem w_isi {a : E} {ts : List Ty} {l : Bool} {d : D} {env : List D} : re (.isi a ts) l d env = some d := rfl
@[simp] theorem x_isi {a : E} {ts : List Ty} {l : Bool} {d : D} {env : List D} : reV (.isi a ts) l d env = some d := rfl
@[simp] theorem on_isi {a : E} {ts : List Ty} {d : D} : own (.isi a ts) d = some d := rfl
@[simp] theorem i_isi {a : E} {ts : List Ty} : isVar (.isi a ts) = false := rfl
@[simp] theorem wk_isi {a : E} {ts : List Ty} {d : D} : wkd (.isi a ts) d = true := rfl
@[simp] theorem v_call {f : Nat} {as : As} : vw (.call f as) = false := rfl
@[simp] theorem w_call {f : Nat} {as : As} {l : Bool} {d : D} {env : List D} : re (.call f as) l d env = some d := rfl
@[simp] theorem x_call {f : Nat} {as : As} {l : Bool} {d : D} {env : List D} : reV (.call f as) l d env = some d := rfl
@[simp] theorem on_call {f : Nat} {as : As} {d : D} : own (.call f as) d = some d := rfl
@[simp] theorem i_call {f : Nat} {as : As} : isVar (.call f as) = false := rfl
@[simp] theorem wk_call {f : Nat} {as : As} {d : D} : wkd (.call f as) d = true := rfl
@[simp] theorem v_callO {f : Nat} {a : E} : vw (.callO f a) = false := rfl
@[simp] theorem w_callO {f : Nat} {a : E} {l : Bool} {d : D} {env : List D} : re (.callO f a) l d env = some d := rfl
@[simp] theorem x_callO {f : Nat} {a : E} {l : Bool} {d : D} {env : List D} : reV (.callO f a) l d env = some d := rfl
@[simp] theorem on_callO {f : Nat} {a : E} {d : D} : own (.callO f a) d = some d := rfl
@[simp] theorem i_callO {f : Nat} {a : E} : isVar (.callO f a) = false := rfl
@[simp] theorem wk_callO {f : Nat} {a : E} {d : D} : wkd (.callO f a) d = true := rfl
@[simp] theorem v_mut0 {m : M0} {p : E} : vw (.mut0 m p) = false := rfl
@[simp] theorem w_mut0 {m : M0} {p : E} {l : Bool} {d : D} {env : List D} : re (.mut0 m p) l d env = some d := rfl
@[simp] theorem x_mut0 {m : M0} {p : E} {l : Bool} {d : D} {env : List D} : reV (.mut0 m p) l d env = some d := rfl
@[simp] theorem on_mut0 {m : M0} {p : E} {d : D} : own (.mut0 m p) d = some d := rfl
@[simp] theorem i_mut0 {m : M0} {p : E} : isVar (.mut0 m p) = false := rfl
@[simp] theorem wk_mut0 {m : M0} {p : E} {d : D} : wkd (.mut0 m p) d = true := rfl
@[simp] theorem v_mut1 {m : M1} {p a : E} : vw (.mut1 m p a) = false := rfl
@[simp] theorem w_mut1 {m : M1} {p a : E} {l : Bool} {d : D} {env : List D} : re (.mut1 m p a) l d env = some d := rfl
@[simp] theorem x_mut1 {m : M1} {p a : E} {l : Bool} {d : D} {env : List D} : reV (.mut1 m p a) l d env = some d := rfl
@[simp] theorem on_mut1 {m : M1} {p a : E} {d : D} : own (.mut1 m p a) d = some d := rfl
@[simp] theorem i_mut1 {m : M1} {p a : E} : isVar (.mut1 m p a) = false := rfl
@[simp] theorem wk_mut1 {m : M1} {p a : E} {d : D} : wkd (.mut1 m p a) d = true := rfl
@[simp] theorem v_comp {w : List Nat} {t : T} {it : I} {e : E} : vw (.comp w t it e) = false := rfl
@[simp] theorem w_comp {w : List Nat} {t : T} {it : I} {e : E} {l : Bool} {d : D} {env : List D} : re (.comp w t it e) l d env = some d := rfl
@[simp] theorem x_comp {w : List Nat} {t : T} {it : I} {e : E} {l : Bool} {d : D} {env : List D} : reV (.comp w t it e) l d env = some d := rfl
@[simp] theorem on_comp {w : List Nat} {t : T} {it : I} {e : E} {d : D} : own (.comp w t it e) d = some d := rfl
@[simp] theorem i_comp {w : List Nat} {t : T} {it : I} {e : E} : isVar (.comp w t it e) = false := rfl
@[simp] theorem wk_comp {w : List Nat} {t : T} {it : I} {e : E} {d : D} : wkd (.comp w t it e) d = true := rfl
@[simp] theorem v_compI {w : List Nat} {t : T} {it : I} {c e : E} : vw (.compI w t it c e) = false := rfl
@[simp] theorem w_compI {w : List Nat} {t : T} {it : I} {c e : E} {l : Bool} {d : D} {env : List D} : re (.compI w t it c e) l d env = some d := rfl
@[simp] theorem x_compI {w : List Nat} {t : T} {it : I} {c e : E} {l : Bool} {d : D} {env : List D} : reV (.compI w t it c e) l d env = some d := rfl
@[simp] theorem on_compI {w : List Nat} {t : T} {it : I} {c e : E} {d : D} : own (.compI w t it c e) d = some d := rfl
@[simp] theorem i_compI {w : List Nat} {t : T} {it : I} {c e : E} : isVar (.compI w t it c e) = false := rfl
@[simp] theorem wk_compI {w : List Nat} {t : T} {it : I} {c e : E} {d : D} : wkd (.compI w t it c e) d = true := rfl
@[simp] theorem i_idx {a b : E} : isVar (.idx a b) = false := rfl
@[simp] theorem w_var_t {i : Nat} {d : D} {env : List D} : re (.var i) true d env = look env i := rfl
@[simp] theorem x_var_t {i : Nat} {d : D} {env : List D} : reV (.var i) true d env = look env i := rfl
@[simp] theorem w_f {a : E} {d : D} {env : List D} : re a false d env = some d := by
  unfold re; rw [Bool.and_false]; rfl
@[simp] theorem x_f {a : E} {d : D} {env : List D} : reV a false d env = some d := by
  unfold reV; rw [Bool.and_false]; rfl
@[simp] theorem w_idx_t {a b : E} {d : D} {env : List D} : re (.idx a b) true d env = if vw a then (if imm d then some d else none) else some d := by
  unfold re; rw [Bool.and_true]; rfl
@[simp] theorem on_var {i : Nat} {d : D} : own (.var i) d = if imm d then some d else none := rfl
@[simp] theorem on_idx {a b : E} {d : D} : own (.idx a b) d = if vw a then (if imm d then some d else none) else some d := rfl
@[simp] theorem l_int {i : Int} {l : List D} : look (.int i :: l) 0 = some (.int i) := rfl
@[simp] theorem l_bl {i : Bool} {l : List D} : look (.bl i :: l) 0 = some (.bl i) := rfl
@[simp] theorem l_str {i : Str} {l : List D} : look (.str i :: l) 0 = some (.str i) := rfl
@[simp] theorem l_non {l : List D} : look (.non :: l) 0 = some .non := rfl
@[simp] theorem l_nd {k : Kd} {xs l : List D} : look (.nd k xs :: l) 0 = some (.nd k xs) := rfl
@[simp] theorem l_hole {l : List D} : look (.hole :: l) 0 = none := rfl
@[simp] theorem l_succ {d : D} {n : Nat} {l : List D} : look (d :: l) (n + 1) = look l n := rfl
@[simp] theorem m_ap {xs : List D} {d : D} : m1op .append xs d = if xs.length < 16777216 then some (xs ++ [d], .non) else none := rfl
@[simp] theorem s_tupT {xs : List D} : seqOf (.nd .tup xs) = some xs := rfl
@[simp] theorem s_tupL {o : Bool} {xs : List D} : seqOf (.nd (.lst o) xs) = some xs := rfl
@[simp] theorem s_iT {xs : List D} : seqI (.nd .tup xs) = if imms xs then some xs else none := rfl
@[simp] theorem s_iL {o : Bool} {xs : List D} : seqI (.nd (.lst o) xs) = if imms xs then some xs else none := rfl
@[simp] theorem s_lL {o : Bool} {xs : List D} : lstI (.nd (.lst o) xs) = if imms xs then some xs else none := rfl
@[simp] theorem t_toI {i : Int} : toI (.int i) = some i := rfl
@[simp] theorem t_lst1 {xs : List D} : lst1 (.nd (.lst true) xs) = some xs := rfl
@[simp] theorem t_lsto {o : Bool} {xs : List D} : lsto (.nd (.lst o) xs) = some xs := rfl
@[simp] theorem b_tupT {xs : List D} : b1op .tup (.nd .tup xs) = if imms xs then some (.nd .tup xs) else none := rfl
@[simp] theorem b_tupL {o : Bool} {xs : List D} : b1op .tup (.nd (.lst o) xs) = if imms xs then some (.nd .tup xs) else none := rfl
@[simp] theorem b_lisT {xs : List D} : b1op .lis (.nd .tup xs) = if imms xs then some (.nd (.lst true) xs) else none := rfl
@[simp] theorem b_lisL {o : Bool} {xs : List D} : b1op .lis (.nd (.lst o) xs) = if imms xs then some (.nd (.lst true) xs) else none := rfl
@[simp] theorem b_all {α : Type} {p : α → Bool} {o : Bool} {l : List α} : b1op .all (.nd (.lst o) (l.map fun a => .bl (p a))) = some (.bl (l.all p)) := by
  obtain ⟨a, h, rfl⟩ := o_all (K := fun d => d = .bl (l.all p)) (p := p) (o := o) (l := l) rfl
  exact h
@[simp] theorem b_any {α : Type} {p : α → Bool} {o : Bool} {l : List α} : b1op .any (.nd (.lst o) (l.map fun a => .bl (p a))) = some (.bl (l.any p)) := by
  obtain ⟨a, h, rfl⟩ := Vi.o_any (K := fun d => d = .bl (l.any p)) (p := p) (o := o) (l := l) rfl
  exact h
@[simp] theorem b_sum {α : Type} {p : α → Int} {o : Bool} {l : List α} : b1op .sum (.nd (.lst o) (l.map fun a => .int (p a))) = some (.int (l.map p).sum) := by
  obtain ⟨a, h, rfl⟩ := Vi.o_sum (K := fun d => d = .int (l.map p).sum) (p := p) (o := o) (l := l) rfl
  exact h
@[simp] theorem b_sumI {o : Bool} {l : List Int} : b1op .sum (.nd (.lst o) (l.map D.int)) = some (.int l.sum) := by
  obtain ⟨a, h, rfl⟩ := Vi.o_sumI (K := fun d => d = .int l.sum) (o := o) (l := l) rfl
  exact h
@[simp] theorem c_eqI {a b : Int} : cop .eq (.int a) (.int b) = some (decide (a = b)) := rfl
@[simp] theorem c_neI {a b : Int} : cop .ne (.int a) (.int b) = some (!decide (a = b)) := rfl
theorem c_eq {a b : D} : cop .eq a b = if okd 64 a && okd 64 b then some (deq a b) else none := rfl
theorem c_ne {a b : D} : cop .ne a b = if okd 64 a && okd 64 b then some (!deq a b) else none := rfl
@[simp] theorem c_isn {a : D} : cop .isn a .non = some (decide (a = .non)) := rfl
@[simp] theorem c_non {a : D} : cop .non a .non = some (!decide (a = .non)) := rfl
@[simp] theorem c_isnB {a b : Bool} : cop .isn (.bl a) (.bl b) = some (decide (a = b)) := rfl
@[simp] theorem c_nonB {a b : Bool} : cop .non (.bl a) (.bl b) = some (!decide (a = b)) := rfl
@[simp] theorem k_atT {n : Nat} {i : Int} : kid .tup n (.int i) = ixN n i := rfl
@[simp] theorem k_atL {o : Bool} {n : Nat} {i : Int} : kid (.lst o) n (.int i) = ixN n i := rfl
@[simp] theorem pt_var {Δ : Dl} {i : Nat} {env : List D} : pth Δ (.var i) env = some (i, []) := rfl
@[simp] theorem pt_nil {Δ : Dl} {env : List D} : pths Δ .nil env = some [] := rfl
@[simp] theorem pt_ro {Δ : Dl} {e : E} {r : As} {env : List D} : pths Δ (.ro e r) env = pths Δ r env := rfl
@[simp] theorem pt_mu {Δ : Dl} {i : Nat} {r : As} {env : List D} : pths Δ (.mu (.var i) r) env = (pths Δ r env).map fun l => (i, []) :: l := by
  show (match pths Δ r env with
      | some l => some ((i, []) :: l)
      | none => none) = _
  cases pths Δ r env <;> rfl
@[simp] theorem a_nil {ms : List Nat} : apart .nil [] ms = some true := rfl
@[simp] theorem a_mu {p : E} {r : As} {l : List (Option D)} {ms : List Nat} : apart (.mu p r) (none :: l) ms = apart r l ms := rfl
@[simp] theorem a_ro {e : E} {r : As} {d : D} {l : List (Option D)} {ms : List Nat} : apart (.ro e r) (some d :: l) ms = (apart r l ms).bind fun b => if vw e && !imm d then (if ms.contains (rt e) then none else some false) else some b := by
  show (match apart r l ms with
    | some b => if vw e && !imm d then (if ms.contains (rt e) then none else some false) else some b
    | none => none) = _
  cases apart r l ms <;> rfl
@[simp] theorem d_nil {env : List D} : argsD env [] [] = some [] := rfl
@[simp] theorem d_ro {env : List D} {d : D} {r : List (Option D)} {ps : List (Nat × List Nat)} : argsD env (some d :: r) ps = (argsD env r ps).map fun l => frz d :: l := by
  show (match argsD env r ps with
    | some l => some (frz d :: l)
    | none => none) = _
  cases argsD env r ps <;> rfl
@[simp] theorem d_mu {env : List D} {i : Nat} {r : List (Option D)} {ps : List (Nat × List Nat)} : argsD env (none :: r) ((i, []) :: ps) = (look env i).bind fun d => (argsD env r ps).map fun l => d :: l := by
  show (match look env i with
    | some t => (match getL t [] with
      | some d => (match argsD env r ps with
        | some l => some (d :: l)
        | none => none)
      | none => none)
    | none => none) = _
  cases look env i with
  | none => rfl
  | some d => show (match argsD env r ps with
        | some l => some (d :: l)
        | none => none) = _; cases argsD env r ps <;> rfl
@[simp] theorem u_nil {env : List D} : putAll env [] [] = some env := rfl
@[simp] theorem u_cons {env : List D} {i : Nat} {ps : List (Nat × List Nat)} {d : D} {ds : List D} : putAll env ((i, []) :: ps) (d :: ds) = if i < env.length then putAll (env.set i d) ps ds else none := by
  show (match env[i]? with
    | some t => putAll (env.set i (setL d t [])) ps ds
    | none => none) = _
  by_cases h : i < env.length
  · rw [List.getElem?_eq_getElem h, if_pos h]; rfl
  · rw [List.getElem?_eq_none (by omega), if_neg h]
theorem ix_def {k : Kd} {xs : List D} {i : D} (h : ixD k xs i = none := by first | rfl | (cases k <;> rfl)) : ix (.nd k xs) i = (kid k xs.length i).bind fun n => xs[n]? := by
  show (match kid k xs.length i with
    | some n => xs[n]?
    | none => ixD k xs i) = _
  rw [h]
  cases kid k xs.length i <;> rfl
@[simp] theorem ixN_lit {n : Nat} {i : Nat} : ixN n (OfNat.ofNat i) = if i < n then some i else none := by
  show ixN n (i : Int) = _
  unfold ixN
  rw [if_pos (by omega)]
  by_cases h : i < n
  · rw [if_pos (by omega), if_pos h]; rfl
  · rw [if_neg (by omega), if_neg h]
@[simp] theorem ixN_0 {n : Nat} : ixN n 0 = if 0 < n then some 0 else none := ixN_lit (i := 0)
@[simp] theorem ixN_1 {n : Nat} : ixN n 1 = if 1 < n then some 1 else none := ixN_lit (i := 1)
@[simp] theorem ixN_2 {n : Nat} : ixN n 2 = if 2 < n then some 2 else none := ixN_lit (i := 2)
@[simp] theorem ixN_3 {n : Nat} : ixN n 3 = if 3 < n then some 3 else none := ixN_lit (i := 3)
@[simp] theorem ixN_4 {n : Nat} : ixN n 4 = if 4 < n then some 4 else none := ixN_lit (i := 4)
@[simp] theorem ixN_5 {n : Nat} : ixN n 5 = if 5 < n then some 5 else none := ixN_lit (i := 5)
@[simp] theorem ixN_6 {n : Nat} : ixN n 6 = if 6 < n then some 6 else none := ixN_lit (i := 6)
@[simp] theorem ixN_7 {n : Nat} : ixN n 7 = if 7 < n then some 7 else none := ixN_lit (i := 7)
@[simp] theorem ixN_8 {n : Nat} : ixN n 8 = if 8 < n then some 8 else none := ixN_lit (i := 8)
@[simp] theorem ixN_9 {n : Nat} : ixN n 9 = if 9 < n then some 9 else none := ixN_lit (i := 9)
@[simp] theorem ixN_10 {n : Nat} : ixN n 10 = if 10 < n then some 10 else none := ixN_lit (i := 10)
@[simp] theorem ixN_11 {n : Nat} : ixN n 11 = if 11 < n then some 11 else none := ixN_lit (i := 11)
@[simp] theorem ixN_12 {n : Nat} : ixN n 12 = if 12 < n then some 12 else none := ixN_lit (i := 12)
@[simp] theorem ixN_13 {n : Nat} : ixN n 13 = if 13 < n then some 13 else none := ixN_lit (i := 13)
@[simp] theorem cut_T {xs : List D} {lo hi : Option Int} : cut (.nd .tup xs) lo hi = if imms xs then some (.nd .tup (cutL xs lo hi)) else none := rfl
@[simp] theorem cut_L {o : Bool} {xs : List D} {lo hi : Option Int} : cut (.nd (.lst o) xs) lo hi = if imms xs then some (.nd (.lst true) (cutL xs lo hi)) else none := rfl
@[simp] theorem cutL_map {α β : Type} {f : α → β} {l : List α} {lo hi : Option Int} : cutL (l.map f) lo hi = (cutL l lo hi).map f := by
  unfold cutL; rw [List.length_map, ← List.map_drop, ← List.map_take]
theorem cutL_len {α : Type} {l : List α} {lo hi : Option Int} : (cutL l lo hi).length ≤ l.length := by
  unfold cutL; rw [List.length_take, List.length_drop]; omega
theorem cutL_mem {α : Type} {l : List α} {lo hi : Option Int} {a : α} (h : a ∈ cutL l lo hi) : a ∈ l := List.mem_of_mem_drop (List.mem_of_mem_take h)
theorem cutL_take {α : Type} {l : List α} {m : Int} (h : 0 ≤ m) : cutL l none (some m) = l.take m.toNat := by
  unfold cutL HT.sIx
  dsimp only
  rw [if_neg (by omega)]
  simp only [List.drop_zero, Nat.sub_zero]
  rw [List.take_eq_take_iff]
  omega
theorem cutL_drop {α : Type} {l : List α} {m : Int} (h : 0 ≤ m) : cutL l (some m) none = l.drop m.toNat := by
  unfold cutL HT.sIx
  dsimp only
  rw [if_neg (by omega)]
  by_cases c : m.toNat ≤ l.length
  · rw [Nat.min_eq_left c, List.take_of_length_le (by rw [List.length_drop]; omega)]
  · rw [Nat.min_eq_right (by omega), List.drop_of_length_le (by omega), List.drop_of_length_le (by omega), List.take_nil]
theorem ixN_pos {n : Nat} {i : Int} (h0 : 0 ≤ i) (h1 : i < n) : ixN n i = some i.toNat := ixN_at h0 h1
theorem ok_pos {n : Nat} {i : Int} {K : Nat → Prop} (h0 : 0 ≤ i) (h1 : i < n) (h : K i.toNat) : OKt (ixN n i) K := ⟨_, ixN_at h0 h1, h⟩
theorem r_map {α : Type} {f : α → D} {l : List α} {k : Kd} {i : Int} : ix (.nd k (l.map f)) (.int i) = ((kid k l.length (.int i)).bind fun n => l[n]?).map f := by
  rw [ix_def, List.length_map]
  cases kid k l.length (.int i) with
  | none => rfl
  | some n => show (l.map f)[n]? = (l[n]?).map f; rw [List.getElem?_map]
theorem r_nil {k : Kd} {i : Int} : ix (.nd k []) (.int i) = (kid k 0 (.int i)).bind fun n => none := by rw [ix_def]; rfl
theorem r_cons {k : Kd} {x : D} {xs : List D} {i : Int} : ix (.nd k (x :: xs)) (.int i) = (kid k (xs.length + 1) (.int i)).bind fun n => (x :: xs)[n]? := ix_def
@[simp] theorem rT_0 {a : D} {l : List D} : ix (.nd .tup (a :: l)) (.int 0) = some a := by
  rw [ix_def]; show (ixN _ _).bind _ = _; rw [show (0 : Int) = ((0 : Nat) : Int) from rfl, show ixN (List.length (a :: l)) ((0 : Nat) : Int) = some 0 from by unfold ixN; rw [if_pos (by omega), if_pos (by simp; try omega)]; rfl]; rfl
@[simp] theorem rL_0 {o : Bool} {a : D} {l : List D} : ix (.nd (.lst o) (a :: l)) (.int 0) = some a := by
  rw [ix_def]; show (ixN _ _).bind _ = _; rw [show (0 : Int) = ((0 : Nat) : Int) from rfl, show ixN (List.length (a :: l)) ((0 : Nat) : Int) = some 0 from by unfold ixN; rw [if_pos (by omega), if_pos (by simp; try omega)]; rfl]; rfl
@[simp] theorem rT_1 {a b : D} {l : List D} : ix (.nd .tup (a :: b :: l)) (.int 1) = some b := by
  rw [ix_def]; show (ixN _ _).bind _ = _; rw [show (1 : Int) = ((1 : Nat) : Int) from rfl, show ixN (List.length (a :: b :: l)) ((1 : Nat) : Int) = some 1 from by unfold ixN; rw [if_pos (by omega), if_pos (by simp; try omega)]; rfl]; rfl
@[simp] theorem rL_1 {o : Bool} {a b : D} {l : List D} : ix (.nd (.lst o) (a :: b :: l)) (.int 1) = some b := by
  rw [ix_def]; show (ixN _ _).bind _ = _; rw [show (1 : Int) = ((1 : Nat) : Int) from rfl, show ixN (List.length (a :: b :: l)) ((1 : Nat) : Int) = some 1 from by unfold ixN; rw [if_pos (by omega), if_pos (by simp; try omega)]; rfl]; rfl
@[simp] theorem rT_2 {a b c : D} {l : List D} : ix (.nd .tup (a :: b :: c :: l)) (.int 2) = some c := by
  rw [ix_def]; show (ixN _ _).bind _ = _; rw [show (2 : Int) = ((2 : Nat) : Int) from rfl, show ixN (List.length (a :: b :: c :: l)) ((2 : Nat) : Int) = some 2 from by unfold ixN; rw [if_pos (by omega), if_pos (by simp; try omega)]; rfl]; rfl
@[simp] theorem rL_2 {o : Bool} {a b c : D} {l : List D} : ix (.nd (.lst o) (a :: b :: c :: l)) (.int 2) = some c := by
  rw [ix_def]; show (ixN _ _).bind _ = _; rw [show (2 : Int) = ((2 : Nat) : Int) from rfl, show ixN (List.length (a :: b :: c :: l)) ((2 : Nat) : Int) = some 2 from by unfold ixN; rw [if_pos (by omega), if_pos (by simp; try omega)]; rfl]; rfl
@[simp] theorem rT_3 {a b c d : D} {l : List D} : ix (.nd .tup (a :: b :: c :: d :: l)) (.int 3) = some d := by
  rw [ix_def]; show (ixN _ _).bind _ = _; rw [show (3 : Int) = ((3 : Nat) : Int) from rfl, show ixN (List.length (a :: b :: c :: d :: l)) ((3 : Nat) : Int) = some 3 from by unfold ixN; rw [if_pos (by omega), if_pos (by simp; try omega)]; rfl]; rfl
@[simp] theorem rL_3 {o : Bool} {a b c d : D} {l : List D} : ix (.nd (.lst o) (a :: b :: c :: d :: l)) (.int 3) = some d := by
  rw [ix_def]; show (ixN _ _).bind _ = _; rw [show (3 : Int) = ((3 : Nat) : Int) from rfl, show ixN (List.length (a :: b :: c :: d :: l)) ((3 : Nat) : Int) = some 3 from by unfold ixN; rw [if_pos (by omega), if_pos (by simp; try omega)]; rfl]; rfl
@[simp] theorem rT_4 {a b c d e : D} {l : List D} : ix (.nd .tup (a :: b :: c :: d :: e :: l)) (.int 4) = some e := by
  rw [ix_def]; show (ixN _ _).bind _ = _; rw [show (4 : Int) = ((4 : Nat) : Int) from rfl, show ixN (List.length (a :: b :: c :: d :: e :: l)) ((4 : Nat) : Int) = some 4 from by unfold ixN; rw [if_pos (by omega), if_pos (by simp; try omega)]; rfl]; rfl
@[simp] theorem rL_4 {o : Bool} {a b c d e : D} {l : List D} : ix (.nd (.lst o) (a :: b :: c :: d :: e :: l)) (.int 4) = some e := by
  rw [ix_def]; show (ixN _ _).bind _ = _; rw [show (4 : Int) = ((4 : Nat) : Int) from rfl, show ixN (List.length (a :: b :: c :: d :: e :: l)) ((4 : Nat) : Int) = some 4 from by unfold ixN; rw [if_pos (by omega), if_pos (by simp; try omega)]; rfl]; rfl
@[simp] theorem rT_5 {a b c d e f : D} {l : List D} : ix (.nd .tup (a :: b :: c :: d :: e :: f :: l)) (.int 5) = some f := by
  rw [ix_def]; show (ixN _ _).bind _ = _; rw [show (5 : Int) = ((5 : Nat) : Int) from rfl, show ixN (List.length (a :: b :: c :: d :: e :: f :: l)) ((5 : Nat) : Int) = some 5 from by unfold ixN; rw [if_pos (by omega), if_pos (by simp; try omega)]; rfl]; rfl
@[simp] theorem rL_5 {o : Bool} {a b c d e f : D} {l : List D} : ix (.nd (.lst o) (a :: b :: c :: d :: e :: f :: l)) (.int 5) = some f := by
  rw [ix_def]; show (ixN _ _).bind _ = _; rw [show (5 : Int) = ((5 : Nat) : Int) from rfl, show ixN (List.length (a :: b :: c :: d :: e :: f :: l)) ((5 : Nat) : Int) = some 5 from by unfold ixN; rw [if_pos (by omega), if_pos (by simp; try omega)]; rfl]; rfl
@[simp] theorem rT_6 {a b c d e f g : D} {l : List D} : ix (.nd .tup (a :: b :: c :: d :: e :: f :: g :: l)) (.int 6) = some g := by
  rw [ix_def]; show (ixN _ _).bind _ = _; rw [show (6 : Int) = ((6 : Nat) : Int) from rfl, show ixN (List.length (a :: b :: c :: d :: e :: f :: g :: l)) ((6 : Nat) : Int) = some 6 from by unfold ixN; rw [if_pos (by omega), if_pos (by simp; try omega)]; rfl]; rfl
@[simp] theorem rL_6 {o : Bool} {a b c d e f g : D} {l : List D} : ix (.nd (.lst o) (a :: b :: c :: d :: e :: f :: g :: l)) (.int 6) = some g := by
  rw [ix_def]; show (ixN _ _).bind _ = _; rw [show (6 : Int) = ((6 : Nat) : Int) from rfl, show ixN (List.length (a :: b :: c :: d :: e :: f :: g :: l)) ((6 : Nat) : Int) = some 6 from by unfold ixN; rw [if_pos (by omega), if_pos (by simp; try omega)]; rfl]; rfl
@[simp] theorem fz_map {α : Type} {f : α → D} (h : ∀ a, frz (f a) = f a) {l : List α} : frzs (l.map f) = l.map f := frzs_map' h l
@[simp] theorem im_map {α : Type} {f : α → D} (h : ∀ a, imm (f a) = true) {l : List α} : imms (l.map f) = true := imms_map h l
@[simp] theorem no_map {α : Type} {f : α → D} (h : ∀ a, nof (f a) = true) {l : List α} : nofs (l.map f) = true := nofs_map h l
@[simp] theorem im_take {l : List D} {n : Nat} (h : imms l = true) : imms (l.take n) = true := by
  rw [imms_all, List.all_eq_true] at h ⊢
  exact fun x hx => h x (List.mem_of_mem_take hx)
@[simp] theorem im_drop {l : List D} {n : Nat} (h : imms l = true) : imms (l.drop n) = true := by
  rw [imms_all, List.all_eq_true] at h ⊢
  exact fun x hx => h x (List.mem_of_mem_drop hx)
@[simp] theorem no_take {l : List D} {n : Nat} (h : nofs l = true) : nofs (l.take n) = true := by
  rw [nofs_all, List.all_eq_true] at h ⊢
  exact fun x hx => h x (List.mem_of_mem_take hx)
@[simp] theorem no_drop {l : List D} {n : Nat} (h : nofs l = true) : nofs (l.drop n) = true := by
  rw [nofs_all, List.all_eq_true] at h ⊢
  exact fun x hx => h x (List.mem_of_mem_drop hx)
@[simp] theorem fz_take {l : List D} {n : Nat} : frzs (l.take n) = (frzs l).take n := by rw [frzs_map, frzs_map, List.map_take]
@[simp] theorem fz_drop {l : List D} {n : Nat} : frzs (l.drop n) = (frzs l).drop n := by rw [frzs_map, frzs_map, List.map_drop]
@[simp] theorem im_app {xs ys : List D} : imms (xs ++ ys) = (imms xs && imms ys) := by rw [imms_all, imms_all, imms_all, List.all_append]
@[simp] theorem no_app {xs ys : List D} : nofs (xs ++ ys) = (nofs xs && nofs ys) := by rw [nofs_all, nofs_all, nofs_all, List.all_append]
@[simp] theorem fz_app {xs ys : List D} : frzs (xs ++ ys) = frzs xs ++ frzs ys := by rw [frzs_map, frzs_map, frzs_map, List.map_append]
@[simp] theorem ok_map {α : Type} {f : α → D} {n : Nat} (h : ∀ a, okd n (f a) = true) {l : List α} : okds n (l.map f) = true := okds_map h l
@[simp] theorem de_ints {l m : List Int} : deqs (l.map D.int) (m.map D.int) = decide (l = m) := deqs_map (fun _ _ => rfl) l m
@[simp] theorem de_intsf {α β : Type} {f : α → Int} {g : β → Int} {l : List α} {m : List β} : deqs (l.map fun a => .int (f a)) (m.map fun a => .int (g a)) = decide (l.map f = m.map g) := by
  have := de_ints (l := l.map f) (m := m.map g)
  rw [List.map_map, List.map_map] at this
  exact this
@[simp] theorem de_nil {xs : List D} : deqs xs [] = xs.isEmpty := by cases xs <;> rfl
@[simp] theorem de_nil' {xs : List D} : deqs [] xs = xs.isEmpty := by cases xs <;> rfl
@[simp] theorem zd_map {α β : Type} {f : α → D} {g : β → D} {l : List α} {m : List β} : zipD (l.map f) (m.map g) = (l.zip m).map fun p => .nd .tup [f p.1, g p.2] := zipD_map l m
@[simp] theorem id_map {α : Type} {f : α → D} {l : List α} : idxs 0 (l.map f) = (num 0 l).map fun p => .nd .tup [.int p.1, f p.2] := idxs_map l 0
@[simp] theorem zi_TT {xs ys : List D} : zipS (.nd .tup xs) (.nd .tup ys) = if imms xs && imms ys then some (zipD xs ys) else none := rfl
@[simp] theorem zi_TL {p : Bool} {xs ys : List D} : zipS (.nd .tup xs) (.nd (.lst p) ys) = if imms xs && imms ys then some (zipD xs ys) else none := rfl
@[simp] theorem zi_LT {p : Bool} {xs ys : List D} : zipS (.nd (.lst p) xs) (.nd .tup ys) = if imms xs && imms ys then some (zipD xs ys) else none := rfl
@[simp] theorem zi_LL {o p : Bool} {xs ys : List D} : zipS (.nd (.lst o) xs) (.nd (.lst p) ys) = if imms xs && imms ys then some (zipD xs ys) else none := rfl
@[simp] theorem wk_var {i : Nat} {d : D} : wkd (.var i) d = true := rfl
@[simp] theorem wk_idx {a b : E} {d : D} : wkd (.idx a b) d = (!vw a || imm d) := rfl
theorem wk_nv {a : E} {d : D} (h : vw a = false) : wkd a d = true := by unfold wkd; rw [h]; cases isVar a <;> rfl
@[simp] theorem small_lit {i : Int} : small i = decide (-4611686018427387904 ≤ i ∧ i < 4611686018427387904) := rfl
@[simp] theorem g_n {Δ : Dl} {i : Nat} {d : D} {env : List D} : asgT Δ (.name i) d env = if i < env.length then some (env.set i d) else none := rfl
@[simp] theorem g_t {Δ : Dl} {ts : Ts} {xs env : List D} : asgT Δ (.tup ts) (.nd .tup xs) env = asgTs Δ ts xs env := rfl
@[simp] theorem g_0 {Δ : Dl} {env : List D} : asgTs Δ .nil [] env = some env := rfl
@[simp] theorem g_s {Δ : Dl} {t : T} {ts : Ts} {d : D} {ds env : List D} : asgTs Δ (.cons t ts) (d :: ds) env = (asgT Δ t d env).bind fun e => asgTs Δ ts ds e := by
  show (match asgT Δ t d env with
    | some e => asgTs Δ ts ds e
    | none => none) = _
  cases asgT Δ t d env <;> rfl
@[simp] theorem h_nil {env : List D} : holesE env [] = true := rfl
@[simp] theorem h_z {l : List D} {r : List Nat} {env : List D} : holesE env (0 :: r) = (holesE env [0] && holesE env r) := by
  unfold holesE; simp
@[simp] theorem sr_r1 {e : E} : srcs (.range1 e) = [] := rfl
@[simp] theorem sr_r2 {a b : E} : srcs (.range2 a b) = [] := rfl
@[simp] theorem sr_seq_comp {w : List Nat} {t : T} {it : I} {e : E} : srcs (.seq (.comp w t it e)) = [] := rfl
@[simp] theorem sr_seq_compI {w : List Nat} {t : T} {it : I} {c e : E} : srcs (.seq (.compI w t it c e)) = [] := rfl
@[simp] theorem sr_seq_slr {a : E} : srcs (.seq (.slr a)) = [] := rfl
@[simp] theorem sr_seq_sl11' {a b c : E} : srcs (.seq (.sl11 a b c)) = [] := rfl
@[simp] theorem sr_seq_ite {a b c : E} : srcs (.seq (.ite a b c)) = [] := rfl
@[simp] theorem kid_dT {o : Bool} {ks : List (List Key)} {n : Nat} {i : D} : kid (.dT o ks) n i = none := by cases i <;> rfl
@[simp] theorem ix_dT {o : Bool} {ks : List (List Key)} {xs : List D} {i : D} : ix (.nd (.dT o ks) xs) i = match keyQ i with
    | some q => kGet q ks xs
    | none => none := by
  unfold ix; simp only [kid_dT]; rfl
@[simp] theorem lsto_dT {o : Bool} {ks : List (List Key)} {xs : List D} : lsto (.nd (.dT o ks) xs) = none := rfl
@[simp] theorem seqOf_dT {o : Bool} {ks : List (List Key)} {xs : List D} : seqOf (.nd (.dT o ks) xs) = none := rfl
@[simp] theorem sr_seq_var {i : Nat} : srcs (.seq (.var i)) = [i] := rfl
@[simp] theorem sr_enum_var {i : Nat} : srcs (.enum (.var i)) = [i] := rfl
@[simp] theorem sr_rev_var {i : Nat} : srcs (.rev (.var i)) = [i] := rfl
@[simp] theorem sr_seq_idx {a b : E} : srcs (.seq (.idx a b)) = [] := rfl
@[simp] theorem sr_enum_idx {a b : E} : srcs (.enum (.idx a b)) = [] := rfl
@[simp] theorem sr_rev_idx {a b : E} : srcs (.rev (.idx a b)) = [] := rfl
@[simp] theorem sr_seq_bin {o : Bop} {a b : E} : srcs (.seq (.bin o a b)) = [] := rfl
@[simp] theorem sr_enum_bin {o : Bop} {a b : E} : srcs (.enum (.bin o a b)) = [] := rfl
@[simp] theorem sr_rev_bin {o : Bop} {a b : E} : srcs (.rev (.bin o a b)) = [] := rfl
@[simp] theorem sr_seq_call {f : Nat} {as : As} : srcs (.seq (.call f as)) = [] := rfl
@[simp] theorem sr_enum_call {f : Nat} {as : As} : srcs (.enum (.call f as)) = [] := rfl
@[simp] theorem sr_rev_call {f : Nat} {as : As} : srcs (.rev (.call f as)) = [] := rfl
@[simp] theorem sr_seq_b1 {o : B1} {a : E} : srcs (.seq (.b1 o a)) = [] := rfl
@[simp] theorem sr_enum_b1 {o : B1} {a : E} : srcs (.enum (.b1 o a)) = [] := rfl
@[simp] theorem sr_rev_b1 {o : B1} {a : E} : srcs (.rev (.b1 o a)) = [] := rfl
@[simp] theorem sr_seq_lst {es : Es} : srcs (.seq (.lst es)) = [] := rfl
@[simp] theorem sr_enum_lst {es : Es} : srcs (.enum (.lst es)) = [] := rfl
@[simp] theorem sr_rev_lst {es : Es} : srcs (.rev (.lst es)) = [] := rfl
@[simp] theorem sr_seq_tup {es : Es} : srcs (.seq (.tup es)) = [] := rfl
@[simp] theorem sr_enum_tup {es : Es} : srcs (.enum (.tup es)) = [] := rfl
@[simp] theorem sr_rev_tup {es : Es} : srcs (.rev (.tup es)) = [] := rfl
@[simp] theorem sr_seq_sl10 {a b : E} : srcs (.seq (.sl10 a b)) = [] := rfl
@[simp] theorem sr_enum_sl10 {a b : E} : srcs (.enum (.sl10 a b)) = [] := rfl
@[simp] theorem sr_rev_sl10 {a b : E} : srcs (.rev (.sl10 a b)) = [] := rfl
@[simp] theorem sr_seq_sl01 {a b : E} : srcs (.seq (.sl01 a b)) = [] := rfl
@[simp] theorem sr_enum_sl01 {a b : E} : srcs (.enum (.sl01 a b)) = [] := rfl
@[simp] theorem sr_rev_sl01 {a b : E} : srcs (.rev (.sl01 a b)) = [] := rfl
@[simp] theorem sr_seq_callO {f : Nat} {a : E} : srcs (.seq (.callO f a)) = [] := rfl
@[simp] theorem sr_enum_callO {f : Nat} {a : E} : srcs (.enum (.callO f a)) = [] := rfl
@[simp] theorem sr_rev_callO {f : Nat} {a : E} : srcs (.rev (.callO f a)) = [] := rfl
@[simp] theorem sr_zip_var_var {i : Nat} {i2 : Nat} : srcs (.zip (.var i) (.var i2)) = [i, i2] := rfl
@[simp] theorem sr_zip_var_idx {i : Nat} {a2 b2 : E} : srcs (.zip (.var i) (.idx a2 b2)) = [i] := rfl
@[simp] theorem sr_zip_var_bin {i : Nat} {o2 : Bop} {a2 b2 : E} : srcs (.zip (.var i) (.bin o2 a2 b2)) = [i] := rfl
@[simp] theorem sr_zip_var_call {i : Nat} {f2 : Nat} {as2 : As} : srcs (.zip (.var i) (.call f2 as2)) = [i] := rfl
@[simp] theorem sr_zip_var_b1 {i : Nat} {o2 : B1} {a2 : E} : srcs (.zip (.var i) (.b1 o2 a2)) = [i] := rfl
@[simp] theorem sr_zip_var_lst {i : Nat} {es2 : Es} : srcs (.zip (.var i) (.lst es2)) = [i] := rfl
@[simp] theorem sr_zip_var_tup {i : Nat} {es2 : Es} : srcs (.zip (.var i) (.tup es2)) = [i] := rfl
@[simp] theorem sr_zip_var_sl10 {i : Nat} {a2 b2 : E} : srcs (.zip (.var i) (.sl10 a2 b2)) = [i] := rfl
@[simp] theorem sr_zip_var_sl01 {i : Nat} {a2 b2 : E} : srcs (.zip (.var i) (.sl01 a2 b2)) = [i] := rfl
@[simp] theorem sr_zip_var_callO {i : Nat} {f2 : Nat} {a2 : E} : srcs (.zip (.var i) (.callO f2 a2)) = [i] := rfl
@[simp] theorem sr_zip_idx_var {a b : E} {i2 : Nat} : srcs (.zip (.idx a b) (.var i2)) = [i2] := rfl
@[simp] theorem sr_zip_idx_idx {a b : E} {a2 b2 : E} : srcs (.zip (.idx a b) (.idx a2 b2)) = [] := rfl
@[simp] theorem sr_zip_idx_bin {a b : E} {o2 : Bop} {a2 b2 : E} : srcs (.zip (.idx a b) (.bin o2 a2 b2)) = [] := rfl
@[simp] theorem sr_zip_idx_call {a b : E} {f2 : Nat} {as2 : As} : srcs (.zip (.idx a b) (.call f2 as2)) = [] := rfl
@[simp] theorem sr_zip_idx_b1 {a b : E} {o2 : B1} {a2 : E} : srcs (.zip (.idx a b) (.b1 o2 a2)) = [] := rfl
@[simp] theorem sr_zip_idx_lst {a b : E} {es2 : Es} : srcs (.zip (.idx a b) (.lst es2)) = [] := rfl
@[simp] theorem sr_zip_idx_tup {a b : E} {es2 : Es} : srcs (.zip (.idx a b) (.tup es2)) = [] := rfl
@[simp] theorem sr_zip_idx_sl10 {a b : E} {a2 b2 : E} : srcs (.zip (.idx a b) (.sl10 a2 b2)) = [] := rfl
@[simp] theorem sr_zip_idx_sl01 {a b : E} {a2 b2 : E} : srcs (.zip (.idx a b) (.sl01 a2 b2)) = [] := rfl
@[simp] theorem sr_zip_idx_callO {a b : E} {f2 : Nat} {a2 : E} : srcs (.zip (.idx a b) (.callO f2 a2)) = [] := rfl
@[simp] theorem sr_zip_bin_var {o : Bop} {a b : E} {i2 : Nat} : srcs (.zip (.bin o a b) (.var i2)) = [i2] := rfl
@[simp] theorem sr_zip_bin_idx {o : Bop} {a b : E} {a2 b2 : E} : srcs (.zip (.bin o a b) (.idx a2 b2)) = [] := rfl
@[simp] theorem sr_zip_bin_bin {o : Bop} {a b : E} {o2 : Bop} {a2 b2 : E} : srcs (.zip (.bin o a b) (.bin o2 a2 b2)) = [] := rfl
@[simp] theorem sr_zip_bin_call {o : Bop} {a b : E} {f2 : Nat} {as2 : As} : srcs (.zip (.bin o a b) (.call f2 as2)) = [] := rfl
@[simp] theorem sr_zip_bin_b1 {o : Bop} {a b : E} {o2 : B1} {a2 : E} : srcs (.zip (.bin o a b) (.b1 o2 a2)) = [] := rfl
@[simp] theorem sr_zip_bin_lst {o : Bop} {a b : E} {es2 : Es} : srcs (.zip (.bin o a b) (.lst es2)) = [] := rfl
@[simp] theorem sr_zip_bin_tup {o : Bop} {a b : E} {es2 : Es} : srcs (.zip (.bin o a b) (.tup es2)) = [] := rfl
@[simp] theorem sr_zip_bin_sl10 {o : Bop} {a b : E} {a2 b2 : E} : srcs (.zip (.bin o a b) (.sl10 a2 b2)) = [] := rfl
@[simp] theorem sr_zip_bin_sl01 {o : Bop} {a b : E} {a2 b2 : E} : srcs (.zip (.bin o a b) (.sl01 a2 b2)) = [] := rfl
@[simp] theorem sr_zip_bin_callO {o : Bop} {a b : E} {f2 : Nat} {a2 : E} : srcs (.zip (.bin o a b) (.callO f2 a2)) = [] := rfl
@[simp] theorem sr_zip_call_var {f : Nat} {as : As} {i2 : Nat} : srcs (.zip (.call f as) (.var i2)) = [i2] := rfl
@[simp] theorem sr_zip_call_idx {f : Nat} {as : As} {a2 b2 : E} : srcs (.zip (.call f as) (.idx a2 b2)) = [] := rfl
@[simp] theorem sr_zip_call_bin {f : Nat} {as : As} {o2 : Bop} {a2 b2 : E} : srcs (.zip (.call f as) (.bin o2 a2 b2)) = [] := rfl
@[simp] theorem sr_zip_call_call {f : Nat} {as : As} {f2 : Nat} {as2 : As} : srcs (.zip (.call f as) (.call f2 as2)) = [] := rfl
@[simp] theorem sr_zip_call_b1 {f : Nat} {as : As} {o2 : B1} {a2 : E} : srcs (.zip (.call f as) (.b1 o2 a2)) = [] := rfl
@[simp] theorem sr_zip_call_lst {f : Nat} {as : As} {es2 : Es} : srcs (.zip (.call f as) (.lst es2)) = [] := rfl
@[simp] theorem sr_zip_call_tup {f : Nat} {as : As} {es2 : Es} : srcs (.zip (.call f as) (.tup es2)) = [] := rfl
@[simp] theorem sr_zip_call_sl10 {f : Nat} {as : As} {a2 b2 : E} : srcs (.zip (.call f as) (.sl10 a2 b2)) = [] := rfl
@[simp] theorem sr_zip_call_sl01 {f : Nat} {as : As} {a2 b2 : E} : srcs (.zip (.call f as) (.sl01 a2 b2)) = [] := rfl
@[simp] theorem sr_zip_call_callO {f : Nat} {as : As} {f2 : Nat} {a2 : E} : srcs (.zip (.call f as) (.callO f2 a2)) = [] := rfl
@[simp] theorem sr_zip_b1_var {o : B1} {a : E} {i2 : Nat} : srcs (.zip (.b1 o a) (.var i2)) = [i2] := rfl
@[simp] theorem sr_zip_b1_idx {o : B1} {a : E} {a2 b2 : E} : srcs (.zip (.b1 o a) (.idx a2 b2)) = [] := rfl
@[simp] theorem sr_zip_b1_bin {o : B1} {a : E} {o2 : Bop} {a2 b2 : E} : srcs (.zip (.b1 o a) (.bin o2 a2 b2)) = [] := rfl
@[simp] theorem sr_zip_b1_call {o : B1} {a : E} {f2 : Nat} {as2 : As} : srcs (.zip (.b1 o a) (.call f2 as2)) = [] := rfl
@[simp] theorem sr_zip_b1_b1 {o : B1} {a : E} {o2 : B1} {a2 : E} : srcs (.zip (.b1 o a) (.b1 o2 a2)) = [] := rfl
@[simp] theorem sr_zip_b1_lst {o : B1} {a : E} {es2 : Es} : srcs (.zip (.b1 o a) (.lst es2)) = [] := rfl
@[simp] theorem sr_zip_b1_tup {o : B1} {a : E} {es2 : Es} : srcs (.zip (.b1 o a) (.tup es2)) = [] := rfl
@[simp] theorem sr_zip_b1_sl10 {o : B1} {a : E} {a2 b2 : E} : srcs (.zip (.b1 o a) (.sl10 a2 b2)) = [] := rfl
@[simp] theorem sr_zip_b1_sl01 {o : B1} {a : E} {a2 b2 : E} : srcs (.zip (.b1 o a) (.sl01 a2 b2)) = [] := rfl
@[simp] theorem sr_zip_b1_callO {o : B1} {a : E} {f2 : Nat} {a2 : E} : srcs (.zip (.b1 o a) (.callO f2 a2)) = [] := rfl
@[simp] theorem sr_zip_lst_var {es : Es} {i2 : Nat} : srcs (.zip (.lst es) (.var i2)) = [i2] := rfl
@[simp] theorem sr_zip_lst_idx {es : Es} {a2 b2 : E} : srcs (.zip (.lst es) (.idx a2 b2)) = [] := rfl
@[simp] theorem sr_zip_lst_bin {es : Es} {o2 : Bop} {a2 b2 : E} : srcs (.zip (.lst es) (.bin o2 a2 b2)) = [] := rfl
@[simp] theorem sr_zip_lst_call {es : Es} {f2 : Nat} {as2 : As} : srcs (.zip (.lst es) (.call f2 as2)) = [] := rfl
@[simp] theorem sr_zip_lst_b1 {es : Es} {o2 : B1} {a2 : E} : srcs (.zip (.lst es) (.b1 o2 a2)) = [] := rfl
@[simp] theorem sr_zip_lst_lst {es : Es} {es2 : Es} : srcs (.zip (.lst es) (.lst es2)) = [] := rfl
@[simp] theorem sr_zip_lst_tup {es : Es} {es2 : Es} : srcs (.zip (.lst es) (.tup es2)) = [] := rfl
@[simp] theorem sr_zip_lst_sl10 {es : Es} {a2 b2 : E} : srcs (.zip (.lst es) (.sl10 a2 b2)) = [] := rfl
@[simp] theorem sr_zip_lst_sl01 {es : Es} {a2 b2 : E} : srcs (.zip (.lst es) (.sl01 a2 b2)) = [] := rfl
@[simp] theorem sr_zip_lst_callO {es : Es} {f2 : Nat} {a2 : E} : srcs (.zip (.lst es) (.callO f2 a2)) = [] := rfl
@[simp] theorem sr_zip_tup_var {es : Es} {i2 : Nat} : srcs (.zip (.tup es) (.var i2)) = [i2] := rfl
@[simp] theorem sr_zip_tup_idx {es : Es} {a2 b2 : E} : srcs (.zip (.tup es) (.idx a2 b2)) = [] := rfl
@[simp] theorem sr_zip_tup_bin {es : Es} {o2 : Bop} {a2 b2 : E} : srcs (.zip (.tup es) (.bin o2 a2 b2)) = [] := rfl
@[simp] theorem sr_zip_tup_call {es : Es} {f2 : Nat} {as2 : As} : srcs (.zip (.tup es) (.call f2 as2)) = [] := rfl
@[simp] theorem sr_zip_tup_b1 {es : Es} {o2 : B1} {a2 : E} : srcs (.zip (.tup es) (.b1 o2 a2)) = [] := rfl
@[simp] theorem sr_zip_tup_lst {es : Es} {es2 : Es} : srcs (.zip (.tup es) (.lst es2)) = [] := rfl
@[simp] theorem sr_zip_tup_tup {es : Es} {es2 : Es} : srcs (.zip (.tup es) (.tup es2)) = [] := rfl
@[simp] theorem sr_zip_tup_sl10 {es : Es} {a2 b2 : E} : srcs (.zip (.tup es) (.sl10 a2 b2)) = [] := rfl
@[simp] theorem sr_zip_tup_sl01 {es : Es} {a2 b2 : E} : srcs (.zip (.tup es) (.sl01 a2 b2)) = [] := rfl
@[simp] theorem sr_zip_tup_callO {es : Es} {f2 : Nat} {a2 : E} : srcs (.zip (.tup es) (.callO f2 a2)) = [] := rfl
@[simp] theorem sr_zip_sl10_var {a b : E} {i2 : Nat} : srcs (.zip (.sl10 a b) (.var i2)) = [i2] := rfl
@[simp] theorem sr_zip_sl10_idx {a b : E} {a2 b2 : E} : srcs (.zip (.sl10 a b) (.idx a2 b2)) = [] := rfl
@[simp] theorem sr_zip_sl10_bin {a b : E} {o2 : Bop} {a2 b2 : E} : srcs (.zip (.sl10 a b) (.bin o2 a2 b2)) = [] := rfl
@[simp] theorem sr_zip_sl10_call {a b : E} {f2 : Nat} {as2 : As} : srcs (.zip (.sl10 a b) (.call f2 as2)) = [] := rfl
@[simp] theorem sr_zip_sl10_b1 {a b : E} {o2 : B1} {a2 : E} : srcs (.zip (.sl10 a b) (.b1 o2 a2)) = [] := rfl
@[simp] theorem sr_zip_sl10_lst {a b : E} {es2 : Es} : srcs (.zip (.sl10 a b) (.lst es2)) = [] := rfl
@[simp] theorem sr_zip_sl10_tup {a b : E} {es2 : Es} : srcs (.zip (.sl10 a b) (.tup es2)) = [] := rfl
@[simp] theorem sr_zip_sl10_sl10 {a b : E} {a2 b2 : E} : srcs (.zip (.sl10 a b) (.sl10 a2 b2)) = [] := rfl
@[simp] theorem sr_zip_sl10_sl01 {a b : E} {a2 b2 : E} : srcs (.zip (.sl10 a b) (.sl01 a2 b2)) = [] := rfl
@[simp] theorem sr_zip_sl10_callO {a b : E} {f2 : Nat} {a2 : E} : srcs (.zip (.sl10 a b) (.callO f2 a2)) = [] := rfl
@[simp] theorem sr_zip_sl01_var {a b : E} {i2 : Nat} : srcs (.zip (.sl01 a b) (.var i2)) = [i2] := rfl
@[simp] theorem sr_zip_sl01_idx {a b : E} {a2 b2 : E} : srcs (.zip (.sl01 a b) (.idx a2 b2)) = [] := rfl
@[simp] theorem sr_zip_sl01_bin {a b : E} {o2 : Bop} {a2 b2 : E} : srcs (.zip (.sl01 a b) (.bin o2 a2 b2)) = [] := rfl
@[simp] theorem sr_zip_sl01_call {a b : E} {f2 : Nat} {as2 : As} : srcs (.zip (.sl01 a b) (.call f2 as2)) = [] := rfl
@[simp] theorem sr_zip_sl01_b1 {a b : E} {o2 : B1} {a2 : E} : srcs (.zip (.sl01 a b) (.b1 o2 a2)) = [] := rfl
@[simp] theorem sr_zip_sl01_lst {a b : E} {es2 : Es} : srcs (.zip (.sl01 a b) (.lst es2)) = [] := rfl
@[simp] theorem sr_zip_sl01_tup {a b : E} {es2 : Es} : srcs (.zip (.sl01 a b) (.tup es2)) = [] := rfl
@[simp] theorem sr_zip_sl01_sl10 {a b : E} {a2 b2 : E} : srcs (.zip (.sl01 a b) (.sl10 a2 b2)) = [] := rfl
@[simp] theorem sr_zip_sl01_sl01 {a b : E} {a2 b2 : E} : srcs (.zip (.sl01 a b) (.sl01 a2 b2)) = [] := rfl
@[simp] theorem sr_zip_sl01_callO {a b : E} {f2 : Nat} {a2 : E} : srcs (.zip (.sl01 a b) (.callO f2 a2)) = [] := rfl
@[simp] theorem sr_zip_callO_var {f : Nat} {a : E} {i2 : Nat} : srcs (.zip (.callO f a) (.var i2)) = [i2] := rfl
@[simp] theorem sr_zip_callO_idx {f : Nat} {a : E} {a2 b2 : E} : srcs (.zip (.callO f a) (.idx a2 b2)) = [] := rfl
@[simp] theorem sr_zip_callO_bin {f : Nat} {a : E} {o2 : Bop} {a2 b2 : E} : srcs (.zip (.callO f a) (.bin o2 a2 b2)) = [] := rfl
@[simp] theorem sr_zip_callO_call {f : Nat} {a : E} {f2 : Nat} {as2 : As} : srcs (.zip (.callO f a) (.call f2 as2)) = [] := rfl
@[simp] theorem sr_zip_callO_b1 {f : Nat} {a : E} {o2 : B1} {a2 : E} : srcs (.zip (.callO f a) (.b1 o2 a2)) = [] := rfl
@[simp] theorem sr_zip_callO_lst {f : Nat} {a : E} {es2 : Es} : srcs (.zip (.callO f a) (.lst es2)) = [] := rfl
@[simp] theorem sr_zip_callO_tup {f : Nat} {a : E} {es2 : Es} : srcs (.zip (.callO f a) (.tup es2)) = [] := rfl
@[simp] theorem sr_zip_callO_sl10 {f : Nat} {a : E} {a2 b2 : E} : srcs (.zip (.callO f a) (.sl10 a2 b2)) = [] := rfl
@[simp] theorem sr_zip_callO_sl01 {f : Nat} {a : E} {a2 b2 : E} : srcs (.zip (.callO f a) (.sl01 a2 b2)) = [] := rfl
@[simp] theorem sr_zip_callO_callO {f : Nat} {a : E} {f2 : Nat} {a2 : E} : srcs (.zip (.callO f a) (.callO f2 a2)) = [] := rfl
@[simp] theorem stay_cons {i : Nat} {l : List Nat} {a b : List D} : stay (i :: l) a b = (decide (a[i]? = b[i]?) && stay l a b) := rfl
@[simp] theorem stay_nil {a b : List D} : stay [] a b = true := rfl
theorem num_map {α β : Type} {f : α → β} : ∀ {l : List α} {n : Nat}, num n (l.map f) = (num n l).map fun p => (p.1, f p.2)
  | [], _ => rfl
  | a :: l, n => by show _ :: num (n + 1) (l.map f) = _; rw [num_map]; rfl
@[simp] theorem num_length {α : Type} : ∀ {l : List α} {n : Nat}, (num n l).length = l.length
  | [], _ => rfl
  | a :: l, n => by show (num (n + 1) l).length + 1 = _; rw [num_length]; rfl
theorem num_mem {α : Type} : ∀ {l : List α} {n : Nat} {p : Nat × α}, p ∈ num n l → n ≤ p.1 ∧ p.1 < n + l.length ∧ l[p.1 - n]? = some p.2
  | [], _, _, h => nomatch h
  | a :: l, n, p, h => by
    rcases List.mem_cons.mp h with rfl | h
    · simp
    · obtain ⟨h1, h2, h3⟩ := num_mem h
      refine ⟨by omega, by simp; omega, ?_⟩
      rw [show p.1 - n = (p.1 - (n + 1)) + 1 by omega]
      simpa using h3
@[simp] theorem ty_int {i : Int} : okTy (.int i) = true := rfl
@[simp] theorem ty_int_int {i : Int} : isTy (.int i) .int = true := rfl
@[simp] theorem ty_int_bool {i : Int} : isTy (.int i) .bool = false := rfl
@[simp] theorem ty_int_str {i : Int} : isTy (.int i) .str = false := rfl
@[simp] theorem ty_int_list {i : Int} : isTy (.int i) .list = false := rfl
@[simp] theorem ty_int_tuple {i : Int} : isTy (.int i) .tuple = false := rfl
@[simp] theorem ty_int_dict {i : Int} : isTy (.int i) .dict = false := rfl
@[simp] theorem ty_bl {b : Bool} : okTy (.bl b) = true := rfl
@[simp] theorem ty_bl_int {b : Bool} : isTy (.bl b) .int = true := rfl
@[simp] theorem ty_bl_bool {b : Bool} : isTy (.bl b) .bool = true := rfl
@[simp] theorem ty_bl_str {b : Bool} : isTy (.bl b) .str = false := rfl
@[simp] theorem ty_bl_list {b : Bool} : isTy (.bl b) .list = false := rfl
@[simp] theorem ty_bl_tuple {b : Bool} : isTy (.bl b) .tuple = false := rfl
@[simp] theorem ty_bl_dict {b : Bool} : isTy (.bl b) .dict = false := rfl
@[simp] theorem ty_str {x : Str} : okTy (.str x) = true := rfl
@[simp] theorem ty_str_int {x : Str} : isTy (.str x) .int = false := rfl
@[simp] theorem ty_str_bool {x : Str} : isTy (.str x) .bool = false := rfl
@[simp] theorem ty_str_str {x : Str} : isTy (.str x) .str = true := rfl
@[simp] theorem ty_str_list {x : Str} : isTy (.str x) .list = false := rfl
@[simp] theorem ty_str_tuple {x : Str} : isTy (.str x) .tuple = false := rfl
@[simp] theorem ty_str_dict {x : Str} : isTy (.str x) .dict = false := rfl
@[simp] theorem ty_non : okTy .non = true := rfl
@[simp] theorem ty_non_int : isTy .non .int = false := rfl
@[simp] theorem ty_non_bool : isTy .non .bool = false := rfl
@[simp] theorem ty_non_str : isTy .non .str = false := rfl
@[simp] theorem ty_non_list : isTy .non .list = false := rfl
@[simp] theorem ty_non_tuple : isTy .non .tuple = false := rfl
@[simp] theorem ty_non_dict : isTy .non .dict = false := rfl
@[simp] theorem ty_tup {xs : List D} : okTy (.nd .tup xs) = true := rfl
@[simp] theorem ty_tup_int {xs : List D} : isTy (.nd .tup xs) .int = false := rfl
@[simp] theorem ty_tup_bool {xs : List D} : isTy (.nd .tup xs) .bool = false := rfl
@[simp] theorem ty_tup_str {xs : List D} : isTy (.nd .tup xs) .str = false := rfl
@[simp] theorem ty_tup_list {xs : List D} : isTy (.nd .tup xs) .list = false := rfl
@[simp] theorem ty_tup_tuple {xs : List D} : isTy (.nd .tup xs) .tuple = true := rfl
@[simp] theorem ty_tup_dict {xs : List D} : isTy (.nd .tup xs) .dict = false := rfl
@[simp] theorem ty_lst {o : Bool} {xs : List D} : okTy (.nd (.lst o) xs) = true := rfl
@[simp] theorem ty_lst_int {o : Bool} {xs : List D} : isTy (.nd (.lst o) xs) .int = false := rfl
@[simp] theorem ty_lst_bool {o : Bool} {xs : List D} : isTy (.nd (.lst o) xs) .bool = false := rfl
@[simp] theorem ty_lst_str {o : Bool} {xs : List D} : isTy (.nd (.lst o) xs) .str = false := rfl
@[simp] theorem ty_lst_list {o : Bool} {xs : List D} : isTy (.nd (.lst o) xs) .list = true := rfl
@[simp] theorem ty_lst_tuple {o : Bool} {xs : List D} : isTy (.nd (.lst o) xs) .tuple = false := rfl
@[simp] theorem ty_lst_dict {o : Bool} {xs : List D} : isTy (.nd (.lst o) xs) .dict = false := rfl
@[simp] theorem sizeL_lit : sizeL = 16777216 := rfl
@[simp] theorem outs_r {d : D} {ms : List Bool} {env : List D} : outsOf (false :: ms) (d :: env) = outsOf ms env := rfl
@[simp] theorem outs_0 {env : List D} : outsOf [] env = some [] := rfl
@[simp] theorem outs_m {d : D} {ms : List Bool} {env : List D} : outsOf (true :: ms) (d :: env) = (look (d :: env) 0).bind fun d => (outsOf ms env).map fun l => d :: l := by
  cases d <;> (show _ = _; first | rfl | (simp [outsOf, look]; cases outsOf ms env <;> rfl))
variable {Δ : Dl} {env : List D} {Q : Wn} {K : D → List D → Prop} {X : Ex → List D → Prop}
@[simp ↓] theorem e_int {i : Int} : EKt (ev Δ (.int i) env) K X = K (.int i) env := rfl
@[simp ↓] theorem e_bl {b : Bool} : EKt (ev Δ (.bl b) env) K X = K (.bl b) env := rfl
@[simp ↓] theorem e_non : EKt (ev Δ (.non) env) K X = K .non env := rfl
@[simp ↓] theorem e_str {x : Str} : EKt (ev Δ (.str x) env) K X = K (.str x) env := rfl
@[simp ↓] theorem e_pow {b e : Nat} : EKt (ev Δ (.pow b e) env) K X = K (.int ((b : Int) ^ e)) env := rfl
@[simp ↓] theorem e_glo {x : Str} {d : D} : EKt (ev Δ (.glo x d) env) K X = K d env := rfl
@[simp ↓] theorem e_var {i : Nat} : EKt (ev Δ (.var i) env) K X = OKt (look env i) fun d => K d env := y_of
@[simp ↓] theorem e_mv {i : Nat} : EKt (ev Δ (.mv i) env) K X = OKt (look env i) fun d => K d (env.set i .hole) := by
  show EKt (match look env i with
    | some d => .ok d (env.set i .hole)
    | none => .bad) K X = _
  cases look env i with
  | none => rw [y_none]; rfl
  | some d => rw [y_some]; rfl
@[simp ↓] theorem e_fz {i : Nat} {e : E} : EKt (ev Δ (.fz i e) env) K X = OKt (look env i) fun d => EKt (ev Δ e (env.set i (frz d))) (fun d e1 => OKt (own e d) fun d => K d e1) X := by
  show EK (match look env i with
    | some d => (ev Δ e (env.set i (frz d))).bind fun d e' => Res.of (own e d) e'
    | none => .bad) K X = OK (look env i) _
  cases look env i with
  | none => rw [q_none]; rfl
  | some d =>
    rw [q_some]
    show EK ((ev Δ e (env.set i (frz d))).bind _) K X = EK _ _ _
    rw [q_bind]; congr 1; funext d e1; rw [q_of]; rfl
@[simp ↓] theorem e_neg {a : E} : EKt (ev Δ (.neg a) env) K X = EKt (ev Δ a env) (fun d e => OKt (toI d) fun i => K (.int (-i)) e) X := by
  show EK ((ev Δ a env).bind _) K X = EK _ _ _
  rw [q_bind]; congr 1; funext d e; rw [q_of, q_omap]; rfl
@[simp ↓] theorem e_bin {o : Bop} {a b : E} : EKt (ev Δ (.bin o a b) env) K X = EKt (ev Δ a env) (fun x e1 => EKt (ev Δ b e1) (fun y e2 => OKt (re a (ef b) x e2) fun x => OKt (bop o x y) fun z => K z e2) X) X := by
  show EK ((ev Δ a env).bind _) K X = EK _ _ _
  rw [q_bind]; congr 1; funext d e; rw [q_bind]; show EK _ _ _ = EK _ _ _; congr 1; funext y e2; rw [q_of, q_obind]; rfl
@[simp ↓] theorem e_b2 {o : B2} {a b : E} : EKt (ev Δ (.b2 o a b) env) K X = EKt (ev Δ a env) (fun x e1 => EKt (ev Δ b e1) (fun y e2 => OKt (re a (ef b) x e2) fun x => OKt (b2op o x y) fun z => K z e2) X) X := by
  show EK ((ev Δ a env).bind _) K X = EK _ _ _
  rw [q_bind]; congr 1; funext d e; rw [q_bind]; show EK _ _ _ = EK _ _ _; congr 1; funext y e2; rw [q_of, q_obind]; rfl
@[simp ↓] theorem e_cmp {o : Cop} {a b : E} : EKt (ev Δ (.cmp o a b) env) K X = EKt (ev Δ a env) (fun x e1 => EKt (ev Δ b e1) (fun y e2 => OKt (re a (ef b) x e2) fun x => OKt (cop o x y) fun z => K (.bl z) e2) X) X := by
  show EK ((ev Δ a env).bind _) K X = EK _ _ _
  rw [q_bind]; congr 1; funext d e; rw [q_bind]; show EK _ _ _ = EK _ _ _; congr 1; funext y e2; rw [q_of, q_obind]; show OK _ _ = OK _ _; congr 1; funext x; rw [q_omap]; rfl
@[simp ↓] theorem e_idx {a b : E} : EKt (ev Δ (.idx a b) env) K X = EKt (ev Δ a env) (fun x e1 => EKt (ev Δ b e1) (fun y e2 => OKt (reV a (ef b) x e2) fun x => OKt (ix x y) fun z => K z e2) X) X := by
  show EK ((ev Δ a env).bind _) K X = EK _ _ _
  rw [q_bind]; congr 1; funext d e; rw [q_bind]; show EK _ _ _ = EK _ _ _; congr 1; funext y e2; rw [q_of, q_obind]; rfl
@[simp ↓] theorem e_sl10 {a b : E} : EKt (ev Δ (.sl10 a b) env) K X = EKt (ev Δ a env) (fun x e1 => EKt (ev Δ b e1) (fun y e2 => OKt (re a (ef b) x e2) fun x => OKt (toI y) fun i => OKt (cut x (some i) none) fun z => K z e2) X) X := by
  show EK ((ev Δ a env).bind _) K X = EK _ _ _
  rw [q_bind]; congr 1; funext d e; rw [q_bind]; show EK _ _ _ = EK _ _ _; congr 1; funext y e2; rw [q_of, q_obind]; show OK _ _ = OK _ _; congr 1; funext x; rw [q_obind]; rfl
@[simp ↓] theorem e_sl01 {a b : E} : EKt (ev Δ (.sl01 a b) env) K X = EKt (ev Δ a env) (fun x e1 => EKt (ev Δ b e1) (fun y e2 => OKt (re a (ef b) x e2) fun x => OKt (toI y) fun i => OKt (cut x none (some i)) fun z => K z e2) X) X := by
  show EK ((ev Δ a env).bind _) K X = EK _ _ _
  rw [q_bind]; congr 1; funext d e; rw [q_bind]; show EK _ _ _ = EK _ _ _; congr 1; funext y e2; rw [q_of, q_obind]; show OK _ _ = OK _ _; congr 1; funext x; rw [q_obind]; rfl
@[simp ↓] theorem e_sl11 {a b c : E} : EKt (ev Δ (.sl11 a b c) env) K X = EKt (ev Δ a env) (fun x e1 => EKt (ev Δ b e1) (fun y e2 => NIt y fun i => EKt (ev Δ c e2) (fun z e3 => OKt (re a (ef b || ef c) x e3) fun x => OKt (toI z) fun j => OKt (cut x (some i) (some j)) fun z => K z e3) X) X) X := by
  show EK ((ev Δ a env).bind fun x e1 => (ev Δ b e1).bind fun y e2 => (match y with
    | .int i => (ev Δ c e2).bind fun z e3 => Res.of ((re a (ef b || ef c) x e3).bind fun x => (toI z).bind fun j => cut x (some i) (some j)) e3
    | _ => .bad)) K X = EK _ _ _
  rw [q_bind]; congr 1; funext d e; rw [q_bind]; show EK _ _ _ = EK _ _ _; congr 1; funext y e2
  cases y <;> first | rfl | skip
  rename_i i
  show EK ((ev Δ c e2).bind _) K X = EK _ _ _
  rw [q_bind]; congr 1; funext z e3; rw [q_of, q_obind]; show OK _ _ = OK _ _; congr 1; funext x; rw [q_obind]; rfl
@[simp ↓] theorem e_slr {a : E} : EKt (ev Δ (.slr a) env) K X = EKt (ev Δ a env) (fun x e => OKt (rvD x) fun z => K z e) X := by
  show EK ((ev Δ a env).bind _) K X = EK _ _ _
  rw [q_bind]; congr 1; funext d e; rw [q_of]; rfl
@[simp] theorem rv_lst {o : Bool} {xs : List D} {K : D → Prop} : OKt (rvD (.nd (.lst o) xs)) K = (imms xs = true ∧ K (.nd (.lst true) xs.reverse)) := by
  show OK (if imms xs then _ else _) _ = _; rw [q_oite, q_some]
@[simp] theorem rv_tup {xs : List D} {K : D → Prop} : OKt (rvD (.nd .tup xs)) K = (imms xs = true ∧ K (.nd .tup xs.reverse)) := by
  show OK (if imms xs then _ else _) _ = _; rw [q_oite, q_some]
@[simp ↓] theorem e_b1 {o : B1} {a : E} : EKt (ev Δ (.b1 o a) env) K X = EKt (ev Δ a env) (fun x e => OKt (b1op o x) fun z => K z e) X := by
  show EK ((ev Δ a env).bind _) K X = EK _ _ _
  rw [q_bind]; congr 1; funext d e; rw [q_of]; rfl
@[simp ↓] theorem e_isi {a : E} {ts : List Ty} : EKt (ev Δ (.isi a ts) env) K X = EKt (ev Δ a env) (fun x e => okTy x = true ∧ K (.bl (ts.any (isTy x))) e) X := by
  show EK ((ev Δ a env).bind _) K X = EK _ _ _
  rw [q_bind]; congr 1; funext d e; rw [q_of, q_oite, q_some]
@[simp ↓] theorem e_tup {es : Es} : EKt (ev Δ (.tup es) env) K X = EKt (evs Δ es env) (fun ds e => ds.length ≤ 16777216 ∧ K (.nd .tup ds) e) X := by
  show EK ((evs Δ es env).bind _) K X = EK _ _ _
  rw [q_bind]; congr 1; funext d e; rw [q_eite]; rfl
@[simp ↓] theorem e_lst {es : Es} : EKt (ev Δ (.lst es) env) K X = EKt (evs Δ es env) (fun ds e => ds.length ≤ 16777216 ∧ K (.nd (.lst true) ds) e) X := by
  show EK ((evs Δ es env).bind _) K X = EK _ _ _
  rw [q_bind]; congr 1; funext d e; rw [q_eite]; rfl
@[simp] theorem e_dct {t : Bool} : EKt (ev Δ (.dct t) env) K X = K (.nd (if t then .dT true [] else .dK true []) []) env := rfl
@[simp ↓] theorem e_dget {a k x : E} : EKt (ev Δ (.dget a k x) env) K X = ((ef k || ef x) = false ∧ EKt (ev Δ a env) (fun m e1 => OKt (dctA m) fun p => EKt (ev Δ k e1) (fun y e2 => EKt (ev Δ x e2) (fun z e3 => OKt (dgo p.1 p.2 y z) fun d => K d e3) X) X) X) := by
  show EK (if ef k || ef x then .bad else (ev Δ a env).bind fun m e1 => (match dctA m with
    | some (ks, xs) => (ev Δ k e1).bind fun y e2 => (ev Δ x e2).bind fun z e3 => Res.of (dgo ks xs y z) e3
    | none => .bad)) K X = _
  cases ef k || ef x with
  | true => exact propext ⟨fun h => h.elim, fun h => nomatch h.1⟩
  | false =>
    simp only [Bool.false_eq_true, if_false, true_and]
    rw [q_bind]
    show EK _ _ _ = EK _ _ _
    congr 1; funext m e1
    show EK (match dctA m with
      | some (ks, xs) => (ev Δ k e1).bind fun y e2 => (ev Δ x e2).bind fun z e3 => Res.of (dgo ks xs y z) e3
      | none => .bad) K X = OK (dctA m) _
    cases dctA m with
    | none => rw [q_none]; rfl
    | some p =>
      rw [q_some]
      show EK ((ev Δ k e1).bind _) K X = EK _ _ _
      rw [q_bind]; congr 1; funext y e2
      show EK ((ev Δ x e2).bind _) K X = EK _ _ _
      rw [q_bind]; congr 1; funext z e3; rw [q_of]; rfl
@[simp ↓] theorem g_d {r : Nat} {es : Es} {d : D} {K : List D → Prop} : OKt (asgT Δ (.dix (.var r) es) d env) K = (efs es = false ∧ OKt ((look env r).bind dct1) fun p => EKt (evs Δ es env) (fun js _ => OKt (keysOf js) fun q => imm d = true ∧ imms p.2 = true ∧ p.1.length < 16777216 ∧ js.length ≤ 16777216 ∧ K (env.set r (dput p.1 p.2 q d))) fun _ _ => False) := by
  show OK (if efs es then none else (match look env r with
      | some t => (match dct1 t with
        | some (ks, xs) => (match evs Δ es env with
          | .ok js _ => (match keysOf js with
            | some q => if imm d && (imms xs && (decide (ks.length < sizeL) && decide (js.length ≤ sizeL))) then some (env.set r (dput ks xs q d)) else none
            | none => none)
          | _ => none)
        | none => none)
      | none => none)) K = _
  cases efs es with
  | true => rw [if_pos rfl, q_none]; exact propext ⟨fun h => h.elim, fun h => nomatch h.1⟩
  | false =>
    simp only [Bool.false_eq_true, if_false, true_and]
    cases look env r with
    | none => show OK none K = OK none _; rw [q_none, q_none]
    | some t =>
      show OK (match dct1 t with
        | some (ks, xs) => (match evs Δ es env with
          | .ok js _ => (match keysOf js with
            | some q => if imm d && (imms xs && (decide (ks.length < sizeL) && decide (js.length ≤ sizeL))) then some (env.set r (dput ks xs q d)) else none
            | none => none)
          | _ => none)
        | none => none) K = OK (dct1 t) _
      cases dct1 t with
      | none => rw [q_none, q_none]
      | some p =>
        rw [q_some]
        cases evs Δ es env with
        | ok js e =>
          show OK (match keysOf js with
            | some q => if imm d && (imms p.2 && (decide (p.1.length < sizeL) && decide (js.length ≤ sizeL))) then some (env.set r (dput p.1 p.2 q d)) else none
            | none => none) K = OK (keysOf js) _
          cases keysOf js with
          | none => rw [q_none, q_none]
          | some q =>
            show OK (if imm d && (imms p.2 && (decide (p.1.length < sizeL) && decide (js.length ≤ sizeL))) then some (env.set r (dput p.1 p.2 q d)) else none) K = OK (some q) _
            rw [q_oite, q_some, q_some]
            exact propext ⟨fun ⟨h, z⟩ => by
              obtain ⟨h1, h⟩ := Bool.and_eq_true_iff.mp h
              obtain ⟨h2, h⟩ := Bool.and_eq_true_iff.mp h
              obtain ⟨h3, h4⟩ := Bool.and_eq_true_iff.mp h
              exact ⟨h1, h2, of_decide_eq_true h3, of_decide_eq_true h4, z⟩, fun ⟨h1, h2, h3, h4, z⟩ => ⟨Bool.and_eq_true_iff.mpr ⟨h1, Bool.and_eq_true_iff.mpr ⟨h2, Bool.and_eq_true_iff.mpr ⟨decide_eq_true h3, decide_eq_true h4⟩⟩⟩, z⟩⟩
        | err x e => exact q_none
        | bad => exact q_none
@[simp ↓] theorem g_i {r : Nat} {i : E} {d : D} {K : List D → Prop} : OKt (asgT Δ (.idx (.var r) i) d env) K = (ef i = false ∧ OKt ((look env r).bind lst1) fun xs => EKt (ev Δ i env) (fun j _ => OKt ((toI j).bind (ixN xs.length)) fun n => K (env.set r (.nd (.lst true) (xs.set n d)))) fun _ _ => False) := by
  show OK (if ef i then none else (match look env r with
      | some t => (match lst1 t with
        | some xs => (match ev Δ i env with
          | .ok j _ => (match (toI j).bind (ixN xs.length) with
            | some n => some (env.set r (.nd (.lst true) (xs.set n d)))
            | none => none)
          | _ => none)
        | none => none)
      | none => none)) K = _
  cases ef i with
  | true => rw [if_pos rfl, q_none]; exact propext ⟨fun h => h.elim, fun h => nomatch h.1⟩
  | false =>
    simp only [Bool.false_eq_true, if_false, true_and]
    cases look env r with
    | none => show OK none K = OK none _; rw [q_none, q_none]
    | some t =>
      show OK (match lst1 t with
        | some xs => (match ev Δ i env with
          | .ok j _ => (match (toI j).bind (ixN xs.length) with
            | some n => some (env.set r (.nd (.lst true) (xs.set n d)))
            | none => none)
          | _ => none)
        | none => none) K = OK (lst1 t) _
      cases lst1 t with
      | none => rw [q_none, q_none]
      | some xs =>
        rw [q_some]
        cases ev Δ i env with
        | ok j e =>
          show OK (match (toI j).bind (ixN xs.length) with
            | some n => some (env.set r (.nd (.lst true) (xs.set n d)))
            | none => none) K = OK ((toI j).bind (ixN xs.length)) _
          cases (toI j).bind (ixN xs.length) with
          | none => rw [q_none, q_none]
          | some n => rw [q_some]; exact (q_some (K := fun n => K (env.set r (D.nd (Kd.lst true) (xs.set n d))))).symm
        | err x e => exact q_none
        | bad => exact q_none
@[simp ↓] theorem sy_augI {r : Nat} {i : E} {o : Bop} {e : E} {ss : Ss} : Wtt (exss Δ (.cons (.augI (.var r) i o e) ss) env) Q = ((ef i || ef e) = false ∧ OKt ((look env r).bind lst1) fun xs => EKt (ev Δ i env) (fun j _ => OKt ((toI j).bind (ixN xs.length)) fun n => OKt xs[n]? fun x => EKt (ev Δ e env) (fun y _ => OKt (toI x) fun x => OKt (toI y) fun y => OKt (iop o x y) fun z => Wtt (exss Δ ss (env.set r (.nd (.lst true) (xs.set n (.int z))))) Q) Q.er) fun _ _ => False) := by
  show Wt (match (if ef i || ef e then .bad else (match look env r with
      | some t => (match lst1 t with
        | some xs => (match ev Δ i env with
          | .ok j _ => (match (toI j).bind (ixN xs.length) with
            | some n => (match xs[n]? with
              | some x => (ev Δ e env).out fun y _ => (match (toI x).bind fun x => (toI y).bind fun y => iop o x y with
                | some z => .next (env.set r (.nd (.lst true) (xs.set n (.int z))))
                | none => .bad)
              | none => .bad)
            | none => .bad)
          | _ => .bad)
        | none => .bad)
      | none => .bad)) with
    | .next e => exss Δ ss e
    | r => r) Q = _
  cases ef i || ef e with
  | true => exact propext ⟨fun h => h.elim, fun h => nomatch h.1⟩
  | false =>
    simp only [Bool.false_eq_true, if_false, true_and]
    cases look env r with
    | none => exact q_none.symm
    | some t =>
      show Wt (match (match lst1 t with
        | some xs => (match ev Δ i env with
          | .ok j _ => (match (toI j).bind (ixN xs.length) with
            | some n => (match xs[n]? with
              | some x => (ev Δ e env).out fun y _ => (match (toI x).bind fun x => (toI y).bind fun y => iop o x y with
                | some z => .next (env.set r (.nd (.lst true) (xs.set n (.int z))))
                | none => .bad)
              | none => .bad)
            | none => .bad)
          | _ => .bad)
        | none => .bad) with
    | .next e => exss Δ ss e
    | r => r) Q = OK (lst1 t) _
      cases lst1 t with
      | none => exact q_none.symm
      | some xs =>
        rw [q_some]
        cases ev Δ i env with
        | ok j e0 =>
          show Wt (match (match (toI j).bind (ixN xs.length) with
            | some n => (match xs[n]? with
              | some x => (ev Δ e env).out fun y _ => (match (toI x).bind fun x => (toI y).bind fun y => iop o x y with
                | some z => .next (env.set r (.nd (.lst true) (xs.set n (.int z))))
                | none => .bad)
              | none => .bad)
            | none => .bad) with
            | .next e => exss Δ ss e
            | r => r) Q = OK ((toI j).bind (ixN xs.length)) _
          cases (toI j).bind (ixN xs.length) with
          | none => exact q_none.symm
          | some n =>
            rw [q_some]
            show Wt (match (match xs[n]? with
              | some x => (ev Δ e env).out fun y _ => (match (toI x).bind fun x => (toI y).bind fun y => iop o x y with
                | some z => .next (env.set r (.nd (.lst true) (xs.set n (.int z))))
                | none => .bad)
              | none => .bad) with
              | .next e => exss Δ ss e
              | r => r) Q = OK xs[n]? _
            cases xs[n]? with
            | none => exact q_none.symm
            | some x =>
              rw [q_some]
              cases ev Δ e env with
              | ok y e1 =>
                show Wt (match (match (toI x).bind fun x => (toI y).bind fun y => iop o x y with
                  | some z => Out.next (env.set r (.nd (.lst true) (xs.set n (.int z))))
                  | none => Out.bad) with
                  | .next e => exss Δ ss e
                  | r => r) Q = OK (toI x) _
                cases toI x with
                | none => exact q_none.symm
                | some x =>
                  rw [q_some]
                  show Wt (match (match (toI y).bind fun y => iop o x y with
                  | some z => Out.next (env.set r (.nd (.lst true) (xs.set n (.int z))))
                  | none => Out.bad) with
                  | .next e => exss Δ ss e
                  | r => r) Q = OK (toI y) _
                  cases toI y with
                  | none => exact q_none.symm
                  | some y =>
                    rw [q_some]
                    show Wt (match (match iop o x y with
                  | some z => Out.next (env.set r (.nd (.lst true) (xs.set n (.int z))))
                  | none => Out.bad) with
                  | .next e => exss Δ ss e
                  | r => r) Q = OK (iop o x y) _
                    cases iop o x y with
                    | none => exact q_none.symm
                    | some z => exact (q_some (K := fun z => Wt (exss Δ ss (env.set r (D.nd (Kd.lst true) (xs.set n (D.int z))))) Q)).symm
              | err x e => rfl
              | bad => rfl
        | err x e => rfl
        | bad => rfl
def WK (Δ : Dl) (c : E) (b ss : Ss) (env : List D) (Q : Wn) : Prop := Wt (exss Δ (.cons (.whl c b) ss) env) Q
structure WKt (Δ : Dl) (c : E) (b ss : Ss) (env : List D) (Q : Wn) (_ : Tag Q := ⟨⟩) : Prop where
  mk ::
  h : WK Δ c b ss env Q
@[simp ↓] theorem sy_whl {c : E} {b ss : Ss} : Wtt (exss Δ (.cons (.whl c b) ss) env) Q = WKt Δ c b ss env Q := propext ⟨fun h => ⟨h⟩, fun h => h.1⟩
theorem wk_inv {c : E} {b ss : Ss} (I : Nat → List D → Prop) (n : Nat) (hn : n < Δ.w) (h0 : I n env)
    (step : ∀ n e, I n e → EKt (ev Δ c e) (fun d e1 => BKt d (Wtt (exss Δ b e1) { nx := fun e2 => ∃ m, m < n ∧ I m e2, ct := fun e2 => ∃ m, m < n ∧ I m e2, bk := fun e => Wtt (exss Δ ss e) Q, rt := Q.rt, er := Q.er }) (Wtt (exss Δ ss e1) Q)) Q.er) : WKt Δ c b ss env Q := ⟨z_whl I n hn h0 step⟩
@[simp] theorem dl_w {P : List Fn} {W n : Nat} : (dl P W n).w = W := by cases n <;> rfl
def Hd (P : List D → Prop) (e : List D) (_ : Tag P := ⟨⟩) : Prop := P e
theorem hd {P : List D → Prop} {e : List D} (h : P e) : Hd P e := h
def Hd2 (P : List D → List D → Prop) (a e : List D) (_ : Tag P := ⟨⟩) : Prop := P a e
theorem hd2 {P : List D → List D → Prop} {a e : List D} (h : P a e) : Hd2 P a e := h
def Hn (P : Nat → List D → Prop) (n : Nat) (e : List D) (_ : Tag P := ⟨⟩) : Prop := ∃ m, m < n ∧ P m e
theorem hn {P : Nat → List D → Prop} {n : Nat} {e : List D} (m : Nat) (l : m < n) (h : P m e) : Hn P n e := ⟨m, l, h⟩
theorem iff_join (M : List D → Prop) {c : E} {a b ss : Ss} (h : EKt (ev Δ c env) (fun d e => BKt d (Wtt (exss Δ a e) { nx := fun e => Hd M e, rt := Q.rt, bk := Q.bk, ct := Q.ct, er := Q.er }) (Wtt (exss Δ b e) { nx := fun e => Hd M e, rt := Q.rt, bk := Q.bk, ct := Q.ct, er := Q.er })) Q.er) (k : ∀ e, M e → Wtt (exss Δ ss e) Q) : Wtt (exss Δ (.cons (.iff c a b) ss) env) Q := by
  have go : ∀ {s : Ss} {e : List D}, Wtt (exss Δ s e) { nx := fun e => Hd M e, rt := Q.rt, bk := Q.bk, ct := Q.ct, er := Q.er } → Wtt (exss Δ (s.app ss) e) Q := fun {s e} w => by
    show Wt _ _
    rw [exss_app]
    have w : Wt (exss Δ s e) { nx := fun e => Hd M e, rt := Q.rt, bk := Q.bk, ct := Q.ct, er := Q.er } := w
    cases q : exss Δ s e with
    | next e2 => rw [q] at w; exact k e2 w
    | brk e2 => rw [q] at w; exact w
    | cont e2 => rw [q] at w; exact w
    | ret d e2 => rw [q] at w; exact w
    | err x e2 => rw [q] at w; exact w
    | bad => rw [q] at w; exact w
  rw [y_iff]
  refine EK.imp h (fun d e q => ?_) fun _ _ q => q
  cases d <;> first | exact q.elim | skip
  exact ⟨fun z => go (q.1 z), fun z => go (q.2 z)⟩
theorem lk_for {α : Type} {t : T} {b ss : Ss} {src : List Nat} {l : List α} {enc : α → D} {e1 : List D} (I : List α → List D → Prop) (h2 : I l e1)
    (h3 : ∀ a r e, (a :: r) <:+ l → I (a :: r) e → OKt (asgT Δ t (enc a) e) fun e2 => Wtt (exss Δ b e2) { nx := fun e => stay src e1 e = true ∧ Hd (I r) e, ct := fun e => stay src e1 e = true ∧ Hd (I r) e, bk := fun e => Wtt (exss Δ ss e) Q, rt := Q.rt, er := Q.er })
    (h4 : ∀ e, I [] e → Wtt (exss Δ ss e) Q) : LKt Δ t b ss src (l.map enc) e1 Q := LKt.mk (lk_inv I h2 h3 h4)
theorem wk_for {c : E} {b ss : Ss} (I : Nat → List D → Prop) (n : Nat) (hn : n < Δ.w) (h0 : I n env)
    (step : ∀ n e, I n e → EKt (ev Δ c e) (fun d e1 => BKt d (Wtt (exss Δ b e1) { nx := fun e2 => Hn I n e2, ct := fun e2 => Hn I n e2, bk := fun e => Wtt (exss Δ ss e) Q, rt := Q.rt, er := Q.er }) (Wtt (exss Δ ss e1) Q)) Q.er) : WKt Δ c b ss env Q := ⟨z_whl I n hn h0 step⟩
def chkM (i : Nat) (e : List D) : Bool := decide (e[i]? = some .hole)
def finM (i : Nat) (k : Kd) (acc e : List D) : Out := .next (e.set i (.nd k acc))
structure LM1t (Δ : Dl) (x i : Nat) (k : Kd) (b ss : Ss) (ds env : List D) (Q : Wn) (_ : Tag Q := ⟨⟩) : Prop where
  mk ::
  h : Wt (match loopM (fun d e => exss Δ b (e.set x d)) x (chkM i) (finM i k) ds [] env with
    | .next e => exss Δ ss e
    | r => r) Q
structure LM2t (Δ : Dl) (x : Nat) (b ss : Ss) (ds env : List D) (Q : Wn) (_ : Tag Q := ⟨⟩) : Prop where
  mk ::
  h : Wt (match loopM (fun d e => exss Δ b (e.set x d)) x (fun _ => true) (fun _ e => .next e) ds [] env with
    | .next e => exss Δ ss e
    | r => r) Q
def NMt (d : D) (f : Kd → List D → Prop) (_ : Tag f := ⟨⟩) : Prop := match d with
  | .nd k ds => kM k = true ∧ f k ds
  | _ => False
@[simp] theorem nmt_nd {k : Kd} {ds : List D} {f : Kd → List D → Prop} : NMt (.nd k ds) f = (kM k = true ∧ f k ds) := rfl
@[simp] theorem kM_tup : kM .tup = true := rfl
@[simp] theorem kM_lst {o : Bool} : kM (.lst o) = o := rfl
@[simp ↓] theorem sy_fom {x i : Nat} {b ss : Ss} : Wtt (exss Δ (.cons (.fom x i b) ss) env) Q = OKt (look env i) fun d => NMt d fun k ds => x < env.length ∧ x ≠ i ∧ LM1t Δ x i k b ss ds (env.set i .hole) Q := by
  show Wt (match (match look env i with
    | some (.nd k ds) => if kM k && (decide (x < env.length) && decide (x ≠ i)) then loopM (fun d e => exss Δ b (e.set x d)) x (chkM i) (finM i k) ds [] (env.set i .hole) else .bad
    | _ => .bad) with
    | .next e => exss Δ ss e
    | r => r) Q = _
  cases look env i with
  | none => rw [y_none]; rfl
  | some d =>
    rw [y_some]
    cases d with
    | nd k ds =>
      rw [nmt_nd]
      dsimp only
      by_cases c : kM k = true ∧ x < env.length ∧ x ≠ i
      · rw [if_pos (by simp [c.1, c.2.1, c.2.2])]
        exact propext ⟨fun h => ⟨c.1, c.2.1, c.2.2, ⟨h⟩⟩, fun h => h.2.2.2.1⟩
      · rw [if_neg (by simpa using c)]
        exact propext ⟨fun h => h.elim, fun h => (c ⟨h.1, h.2.1, h.2.2.1⟩).elim⟩
    | _ => rfl
@[simp ↓] theorem sy_fot {x : Nat} {e : E} {b ss : Ss} : Wtt (exss Δ (.cons (.fot x e b) ss) env) Q = (vw e = false ∧ EKt (ev Δ e env) (fun d e1 => NMt d fun k ds => x < e1.length ∧ LM2t Δ x b ss ds e1 Q) Q.er) := by
  show Wt (match (if vw e then .bad else (ev Δ e env).out fun d e1 => (match d with
    | .nd k ds => if kM k && decide (x < e1.length) then loopM (fun d e => exss Δ b (e.set x d)) x (fun _ => true) (fun _ e => .next e) ds [] e1 else .bad
    | _ => .bad)) with
    | .next e => exss Δ ss e
    | r => r) Q = _
  cases hv : vw e with
  | true => simp [Wt]
  | false =>
    simp only [Bool.false_eq_true, if_false, true_and]
    cases ev Δ e env with
    | ok d e1 =>
      show Wt (match (match d with
        | .nd k ds => if kM k && decide (x < e1.length) then loopM (fun d e => exss Δ b (e.set x d)) x (fun _ => true) (fun _ e => .next e) ds [] e1 else .bad
        | _ => .bad) with
        | .next e => exss Δ ss e
        | r => r) Q = NMt d fun k ds => x < e1.length ∧ LM2t Δ x b ss ds e1 Q
      cases d with
      | nd k ds =>
        rw [nmt_nd]
        dsimp only
        by_cases c : kM k = true ∧ x < e1.length
        · rw [if_pos (by simp [c.1, c.2])]
          exact propext ⟨fun h => ⟨c.1, c.2, ⟨h⟩⟩, fun h => h.2.2.1⟩
        · rw [if_neg (by simpa using c)]
          exact propext ⟨fun h => h.elim, fun h => (c ⟨h.1, h.2.1⟩).elim⟩
      | _ => rfl
    | err x e1 => rfl
    | bad => rfl
theorem loopM_inv {α : Type} {enc : α → D} {turn : D → List D → Out} {x : Nat} {chk : List D → Bool} {fin : List D → List D → Out} {l : List α} (I : List D → List α → List D → Prop)
    (h3 : ∀ a r acc e, (a :: r) <:+ l → I acc (a :: r) e → Wt (turn (enc a) e) { nx := fun e => OKt (look e x) fun d => chk e = true ∧ I (acc ++ [d]) r (e.set x .hole), ct := fun e => OKt (look e x) fun d => chk e = true ∧ I (acc ++ [d]) r (e.set x .hole) }) (h4 : ∀ acc e, I acc [] e → Wt (fin acc e) Q) :
    ∀ (r : List α) (acc e : List D), r <:+ l → I acc r e → Wt (loopM turn x chk fin (r.map enc) acc e) Q
  | [], acc, e, _, hI => h4 acc e hI
  | a :: r, acc, e, hs, hI => by
    have w := h3 a r acc e hs hI
    have hs' : r <:+ l := (List.suffix_cons a r).trans hs
    show Wt (match turn (enc a) e with
      | .next e => (match look e x with
        | some d' => if chk e then loopM turn x chk fin (r.map enc) (acc ++ [d']) (e.set x .hole) else .bad
        | none => .bad)
      | .cont e => (match look e x with
        | some d' => if chk e then loopM turn x chk fin (r.map enc) (acc ++ [d']) (e.set x .hole) else .bad
        | none => .bad)
      | _ => .bad) Q
    cases q : turn (enc a) e with
    | next e2 =>
      rw [q] at w
      obtain ⟨d, h1, h2, h5⟩ := w
      dsimp only
      rw [h1]
      dsimp only
      rw [if_pos h2]
      exact loopM_inv I h3 h4 r _ _ hs' h5
    | cont e2 =>
      rw [q] at w
      obtain ⟨d, h1, h2, h5⟩ := w
      dsimp only
      rw [h1]
      dsimp only
      rw [if_pos h2]
      exact loopM_inv I h3 h4 r _ _ hs' h5
    | brk e2 => rw [q] at w; exact w.elim
    | ret d e2 => rw [q] at w; exact w.elim
    | err x e2 => rw [q] at w; exact w.elim
    | bad => rw [q] at w; exact w.elim
theorem wt_then {o : Out} {ss : Ss} : Wt o { Q with nx := fun e => Wt (exss Δ ss e) Q } → Wt (match o with
    | .next e => exss Δ ss e
    | r => r) Q := by
  intro h
  cases o <;> exact h
/-- a loop that changes the items of the list in variable i, each by the variable x: I by the items behind, what is left -/
theorem lm_for {α : Type} {x i : Nat} {k : Kd} {b ss : Ss} {l : List α} {enc : α → D} {e1 : List D} (I : List D → List α → List D → Prop) (h2 : I [] l e1)
    (h3 : ∀ a r acc e, (a :: r) <:+ l → I acc (a :: r) e → Wtt (exss Δ b (e.set x (enc a))) { nx := fun e => OKt (look e x) fun d => e[i]? = some .hole ∧ Hd2 (fun acc e => I acc r e) (acc ++ [d]) (e.set x .hole), ct := fun e => OKt (look e x) fun d => e[i]? = some .hole ∧ Hd2 (fun acc e => I acc r e) (acc ++ [d]) (e.set x .hole) })
    (h4 : ∀ acc e, I acc [] e → Wtt (exss Δ ss (e.set i (.nd k acc))) Q) : LM1t Δ x i k b ss (l.map enc) e1 Q := by
  refine ⟨wt_then ?_⟩
  refine loopM_inv (Q := { Q with nx := fun e => Wt (exss Δ ss e) Q }) (fin := finM i k) (chk := chkM i) (l := l) I (fun a r acc e hs hI => ?_) (fun acc e hI => ?_) l [] e1 (List.suffix_refl l) h2
  rotate_left
  · exact h4 acc e hI
  have w := h3 a r acc e hs hI
  have w : Wt (exss Δ b (e.set x (enc a))) _ := w
  cases q : exss Δ b (e.set x (enc a)) with
  | next e2 => rw [q] at w; obtain ⟨d, h1, h2, h5⟩ := w; exact ⟨d, h1, decide_eq_true h2, h5⟩
  | cont e2 => rw [q] at w; obtain ⟨d, h1, h2, h5⟩ := w; exact ⟨d, h1, decide_eq_true h2, h5⟩
  | brk e2 => rw [q] at w; exact w.elim
  | ret d e2 => rw [q] at w; exact w.elim
  | err x e2 => rw [q] at w; exact w.elim
  | bad => rw [q] at w; exact w.elim
/-- a loop over a new list whose items are changed and dropped -/
theorem lm_forT {α : Type} {x : Nat} {b ss : Ss} {l : List α} {enc : α → D} {e1 : List D} (I : List α → List D → Prop) (h2 : I l e1)
    (h3 : ∀ a r e, (a :: r) <:+ l → I (a :: r) e → Wtt (exss Δ b (e.set x (enc a))) { nx := fun e => OKt (look e x) fun _ => Hd (I r) (e.set x .hole), ct := fun e => OKt (look e x) fun _ => Hd (I r) (e.set x .hole) })
    (h4 : ∀ e, I [] e → Wtt (exss Δ ss e) Q) : LM2t Δ x b ss (l.map enc) e1 Q := by
  refine ⟨wt_then ?_⟩
  refine loopM_inv (Q := { Q with nx := fun e => Wt (exss Δ ss e) Q }) (fin := fun _ e => .next e) (chk := fun _ => true) (l := l) (fun _ r e => I r e) (fun a r acc e hs hI => ?_) (fun acc e hI => ?_) l [] e1 (List.suffix_refl l) h2
  rotate_left
  · exact h4 e hI
  have w := h3 a r e hs hI
  have w : Wt (exss Δ b (e.set x (enc a))) _ := w
  cases q : exss Δ b (e.set x (enc a)) with
  | next e2 => rw [q] at w; obtain ⟨d, h1, h5⟩ := w; exact ⟨d, h1, rfl, h5⟩
  | cont e2 => rw [q] at w; obtain ⟨d, h1, h5⟩ := w; exact ⟨d, h1, rfl, h5⟩
  | brk e2 => rw [q] at w; exact w.elim
  | ret d e2 => rw [q] at w; exact w.elim
  | err x e2 => rw [q] at w; exact w.elim
  | bad => rw [q] at w; exact w.elim
theorem ck_for {α : Type} {ow : List Nat} {t : T} {elt : E} {src : List Nat} {l : List α} {enc : α → D} {e1 : List D} (I : List α → List D → List D → Prop) (h1 : holesE e1 ow = true) (h2 : I l [] e1)
    (h3 : ∀ a r acc e, (a :: r) <:+ l → I (a :: r) acc e → OKt (asgT Δ t (enc a) e) fun e2 => EKt (ev Δ elt e2) (fun x e3 => OKt (own elt x) fun x => stay src e1 (wipeE e3 ow) = true ∧ acc.length < 16777216 ∧ Hd2 (I r) (acc ++ [x]) (wipeE e3 ow)) fun _ _ => False) (h4 : ∀ acc e, I [] acc e → K (.nd (.lst true) acc) e) : CK1t Δ ow t elt src (l.map enc) e1 K X := CK1t.mk (ck_inv I h1 h2 h3 h4)
theorem ix_last {α : Type} {enc : α → D} {k : Kd} {l : List α} {K : D → Prop} (hk : k = .tup ∨ ∃ o, k = .lst o) (h1 : 0 < l.length) (h : ∀ a, l.getLast? = some a → K (enc a)) : OKt (ix (.nd k (l.map enc)) (.int (-1))) K := by
  have e : l[l.length - 1]? = some l[l.length - 1] := List.getElem?_eq_getElem (by omega)
  refine ⟨enc l[l.length - 1], ?_, h _ (by rw [List.getLast?_eq_getElem?]; exact e)⟩
  rw [r_map]
  have : kid k l.length (.int (-1)) = some (l.length - 1) := by
    have : ixN l.length (-1) = some (l.length - 1) := by
      unfold ixN
      rw [if_neg (by omega), if_pos (by omega)]
      congr 1; omega
    rcases hk with rfl | ⟨o, rfl⟩ <;> exact this
  rw [this]
  show (l[l.length - 1]?).map enc = _
  rw [e]; rfl
theorem mnI_sp : ∀ (l : List Int) (m : Int), mnI m l ∈ m :: l ∧ ∀ u, u ∈ m :: l → mnI m l ≤ u
  | [], m => ⟨List.mem_cons_self, fun u h => by rw [List.mem_singleton.mp h]; exact Int.le_refl _⟩
  | x :: l, m => by
    obtain ⟨h1, h2⟩ := mnI_sp l (if x < m then x else m)
    refine ⟨?_, fun u hu => ?_⟩
    · show mnI (if x < m then x else m) l ∈ _
      by_cases c : x < m
      · rw [if_pos c] at h1 ⊢; exact List.mem_cons_of_mem _ h1
      · rw [if_neg c] at h1 ⊢
        rcases List.mem_cons.mp h1 with q | q
        · rw [q]; exact List.mem_cons_self
        · exact List.mem_cons_of_mem _ (List.mem_cons_of_mem _ q)
    · show mnI (if x < m then x else m) l ≤ u
      have h3 := h2 _ List.mem_cons_self
      rcases List.mem_cons.mp hu with rfl | hu
      · split at h3 <;> split <;> omega
      · rcases List.mem_cons.mp hu with rfl | hu
        · split at h3 <;> split <;> omega
        · exact h2 u (List.mem_cons_of_mem _ hu)
theorem mxI_sp : ∀ (l : List Int) (m : Int), mxI m l ∈ m :: l ∧ ∀ u, u ∈ m :: l → u ≤ mxI m l
  | [], m => ⟨List.mem_cons_self, fun u h => by rw [List.mem_singleton.mp h]; exact Int.le_refl _⟩
  | x :: l, m => by
    obtain ⟨h1, h2⟩ := mxI_sp l (if m < x then x else m)
    refine ⟨?_, fun u hu => ?_⟩
    · show mxI (if m < x then x else m) l ∈ _
      by_cases c : m < x
      · rw [if_pos c] at h1 ⊢; exact List.mem_cons_of_mem _ h1
      · rw [if_neg c] at h1 ⊢
        rcases List.mem_cons.mp h1 with q | q
        · rw [q]; exact List.mem_cons_self
        · exact List.mem_cons_of_mem _ (List.mem_cons_of_mem _ q)
    · show u ≤ mxI (if m < x then x else m) l
      have h3 := h2 _ List.mem_cons_self
      rcases List.mem_cons.mp hu with rfl | hu
      · split at h3 <;> split <;> omega
      · rcases List.mem_cons.mp hu with rfl | hu
        · split at h3 <;> split <;> omega
        · exact h2 u (List.mem_cons_of_mem _ hu)
theorem o_mn {xs : List Int} {o : Bool} {K : D → Prop} (hx : 0 < xs.length) (h : ∀ v, v ∈ xs → (∀ u, u ∈ xs → v ≤ u) → K (.int v)) : OKt (b1op .mn (.nd (.lst o) (xs.map .int))) K := by
  cases xs with
  | nil => simp at hx
  | cons x l =>
    obtain ⟨h1, h2⟩ := mnI_sp l x
    refine ⟨_, ?_, h _ h1 h2⟩
    show (match intsOf ((x :: l).map fun a => D.int a) with
      | some (x :: r) => some (D.int (mnI x r))
      | _ => none) = _
    rw [intsOf_map, List.map_id']
theorem o_mx {xs : List Int} {o : Bool} {K : D → Prop} (hx : 0 < xs.length) (h : ∀ v, v ∈ xs → (∀ u, u ∈ xs → u ≤ v) → K (.int v)) : OKt (b1op .mx (.nd (.lst o) (xs.map .int))) K := by
  cases xs with
  | nil => simp at hx
  | cons x l =>
    obtain ⟨h1, h2⟩ := mxI_sp l x
    refine ⟨_, ?_, h _ h1 h2⟩
    show (match intsOf ((x :: l).map fun a => D.int a) with
      | some (x :: r) => some (D.int (mxI x r))
      | _ => none) = _
    rw [intsOf_map, List.map_id']
theorem in_ints {a : Int} : ∀ xs : List Int, ((xs.map D.int).all flat = true) ∧ ((xs.map D.int).any fun y => deq y (.int a)) = decide (a ∈ xs)
  | [] => by simp
  | x :: xs => by
    obtain ⟨h1, h2⟩ := in_ints (a := a) xs
    refine ⟨by rw [List.map_cons, List.all_cons, h1]; rfl, ?_⟩
    rw [List.map_cons, List.any_cons, h2]
    show (decide (x = a) || decide (a ∈ xs)) = _
    rw [Bool.eq_iff_iff]
    simp only [Bool.or_eq_true, decide_eq_true_eq, List.mem_cons]
    constructor
    · rintro (h | h)
      · exact .inl h.symm
      · exact .inr h
    · rintro (h | h)
      · exact .inl h.symm
      · exact .inr h
@[simp high] theorem c_inL {a : Int} {xs : List Int} {o : Bool} : cop .isin (.int a) (.nd (.lst o) (xs.map .int)) = some (decide (a ∈ xs)) := by
  obtain ⟨h1, h2⟩ := in_ints (a := a) xs
  show (if flat (.int a) && (xs.map D.int).all flat then some ((xs.map D.int).any fun y => deq y (.int a)) else none) = _
  rw [h1, h2]; rfl
@[simp high] theorem c_inT {a : Int} {xs : List Int} : cop .isin (.int a) (.nd .tup (xs.map .int)) = some (decide (a ∈ xs)) := by
  obtain ⟨h1, h2⟩ := in_ints (a := a) xs
  show (if flat (.int a) && (xs.map D.int).all flat then some ((xs.map D.int).any fun y => deq y (.int a)) else none) = _
  rw [h1, h2]; rfl
@[simp high] theorem c_ninL {a : Int} {xs : List Int} {o : Bool} : cop .nin (.int a) (.nd (.lst o) (xs.map .int)) = some (!decide (a ∈ xs)) := by
  obtain ⟨h1, h2⟩ := in_ints (a := a) xs
  show (if flat (.int a) && (xs.map D.int).all flat then some (!(xs.map D.int).any fun y => deq y (.int a)) else none) = _
  rw [h1, h2]; rfl
@[simp high] theorem c_ninT {a : Int} {xs : List Int} : cop .nin (.int a) (.nd .tup (xs.map .int)) = some (!decide (a ∈ xs)) := by
  obtain ⟨h1, h2⟩ := in_ints (a := a) xs
  show (if flat (.int a) && (xs.map D.int).all flat then some (!(xs.map D.int).any fun y => deq y (.int a)) else none) = _
  rw [h1, h2]; rfl
theorem br_pos {p A B : Prop} (h : p) (k : A) : BRt p A B := ⟨fun _ => k, fun z => absurd h z⟩
theorem br_neg {p A B : Prop} (h : ¬p) (k : B) : BRt p A B := ⟨fun z => absurd z h, fun _ => k⟩
theorem erase_map {α β : Type} {f : α → β} : ∀ (l : List α) (n : Nat), (l.map f).eraseIdx n = (l.eraseIdx n).map f
  | [], n => rfl
  | a :: l, 0 => rfl
  | a :: l, n + 1 => by show f a :: (l.map f).eraseIdx n = f a :: (l.eraseIdx n).map f; rw [erase_map l n]
theorem o_pop {α : Type} {enc : α → D} {l : List α} {i : Int} {K : List D × D → Prop} (hz : l.length ≤ 16777216) (h0 : 0 ≤ i) (h1 : i < l.length) (h : ∀ a, l[i.toNat]? = some a → K ((l.eraseIdx i.toNat).map enc, enc a)) : OKt (m1op .popAt (l.map enc) (.int i)) K := by
  have e : l[i.toNat]? = some (l[i.toNat]'(by omega)) := List.getElem?_eq_getElem (by omega)
  refine ⟨_, ?_, h _ e⟩
  show (if (l.map enc).length ≤ sizeL then match ixN (l.map enc).length i with
    | some n => (match (l.map enc)[n]? with
      | some d => some ((l.map enc).eraseIdx n, d)
      | none => none)
    | none => none
    else none) = _
  have sz : sizeL = 16777216 := rfl
  rw [if_pos (by rw [List.length_map]; omega), ixN_at h0 (by rw [List.length_map]; exact h1)]
  dsimp only
  rw [List.getElem?_map, e, erase_map]
  rfl
inductive Il : List D → List Int → Prop
  | nil : Il [] []
  | cons {i : Int} {xs : List D} {ys : List Int} : Il xs ys → Il (.int i :: xs) (i :: ys)
theorem Il.eq : ∀ {xs : List D} {ys : List Int}, Il xs ys → xs = ys.map D.int
  | _, _, .nil => rfl
  | _, _, .cons h => by rw [List.map_cons, ← h.eq]
theorem ix_mapT {α : Type} {enc : α → D} {k : Kd} {l : List α} {i : Int} {K : D → Prop} (hk : k = .tup ∨ ∃ o, k = .lst o) (h0 : 0 ≤ i) (h1 : i < l.length) (h : ∀ a, l[i.toNat]? = some a → K (enc a)) : OKt (ix (.nd k (l.map enc)) (.int i)) K := ix_map hk h0 h1 h
theorem ix_anyT {k : Kd} {xs : List D} {i : Int} {K : D → Prop} (hk : k = .tup ∨ ∃ o, k = .lst o) (h0 : 0 ≤ i) (h1 : i < xs.length) (h : ∀ d, d ∈ xs → K d) : OKt (ix (.nd k xs) (.int i)) K := ix_any hk h0 h1 h
theorem ix_rng {k : Kd} {xs : List D} {ys : List Int} {i : Int} {K : D → Prop} (lo hi : Int) (r : Il xs ys) (hk : k = .tup ∨ ∃ o, k = .lst o) (h0 : 0 ≤ i) (h1 : i < ys.length) (hb : ∀ y, y ∈ ys → lo ≤ y ∧ y ≤ hi) (h : ∀ y, lo ≤ y → y ≤ hi → K (.int y)) : OKt (ix (.nd k xs) (.int i)) K := by
  rw [r.eq]
  exact ix_map hk h0 h1 fun a ha => h a (hb a (List.mem_of_getElem? ha)).1 (hb a (List.mem_of_getElem? ha)).2
theorem FKt.get {r : Fo} {P : D → List D → Prop} (h : FKt r P fun _ _ => False) : ∃ d l, r = .ok d l ∧ P d l := FK.get h.1
theorem FKt.mono {r : Fo} {K K' : D → List D → Prop} (h : FKt r K' fun _ _ => False) (k : ∀ a e, K' a e → K a e) : FKt r K X := ⟨FK.imp h.1 k fun _ _ z => z.elim⟩
theorem fkt_ok {r : Fo} {d : D} {l : List D} (e : r = .ok d l) (h : K d l) : FKt r K X := ⟨FK.ok e h⟩
@[simp] theorem sy_br_true {A B : Prop} : BRt True A B = A := y_br_true
@[simp] theorem sy_br_false {A B : Prop} : BRt False A B = B := y_br_false
@[simp] theorem sy_bk {b : Bool} {A B : Prop} : BKt (.bl b) A B = BRt (b = true) A B := y_bk
@[simp] theorem sy_bind {α β : Type} {r : Res α} {k : α → List D → Res β} {K : β → List D → Prop} : EKt (r.bind k) K X = EKt r (fun a e => EKt (k a e) K X) X := y_bind
@[simp] theorem sy_of {α : Type} {o : Option α} {K : α → List D → Prop} : EKt (Res.of o env) K X = OKt o fun d => K d env := y_of
@[simp] theorem sy_ok {α : Type} {a : α} {K : α → List D → Prop} : EKt (.ok a env) K X = K a env := y_ok
@[simp] theorem sy_bad {α : Type} {K : α → List D → Prop} : EKt .bad K X = False := y_bad
@[simp] theorem sy_eite {α : Type} {c : Prop} [Decidable c] {r : Res α} {K : α → List D → Prop} : EKt (if c then r else .bad) K X = (c ∧ EKt r K X) := y_eite
@[simp] theorem sy_some {α : Type} {a : α} {K : α → Prop} : OKt (some a) K = K a := y_some
@[simp] theorem sy_none {α : Type} {K : α → Prop} : OKt (none : Option α) K = False := y_none
@[simp] theorem sy_obind {α β : Type} {o : Option α} {f : α → Option β} {K : β → Prop} : OKt (o.bind f) K = OKt o fun a => OKt (f a) K := y_obind
@[simp] theorem sy_omap {α β : Type} {o : Option α} {f : α → β} {K : β → Prop} : OKt (o.map f) K = OKt o fun a => K (f a) := y_omap
@[simp] theorem sy_oite {α : Type} {c : Prop} [Decidable c] {o : Option α} {K : α → Prop} : OKt (if c then o else none) K = (c ∧ OKt o K) := y_oite
@[simp ↓] theorem sy_chain {o p : Cop} {a b c : E} : EKt (ev Δ (.chain o p a b c) env) K X = EKt (ev Δ a env) (fun x e1 => EKt (ev Δ b e1) (fun y e2 => OKt (re a (ef b) x e2) fun x => OKt (cop o x y) fun t => BRt (t = true) (EKt (ev Δ c e2) (fun z e3 => OKt (re b (ef c) y e3) fun y => OKt (cop p y z) fun t => K (.bl t) e3) X) (K (.bl false) e2)) X) X := y_chain
@[simp ↓] theorem sy_not {a : E} : EKt (ev Δ (.not a) env) K X = EKt (ev Δ a env) (fun d e => NBt d fun b => K (.bl (!b)) e) X := y_not
@[simp ↓] theorem sy_and {es : Es} : EKt (ev Δ (.and es) env) K X = EKt (evn Δ true es env) K X := y_and
@[simp ↓] theorem sy_or {es : Es} : EKt (ev Δ (.or es) env) K X = EKt (evn Δ false es env) K X := y_or
@[simp ↓] theorem sy_nnil {k : Bool} : EKt (evn Δ k .nil env) K X = K (.bl k) env := y_nnil
@[simp ↓] theorem sy_and1 {e : E} {es : Es} : EKt (evn Δ true (.cons e es) env) K X = EKt (ev Δ e env) (fun d e1 => BKt d (EKt (evn Δ true es e1) K X) (K (.bl false) e1)) X := y_and1
@[simp ↓] theorem sy_or1 {e : E} {es : Es} : EKt (evn Δ false (.cons e es) env) K X = EKt (ev Δ e env) (fun d e1 => BKt d (K (.bl true) e1) (EKt (evn Δ false es e1) K X)) X := y_or1
@[simp ↓] theorem sy_nlast {k : Bool} {e : E} : EKt (evn Δ k (.cons e .nil) env) K X = EKt (ev Δ e env) (fun d e1 => NBt d fun b => K (.bl b) e1) X := y_nlast
@[simp] theorem sy_nb {b : Bool} {f : Bool → Prop} : NBt (.bl b) f = f b := y_nb
@[simp] theorem sy_ni {b : Int} {f : Int → Prop} : NIt (.int b) f = f b := y_ni
@[simp] theorem sy_np {x y : D} {f : D → D → Prop} : NPt [x, y] f = f x y := y_np
@[simp ↓] theorem sy_ite {c a b : E} : EKt (ev Δ (.ite c a b) env) K X = EKt (ev Δ c env) (fun d e => BKt d (EKt (ev Δ a e) (fun d e => OKt (own a d) fun d => K d e) X) (EKt (ev Δ b e) (fun d e => OKt (own b d) fun d => K d e) X)) X := y_ite
@[simp ↓] theorem sy_econs {K : List D → List D → Prop} {e : E} {es : Es} : EKt (evs Δ (.cons e es) env) K X = EKt (ev Δ e env) (fun d e1 => OKt (own e d) fun d => EKt (evs Δ es e1) (fun ds e2 => K (d :: ds) e2) X) X := y_econs
@[simp ↓] theorem sy_enil {K : List D → List D → Prop} : EKt (evs Δ .nil env) K X = K [] env := y_enil
@[simp ↓] theorem sy_anil {K : List (Option D) → List D → Prop} : EKt (eva Δ .nil env) K X = K [] env := y_anil
@[simp ↓] theorem sy_aro {K : List (Option D) → List D → Prop} {e : E} {r : As} : EKt (eva Δ (.ro e r) env) K X = EKt (ev Δ e env) (fun d e1 => EKt (eva Δ r e1) (fun ds e2 => OKt (re e (efr r) d e2) fun d => K (some d :: ds) e2) X) X := y_aro
@[simp ↓] theorem sy_amu {K : List (Option D) → List D → Prop} {i : Nat} {r : As} : EKt (eva Δ (.mu (.var i) r) env) K X = OKt (look env i) fun _ => EKt (eva Δ r env) (fun ds e2 => K (none :: ds) e2) X := y_amu
@[simp ↓] theorem sy_call {f : Nat} {as : As} : EKt (ev Δ (.call f as) env) K X = EKt (eva Δ as env) (fun ds e => OKt (pths Δ as e) fun ps => nodupB (roots ps) = true ∧ OKt (apart as ds (roots ps)) fun cl => OKt (argsD e ds ps) fun l => FKt (Δ.call f l) (fun d outs => (cl || (nof d && nofs outs)) = true ∧ OKt (putAll e ps outs) fun e' => K d e') fun x outs => (cl || nofs outs) = true ∧ OKt (putAll e ps outs) fun e' => X x e') X := y_call
@[simp ↓] theorem sy_callO {f : Nat} {a : E} : EKt (ev Δ (.callO f a) env) K X = EKt (ev Δ a env) (fun d e => vw a = false ∧ FKt (Δ.call f [d]) (fun d _ => K d e) fun x _ => X x e) X := y_callO
@[simp ↓] theorem sy_mut1 {m : M1} {i : Nat} {a : E} : EKt (ev Δ (.mut1 m (.var i) a) env) K X = OKt ((look env i).bind lst1) fun _ => EKt (ev Δ a env) (fun x env => OKt (own a x) fun x => OKt ((look env i).bind lst1) fun xs => OKt (m1op m xs x) fun p => K p.2 (env.set i (.nd (.lst true) p.1))) X := y_mut1
@[simp ↓] theorem sy_mut0 {m : M0} {i : Nat} : EKt (ev Δ (.mut0 m (.var i)) env) K X = OKt ((look env i).bind lst1) fun xs => OKt (m0op m xs) fun p => K p.2 (env.set i (.nd (.lst true) p.1)) := y_mut0
@[simp ↓] theorem sy_seq {K : List D → List D → Prop} {a : E} : EKt (evi Δ (.seq a) env) K X = EKt (ev Δ a env) (fun d e => wkd a d = true ∧ OKt (seqI d) fun l => K l e) X := y_seq
@[simp ↓] theorem sy_range1 {K : List D → List D → Prop} {a : E} : EKt (evi Δ (.range1 a) env) K X = EKt (ev Δ a env) (fun d e => OKt (toI d) fun j => small j = true ∧ K ((rng 0 j.toNat).map .int) e) X := y_range1
@[simp ↓] theorem sy_range2 {K : List D → List D → Prop} {a b : E} : EKt (evi Δ (.range2 a b) env) K X = EKt (ev Δ a env) (fun x e => NIt x fun i => EKt (ev Δ b e) (fun y e => OKt (toI y) fun j => small i = true ∧ small j = true ∧ K ((rng i (j - i).toNat).map .int) e) X) X := y_range2
@[simp ↓] theorem sy_zip {K : List D → List D → Prop} {a b : E} : EKt (evi Δ (.zip a b) env) K X = (ef b = false ∧ EKt (ev Δ a env) (fun x e => EKt (ev Δ b e) (fun y e => wkd a x = true ∧ wkd b y = true ∧ OKt (zipS x y) fun l => K l e) X) X) := y_zip
@[simp ↓] theorem sy_enum {K : List D → List D → Prop} {a : E} : EKt (evi Δ (.enum a) env) K X = EKt (ev Δ a env) (fun d e => wkd a d = true ∧ OKt (seqI d) fun l => K (idxs 0 l) e) X := y_enum
@[simp ↓] theorem sy_rev {K : List D → List D → Prop} {a : E} : EKt (evi Δ (.rev a) env) K X = EKt (ev Δ a env) (fun d e => wkd a d = true ∧ OKt (lstI d) fun l => K l.reverse e) X := y_rev
@[simp ↓] theorem sy_comp {ow : List Nat} {t : T} {it : I} {elt : E} : EKt (ev Δ (.comp ow t it elt) env) K X = EKt (evi Δ it env) (fun ds e1 => CK1t Δ ow t elt (srcs it) ds e1 K X) X := y_comp
@[simp ↓] theorem sy_compI {ow : List Nat} {t : T} {it : I} {c elt : E} : EKt (ev Δ (.compI ow t it c elt) env) K X = EKt (evi Δ it env) (fun ds e1 => CK2t Δ ow t c elt (srcs it) ds e1 K X) X := y_compI
@[simp ↓] theorem sy_nil : Wtt (exss Δ .nil env) Q = Q.nx env := y_nil
@[simp ↓] theorem sy_set {i : Nat} {e : E} {ss : Ss} : Wtt (exss Δ (.cons (.set i e) ss) env) Q = EKt (ev Δ e env) (fun d e1 => OKt (own e d) fun d => i < e1.length ∧ Wtt (exss Δ ss (e1.set i d)) Q) Q.er := y_set
@[simp ↓] theorem sy_expr {e : E} {ss : Ss} : Wtt (exss Δ (.cons (.expr e) ss) env) Q = EKt (ev Δ e env) (fun _ e1 => Wtt (exss Δ ss e1) Q) Q.er := y_expr
@[simp ↓] theorem sy_ret {e : E} {ss : Ss} : Wtt (exss Δ (.cons (.ret e) ss) env) Q = EKt (ev Δ e env) (fun d e1 => OKt (own e d) fun d => Q.rt d e1) Q.er := y_ret
@[simp ↓] theorem sy_asg {t : T} {e : E} {ss : Ss} : Wtt (exss Δ (.cons (.asg t e) ss) env) Q = EKt (ev Δ e env) (fun d e1 => OKt (own e d) fun d => OKt (asgT Δ t d e1) fun e2 => Wtt (exss Δ ss e2) Q) Q.er := y_asg
@[simp ↓] theorem sy_par {i j : Nat} {a b : E} {ss : Ss} : Wtt (exss Δ (.cons (.par i j a b) ss) env) Q = EKt (evs Δ (.cons a (.cons b .nil)) env) (fun ds e => NPt ds fun x y => (i < e.length ∧ j < e.length ∧ i ≠ j) ∧ Wtt (exss Δ ss ((e.set i x).set j y)) Q) Q.er := y_par
@[simp ↓] theorem sy_aug {i : Nat} {o : Bop} {e : E} {ss : Ss} : Wtt (exss Δ (.cons (.aug i o e) ss) env) Q = OKt ((look env i).bind toI) fun x => EKt (ev Δ e env) (fun y e1 => OKt (toI y) fun y => OKt (iop o x y) fun z => i < e1.length ∧ Wtt (exss Δ ss (e1.set i (.int z))) Q) Q.er := y_aug
@[simp ↓] theorem sy_iff {c : E} {a b ss : Ss} : Wtt (exss Δ (.cons (.iff c a b) ss) env) Q = EKt (ev Δ c env) (fun d e => BKt d (Wtt (exss Δ (a.app ss) e) Q) (Wtt (exss Δ (b.app ss) e) Q)) Q.er := y_iff
@[simp ↓] theorem sy_fo {t : T} {it : I} {b ss : Ss} : Wtt (exss Δ (.cons (.fo t it b) ss) env) Q = EKt (evi Δ it env) (fun ds e1 => LKt Δ t b ss (srcs it) ds e1 Q) Q.er := y_fo
@[simp ↓] theorem sy_ret0 {ss : Ss} : Wtt (exss Δ (.cons .ret0 ss) env) Q = Q.rt .non env := y_ret0
@[simp ↓] theorem sy_pass {ss : Ss} : Wtt (exss Δ (.cons .pass ss) env) Q = Wtt (exss Δ ss env) Q := y_pass
@[simp ↓] theorem sy_doc {ss : Ss} : Wtt (exss Δ (.cons .doc ss) env) Q = Wtt (exss Δ ss env) Q := y_doc
@[simp ↓] theorem sy_brk {ss : Ss} : Wtt (exss Δ (.cons .brk ss) env) Q = Q.bk env := y_brk
@[simp ↓] theorem sy_cont {ss : Ss} : Wtt (exss Δ (.cons .cont ss) env) Q = Q.ct env := y_cont
@[simp ↓] theorem sy_never {ss : Ss} : Wtt (exss Δ (.cons .never ss) env) Q = False := y_never
@[simp ↓] theorem sy_drop {i : Nat} {ss : Ss} : Wtt (exss Δ (.cons (.drop i) ss) env) Q = Wtt (exss Δ ss (env.set i .hole)) Q := y_drop
@[simp] theorem sy_app1 {s : S} {a b : Ss} : (Ss.cons s a).app b = .cons s (a.app b) := y_app1
@[simp] theorem sy_app0 {b : Ss} : Ss.nil.app b = b := y_app0
end Vq

namespace K13
open PySem PySem.Spec L2 Vi
def top (i : Nat) : Stmt := PySem.Challenge.pw_hourhaul_k13_laid_together_and_later.main.body.getD i (.Pass ⟨0, 0, 0, 0⟩)
def f_law_cells : Fn := ⟨4, [false, false], (.cons (.set 2 (.b1 .lis (.sl01 (.var 0) (.var 1)))) (.cons (.fo (.name 3) (.range2 (.var 1) (.b1 .len (.var 0))) (.cons (.asg (.idx (.var 2) (.bin .mod (.var 3) (.var 1))) (.bin .add (.bin .mul (.idx (.var 2) (.bin .mod (.var 3) (.var 1))) (.int 31)) (.idx (.var 0) (.var 3)))) (.cons (.drop 3) .nil))) (.cons (.ret (.mv 2)) .nil)))⟩
def f_law_pool : Fn := ⟨1, [false], (.cons (.ret (.lst (.cons (.b2 .mx (.int 0) (.bin .sub (.var 0) (.pow 10 18))) (.cons (.bin .mod (.var 0) (.pow 10 18)) (.cons (.int 0) .nil))))) .nil)⟩
def f_law_next : Fn := ⟨5, [true, false], (.cons (.iff (.cmp .gt (.idx (.var 0) (.int 0)) (.int 0)) (.cons (.set 4 (.bin .mod (.idx (.var 0) (.int 0)) (.var 1))) (.cons (.asg (.idx (.var 0) (.int 0)) (.bin .div (.idx (.var 0) (.int 0)) (.var 1))) (.cons (.ret (.var 4)) .nil))) (.cons (.drop 4) .nil)) (.cons (.asg (.idx (.var 0) (.int 2)) (.bin .add (.idx (.var 0) (.int 2)) (.int 1))) (.cons (.set 2 (.bin .mod (.bin .add (.idx (.var 0) (.int 1)) (.bin .mul (.int 7919) (.idx (.var 0) (.int 2)))) (.int 1000000007))) (.cons (.set 3 (.bin .mod (.bin .mul (.bin .add (.var 2) (.int 11)) (.bin .add (.var 2) (.int 48271))) (.int 998244353))) (.cons (.ret (.bin .mod (.bin .div (.bin .mod (.bin .mul (.var 3) (.var 3)) (.int 2147483647)) (.int 8)) (.var 1))) .nil)))))⟩
def f_law_way : Fn := ⟨6, [true, false, false], (.cons (.set 3 (.call 2 (.mu (.var 0) (.ro (.var 1) .nil)))) (.cons (.set 4 (.bin .mod (.bin .add (.bin .add (.var 3) (.int 1)) (.call 2 (.mu (.var 0) (.ro (.bin .sub (.var 1) (.int 1)) .nil)))) (.var 1))) (.cons (.iff (.and (.cons (.cmp .lt (.bin .add (.var 2) (.int 1)) (.var 1)) (.cons (.cmp .gt (.call 2 (.mu (.var 0) (.ro (.int 3) .nil))) (.int 0)) .nil))) (.cons (.par 3 4 (.var 2) (.bin .add (.var 2) (.int 1))) .nil) (.cons (.iff (.and (.cons (.cmp .gt (.var 3) (.var 4)) (.cons (.cmp .gt (.call 2 (.mu (.var 0) (.ro (.int 3) .nil))) (.int 0)) .nil))) (.cons (.par 3 4 (.var 4) (.var 3)) .nil) .nil) .nil)) (.cons (.set 5 (.idx (.lst (.cons (.int 1) (.cons (.int 2) (.cons (.int 3) (.cons (.int 5) (.cons (.int 0) (.cons (.int 1) (.cons (.int 4) (.cons (.bin .add (.int 1) (.call 2 (.mu (.var 0) (.ro (.int 9) .nil)))) .nil))))))))) (.call 2 (.mu (.var 0) (.ro (.int 8) .nil))))) (.cons (.ret (.tup (.cons (.var 3) (.cons (.var 4) (.cons (.var 5) (.cons (.idx (.lst (.cons (.int 1) (.cons (.int 1) (.cons (.int 1) (.cons (.int 2) (.cons (.int 2) (.cons (.int 3) (.cons (.int 1) (.cons (.int 4) .nil))))))))) (.call 2 (.mu (.var 0) (.ro (.int 8) .nil)))) .nil)))))) .nil)))))⟩
def f_law_net : Fn := ⟨4, [true], (.cons (.set 1 (.idx (.lst (.cons (.int 3) (.cons (.int 4) (.cons (.int 3) (.cons (.int 4) (.cons (.int 2) (.cons (.int 5) (.cons (.int 6) (.cons (.int 4) .nil))))))))) (.call 2 (.mu (.var 0) (.ro (.int 8) .nil))))) (.cons (.set 2 (.idx (.lst (.cons (.int 5) (.cons (.int 3) (.cons (.int 4) (.cons (.int 6) (.cons (.int 2) (.cons (.int 7) (.cons (.int 8) (.cons (.int 10) (.cons (.int 12) (.cons (.int 1) (.cons (.int 0) (.cons (.int 5) .nil))))))))))))) (.call 2 (.mu (.var 0) (.ro (.int 12) .nil))))) (.cons (.ret (.tup (.cons (.var 1) (.cons (.b1 .tup (.comp [3] (.name 3) (.range1 (.var 2)) (.call 3 (.mu (.var 0) (.ro (.var 1) (.ro (.var 3) .nil)))))) .nil)))) .nil)))⟩
def f_law_out : Fn := ⟨2, [false, false], (.cons (.ret (.bin .add (.idx (.var 1) (.int 0)) (.idx (.idx (.idx (.var 0) (.int 1)) (.idx (.var 1) (.int 1))) (.int 3)))) .nil)⟩
def f_law_come : Fn := ⟨6, [false, false, false, false], (.cons (.set 4 (.compI [5] (.name 5) (.seq (.var 1)) (.cmp .eq (.idx (.idx (.idx (.var 0) (.int 1)) (.idx (.var 5) (.int 1))) (.int 1)) (.var 2)) (.var 5))) (.cons (.ret (.b1 .sum (.compI [5] (.name 5) (.seq (.var 4)) (.cmp .le (.call 5 (.ro (.var 0) (.ro (.var 5) .nil))) (.var 3)) (.idx (.var 5) (.int 2))))) .nil))⟩
def f_law_left : Fn := ⟨6, [false, false, false, false], (.cons (.set 4 (.compI [5] (.name 5) (.seq (.var 1)) (.cmp .eq (.idx (.idx (.idx (.var 0) (.int 1)) (.idx (.var 5) (.int 1))) (.int 0)) (.var 2)) (.var 5))) (.cons (.ret (.b1 .sum (.compI [5] (.name 5) (.seq (.var 4)) (.cmp .le (.idx (.var 5) (.int 0)) (.var 3)) (.idx (.var 5) (.int 2))))) .nil))⟩
def f_law_plan : Fn := ⟨14, [true, false, false, false], (.cons (.set 4 (.lst .nil)) (.cons (.fo (.name 5) (.range1 (.var 2)) (.cons (.fo (.name 6) (.range1 (.b1 .len (.idx (.var 1) (.int 1)))) (.cons (.asg (.tup (.cons (.name 7) (.cons (.name 8) (.cons (.name 9) (.cons (.name 10) .nil))))) (.idx (.idx (.var 1) (.int 1)) (.var 6))) (.cons (.set 11 (.var 9)) (.cons (.iff (.cmp .gt (.var 7) (.int 0)) (.cons (.set 12 (.call 6 (.ro (.var 1) (.ro (.var 4) (.ro (.var 7) (.ro (.var 5) .nil)))))) (.cons (.set 12 (.bin .sub (.var 12) (.call 7 (.ro (.var 1) (.ro (.var 4) (.ro (.var 7) (.ro (.var 5) .nil))))))) (.cons (.set 11 (.b2 .mn (.var 9) (.var 12))) (.cons (.drop 12) .nil)))) (.cons (.drop 12) .nil)) (.cons (.iff (.or (.cons (.cmp .gt (.bin .add (.var 5) (.var 10)) (.var 2)) (.cons (.cmp .eq (.b1 .len (.var 4)) (.var 3)) .nil))) (.cons (.set 11 (.int 0)) .nil) .nil) (.cons (.iff (.and (.cons (.cmp .gt (.var 11) (.int 0)) (.cons (.cmp .gt (.call 2 (.mu (.var 0) (.ro (.int 3) .nil))) (.int 0)) .nil))) (.cons (.set 13 (.bin .mul (.call 2 (.mu (.var 0) (.ro (.int 2) .nil))) (.call 2 (.mu (.var 0) (.ro (.var 11) .nil))))) (.cons (.expr (.mut1 .append (.var 4) (.tup (.cons (.var 5) (.cons (.var 6) (.cons (.bin .sub (.var 11) (.var 13)) .nil)))))) (.cons (.drop 13) .nil))) (.cons (.drop 13) .nil)) (.cons (.drop 6) (.cons (.drop 7) (.cons (.drop 8) (.cons (.drop 9) (.cons (.drop 10) (.cons (.drop 11) (.cons (.drop 12) (.cons (.drop 13) .nil)))))))))))))) (.cons (.drop 5) (.cons (.drop 6) (.cons (.drop 11) (.cons (.drop 7) (.cons (.drop 8) (.cons (.drop 9) (.cons (.drop 10) (.cons (.drop 12) (.cons (.drop 13) .nil))))))))))) (.cons (.ret (.mv 4)) .nil)))⟩
def f_law_joined : Fn := ⟨5, [false], (.cons (.set 1 (.lst .nil)) (.cons (.fo (.tup (.cons (.name 2) (.cons (.name 3) (.cons (.name 4) .nil)))) (.seq (.b1 .srt (.var 0))) (.cons (.iff (.and (.cons (.cmp .ne (.var 1) (.lst .nil)) (.cons (.cmp .eq (.sl01 (.idx (.var 1) (.neg (.int 1))) (.int 2)) (.tup (.cons (.var 2) (.cons (.var 3) .nil)))) .nil))) (.cons (.asg (.idx (.var 1) (.neg (.int 1))) (.tup (.cons (.var 2) (.cons (.var 3) (.cons (.bin .add (.idx (.idx (.var 1) (.neg (.int 1))) (.int 2)) (.var 4)) .nil))))) .nil) (.cons (.expr (.mut1 .append (.var 1) (.tup (.cons (.var 2) (.cons (.var 3) (.cons (.var 4) .nil)))))) .nil)) (.cons (.drop 2) (.cons (.drop 3) (.cons (.drop 4) .nil))))) (.cons (.ret (.mv 1)) .nil)))⟩
def f_added_loads : Fn := ⟨5, [false], (.cons (.set 1 (.dct true)) (.cons (.fo (.tup (.cons (.name 2) (.cons (.name 3) (.cons (.name 4) .nil)))) (.seq (.var 0)) (.cons (.asg (.dix (.var 1) (.cons (.var 2) (.cons (.var 3) .nil))) (.bin .add (.dget (.var 1) (.tup (.cons (.var 2) (.cons (.var 3) .nil))) (.int 0)) (.var 4))) (.cons (.drop 2) (.cons (.drop 3) (.cons (.drop 4) .nil))))) (.cons (.drop 2) (.cons (.drop 3) (.cons (.ret (.comp [2, 3] (.tup (.cons (.name 2) (.cons (.name 3) .nil))) (.seq (.b1 .srt (.var 1))) (.tup (.cons (.var 2) (.cons (.var 3) (.cons (.idx (.var 1) (.tup (.cons (.var 2) (.cons (.var 3) .nil)))) .nil)))))) .nil)))))⟩
def f_laid_plans : Fn := ⟨2, [false, false], (.cons (.ret (.call 10 (.ro (.bin .add (.b1 .lis (.var 0)) (.b1 .lis (.var 1))) .nil))) .nil)⟩
def f_law_plan_like : Fn := ⟨4, [false, false], (.cons (.iff (.or (.cons (.not (.isi (.var 0) [.list])) (.cons (.cmp .ne (.var 0) (.var 1)) .nil))) (.cons (.ret (.bl false)) .nil) .nil) (.cons (.fo (.name 2) (.seq (.var 0)) (.cons (.iff (.or (.cons (.not (.isi (.var 2) [.tuple])) (.cons (.b1 .any (.comp [3] (.name 3) (.seq (.var 2)) (.isi (.var 3) [.bool]))) .nil))) (.cons (.ret (.bl false)) .nil) .nil) (.cons (.drop 2) .nil))) (.cons (.ret (.bl true)) .nil)))⟩
def f_law_laid_right : Fn := ⟨6, [false, false], (.cons (.set 2 (.lst (.cons (.b1 .lis (.var 0)) (.cons (.b1 .lis (.var 1)) .nil)))) (.cons (.set 3 (.call 9 (.ro (.bin .add (.var 0) (.var 1)) .nil))) (.cons (.fo (.name 4) (.range1 (.int 2)) (.cons (.set 5 (.call 11 (.ro (.idx (.var 2) (.var 4)) (.ro (.idx (.var 2) (.bin .sub (.int 1) (.var 4))) .nil)))) (.cons (.iff (.or (.cons (.not (.call 12 (.ro (.var 5) (.ro (.var 3) .nil)))) (.cons (.cmp .ne (.var 2) (.lst (.cons (.var 0) (.cons (.var 1) .nil)))) .nil))) (.cons (.ret (.bl false)) .nil) .nil) (.cons (.expr (.mut1 .append (.var 5) (.tup (.cons (.int 0) (.cons (.int 0) (.cons (.int 1) .nil)))))) (.cons (.drop 4) (.cons (.drop 5) .nil)))))) (.cons (.fot 5 (.lst (.cons (.call 11 (.ro (.idx (.var 2) (.int 0)) (.ro (.lst .nil) .nil))) (.cons (.call 11 (.ro (.lst .nil) (.ro (.idx (.var 2) (.int 0)) .nil))) .nil))) (.cons (.iff (.not (.call 12 (.ro (.var 5) (.ro (.var 0) .nil)))) (.cons (.ret (.bl false)) .nil) .nil) (.cons (.expr (.mut1 .append (.var 5) (.tup (.cons (.int 0) (.cons (.int 0) (.cons (.int 1) .nil)))))) .nil))) (.cons (.ret (.cmp .eq (.var 2) (.lst (.cons (.var 0) (.cons (.var 1) .nil))))) .nil)))))⟩
def f_later_plan : Fn := ⟨5, [false, false], (.cons (.ret (.comp [2, 3, 4] (.tup (.cons (.name 2) (.cons (.name 3) (.cons (.name 4) .nil)))) (.seq (.var 0)) (.tup (.cons (.bin .add (.var 2) (.var 1)) (.cons (.var 3) (.cons (.var 4) .nil)))))) .nil)⟩
def f_law_later_right : Fn := ⟨9, [false, false], (.cons (.set 2 (.b1 .lis (.var 0))) (.cons (.set 3 (.comp [6, 7, 8] (.tup (.cons (.name 6) (.cons (.name 7) (.cons (.name 8) .nil)))) (.seq (.var 0)) (.tup (.cons (.bin .add (.var 6) (.var 1)) (.cons (.var 7) (.cons (.var 8) .nil)))))) (.cons (.fo (.name 4) (.range1 (.int 2)) (.cons (.set 5 (.call 14 (.ro (.var 2) (.ro (.var 1) .nil)))) (.cons (.iff (.or (.cons (.not (.call 12 (.ro (.var 5) (.ro (.var 3) .nil)))) (.cons (.cmp .ne (.var 2) (.var 0)) .nil))) (.cons (.ret (.bl false)) .nil) .nil) (.cons (.expr (.mut1 .append (.var 5) (.tup (.cons (.int 0) (.cons (.int 0) (.cons (.int 1) .nil)))))) (.cons (.drop 4) (.cons (.drop 5) .nil)))))) (.cons (.ret (.cmp .eq (.var 2) (.var 0))) .nil))))⟩
def f_law : Fn := ⟨12, [false], (.cons (.fo (.name 1) (.seq (.bin .add (.lst (.cons (.int 0) .nil)) (.call 0 (.ro (.var 0) (.ro (.int 12) .nil))))) (.cons (.set 2 (.call 1 (.ro (.var 1) .nil))) (.cons (.set 3 (.call 4 (.mu (.var 2) .nil))) (.cons (.set 4 (.bin .add (.int 1) (.call 2 (.mu (.var 2) (.ro (.int 8) .nil))))) (.cons (.set 5 (.call 8 (.mu (.var 2) (.ro (.var 3) (.ro (.var 4) (.ro (.int 40) .nil)))))) (.cons (.set 6 (.call 8 (.mu (.var 2) (.ro (.var 3) (.ro (.var 4) (.ro (.int 40) .nil)))))) (.cons (.iff (.cmp .eq (.call 2 (.mu (.var 2) (.ro (.int 3) .nil))) (.int 0)) (.cons (.set 6 (.b1 .lis (.var 5))) .nil) .nil) (.cons (.set 7 (.idx (.lst (.cons (.int 1) (.cons (.int 1) (.cons (.int 10) (.cons (.int 1000) (.cons (.pow 10 8) .nil)))))) (.call 2 (.mu (.var 2) (.ro (.int 5) .nil))))) (.cons (.set 5 (.comp [9, 10, 11] (.tup (.cons (.name 9) (.cons (.name 10) (.cons (.name 11) .nil)))) (.seq (.var 5)) (.tup (.cons (.bin .mul (.var 9) (.var 7)) (.cons (.var 10) (.cons (.bin .mul (.var 11) (.var 7)) .nil)))))) (.cons (.set 6 (.comp [9, 10, 11] (.tup (.cons (.name 9) (.cons (.name 10) (.cons (.name 11) .nil)))) (.seq (.var 6)) (.tup (.cons (.bin .mul (.var 9) (.var 7)) (.cons (.var 10) (.cons (.var 11) .nil)))))) (.cons (.iff (.not (.call 13 (.ro (.var 5) (.ro (.var 6) .nil)))) (.cons (.ret (.bl false)) .nil) .nil) (.cons (.fo (.name 8) (.seq (.lst (.cons (.int 0) (.cons (.int 1) (.cons (.call 2 (.mu (.var 2) (.ro (.int 12) .nil))) (.cons (.call 2 (.mu (.var 2) (.ro (.pow 10 17) .nil))) .nil)))))) (.cons (.iff (.not (.call 15 (.ro (.var 5) (.ro (.var 8) .nil)))) (.cons (.ret (.bl false)) .nil) .nil) (.cons (.drop 8) .nil))) (.cons (.drop 1) (.cons (.drop 2) (.cons (.drop 3) (.cons (.drop 4) (.cons (.drop 5) (.cons (.drop 6) (.cons (.drop 7) (.cons (.drop 8) .nil)))))))))))))))))))) (.cons (.ret (.bl true)) .nil))⟩
def md : Md := ⟨[⟨"_law_cells", f_law_cells, ["script", "most"], ["script", "most", "cells", "k"], top 7⟩,
    ⟨"_law_pool", f_law_pool, ["cell"], ["cell"], top 5⟩,
    ⟨"_law_next", f_law_next, ["pool", "base"], ["pool", "base", "mixed", "stir", "digit"], top 6⟩,
    ⟨"_law_way", f_law_way, ["pool", "many", "k"], ["pool", "many", "k", "begin", "end", "room"], top 8⟩,
    ⟨"_law_net", f_law_net, ["pool"], ["pool", "many", "count", "k"], top 9⟩,
    ⟨"_law_out", f_law_out, ["net", "triple"], ["net", "triple"], top 10⟩,
    ⟨"_law_come", f_law_come, ["net", "plan", "place", "hour"], ["net", "plan", "place", "hour", "here", "triple"], top 11⟩,
    ⟨"_law_left", f_law_left, ["net", "plan", "place", "hour"], ["net", "plan", "place", "hour", "here", "triple"], top 12⟩,
    ⟨"_law_plan", f_law_plan, ["pool", "net", "last", "most"], ["pool", "net", "last", "most", "found", "hour", "way", "begin", "end", "room", "hours", "free", "stock", "less"], top 13⟩,
    ⟨"_law_joined", f_law_joined, ["triples"], ["triples", "found", "at", "way", "loads"], top 16⟩,
    ⟨"added_loads", f_added_loads, ["triples"], ["triples", "found", "hour", "way", "loads"], top 1⟩,
    ⟨"laid_plans", f_laid_plans, ["one", "other"], ["one", "other"], top 2⟩,
    ⟨"_law_plan_like", f_law_plan_like, ["found", "due"], ["found", "due", "triple", "number"], top 14⟩,
    ⟨"_law_laid_right", f_law_laid_right, ["one", "other"], ["one", "other", "handed", "due", "k", "found"], top 17⟩,
    ⟨"later_plan", f_later_plan, ["plan", "hours"], ["plan", "hours", "hour", "way", "loads"], top 3⟩,
    ⟨"_law_later_right", f_law_later_right, ["plan", "hours"], ["plan", "hours", "handed", "due", "turn", "found", "at", "way", "loads"], top 18⟩,
    ⟨"law", f_law, ["script"], ["script", "cell", "pool", "net", "last", "one", "other", "by", "hours", "at", "way", "loads"], top 19⟩],
    ["any", "bool", "isinstance", "len", "list", "max", "min", "range", "sorted", "sum", "tuple"], []⟩
theorem mdB : AllB md.ds := (.cons (fun _ _ _ _ _ _ us hl => match us, hl with | [_, _], _ => rfl) (.cons (fun _ _ _ _ _ _ us hl => match us, hl with | [_], _ => rfl) (.cons (fun _ _ _ _ _ _ us hl => match us, hl with | [_, _], _ => rfl) (.cons (fun _ _ _ _ _ _ us hl => match us, hl with | [_, _, _], _ => rfl) (.cons (fun _ _ _ _ _ _ us hl => match us, hl with | [_], _ => rfl) (.cons (fun _ _ _ _ _ _ us hl => match us, hl with | [_, _], _ => rfl) (.cons (fun _ _ _ _ _ _ us hl => match us, hl with | [_, _, _, _], _ => rfl) (.cons (fun _ _ _ _ _ _ us hl => match us, hl with | [_, _, _, _], _ => rfl) (.cons (fun _ _ _ _ _ _ us hl => match us, hl with | [_, _, _, _], _ => rfl) (.cons (fun _ _ _ _ _ _ us hl => match us, hl with | [_], _ => rfl) (.cons (fun _ _ _ _ _ _ us hl => match us, hl with | [_], _ => rfl) (.cons (fun _ _ _ _ _ _ us hl => match us, hl with | [_, _], _ => rfl) (.cons (fun _ _ _ _ _ _ us hl => match us, hl with | [_, _], _ => rfl) (.cons (fun _ _ _ _ _ _ us hl => match us, hl with | [_, _], _ => rfl) (.cons (fun _ _ _ _ _ _ us hl => match us, hl with | [_, _], _ => rfl) (.cons (fun _ _ _ _ _ _ us hl => match us, hl with | [_, _], _ => rfl) (.cons (fun _ _ _ _ _ _ us hl => match us, hl with | [_], _ => rfl) .nil)))))))))))))))))

theorem mdOk : (md.ds.all fun d => d.ok md) = true := by decide +kernel
end K13
set_option maxHeartbeats 4000000
local macro_rules | `(tactic| w_left) => `(tactic| dsimp only [List.length_cons, List.length_nil, Nat.zero_add, Nat.reduceAdd, Nat.reduceSub, List.replicate_succ, List.replicate_zero, List.cons_append, List.nil_append])
local macro_rules | `(tactic| o_reads) => `(tactic| repeat (with_reducible refine And.intro (by omega) ?_))
local macro_rules | `(tactic| one_sign) => `(tactic| repeat (first | (refine Vq.br_neg (by omega) ?_; simp) | (refine Vq.br_pos (by omega) ?_; simp)))
namespace K13
open PySem L2 Vi Vq
abbrev WF : Nat := 1000
/-- the pool of digits: any three numbers -/
def eP (a b c : Int) : D := .nd (.lst true) [.int a, .int b, .int c]
@[simp] theorem eP_nof {a b c : Int} : nof (eP a b c) = true := by simp [eP]
@[simp] theorem eP_look {a b c : Int} {l : List D} : look (eP a b c :: l) 0 = some (eP a b c) := rfl
theorem pool_sp {n : Nat} {c : Int} {K : D → List D → Prop} {X : Ex → List D → Prop} (h : ∀ x y z, K (eP x y z) []) : FKt ((dl md.prog WF (n+1)).call 1 [.int c]) K X := by
  refine fk_call_t (f := f_law_pool) rfl rfl rfl ?_
  dsimp only [f_law_pool]
  w_left
  simp
  exact h _ _ _
theorem next_sp {n : Nat} {a b c m : Int} {K : D → List D → Prop} {X : Ex → List D → Prop} (hm : 0 < m ∧ m ≤ 1000000000000000000000000000000000000000000000000000000000000) (h : ∀ d x y z, 0 ≤ d → d < m → K (.int d) [eP x y z]) : FKt ((dl md.prog WF (n+1)).call 2 [eP a b c, .int m]) K X := by
  refine fk_call_t (f := f_law_next) rfl rfl rfl ?_
  dsimp only [f_law_next, eP]
  w_left
  simp
  refine br_t (fun q => ?_) fun q => ?_ <;> simp
  · exact ⟨hm.1, hm, h _ _ _ _ (Int.emod_nonneg _ (by omega)) (Int.emod_lt_of_pos _ hm.1)⟩
  · have e1 := Int.emod_nonneg (b + 7919 * (c + 1)) (show (1000000007 : Int) ≠ 0 by omega)
    have e2 := Int.emod_lt_of_pos (b + 7919 * (c + 1)) (show (0 : Int) < 1000000007 by omega)
    generalize (b + 7919 * (c + 1)) % 1000000007 = u at *
    have e3 := Int.emod_nonneg ((u + 11) * (u + 48271)) (show (998244353 : Int) ≠ 0 by omega)
    have e4 := Int.emod_lt_of_pos ((u + 11) * (u + 48271)) (show (0 : Int) < 998244353 by omega)
    generalize (u + 11) * (u + 48271) % 998244353 = v at *
    o_reads
    exact h _ _ _ _ (Int.emod_nonneg _ (by omega)) (Int.emod_lt_of_pos _ hm.1)
theorem cells_sp {n : Nat} {xs : List Int} {m : Int} {K : D → List D → Prop} {X : Ex → List D → Prop} (hm : 1 ≤ m ∧ m ≤ 63) (hx : xs.length ≤ 63) (h : ∀ ys : List Int, ys.length ≤ 63 → K (.nd (.lst true) (ys.map .int)) []) : FKt ((dl md.prog WF (n+1)).call 0 [.nd (.lst false) (xs.map .int), .int m]) K X := by
  refine fk_call_t (f := f_law_cells) rfl rfl rfl ?_
  dsimp only [f_law_cells]
  w_left
  simp
  refine ⟨by omega, by omega, ?_⟩
  have hz : (xs.take m.toNat).length = min m.toNat xs.length := List.length_take
  rw [cutL_take (by omega)]
  refine lk_for (fun r e => ∃ ys : List Int, e = [.nd (.lst false) (xs.map .int), .int m, .nd (.lst true) (ys.map .int), .hole] ∧ ys.length = min m.toNat xs.length) ⟨_, rfl, hz⟩ ?_ ?_
  · rintro k r e hs ⟨ys, rfl, hy⟩
    have hk := rng_mem.mp (hs.subset List.mem_cons_self)
    have h0 := Int.emod_nonneg k (show m ≠ 0 by omega)
    have h1 := Int.emod_lt_of_pos k (show 0 < m by omega)
    simp
    refine ⟨by omega, ?_⟩
    refine ix_mapT (.inr ⟨_, rfl⟩) h0 (by omega) fun v _ => ?_
    simp
    refine ix_mapT (.inr ⟨_, rfl⟩) (by omega) (by omega) fun u _ => ?_
    simp
    refine ⟨by omega, ?_⟩
    refine ok_pos h0 (by omega) ?_
    simp
    exact hd ⟨ys.set (k % m).toNat (v * 31 + u), by simp [List.map_set], by simpa using hy⟩
  · rintro e ⟨ys, rfl, hy⟩
    simp
    exact h ys (by omega)
theorem step_ne {s k m : Int} (hs : 0 ≤ s) (hs2 : s < m) (hk : 0 ≤ k) (hk2 : k < m - 1) : (s + 1 + k) % m ≠ s ∧ 0 ≤ (s + 1 + k) % m ∧ (s + 1 + k) % m < m := by
  have hm : 0 < m := by omega
  refine ⟨?_, Int.emod_nonneg _ (by omega), Int.emod_lt_of_pos _ hm⟩
  by_cases h : s + 1 + k < m
  · rw [Int.emod_eq_of_lt (by omega) h]; omega
  · have e : s + 1 + k = (s + 1 + k - m) + m := by omega
    rw [e, Int.add_emod_right, Int.emod_eq_of_lt (by omega) (by omega)]; omega
/-- a way -/
structure Way where
  s : Int
  t : Int
  r : Int
  h : Int
  deriving DecidableEq
def eW (w : Way) : D := .nd .tup [.int w.s, .int w.t, .int w.r, .int w.h]
structure Way.ok (m : Int) (w : Way) : Prop where
  s0 : 0 ≤ w.s
  s1 : w.s < m
  t0 : 0 ≤ w.t
  t1 : w.t < m
  ne : w.s ≠ w.t
  r0 : 0 ≤ w.r
  r1 : w.r ≤ 1000000000
  h0 : 1 ≤ w.h
  h1 : w.h ≤ 1000000
def eN (m : Int) (ws : List Way) : D := .nd .tup [.int m, .nd .tup (ws.map eW)]
structure NetOk (m : Int) (ws : List Way) : Prop where
  m0 : 2 ≤ m
  m1 : m ≤ 6
  len : ws.length ≤ 12
  ok : ∀ w, w ∈ ws → w.ok m
@[simp] theorem eW_imm {w : Way} : imm (eW w) = true := by simp [eW]
@[simp] theorem eW_frz {w : Way} : frz (eW w) = eW w := by simp [eW]
@[simp] theorem eW_nof {w : Way} : nof (eW w) = true := by simp [eW]
@[simp] theorem eW_look {w : Way} {l : List D} : look (eW w :: l) 0 = some (eW w) := rfl
@[simp] theorem eW_okd {w : Way} {n : Nat} : okd (n + 2) (eW w) = true := by simp [eW]
@[simp] theorem eN_imm {m : Int} {ws : List Way} : imm (eN m ws) = true := by simp [eN]
@[simp] theorem eN_frz {m : Int} {ws : List Way} : frz (eN m ws) = eN m ws := by simp [eN]
@[simp] theorem eN_nof {m : Int} {ws : List Way} : nof (eN m ws) = true := by simp [eN]
@[simp] theorem eN_look {m : Int} {ws : List Way} {l : List D} : look (eN m ws :: l) 0 = some (eN m ws) := rfl
@[simp] theorem eN_0 {m : Int} {ws : List Way} : ix (eN m ws) (.int 0) = some (.int m) := by simp [eN]
@[simp] theorem eN_1 {m : Int} {ws : List Way} : ix (eN m ws) (.int 1) = some (.nd .tup (ws.map eW)) := by simp [eN]
theorem deq_eW (a b : Way) : deq (eW a) (eW b) = decide (a = b) := by
  cases a; cases b
  simp [eW, Bool.eq_iff_iff]
theorem eN_deq {m m' : Int} {ws ws' : List Way} : deq (eN m ws) (eN m' ws') = decide (m = m' ∧ ws = ws') := by
  have := deqs_map deq_eW ws ws'
  simp [eN, this]
@[simp] theorem eN_okd {m : Int} {ws : List Way} {n : Nat} : okd (n + 4) (eN m ws) = true := by
  simp [eN]
@[simp] theorem eN_okd' {m : Int} {ws : List Way} : okd 64 (eN m ws) = true := eN_okd (n := 60)
theorem nway_sp {n : Nat} {a b c m k : Int} {K : D → List D → Prop} {X : Ex → List D → Prop} (hm : 2 ≤ m ∧ m ≤ 6) (hk : 0 ≤ k) (h : ∀ (w : Way) (x y z : Int), w.ok m → w.r ≤ 9 → w.h ≤ 4 → K (eW w) [eP x y z]) : FKt ((dl md.prog WF (n+2)).call 3 [eP a b c, .int m, .int k]) K X := by
  refine fk_call_t (f := f_law_way) rfl rfl rfl ?_
  dsimp only [f_law_way]
  w_left
  simp [-sy_iff]
  refine next_sp (by omega) fun s _ _ _ s0 s1 => ?_
  simp [-sy_iff]
  refine next_sp (by omega) fun d _ _ _ d0 d1 => ?_
  simp [-sy_iff]
  refine ⟨by omega, ?_⟩
  obtain ⟨tn, t0, tm⟩ := step_ne s0 s1 d0 d1
  generalize (s + 1 + d) % m = t at *
  refine iff_join (fun e => ∃ s t x y z : Int, e = [eP x y z, .int m, .int k, .int s, .int t, .hole] ∧ s ≠ t ∧ 0 ≤ s ∧ s < m ∧ 0 ≤ t ∧ t < m) ?_ ?_
  · have swap : ∀ x y z : Int, Hd (fun e => ∃ s t x y z : Int, e = [eP x y z, .int m, .int k, .int s, .int t, .hole] ∧ s ≠ t ∧ 0 ≤ s ∧ s < m ∧ 0 ≤ t ∧ t < m) [eP x y z, .int m, .int k, .int t, .int s, .hole] := fun x y z => hd ⟨_, _, _, _, _, rfl, tn, t0, tm, s0, s1⟩
    have keep : ∀ x y z : Int, Hd (fun e => ∃ s t x y z : Int, e = [eP x y z, .int m, .int k, .int s, .int t, .hole] ∧ s ≠ t ∧ 0 ≤ s ∧ s < m ∧ 0 ≤ t ∧ t < m) [eP x y z, .int m, .int k, .int s, .int t, .hole] := fun x y z => hd ⟨_, _, _, _, _, rfl, Ne.symm tn, s0, s1, t0, tm⟩
    simp
    refine br_t (fun _ => ?_) fun _ => ?_ <;> simp
    · refine next_sp (by omega) fun d _ _ _ d0 d1 => ?_
      simp
      refine br_t (fun _ => ?_) fun _ => ?_ <;> simp
      · exact hd ⟨_, _, _, _, _, rfl, by omega⟩
      · refine br_t (fun _ => ?_) fun _ => ?_ <;> simp
        · refine next_sp (by omega) fun d _ _ _ d0 d1 => ?_
          simp
          refine br_t (fun _ => ?_) fun _ => ?_ <;> simp
          · exact swap _ _ _
          · exact keep _ _ _
        · exact keep _ _ _
    · refine br_t (fun _ => ?_) fun _ => ?_ <;> simp
      · refine next_sp (by omega) fun d _ _ _ d0 d1 => ?_
        simp
        refine br_t (fun _ => ?_) fun _ => ?_ <;> simp
        · exact swap _ _ _
        · exact keep _ _ _
      · exact keep _ _ _
  · rintro e ⟨s, t, x, y, z, rfl, c1, c2, c3, c4, c5⟩
    simp
    refine next_sp (by omega) fun d _ _ _ d0 d1 => ?_
    simp
    refine next_sp (by omega) fun i _ _ _ i0 i1 => ?_
    simp
    refine ix_rng 0 9 (by repeat constructor) (.inr ⟨_, rfl⟩) i0 (by simp; omega) (by simp; omega) fun r r0 r1 => ?_
    simp
    refine next_sp (by omega) fun i _ _ _ i0 i1 => ?_
    simp
    refine ix_rng 1 4 (by repeat constructor) (.inr ⟨_, rfl⟩) i0 (by simp; omega) (by simp) fun v v0 v1 => ?_
    simp
    exact h ⟨s, t, r, v⟩ _ _ _ ⟨c2, c3, c4, c5, c1, r0, (by show r ≤ 1000000000; omega), v0, (by show v ≤ 1000000; omega)⟩ r1 v1
theorem nnet_sp {n : Nat} {a b c : Int} {K : D → List D → Prop} {X : Ex → List D → Prop} (h : ∀ (m : Int) (ws : List Way) (x y z : Int), NetOk m ws → (∀ w, w ∈ ws → w.r ≤ 9 ∧ w.h ≤ 4) → K (eN m ws) [eP x y z]) : FKt ((dl md.prog WF (n+3)).call 4 [eP a b c]) K X := by
  refine fk_call_t (f := f_law_net) rfl rfl rfl ?_
  dsimp only [f_law_net]
  w_left
  simp
  refine next_sp (by omega) fun i _ _ _ i0 i1 => ?_
  simp
  refine ix_rng 2 6 (by repeat constructor) (.inr ⟨_, rfl⟩) i0 (by simp; omega) (by simp) fun m m0 m1 => ?_
  simp
  refine next_sp (by omega) fun i _ _ _ i0 i1 => ?_
  simp
  refine ix_rng 0 12 (by repeat constructor) (.inr ⟨_, rfl⟩) i0 (by simp; omega) (by simp) fun u u0 u1 => ?_
  simp
  refine ⟨by omega, ?_⟩
  refine ck_for (fun r acc e => ∃ ws, ∃ x y z : Int, e = [eP x y z, .int m, .int u, .hole] ∧ acc = ws.map eW ∧ ws.length + r.length ≤ 12 ∧ ∀ w, w ∈ ws → w.ok m ∧ w.r ≤ 9 ∧ w.h ≤ 4) (by rfl) ⟨[], _, _, _, rfl, rfl, by rw [rng_length]; simp; omega, by simp⟩ ?_ ?_
  · rintro k r acc e hs ⟨ws, x, y, z, rfl, rfl, hl, hw⟩
    have hk := rng_mem.mp (hs.subset List.mem_cons_self)
    simp at hl
    simp
    refine nway_sp ⟨m0, m1⟩ (by omega) fun w _ _ _ w0 w1 w2 => ?_
    simp
    refine ⟨by omega, hd2 ⟨ws ++ [w], _, _, _, rfl, by simp, by simp; omega, fun v hv => ?_⟩⟩
    rcases List.mem_append.mp hv with q | q
    · exact hw v q
    · rw [List.mem_singleton.mp q]; exact ⟨w0, w1, w2⟩
  · rintro acc e ⟨ws, x, y, z, rfl, rfl, hl, hw⟩
    simp at hl
    simp
    exact h m ws _ _ _ ⟨m0, m1, hl, fun w q => (hw w q).1⟩ fun w q => (hw w q).2
/-- a triple of a plan -/
structure Tr where
  h : Int
  w : Int
  l : Int
  deriving DecidableEq
def eT (x : Tr) : D := .nd .tup [.int x.h, .int x.w, .int x.l]
@[simp] theorem eT_imm {w : Tr} : imm (eT w) = true := by simp [eT]
@[simp] theorem eT_frz {w : Tr} : frz (eT w) = eT w := by simp [eT]
@[simp] theorem eT_nof {w : Tr} : nof (eT w) = true := by simp [eT]
@[simp] theorem eT_look {w : Tr} {l : List D} : look (eT w :: l) 0 = some (eT w) := rfl
@[simp] theorem eT_okd {w : Tr} {n : Nat} : okd (n + 2) (eT w) = true := by simp [eT]
theorem deq_eT (a b : Tr) : deq (eT a) (eT b) = decide (a = b) := by
  cases a; cases b
  simp [eT, Bool.eq_iff_iff]
def wy (ws : List Way) (k : Int) : Way := ws.getD k.toNat ⟨0, 0, 0, 0⟩
theorem wy_at {ws : List Way} {k : Int} {w : Way} (h : ws[k.toNat]? = some w) : wy ws k = w := by
  unfold wy; rw [List.getD_eq_getElem?_getD, h]; rfl
/-- the ways of a plan are there -/
def Ways (ws : List Way) (P : List Tr) : Prop := ∀ x, x ∈ P → 0 ≤ x.w ∧ x.w < ws.length
def sif (p : Tr → Prop) [DecidablePred p] (P : List Tr) : Int := (P.map fun x => if p x then x.l else 0).sum
theorem sif_nil (p : Tr → Prop) [DecidablePred p] : sif p [] = 0 := rfl
theorem sif_cons (p : Tr → Prop) [DecidablePred p] (x : Tr) (P : List Tr) : sif p (x :: P) = (if p x then x.l else 0) + sif p P := by simp [sif]
theorem sif_app (p : Tr → Prop) [DecidablePred p] (P Q : List Tr) : sif p (P ++ Q) = sif p P + sif p Q := by simp [sif]
theorem sif_filter (p : Tr → Prop) [DecidablePred p] (P : List Tr) : ((P.filter fun x => decide (p x)).map Tr.l).sum = sif p P := by
  induction P with
  | nil => rfl
  | cons x P ih =>
    rw [sif_cons, List.filter_cons]
    by_cases c : p x
    · rw [if_pos (by simpa using c), if_pos c, List.map_cons, List.sum_cons, ih]
    · rw [if_neg (by simpa using c), if_neg c, ih]; omega
/-- what has come to a place by an hour, what has left it -/
def come (ws : List Way) (P : List Tr) (p t : Int) : Int := sif (fun x => (wy ws x.w).t = p ∧ x.h + (wy ws x.w).h ≤ t) P
def left (ws : List Way) (P : List Tr) (p t : Int) : Int := sif (fun x => (wy ws x.w).s = p ∧ x.h ≤ t) P
theorem lout_sp {n : Nat} {m : Int} {ws : List Way} {x : Tr} {K : D → List D → Prop} {X : Ex → List D → Prop} (hx : 0 ≤ x.w ∧ x.w < ws.length) (h : K (.int (x.h + (wy ws x.w).h)) []) : FKt ((dl md.prog WF (n+1)).call 5 [eN m ws, eT x]) K X := by
  refine fk_call_t (f := f_law_out) rfl rfl rfl ?_
  dsimp only [f_law_out]
  w_left
  simp
  simp [eT]
  refine ix_mapT (.inl rfl) hx.1 hx.2 fun w hw => ?_
  rw [wy_at hw] at h
  simp [eW]
  exact h
theorem lcome_sp {n : Nat} {m p t : Int} {ws : List Way} {P : List Tr} {K : D → List D → Prop} {X : Ex → List D → Prop} (hP : Ways ws P) (hl : P.length ≤ 1000) (h : K (.int (come ws P p t)) []) : FKt ((dl md.prog WF (n+2)).call 6 [eN m ws, .nd (.lst false) (P.map eT), .int p, .int t]) K X := by
  refine fk_call_t (f := f_law_come) rfl rfl rfl ?_
  dsimp only [f_law_come]
  w_left
  simp
  refine ck_filter_t eT (fun x => decide ((wy ws x.w).t = p)) (by rfl) (by omega) (fun x hx => ?_) ?_
  · have hx := hP x hx
    simp
    simp [eT]
    refine ix_mapT (.inl rfl) hx.1 hx.2 fun w hw => ?_
    simp [eW]
    refine br_t (fun c => ?_) fun c => ?_ <;> simp [c, wy_at hw]
  have hf : (P.filter fun x => decide ((wy ws x.w).t = p)).length ≤ P.length := List.length_filter_le _ _
  simp
  refine ck_filter_t (fun x => .int x.l) (fun x => decide (x.h + (wy ws x.w).h ≤ t)) (by rfl) (by omega) (fun x hx => ?_) ?_
  · have hx := hP x (List.mem_filter.mp hx).1
    simp
    refine lout_sp hx ?_
    simp
    refine br_t (fun c => ?_) fun c => ?_ <;> simp [c]
    simp [eT]
  simp
  have e : (((P.filter fun x => decide ((wy ws x.w).t = p)).filter fun x => decide (x.h + (wy ws x.w).h ≤ t)).map Tr.l).sum = come ws P p t := by
    unfold come
    rw [← sif_filter, List.filter_filter]
    congr 2
    refine List.filter_congr fun x _ => ?_
    rw [Bool.eq_iff_iff]; simp [and_comm]
  rw [← e] at h
  simpa using h
theorem lleft_sp {n : Nat} {m p t : Int} {ws : List Way} {P : List Tr} {K : D → List D → Prop} {X : Ex → List D → Prop} (hP : Ways ws P) (hl : P.length ≤ 1000) (h : K (.int (left ws P p t)) []) : FKt ((dl md.prog WF (n+2)).call 7 [eN m ws, .nd (.lst false) (P.map eT), .int p, .int t]) K X := by
  refine fk_call_t (f := f_law_left) rfl rfl rfl ?_
  dsimp only [f_law_left]
  w_left
  simp
  refine ck_filter_t eT (fun x => decide ((wy ws x.w).s = p)) (by rfl) (by omega) (fun x hx => ?_) ?_
  · have hx := hP x hx
    simp
    simp [eT]
    refine ix_mapT (.inl rfl) hx.1 hx.2 fun w hw => ?_
    simp [eW]
    refine br_t (fun c => ?_) fun c => ?_ <;> simp [c, wy_at hw]
  have hf : (P.filter fun x => decide ((wy ws x.w).s = p)).length ≤ P.length := List.length_filter_le _ _
  simp
  refine ck_filter_t (fun x => .int x.l) (fun x => decide (x.h ≤ t)) (by rfl) (by omega) (fun x hx => ?_) ?_
  · simp
    simp [eT]
    refine br_t (fun c => ?_) fun c => ?_ <;> simp [c]
  simp
  have e : (((P.filter fun x => decide ((wy ws x.w).s = p)).filter fun x => decide (x.h ≤ t)).map Tr.l).sum = left ws P p t := by
    unfold left
    rw [← sif_filter, List.filter_filter]
    congr 2
    refine List.filter_congr fun x _ => ?_
    rw [Bool.eq_iff_iff]; simp [and_comm]
  rw [← e] at h
  simpa using h
def Tr.lt (a b : Tr) : Prop := a.h < b.h ∨ (a.h = b.h ∧ a.w < b.w)
/-- a right plan -/
structure PlOk (ws : List Way) (last : Int) (P : List Tr) : Prop where
  ways : Ways ws P
  rise : P.Pairwise Tr.lt
  each : ∀ x, x ∈ P → 0 ≤ x.h ∧ 1 ≤ x.l ∧ x.l ≤ (wy ws x.w).r ∧ x.h + (wy ws x.w).h ≤ last
  right : ∀ p, 0 < p → ∀ t, left ws P p t ≤ come ws P p t
theorem sif_le {p q : Tr → Prop} [DecidablePred p] [DecidablePred q] : ∀ {P : List Tr}, (∀ x, x ∈ P → 1 ≤ x.l) → (∀ x, x ∈ P → p x → q x) → sif p P ≤ sif q P
  | [], _, _ => Int.le_refl _
  | x :: P, h, k => by
    have ih := sif_le (P := P) (fun x hx => h x (List.mem_cons_of_mem _ hx)) (fun x hx => k x (List.mem_cons_of_mem _ hx))
    have h1 := h x List.mem_cons_self
    have k1 := k x List.mem_cons_self
    rw [sif_cons, sif_cons]
    by_cases c : p x
    · rw [if_pos c, if_pos (k1 c)]; omega
    · rw [if_neg c]; split <;> omega
theorem sif_false : ∀ P : List Tr, sif (fun _ => False) P = 0
  | [] => rfl
  | x :: P => by rw [sif_cons, if_neg fun z => z, sif_false P]; rfl
theorem sif_eq {p q : Tr → Prop} [DecidablePred p] [DecidablePred q] : ∀ {P : List Tr}, (∀ x, x ∈ P → (p x ↔ q x)) → sif p P = sif q P
  | [], _ => rfl
  | x :: P, k => by
    have ih := sif_eq (P := P) (p := p) (q := q) (fun x hx => k x (List.mem_cons_of_mem _ hx))
    have k1 := k x List.mem_cons_self
    rw [sif_cons, sif_cons, ih]
    by_cases c : p x
    · rw [if_pos c, if_pos (k1.mp c)]
    · rw [if_neg c, if_neg fun z => c (k1.mpr z)]
theorem PlOk.snoc {m : Int} {ws : List Way} {last : Int} {P : List Tr} (hN : NetOk m ws) (ok : PlOk ws last P) {h k L : Int} (hk : 0 ≤ k ∧ k < ws.length) (h0 : 0 ≤ h) (hb : ∀ x, x ∈ P → Tr.lt x ⟨h, k, L⟩)
    (l1 : 1 ≤ L) (l2 : L ≤ (wy ws k).r) (l3 : h + (wy ws k).h ≤ last) (l4 : 0 < (wy ws k).s → L ≤ come ws P (wy ws k).s h - left ws P (wy ws k).s h) : PlOk ws last (P ++ [⟨h, k, L⟩]) := by
  refine ⟨fun x hx => ?_, ?_, fun x hx => ?_, fun p hp t => ?_⟩
  · rcases List.mem_append.mp hx with z | z
    · exact ok.ways x z
    · rw [List.mem_singleton.mp z]; exact hk
  · refine List.pairwise_append.mpr ⟨ok.rise, List.pairwise_singleton _ _, fun a ha b hb' => ?_⟩
    rw [List.mem_singleton.mp hb']; exact hb a ha
  · rcases List.mem_append.mp hx with z | z
    · exact ok.each x z
    · rw [List.mem_singleton.mp z]; exact ⟨h0, l1, l2, l3⟩
  · have e1 : left ws (P ++ [⟨h, k, L⟩]) p t = left ws P p t + if (wy ws k).s = p ∧ h ≤ t then L else 0 := by
      unfold left; rw [sif_app]; simp [sif]
    have e2 : come ws (P ++ [⟨h, k, L⟩]) p t = come ws P p t + if (wy ws k).t = p ∧ h + (wy ws k).h ≤ t then L else 0 := by
      unfold come; rw [sif_app]; simp [sif]
    have r := ok.right p hp t
    rw [e1, e2]
    by_cases c : (wy ws k).s = p ∧ h ≤ t
    · rw [if_pos c]
      have l4 := l4 (by omega)
      rw [c.1] at l4
      have a1 : left ws P p t = left ws P p h := sif_eq fun x hx => by
        have := hb x hx
        unfold Tr.lt at this
        dsimp only at this
        constructor <;> (intro z; exact ⟨z.1, by omega⟩)
      have a2 : come ws P p h ≤ come ws P p t := sif_le (fun x hx => (ok.each x hx).2.1) fun x hx z => ⟨z.1, by omega⟩
      split <;> omega
    · rw [if_neg c]; split <;> omega
theorem rng_cons {j i : Int} {r : List Int} (h : j :: r = rng i (j :: r).length) : j = i ∧ r = rng (i + 1) r.length := by
  constructor
  · have := congrArg List.head? h
    simpa [rng] using this
  · have := congrArg List.tail h
    simpa [rng] using this
theorem lplan_sp {n : Nat} {m a b c last most : Int} {ws : List Way} {K : D → List D → Prop} {X : Ex → List D → Prop} (hN : NetOk m ws) (hl : 0 ≤ last ∧ last ≤ 1000) (hm : 0 ≤ most ∧ most ≤ 1000) (h : ∀ (P : List Tr) (x y z : Int), PlOk ws last P → P.length ≤ most.toNat → K (.nd (.lst true) (P.map eT)) [eP x y z]) : FKt ((dl md.prog WF (n+3)).call 8 [eP a b c, eN m ws, .int last, .int most]) K X := by
  have hwl := hN.len
  refine fk_call_t (f := f_law_plan) rfl rfl rfl ?_
  dsimp only [f_law_plan]
  w_left
  simp
  refine ⟨by omega, ?_⟩
  refine lk_for (fun r e => ∃ d4 x y z, e = [eP x y z, eN m ws, .int last, .int most, d4, .hole, .hole, .hole, .hole, .hole, .hole, .hole, .hole, .hole] ∧ ∃ i : Int, ∃ P : List Tr, r = rng i r.length ∧ 0 ≤ i ∧ d4 = .nd (.lst true) (P.map eT) ∧ PlOk ws last P ∧ P.length ≤ most.toNat ∧ ∀ x, x ∈ P → x.h < i) ⟨_, _, _, _, rfl, 0, [], by rw [rng_length], by omega, rfl, ⟨fun _ h => (nomatch h), .nil, fun _ h => (nomatch h), fun _ _ _ => Int.le_refl _⟩, Nat.zero_le _, fun _ h => (nomatch h)⟩ ?_ ?_
  · rintro hr r e hs ⟨d4, x, y, z, rfl, i, P, hi, i0, rfl, ok, hlen, hb⟩
    obtain ⟨rfl, hi2⟩ := rng_cons hi
    simp
    refine ⟨by omega, ?_⟩
    refine lk_for (fun r2 e => ∃ d4 x y z, e = [eP x y z, eN m ws, .int last, .int most, d4, .int hr, .hole, .hole, .hole, .hole, .hole, .hole, .hole, .hole] ∧ ∃ k : Int, ∃ P : List Tr, r2 = rng k r2.length ∧ 0 ≤ k ∧ k + r2.length = ws.length ∧ d4 = .nd (.lst true) (P.map eT) ∧ PlOk ws last P ∧ P.length ≤ most.toNat ∧ ∀ x, x ∈ P → x.h < hr ∨ (x.h = hr ∧ x.w < k)) ⟨_, _, _, _, rfl, 0, P, by rw [rng_length], by omega, by rw [rng_length]; simp, rfl, ok, hlen, fun x hx => .inl (hb x hx)⟩ ?_ ?_
    · rintro k r2 e hs2 ⟨d4, x, y, z, rfl, i, Q, hk, k0, kl, rfl, ok, hlen, hb⟩
      obtain ⟨rfl, hk2⟩ := rng_cons hk
      simp at kl
      simp
      refine ix_mapT (.inl rfl) k0 (by omega) fun w hw => ?_
      have ew := wy_at hw
      have wok := hN.ok w (List.mem_of_getElem? hw)
      have wr0 := wok.r0
      have wh0 := wok.h0
      simp [eW, -sy_iff]
      refine iff_join (fun e => ∃ free : Int, e = [eP x y z, eN m ws, .int last, .int most, .nd (.lst true) (Q.map eT), .int hr, .int k, .int w.s, .int w.t, .int w.r, .int w.h, .int free, .hole, .hole] ∧ free ≤ w.r ∧ (0 < w.s → free ≤ come ws Q w.s hr - left ws Q w.s hr)) ?_ ?_
      · simp
        refine br_t (fun c1 => ?_) fun c1 => ?_ <;> simp
        · refine lcome_sp ok.ways (by omega) ?_
          simp
          refine lleft_sp ok.ways (by omega) ?_
          simp
          refine hd ⟨_, rfl, ?_, fun _ => ?_⟩ <;> split <;> omega
        · exact hd ⟨_, rfl, by omega, fun z => absurd z c1⟩
      · rintro e ⟨free, rfl, f1, f2⟩
        refine iff_join (fun e => ∃ free : Int, e = [eP x y z, eN m ws, .int last, .int most, .nd (.lst true) (Q.map eT), .int hr, .int k, .int w.s, .int w.t, .int w.r, .int w.h, .int free, .hole, .hole] ∧ (0 < free → free ≤ w.r ∧ (0 < w.s → free ≤ come ws Q w.s hr - left ws Q w.s hr) ∧ hr + w.h ≤ last ∧ Q.length < most.toNat)) ?_ ?_
        · simp
          refine br_t (fun c1 => ?_) fun c1 => ?_ <;> simp
          · exact hd ⟨_, rfl, fun z => absurd z (by omega)⟩
          · refine br_t (fun c2 => ?_) fun c2 => ?_ <;> simp
            · exact hd ⟨_, rfl, fun z => absurd z (by omega)⟩
            · exact hd ⟨_, rfl, fun z => ⟨f1, f2, by omega, by omega⟩⟩
        · rintro e ⟨free, rfl, f3⟩
          have fin : ∀ x y z : Int, ∃ d4 x' y' z', [eP x y z, eN m ws, .int last, .int most, .nd (.lst true) (Q.map eT), .int hr, .hole, .hole, .hole, .hole, .hole, .hole, .hole, .hole] = [eP x' y' z', eN m ws, .int last, .int most, d4, .int hr, .hole, .hole, .hole, .hole, .hole, .hole, .hole, .hole] ∧ ∃ j : Int, ∃ P : List Tr, r2 = rng j r2.length ∧ 0 ≤ j ∧ j + r2.length = ws.length ∧ d4 = .nd (.lst true) (P.map eT) ∧ PlOk ws last P ∧ P.length ≤ most.toNat ∧ ∀ x, x ∈ P → x.h < hr ∨ (x.h = hr ∧ x.w < j) :=
            fun x y z => ⟨_, _, _, _, rfl, k + 1, Q, hk2, by omega, by omega, rfl, ok, hlen, fun x hx => by rcases hb x hx with q | q <;> omega⟩
          simp
          refine br_t (fun c1 => ?_) fun c1 => ?_ <;> simp
          · obtain ⟨f4, f5, f6, f7⟩ := f3 c1
            refine next_sp (by omega) fun s _ _ _ s0 s1 => ?_
            simp
            refine br_t (fun c2 => ?_) fun c2 => ?_ <;> simp
            · refine next_sp (by omega) fun u _ _ _ u0 u1 => ?_
              simp
              have wr1 := wok.r1
              refine next_sp (by omega) fun v x' y' z' v0 v1 => ?_
              simp
              have uv : 0 ≤ u * v ∧ u * v < free := by
                have : u = 0 ∨ u = 1 := by omega
                rcases this with rfl | rfl <;> omega
              refine ⟨by omega, by omega, hd ⟨_, _, _, _, rfl, k + 1, Q ++ [⟨hr, k, free - u * v⟩], hk2, by omega, by omega, by simp [eT], ok.snoc hN ⟨k0, by omega⟩ (by omega) (fun x hx => ?_) (by omega) (by rw [ew]; omega) (by rw [ew]; exact f6) (by rw [ew]; exact fun z => Int.le_trans (by omega) (f5 z)), by simp; omega, fun x hx => ?_⟩⟩
              · rcases hb x hx with q | q
                · exact .inl q
                · exact .inr q
              · rcases List.mem_append.mp hx with q | q
                · rcases hb x q with q | q <;> omega
                · rw [List.mem_singleton.mp q]; exact .inr ⟨rfl, by show k < k + 1; omega⟩
            · exact hd (fin _ _ _)
          · exact hd (fin _ _ _)
    · rintro e ⟨d4, x, y, z, rfl, k, Q, hk, k0, kl, rfl, ok, hlen, hb⟩
      simp
      exact hd ⟨_, _, _, _, rfl, hr + 1, Q, hi2, by omega, rfl, ok, hlen, fun x hx => by rcases hb x hx with q | q <;> omega⟩
  · rintro e ⟨d4, x, y, z, rfl, i, P, hi, i0, rfl, ok, hlen, hb⟩
    simp
    exact h P _ _ _ ok hlen
theorem okds_map60 {α : Type} {enc : α → D} {n : Nat} (h : ∀ a, okd n (enc a) = true) : ∀ l : List α, okds n (l.map enc) = true
  | [] => by unfold okds; rfl
  | a :: l => by
    show okds n (enc a :: l.map enc) = true
    unfold okds
    rw [h a, okds_map60 h l]; rfl
theorem srtOk_map {α : Type} {enc : α → D} (h1 : ∀ a, tupN (enc a) = true) (h2 : ∀ a, imm (enc a) = true) (h3 : ∀ a, okd 60 (enc a) = true) (h4 : ∀ a b, alk (enc a) (enc b) = true) (l : List α) : srtOk (l.map enc) = true := by
  unfold srtOk
  rw [Bool.and_eq_true, Bool.and_eq_true, Bool.and_eq_true]
  refine ⟨?_, imms_map h2 l, okds_map60 h3 l, ?_⟩
  · simp [List.all_eq_true, h1]
  · simp [List.all_eq_true, h4]
theorem srt_merge {α : Type} {enc : α → D} {le : α → α → Bool} (h5 : ∀ a b, leD (enc a) (enc b) = le a b) (l : List α) : (l.map enc).mergeSort leD = (l.mergeSort le).map enc :=
  (PySem.W.sort_maps (r := le) (s := leD) enc fun a _ b _ => (h5 a b).symm).symm
/-- a list of tuples sorted -/
theorem b_srt_map {α : Type} {enc : α → D} {o : Bool} {l : List α} {le : α → α → Bool} {K : D → Prop} (h1 : ∀ a, tupN (enc a) = true) (h2 : ∀ a, imm (enc a) = true) (h3 : ∀ a, okd 60 (enc a) = true) (h4 : ∀ a b, alk (enc a) (enc b) = true) (h5 : ∀ a b, leD (enc a) (enc b) = le a b)
    (h : K (.nd (.lst true) ((l.mergeSort le).map enc))) : OKt (b1op .srt (.nd (.lst o) (l.map enc))) K := by
  refine ⟨_, ?_, h⟩
  show (match intsOf (l.map enc) with
    | some l => some (D.nd (.lst true) ((srtI l).map .int))
    | none => srtT (l.map enc)) = _
  cases l with
  | nil => simp [intsOf, srtI]
  | cons a l =>
    have e : intsOf ((a :: l).map enc) = none := by
      have t := h1 a
      show intsOf (enc a :: l.map enc) = none
      cases q : enc a with
      | nd k xs => rfl
      | _ => rw [q] at t; exact absurd t (by simp [tupN])
    rw [e]
    show srtT ((a :: l).map enc) = _
    unfold srtT
    rw [if_pos (srtOk_map h1 h2 h3 h4 _), srt_merge h5]
/-- the keys of a dict sorted -/
theorem b_srt_keys {α : Type} {enc : α → D} {kf : α → List Key} {o : Bool} {l : List α} {xs : List D} {le : α → α → Bool} {K : D → Prop} (h0 : ∀ a, keyD (kf a) = enc a) (h1 : ∀ a, tupN (enc a) = true) (h2 : ∀ a, imm (enc a) = true) (h3 : ∀ a, okd 60 (enc a) = true) (h4 : ∀ a b, alk (enc a) (enc b) = true) (h5 : ∀ a b, leD (enc a) (enc b) = le a b)
    (h : K (.nd (.lst true) ((l.mergeSort le).map enc))) : OKt (b1op .srt (.nd (.dT o (l.map kf)) xs)) K := by
  refine ⟨_, ?_, h⟩
  show srtT ((l.map kf).map keyD) = _
  have e : (l.map kf).map keyD = l.map enc := by rw [List.map_map]; exact List.map_congr_left fun a _ => h0 a
  rw [e]
  unfold srtT
  rw [if_pos (srtOk_map h1 h2 h3 h4 _), srt_merge h5]
theorem lt_int (a b : Int) : ltD (.int a) (.int b) = decide (a < b) := rfl
theorem lt_tup (xs ys : List D) : ltD (.nd .tup xs) (.nd .tup ys) = ltDs xs ys := rfl
theorem lt_cons (x y : D) (xs ys : List D) : ltDs (x :: xs) (y :: ys) = if deq x y then ltDs xs ys else ltD x y := rfl
theorem lt_nil : ltDs [] [] = false := rfl
def Tr.le (a b : Tr) : Bool := decide (a.h < b.h ∨ a.h = b.h ∧ (a.w < b.w ∨ a.w = b.w ∧ a.l ≤ b.l))
theorem eT_le (a b : Tr) : leD (eT a) (eT b) = Tr.le a b := by
  cases a with
  | mk ah ak al =>
    cases b with
    | mk bh bk bl =>
      show (!ltD (.nd .tup [.int bh, .int bk, .int bl]) (.nd .tup [.int ah, .int ak, .int al])) = decide (ah < bh ∨ ah = bh ∧ (ak < bk ∨ ak = bk ∧ al ≤ bl))
      rw [lt_tup, lt_cons, lt_cons, lt_cons, lt_nil, lt_int, lt_int, lt_int]
      by_cases c1 : bh = ah <;> by_cases c2 : bk = ak <;> by_cases c3 : bl = al <;> (rw [Bool.eq_iff_iff]; simp [c1, c2, c3]) <;> omega
theorem eT_alk (a b : Tr) : alk (eT a) (eT b) = true := by simp [eT]
theorem eT_tup (a : Tr) : tupN (eT a) = true := by simp [eT]
theorem sum_perm {l m : List Int} (h : l.Perm m) : l.sum = m.sum := by
  induction h with
  | nil => rfl
  | cons x _ ih => simp [ih]
  | swap x y l => simp; omega
  | trans _ _ a b => exact a.trans b
theorem ok_m1 {n : Nat} {K : Nat → Prop} (h0 : 0 < n) (h : K (n - 1)) : OKt (ixN n (-1)) K := by
  refine ⟨n - 1, ?_, h⟩
  unfold ixN
  rw [if_neg (by omega), if_pos (by omega)]
  congr 1
  omega
/-- triples of like hour and way as one -/
structure Jd (S A : List Tr) : Prop where
  rise : A.Pairwise Tr.lt
  sums : ∀ (q : Int → Int → Prop) [∀ a b, Decidable (q a b)], sif (fun x => q x.h x.w) A = sif (fun x => q x.h x.w) S
  from_ : ∀ x, x ∈ A → 1 ≤ x.l ∧ ∃ y, y ∈ S ∧ y.h = x.h ∧ y.w = x.w
  len : A.length ≤ S.length
def Tr.ke (a b : Tr) : Prop := a.h < b.h ∨ (a.h = b.h ∧ a.w ≤ b.w)
theorem Jd.nil : Jd [] [] := ⟨.nil, fun _ _ => rfl, fun _ h => (nomatch h), Nat.le_refl _⟩
theorem Jd.snoc {S A : List Tr} (h : Jd S A) {x : Tr} (hx : 1 ≤ x.l) (hb : ∀ y, y ∈ A → Tr.lt y x) : Jd (S ++ [x]) (A ++ [x]) := by
  refine ⟨List.pairwise_append.mpr ⟨h.rise, List.pairwise_singleton _ _, fun a ha b hb' => ?_⟩, fun q _ => ?_, fun y hy => ?_, by have := h.len; simp; omega⟩
  · rw [List.mem_singleton.mp hb']; exact hb a ha
  · rw [sif_app, sif_app, h.sums q]
  · rcases List.mem_append.mp hy with z | z
    · obtain ⟨a, u, hu, e⟩ := h.from_ y z
      exact ⟨a, u, List.mem_append_left _ hu, e⟩
    · rw [List.mem_singleton.mp z]
      exact ⟨hx, x, by simp, rfl, rfl⟩
theorem Jd.more {S A : List Tr} {z : Tr} (h : Jd S (A ++ [z])) {x : Tr} (hx : 1 ≤ x.l) (e1 : z.h = x.h) (e2 : z.w = x.w) : Jd (S ++ [x]) (A ++ [⟨x.h, x.w, z.l + x.l⟩]) := by
  obtain ⟨p1, p2, p3⟩ := List.pairwise_append.mp h.rise
  have hz := h.from_ z (by simp)
  refine ⟨List.pairwise_append.mpr ⟨p1, List.pairwise_singleton _ _, fun a ha b hb' => ?_⟩, fun q _ => ?_, fun y hy => ?_, by have := h.len; simp at this ⊢; omega⟩
  · rw [List.mem_singleton.mp hb']
    have := p3 a ha z (by simp)
    unfold Tr.lt at this ⊢
    dsimp only
    rw [← e1, ← e2]; exact this
  · have s := h.sums q
    rw [sif_app] at s
    rw [sif_app, sif_app, ← s]
    by_cases c : q x.h x.w
    · have c2 : q z.h z.w := by rw [e1, e2]; exact c
      simp [sif, c, c2]; omega
    · have c2 : ¬q z.h z.w := by rw [e1, e2]; exact c
      simp [sif, c, c2]
  · rcases List.mem_append.mp hy with w | w
    · obtain ⟨a, u, hu, e⟩ := h.from_ y (List.mem_append_left _ w)
      exact ⟨a, u, List.mem_append_left _ hu, e⟩
    · rw [List.mem_singleton.mp w]
      refine ⟨by have := hz.1; dsimp only; omega, x, by simp, rfl, rfl⟩
theorem Jd.perm {S S' A : List Tr} (h : Jd S A) (hp : S.Perm S') : Jd S' A :=
  ⟨h.rise, fun q _ => by rw [h.sums q]; exact sum_perm (hp.map _), fun x hx => by
    obtain ⟨a, u, hu, e⟩ := h.from_ x hx
    exact ⟨a, u, hp.mem_iff.mp hu, e⟩, by rw [← hp.length_eq]; exact h.len⟩
theorem Tr.le_total (a b : Tr) : (Tr.le a b || Tr.le b a) = true := by
  simp [Tr.le]; omega
theorem Tr.le_trans (a b c : Tr) (h : Tr.le a b = true) (g : Tr.le b c = true) : Tr.le a c = true := by
  simp [Tr.le] at *; omega
theorem joined_sp {n : Nat} {F : List Tr} {K : D → List D → Prop} {X : Ex → List D → Prop} (hl : F.length ≤ 1000) (h1 : ∀ x, x ∈ F → 1 ≤ x.l) (h : ∀ A : List Tr, Jd F A → K (.nd (.lst true) (A.map eT)) []) : FKt ((dl md.prog WF (n+1)).call 9 [.nd (.lst false) (F.map eT)]) K X := by
  refine fk_call_t (f := f_law_joined) rfl rfl rfl ?_
  dsimp only [f_law_joined]
  w_left
  simp
  refine b_srt_map eT_tup (fun _ => eT_imm) (fun _ => eT_okd) eT_alk eT_le ?_
  obtain ⟨S, hS⟩ : ∃ S, S = F.mergeSort Tr.le := ⟨_, rfl⟩
  have sp : S.Perm F := by rw [hS]; exact List.mergeSort_perm _ _
  have ss : S.Pairwise Tr.ke := by
    rw [hS]
    refine (List.pairwise_mergeSort Tr.le_trans Tr.le_total F).imp fun {a b} g => ?_
    simp [Tr.le] at g
    unfold Tr.ke; omega
  rw [← hS]
  try simp
  refine lk_for (fun r e => ∃ d1, e = [.nd (.lst false) (F.map eT), d1, .hole, .hole, .hole] ∧ ∃ A done : List Tr, d1 = .nd (.lst true) (A.map eT) ∧ S = done ++ r ∧ Jd done A ∧ ∀ x, x ∈ A → ∀ y, y ∈ r → Tr.ke x y) ⟨_, rfl, [], [], rfl, rfl, Jd.nil, fun _ h => (nomatch h)⟩ ?_ ?_
  · rintro x r e hs ⟨_, rfl, A, done, rfl, hd1, jd, hk⟩
    have hx1 : 1 ≤ x.l := h1 x (sp.mem_iff.mp (by rw [hd1]; simp))
    have hxr : ∀ y, y ∈ r → Tr.ke x y := by
      rw [hd1] at ss
      exact (List.pairwise_cons.mp (List.pairwise_append.mp ss).2.1).1
    have hlen : done.length ≤ S.length := by rw [hd1]; simp
    have hlS := sp.length_eq
    have hjl := jd.len
    simp [eT]
    refine br_t (fun c1 => ?_) fun c1 => ?_ <;> simp
    · have lp := List.length_pos_iff.mpr c1
      refine ix_last (.inr ⟨_, rfl⟩) lp fun z hz => ?_
      obtain ⟨A0, e0⟩ := List.getLast?_eq_some_iff.mp hz
      simp [eT]
      rw [cutL_take (by omega)]
      simp
      refine br_t (fun c2 => ?_) fun c2 => ?_ <;> simp
      · refine ix_last (.inr ⟨_, rfl⟩) lp fun z' hz' => ?_
        rw [hz] at hz'
        cases hz'
        simp [eT]
        refine ok_m1 lp ?_
        simp
        refine hd ⟨_, rfl, A0 ++ [⟨x.h, x.w, z.l + x.l⟩], done ++ [x], ?_, by rw [hd1]; simp, ?_, fun y hy u hu => ?_⟩
        · rw [e0]; simp [eT]
        · rw [e0] at jd
          exact jd.more hx1 c2.1 c2.2
        · rcases List.mem_append.mp hy with v | v
          · exact hk y (by rw [e0]; exact List.mem_append_left _ v) u (List.mem_cons_of_mem _ hu)
          · rw [List.mem_singleton.mp v]
            exact hxr u hu
      · refine ⟨by omega, ?_⟩
        refine hd ⟨_, rfl, A ++ [x], done ++ [x], by simp [eT], by rw [hd1]; simp, jd.snoc hx1 fun y hy => ?_, fun y hy u hu => ?_⟩
        · have a := hk z (by rw [e0]; simp) x List.mem_cons_self
          have b : y = z ∨ Tr.lt y z := by
            rw [e0] at hy jd
            rcases List.mem_append.mp hy with v | v
            · exact .inr ((List.pairwise_append.mp jd.rise).2.2 y v z (by simp))
            · exact .inl (List.mem_singleton.mp v)
          unfold Tr.ke at a
          unfold Tr.lt at b ⊢
          rcases b with rfl | b <;> omega
        · rcases List.mem_append.mp hy with v | v
          · exact hk y v u (List.mem_cons_of_mem _ hu)
          · rw [List.mem_singleton.mp v]
            exact hxr u hu
    · have c1 : A = [] := Classical.not_not.mp c1
      subst c1
      refine ⟨by simp, ?_⟩
      exact hd ⟨_, rfl, [x], done ++ [x], by simp [eT], by rw [hd1]; simp, jd.snoc hx1 fun _ h => (nomatch h), fun y hy u hu => by rw [List.mem_singleton.mp hy]; exact hxr u hu⟩
  · rintro e ⟨_, rfl, A, done, rfl, hd1, jd, hk⟩
    rw [List.append_nil] at hd1
    subst hd1
    simp
    exact h A (jd.perm sp)
theorem mem_sif {p : Tr → Prop} [DecidablePred p] : ∀ {P : List Tr}, (∀ x, x ∈ P → 1 ≤ x.l) → ∀ x, x ∈ P → p x → x.l ≤ sif p P
  | [], _, _, h, _ => nomatch h
  | y :: P, hl, x, hx, px => by
    have hl' := fun x hx => hl x (List.mem_cons_of_mem y hx)
    have s0 := sif_le (p := fun _ => False) (q := p) hl' fun _ _ z => z.elim
    rw [sif_false] at s0
    rw [sif_cons]
    have := hl y List.mem_cons_self
    rcases List.mem_cons.mp hx with rfl | z
    · rw [if_pos px]; omega
    · have := mem_sif hl' x z px
      split <;> omega
/-- a dict of hours and ways -/
abbrev Mp := List ((Int × Int) × Int)
def kM (p : (Int × Int) × Int) : List Key := [.inl p.1.1, .inl p.1.2]
def eM (m : Mp) : D := .nd (.dT true (m.map kM)) (m.map fun p => .int p.2)
def mget (m : Mp) (k : Int × Int) : Option Int := match m with
  | [] => none
  | p :: r => if p.1 = k then some p.2 else mget r k
def mput (m : Mp) (k : Int × Int) (v : Int) : Mp := if (mget m k).isSome then m.map (fun p => if p.1 = k then (p.1, v) else p) else m ++ [(k, v)]
theorem kM_eq (p : (Int × Int) × Int) (k : Int × Int) : kM p = [.inl k.1, .inl k.2] ↔ p.1 = k := by
  constructor
  · intro h
    simp [kM] at h
    exact Prod.ext h.1 h.2
  · rintro rfl; rfl
theorem kGet_M {k : Int × Int} : ∀ m : Mp, kGet [.inl k.1, .inl k.2] (m.map kM) (m.map fun p => D.int p.2) = (mget m k).map .int
  | [] => rfl
  | p :: r => by
    show (if kM p = [.inl k.1, .inl k.2] then some (D.int p.2) else kGet _ (r.map kM) (r.map fun p => D.int p.2)) = ((if p.1 = k then some p.2 else mget r k).map .int)
    by_cases c : p.1 = k
    · rw [if_pos ((kM_eq p k).mpr c), if_pos c]; rfl
    · rw [if_neg fun z => c ((kM_eq p k).mp z), if_neg c, kGet_M r]
theorem kHas_M {k : Int × Int} : ∀ m : Mp, kHas [.inl k.1, .inl k.2] (m.map kM) = (mget m k).isSome
  | [] => rfl
  | p :: r => by
    show (if kM p = [.inl k.1, .inl k.2] then true else kHas _ (r.map kM)) = ((if p.1 = k then some p.2 else mget r k).isSome)
    by_cases c : p.1 = k
    · rw [if_pos ((kM_eq p k).mpr c), if_pos c]; rfl
    · rw [if_neg fun z => c ((kM_eq p k).mp z), if_neg c, kHas_M r]
theorem kPut_M {k : Int × Int} {v : Int} : ∀ m : Mp, kPut [.inl k.1, .inl k.2] (D.int v) (m.map kM) (m.map fun p => D.int p.2) = (m.map fun p => if p.1 = k then (p.1, v) else p).map fun p => D.int p.2
  | [] => rfl
  | p :: r => by
    show (if kM p = [.inl k.1, .inl k.2] then D.int v else D.int p.2) :: kPut _ _ (r.map kM) (r.map fun p => D.int p.2) = D.int (if p.1 = k then (p.1, v) else p).2 :: _
    rw [kPut_M r]
    by_cases c : p.1 = k
    · rw [if_pos ((kM_eq p k).mpr c), if_pos c]
    · rw [if_neg fun z => c ((kM_eq p k).mp z), if_neg c]
theorem keys_put {k : Int × Int} {v : Int} (m : Mp) : (m.map fun p => if p.1 = k then (p.1, v) else p).map kM = m.map kM := by
  rw [List.map_map]
  refine List.map_congr_left fun p _ => ?_
  show kM (if p.1 = k then (p.1, v) else p) = kM p
  split <;> rfl
theorem dput_M {m : Mp} {a b v : Int} : dput (m.map kM) (m.map fun p => D.int p.2) [.inl a, .inl b] (.int v) = eM (mput m (a, b) v) := by
  unfold dput mput eM
  rw [show ([.inl a, .inl b] : List Key) = [.inl (a, b).1, .inl (a, b).2] from rfl, kHas_M m]
  cases (mget m (a, b)).isSome with
  | true => rw [if_pos rfl, if_pos rfl, kPut_M, keys_put]
  | false => rw [if_neg Bool.false_ne_true, if_neg Bool.false_ne_true]; simp [kM]
theorem dgo_M {m : Mp} {a b z : Int} : dgo (m.map kM) (m.map fun p => D.int p.2) (.nd .tup [.int a, .int b]) (.int z) = some (.int ((mget m (a, b)).getD z)) := by
  have e : keyQ (.nd .tup [.int a, .int b]) = some [.inl a, .inl b] := rfl
  unfold dgo
  rw [e]
  show (match kGet [.inl (a, b).1, .inl (a, b).2] (m.map kM) (m.map fun p => D.int p.2) with
    | some d => if imm d then some d else none
    | none => _) = _
  rw [kGet_M]
  cases mget m (a, b) <;> rfl
theorem ix_M {m : Mp} {a b : Int} : ix (eM m) (.nd .tup [.int a, .int b]) = (mget m (a, b)).map .int := by
  have e : keyQ (.nd .tup [.int a, .int b]) = some [.inl a, .inl b] := rfl
  unfold eM
  rw [ix_dT, e]
  exact kGet_M (k := (a, b)) m
/-- loads added by hour and way -/
def addAll (P : List Tr) : Mp := P.foldl (fun m x => mput m (x.h, x.w) ((mget m (x.h, x.w)).getD 0 + x.l)) []
def pLe (a b : Int × Int) : Bool := decide (a.1 < b.1 ∨ a.1 = b.1 ∧ a.2 ≤ b.2)
def ePr (a : Int × Int) : D := .nd .tup [.int a.1, .int a.2]
theorem ePr_le (a b : Int × Int) : leD (ePr a) (ePr b) = pLe a b := by
  show (!ltD (.nd .tup [.int b.1, .int b.2]) (.nd .tup [.int a.1, .int a.2])) = decide (a.1 < b.1 ∨ a.1 = b.1 ∧ a.2 ≤ b.2)
  rw [lt_tup, lt_cons, lt_cons, lt_nil, lt_int, lt_int]
  by_cases c1 : b.1 = a.1 <;> by_cases c2 : b.2 = a.2 <;> (rw [Bool.eq_iff_iff]; simp [c1, c2]) <;> omega
def added (P : List Tr) : List Tr := (((addAll P).map Prod.fst).mergeSort pLe).map fun k => ⟨k.1, k.2, (mget (addAll P) k).getD 0⟩
theorem mput_len (m : Mp) (k : Int × Int) (v : Int) : (mput m k v).length ≤ m.length + 1 := by
  unfold mput; split <;> simp
theorem fold_len : ∀ (P : List Tr) (m : Mp), (P.foldl (fun m x => mput m (x.h, x.w) ((mget m (x.h, x.w)).getD 0 + x.l)) m).length ≤ m.length + P.length
  | [], m => Nat.le_refl _
  | x :: P, m => by
    have := fold_len P (mput m (x.h, x.w) ((mget m (x.h, x.w)).getD 0 + x.l))
    have := mput_len m (x.h, x.w) ((mget m (x.h, x.w)).getD 0 + x.l)
    rw [List.foldl_cons, List.length_cons]; omega
theorem mget_mem {k : Int × Int} : ∀ {m : Mp}, k ∈ m.map Prod.fst → ∃ v, mget m k = some v
  | [], h => by simp at h
  | p :: r, h => by
    show ∃ v, (if p.1 = k then some p.2 else mget r k) = some v
    by_cases c : p.1 = k
    · exact ⟨_, by rw [if_pos c]⟩
    · rw [if_neg c]
      exact mget_mem (by rcases List.mem_cons.mp h with z | z; exact absurd z.symm c; exact z)
theorem added_sp {n : Nat} {P : List Tr} {K : D → List D → Prop} {X : Ex → List D → Prop} (hl : P.length ≤ 1000) (h : K (.nd (.lst true) ((added P).map eT)) []) : FKt ((dl md.prog WF (n+1)).call 10 [.nd (.lst false) (P.map eT)]) K X := by
  refine fk_call_t (f := f_added_loads) rfl rfl rfl ?_
  dsimp only [f_added_loads]
  w_left
  simp
  rw [show D.nd (Kd.dT true []) [] = eM [] from rfl]
  refine lk_for (fun r e => ∃ d1, e = [.nd (.lst false) (P.map eT), d1, .hole, .hole, .hole] ∧ ∃ Q, P = Q ++ r ∧ d1 = eM (addAll Q)) ⟨_, rfl, [], rfl, rfl⟩ ?_ ?_
  · rintro x r e hs ⟨_, rfl, Q, hQ, rfl⟩
    have lq : (addAll Q).length ≤ 1000 := by
      have := fold_len Q []
      have : P.length = Q.length + (r.length + 1) := by rw [hQ, List.length_append, List.length_cons]
      unfold addAll
      simp at *
      omega
    have e1 : addAll (Q ++ [x]) = mput (addAll Q) (x.h, x.w) ((mget (addAll Q) (x.h, x.w)).getD 0 + x.l) := by simp [addAll]
    have fin : ∃ d1, [.nd (.lst false) (P.map eT), eM (addAll (Q ++ [x])), D.hole, .hole, .hole] = [.nd (.lst false) (P.map eT), d1, .hole, .hole, .hole] ∧ ∃ Q, P = Q ++ r ∧ d1 = eM (addAll Q) := ⟨_, rfl, Q ++ [x], by rw [hQ]; simp, rfl⟩
    rw [e1, ← dput_M] at fin
    generalize addAll Q = M at *
    simp [eT, eM]
    refine ⟨_, dgo_M, ?_⟩
    simp
    refine ⟨_, (rfl : keysOf [.int x.h, .int x.w] = some [.inl x.h, .inl x.w]), ?_⟩
    simp
    refine ⟨by omega, hd ?_⟩
    obtain ⟨d1, e2, Q2, e3, e4⟩ := fin
    exact ⟨d1, e2, Q2, e3, e4⟩
  · rintro e ⟨_, rfl, Q, hQ, rfl⟩
    rw [List.append_nil] at hQ
    subst hQ
    simp [eM]
    have lq : (addAll P).length ≤ 1000 := by
      have := fold_len P []
      unfold addAll
      simp at *
      omega
    have ek : (addAll P).map kM = ((addAll P).map Prod.fst).map fun k => ([.inl k.1, .inl k.2] : List Key) := by rw [List.map_map]; rfl
    have hix : ∀ k : Int × Int, k ∈ (addAll P).map Prod.fst → ix (.nd (.dT true ((addAll P).map kM)) ((addAll P).map fun p => D.int p.2)) (.nd .tup [.int k.1, .int k.2]) = some (.int ((mget (addAll P) k).getD 0)) := fun k hk => by
      obtain ⟨v, hv⟩ := mget_mem hk
      have := ix_M (m := addAll P) (a := k.1) (b := k.2)
      unfold eM at this
      rw [this, show (k.1, k.2) = k from rfl, hv]; rfl
    unfold added at h
    generalize addAll P = M at *
    rw [ek] at hix ⊢
    refine b_srt_keys (enc := ePr) (fun _ => rfl) (fun _ => rfl) (fun _ => rfl) (fun _ => rfl) (fun _ _ => rfl) ePr_le ?_
    simp
    refine ⟨imms_map (fun _ => rfl) _, ?_⟩
    refine ck_map_t (fun k => eT ⟨k.1, k.2, (mget M k).getD 0⟩) (by rfl) (by rw [List.length_mergeSort, List.length_map]; omega) (fun k hk => ?_) ?_
    · have hk : k ∈ M.map Prod.fst := (List.mergeSort_perm _ _).mem_iff.mp hk
      simp [ePr]
      have hx := hix k hk
      rw [List.map_map] at hx
      refine ⟨_, hx, ?_⟩
      simp [eT]
    simp
    rw [List.map_map] at h
    exact h
def Tr.key (x : Tr) : Int × Int := (x.h, x.w)
def sq (q : Int × Int → Prop) [DecidablePred q] (m : Mp) : Int := (m.map fun p => if q p.1 then p.2 else 0).sum
theorem sq_cons (q : Int × Int → Prop) [DecidablePred q] (p : (Int × Int) × Int) (m : Mp) : sq q (p :: m) = (if q p.1 then p.2 else 0) + sq q m := by simp [sq]
theorem mget_none {k : Int × Int} : ∀ {m : Mp}, mget m k = none → ∀ p, p ∈ m → p.1 ≠ k
  | [], _, p, hp => nomatch hp
  | a :: r, h, p, hp => by
    have h : (if a.1 = k then some a.2 else mget r k) = none := h
    by_cases c : a.1 = k
    · rw [if_pos c] at h; cases h
    · rw [if_neg c] at h
      rcases List.mem_cons.mp hp with rfl | hp
      · exact c
      · exact mget_none h p hp
theorem rep_id {k : Int × Int} {v : Int} : ∀ {m : Mp}, (∀ p, p ∈ m → p.1 ≠ k) → (m.map fun p => if p.1 = k then (p.1, v) else p) = m
  | [], _ => rfl
  | a :: r, h => by
    rw [List.map_cons, if_neg (h a List.mem_cons_self), rep_id fun p hp => h p (List.mem_cons_of_mem _ hp)]
theorem rep_keys {k : Int × Int} {v : Int} (m : Mp) : (m.map fun p => if p.1 = k then (p.1, v) else p).map Prod.fst = m.map Prod.fst := by
  rw [List.map_map]
  refine List.map_congr_left fun p _ => ?_
  show (if p.1 = k then (p.1, v) else p).1 = p.1
  split <;> rfl
theorem sq_rep (q : Int × Int → Prop) [DecidablePred q] {k : Int × Int} {v old : Int} : ∀ {m : Mp}, (m.map Prod.fst).Nodup → mget m k = some old → sq q (m.map fun p => if p.1 = k then (p.1, v) else p) = sq q m + if q k then v - old else 0
  | [], _, h => by cases h
  | a :: r, hn, h => by
    have h : (if a.1 = k then some a.2 else mget r k) = some old := h
    obtain ⟨n1, n2⟩ := List.nodup_cons.mp (show (a.1 :: r.map Prod.fst).Nodup from hn)
    rw [List.map_cons, sq_cons, sq_cons]
    by_cases c : a.1 = k
    · rw [if_pos c] at h
      cases h
      rw [if_pos c, rep_id fun p hp e => n1 (List.mem_map.mpr ⟨p, hp, e.trans c.symm⟩), c]
      split <;> omega
    · rw [if_neg c] at h
      rw [if_neg c, sq_rep q n2 h]; omega
theorem mput_inv (q : Int × Int → Prop) [DecidablePred q] {m : Mp} (hn : (m.map Prod.fst).Nodup) (k : Int × Int) (l : Int) :
    ((mput m k ((mget m k).getD 0 + l)).map Prod.fst).Nodup ∧ sq q (mput m k ((mget m k).getD 0 + l)) = sq q m + (if q k then l else 0) ∧ ∀ j, j ∈ (mput m k ((mget m k).getD 0 + l)).map Prod.fst ↔ j ∈ m.map Prod.fst ∨ j = k := by
  unfold mput
  cases e : mget m k with
  | none =>
    rw [if_neg (by simp)]
    have h := mget_none e
    refine ⟨?_, ?_, fun j => by simp⟩
    · rw [List.map_append]
      refine List.nodup_append.mpr ⟨hn, by simp, fun a ha b hb => ?_⟩
      obtain ⟨p, hp, rfl⟩ := List.mem_map.mp ha
      have : b = k := by simpa using hb
      rw [this]; exact h p hp
    · simp [sq]
  | some old =>
    simp only [Option.isSome_some, if_true, Option.getD_some]
    rw [rep_keys]
    refine ⟨hn, ?_, fun j => ?_⟩
    · rw [sq_rep q hn e]
      show sq q m + (if q k then old + l - old else 0) = _
      split <;> omega
    · refine ⟨.inl, fun h => h.elim id fun h => ?_⟩
      subst h
      false_or_by_contra
      rename_i hc
      have : ∀ {m : Mp}, ¬ j ∈ m.map Prod.fst → mget m j = none := by
        intro m
        induction m with
        | nil => intro _; rfl
        | cons a r ih =>
          intro hc
          show (if a.1 = j then some a.2 else mget r j) = none
          rw [if_neg fun z => hc (by simp [z]), ih fun z => hc (List.mem_cons_of_mem _ z)]
      rw [this hc] at e; cases e
theorem fold_inv (q : Int × Int → Prop) [DecidablePred q] : ∀ (P : List Tr) (m : Mp), (m.map Prod.fst).Nodup →
    ((P.foldl (fun m x => mput m (x.h, x.w) ((mget m (x.h, x.w)).getD 0 + x.l)) m).map Prod.fst).Nodup ∧ sq q (P.foldl (fun m x => mput m (x.h, x.w) ((mget m (x.h, x.w)).getD 0 + x.l)) m) = sq q m + sif (fun x => q (x.h, x.w)) P ∧
    ∀ j, j ∈ (P.foldl (fun m x => mput m (x.h, x.w) ((mget m (x.h, x.w)).getD 0 + x.l)) m).map Prod.fst ↔ j ∈ m.map Prod.fst ∨ ∃ x, x ∈ P ∧ (x.h, x.w) = j
  | [], m, hn => ⟨hn, by simp [sif], fun j => by simp⟩
  | x :: P, m, hn => by
    obtain ⟨a1, a2, a3⟩ := mput_inv q hn (x.h, x.w) x.l
    obtain ⟨b1, b2, b3⟩ := fold_inv q P _ a1
    rw [List.foldl_cons]
    refine ⟨b1, by rw [b2, a2, sif_cons]; omega, fun j => ?_⟩
    rw [b3, a3]
    constructor
    · rintro ((h | h) | ⟨y, hy, e⟩)
      · exact .inl h
      · exact .inr ⟨x, List.mem_cons_self, h.symm⟩
      · exact .inr ⟨y, List.mem_cons_of_mem _ hy, e⟩
    · rintro (h | ⟨y, hy, e⟩)
      · exact .inl (.inl h)
      · rcases List.mem_cons.mp hy with rfl | hy
        · exact .inl (.inr e.symm)
        · exact .inr ⟨y, hy, e⟩
theorem addAll_inv (q : Int × Int → Prop) [DecidablePred q] (P : List Tr) : ((addAll P).map Prod.fst).Nodup ∧ sq q (addAll P) = sif (fun x => q (x.h, x.w)) P ∧ ∀ j, j ∈ (addAll P).map Prod.fst ↔ ∃ x, x ∈ P ∧ (x.h, x.w) = j := by
  obtain ⟨a, b, c⟩ := fold_inv q P [] List.nodup_nil
  exact ⟨a, b.trans (by simp [sq]), fun j => (c j).trans (by simp)⟩
theorem mget_of {m : Mp} (hn : (m.map Prod.fst).Nodup) {p : (Int × Int) × Int} (hp : p ∈ m) : mget m p.1 = some p.2 := by
  induction m with
  | nil => cases hp
  | cons a r ih =>
    obtain ⟨n1, n2⟩ := List.nodup_cons.mp (show (a.1 :: r.map Prod.fst).Nodup from hn)
    show (if a.1 = p.1 then some a.2 else mget r p.1) = some p.2
    rcases List.mem_cons.mp hp with rfl | hp
    · rw [if_pos rfl]
    · rw [if_neg fun (e : a.1 = p.1) => n1 (by rw [e]; exact List.mem_map_of_mem hp), ih n2 hp]
theorem sif_perm {p : Tr → Prop} [DecidablePred p] {P Q : List Tr} (h : P.Perm Q) : sif p P = sif p Q := sum_perm (h.map _)
theorem added_perm (P : List Tr) : (added P).Perm ((addAll P).map fun p => ⟨p.1.1, p.1.2, p.2⟩) := by
  have hn := (addAll_inv (fun _ => True) P).1
  unfold added
  refine ((List.mergeSort_perm _ _).map _).trans ?_
  rw [List.map_map]
  refine List.Perm.of_eq (List.map_congr_left fun p hp => ?_)
  show Tr.mk p.1.1 p.1.2 ((mget (addAll P) p.1).getD 0) = ⟨p.1.1, p.1.2, p.2⟩
  rw [mget_of hn hp]; rfl
/-- sums by hours and ways are the same -/
theorem added_sif (q : Int × Int → Prop) [DecidablePred q] (P : List Tr) : sif (fun x => q (x.h, x.w)) (added P) = sif (fun x => q (x.h, x.w)) P := by
  rw [sif_perm (added_perm P), ← (addAll_inv q P).2.1]
  unfold sif sq
  rw [List.map_map]; rfl
theorem added_mem {P : List Tr} {x : Tr} (hx : x ∈ added P) : ∃ y, y ∈ P ∧ y.h = x.h ∧ y.w = x.w := by
  have := (added_perm P).mem_iff.mp hx
  obtain ⟨p, hp, rfl⟩ := List.mem_map.mp this
  obtain ⟨y, hy, e⟩ := ((addAll_inv (fun _ => True) P).2.2 p.1).mp (List.mem_map_of_mem hp)
  exact ⟨y, hy, congrArg Prod.fst e, congrArg Prod.snd e⟩
theorem pLe_total (a b : Int × Int) : (pLe a b || pLe b a) = true := by
  simp [pLe]; omega
theorem pLe_trans (a b c : Int × Int) (h : pLe a b = true) (g : pLe b c = true) : pLe a c = true := by
  simp [pLe] at *; omega
theorem added_rise (P : List Tr) : (added P).Pairwise Tr.lt := by
  have hn := (addAll_inv (fun _ => True) P).1
  unfold added
  rw [List.pairwise_map]
  have h1 := List.pairwise_mergeSort (le := pLe) pLe_trans pLe_total ((addAll P).map Prod.fst)
  have h2 : (((addAll P).map Prod.fst).mergeSort pLe).Nodup := (List.mergeSort_perm _ _).nodup_iff.mpr hn
  refine (h1.and h2).imp fun {a b} ⟨u, v⟩ => ?_
  have v : a ≠ b := v
  simp [pLe] at u
  have : ¬ (a.1 = b.1 ∧ a.2 = b.2) := fun z => v (Prod.ext z.1 z.2)
  show a.1 < b.1 ∨ (a.1 = b.1 ∧ a.2 < b.2)
  omega
theorem added_len (P : List Tr) : (added P).length ≤ P.length := by
  have := fold_len P []
  unfold added
  rw [List.length_map, List.length_mergeSort, List.length_map]
  simpa [addAll] using this
theorem single {L : List Tr} {k : Int × Int} : L.Pairwise Tr.lt → (∃ x, x ∈ L ∧ (x.h, x.w) = k ∧ sif (fun x => (x.h, x.w) = k) L = x.l) ∨ (sif (fun x => (x.h, x.w) = k) L = 0 ∧ ∀ x, x ∈ L → (x.h, x.w) ≠ k) := by
  induction L with
  | nil => intro _; exact .inr ⟨rfl, fun _ h => (nomatch h)⟩
  | cons a r ih =>
    intro h
    obtain ⟨h1, h2⟩ := List.pairwise_cons.mp h
    rw [sif_cons]
    by_cases c : (a.h, a.w) = k
    · refine .inl ⟨a, List.mem_cons_self, c, ?_⟩
      rw [if_pos c]
      rcases ih h2 with ⟨x, hx, e, _⟩ | ⟨e, _⟩
      · exfalso
        have := h1 x hx
        unfold Tr.lt at this
        have e1 : a.h = x.h := congrArg Prod.fst (c.trans e.symm)
        have e2 : a.w = x.w := congrArg Prod.snd (c.trans e.symm)
        omega
      · rw [e]; omega
    · rw [if_neg c]
      rcases ih h2 with ⟨x, hx, e, g⟩ | ⟨e, g⟩
      · exact .inl ⟨x, List.mem_cons_of_mem _ hx, e, by rw [g]; omega⟩
      · refine .inr ⟨by rw [e]; rfl, fun x hx => ?_⟩
        rcases List.mem_cons.mp hx with rfl | hx
        · exact c
        · exact g x hx
theorem added_at {P : List Tr} {x : Tr} (hx : x ∈ added P) : x.l = sif (fun y => (y.h, y.w) = (x.h, x.w)) P := by
  rw [← added_sif (fun k => k = (x.h, x.w)) P]
  rcases single (k := (x.h, x.w)) (added_rise P) with ⟨y, hy, e, g⟩ | ⟨_, g⟩
  · rw [g]
    have e1 : y.h = x.h := congrArg Prod.fst e
    have e2 : y.w = x.w := congrArg Prod.snd e
    have : y = x := by
      have hp := added_rise P
      false_or_by_contra
      rename_i hne
      have : ∀ {L : List Tr}, L.Pairwise Tr.lt → x ∈ L → y ∈ L → False := by
        intro L
        induction L with
        | nil => intro _ h; cases h
        | cons a r ih =>
          intro hp hx hy
          obtain ⟨h1, h2⟩ := List.pairwise_cons.mp hp
          rcases List.mem_cons.mp hx with hx2 | hx2
          · rcases List.mem_cons.mp hy with hy2 | hy2
            · exact hne (hy2.trans hx2.symm)
            · have := h1 y hy2; rw [← hx2] at this; unfold Tr.lt at this; omega
          · rcases List.mem_cons.mp hy with hy2 | hy2
            · have := h1 x hx2; rw [← hy2] at this; unfold Tr.lt at this; omega
            · exact ih h2 hx2 hy2
      exact this hp hx hy
    rw [this]
  · exact absurd rfl (g x hx)
theorem come_added {ws : List Way} {P : List Tr} {p t : Int} : come ws (added P) p t = come ws P p t := added_sif (fun k => (wy ws k.2).t = p ∧ k.1 + (wy ws k.2).h ≤ t) P
theorem left_added {ws : List Way} {P : List Tr} {p t : Int} : left ws (added P) p t = left ws P p t := added_sif (fun k => (wy ws k.2).s = p ∧ k.1 ≤ t) P
theorem come_app {ws : List Way} {P Q : List Tr} {p t : Int} : come ws (P ++ Q) p t = come ws P p t + come ws Q p t := sif_app _ _ _
theorem left_app {ws : List Way} {P Q : List Tr} {p t : Int} : left ws (P ++ Q) p t = left ws P p t + left ws Q p t := sif_app _ _ _
theorem laid_sp {n : Nat} {P Q : List Tr} {K : D → List D → Prop} {X : Ex → List D → Prop} (hl : P.length + Q.length ≤ 1000) (h : K (.nd (.lst true) ((added (P ++ Q)).map eT)) []) : FKt ((dl md.prog WF (n+2)).call 11 [.nd (.lst false) (P.map eT), .nd (.lst false) (Q.map eT)]) K X := by
  refine fk_call_t (f := f_laid_plans) rfl rfl rfl ?_
  dsimp only [f_laid_plans]
  w_left
  simp
  refine ⟨by omega, ?_⟩
  rw [← List.map_append]
  refine added_sp (by simp; omega) ?_
  simp
  exact h
def laterT (b : Int) (x : Tr) : Tr := ⟨x.h + b, x.w, x.l⟩
theorem later_sp {n : Nat} {P : List Tr} {b : Int} {K : D → List D → Prop} {X : Ex → List D → Prop} (hl : P.length ≤ 1000) (h : K (.nd (.lst true) ((P.map (laterT b)).map eT)) []) : FKt ((dl md.prog WF (n+1)).call 14 [.nd (.lst false) (P.map eT), .int b]) K X := by
  refine fk_call_t (f := f_later_plan) rfl rfl rfl ?_
  dsimp only [f_later_plan]
  w_left
  simp
  refine ck_map_t (fun x => eT (laterT b x)) (by rfl) (by omega) (fun x hx => ?_) ?_
  · simp [eT, laterT]
  simp
  rw [List.map_map] at h
  exact h
theorem sif_map {f : Tr → Tr} (hf : ∀ x, (f x).l = x.l) {p q : Tr → Prop} [DecidablePred p] [DecidablePred q] : ∀ {P : List Tr}, (∀ x, x ∈ P → (p (f x) ↔ q x)) → sif p (P.map f) = sif q P
  | [], _ => rfl
  | x :: P, h => by
    rw [List.map_cons, sif_cons, sif_cons, sif_map hf fun y hy => h y (List.mem_cons_of_mem _ hy), hf]
    have h1 := h x List.mem_cons_self
    by_cases c : q x
    · rw [if_pos (h1.mpr c), if_pos c]
    · rw [if_neg fun z => c (h1.mp z), if_neg c]
theorem come_later {ws : List Way} {P : List Tr} {b p t : Int} : come ws (P.map (laterT b)) p (t + b) = come ws P p t := sif_map (f := laterT b) (q := fun x => (wy ws x.w).t = p ∧ x.h + (wy ws x.w).h ≤ t) (fun _ => rfl) fun x _ => by
  show (wy ws x.w).t = p ∧ x.h + b + (wy ws x.w).h ≤ t + b ↔ (wy ws x.w).t = p ∧ x.h + (wy ws x.w).h ≤ t
  constructor <;> (intro h; exact ⟨h.1, by omega⟩)
theorem left_later {ws : List Way} {P : List Tr} {b p t : Int} : left ws (P.map (laterT b)) p (t + b) = left ws P p t := sif_map (f := laterT b) (q := fun x => (wy ws x.w).s = p ∧ x.h ≤ t) (fun _ => rfl) fun x _ => by
  show (wy ws x.w).s = p ∧ x.h + b ≤ t + b ↔ (wy ws x.w).s = p ∧ x.h ≤ t
  constructor <;> (intro h; exact ⟨h.1, by omega⟩)
theorem PlOk.later {ws : List Way} {last : Int} {P : List Tr} (ok : PlOk ws last P) {b : Int} (hb : 0 ≤ b) : PlOk ws (last + b) (P.map (laterT b)) := by
  refine ⟨fun y hy => ?_, ?_, fun y hy => ?_, fun p hp t => ?_⟩
  · obtain ⟨x, hx, rfl⟩ := List.mem_map.mp hy
    exact ok.ways x hx
  · rw [List.pairwise_map]
    refine ok.rise.imp fun {x y} h => ?_
    unfold Tr.lt at *
    show x.h + b < y.h + b ∨ (x.h + b = y.h + b ∧ x.w < y.w)
    omega
  · obtain ⟨x, hx, rfl⟩ := List.mem_map.mp hy
    obtain ⟨a1, a2, a3, a4⟩ := ok.each x hx
    exact ⟨by show 0 ≤ x.h + b; omega, a2, a3, by show x.h + b + (wy ws x.w).h ≤ last + b; omega⟩
  · have e1 := come_later (ws := ws) (P := P) (b := b) (p := p) (t := t - b)
    have e2 := left_later (ws := ws) (P := P) (b := b) (p := p) (t := t - b)
    rw [show t - b + b = t by omega] at e1 e2
    rw [e1, e2]
    exact ok.right p hp _
def tillP (ws : List Way) (H : Int) (P : List Tr) : List Tr := P.filter fun x => decide (x.h + (wy ws x.w).h ≤ H)
theorem sif_till {p q : Tr → Prop} [DecidablePred p] [DecidablePred q] : ∀ P : List Tr, sif p (P.filter fun x => decide (q x)) = sif (fun x => p x ∧ q x) P
  | [] => rfl
  | x :: P => by
    have ih := sif_till (p := p) (q := q) P
    rw [List.filter_cons, sif_cons]
    by_cases c : q x
    · rw [if_pos (by simpa using c), sif_cons, ih]
      by_cases d : p x
      · rw [if_pos d, if_pos ⟨d, c⟩]
      · rw [if_neg d, if_neg fun z => d z.1]
    · rw [if_neg (by simpa using c), ih, if_neg fun z => c z.2]; omega
theorem sif_split {p q : Tr → Prop} [DecidablePred p] [DecidablePred q] : ∀ P : List Tr, sif p P = sif (fun x => p x ∧ q x) P + sif (fun x => p x ∧ ¬ q x) P
  | [] => rfl
  | x :: P => by
    have ih := sif_split (p := p) (q := q) P
    rw [sif_cons, sif_cons, sif_cons, ih]
    by_cases d : p x <;> by_cases c : q x <;> simp [c, d] <;> omega
theorem come_till {ws : List Way} {P : List Tr} {H p t : Int} (h : t ≤ H) : come ws (tillP ws H P) p t = come ws P p t := by
  unfold come tillP
  rw [sif_till]
  exact sif_eq fun x _ => ⟨fun h => h.1, fun g => ⟨g, by omega⟩⟩
def gone (ws : List Way) (P : List Tr) (p t H : Int) : Int := sif (fun x => ((wy ws x.w).s = p ∧ x.h ≤ t) ∧ ¬ x.h + (wy ws x.w).h ≤ H) P
theorem left_till {ws : List Way} {P : List Tr} {H p t : Int} : left ws (tillP ws H P) p t + gone ws P p t H = left ws P p t := by
  unfold left tillP gone
  rw [sif_till, ← sif_split]
theorem PlOk.till {m : Int} {ws : List Way} (hN : NetOk m ws) {last : Int} {P : List Tr} (ok : PlOk ws last P) {H : Int} : PlOk ws H (tillP ws H P) := by
  have sub : ∀ x, x ∈ tillP ws H P → x ∈ P ∧ x.h + (wy ws x.w).h ≤ H := fun x hx => by
    have := List.mem_filter.mp hx
    exact ⟨this.1, by simpa using this.2⟩
  refine ⟨fun x hx => ok.ways x (sub x hx).1, ok.rise.filter _, fun x hx => ?_, fun p hp t => ?_⟩
  · obtain ⟨a1, a2, a3, a4⟩ := ok.each x (sub x hx).1
    exact ⟨a1, a2, a3, (sub x hx).2⟩
  · have g0 : ∀ t, 0 ≤ gone ws P p t H := fun t => by
      have : sif (fun _ => False) P ≤ gone ws P p t H := sif_le (fun x hx => (ok.each x hx).2.1) fun _ _ z => z.elim
      have e : sif (fun _ => False) P = 0 := sif_false P
      omega
    by_cases c : t ≤ H
    · have := left_till (ws := ws) (P := P) (H := H) (p := p) (t := t)
      have := come_till (ws := ws) (P := P) (H := H) (p := p) (t := t) c
      have := ok.right p hp t
      have := g0 t
      omega
    · have e1 : left ws (tillP ws H P) p t ≤ left ws (tillP ws H P) p H := sif_le (fun x hx => (ok.each x (sub x hx).1).2.1) fun x hx z => ⟨z.1, by
        have a := ok.ways x (sub x hx).1
        have ew : ws[x.w.toNat]? = some (wy ws x.w) := by
          rw [List.getElem?_eq_getElem (by omega), wy_at (List.getElem?_eq_getElem (by omega))]
        have := (hN.ok _ (List.mem_of_getElem? ew)).h0
        have := (sub x hx).2
        omega⟩
      have e2 : come ws (tillP ws H P) p H ≤ come ws (tillP ws H P) p t := sif_le (fun x hx => (ok.each x (sub x hx).1).2.1) fun x hx z => ⟨z.1, by omega⟩
      have := left_till (ws := ws) (P := P) (H := H) (p := p) (t := H)
      have := come_till (ws := ws) (P := P) (H := H) (p := p) (t := H) (Int.le_refl _)
      have := ok.right p hp H
      have := g0 H
      omega
def wideW (w : Way) : Way := ⟨w.s, w.t, 2 * w.r, w.h⟩
theorem wy_wide {ws : List Way} {k : Int} (h : 0 ≤ k ∧ k < ws.length) : wy (ws.map wideW) k = wideW (wy ws k) := by
  have e : ws[k.toNat]? = some ws[k.toNat] := List.getElem?_eq_getElem (by omega)
  rw [wy_at e, wy_at]
  rw [List.getElem?_map, e]; rfl
theorem come_wide {ws : List Way} {P : List Tr} {p t : Int} (hP : Ways ws P) : come (ws.map wideW) P p t = come ws P p t := sif_eq fun x hx => by rw [wy_wide (hP x hx)]; rfl
theorem left_wide {ws : List Way} {P : List Tr} {p t : Int} (hP : Ways ws P) : left (ws.map wideW) P p t = left ws P p t := sif_eq fun x hx => by rw [wy_wide (hP x hx)]; rfl
theorem PlOk.both {m : Int} {ws : List Way} (hN : NetOk m ws) {last : Int} {P Q : List Tr} (ok : PlOk ws last P) (ok2 : PlOk ws last Q) : PlOk (ws.map wideW) last (added (P ++ Q)) := by
  have hW : Ways ws (P ++ Q) := fun x hx => (List.mem_append.mp hx).elim (ok.ways x) (ok2.ways x)
  have hE : ∀ x, x ∈ P ++ Q → 0 ≤ x.h ∧ 1 ≤ x.l ∧ x.l ≤ (wy ws x.w).r ∧ x.h + (wy ws x.w).h ≤ last := fun x hx => (List.mem_append.mp hx).elim (ok.each x) (ok2.each x)
  have hA : Ways ws (added (P ++ Q)) := fun x hx => by
    obtain ⟨y, hy, e1, e2⟩ := added_mem hx
    rw [← e2]; exact hW y hy
  refine ⟨fun x hx => by simpa using hA x hx, added_rise _, fun x hx => ?_, fun p hp t => ?_⟩
  · obtain ⟨y, hy, e1, e2⟩ := added_mem hx
    obtain ⟨a1, a2, a3, a4⟩ := hE y hy
    rw [wy_wide (hA x hx)]
    have r0 : 0 ≤ (wy ws x.w).r := by rw [← e2]; omega
    have e := added_at hx
    rw [sif_app] at e
    have pp : ∀ R : List Tr, R.Pairwise Tr.lt → (∀ z, z ∈ R → z ∈ P ++ Q) → (sif (fun y => (y.h, y.w) = (x.h, x.w)) R = 0 ∧ (∀ z, z ∈ R → (z.h, z.w) ≠ (x.h, x.w))) ∨ (1 ≤ sif (fun y => (y.h, y.w) = (x.h, x.w)) R ∧ sif (fun y => (y.h, y.w) = (x.h, x.w)) R ≤ (wy ws x.w).r) := fun R hR hs => by
      rcases single (k := (x.h, x.w)) hR with ⟨z, hz, ez, g⟩ | g
      · have b := hE z (hs z hz)
        have ew : z.w = x.w := congrArg Prod.snd ez
        rw [ew] at b
        rw [g]; exact .inr ⟨b.2.1, b.2.2.1⟩
      · exact .inl g
    have p1 := pp P ok.rise fun z hz => List.mem_append_left _ hz
    have p2 := pp Q ok2.rise fun z hz => List.mem_append_right _ hz
    have ky : (y.h, y.w) = (x.h, x.w) := by rw [e1, e2]
    refine ⟨by omega, ?_, ?_, ?_⟩
    · rcases p1 with p1 | p1
      · rcases p2 with p2 | p2
        · rcases List.mem_append.mp hy with z | z
          · exact absurd ky (p1.2 y z)
          · exact absurd ky (p2.2 y z)
        · omega
      · rcases p2 with p2 | p2 <;> omega
    · show x.l ≤ 2 * (wy ws x.w).r
      rcases p1 with p1 | p1 <;> rcases p2 with p2 | p2 <;> omega
    · show x.h + (wy ws x.w).h ≤ last
      rw [← e1, ← e2]; exact a4
  · rw [come_wide hA, left_wide hA, come_added, left_added, come_app, left_app]
    have := ok.right p hp t
    have := ok2.right p hp t
    omega
theorem NetOk.wide {m : Int} {ws : List Way} (hN : NetOk m ws) (h9 : ∀ w, w ∈ ws → w.r ≤ 9 ∧ w.h ≤ 4) : NetOk m (ws.map wideW) := by
  refine ⟨hN.m0, hN.m1, by simpa using hN.len, fun w hw => ?_⟩
  obtain ⟨v, hv, rfl⟩ := List.mem_map.mp hw
  have ok := hN.ok v hv
  have ⟨a1, a2⟩ := h9 v hv
  have b3 := ok.r0
  exact ⟨ok.s0, ok.s1, ok.t0, ok.t1, ok.ne, by show 0 ≤ 2 * v.r; omega, by show 2 * v.r ≤ _; omega, ok.h0, ok.h1⟩
def upW (by' mr : Int) (w : Way) : Way := ⟨w.s, w.t, w.r * mr, w.h * by'⟩
def upT (by' mr : Int) (x : Tr) : Tr := ⟨x.h * by', x.w, x.l * mr⟩
theorem wy_up {ws : List Way} {b r k : Int} (h : 0 ≤ k ∧ k < ws.length) : wy (ws.map (upW b r)) k = upW b r (wy ws k) := by
  have e : ws[k.toNat]? = some ws[k.toNat] := List.getElem?_eq_getElem (by omega)
  rw [wy_at e, wy_at]
  rw [List.getElem?_map, e]; rfl
theorem sif_up {b r : Int} {p q : Tr → Prop} [DecidablePred p] [DecidablePred q] : ∀ {P : List Tr}, (∀ x, x ∈ P → (p (upT b r x) ↔ q x)) → sif p (P.map (upT b r)) = sif q P * r
  | [], _ => by simp [sif]
  | x :: P, h => by
    have ih := sif_up (P := P) (p := p) (q := q) (b := b) (r := r) fun x hx => h x (List.mem_cons_of_mem _ hx)
    have h1 := h x List.mem_cons_self
    rw [List.map_cons, sif_cons, sif_cons, ih, Int.add_mul]
    by_cases c : q x
    · rw [if_pos (h1.mpr c), if_pos c]; rfl
    · rw [if_neg fun z => c (h1.mp z), if_neg c, Int.zero_mul]
theorem PlOk.up {ws : List Way} {last : Int} {P : List Tr} (ok : PlOk ws last P) {b r : Int} (hb : 1 ≤ b) (hr : 1 ≤ r) : PlOk (ws.map (upW b r)) (last * b) (P.map (upT b r)) := by
  have wx : ∀ x, x ∈ P → wy (ws.map (upW b r)) (upT b r x).w = upW b r (wy ws x.w) := fun x hx => wy_up (ok.ways x hx)
  refine ⟨fun y hy => ?_, ?_, fun y hy => ?_, fun p hp t => ?_⟩
  · obtain ⟨x, hx, rfl⟩ := List.mem_map.mp hy
    have := ok.ways x hx
    simpa [upT] using this
  · rw [List.pairwise_map]
    refine ok.rise.imp fun {x y} h => ?_
    rcases h with h | ⟨h1, h2⟩
    · exact .inl (Int.mul_lt_mul_of_pos_right h (by omega))
    · exact .inr ⟨by show x.h * b = y.h * b; rw [h1], h2⟩
  · obtain ⟨x, hx, rfl⟩ := List.mem_map.mp hy
    obtain ⟨a1, a2, a3, a4⟩ := ok.each x hx
    rw [wx x hx]
    refine ⟨Int.mul_nonneg a1 (by omega), ?_, Int.mul_le_mul_of_nonneg_right a3 (by omega), ?_⟩
    · show 1 ≤ x.l * r
      have := Int.mul_le_mul a2 hr (by omega) (by omega)
      omega
    · show x.h * b + (wy ws x.w).h * b ≤ last * b
      rw [← Int.add_mul]; exact Int.mul_le_mul_of_nonneg_right a4 (by omega)
  · have e1 : left (ws.map (upW b r)) (P.map (upT b r)) p t = left ws P p (t / b) * r := sif_up fun x hx => by
      rw [wx x hx]
      show (wy ws x.w).s = p ∧ x.h * b ≤ t ↔ (wy ws x.w).s = p ∧ x.h ≤ t / b
      rw [Int.le_ediv_iff_mul_le (by omega)]
    have e2 : come (ws.map (upW b r)) (P.map (upT b r)) p t = come ws P p (t / b) * r := sif_up fun x hx => by
      rw [wx x hx]
      show (wy ws x.w).t = p ∧ x.h * b + (wy ws x.w).h * b ≤ t ↔ (wy ws x.w).t = p ∧ x.h + (wy ws x.w).h ≤ t / b
      rw [Int.le_ediv_iff_mul_le (by omega), ← Int.add_mul]
    rw [e1, e2]
    exact Int.mul_le_mul_of_nonneg_right (ok.right p hp _) (by omega)
theorem NetOk.up {m : Int} {ws : List Way} (hN : NetOk m ws) (h9 : ∀ w, w ∈ ws → w.r ≤ 9 ∧ w.h ≤ 4) {b r : Int} (hb : 1 ≤ b ∧ b ≤ 250000) (hr : 1 ≤ r ∧ r ≤ 100000000) : NetOk m (ws.map (upW b r)) := by
  refine ⟨hN.m0, hN.m1, by simpa using hN.len, fun w hw => ?_⟩
  obtain ⟨v, hv, rfl⟩ := List.mem_map.mp hw
  have ok := hN.ok v hv
  have ⟨a1, a2⟩ := h9 v hv
  have b1 : v.r * r ≤ 9 * 100000000 := Int.mul_le_mul a1 hr.2 (by omega) (by omega)
  have b2 : v.h * b ≤ 4 * 250000 := Int.mul_le_mul a2 hb.2 (by omega) (by omega)
  have b3 : 0 ≤ v.r * r := Int.mul_nonneg ok.r0 (by omega)
  have b4 : 1 * 1 ≤ v.h * b := Int.mul_le_mul ok.h0 hb.1 (by omega) (by have := ok.h0; omega)
  exact ⟨ok.s0, ok.s1, ok.t0, ok.t1, ok.ne, b3, by show v.r * r ≤ _; omega, by show 1 ≤ v.h * b; omega, by show v.h * b ≤ _; omega⟩
theorem upW_one (ws : List Way) : ws.map (upW 1 1) = ws := by
  have : upW 1 1 = id := funext fun w => by simp [upW]
  rw [this, List.map_id]
theorem upT_one (P : List Tr) : P.map (upT 1 1) = P := by
  have : upT 1 1 = id := funext fun w => by simp [upT]
  rw [this, List.map_id]
theorem added_jd {P : List Tr} (h1 : ∀ x, x ∈ P → 1 ≤ x.l) : Jd P (added P) := by
  refine ⟨added_rise P, fun q _ => added_sif (fun k => q k.1 k.2) P, fun x hx => ?_, added_len P⟩
  obtain ⟨y, hy, e1, e2⟩ := added_mem hx
  refine ⟨?_, y, hy, e1, e2⟩
  have a := added_at hx
  have b := mem_sif (p := fun y => (y.h, y.w) = (x.h, x.w)) h1 y hy (by rw [e1, e2])
  have := h1 y hy
  omega
theorem rise_uniq : ∀ {A B : List Tr}, A.Pairwise Tr.lt → B.Pairwise Tr.lt → (∀ x, x ∈ A → 1 ≤ x.l) → (∀ x, x ∈ B → 1 ≤ x.l) → (∀ k : Int × Int, sif (fun x => (x.h, x.w) = k) A = sif (fun x => (x.h, x.w) = k) B) → A = B
  | [], [], _, _, _, _, _ => rfl
  | [], b :: B, _, _, _, hb, h => by
    have a := mem_sif (p := fun x => (x.h, x.w) = (b.h, b.w)) hb b List.mem_cons_self rfl
    rw [← h, sif_nil] at a
    have := hb b List.mem_cons_self
    omega
  | a :: A, [], _, _, ha, _, h => by
    have b := mem_sif (p := fun x => (x.h, x.w) = (a.h, a.w)) ha a List.mem_cons_self rfl
    rw [h, sif_nil] at b
    have := ha a List.mem_cons_self
    omega
  | a :: A, b :: B, pa, pb, ha, hb, h => by
    obtain ⟨a1, a2⟩ := List.pairwise_cons.mp pa
    obtain ⟨b1, b2⟩ := List.pairwise_cons.mp pb
    have some_ : ∀ {x : Tr} {L M : List Tr}, x ∈ L → (∀ y, y ∈ L → 1 ≤ y.l) → sif (fun y => (y.h, y.w) = (x.h, x.w)) L = sif (fun y => (y.h, y.w) = (x.h, x.w)) M → M.Pairwise Tr.lt → ∃ y, y ∈ M ∧ y.h = x.h ∧ y.w = x.w := by
      intro x L M hx hl e pm
      have c := mem_sif (p := fun y => (y.h, y.w) = (x.h, x.w)) hl x hx rfl
      have := hl x hx
      rcases single (k := (x.h, x.w)) pm with ⟨y, hy, e2, _⟩ | ⟨e2, _⟩
      · exact ⟨y, hy, congrArg Prod.fst e2, congrArg Prod.snd e2⟩
      · omega
    have e1 : a.h = b.h ∧ a.w = b.w := by
      obtain ⟨y, hy, y1, y2⟩ := some_ (List.mem_cons_self (a := a) (l := A)) ha (h _) pb
      obtain ⟨z, hz, z1, z2⟩ := some_ (List.mem_cons_self (a := b) (l := B)) hb (h _).symm pa
      rcases List.mem_cons.mp hy with rfl | hy
      · exact ⟨y1.symm, y2.symm⟩
      · rcases List.mem_cons.mp hz with rfl | hz
        · exact ⟨z1, z2⟩
        · have c1 := b1 y hy
          have c2 := a1 z hz
          unfold Tr.lt at c1 c2
          omega
    have nof : ∀ {x : Tr} {L : List Tr}, (∀ y, y ∈ L → Tr.lt x y) → L.Pairwise Tr.lt → sif (fun y => (y.h, y.w) = (x.h, x.w)) L = 0 := by
      intro x L hx pl
      rcases single (k := (x.h, x.w)) pl with ⟨y, hy, e2, _⟩ | ⟨e2, _⟩
      · have := hx y hy
        have y1 : y.h = x.h := congrArg Prod.fst e2
        have y2 : y.w = x.w := congrArg Prod.snd e2
        unfold Tr.lt at this
        omega
      · exact e2
    have e2 : a.l = b.l := by
      have c := h (a.h, a.w)
      rw [sif_cons, sif_cons, if_pos rfl, if_pos (by rw [e1.1, e1.2]), nof a1 a2] at c
      rw [e1.1, e1.2, nof b1 b2] at c
      omega
    have e : a = b := by
      cases a; cases b
      simp at e1 e2
      rw [e1.1, e1.2, e2]
    subst e
    rw [rise_uniq a2 b2 (fun x hx => ha x (List.mem_cons_of_mem _ hx)) (fun x hx => hb x (List.mem_cons_of_mem _ hx)) fun k => by
      have := h k
      rw [sif_cons, sif_cons] at this
      omega]
theorem sif_none {p : Tr → Prop} [DecidablePred p] {P : List Tr} (h : ∀ x, x ∈ P → ¬ p x) : sif p P = 0 := by
  rw [sif_eq (q := fun _ => False) fun x hx => iff_false_intro (h x hx), sif_false]
theorem any3 : b1op .any (.nd (.lst true) [.bl false, .bl false, .bl false]) = some (.bl false) := rfl
theorem plike_sp {n : Nat} {P : List Tr} {K : D → List D → Prop} {X : Ex → List D → Prop} (hl : P.length ≤ 1000) (h : K (.bl true) []) : FKt ((dl md.prog WF (n+1)).call 12 [.nd (.lst false) (P.map eT), .nd (.lst false) (P.map eT)]) K X := by
  refine fk_call_t (f := f_law_plan_like) rfl rfl rfl ?_
  dsimp only [f_law_plan_like]
  w_left
  simp
  refine br_neg (by rw [deqs_map deq_eT]; simp) ?_
  simp
  refine lk_for (fun r e => e = [.nd (.lst false) (P.map eT), .nd (.lst false) (P.map eT), .hole, .hole]) rfl ?_ ?_
  · rintro x r e hs rfl
    simp [eT]
    rw [show [D.int x.h, D.int x.w, D.int x.l] = [x.h, x.w, x.l].map D.int from rfl]
    refine ck_map_t (fun _ => .bl false) (by rfl) (by simp) (fun p hp => ?_) ?_
    · simp
    simp
    rw [any3]
    simp
    exact hd rfl
  · rintro e rfl
    simp
    exact h
theorem added_one {P : List Tr} (hr : P.Pairwise Tr.lt) (h1 : ∀ x, x ∈ P → 1 ≤ x.l) : added P = P :=
  rise_uniq (added_rise P) hr (fun x hx => ((added_jd h1).from_ x hx).1) h1 fun k => added_sif (fun j => j = k) P
theorem jd_uniq {P Q A : List Tr} (h1 : ∀ x, x ∈ P → 1 ≤ x.l) (hp : P.Perm Q) (ja : Jd P A) : added Q = A :=
  rise_uniq (added_rise Q) ja.rise (fun x hx => ((added_jd (P := Q) fun x hx => h1 x (hp.mem_iff.mpr hx)).from_ x hx).1) (fun x hx => (ja.from_ x hx).1) fun k => by
    rw [added_sif (fun j => j = k) Q, ja.sums fun a b => (a, b) = k]
    exact (sif_perm hp).symm
theorem laidr_sp {n : Nat} {P Q : List Tr} {K : D → List D → Prop} {X : Ex → List D → Prop} (hP : P.length ≤ 40) (hQ : Q.length ≤ 40) (rP : P.Pairwise Tr.lt) (p1 : ∀ x, x ∈ P → 1 ≤ x.l) (q1 : ∀ x, x ∈ Q → 1 ≤ x.l) (h : K (.bl true) []) : FKt ((dl md.prog WF (n+3)).call 13 [.nd (.lst false) (P.map eT), .nd (.lst false) (Q.map eT)]) K X := by
  have pq1 : ∀ x, x ∈ P ++ Q → 1 ≤ x.l := fun x hx => (List.mem_append.mp hx).elim (p1 x) (q1 x)
  refine fk_call_t (f := f_law_laid_right) rfl rfl rfl ?_
  dsimp only [f_law_laid_right]
  w_left
  simp
  refine ⟨by omega, ?_⟩
  rw [← List.map_append]
  refine joined_sp (by simp; omega) pq1 fun A ja => ?_
  have la := ja.len
  simp at la
  simp
  refine lk_for (fun r e => e = [.nd (.lst false) (P.map eT), .nd (.lst false) (Q.map eT), .nd (.lst true) [.nd (.lst true) (P.map eT), .nd (.lst true) (Q.map eT)], .nd (.lst true) (A.map eT), .hole, .hole]) rfl ?_ ?_
  · rintro k r e hs rfl
    have hk := rng_mem.mp (hs.subset List.mem_cons_self)
    have hk : k = 0 ∨ k = 1 := by omega
    rcases hk with rfl | rfl
    · simp
      refine laid_sp (by omega) ?_
      rw [jd_uniq pq1 (.refl _) ja]
      simp
      refine plike_sp (by omega) ?_
      simp
      refine br_neg (by rw [deqs_map deq_eT, deqs_map deq_eT]; simp) ?_
      simp
      refine ⟨by omega, hd rfl⟩
    · simp
      refine laid_sp (by omega) ?_
      rw [jd_uniq pq1 List.perm_append_comm ja]
      simp
      refine plike_sp (by omega) ?_
      simp
      refine br_neg (by rw [deqs_map deq_eT, deqs_map deq_eT]; simp) ?_
      simp
      refine ⟨by omega, hd rfl⟩
  · rintro e rfl
    simp
    rw [show ([] : List D) = ([] : List Tr).map eT from rfl]
    refine laid_sp (by simp; omega) ?_
    rw [List.append_nil, added_one rP p1]
    simp
    rw [show ([] : List D) = ([] : List Tr).map eT from rfl]
    refine laid_sp (by simp; omega) ?_
    rw [List.nil_append, added_one rP p1]
    simp
    rw [show [D.nd (.lst true) (P.map eT), D.nd (.lst true) (P.map eT)] = [P, P].map (fun x => D.nd (.lst true) (x.map eT)) from rfl]
    refine lm_forT (fun r e => e = [.nd (.lst false) (P.map eT), .nd (.lst false) (Q.map eT), .nd (.lst true) [.nd (.lst true) (P.map eT), .nd (.lst true) (Q.map eT)], .nd (.lst true) (A.map eT), .hole, .hole]) rfl ?_ ?_
    · rintro p r e hs rfl
      have hp : p = P := by
        have := hs.subset (List.mem_cons_self (a := p) (l := r))
        simpa using this
      subst hp
      simp
      refine plike_sp (by omega) ?_
      simp
      refine ⟨by omega, hd rfl⟩
    · rintro e rfl
      simp
      rw [deqs_map deq_eT, deqs_map deq_eT]
      simpa using h
theorem laterr_sp {n : Nat} {P : List Tr} {b : Int} {K : D → List D → Prop} {X : Ex → List D → Prop} (hP : P.length ≤ 40) (h : K (.bl true) []) : FKt ((dl md.prog WF (n+2)).call 15 [.nd (.lst false) (P.map eT), .int b]) K X := by
  refine fk_call_t (f := f_law_later_right) rfl rfl rfl ?_
  dsimp only [f_law_later_right]
  w_left
  simp
  refine ck_map_t (fun x => eT (laterT b x)) (by rfl) (by omega) (fun x hx => ?_) ?_
  · simp [eT, laterT]
  simp
  rw [show (P.map fun x => eT (laterT b x)) = (P.map (laterT b)).map eT by rw [List.map_map]; rfl]
  obtain ⟨Q, hQ⟩ : ∃ Q, Q = P.map (laterT b) := ⟨_, rfl⟩
  have lQ : Q.length = P.length := by rw [hQ, List.length_map]
  rw [← hQ]
  refine lk_for (fun r e => e = [.nd (.lst false) (P.map eT), .int b, .nd (.lst true) (P.map eT), .nd (.lst true) (Q.map eT), .hole, .hole, .hole, .hole, .hole]) rfl ?_ ?_
  · rintro k r e hs rfl
    simp
    refine later_sp (by omega) ?_
    rw [← hQ]
    simp
    refine plike_sp (by omega) ?_
    simp
    refine br_neg (by rw [deqs_map deq_eT]; simp) ?_
    simp
    refine ⟨by omega, hd rfl⟩
  · rintro e rfl
    simp
    rw [deqs_map deq_eT]
    simpa using h
theorem law_all {n : Nat} {ns : List Int} (hn : ns.length ≤ 63) : FKt ((dl md.prog WF (n+8)).call 16 [.nd (.lst false) (ns.map D.int)]) (fun d _ => d = .bl true) (fun _ _ => False) := by
  refine fk_call_t (f := f_law) rfl rfl rfl ?_
  dsimp only [f_law]
  w_left
  simp
  refine cells_sp (by omega) hn fun ys hy => ?_
  simp
  refine ⟨by omega, ?_⟩
  rw [show D.int 0 :: ys.map D.int = (0 :: ys).map D.int from rfl]
  refine lk_for (fun r e => e = [.nd (.lst false) (ns.map D.int), .hole, .hole, .hole, .hole, .hole, .hole, .hole, .hole, .hole, .hole, .hole]) rfl ?_ ?_
  · rintro c r e hs rfl
    simp
    refine pool_sp fun x y z => ?_
    simp
    refine nnet_sp fun m ws x y z hN hw => ?_
    simp
    refine next_sp (by omega) fun hr _ _ _ hr0 hr1 => ?_
    simp
    refine lplan_sp hN (by omega) (by omega) fun P x y z ok hP => ?_
    simp
    refine lplan_sp hN (by omega) (by omega) fun Q x y z ok2 hQ => ?_
    simp [-sy_iff]
    refine iff_join (fun e => ∃ Q x y z, e = [.nd (.lst false) (ns.map D.int), .int c, eP x y z, eN m ws, .int (1 + hr), .nd (.lst true) (P.map eT), .nd (.lst true) (Q.map eT), .hole, .hole, .hole, .hole, .hole] ∧ PlOk ws (1 + hr) Q ∧ Q.length ≤ 40) ?_ ?_
    · simp
      refine next_sp (by omega) fun s x y z s0 s1 => ?_
      simp
      refine br_t (fun c1 => ?_) fun c1 => ?_ <;> simp
      · exact hd ⟨P, _, _, _, rfl, ok, Nat.le_trans hP (by decide)⟩
      · exact hd ⟨Q, _, _, _, rfl, ok2, Nat.le_trans hQ (by decide)⟩
    rintro e ⟨Q, x, y, z, rfl, ok2, hQ⟩
    have hP : P.length ≤ 40 := Nat.le_trans hP (by decide)
    simp
    refine next_sp (by omega) fun s x y z s0 s1 => ?_
    simp
    rw [show [D.int 1, D.int 1, D.int 10, D.int 1000, D.int 100000000] = [1, 1, 10, 1000, 100000000].map D.int from rfl]
    refine ix_mapT (.inr ⟨_, rfl⟩) s0 (by simp; omega) fun B hB => ?_
    have hB1 : 1 ≤ B ∧ B ≤ 100000000 := by
      have := List.mem_of_getElem? hB
      simp at this
      omega
    simp
    refine ck_map_t (fun x => eT (upT B B x)) (by rfl) (by omega) (fun x hx => ?_) ?_
    · simp [eT, upT]
      omega
    simp
    refine ck_map_t (fun x => eT (upT B 1 x)) (by rfl) (by omega) (fun x hx => ?_) ?_
    · simp [eT, upT]
      omega
    simp
    have okP := ok.up (b := B) (r := B) hB1.1 hB1.1
    have okQ := ok2.up (b := B) (r := 1) hB1.1 (by omega)
    rw [show (P.map fun x => eT (upT B B x)) = (P.map (upT B B)).map eT by rw [List.map_map]; rfl, show (Q.map fun x => eT (upT B 1 x)) = (Q.map (upT B 1)).map eT by rw [List.map_map]; rfl]
    obtain ⟨P', hP'⟩ : ∃ P', P' = P.map (upT B B) := ⟨_, rfl⟩
    obtain ⟨Q', hQ'⟩ : ∃ Q', Q' = Q.map (upT B 1) := ⟨_, rfl⟩
    have lP : P'.length ≤ 40 := by rw [hP', List.length_map]; exact hP
    have lQ : Q'.length ≤ 40 := by rw [hQ', List.length_map]; exact hQ
    rw [← hP'] at okP ⊢
    rw [← hQ'] at okQ ⊢
    refine laidr_sp lP lQ okP.rise (fun x hx => (okP.each x hx).2.1) (fun x hx => (okQ.each x hx).2.1) ?_
    simp
    refine next_sp (by omega) fun h1 _ _ _ _ _ => ?_
    simp
    refine next_sp (by omega) fun h2 x y z _ _ => ?_
    simp
    rw [show [D.int 0, D.int 1, D.int h1, D.int h2] = [0, 1, h1, h2].map D.int from rfl]
    refine lk_for (fun r e => e = [.nd (.lst false) (ns.map D.int), .int c, eP x y z, eN m ws, .int (1 + hr), .nd (.lst true) (P'.map eT), .nd (.lst true) (Q'.map eT), .int B, .hole, .hole, .hole, .hole]) rfl ?_ ?_
    · rintro b r e hs rfl
      simp
      refine laterr_sp lP ?_
      simp
      exact hd rfl
    · rintro e rfl
      simp
      exact hd rfl
  · rintro e rfl
    simp
end K13
set_option maxHeartbeats 0
namespace K13
open PySem PySem.Spec PyProof.Rows L2
abbrev R : PySem.W.OpenRow := PySem.W.OpenLaw.row PySem.Challenge.rw_hourhaul_k13_laid_together_and_later
abbrev hk : PySem.W.Hook := He.hookD 4 md.fa md.fn
def ob (s : PySem.W.SharedT) : He.AlD := He.obsDG 4 md.fa md.fn (HandSHeadRun.getT s)
theorem ob_eq (s : PySem.W.SharedT) : ob s = hk.obs s.abs := He.obsDG_eq (HandSHeadRun.getT_eq s)
def loose : List PySem.Str := ["added_loads", "laid_plans", "later_plan", "_law_pool", "_law_next", "_law_cells", "_law_way", "_law_net", "_law_out", "_law_come", "_law_left", "_law_plan", "_law_plan_like", "_law_number_like", "_law_joined", "_law_laid_right", "_law_later_right"]
theorem run (w : World) : HandSHeadRun.RunEq R (PySem.W.view R.prog [19]) hk ob 4000 loose w := by
  intro os
  kernel_rfl
/-- the law, plainly -/
theorem plain (ns : List Int) (h : ns.length ≤ 63) : ∃ outs, (Vi.dl md.prog WF 8).call 16 [.nd (.lst false) (ns.map Vi.D.int)] = .ok (.bl true) outs := by
  obtain ⟨d, l, e, rfl⟩ := Vq.FKt.get (law_all (n := 0) h)
  exact ⟨l, e⟩
end K13
open PySem PySem.W PySem.Calls PyProof.Rows
theorem PySem.Challenge.cw_hourhaul_k13_laid_together_and_later_holds : PySem.Challenge.rw_hourhaul_k13_laid_together_and_later.Holds := by
  w_on; o_law
  refine HandSHeadRun.head_any (r := OpenLaw.row PySem.Challenge.rw_hourhaul_k13_laid_together_and_later) (q := view (OpenLaw.row PySem.Challenge.rw_hourhaul_k13_laid_together_and_later).prog [19]) (H := K13.hk) (ob := K13.ob) (M := 4000) (loose := K13.loose) (d := HandSHeadRun.topDef (OpenLaw.row PySem.Challenge.rw_hourhaul_k13_laid_together_and_later).prog 19) (kwd := []) K13.ob_eq
    (by kernel_rfl) (fun s => by kernel_rfl) K13.run (by kernel_rfl) (by kernel_rfl) (by kernel_rfl) (by rfl) (by first | assumption | decide +kernel) (by decide +kernel) ⟨rfl, rfl, rfl, rfl, rfl, by decide +kernel⟩ ?hw ?hc
  case hw => w_witness2
  case hc =>
    refine L2.walk_v (l := PySem.Challenge.rw_hourhaul_k13_laid_together_and_later) (n := 63) (k := 8) (x := "script") rfl (by decide) (by kernel_rfl) ⟨rfl, by decide, by decide⟩ ?F
    intro w mg fa h Y G hmg0
    obtain ⟨K, KX, c⟩ := Y
    have hmg : mg ("law" : PySem.Str) = some (.ref fa) := by
      have e : (HandSHeadRun.topDef (OpenLaw.row PySem.Challenge.rw_hourhaul_k13_laid_together_and_later).prog 19).name = ("law" : PySem.Str) := by kernel_rfl
      rw [← e]
      exact hmg0
    have X := Vi.Md.facts KX G c K13.mdB
    obtain ⟨f, fd, F, hf, hb⟩ := X.fn 16 (K13.md.ds[16]) rfl
    have e := hmg.symm.trans hf
    cases e
    refine ⟨K, fd, _, KX, ?_, fun H a ns hl _ hS => Vi.law_sp (m := K13.md) (cl := fun _ => 0) (W := K13.WF) rfl K13.plain H a ns hl hS, fun base _ _ => Vi.all_ok X K13.mdOk 8 16 _ _ fd rfl F⟩
    exact fun s u => L2.FunD.bindsA (ps := ["script"]) F (fun _ _ _ _ _ _ us hl => match us, hl with | [_], _ => rfl) s [u] rfl
