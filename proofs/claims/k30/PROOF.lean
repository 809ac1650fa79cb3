import PyProof.Rows.All
import Wide.All
import OpenK.AllK
import Wide.FinOn
import HandS.ForMost
import HandS.ForExc
import HandS.Wide
import HandS.Deep
import HandS.Style
import HandS.Comp
import HandS.More
import HandS.Iter
import HandS.IsInst
import HandS.Conv
import HandS.SortInts
import HandS.WordsExc
import HandS.Flt
import KE.SortData
import KE.DataEq
import PyProof.ReprRoads
import HandS.Dict
import HandS.Small
import HandS.NoneIn
import HandS.ExcIs
import HandS.ExcOwn
import HandS.TryOnly
import HandS.ExcValue
import KE.KExcIs
import HandS.TupLe
import KE.GoesMore
import KE.GoesEnum
import HandS.Sort
import KE.KDictKeyed
import KE.KDictCopyH
import KE.DataMinMax
import KE.KDictWalk
import PyProof.DictMoreH
import KE.KDictZip
import PyProof.TupleOfSeq
import HandS.TupAny
import HandS.ExcInit
import HandS.ExcField
import KE.KExcInit
import KE.KExcLine
import HandS.TupSets
import PySem.Challenge.RW_bowfloor_k30_turns_that_can_be_done
set_option Elab.async false
set_option linter.all false
set_option maxRecDepth 100000
set_option maxHeartbeats 4000000
namespace TV
open PySem PySem.Spec PyProof.Rows L2
inductive Fg where | ln | fz | ow
  deriving DecidableEq
inductive Kd where | lst | lsg | tup | tpg | dK (ks : List Key) | dT (ks : List (List Key)) | ex (x : Str)
  deriving DecidableEq
inductive T where
  | non | bl (b : Bool) | int (i : Int) | str (x : Str)
  | nd (f : Fg) (k : Kd) (xs : List T)
mutual
def T.loan : T → T
  | .nd .ow k xs => .nd .ln k (T.loanL xs)
  | t => t
def T.loanL : List T → List T
  | [] => []
  | x :: xs => x.loan :: T.loanL xs
end
mutual
def T.frz : T → T
  | .nd .fz k xs => .nd .fz k xs
  | .nd .ow k xs => .nd .fz k (T.frzL xs)
  | .nd .ln k xs => .nd .fz k (T.frzL xs)
  | t => t
def T.frzL : List T → List T
  | [] => []
  | x :: xs => x.frz :: T.frzL xs
end
/-- whole numbers and texts; tuples of these are frozen from the first -/
def T.sc : T → Bool
  | .int _ => true
  | .str _ => true
  | _ => false
def scTup (k : Kd) (xs : List T) : Bool := match k with
  | .tup => xs.all T.sc
  | _ => false
def Kd.tg : Kd → Bool
  | .tpg => true
  | _ => false
/-- a new object -/
def mkN (k : Kd) (xs : List T) : T := .nd (if scTup k xs = true then .fz else .ow) k xs
mutual
def T.dgr : T → T
  | .nd .fz k xs => if scTup k xs = true then .nd .fz k xs else .nd .ln k (T.dgrL xs)
  | .nd .ow k xs => .nd .ow k (T.dgrL xs)
  | .nd .ln k xs => .nd .ln k xs
  | t => t
def T.dgrL : List T → List T
  | [] => []
  | x :: xs => x.dgr :: T.dgrL xs
end
mutual
/-- nothing seen for now -/
def T.noLn : T → Bool
  | .nd .ln _ _ => false
  | .nd .fz _ _ => true
  | .nd .ow _ xs => T.noLnL xs
  | _ => true
def T.noLnL : List T → Bool
  | [] => true
  | x :: xs => x.noLn && T.noLnL xs
end
mutual
/-- nothing frozen -/
def T.noFz : T → Bool
  | .nd .fz k xs => scTup k xs
  | .nd .ln _ _ => false
  | .nd .ow _ xs => T.noFzL xs
  | _ => true
def T.noFzL : List T → Bool
  | [] => true
  | x :: xs => x.noFz && T.noFzL xs
end
def scV : V → Bool
  | .int _ => true
  | .str _ => true
  | _ => false
/-- all tuples of numbers and texts that stand in H are frozen -/
def Im (F H : Hp) : Prop := ∀ b vs, H b = some (.tup vs) → vs.all scV = true → F b = some (.tup vs)
def Kd.ho : Kd → List V → HO
  | .lst, vs => .lst vs
  | .lsg, vs => .lst vs
  | .tup, vs => .tup vs
  | .tpg, vs => .tup vs
  | .dK ks, vs => .dK (ks.zip vs)
  | .dT ks, vs => .dT (ks.zip vs)
  | .ex _, _ => .rng 0 0
/-- an exception that was caught: of the class cls, its own dict d -/
def ExV (cls : Value) (d : Option Addr) (a : Addr) : HO := .ext fun h => ∃ (oe : Obj) (vs : Array Value), h.get? a = some oe ∧ Zc cls d oe ∧ oe.data = .fields vs
/-- what stands in its own dict -/
def ExFs (H : Hp) (vs : List V) : Option Addr → Prop
  | none => vs = []
  | some dd => ∃ v w : V, vs = [v, w] ∧ H dd = some (.xd [(("other" : Str), w), (("one" : Str), v)])
/-- what is raised: its class's name; of one with an own __init__ what its two fields hold, tuples of numbers -/
structure Xc where
  n : Str
  f : Option (List Key × List Key)
instance : Coe Str Xc := ⟨fun x => ⟨x, none⟩⟩
/-- from H, where its own dict does not stand yet, to H', where it does -/
def XA (H H' : Hp) (x : Xc) (d : Option Addr) : Prop := match x.f with
  | none => d = none ∧ H' = H
  | some (p, q) => ∃ dd a b : Addr, d = some dd ∧ H dd = none ∧ H' = upd H dd (.xd [(("other" : Str), .ref b), (("one" : Str), .ref a)]) ∧ H a = some (.tup (p.map kV)) ∧ H b = some (.tup (q.map kV))
/-- what is raised reaches what is wanted of it -/
def Rz (mg : Str → Option Value) (x : Xc) (H : Hp) (E : Value → Option Addr → Hp → Prop) : Prop := ∀ cls d H', mg x.n = some cls → XA H H' x d → E cls d H'
def Kd.fit : Kd → Nat → Prop
  | .lst, _ => True
  | .lsg, _ => True
  | .tup, _ => True
  | .tpg, _ => True
  | .dK ks, n => ks.length = n
  | .dT ks, n => ks.length = n
  | .ex _, _ => False
section
variable (K : PySem.W.Frag)
/-- it stands there, to be read -/
def Stands (H : Hp) (a : Addr) : Kd → List V → Prop
  | .lst, vs => H a = some (.lst vs)
  | .lsg, vs => SqL K H a vs
  | .tup, vs => H a = some (.tup vs)
  | .tpg, vs => SqT K H a vs
  | .dK ks, vs => Rd H a (.dK (ks.zip vs)) ∧ ks.length = vs.length
  | .dT ks, vs => Rd H a (.dT (ks.zip vs)) ∧ ks.length = vs.length
  | .ex x, vs => vs = [.non] ∨ ∃ (cls : Value) (d : Option Addr), PySem.W.nsIn K mainGlobals x = some (some cls) ∧ H a = some (ExV cls d a) ∧ ExFs H vs d
mutual
inductive Fro (F : Hp) : T → V → Prop
  | non : Fro F .non .non
  | bl (b : Bool) : Fro F (.bl b) (.bl b)
  | int (i : Int) : Fro F (.int i) (.int i)
  | str (x : Str) : Fro F (.str x) (.str x)
  | fz {a : Addr} {k : Kd} {xs : List T} {vs : List V} : FroL F xs vs → Stands K F a k vs → Fro F (.nd .fz k xs) (.ref a)
inductive FroL (F : Hp) : List T → List V → Prop
  | nil : FroL F [] []
  | cons {t : T} {v : V} {ts : List T} {vs : List V} : Fro F t v → FroL F ts vs → FroL F (t :: ts) (v :: vs)
end
mutual
inductive Lon (F G : Hp) : T → V → Prop
  | non : Lon F G .non .non
  | bl (b : Bool) : Lon F G (.bl b) (.bl b)
  | int (i : Int) : Lon F G (.int i) (.int i)
  | str (x : Str) : Lon F G (.str x) (.str x)
  | fz {a : Addr} {k : Kd} {xs : List T} {vs : List V} : FroL K F xs vs → Stands K F a k vs → Lon F G (.nd .fz k xs) (.ref a)
  | ln {a : Addr} {k : Kd} {xs : List T} {vs : List V} : LonL F G xs vs → Stands K G a k vs → Lon F G (.nd .ln k xs) (.ref a)
inductive LonL (F G : Hp) : List T → List V → Prop
  | nil : LonL F G [] []
  | cons {t : T} {v : V} {ts : List T} {vs : List V} : Lon F G t v → LonL F G ts vs → LonL F G (t :: ts) (v :: vs)
end
mutual
inductive Rep (F G : Hp) : T → V → List Addr → Prop
  | lon {t : T} {v : V} : Lon K F G t v → Rep F G t v []
  | ow {a : Addr} {k : Kd} {xs : List T} {vs : List V} {as : List Addr} : RepL F G xs vs as → G a = some (k.ho vs) → k.fit vs.length → Rep F G (.nd .ow k xs) (.ref a) (a :: as)
inductive RepL (F G : Hp) : List T → List V → List Addr → Prop
  | nil : RepL F G [] [] []
  | cons {t : T} {v : V} {as : List Addr} {ts : List T} {vs : List V} {bs : List Addr} : Rep F G t v as → RepL F G ts vs bs → RepL F G (t :: ts) (v :: vs) (as ++ bs)
end
end
section
variable {K : PySem.W.Frag} {F F' G G' H : Hp}
theorem same_rd (s : Same F F') {a : Addr} {u : HO} (h : Rd F a u) : Rd F' a u := by
  rcases h with h | ⟨o, h⟩
  · exact .inl (s _ _ h)
  · exact .inr ⟨o, s _ _ h⟩
theorem Stands.mono (s : Same F F') {a : Addr} {k : Kd} {vs : List V} (h : Stands K F a k vs) : Stands K F' a k vs := by
  cases k with
  | lst => exact s _ _ h
  | lsg => exact h.imp (same_rd s) id
  | tup => exact s _ _ h
  | tpg => exact h.imp (same_rd s) id
  | dK ks => exact ⟨same_rd s h.1, h.2⟩
  | dT ks => exact ⟨same_rd s h.1, h.2⟩
  | ex x =>
    rcases h with h | ⟨cls, d, h1, h2, h3⟩
    · exact .inl h
    refine .inr ⟨cls, d, h1, s _ _ h2, ?_⟩
    cases d with
    | none => exact h3
    | some dd => obtain ⟨v, w, e, q⟩ := h3; exact ⟨v, w, e, s _ _ q⟩
theorem stands_own {a : Addr} {k : Kd} {vs : List V} (h : G a = some (k.ho vs)) (f : k.fit vs.length) : Stands K G a k vs := by
  cases k with
  | lst => exact h
  | lsg => exact .inl (.inl h)
  | tup => exact h
  | tpg => exact .inl (.inl h)
  | dK ks => exact ⟨.inl h, f⟩
  | dT ks => exact ⟨.inl h, f⟩
  | ex x => exact f.elim
mutual
theorem Fro.mono (s : Same F F') : ∀ {t : T} {v : V}, Fro K F t v → Fro K F' t v
  | _, _, .non => .non
  | _, _, .bl b => .bl b
  | _, _, .int i => .int i
  | _, _, .str x => .str x
  | _, _, .fz h st => .fz (FroL.mono s h) (st.mono s)
theorem FroL.mono (s : Same F F') : ∀ {ts : List T} {vs : List V}, FroL K F ts vs → FroL K F' ts vs
  | _, _, .nil => .nil
  | _, _, .cons h r => .cons (Fro.mono s h) (FroL.mono s r)
end
mutual
theorem Lon.mono (s : Same F F') (g : Same G G') : ∀ {t : T} {v : V}, Lon K F G t v → Lon K F' G' t v
  | _, _, .non => .non
  | _, _, .bl b => .bl b
  | _, _, .int i => .int i
  | _, _, .str x => .str x
  | _, _, .fz h st => .fz (h.mono s) (st.mono s)
  | _, _, .ln h st => .ln (LonL.mono s g h) (st.mono g)
theorem LonL.mono (s : Same F F') (g : Same G G') : ∀ {ts : List T} {vs : List V}, LonL K F G ts vs → LonL K F' G' ts vs
  | _, _, .nil => .nil
  | _, _, .cons h r => .cons (Lon.mono s g h) (LonL.mono s g r)
end
mutual
theorem Rep.mono (s : Same F F') (g : Same G G') : ∀ {t : T} {v : V} {as : List Addr}, Rep K F G t v as → Rep K F' G' t v as
  | _, _, _, .lon h => .lon (h.mono s g)
  | _, _, _, .ow h e f => .ow (RepL.mono s g h) (g _ _ e) f
theorem RepL.mono (s : Same F F') (g : Same G G') : ∀ {ts : List T} {vs : List V} {as : List Addr}, RepL K F G ts vs as → RepL K F' G' ts vs as
  | _, _, _, .nil => .nil
  | _, _, _, .cons h r => .cons (Rep.mono s g h) (RepL.mono s g r)
end
theorem Fro.lon : ∀ {t : T} {v : V}, Fro K F t v → Lon K F G t v
  | _, _, .non => .non
  | _, _, .bl b => .bl b
  | _, _, .int i => .int i
  | _, _, .str x => .str x
  | _, _, .fz h st => .fz h st
mutual
theorem Fro.frz_eq : ∀ {t : T} {v : V}, Fro K F t v → t.frz = t
  | _, _, .non => rfl
  | _, _, .bl b => rfl
  | _, _, .int i => rfl
  | _, _, .str x => rfl
  | _, _, .fz h st => rfl
theorem FroL.frz_eq : ∀ {ts : List T} {vs : List V}, FroL K F ts vs → T.frzL ts = ts
  | _, _, .nil => rfl
  | _, _, .cons h r => by rw [T.frzL, Fro.frz_eq h, FroL.frz_eq r]
end
mutual
theorem Rep.loan (s : Same F G) : ∀ {t : T} {v : V} {as : List Addr}, Rep K F G t v as → Lon K F G t.loan v
  | _, _, _, .lon h => by
    cases h with
    | non => exact .non
    | bl b => exact .bl b
    | int i => exact .int i
    | str x => exact .str x
    | fz h st => exact .fz h st
    | ln h st => exact .ln h st
  | _, _, _, .ow h e f => .ln (RepL.loan s h) (stands_own e f)
theorem RepL.loan (s : Same F G) : ∀ {ts : List T} {vs : List V} {as : List Addr}, RepL K F G ts vs as → LonL K F G (T.loanL ts) vs
  | _, _, _, .nil => .nil
  | _, _, _, .cons h r => .cons (Rep.loan s h) (RepL.loan s r)
end
mutual
theorem Lon.froG (s : Same F G) : ∀ {t : T} {v : V}, Lon K F G t v → Fro K G t.frz v
  | _, _, .non => .non
  | _, _, .bl b => .bl b
  | _, _, .int i => .int i
  | _, _, .str x => .str x
  | _, _, .fz h st => .fz (h.mono s) (st.mono s)
  | _, _, .ln h st => .fz (LonL.froG s h) st
theorem LonL.froG (s : Same F G) : ∀ {ts : List T} {vs : List V}, LonL K F G ts vs → FroL K G (T.frzL ts) vs
  | _, _, .nil => .nil
  | _, _, .cons h r => .cons (Lon.froG s h) (LonL.froG s r)
end
mutual
theorem Rep.froG (s : Same F G) : ∀ {t : T} {v : V} {as : List Addr}, Rep K F G t v as → Fro K G t.frz v
  | _, _, _, .lon h => h.froG s
  | _, _, _, .ow h e f => .fz (RepL.froG s h) (stands_own e f)
theorem RepL.froG (s : Same F G) : ∀ {ts : List T} {vs : List V} {as : List Addr}, RepL K F G ts vs as → FroL K G (T.frzL ts) vs
  | _, _, _, .nil => .nil
  | _, _, _, .cons h r => .cons (Rep.froG s h) (RepL.froG s r)
end
/-- frozen with what stands at as -/
def frzH (F G : Hp) (as : List Addr) : Hp := fun b => if b ∈ as then G b else F b
theorem frzH_in {as : List Addr} {b : Addr} (h : b ∈ as) : frzH F G as b = G b := if_pos h
theorem frzH_out {as : List Addr} {b : Addr} (h : b ∉ as) : frzH F G as b = F b := if_neg h
theorem frzH_same {as : List Addr} (h : ∀ a ∈ as, F a = none) : Same F (frzH F G as) := fun b o e => by
  rw [frzH_out fun z => by rw [h b z] at e; cases e]; exact e
theorem frzH_sub {as bs : List Addr} (h : ∀ a ∈ bs, F a = none) (hs : ∀ a ∈ as, a ∈ bs) : Same (frzH F G as) (frzH F G bs) := fun b o e => by
  by_cases hb : b ∈ as
  · rw [frzH_in hb] at e; rw [frzH_in (hs b hb)]; exact e
  · rw [frzH_out hb] at e
    rw [frzH_out fun z => by rw [h b z] at e; cases e]; exact e
theorem frzH_le {as : List Addr} (s : Same F G) : Same (frzH F G as) G := fun b o e => by
  by_cases hb : b ∈ as
  · rw [frzH_in hb] at e; exact e
  · rw [frzH_out hb] at e; exact s b o e
mutual
theorem Rep.frz : ∀ {t : T} {v : V} {as : List Addr}, t.noLn = true → (∀ a ∈ as, F a = none) → Rep K F G t v as → Fro K (frzH F G as) t.frz v
  | _, _, _, hn, ha, .lon h => by
    cases h with
    | non => exact .non
    | bl b => exact .bl b
    | int i => exact .int i
    | str x => exact .str x
    | fz h st => exact (Fro.fz h st).mono (frzH_same ha)
    | ln h st => cases hn
  | .nd .ow _ _, .ref a, _ :: as, hn, ha, .ow h e f => by
    have r := RepL.frz (by simpa [T.noLn] using hn) (fun b hb => ha b (List.mem_cons_of_mem _ hb)) h
    refine .fz (r.mono (frzH_sub ha fun b hb => List.mem_cons_of_mem _ hb)) (stands_own ?_ f)
    rw [frzH_in List.mem_cons_self]; exact e
theorem RepL.frz : ∀ {ts : List T} {vs : List V} {as : List Addr}, T.noLnL ts = true → (∀ a ∈ as, F a = none) → RepL K F G ts vs as → FroL K (frzH F G as) (T.frzL ts) vs
  | _, _, _, _, _, .nil => .nil
  | _, _, _, hn, ha, .cons h r => by
    rw [T.noLnL, Bool.and_eq_true] at hn
    exact .cons ((Rep.frz hn.1 (fun b hb => ha b (List.mem_append_left _ hb)) h).mono (frzH_sub ha fun b hb => List.mem_append_left _ hb))
      ((RepL.frz hn.2 (fun b hb => ha b (List.mem_append_right _ hb)) r).mono (frzH_sub ha fun b hb => List.mem_append_right _ hb))
end
theorem Lon.sc {t : T} {v : V} (h : Lon K F G t v) : t.sc = scV v := by cases h <;> rfl
theorem Fro.sc {t : T} {v : V} (h : Fro K F t v) : t.sc = scV v := by cases h <;> rfl
theorem Rep.sc {t : T} {v : V} {as : List Addr} (h : Rep K F G t v as) : t.sc = scV v := by
  cases h with
  | lon h => exact h.sc
  | ow h e f => rfl
theorem FroL.sc : ∀ {ts : List T} {vs : List V}, FroL K F ts vs → ts.all T.sc = vs.all scV
  | _, _, .nil => rfl
  | _, _, .cons h r => by rw [List.all_cons, List.all_cons, h.sc, FroL.sc r]
theorem RepL.sc : ∀ {ts : List T} {vs : List V} {as : List Addr}, RepL K F G ts vs as → ts.all T.sc = vs.all scV
  | _, _, _, .nil => rfl
  | _, _, _, .cons h r => by rw [List.all_cons, List.all_cons, h.sc, RepL.sc r]
theorem Fro.scF {t : T} {v : V} (n : t.sc = true) (h : Fro K F t v) : Fro K F' t v := by
  cases h with
  | non => exact .non
  | bl b => exact .bl b
  | int i => exact .int i
  | str x => exact .str x
  | fz h st => cases n
theorem FroL.scF : ∀ {ts : List T} {vs : List V}, ts.all T.sc = true → FroL K F ts vs → FroL K F' ts vs
  | _, _, _, .nil => .nil
  | _, _, n, .cons h r => by
    rw [List.all_cons, Bool.and_eq_true] at n
    exact .cons (h.scF n.1) (FroL.scF n.2 r)
theorem Rep.scF {t : T} {v : V} {as : List Addr} (n : t.sc = true) (h : Rep K F G t v as) : Fro K F' t v ∧ as = [] := by
  cases h with
  | lon h => cases h with
    | non => exact ⟨.non, rfl⟩
    | bl b => exact ⟨.bl b, rfl⟩
    | int i => exact ⟨.int i, rfl⟩
    | str x => exact ⟨.str x, rfl⟩
    | fz h st => cases n
    | ln h st => cases n
  | ow h e f => cases n
theorem RepL.scF : ∀ {ts : List T} {vs : List V} {as : List Addr}, ts.all T.sc = true → RepL K F G ts vs as → FroL K F' ts vs ∧ as = []
  | _, _, _, _, .nil => ⟨.nil, rfl⟩
  | _, _, _, n, .cons h r => by
    rw [List.all_cons, Bool.and_eq_true] at n
    obtain ⟨x1, x2⟩ := h.scF (F' := F') n.1
    obtain ⟨y1, y2⟩ := RepL.scF n.2 r
    subst x2; subst y2
    exact ⟨.cons x1 y1, rfl⟩
theorem scTup_some {k : Kd} {xs : List T} (h : scTup k xs = true) : k = .tup ∧ xs.all T.sc = true := by
  unfold scTup at h
  cases k <;> first | exact ⟨rfl, h⟩ | cases h
/-- a frozen tuple of numbers and texts stands wherever these do -/
theorem Fro.im {k : Kd} {xs : List T} {v : V} (m : Im F' F) (z : scTup k xs = true) (h : Fro K F (.nd .fz k xs) v) : Fro K F' (.nd .fz k xs) v := by
  obtain ⟨rfl, z⟩ := scTup_some z
  cases h with
  | fz h st => exact .fz (h.scF z) (m _ _ st (by rw [← h.sc]; exact z))
mutual
theorem Fro.dgr (s : Same F G) (m : Im F' F) : ∀ {t : T} {v : V}, Fro K F t v → Lon K F' G t.dgr v
  | _, _, .non => .non
  | _, _, .bl b => .bl b
  | _, _, .int i => .int i
  | _, _, .str x => .str x
  | .nd _ k xs, _, .fz h st => by
    show Lon K F' G (if scTup k xs = true then T.nd .fz k xs else .nd .ln k (T.dgrL xs)) _
    by_cases z : scTup k xs = true
    · rw [if_pos z]; exact ((Fro.fz h st).im m z).lon
    · rw [if_neg z]; exact .ln (FroL.dgr s m h) (st.mono s)
theorem FroL.dgr (s : Same F G) (m : Im F' F) : ∀ {ts : List T} {vs : List V}, FroL K F ts vs → LonL K F' G (T.dgrL ts) vs
  | _, _, .nil => .nil
  | _, _, .cons h r => .cons (Fro.dgr s m h) (FroL.dgr s m r)
end
/-- a tree of own nodes and frozen ones, the frozen ones seen for now -/
theorem T.nd_ow_noLn {k : Kd} {xs : List T} (h : (T.nd .ow k xs).noLn = true) : T.noLnL xs = true := by simpa [T.noLn] using h
mutual
theorem Rep.dgr (s : Same F G) (m : Im F' F) : ∀ {t : T} {v : V} {as : List Addr}, t.noLn = true → Rep K F G t v as → Rep K F' G t.dgr v as
  | _, _, _, hn, .lon h => by
    cases h with
    | non => exact .lon .non
    | bl b => exact .lon (.bl b)
    | int i => exact .lon (.int i)
    | str x => exact .lon (.str x)
    | fz h st => exact .lon ((Fro.fz h st).dgr s m)
    | ln h st => cases hn
  | .nd .ow k xs, .ref a, _ :: as, hn, .ow h e f => by
    exact .ow (RepL.dgr s m (T.nd_ow_noLn hn) h) e f
theorem RepL.dgr (s : Same F G) (m : Im F' F) : ∀ {ts : List T} {vs : List V} {as : List Addr}, T.noLnL ts = true → RepL K F G ts vs as → RepL K F' G (T.dgrL ts) vs as
  | _, _, _, _, .nil => .nil
  | _, _, _, hn, .cons h r => by
    rw [T.noLnL, Bool.and_eq_true] at hn
    exact .cons (Rep.dgr s m hn.1 h) (RepL.dgr s m hn.2 r)
end
theorem FroL.length : ∀ {ts : List T} {vs : List V}, FroL K F ts vs → ts.length = vs.length
  | _, _, .nil => rfl
  | _, _, .cons _ r => by rw [List.length_cons, List.length_cons, FroL.length r]
theorem LonL.length : ∀ {ts : List T} {vs : List V}, LonL K F G ts vs → ts.length = vs.length
  | _, _, .nil => rfl
  | _, _, .cons _ r => by rw [List.length_cons, List.length_cons, LonL.length r]
theorem RepL.length : ∀ {ts : List T} {vs : List V} {as : List Addr}, RepL K F G ts vs as → ts.length = vs.length
  | _, _, _, .nil => rfl
  | _, _, _, .cons _ r => by rw [List.length_cons, List.length_cons, RepL.length r]
theorem FroL.lon : ∀ {ts : List T} {vs : List V}, FroL K F ts vs → LonL K F G ts vs
  | _, _, .nil => .nil
  | _, _, .cons h r => .cons h.lon (FroL.lon r)
theorem LonL.rep : ∀ {ts : List T} {vs : List V}, LonL K F G ts vs → RepL K F G ts vs []
  | _, _, .nil => .nil
  | _, _, .cons h r => .cons (as := []) (bs := []) (.lon h) (LonL.rep r)
mutual
theorem Rep.there : ∀ {t : T} {v : V} {as : List Addr}, Rep K F G t v as → ∀ a ∈ as, ∃ o, G a = some o
  | _, _, _, .lon h => fun a ha => nomatch ha
  | _, _, _, .ow h e f => fun a ha => by
    rcases List.mem_cons.mp ha with rfl | ha
    · exact ⟨_, e⟩
    · exact RepL.there h a ha
theorem RepL.there : ∀ {ts : List T} {vs : List V} {as : List Addr}, RepL K F G ts vs as → ∀ a ∈ as, ∃ o, G a = some o
  | _, _, _, .nil => fun a ha => nomatch ha
  | _, _, _, .cons h r => fun a ha => (List.mem_append.mp ha).elim (Rep.there h a) (RepL.there r a)
end
mutual
theorem Rep.at : ∀ {t : T} {v : V} {as : List Addr}, t.noLn = true → (∀ a ∈ as, ∀ o, G a = some o → G' a = some o) → Rep K F G t v as → Rep K F G' t v as
  | _, _, _, hn, k, .lon h => by
    cases h with
    | non => exact .lon .non
    | bl b => exact .lon (.bl b)
    | int i => exact .lon (.int i)
    | str x => exact .lon (.str x)
    | fz h st => exact .lon (.fz h st)
    | ln h st => cases hn
  | .nd .ow _ xs, .ref a, _ :: as, hn, k, .ow h e f => by
    exact .ow (RepL.at (T.nd_ow_noLn hn) (fun a ha => k a (List.mem_cons_of_mem _ ha)) h) (k _ List.mem_cons_self _ e) f
theorem RepL.at : ∀ {ts : List T} {vs : List V} {as : List Addr}, T.noLnL ts = true → (∀ a ∈ as, ∀ o, G a = some o → G' a = some o) → RepL K F G ts vs as → RepL K F G' ts vs as
  | _, _, _, _, _, .nil => .nil
  | _, _, _, hn, k, .cons h r => by
    rw [T.noLnL, Bool.and_eq_true] at hn
    exact .cons (Rep.at hn.1 (fun a ha => k a (List.mem_append_left _ ha)) h) (RepL.at hn.2 (fun a ha => k a (List.mem_append_right _ ha)) r)
end
end
end TV
set_option Elab.async false
set_option linter.all false
set_option maxRecDepth 100000
set_option maxHeartbeats 4000000
namespace TV
open PySem PySem.Spec PyProof.Rows L2
inductive Sl1 where | un | vis (p : Bool) (t : T) | hid (p : Bool) (t : T)
abbrev Sl := List Sl1
def Sl1.noLn : Sl1 → Bool
  | .un => true
  | .vis _ t => t.noLn
  | .hid _ t => t.noLn
def NoLn (δ : Sl) : Prop := ∀ s ∈ δ, s.noLn = true
def NoLnT (ts : List (V × T)) : Prop := ∀ p ∈ ts, p.2.noLn = true
def Sl1.pin : Sl1 → Bool
  | .un => false
  | .vis p _ => p
  | .hid p _ => p
structure Bs where
  F : Hp
  H : Hp
  as : List Addr
  rf : List (Nat × V)
  ex : List Addr := []
section
variable (K : PySem.W.Frag)
inductive RSl (F G H : Hp) : L2.St → Sl → List Addr → List Addr → Prop
  | nil : RSl F G H [] [] [] []
  | un {o : Option V} {σ : L2.St} {δ : Sl} {av ah : List Addr} : RSl F G H σ δ av ah → RSl F G H (o :: σ) (.un :: δ) av ah
  | vis {v : V} {σ : L2.St} {p : Bool} {t : T} {δ : Sl} {as av ah : List Addr} : Rep K F G t v as → RSl F G H σ δ av ah → RSl F G H (some v :: σ) (.vis p t :: δ) (as ++ av) ah
  | hid {v : V} {σ : L2.St} {p : Bool} {t : T} {δ : Sl} {as av ah : List Addr} : t.noLn = true → Rep K F H t v as → RSl F G H σ δ av ah → RSl F G H (some v :: σ) (.hid p t :: δ) av (as ++ ah)
inductive RTs (F G : Hp) : List (V × T) → List Addr → Prop
  | nil : RTs F G [] []
  | cons {v : V} {t : T} {as at_ : List Addr} {ts : List (V × T)} : Rep K F G t v as → RTs F G ts at_ → RTs F G ((v, t) :: ts) (as ++ at_)
structure SttI (B : Bs) (σ : L2.St) (H : Hp) (δ : Sl) (ts : List (V × T)) (F G : Hp) (av ah at_ : List Addr) : Prop where
  fb : Same B.F F
  fg : Same F G
  gh : Same G H
  sl : RSl K F G H σ δ av ah
  tm : RTs K F G ts at_
  nd : ∀ a, av.count a + ah.count a + at_.count a ≤ 1
  fo : ∀ a, 0 < av.count a + ah.count a + at_.count a → F a = none
  hg : ∀ a, 0 < ah.count a → G a = none
  fr : ∀ b o, B.H b = some o → b ∉ B.as → H b = some o
  nw : ∀ a, 0 < av.count a + ah.count a + at_.count a → B.H a = none ∨ a ∈ B.as
  nf : ∀ a o, F a = some o → B.F a = some o ∨ B.H a = none ∨ a ∈ B.as
  pn : ∀ p ∈ B.rf, σ[p.1]? = some (some p.2) ∧ ∃ s : Sl1, δ[p.1]? = some s ∧ s.pin = true
  gx : ∀ a ∈ B.ex, G a = none ∧ (∃ o, B.H a = some o) ∧ a ∉ B.as
  ba : ∀ a ∈ B.as, ∃ o, H a = some o
  im : Im F H
def Stt (B : Bs) (σ : L2.St) (H : Hp) (δ : Sl) (ts : List (V × T)) : Prop := ∃ F G av ah at_, SttI K B σ H δ ts F G av ah at_
end
section
variable {K : PySem.W.Frag} {F F' G G' H H' : Hp} {σ : L2.St} {δ : Sl} {ts ts' : List (V × T)} {av ah at_ : List Addr} {B : Bs} {v : V} {t : T} {i : Nat} {p : Bool}
theorem mem_of_count {a : Addr} {l : List Addr} : a ∈ l ↔ 0 < l.count a := List.count_pos_iff.symm
theorem RSl.mono (s : Same F F') (g : Same G G') (hh : Same H H') : ∀ {σ : L2.St} {δ : Sl} {av ah : List Addr}, RSl K F G H σ δ av ah → RSl K F' G' H' σ δ av ah
  | _, _, _, _, .nil => .nil
  | _, _, _, _, .un r => .un (RSl.mono s g hh r)
  | _, _, _, _, .vis h r => .vis (h.mono s g) (RSl.mono s g hh r)
  | _, _, _, _, .hid n h r => .hid n (h.mono s hh) (RSl.mono s g hh r)
theorem RTs.mono (s : Same F F') (g : Same G G') : ∀ {ts : List (V × T)} {at_ : List Addr}, RTs K F G ts at_ → RTs K F' G' ts at_
  | _, _, .nil => .nil
  | _, _, .cons h r => .cons (h.mono s g) (RTs.mono s g r)
theorem RSl.len : ∀ {σ : L2.St} {δ : Sl} {av ah : List Addr}, RSl K F G H σ δ av ah → σ.length = δ.length
  | _, _, _, _, .nil => rfl
  | _, _, _, _, .un r => by rw [List.length_cons, List.length_cons, RSl.len r]
  | _, _, _, _, .vis h r => by rw [List.length_cons, List.length_cons, RSl.len r]
  | _, _, _, _, .hid n h r => by rw [List.length_cons, List.length_cons, RSl.len r]
/-- a visible slot: its tree, and what a change of it makes -/
theorem RSl.vis_at : ∀ {σ : L2.St} {δ : Sl} {av ah : List Addr} {i : Nat} {p : Bool} {t : T}, RSl K F G H σ δ av ah → δ[i]? = some (.vis p t) →
    ∃ v as rest, σ[i]? = some (some v) ∧ Rep K F G t v as ∧ (∀ a, av.count a = as.count a + rest.count a) ∧
      RSl K F G H σ (δ.set i .un) rest ah ∧
      ∀ p' t' as', Rep K F G t' v as' → ∃ av', RSl K F G H σ (δ.set i (.vis p' t')) av' ah ∧ ∀ a, av'.count a = as'.count a + rest.count a
  | _, _, _, _, _, _, _, .nil, e => by simp at e
  | _, _, _, _, 0, _, _, .un r, e => by simp at e
  | _, _, _, _, 0, _, _, .hid n h r, e => by simp at e
  | _, _, _, _, 0, p, t, .vis (v := v) (as := as) (av := av) h r, e => by
    simp at e
    obtain ⟨rfl, rfl⟩ := e
    exact ⟨v, as, av, rfl, h, fun a => by rw [List.count_append], .un r, fun p' t' as' h' => ⟨as' ++ av, .vis h' r, fun a => by rw [List.count_append]⟩⟩
  | _, _, _, _, i + 1, p, t, .un r, e => by
    obtain ⟨v, as, rest, e1, h1, c1, r1, k⟩ := RSl.vis_at (i := i) r (by simpa using e)
    exact ⟨v, as, rest, by simpa using e1, h1, c1, by simpa using RSl.un r1, fun p' t' as' h' => by
      obtain ⟨av', q1, q2⟩ := k p' t' as' h'
      exact ⟨av', by simpa using RSl.un q1, q2⟩⟩
  | _, _, _, _, i + 1, p, t, .vis (as := as0) h r, e => by
    obtain ⟨v, as, rest, e1, h1, c1, r1, k⟩ := RSl.vis_at (i := i) r (by simpa using e)
    refine ⟨v, as, as0 ++ rest, by simpa using e1, h1, fun a => by rw [List.count_append, List.count_append, c1]; omega, by simpa using RSl.vis h r1, fun p' t' as' h' => ?_⟩
    obtain ⟨av', q1, q2⟩ := k p' t' as' h'
    exact ⟨as0 ++ av', by simpa using RSl.vis h q1, fun a => by rw [List.count_append, List.count_append, q2]; omega⟩
  | _, _, _, _, i + 1, p, t, .hid (as := as0) n h r, e => by
    obtain ⟨v, as, rest, e1, h1, c1, r1, k⟩ := RSl.vis_at (i := i) r (by simpa using e)
    refine ⟨v, as, rest, by simpa using e1, h1, c1, by simpa using RSl.hid n h r1, fun p' t' as' h' => ?_⟩
    obtain ⟨av', q1, q2⟩ := k p' t' as' h'
    exact ⟨av', by simpa using RSl.hid n h q1, q2⟩
/-- a hidden slot -/
theorem RSl.hid_at : ∀ {σ : L2.St} {δ : Sl} {av ah : List Addr} {i : Nat} {p : Bool} {t : T}, RSl K F G H σ δ av ah → δ[i]? = some (.hid p t) →
    ∃ v as rest, σ[i]? = some (some v) ∧ Rep K F H t v as ∧ t.noLn = true ∧ (∀ a, ah.count a = as.count a + rest.count a) ∧
      RSl K F G H σ (δ.set i .un) av rest ∧
      (∀ p' t' as', t'.noLn = true → Rep K F H t' v as' → ∃ ah', RSl K F G H σ (δ.set i (.hid p' t')) av ah' ∧ ∀ a, ah'.count a = as'.count a + rest.count a)
  | _, _, _, _, _, _, _, .nil, e => by simp at e
  | _, _, _, _, 0, _, _, .un r, e => by simp at e
  | _, _, _, _, 0, _, _, .vis h r, e => by simp at e
  | _, _, _, _, 0, p, t, .hid (v := v) (as := as) (ah := ah) n h r, e => by
    simp at e
    obtain ⟨rfl, rfl⟩ := e
    exact ⟨v, as, ah, rfl, h, n, fun a => by rw [List.count_append], .un r, fun p' t' as' n' h' => ⟨as' ++ ah, .hid n' h' r, fun a => by rw [List.count_append]⟩⟩
  | _, _, _, _, i + 1, p, t, .un r, e => by
    obtain ⟨v, as, rest, e1, h1, n1, c1, r1, k⟩ := RSl.hid_at (i := i) r (by simpa using e)
    exact ⟨v, as, rest, by simpa using e1, h1, n1, c1, by simpa using RSl.un r1, fun p' t' as' n' h' => by
      obtain ⟨av', q1, q2⟩ := k p' t' as' n' h'
      exact ⟨av', by simpa using RSl.un q1, q2⟩⟩
  | _, _, _, _, i + 1, p, t, .vis (as := as0) h r, e => by
    obtain ⟨v, as, rest, e1, h1, n1, c1, r1, k⟩ := RSl.hid_at (i := i) r (by simpa using e)
    refine ⟨v, as, rest, by simpa using e1, h1, n1, c1, by simpa using RSl.vis h r1, fun p' t' as' n' h' => ?_⟩
    obtain ⟨av', q1, q2⟩ := k p' t' as' n' h'
    exact ⟨av', by simpa using RSl.vis h q1, q2⟩
  | _, _, _, _, i + 1, p, t, .hid (as := as0) n h r, e => by
    obtain ⟨v, as, rest, e1, h1, n1, c1, r1, k⟩ := RSl.hid_at (i := i) r (by simpa using e)
    refine ⟨v, as, as0 ++ rest, by simpa using e1, h1, n1, fun a => by rw [List.count_append, List.count_append, c1]; omega, by simpa using RSl.hid n h r1, fun p' t' as' n' h' => ?_⟩
    obtain ⟨av', q1, q2⟩ := k p' t' as' n' h'
    exact ⟨as0 ++ av', by simpa using RSl.hid n h q1, fun a => by rw [List.count_append, List.count_append, q2]; omega⟩
/-- a slot that may be stored to: it gives way, and takes another value -/
theorem RSl.store : ∀ {σ : L2.St} {δ : Sl} {av ah : List Addr} {i : Nat}, RSl K F G H σ δ av ah → i < δ.length →
    ∃ ra rh, (∀ a, ra.count a ≤ av.count a) ∧ (∀ a, rh.count a ≤ ah.count a) ∧
      RSl K F G H σ (δ.set i .un) ra rh ∧
      ∀ (o : Option V), RSl K F G H (σ.set i o) (δ.set i .un) ra rh ∧ ∀ p' v t' as', o = some v → Rep K F G t' v as' → ∃ av', RSl K F G H (σ.set i (some v)) (δ.set i (.vis p' t')) av' rh ∧ ∀ a, av'.count a = as'.count a + ra.count a
  | _, _, _, _, _, .nil, e => by simp at e
  | _, _, _, _, 0, .un (av := av) (ah := ah) r, e => ⟨av, ah, fun _ => Nat.le_refl _, fun _ => Nat.le_refl _, .un r, fun o => ⟨.un r, fun p' v t' as' _ h' => ⟨as' ++ av, .vis h' r, fun a => by rw [List.count_append]⟩⟩⟩
  | _, _, _, _, 0, .vis (av := av) (ah := ah) h r, e => ⟨av, ah, fun _ => by rw [List.count_append]; omega, fun _ => Nat.le_refl _, .un r, fun o => ⟨.un r, fun p' v t' as' _ h' => ⟨as' ++ av, .vis h' r, fun a => by rw [List.count_append]⟩⟩⟩
  | _, _, _, _, 0, .hid (av := av) (ah := ah) n h r, e => ⟨av, ah, fun _ => Nat.le_refl _, fun _ => by rw [List.count_append]; omega, .un r, fun o => ⟨.un r, fun p' v t' as' _ h' => ⟨as' ++ av, .vis h' r, fun a => by rw [List.count_append]⟩⟩⟩
  | _, _, _, _, i + 1, .un r, e => by
    obtain ⟨ra, rh, c1, c2, r1, k⟩ := RSl.store (i := i) r (by simpa using e)
    refine ⟨ra, rh, c1, c2, by simpa using RSl.un r1, fun o => ⟨by simpa using RSl.un (k o).1, fun p' v t' as' eo h' => ?_⟩⟩
    obtain ⟨av', q1, q2⟩ := (k o).2 p' v t' as' eo h'
    exact ⟨av', by simpa using RSl.un q1, q2⟩
  | _, _, _, _, i + 1, .vis (as := as0) h r, e => by
    obtain ⟨ra, rh, c1, c2, r1, k⟩ := RSl.store (i := i) r (by simpa using e)
    refine ⟨as0 ++ ra, rh, fun a => by rw [List.count_append, List.count_append]; have := c1 a; omega, c2, by simpa using RSl.vis h r1, fun o => ⟨by simpa using RSl.vis h (k o).1, fun p' v t' as' eo h' => ?_⟩⟩
    obtain ⟨av', q1, q2⟩ := (k o).2 p' v t' as' eo h'
    exact ⟨as0 ++ av', by simpa using RSl.vis h q1, fun a => by rw [List.count_append, List.count_append, q2]; omega⟩
  | _, _, _, _, i + 1, .hid (as := as0) n h r, e => by
    obtain ⟨ra, rh, c1, c2, r1, k⟩ := RSl.store (i := i) r (by simpa using e)
    refine ⟨ra, as0 ++ rh, c1, fun a => by rw [List.count_append, List.count_append]; have := c2 a; omega, by simpa using RSl.hid n h r1, fun o => ⟨by simpa using RSl.hid n h (k o).1, fun p' v t' as' eo h' => ?_⟩⟩
    obtain ⟨av', q1, q2⟩ := (k o).2 p' v t' as' eo h'
    exact ⟨av', by simpa using RSl.hid n h q1, q2⟩
/-- own slots' trees lean on their own addresses alone -/
theorem RSl.at (s : Same F F') : ∀ {σ : L2.St} {δ : Sl} {av ah : List Addr}, NoLn δ → (∀ a ∈ av, ∀ o, G a = some o → G' a = some o) → (∀ a ∈ ah, ∀ o, H a = some o → H' a = some o) → RSl K F G H σ δ av ah → RSl K F' G' H' σ δ av ah
  | _, _, _, _, hn, k1, k2, .nil => .nil
  | _, _, _, _, hn, k1, k2, .un r => .un (RSl.at s (fun x hx => hn x (List.mem_cons_of_mem _ hx)) k1 k2 r)
  | _, .vis _ _ :: _, _, _, hn, k1, k2, .vis h r => .vis ((h.at (hn _ List.mem_cons_self) (fun a ha => k1 a (List.mem_append_left _ ha))).mono s (fun _ _ e => e)) (RSl.at s (fun x hx => hn x (List.mem_cons_of_mem _ hx)) (fun a ha => k1 a (List.mem_append_right _ ha)) k2 r)
  | _, .hid _ _ :: _, _, _, hn, k1, k2, .hid n h r => .hid n ((h.at n (fun a ha => k2 a (List.mem_append_left _ ha))).mono s (fun _ _ e => e)) (RSl.at s (fun x hx => hn x (List.mem_cons_of_mem _ hx)) k1 (fun a ha => k2 a (List.mem_append_right _ ha)) r)
/-- hidden trees alone lean on the heap -/
theorem RSl.hat : ∀ {σ : L2.St} {δ : Sl} {av ah : List Addr}, (∀ a ∈ ah, ∀ o, H a = some o → H' a = some o) → RSl K F G H σ δ av ah → RSl K F G H' σ δ av ah
  | _, _, _, _, k2, .nil => .nil
  | _, _, _, _, k2, .un r => .un (RSl.hat k2 r)
  | _, _, _, _, k2, .vis h r => .vis h (RSl.hat k2 r)
  | _, _, _, _, k2, .hid n h r => .hid n (h.at n (fun a ha => k2 a (List.mem_append_left _ ha))) (RSl.hat (fun a ha => k2 a (List.mem_append_right _ ha)) r)
theorem RTs.at (s : Same F F') : ∀ {ts : List (V × T)} {at_ : List Addr}, NoLnT ts → (∀ a ∈ at_, ∀ o, G a = some o → G' a = some o) → RTs K F G ts at_ → RTs K F' G' ts at_
  | _, _, hn, k1, .nil => .nil
  | _ :: _, _, hn, k1, .cons h r => .cons ((h.at (hn _ List.mem_cons_self) (fun a ha => k1 a (List.mem_append_left _ ha))).mono s (fun _ _ e => e)) (RTs.at s (fun x hx => hn x (List.mem_cons_of_mem _ hx)) (fun a ha => k1 a (List.mem_append_right _ ha)) r)
theorem RTs.there : ∀ {ts : List (V × T)} {at_ : List Addr}, RTs K F G ts at_ → ∀ a ∈ at_, ∃ o, G a = some o
  | _, _, .nil => fun a ha => nomatch ha
  | _, _, .cons h r => fun a ha => (List.mem_append.mp ha).elim (h.there a) (RTs.there r a)
theorem RSl.thereV : ∀ {σ : L2.St} {δ : Sl} {av ah : List Addr}, RSl K F G H σ δ av ah → ∀ a ∈ av, ∃ o, G a = some o
  | _, _, _, _, .nil => fun a ha => nomatch ha
  | _, _, _, _, .un r => RSl.thereV r
  | _, _, _, _, .vis h r => fun a ha => (List.mem_append.mp ha).elim (h.there a) (RSl.thereV r a)
  | _, _, _, _, .hid n h r => RSl.thereV r
theorem RSl.thereH : ∀ {σ : L2.St} {δ : Sl} {av ah : List Addr}, RSl K F G H σ δ av ah → ∀ a ∈ ah, ∃ o, H a = some o
  | _, _, _, _, .nil => fun a ha => nomatch ha
  | _, _, _, _, .un r => RSl.thereH r
  | _, _, _, _, .vis h r => RSl.thereH r
  | _, _, _, _, .hid n h r => fun a ha => (List.mem_append.mp ha).elim (h.there a) (RSl.thereH r a)
/-- the values in hand are seen otherwise -/
theorem Stt.conv (h : ∀ F G as, Same F G → Same G H → Same B.F F → RTs K F G ts as → ∃ as', RTs K F G ts' as' ∧ ∀ a, as'.count a ≤ as.count a) (S : Stt K B σ H δ ts) : Stt K B σ H δ ts' := by
  obtain ⟨F, G, av, ah, at_, I⟩ := S
  obtain ⟨as', r, c⟩ := h F G at_ I.fg I.gh I.fb I.tm
  refine ⟨F, G, av, ah, as', I.fb, I.fg, I.gh, I.sl, r, fun a => ?_, fun a ha => I.fo a ?_, I.hg, I.fr, fun a ha => I.nw a ?_, I.nf, I.pn, I.gx, I.ba, I.im⟩
  · have := c a; have := I.nd a; omega
  · have := c a; omega
  · have := c a; omega
/-- .. and what they are -/
theorem Stt.see {P : Prop} (h : ∀ F G as, Same F G → Same G H → Same B.F F → RTs K F G ts as → P) (S : Stt K B σ H δ ts) : P := by
  obtain ⟨F, G, av, ah, at_, I⟩ := S
  exact h F G at_ I.fg I.gh I.fb I.tm
theorem Stt.drop {x : V × T} (S : Stt K B σ H δ (x :: ts)) : Stt K B σ H δ ts := S.conv fun F G as _ _ _ r => by
  cases r with
  | cons h r => exact ⟨_, r, fun a => by rw [List.count_append]; omega⟩
theorem Stt.push (h : ∀ F G, Same F G → Same B.F F → Lon K F G t v) (S : Stt K B σ H δ ts) : Stt K B σ H δ ((v, t) :: ts) := S.conv fun F G as s _ b r => ⟨[] ++ as, .cons (.lon (h F G s b)) r, fun a => Nat.le_refl _⟩
theorem Stt.swap {x y : V × T} (S : Stt K B σ H δ (x :: y :: ts)) : Stt K B σ H δ (y :: x :: ts) := S.conv fun F G as _ _ _ r => by
  cases r with
  | cons h r =>
    cases r with
    | cons h2 r => exact ⟨_, .cons h2 (.cons h r), fun a => by simp only [List.count_append]; omega⟩
theorem Stt.len (S : Stt K B σ H δ ts) : σ.length = δ.length := by
  obtain ⟨F, G, av, ah, at_, I⟩ := S
  exact I.sl.len
theorem Stt.var (S : Stt K B σ H δ ts) (e : δ[i]? = some (.vis p t)) : ∃ v, σ[i]? = some (some v) ∧ Stt K B σ H δ ((v, t.loan) :: ts) := by
  obtain ⟨F, G, av, ah, at_, I⟩ := S
  obtain ⟨v, as, rest, e1, h1, _⟩ := I.sl.vis_at e
  refine ⟨v, e1, F, G, av, ah, [] ++ at_, I.fb, I.fg, I.gh, I.sl, .cons (.lon (h1.loan I.fg)) I.tm, I.nd, I.fo, I.hg, I.fr, I.nw, I.nf, I.pn, I.gx, I.ba, I.im⟩
theorem pn_set {s : Sl1} (h : ∀ p ∈ B.rf, σ[p.1]? = some (some p.2) ∧ ∃ s : Sl1, δ[p.1]? = some s ∧ s.pin = true) (hs : ∀ s0, δ[i]? = some s0 → s0.pin = true → s.pin = true) :
    ∀ p ∈ B.rf, σ[p.1]? = some (some p.2) ∧ ∃ s' : Sl1, (δ.set i s)[p.1]? = some s' ∧ s'.pin = true := fun q hq => by
  obtain ⟨h1, s', h2, h3⟩ := h q hq
  refine ⟨h1, ?_⟩
  by_cases e : i = q.1
  · subst e
    refine ⟨s, ?_, hs s' h2 h3⟩
    rw [List.getElem?_set_self]
    exact (List.getElem?_eq_some_iff.mp h2).1
  · exact ⟨s', by rw [List.getElem?_set_ne e]; exact h2, h3⟩
theorem Stt.move (S : Stt K B σ H δ ts) (e : δ[i]? = some (.vis false t)) : ∃ v, σ[i]? = some (some v) ∧ Stt K B σ H (δ.set i .un) ((v, t) :: ts) := by
  obtain ⟨F, G, av, ah, at_, I⟩ := S
  obtain ⟨v, as, rest, e1, h1, c, r, _⟩ := I.sl.vis_at e
  refine ⟨v, e1, F, G, rest, ah, as ++ at_, I.fb, I.fg, I.gh, r, .cons h1 I.tm, fun a => ?_, fun a ha => I.fo a ?_, I.hg, I.fr, fun a ha => I.nw a ?_, I.nf, pn_set I.pn fun s0 h0 hp => ?_, I.gx, I.ba, I.im⟩
  · have := I.nd a; have := c a; rw [List.count_append]; omega
  · have := c a; rw [List.count_append] at ha; omega
  · have := c a; rw [List.count_append] at ha; omega
  · rw [e] at h0; cases h0; cases hp
/-- the value in hand is frozen for good -/
theorem Stt.frzT (S : Stt K B σ H δ ((v, t) :: ts)) (n : t.noLn = true) : Stt K B σ H δ ((v, t.frz) :: ts) := by
  obtain ⟨F, G, av, ah, at_, I⟩ := S
  obtain ⟨fb, fg, gh, sl, tm, nd, fo, hg, fr, nw, nf, pn, gx, ba, im⟩ := I
  cases tm with
  | cons h r =>
    rename_i as at_
    have ha : ∀ a ∈ as, F a = none := fun a ha => fo a (by have := mem_of_count.mp ha; rw [List.count_append]; omega)
    have s1 : Same F (frzH F G as) := frzH_same ha
    refine ⟨frzH F G as, G, av, ah, [] ++ at_, fun b o e => s1 _ _ (fb b o e), frzH_le fg, gh, sl.mono s1 (fun _ _ e => e) (fun _ _ e => e), .cons (.lon (Rep.frz n ha h).lon) (r.mono s1 fun _ _ e => e), fun a => ?_, fun a hc => ?_, hg, fr, fun a hc => nw a ?_, fun a o e => ?_, pn, gx, ba, fun b vs e z => s1 _ _ (im b vs e z)⟩
    · have := nd a; rw [List.count_append] at this; simp only [List.nil_append]; omega
    · have e1 := nd a
      rw [List.count_append] at e1
      simp only [List.nil_append] at hc
      have hn : a ∉ as := fun hm => by have := mem_of_count.mp hm; omega
      rw [frzH_out hn]
      exact fo a (by rw [List.count_append]; omega)
    · simp only [List.nil_append] at hc; rw [List.count_append]; omega
    · by_cases hm : a ∈ as
      · exact .inr (nw a (by have := mem_of_count.mp hm; rw [List.count_append]; omega))
      · rw [frzH_out hm] at e
        exact nf a o e
theorem RSl.put : ∀ {σ : L2.St} {δ : Sl} {av ah : List Addr} {i : Nat} {v : V}, RSl K F G H σ δ av ah → δ[i]? = some .un → σ[i]? = some (some v) →
    ∀ p t as, Rep K F G t v as → ∃ av', RSl K F G H σ (δ.set i (.vis p t)) av' ah ∧ ∀ a, av'.count a = as.count a + av.count a
  | _, _, _, _, _, _, .nil, e, _ => by simp at e
  | _, _, _, _, 0, _, .un (av := av) r, e, e2 => fun p t as h => by
    simp at e2
    subst e2
    exact ⟨as ++ av, .vis h r, fun a => by rw [List.count_append]⟩
  | _, _, _, _, 0, _, .vis h r, e, _ => by simp at e
  | _, _, _, _, 0, _, .hid n h r, e, _ => by simp at e
  | _, _, _, _, i + 1, _, .un r, e, e2 => fun p t as h => by
    obtain ⟨av', q1, q2⟩ := RSl.put (i := i) r (by simpa using e) (by simpa using e2) p t as h
    exact ⟨av', by simpa using RSl.un q1, q2⟩
  | _, _, _, _, i + 1, _, .vis (as := as0) h0 r, e, e2 => fun p t as h => by
    obtain ⟨av', q1, q2⟩ := RSl.put (i := i) r (by simpa using e) (by simpa using e2) p t as h
    exact ⟨as0 ++ av', by simpa using RSl.vis h0 q1, fun a => by rw [List.count_append, List.count_append, q2]; omega⟩
  | _, _, _, _, i + 1, _, .hid n h0 r, e, e2 => fun p t as h => by
    obtain ⟨av', q1, q2⟩ := RSl.put (i := i) r (by simpa using e) (by simpa using e2) p t as h
    exact ⟨av', by simpa using RSl.hid n h0 q1, q2⟩
theorem RSl.putH : ∀ {σ : L2.St} {δ : Sl} {av ah : List Addr} {i : Nat} {v : V}, RSl K F G H σ δ av ah → δ[i]? = some .un → σ[i]? = some (some v) →
    ∀ p t as, t.noLn = true → Rep K F H t v as → ∃ ah', RSl K F G H σ (δ.set i (.hid p t)) av ah' ∧ ∀ a, ah'.count a = as.count a + ah.count a
  | _, _, _, _, _, _, .nil, e, _ => by simp at e
  | _, _, _, _, 0, _, .un (ah := ah) r, e, e2 => fun p t as n h => by
    simp at e2
    subst e2
    exact ⟨as ++ ah, .hid n h r, fun a => by rw [List.count_append]⟩
  | _, _, _, _, 0, _, .vis h r, e, _ => by simp at e
  | _, _, _, _, 0, _, .hid n h r, e, _ => by simp at e
  | _, _, _, _, i + 1, _, .un r, e, e2 => fun p t as n h => by
    obtain ⟨av', q1, q2⟩ := RSl.putH (i := i) r (by simpa using e) (by simpa using e2) p t as n h
    exact ⟨av', by simpa using RSl.un q1, q2⟩
  | _, _, _, _, i + 1, _, .vis (as := as0) h0 r, e, e2 => fun p t as n h => by
    obtain ⟨av', q1, q2⟩ := RSl.putH (i := i) r (by simpa using e) (by simpa using e2) p t as n h
    exact ⟨av', by simpa using RSl.vis h0 q1, q2⟩
  | _, _, _, _, i + 1, _, .hid (as := as0) n0 h0 r, e, e2 => fun p t as n h => by
    obtain ⟨av', q1, q2⟩ := RSl.putH (i := i) r (by simpa using e) (by simpa using e2) p t as n h
    exact ⟨as0 ++ av', by simpa using RSl.hid n0 h0 q1, fun a => by rw [List.count_append, List.count_append, q2]; omega⟩
theorem pn_un {s : Sl1} (e : δ[i]? = some s) (hp : s.pin = false) (h : ∀ p ∈ B.rf, σ[p.1]? = some (some p.2) ∧ ∃ s : Sl1, δ[p.1]? = some s ∧ s.pin = true) (s' : Sl1) :
    ∀ p ∈ B.rf, σ[p.1]? = some (some p.2) ∧ ∃ s'' : Sl1, (δ.set i s')[p.1]? = some s'' ∧ s''.pin = true := pn_set h fun s0 h0 hq => by
  rw [e] at h0; cases h0; rw [hp] at hq; cases hq
/-- back into an empty slot that holds the value -/
theorem Stt.unmove (S : Stt K B σ H δ ((v, t) :: ts)) (e : δ[i]? = some .un) (e2 : σ[i]? = some (some v)) : Stt K B σ H (δ.set i (.vis false t)) ts := by
  obtain ⟨F, G, av, ah, at_, ⟨fb, fg, gh, sl, tm, nd, fo, hg, fr, nw, nf, pn, gx, ba, im⟩⟩ := S
  cases tm with
  | cons h r =>
    rename_i as at_
    obtain ⟨av', q1, q2⟩ := sl.put e e2 false t as h
    have cc : ∀ a, av'.count a + ah.count a + at_.count a = av.count a + ah.count a + (as ++ at_).count a := fun a => by rw [q2, List.count_append]; omega
    exact ⟨F, G, av', ah, at_, fb, fg, gh, q1, r, fun a => by rw [cc]; exact nd a, fun a h => fo a (by rw [← cc]; exact h), hg, fr, fun a h => nw a (by rw [← cc]; exact h), nf, pn_un e rfl pn _, gx, ba, im⟩
/-- a slot is frozen for good -/
theorem Stt.frzS (S : Stt K B σ H δ ts) (e : δ[i]? = some (.vis false t)) (n : t.noLn = true) : Stt K B σ H (δ.set i (.vis false t.frz)) ts := by
  obtain ⟨v, e1, S1⟩ := S.move e
  have hi : i < δ.length := (List.getElem?_eq_some_iff.mp e).1
  have S2 := (S1.frzT n).unmove (i := i) (by rw [List.getElem?_set_self hi]) e1
  rw [List.set_set] at S2
  exact S2
/-- a value is stored -/
theorem Stt.store (S : Stt K B σ H δ ((v, t) :: ts)) {s : Sl1} (e : δ[i]? = some s) (hp : s.pin = false) : Stt K B (σ.set i (some v)) H (δ.set i (.vis false t)) ts := by
  obtain ⟨F, G, av, ah, at_, ⟨fb, fg, gh, sl, tm, nd, fo, hg, fr, nw, nf, pn, gx, ba, im⟩⟩ := S
  cases tm with
  | cons h r =>
    rename_i as at_
    obtain ⟨ra, rh, c1, c2, _, k⟩ := sl.store (List.getElem?_eq_some_iff.mp e).1
    obtain ⟨av', q1, q2⟩ := (k (some v)).2 false v t as rfl h
    have cc : ∀ a, av'.count a + rh.count a + at_.count a ≤ av.count a + ah.count a + (as ++ at_).count a := fun a => by have := c1 a; have := c2 a; rw [q2, List.count_append]; omega
    refine ⟨F, G, av', rh, at_, fb, fg, gh, q1, r, fun a => Nat.le_trans (cc a) (nd a), fun a h => fo a (Nat.lt_of_lt_of_le h (cc a)), fun a h => hg a (Nat.lt_of_lt_of_le h (c2 a)), fr, fun a h => nw a (Nat.lt_of_lt_of_le h (cc a)), nf, fun q hq => ?_, gx, ba, im⟩
    obtain ⟨x1, x2⟩ := pn_un e hp pn (.vis false t) q hq
    refine ⟨?_, x2⟩
    have ne : i ≠ q.1 := fun z => by
      obtain ⟨_, s2, e2, p2⟩ := pn q hq
      rw [← z, e] at e2; cases e2; rw [hp] at p2; cases p2
    rw [List.getElem?_set_ne ne]; exact x1
/-- a slot is forgotten -/
theorem Stt.forget (S : Stt K B σ H δ ts) {s : Sl1} (e : δ[i]? = some s) (hp : s.pin = false) (o : Option V) : Stt K B (σ.set i o) H (δ.set i .un) ts := by
  obtain ⟨F, G, av, ah, at_, ⟨fb, fg, gh, sl, tm, nd, fo, hg, fr, nw, nf, pn, gx, ba, im⟩⟩ := S
  obtain ⟨ra, rh, c1, c2, _, k⟩ := sl.store (List.getElem?_eq_some_iff.mp e).1
  have cc : ∀ a, ra.count a + rh.count a + at_.count a ≤ av.count a + ah.count a + at_.count a := fun a => by have := c1 a; have := c2 a; omega
  refine ⟨F, G, ra, rh, at_, fb, fg, gh, (k o).1, tm, fun a => Nat.le_trans (cc a) (nd a), fun a h => fo a (Nat.lt_of_lt_of_le h (cc a)), fun a h => hg a (Nat.lt_of_lt_of_le h (c2 a)), fr, fun a h => nw a (Nat.lt_of_lt_of_le h (cc a)), nf, fun q hq => ?_, gx, ba, im⟩
  obtain ⟨x1, x2⟩ := pn_un e hp pn .un q hq
  refine ⟨?_, x2⟩
  have ne : i ≠ q.1 := fun z => by
    obtain ⟨_, s2, e2, p2⟩ := pn q hq
    rw [← z, e] at e2; cases e2; rw [hp] at p2; cases p2
  rw [List.getElem?_set_ne ne]; exact x1
/-- a new object of values in hand -/
theorem Stt.allocO {q : Addr} {k : Kd} {xs : List T} {vs : List V} (S : Stt K B σ H δ ts) (hp : H q = none) (hf : k.fit vs.length) (hsc : scTup k xs = false) (htg : k.tg = false)
    (h : ∀ F G as, Same F G → Same G H → RTs K F G ts as → ∃ a1 a2, RepL K F G xs vs a1 ∧ RTs K F G ts' a2 ∧ ∀ a, a1.count a + a2.count a ≤ as.count a) :
    Stt K B σ (upd H q (k.ho vs)) δ ((.ref q, .nd .ow k xs) :: ts') := by
  obtain ⟨F, G, av, ah, at_, ⟨fb, fg, gh, sl, tm, nd, fo, hg, fr, nw, nf, pn, gx, ba, im⟩⟩ := S
  obtain ⟨a1, a2, r1, r2, c⟩ := h F G at_ fg gh tm
  have gq : G q = none := by
    cases e : G q with
    | none => rfl
    | some o => have := gh q o e; rw [hp] at this; cases this
  have fq : F q = none := by
    cases e : F q with
    | none => rfl
    | some o => have := fg q o e; rw [gq] at this; cases this
  have sg : Same G (upd G q (k.ho vs)) := fun b o e => by rw [upd_ne (ne_of_none e gq)]; exact e
  have sh : Same H (upd H q (k.ho vs)) := fun b o e => by rw [upd_ne (ne_of_none e hp)]; exact e
  have hq : q ∉ av ∧ q ∉ ah ∧ q ∉ at_ := by
    refine ⟨fun z => ?_, fun z => ?_, fun z => ?_⟩
    · obtain ⟨o, e⟩ := sl.thereV q z; rw [gq] at e; cases e
    · obtain ⟨o, e⟩ := sl.thereH q z; rw [hp] at e; cases e
    · obtain ⟨o, e⟩ := tm.there q z; rw [gq] at e; cases e
  have z1 : av.count q = 0 := List.count_eq_zero.mpr hq.1
  have z2 : ah.count q = 0 := List.count_eq_zero.mpr hq.2.1
  have z3 : at_.count q = 0 := List.count_eq_zero.mpr hq.2.2
  have cc : ∀ a, av.count a + ah.count a + ((q :: a1) ++ a2).count a ≤ av.count a + ah.count a + at_.count a + (if q = a then 1 else 0) := fun a => by
    have := c a
    rw [List.cons_append, List.count_cons, List.count_append]
    by_cases e : q = a <;> simp [e] <;> omega
  have cq : ∀ a, 0 < av.count a + ah.count a + ((q :: a1) ++ a2).count a → a = q ∨ 0 < av.count a + ah.count a + at_.count a := fun a h => by
    by_cases e : q = a
    · exact .inl e.symm
    · have := cc a; rw [if_neg e] at this; exact .inr (by omega)
  refine ⟨F, upd G q (k.ho vs), av, ah, (q :: a1) ++ a2, fb, fun b o e => sg _ _ (fg b o e), fun b o e => ?_, sl.mono (fun _ _ e => e) sg sh, .cons (.ow (r1.mono (fun _ _ e => e) sg) upd_same hf) (r2.mono (fun _ _ e => e) sg), fun a => ?_, fun a h => ?_, fun a h => ?_, fun b o e h => sh _ _ (fr b o e h), fun a h => ?_, nf, pn, fun a ha => ⟨?_, (gx a ha).2⟩, fun a ha => let ⟨o, e⟩ := ba a ha; ⟨o, sh _ _ e⟩, fun b us e z => ?_⟩
  · by_cases hb : b = q
    · subst hb; rw [upd_same] at e ⊢; exact e
    · rw [upd_ne hb] at e ⊢; exact gh b o e
  · have := cc a; have := nd a
    by_cases e : q = a
    · subst e; have := c q; rw [List.cons_append, List.count_cons, List.count_append]; simp; omega
    · rw [if_neg e] at *; omega
  · rcases cq a h with rfl | h
    · exact fq
    · exact fo a h
  · by_cases e : a = q
    · subst e; omega
    · rw [upd_ne e]; exact hg a h
  · rcases cq a h with rfl | h
    · cases e : B.H a with
      | none => exact .inl rfl
      | some o =>
        by_cases ha : a ∈ B.as
        · exact .inr ha
        · have := fr a o e ha; rw [hp] at this; cases this
    · exact nw a h
  · obtain ⟨g1, ⟨o, e⟩, g3⟩ := gx a ha
    have : a ≠ q := fun z => by have := fr a o e g3; rw [z, hp] at this; cases this
    rw [upd_ne this]; exact g1
  · by_cases hb : b = q
    · subst hb
      rw [upd_same] at e
      have e := Option.some.inj e
      have sc := r1.sc
      cases k with
      | tup =>
        injection e with e
        subst e
        rw [← sc] at z
        exact absurd (show scTup .tup xs = true from z) (by rw [hsc]; simp)
      | tpg =>
        injection e with e
        subst e
        cases htg
      | _ => cases e
    · rw [upd_ne hb] at e; exact im b us e z
/-- a new tuple of numbers and texts: frozen from the first -/
theorem Stt.allocF {q : Addr} {xs : List T} {vs : List V} (S : Stt K B σ H δ ts) (hp : H q = none) (hsc : xs.all T.sc = true)
    (h : ∀ F G as, Same F G → Same G H → RTs K F G ts as → ∃ a1 a2, RepL K F G xs vs a1 ∧ RTs K F G ts' a2 ∧ ∀ a, a1.count a + a2.count a ≤ as.count a) :
    Stt K B σ (upd H q (.tup vs)) δ ((.ref q, .nd .fz .tup xs) :: ts') := by
  obtain ⟨F, G, av, ah, at_, ⟨fb, fg, gh, sl, tm, nd, fo, hg, fr, nw, nf, pn, gx, ba, im⟩⟩ := S
  obtain ⟨a1, a2, r1, r2, c⟩ := h F G at_ fg gh tm
  obtain ⟨fr1, e1⟩ := r1.scF (F' := upd F q (.tup vs)) hsc
  subst e1
  have gq : G q = none := by
    cases e : G q with
    | none => rfl
    | some o => have := gh q o e; rw [hp] at this; cases this
  have fq : F q = none := by
    cases e : F q with
    | none => rfl
    | some o => have := fg q o e; rw [gq] at this; cases this
  have sf : Same F (upd F q (.tup vs)) := fun b o e => by rw [upd_ne (ne_of_none e fq)]; exact e
  have sg : Same G (upd G q (.tup vs)) := fun b o e => by rw [upd_ne (ne_of_none e gq)]; exact e
  have sh : Same H (upd H q (.tup vs)) := fun b o e => by rw [upd_ne (ne_of_none e hp)]; exact e
  have hq : q ∉ av ∧ q ∉ ah ∧ q ∉ at_ := by
    refine ⟨fun z => ?_, fun z => ?_, fun z => ?_⟩
    · obtain ⟨o, e⟩ := sl.thereV q z; rw [gq] at e; cases e
    · obtain ⟨o, e⟩ := sl.thereH q z; rw [hp] at e; cases e
    · obtain ⟨o, e⟩ := tm.there q z; rw [gq] at e; cases e
  have z1 : av.count q = 0 := List.count_eq_zero.mpr hq.1
  have z2 : ah.count q = 0 := List.count_eq_zero.mpr hq.2.1
  have z3 : at_.count q = 0 := List.count_eq_zero.mpr hq.2.2
  have cc : ∀ a, ([] ++ a2).count a ≤ at_.count a := fun a => by
    have := c a
    rw [List.count_nil] at this
    rw [List.nil_append]; omega
  refine ⟨upd F q (.tup vs), upd G q (.tup vs), av, ah, [] ++ a2, fun b o e => sf _ _ (fb b o e), fun b o e => ?_, fun b o e => ?_, sl.mono sf sg sh, .cons (.lon (.fz fr1 upd_same)) (r2.mono sf sg), fun a => ?_, fun a h => ?_, fun a h => ?_, fun b o e h => sh _ _ (fr b o e h), fun a h => nw a (by have := cc a; omega), fun a o e => ?_, pn, fun a ha => ⟨?_, (gx a ha).2⟩, fun a ha => let ⟨o, e⟩ := ba a ha; ⟨o, sh _ _ e⟩, fun b us e z => ?_⟩
  · by_cases hb : b = q
    · subst hb; rw [upd_same] at e ⊢; exact e
    · rw [upd_ne hb] at e ⊢; exact fg b o e
  · by_cases hb : b = q
    · subst hb; rw [upd_same] at e ⊢; exact e
    · rw [upd_ne hb] at e ⊢; exact gh b o e
  · have := cc a; have := nd a; omega
  · have ha : a ≠ q := fun e => by subst e; have := cc a; omega
    rw [upd_ne ha]; exact fo a (by have := cc a; omega)
  · have ha : a ≠ q := fun e => by subst e; omega
    rw [upd_ne ha]; exact hg a h
  · by_cases ha : a = q
    · subst ha
      cases e : B.H a with
      | none => exact .inr (.inl rfl)
      | some o =>
        by_cases ha : a ∈ B.as
        · exact .inr (.inr ha)
        · have := fr a o e ha; rw [hp] at this; cases this
    · rw [upd_ne ha] at e; exact nf a o e
  · obtain ⟨g1, ⟨o, e⟩, g3⟩ := gx a ha
    have : a ≠ q := fun z => by have := fr a o e g3; rw [z, hp] at this; cases this
    rw [upd_ne this]; exact g1
  · by_cases hb : b = q
    · subst hb; rw [upd_same] at e ⊢; exact e
    · rw [upd_ne hb] at e ⊢; exact im b us e z
theorem mkN_ow {k : Kd} {xs : List T} (h : scTup k xs = false) : mkN k xs = .nd .ow k xs := by unfold mkN; rw [h]; rfl
theorem mkN_fz {xs : List T} (h : xs.all T.sc = true) : mkN .tup xs = .nd .fz .tup xs := by unfold mkN; rw [show scTup .tup xs = true from h]; rfl
theorem Stt.alloc {q : Addr} {k : Kd} {xs : List T} {vs : List V} (S : Stt K B σ H δ ts) (hp : H q = none) (hf : k.fit vs.length)
    (h : ∀ F G as, Same F G → Same G H → RTs K F G ts as → ∃ a1 a2, RepL K F G xs vs a1 ∧ RTs K F G ts' a2 ∧ ∀ a, a1.count a + a2.count a ≤ as.count a) (htg : k.tg = false := by rfl) :
    Stt K B σ (upd H q (k.ho vs)) δ ((.ref q, mkN k xs) :: ts') := by
  by_cases z : scTup k xs = true
  · obtain ⟨rfl, z⟩ := scTup_some z
    rw [mkN_fz z]
    exact S.allocF hp z h
  · have z : scTup k xs = false := by simpa using z
    rw [mkN_ow z]
    exact S.allocO hp hf z htg h
theorem _root_.TV.Im.upd {D : Addr} {o : HO} (im : Im F H) (no : ∀ us, o ≠ .tup us) : Im F (L2.upd H D o) := fun b us e z => by
  by_cases hb : b = D
  · subst hb; rw [upd_same] at e; exact absurd (Option.some.inj e) (no us)
  · rw [upd_ne hb] at e; exact im b us e z
end
end TV
set_option Elab.async false
set_option linter.all false
set_option maxRecDepth 100000
set_option maxHeartbeats 4000000
namespace TV
open PySem PySem.Spec PyProof.Rows L2
def T.get : List Nat → T → Option T
  | [], t => some t
  | j :: p, .nd .ow _ xs => (xs[j]?).bind (T.get p)
  | _ :: _, _ => none
def T.put : List Nat → T → T → T
  | [], _, u => u
  | j :: p, .nd f k xs, u => .nd f k (xs.modify j fun t => T.put p t u)
  | _ :: _, t, _ => t
/-- from value to value, by places -/
def PathV (G : Hp) : List Nat → V → V → Prop
  | [], v, w => v = w
  | j :: p, v, w => ∃ a k vs v', v = .ref a ∧ G a = some (Kd.ho k vs) ∧ k.fit vs.length ∧ vs[j]? = some v' ∧ PathV G p v' w
section
variable {K : PySem.W.Frag} {F F' G G' H H' : Hp} {σ : L2.St} {δ : Sl} {ts ts' tsx : List (V × T)} {av ah at_ : List Addr} {B : Bs} {v : V} {t : T} {i : Nat} {p : Bool}
theorem PathV.mono (s : Same G G') : ∀ {p : List Nat} {v w : V}, PathV G p v w → PathV G' p v w
  | [], _, _, h => h
  | _ :: _, _, _, ⟨a, k, vs, v', e, h, f, e2, r⟩ => ⟨a, k, vs, v', e, s _ _ h, f, e2, PathV.mono s r⟩
theorem RepL.at_place : ∀ {ts : List T} {vs : List V} {as : List Addr} {j : Nat} {t : T}, RepL K F G ts vs as → ts[j]? = some t →
    ∃ (v : V) (as1 as0 : List Addr), vs[j]? = some v ∧ Rep K F G t v as1 ∧ (∀ a, as.count a = as0.count a + as1.count a) ∧
      (T.noLnL ts = true → t.noLn = true) ∧
      ∀ (G' : Hp) (f : T → T) (as1' : List Addr), T.noLnL ts = true → (∀ a ∈ as0, ∀ o, G a = some o → G' a = some o) → Rep K F G' (f t) v as1' → ∃ as' : List Addr, RepL K F G' (ts.modify j f) vs as' ∧ ∀ a, as'.count a = as0.count a + as1'.count a
  | _, _, _, _, _, .nil, e => by simp at e
  | _, _, _, 0, _, .cons (v := v) (as := as) (bs := bs) h r, e => by
    simp at e
    subst e
    refine ⟨v, as, bs, rfl, h, fun a => by rw [List.count_append]; omega, fun n => by rw [T.noLnL, Bool.and_eq_true] at n; exact n.1, fun G' f as1' n k h' => ⟨as1' ++ bs, ?_, fun a => by rw [List.count_append]; omega⟩⟩
    rw [T.noLnL, Bool.and_eq_true] at n
    exact .cons h' (r.at n.2 k)
  | _, _, _, j + 1, _, .cons (v := v) (as := as) (bs := bs) h r, e => by
    obtain ⟨w, as1, as0, e1, h1, c, n1, k⟩ := RepL.at_place (j := j) r (by simpa using e)
    refine ⟨w, as1, as ++ as0, by simpa using e1, h1, fun a => by rw [List.count_append, List.count_append, c]; omega, fun n => by rw [T.noLnL, Bool.and_eq_true] at n; exact n1 n.2, fun G' f as1' n kk h' => ?_⟩
    rw [T.noLnL, Bool.and_eq_true] at n
    obtain ⟨as', q1, q2⟩ := k G' f as1' n.2 (fun a ha => kk a (List.mem_append_right _ ha)) h'
    exact ⟨as ++ as', .cons (h.at n.1 fun a ha => kk a (List.mem_append_left _ ha)) q1, fun a => by rw [List.count_append, List.count_append, q2]; omega⟩
theorem Rep.path : ∀ {p : List Nat} {t u : T} {v : V} {as : List Addr}, Rep K F G t v as → T.get p t = some u → t.noLn = true →
    ∃ (w : V) (as1 as0 : List Addr), PathV G p v w ∧ Rep K F G u w as1 ∧ u.noLn = true ∧ (∀ a, as.count a = as0.count a + as1.count a) ∧
      ∀ (G' : Hp) (u' : T) (as1' : List Addr), (∀ a ∈ as0, ∀ o, G a = some o → G' a = some o) → Rep K F G' u' w as1' → ∃ as' : List Addr, Rep K F G' (t.put p u') v as' ∧ ∀ a, as'.count a = as0.count a + as1'.count a
  | [], t, u, v, as, h, e, n => by
    have e' : t = u := by simpa [T.get] using e
    subst e'
    exact ⟨v, as, [], rfl, h, n, fun a => by simp, fun G' u' as1' _ h' => ⟨as1', h', fun a => by simp⟩⟩
  | j :: p, .nd .ow k xs, u, v, as, h, e, n => by
    cases h with
    | lon h => cases h
    | ow h eG f =>
      rename_i a vs as2
      simp only [T.get] at e
      cases ej : xs[j]? with
      | none => rw [ej] at e; cases e
      | some x =>
        rw [ej] at e
        have e : T.get p x = some u := e
        have nl := T.nd_ow_noLn n
        obtain ⟨vj, as1, as0, ev, hj, c, nj, kj⟩ := h.at_place ej
        obtain ⟨w, bs1, bs0, pv1, hw, nw, c2, kw⟩ := Rep.path (p := p) hj e (nj nl)
        refine ⟨w, bs1, a :: (as0 ++ bs0), ⟨a, k, vs, vj, rfl, eG, f, ev, pv1⟩, hw, nw, fun b => ?_, fun G' u' as1' kk h' => ?_⟩
        · rw [List.count_cons, List.count_cons, List.count_append, c, c2]; omega
        · obtain ⟨cs, q1, q2⟩ := kw G' u' as1' (fun b hb => kk b (List.mem_cons_of_mem _ (List.mem_append_right _ hb))) h'
          obtain ⟨ds, r1, r2⟩ := kj G' (fun t => t.put p u') cs nl (fun b hb => kk b (List.mem_cons_of_mem _ (List.mem_append_left _ hb))) q1
          refine ⟨a :: ds, .ow r1 (kk a List.mem_cons_self _ eG) f, fun b => ?_⟩
          rw [List.count_cons, List.count_cons, List.count_append, r2, q2]; omega
  | _ :: _, .nd .fz _ _, _, _, _, _, e, _ => by simp [T.get] at e
  | _ :: _, .nd .ln _ _, _, _, _, _, e, _ => by simp [T.get] at e
  | _ :: _, .non, _, _, _, _, e, _ => by simp [T.get] at e
  | _ :: _, .bl _, _, _, _, _, e, _ => by simp [T.get] at e
  | _ :: _, .int _, _, _, _, _, e, _ => by simp [T.get] at e
  | _ :: _, .str _, _, _, _, _, e, _ => by simp [T.get] at e
theorem RTs.split : ∀ {ts1 ts2 : List (V × T)} {as : List Addr}, RTs K F G (ts1 ++ ts2) as → ∃ a1 a2, RTs K F G ts1 a1 ∧ RTs K F G ts2 a2 ∧ ∀ a, as.count a = a1.count a + a2.count a
  | [], _, as, h => ⟨[], as, .nil, h, fun a => by simp⟩
  | _ :: _, _, _, .cons h r => by
    obtain ⟨a1, a2, r1, r2, c⟩ := RTs.split r
    exact ⟨_, a2, .cons h r1, r2, fun a => by rw [List.count_append, List.count_append, c]; omega⟩
theorem RTs.join : ∀ {ts1 ts2 : List (V × T)} {a1 a2 : List Addr}, RTs K F G ts1 a1 → RTs K F G ts2 a2 → ∃ as, RTs K F G (ts1 ++ ts2) as ∧ ∀ a, as.count a = a1.count a + a2.count a
  | [], _, _, a2, .nil, h2 => ⟨a2, h2, fun a => by simp⟩
  | _ :: _, _, _, _, .cons h r, h2 => by
    obtain ⟨as, q, c⟩ := RTs.join r h2
    exact ⟨_, .cons h q, fun a => by rw [List.count_append, List.count_append, c]; omega⟩
def Kd.noTup : Kd → Bool
  | .tup => false
  | .tpg => false
  | _ => true
theorem ho_noTup {k : Kd} {vs us : List V} (h : k.noTup = true) : k.ho vs ≠ .tup us := by
  cases k with
  | tup => cases h
  | tpg => cases h
  | _ => intro e; cases e
/-- an own object within a slot is written -/
theorem Stt.mutate {path : List Nat} {k : Kd} {xs : List T} (S : Stt K B σ H δ ts) (e : δ[i]? = some (.vis p t)) (hn : NoLn δ) (eg : T.get path t = some (.nd .ow k xs)) :
    ∃ v a vs, σ[i]? = some (some v) ∧ PathV H path v (.ref a) ∧ H a = some (k.ho vs) ∧ k.fit vs.length ∧ xs.length = vs.length ∧
      ∀ k' xs' vs' ts', k'.fit vs'.length → k'.noTup = true → T.noLnL xs' = true → NoLnT ts' →
        (∀ F G as1 as2, Same F G → Same G H → RepL K F G xs vs as1 → RTs K F G ts as2 → ∃ b1 b2, RepL K F G xs' vs' b1 ∧ RTs K F G ts' b2 ∧ ∀ c, b1.count c + b2.count c ≤ as1.count c + as2.count c) →
        Stt K B σ (upd H a (k'.ho vs')) (δ.set i (.vis p (t.put path (.nd .ow k' xs')))) ts' := by
  obtain ⟨F, G, av, ah, at_, ⟨fb, fg, gh, sl, tm, nd, fo, hg, fr, nw, nf, pn, gx, ba, im⟩⟩ := S
  obtain ⟨v, as, rest, e1, h1, c, rr, _⟩ := sl.vis_at e
  have hnt : t.noLn = true := hn _ (List.mem_of_getElem? e)
  obtain ⟨w, as1, as0, pth, hw, nu, c2, kw⟩ := h1.path eg hnt
  cases hw with
  | lon h => cases h
  | ow hx eG f =>
    rename_i a vs as2
    refine ⟨v, a, vs, e1, pth.mono gh, gh _ _ eG, f, hx.length, fun k' xs' vs' ts' f' tp' n' nt' hh => ?_⟩
    obtain ⟨b1, b2, r1, r2, cb⟩ := hh F G as2 at_ fg gh hx tm
    -- a stands but once
    have ca : ∀ b, as.count b = as0.count b + (if a = b then 1 else 0) + as2.count b := fun b => by
      have := c2 b; rw [List.count_cons] at this; by_cases e : a = b <;> simp [e] at this ⊢ <;> omega
    have one := nd a
    have once := ca a
    rw [if_pos rfl] at once
    have h0 := c a
    have cba := cb a
    have z0 : as0.count a = 0 := by omega
    have z1 : as2.count a = 0 := by omega
    have z2 : rest.count a = 0 := by omega
    have z3 : ah.count a = 0 := by omega
    have z4 : at_.count a = 0 := by omega
    have z5 : b1.count a = 0 := by omega
    have z6 : b2.count a = 0 := by omega
    have nin : ∀ {l : List Addr}, l.count a = 0 → ∀ b ∈ l, b ≠ a := fun {l} z b hb q => by subst q; exact absurd hb (List.count_eq_zero.mp z)
    have fa : F a = none := fo a (by omega)
    have sF : Same F (upd G a (k'.ho vs')) := fun b o eb => by rw [upd_ne (ne_of_none eb fa)]; exact fg b o eb
    have kG : ∀ {l : List Addr}, l.count a = 0 → ∀ b ∈ l, ∀ o, G b = some o → (upd G a (k'.ho vs')) b = some o := fun {l} z b hb o eb => by rw [upd_ne (nin z b hb)]; exact eb
    have kH : ∀ {l : List Addr}, l.count a = 0 → ∀ b ∈ l, ∀ o, H b = some o → (upd H a (k'.ho vs')) b = some o := fun {l} z b hb o eb => by rw [upd_ne (nin z b hb)]; exact eb
    have new : Rep K F (upd G a (k'.ho vs')) (.nd .ow k' xs') (.ref a) (a :: b1) := .ow (r1.at n' (kG z5)) upd_same f'
    obtain ⟨as', q1, q2⟩ := kw _ _ _ (kG z0) new
    have hnu : NoLn (δ.set i .un) := fun x hx => by
      rcases List.mem_or_eq_of_mem_set hx with h | h
      · exact hn x h
      · subst h; rfl
    have sl1 : RSl K F (upd G a (k'.ho vs')) (upd H a (k'.ho vs')) σ (δ.set i .un) rest ah := rr.at (fun _ _ e => e) hnu (kG z2) (kH z3)
    have hi : i < δ.length := (List.getElem?_eq_some_iff.mp e).1
    obtain ⟨av', s1, s2⟩ := sl1.put (i := i) (by rw [List.getElem?_set_self hi]) e1 p _ _ q1
    rw [List.set_set] at s1
    have cc : ∀ b, av'.count b + ah.count b + b2.count b ≤ av.count b + ah.count b + at_.count b := fun b => by
      have x1 := s2 b; have x2 := q2 b; have x3 := c b; have x4 := ca b; have x5 := cb b
      rw [List.count_cons] at x2
      by_cases e : a = b
      · subst e; simp at x2; simp at x4; omega
      · simp [e] at x2 x4; omega
    refine ⟨F, upd G a (k'.ho vs'), av', ah, b2, fb, sF, fun b o eb => ?_, s1, r2.at (fun _ _ e => e) nt' (kG z6), fun b => Nat.le_trans (cc b) (nd b), fun b hb => fo b (Nat.lt_of_lt_of_le hb (cc b)), fun b hb => ?_, fun b o eb hb => ?_, fun b hb => nw b (Nat.lt_of_lt_of_le hb (cc b)), nf, pn_set pn fun s0 h0 hp => ?_, fun b hb => ⟨?_, (gx b hb).2⟩, fun b hb => ?_, fun b us e z => ?_⟩
    · by_cases hb : b = a
      · subst hb; rw [upd_same] at eb ⊢; exact eb
      · rw [upd_ne hb] at eb ⊢; exact gh b o eb
    · have : b ≠ a := fun q => by subst q; omega
      rw [upd_ne this]; exact hg b hb
    · have : b ≠ a := fun q => by
        subst q
        rcases nw b (by omega) with x | x
        · rw [x] at eb; cases eb
        · exact hb x
      rw [upd_ne this]; exact fr b o eb hb
    · rw [e] at h0; cases h0; exact hp
    · have : b ≠ a := fun q => by
        subst q
        obtain ⟨g1, _⟩ := gx b hb
        rw [g1] at eG; cases eG
      rw [upd_ne this]; exact (gx b hb).1
    · by_cases q : b = a
      · subst q; exact ⟨_, upd_same⟩
      · obtain ⟨o, e⟩ := ba b hb
        exact ⟨o, by rw [upd_ne q]; exact e⟩
    · by_cases q : b = a
      · subst q
        rw [upd_same] at e
        exact absurd (Option.some.inj e) (ho_noTup tp')
      · rw [upd_ne q] at e; exact im b us e z
theorem NoLn.set (hn : NoLn δ) {s : Sl1} (h : s.noLn = true) : NoLn (δ.set i s) := fun x hx => by
  rcases List.mem_or_eq_of_mem_set hx with h' | h'
  · exact hn x h'
  · subst h'; exact h
/-- a slot is hidden, for a call that changes it -/
theorem Stt.hide (S : Stt K B σ H δ ts) (e : δ[i]? = some (.vis p t)) (hn : NoLn δ) (nt : NoLnT ts) : Stt K B σ H (δ.set i (.hid p t)) ts := by
  obtain ⟨F, G, av, ah, at_, ⟨fb, fg, gh, sl, tm, nd, fo, hg, fr, nw, nf, pn, gx, ba, im⟩⟩ := S
  obtain ⟨v, as, rest, e1, h1, c, rr, _⟩ := sl.vis_at e
  have hnt : t.noLn = true := hn _ (List.mem_of_getElem? e)
  have hi : i < δ.length := (List.getElem?_eq_some_iff.mp e).1
  have out : ∀ {l : List Addr}, (∀ a, 0 < l.count a → as.count a = 0) → ∀ b ∈ l, ∀ o, G b = some o → (fun b => if b ∈ as then none else G b) b = some o := fun {l} z b hb o eb => by
    have : b ∉ as := List.count_eq_zero.mp (z b (mem_of_count.mp hb))
    show (if b ∈ as then none else G b) = some o
    rw [if_neg this]; exact eb
  have sl1 : RSl K F (fun b => if b ∈ as then none else G b) H σ (δ.set i .un) rest ah := rr.at (fun _ _ e => e) (hn.set rfl) (out fun a ha => by have := nd a; have := c a; omega) (fun _ _ _ e => e)
  obtain ⟨ah', q1, q2⟩ := sl1.putH (i := i) (by rw [List.getElem?_set_self hi]) e1 p t as hnt (h1.mono (fun _ _ e => e) gh)
  rw [List.set_set] at q1
  have cc : ∀ a, rest.count a + ah'.count a + at_.count a = av.count a + ah.count a + at_.count a := fun a => by rw [q2, c]; omega
  refine ⟨F, fun b => if b ∈ as then none else G b, rest, ah', at_, fb, fun b o eb => ?_, fun b o eb => ?_, q1, tm.at (fun _ _ e => e) nt (out fun a ha => by have := nd a; have := c a; omega), fun a => by rw [cc]; exact nd a, fun a ha => fo a (by rw [← cc]; exact ha), fun a ha => ?_, fr, fun a ha => nw a (by rw [← cc]; exact ha), nf, pn_set pn fun s0 h0 hp => ?_, fun b hb => ⟨?_, (gx b hb).2⟩, ba, im⟩
  · have : b ∉ as := fun hb => by
      have := fo b (by have := c b; have := mem_of_count.mp hb; omega)
      rw [this] at eb; cases eb
    show (if b ∈ as then none else G b) = some o
    rw [if_neg this]; exact fg b o eb
  · by_cases hb : b ∈ as
    · simp [hb] at eb
    · simp [hb] at eb; exact gh b o eb
  · show (if a ∈ as then none else G a) = none
    by_cases hb : a ∈ as
    · rw [if_pos hb]
    · rw [if_neg hb]
      have := q2 a; have : as.count a = 0 := List.count_eq_zero.mpr hb
      exact hg a (by omega)
  · rw [e] at h0; cases h0; exact hp
  · show (if b ∈ as then none else G b) = none
    rw [(gx b hb).1]; split <;> rfl
/-- .. and seen again -/
theorem Stt.unhide (S : Stt K B σ H δ ts) (e : δ[i]? = some (.hid p t)) : Stt K B σ H (δ.set i (.vis p t)) ts := by
  obtain ⟨F, G, av, ah, at_, ⟨fb, fg, gh, sl, tm, nd, fo, hg, fr, nw, nf, pn, gx, ba, im⟩⟩ := S
  obtain ⟨v, as, rest, e1, h1, hnt, c, rr, _⟩ := sl.hid_at e
  have hi : i < δ.length := (List.getElem?_eq_some_iff.mp e).1
  have sg : Same G (fun b => if b ∈ as then H b else G b) := fun b o eb => by
    have : b ∉ as := fun hb => by
      have := hg b (by have := c b; have := mem_of_count.mp hb; omega)
      rw [this] at eb; cases eb
    show (if b ∈ as then H b else G b) = some o
    rw [if_neg this]; exact eb
  have rep : Rep K F (fun b => if b ∈ as then H b else G b) t v as := h1.at hnt fun a ha o eo => by
    show (if a ∈ as then H a else G a) = some o
    rw [if_pos ha]; exact eo
  obtain ⟨av', q1, q2⟩ := (rr.mono (fun _ _ e => e) sg (fun _ _ e => e)).put (i := i) (by rw [List.getElem?_set_self hi]) e1 p t as rep
  rw [List.set_set] at q1
  have cc : ∀ a, av'.count a + rest.count a + at_.count a = av.count a + ah.count a + at_.count a := fun a => by rw [q2, c]; omega
  refine ⟨F, fun b => if b ∈ as then H b else G b, av', rest, at_, fb, fun b o eb => sg _ _ (fg b o eb), fun b o eb => ?_, q1, tm.mono (fun _ _ e => e) sg, fun a => by rw [cc]; exact nd a, fun a ha => fo a (by rw [← cc]; exact ha), fun a ha => ?_, fr, fun a ha => nw a (by rw [← cc]; exact ha), nf, pn_set pn fun s0 h0 hp => ?_, fun b hb => ⟨?_, (gx b hb).2⟩, ba, im⟩
  · by_cases hb : b ∈ as
    · simpa [hb] using eb
    · simp [hb] at eb; exact gh b o eb
  · have x := nd a; have y := c a
    have : a ∉ as := List.count_eq_zero.mp (by omega)
    show (if a ∈ as then H a else G a) = none
    rw [if_neg this]; exact hg a (by omega)
  · rw [e] at h0; cases h0; exact hp
  · obtain ⟨g1, ⟨o, eo⟩, g3⟩ := gx b hb
    have : b ∉ as := fun hm => by
      rcases nw b (by have := mem_of_count.mp hm; have := c b; omega) with z | z
      · rw [eo] at z; cases z
      · exact g3 z
    show (if b ∈ as then H b else G b) = none
    rw [if_neg this]; exact g1
inductive Ar where | val (t : T) | ref (i : Nat)
def pick {α : Type} : List Bool → List α → List α
  | true :: ms, x :: xs => x :: pick ms xs
  | false :: ms, _ :: xs => pick ms xs
  | _, _ => []
variable (K) in
/-- what a callee finds -/
inductive RAr (F H : Hp) : List Bool → List T → List V → List Addr → Prop
  | nil : RAr F H [] [] [] []
  | val {t : T} {v : V} {ms : List Bool} {ts : List T} {vs : List V} {as : List Addr} : Fro K F t v → RAr F H ms ts vs as → RAr F H (false :: ms) (t :: ts) (v :: vs) as
  | ref {t : T} {v : V} {ms : List Bool} {ts : List T} {vs : List V} {as bs : List Addr} : t.noLn = true → Rep K F H t v as → RAr F H ms ts vs bs → RAr F H (true :: ms) (t :: ts) (v :: vs) (as ++ bs)
variable (K) in
/-- what it leaves: outs at the values of the changed arguments, and (where it returns) its value -/
structure Post (F H : Hp) (as : List Addr) (F' H' : Hp) (outs : List T) (vo : List V) (as' : List Addr) : Prop where
  ff : Same F F'
  fh : Same F' H'
  rp : RepL K F' H' outs vo as'
  nl : T.noLnL outs = true
  nd : ∀ a, as'.count a ≤ 1
  fo : ∀ a ∈ as', F' a = none
  fr : ∀ b o, H b = some o → b ∉ as → H' b = some o
  nw : ∀ a ∈ as', H a = none ∨ a ∈ as
  nf : ∀ a o, F' a = some o → F a = some o ∨ H a = none ∨ a ∈ as
  th : ∀ a ∈ as, ∃ o, H' a = some o
  im : Im F' H'
end
end TV
set_option Elab.async false
set_option linter.all false
set_option maxRecDepth 100000
set_option maxHeartbeats 4000000
namespace TV
open PySem PySem.Spec PyProof.Rows L2
/-- what a piece of code comes to: a value, an exception (its class), or nothing that is told -/
inductive R (σ α : Type) where
  | ok (a : α) (s : σ)
  | exc (x : Xc) (s : σ)
  | bad
def R.bind {σ α β : Type} (r : R σ α) (f : α → σ → R σ β) : R σ β :=
  match r with
  | .ok a s => f a s
  | .exc x s => .exc x s
  | .bad => .bad
/-- a def: from its arguments' trees to its value's, with the trees of the arguments that it changes -/
abbrev Fn := List T → R (List T) T
inductive Flw where | next | ret (t : T) | brk | cont
abbrev ES := Sl → R Sl T
abbrev SS := Sl → R Sl Flw
abbrev AS := Sl → R Sl (List Ar)
section
variable (K : PySem.W.Frag) (mg : Str → Option Value)
def spOf (ms : List Bool) (m : Fn) : Sp := fun vs H Q E => ∃ F as args, Same F H ∧ Im F H ∧ RAr K F H ms args vs as ∧ (∀ a, as.count a ≤ 1) ∧ (∀ a ∈ as, F a = none) ∧
  match m args with
  | .ok t outs => ∀ v H' F' as', Post K F H as F' H' (t :: outs) (v :: pick ms vs) as' → Q v H'
  | .exc x outs => ∀ H' F' as', Post K F H as F' H' outs (pick ms vs) as' → Rz mg x H' E
  | .bad => False
end
theorem RAr.len {K : PySem.W.Frag} {F H : Hp} : ∀ {ms : List Bool} {ts : List T} {vs : List V} {as : List Addr}, RAr K F H ms ts vs as → vs.length = ms.length ∧ ts.length = ms.length
  | _, _, _, _, .nil => ⟨rfl, rfl⟩
  | _, _, _, _, .val _ r => ⟨congrArg (· + 1) r.len.1, congrArg (· + 1) r.len.2⟩
  | _, _, _, _, .ref _ _ r => ⟨congrArg (· + 1) r.len.1, congrArg (· + 1) r.len.2⟩
def T.rootFz : T → Bool
  | .nd .fz _ _ => true
  | .nd _ _ _ => false
  | _ => true
def Ar.isRef : Ar → Bool
  | .ref _ => true
  | _ => false
def Ar.tn : Ar → Bool
  | .val t => !t.rootFz
  | _ => false
def refsOf : List Ar → List Nat
  | [] => []
  | .ref i :: r => i :: refsOf r
  | .val _ :: r => refsOf r
def hidT (δ : Sl) (i : Nat) : Option T := match δ[i]? with
  | some (.hid _ t) => some t
  | _ => none
def arT (δ : Sl) : Ar → Option T
  | .val t => some t.frz
  | .ref i => hidT δ i
def setHid (δ : Sl) (i : Nat) (t : T) : Sl := match δ[i]? with
  | some (.hid p _) => δ.set i (.hid p t)
  | _ => δ
def argsT (δ : Sl) : List Ar → Option (List T)
  | [] => some []
  | a :: r => (arT δ a).bind fun t => (argsT δ r).map fun ts => t :: ts
def outsTo (δ : Sl) : List Nat → List T → Option Sl
  | [], [] => some δ
  | [i], [t] => some (setHid δ i t)
  | _, _ => none
def callS (m : Fn) (as : List Ar) (δ : Sl) : R Sl T :=
  match argsT δ as with
  | none => .bad
  | some args => match m args with
    | .bad => .bad
    | .ok t outs => match outsTo δ (refsOf as) outs with
      | none => .bad
      | some δ' => if as.any Ar.tn then (if T.noFzL outs then .ok t.dgr δ' else .bad) else .ok t δ'
    | .exc x outs => match outsTo δ (refsOf as) outs with
      | none => .bad
      | some δ' => if as.any Ar.tn then (if T.noFzL outs then .exc x δ' else .bad) else .exc x δ'
def pushA : List Ar → List V → List (V × T) → List (V × T)
  | .val t :: r, v :: vs, ts => pushA r vs ((v, t) :: ts)
  | .ref _ :: r, _ :: vs, ts => pushA r vs ts
  | _, _, ts => ts
/-- the values of the arguments that are handed on to be changed; the others are seen or frozen -/
def ArOk (σ : L2.St) : List Ar → List V → Prop
  | [], [] => True
  | .val _ :: r, _ :: vs => ArOk σ r vs
  | .ref i :: r, v :: vs => σ[i]? = some (some v) ∧ ArOk σ r vs
  | _, _ => False
section
variable {K : PySem.W.Frag} {mg : Str → Option Value} {F F' G G' H H' : Hp} {σ : L2.St} {δ δ' : Sl} {ts : List (V × T)} {B : Bs}
theorem T.nd_ow_noFz {k : Kd} {xs : List T} (h : (T.nd .ow k xs).noFz = true) : T.noFzL xs = true := by simpa [T.noFz] using h
theorem Lon.noFz {t : T} {v : V} (m : Im F' F) (n : t.noFz = true) (h : Lon K F G t v) : Lon K F' G t v := by
  cases h with
  | non => exact .non
  | bl b => exact .bl b
  | int i => exact .int i
  | str x => exact .str x
  | fz h st => exact ((Fro.fz h st).im m n).lon
  | ln h st => cases n
mutual
theorem Rep.noFz (m : Im F' F) : ∀ {t : T} {v : V} {as : List Addr}, t.noFz = true → Rep K F G t v as → Rep K F' G t v as
  | _, _, _, n, .lon h => .lon (h.noFz m n)
  | .nd .ow k xs, .ref a, _ :: as, n, .ow h e f => by
    exact .ow (RepL.noFz m (T.nd_ow_noFz n) h) e f
theorem RepL.noFz (m : Im F' F) : ∀ {ts : List T} {vs : List V} {as : List Addr}, T.noFzL ts = true → RepL K F G ts vs as → RepL K F' G ts vs as
  | _, _, _, _, .nil => .nil
  | _, _, _, n, .cons h r => by
    rw [T.noFzL, Bool.and_eq_true] at n
    exact .cons (Rep.noFz m n.1 h) (RepL.noFz m n.2 r)
end
theorem Lon.fro {t : T} {v : V} (n : t.noLn = true) (h : Lon K F G t v) : Fro K F t v := by
  cases h with
  | non => exact .non
  | bl b => exact .bl b
  | int i => exact .int i
  | str x => exact .str x
  | fz h st => exact .fz h st
  | ln h st => cases n
theorem Rep.rootFz : ∀ {t : T} {v : V} {as : List Addr}, t.rootFz = true → Rep K F G t v as → Fro K F t v := by
  intro t v as n h
  cases h with
  | lon h => exact h.fro (by cases t with
    | nd f k xs => cases f <;> first | rfl | cases n
    | _ => rfl)
  | ow h e f => cases n
theorem pick_none : ∀ {as : List Ar} {vs : List V}, ArOk σ as vs → refsOf as = [] → pick (as.map Ar.isRef) vs = [] := by
  intro as
  induction as with
  | nil => intro vs _ _; cases vs <;> rfl
  | cons a r ih =>
    intro vs k h
    cases vs with
    | nil => cases a <;> exact k.elim
    | cons v vs =>
      cases a with
      | val t => exact ih (vs := vs) k h
      | ref j => cases h
theorem pick_one : ∀ {as : List Ar} {vs : List V} {i : Nat}, ArOk σ as vs → refsOf as = [i] → ∃ v, pick (as.map Ar.isRef) vs = [v] ∧ σ[i]? = some (some v) := by
  intro as
  induction as with
  | nil => intro vs i _ h; cases h
  | cons a r ih =>
    intro vs i k h
    cases vs with
    | nil => cases a <;> exact k.elim
    | cons v vs =>
      cases a with
      | val t => exact ih (vs := vs) k h
      | ref j =>
        have h' : j :: refsOf r = [i] := h
        injection h' with e1 e2
        subst e1
        refine ⟨v, ?_, k.1⟩
        show v :: pick (r.map Ar.isRef) vs = [v]
        rw [pick_none (vs := vs) k.2 e2]
/-- the arguments as the callee finds them, none of them handed on to be changed -/
theorem args0 : ∀ {as : List Ar} {vs : List V} {ts0 : List (V × T)} {args : List T} {a : List Addr}, ArOk σ as vs → refsOf as = [] → argsT δ as = some args → RTs K F G (pushA as vs ts0) a → Same F G →
    ∃ a0, RTs K F G ts0 a0 ∧ (∀ c, a0.count c ≤ a.count c) ∧ RAr K G H (as.map Ar.isRef) args vs [] ∧ (as.any Ar.tn = false → RAr K F H (as.map Ar.isRef) args vs []) := by
  intro as
  induction as with
  | nil =>
    intro vs ts0 args a k h e r s
    cases vs with
    | nil => cases e; exact ⟨a, r, fun _ => Nat.le_refl _, .nil, fun _ => .nil⟩
    | cons v vs => exact k.elim
  | cons x as ih =>
    intro vs ts0 args a k h e r s
    cases vs with
    | nil => cases x <;> exact k.elim
    | cons v vs =>
      cases x with
      | ref j => cases h
      | val t =>
        have e : (argsT δ as).map (fun ts => t.frz :: ts) = some args := e
        cases ea : argsT δ as with
        | none => rw [ea] at e; cases e
        | some as2 =>
          rw [ea] at e
          obtain rfl : t.frz :: as2 = args := Option.some.inj e
          obtain ⟨a0, r0, c0, q1, q2⟩ := ih (vs := vs) (ts0 := (v, t) :: ts0) k h ea r s
          cases r0 with
          | cons hh rr =>
            refine ⟨_, rr, fun c => Nat.le_trans (by rw [List.count_append]; omega) (c0 c), .val (hh.froG s) q1, fun tn => ?_⟩
            have tn' : (!t.rootFz || as.any Ar.tn) = false := tn
            rw [Bool.or_eq_false_iff] at tn'
            have hz := hh.rootFz (by simpa using tn'.1)
            exact .val (by rw [hz.frz_eq]; exact hz) (q2 tn'.2)
/-- one of them is -/
theorem args1 : ∀ {as : List Ar} {vs : List V} {ts0 : List (V × T)} {args : List T} {a : List Addr} {i : Nat} {v : V} {t : T} {b : List Addr}, ArOk σ as vs → refsOf as = [i] → argsT δ as = some args → RTs K F G (pushA as vs ts0) a → Same F G →
    σ[i]? = some (some v) → hidT δ i = some t → t.noLn = true → 
    ∃ a0, RTs K F G ts0 a0 ∧ (∀ c, a0.count c ≤ a.count c) ∧ (Rep K G H t v b → ∃ b', RAr K G H (as.map Ar.isRef) args vs b' ∧ ∀ c, b'.count c = b.count c) ∧ (as.any Ar.tn = false → Rep K F H t v b → ∃ b', RAr K F H (as.map Ar.isRef) args vs b' ∧ ∀ c, b'.count c = b.count c) := by
  intro as
  induction as with
  | nil => intro vs ts0 args a i v t b k h; cases h
  | cons x as ih =>
    intro vs ts0 args a i v t b k h e r s sv ht nl
    cases vs with
    | nil => cases x <;> exact k.elim
    | cons w vs =>
      cases x with
      | ref j =>
        have h' : j :: refsOf as = [i] := h
        injection h' with e1 e2
        subst e1
        have wv : w = v := by
          have k1 : σ[j]? = some (some w) := k.1
          rw [sv] at k1; injection k1 with k1; injection k1 with k1; exact k1.symm
        subst wv
        have e : ((hidT δ j).bind fun t => (argsT δ as).map fun ts => t :: ts) = some args := e
        rw [ht] at e
        have e : (argsT δ as).map (fun ts => t :: ts) = some args := e
        cases ea : argsT δ as with
        | none => rw [ea] at e; cases e
        | some as2 =>
          rw [ea] at e
          obtain rfl : t :: as2 = args := Option.some.inj e
          obtain ⟨a0, r0, c0, q1, q2⟩ := args0 (H := H) (vs := vs) (ts0 := ts0) k.2 e2 ea r s
          exact ⟨a0, r0, c0, fun hr => ⟨b ++ [], .ref nl hr q1, fun c => by simp⟩, fun tn hr => ⟨b ++ [], .ref nl hr (q2 tn), fun c => by simp⟩⟩
      | val t' =>
        have e : (argsT δ as).map (fun ts => t'.frz :: ts) = some args := e
        cases ea : argsT δ as with
        | none => rw [ea] at e; cases e
        | some as2 =>
          rw [ea] at e
          obtain rfl : t'.frz :: as2 = args := Option.some.inj e
          obtain ⟨a0, r0, c0, q1, q2⟩ := ih (vs := vs) (ts0 := (w, t') :: ts0) k h ea r s sv ht nl
          cases r0 with
          | cons hh rr =>
            refine ⟨_, rr, fun c => Nat.le_trans (by rw [List.count_append]; omega) (c0 c), fun hr => ?_, fun tn hr => ?_⟩
            · obtain ⟨b', x1, x2⟩ := q1 hr
              exact ⟨b', .val (hh.froG s) x1, x2⟩
            · have tn' : (!t'.rootFz || as.any Ar.tn) = false := tn
              rw [Bool.or_eq_false_iff] at tn'
              have hz := hh.rootFz (by simpa using tn'.1)
              obtain ⟨b', x1, x2⟩ := q2 tn'.2 hr
              exact ⟨b', .val (by rw [hz.frz_eq]; exact hz) x1, x2⟩
end
end TV
set_option Elab.async false
set_option linter.all false
set_option maxRecDepth 100000
set_option maxHeartbeats 4000000
namespace TV
open PySem PySem.Spec PyProof.Rows L2
section
variable {K : PySem.W.Frag} {mg : Str → Option Value} {F F' F0 G G' H H' : Hp} {σ : L2.St} {δ δ' δ0 : Sl} {ts rts : List (V × T)} {B : Bs} {av ah at_ rest b b' bs as1 as' : List Addr} {i : Nat} {p : Bool} {t : T} {v : V}
/-- F, and the tuples of numbers and texts of F' -/
def scH (F F' : Hp) : Hp := fun a => match F a with
  | some o => some o
  | none => match F' a with
    | some (.tup vs) => if vs.all scV = true then some (.tup vs) else none
    | _ => none
theorem scH_old {a : Addr} {o : HO} (h : F a = some o) : scH F F' a = some o := by unfold scH; rw [h]
theorem scH_cases {a : Addr} {o : HO} (h : scH F F' a = some o) : F a = some o ∨ (F a = none ∧ ∃ vs, o = .tup vs ∧ vs.all scV = true ∧ F' a = some (.tup vs)) := by
  unfold scH at h
  cases e : F a with
  | some u => rw [e] at h; exact .inl h
  | none =>
    rw [e] at h
    dsimp only at h
    split at h
    · rename_i vs e2
      by_cases z : vs.all scV = true
      · rw [if_pos z] at h; cases h; exact .inr ⟨rfl, vs, rfl, z, e2⟩
      · rw [if_neg z] at h; cases h
    · cases h
theorem scH_im (s : Same F F') : Im (scH F F') F' := fun b vs e z => by
  cases h : F b with
  | some o => rw [s b o h] at e; cases e; exact scH_old h
  | none => unfold scH; rw [h, e]; dsimp only; rw [if_pos z]
/-- behind a call -/
theorem Stt.after {outs : List T} {vo : List V} (tn : Bool) (I : SttI K B σ H δ ts F G av ah at_) (c : ∀ a, ah.count a = b.count a + rest.count a) (cb : ∀ a, b'.count a = b.count a)
    (P : Post K (if tn = true then G else F) H b' F' H' outs vo as') (ca : ∀ a, as'.count a = as1.count a + bs.count a)
    (base : RSl K F G H σ δ0 av rest)
    (hs : ∀ F1 G1, (tn = true → Im F1 F') → (tn = false → F1 = F') → RSl K F1 G1 H' σ δ0 av rest → ∃ ah', RSl K F1 G1 H' σ δ' av ah' ∧ ∀ a, ah'.count a = bs.count a + rest.count a)
    (ht : ∀ F1 G1, (tn = true → Im F1 F') → (tn = false → F1 = F') → Same F' G1 → (∀ a ∈ as1, ∀ o, H' a = some o → G1 a = some o) → RTs K F1 G1 rts as1)
    (hp : ∀ q ∈ B.rf, σ[q.1]? = some (some q.2) ∧ ∃ s : Sl1, δ'[q.1]? = some s ∧ s.pin = true) (th : ∀ a ∈ as1, ∃ o, H' a = some o) : Stt K B σ H' δ' (rts ++ ts) := by
  obtain ⟨fb, fg, gh, sl, tm, nd, fo, hg, fr, nw, nf, pn, gx, ba, im⟩ := I
  obtain ⟨pff, pfh, prp, pnl, pnd, pfo, pfr, pnw, pnf, pth, pim⟩ := P
  have mb : ∀ a, a ∈ b' ↔ 0 < b.count a := fun a => by rw [mem_of_count, cb]
  have thv : ∀ a, 0 < av.count a + ah.count a + at_.count a → ∃ o, H a = some o := fun a h => by
    by_cases h1 : 0 < av.count a
    · obtain ⟨o, e⟩ := sl.thereV a (mem_of_count.mpr h1); exact ⟨o, gh _ _ e⟩
    · by_cases h2 : 0 < ah.count a
      · exact sl.thereH a (mem_of_count.mpr h2)
      · obtain ⟨o, e⟩ := tm.there a (mem_of_count.mpr (by omega)); exact ⟨o, gh _ _ e⟩
  -- what is new
  have new : ∀ a, 0 < as'.count a → H a = none ∨ 0 < b.count a := fun a h => (pnw a (mem_of_count.mpr h)).imp id (mb a).mp
  have bnew : ∀ a, H a = none ∨ 0 < b.count a → B.H a = none ∨ a ∈ B.as := fun a h => by
    rcases h with h | h
    · cases e : B.H a with
      | none => exact .inl rfl
      | some o =>
        by_cases ha : a ∈ B.as
        · exact .inr ha
        · rw [fr a o e ha] at h; cases h
    · exact nw a (by have := c a; omega)
  have f0h : ∀ a, 0 < av.count a + ah.count a + at_.count a → 0 < ah.count a ∨ tn = false → (if tn = true then G else F) a = none := fun a h1 h2 => by
    cases tn with
    | true => exact hg a (h2.resolve_right (by simp))
    | false => exact fo a h1
  -- a hidden or (where nothing is tainted) any old own address is not frozen by the call
  have keepN : ∀ a, 0 < av.count a + ah.count a + at_.count a → b.count a = 0 → 0 < ah.count a ∨ tn = false → F' a = none := fun a h1 h2 h3 => by
    cases e : F' a with
    | none => rfl
    | some o =>
      rcases pnf a o e with z | z | z
      · rw [f0h a h1 h3] at z; cases z
      · obtain ⟨o', e'⟩ := thv a h1; rw [e'] at z; cases z
      · have := (mb a).mp z; omega
  let G1 : Hp := fun a => if a ∈ B.ex ∨ 0 < bs.count a + rest.count a then none else H' a
  have g1_in : ∀ {a}, 0 < bs.count a + rest.count a → G1 a = none := fun {a} h => if_pos (.inr h)
  have g1_ex : ∀ {a}, a ∈ B.ex → G1 a = none := fun {a} h => if_pos (.inl h)
  have g1_out : ∀ {a}, a ∉ B.ex → ¬ 0 < bs.count a + rest.count a → G1 a = H' a := fun {a} h1 h => if_neg fun z => z.elim h1 h
  have exH : ∀ a ∈ B.ex, ∃ o, H a = some o := fun a ha => let ⟨_, ⟨o, e⟩, g3⟩ := gx a ha; ⟨o, fr a o e g3⟩
  have exO : ∀ a, 0 < av.count a + ah.count a + at_.count a → a ∉ B.ex := fun a h ha => by
    obtain ⟨_, ⟨o, e⟩, g3⟩ := gx a ha
    rcases nw a h with z | z
    · rw [e] at z; cases z
    · exact g3 z
  have newX : ∀ a, 0 < as'.count a → a ∉ B.ex := fun a h ha => by
    rcases new a h with y | y
    · obtain ⟨o, e⟩ := exH a ha; rw [e] at y; cases y
    · exact exO a (by have := c a; omega) ha
  have restN : ∀ a, 0 < rest.count a → b.count a = 0 := fun a h => by have := nd a; have := c a; omega
  have sg : Same G G1 := fun a o e => by
    have hH := gh a o e
    have n1 : ah.count a = 0 := by
      by_cases z : 0 < ah.count a
      · rw [hg a z] at e; cases e
      · omega
    have nb : a ∉ b' := fun z => by have := (mb a).mp z; have := c a; omega
    rw [g1_out (fun z => by rw [(gx a z).1] at e; cases e), pfr a o hH nb]
    intro z
    have h1 : rest.count a = 0 := by have := c a; omega
    rcases new a (by have := ca a; omega) with y | y
    · rw [hH] at y; cases y
    · have := c a; omega
  have sF' : Same F' G1 := fun a o e => by
    have nx : a ∉ B.ex := fun z => by
      rcases pnf a o e with y | y | y
      · cases tn with
        | true => rw [if_pos rfl, (gx a z).1] at y; cases y
        | false =>
          have y : F a = some o := by simpa using y
          have := fg a o y; rw [(gx a z).1] at this; cases this
      · obtain ⟨o', e'⟩ := exH a z; rw [e'] at y; cases y
      · exact exO a (by have := (mb a).mp y; have := c a; omega) z
    rw [g1_out nx, pfh a o e]
    intro z
    by_cases h1 : 0 < bs.count a
    · have := pfo a (mem_of_count.mpr (by have := ca a; omega)); rw [this] at e; cases e
    · have h2 : 0 < rest.count a := by omega
      rw [keepN a (by have := c a; omega) (restN a h2) (.inl (by have := c a; omega))] at e; cases e
  have sFF : Same F F' := fun a o e => pff a o (by cases tn with
    | true => exact fg a o e
    | false => exact e)
  have d1 : ∀ a ∈ as1, ∀ o, H' a = some o → G1 a = some o := fun a ha o e => by
    rw [g1_out (newX a (by have := mem_of_count.mp ha; have := ca a; omega))]; · exact e
    intro z
    have h1 : 0 < as1.count a := mem_of_count.mp ha
    have := pnd a
    have := ca a
    have h2 : 0 < rest.count a := by omega
    rcases new a (by omega) with y | y
    · obtain ⟨o', e'⟩ := thv a (by have := c a; omega); rw [e'] at y; cases y
    · have := restN a h2; omega
  have sh : ∀ a, b.count a = 0 → ∀ o, H a = some o → H' a = some o := fun a h o e => pfr a o e fun z => by have := (mb a).mp z; omega
  let F1 : Hp := if tn = true then scH F F' else F'
  have f1e : tn = true → F1 = scH F F' := fun h => if_pos h
  have f1a : tn = true → Im F1 F' := fun h => by rw [f1e h]; exact scH_im sFF
  have f1b : tn = false → F1 = F' := fun h => if_neg (by rw [h]; simp)
  have sF1 : Same F F1 := fun a o e => by
    cases tn with
    | true => exact scH_old e
    | false => exact sFF a o e
  have sF1G : Same F1 G1 := by
    cases tn with
    | true =>
      intro a o e
      rcases scH_cases (show scH F F' a = some o from e) with h | ⟨_, vs, rfl, _, h⟩
      · exact sg a o (fg a o h)
      · exact sF' a _ h
    | false => exact sF'
  -- an old tuple of numbers and texts was frozen already
  have oldSc : ∀ a vs, vs.all scV = true → F' a = some (.tup vs) → F a = none → H a = none ∨ a ∈ b' := fun a vs z e n => by
    rcases pnf a _ e with y | y | y
    · exfalso
      have y : H a = some (.tup vs) := by cases tn with
        | true => exact gh a _ y
        | false => exact gh a _ (fg a _ y)
      rw [im a vs y z] at n; cases n
    · exact .inl y
    · exact .inr y
  have base1 : RSl K F1 G1 H' σ δ0 av rest := (base.mono sF1 sg (fun _ _ e => e)).hat fun a ha o e => sh a (restN a (mem_of_count.mp ha)) o e
  obtain ⟨ah', sl', cah⟩ := hs F1 G1 f1a f1b base1
  obtain ⟨at1, tm1, ct1⟩ := (ht F1 G1 f1a f1b sF' d1).join (tm.mono sF1 sg)
  have f1n : ∀ a, 0 < as'.count a → F1 a = none := fun a h => by
    have z := pfo a (mem_of_count.mpr h)
    cases tn with
    | false => exact z
    | true =>
      cases e : scH F F' a with
      | none => exact e
      | some o =>
        rcases scH_cases e with h | ⟨_, vs, rfl, _, h⟩
        · rw [sFF a o h] at z; cases z
        · rw [h] at z; cases z
  have f1o : ∀ a, 0 < av.count a + rest.count a + at_.count a → F1 a = none := fun a h => by
    have old : 0 < av.count a + ah.count a + at_.count a := by have := c a; omega
    have hb : b.count a = 0 := by have := nd a; have := c a; omega
    cases tn with
    | true =>
      cases e : scH F F' a with
      | none => exact e
      | some o =>
        rcases scH_cases e with h | ⟨h, vs, rfl, z, h2⟩
        · rw [fo a old] at h; cases h
        · rcases oldSc a vs z h2 h with y | y
          · obtain ⟨o', e'⟩ := thv a old; rw [e'] at y; cases y
          · have := (mb a).mp y; omega
    | false => exact keepN a old hb (.inr rfl)
  have dj : ∀ a, 0 < as'.count a → av.count a + rest.count a + at_.count a = 0 := fun a h => by
    rcases new a h with y | y
    · by_cases z : 0 < av.count a + ah.count a + at_.count a
      · obtain ⟨o', e'⟩ := thv a z; rw [e'] at y; cases y
      · have := c a; omega
    · have := nd a; have := c a; omega
  refine ⟨F1, G1, av, ah', at1, fun a o e => sF1 _ _ (fb a o e), sF1G, fun a o e => ?_, sl', tm1, fun a => ?_, fun a h => ?_, fun a h => g1_in (by rw [← cah]; exact h), fun a o e h => ?_, fun a h => ?_, fun a o e => ?_, hp, fun a ha => ⟨g1_ex ha, (gx a ha).2⟩, fun a ha => ?_, fun b us e z => ?_⟩
  · by_cases zx : a ∈ B.ex
    · rw [g1_ex zx] at e; cases e
    · by_cases z : 0 < bs.count a + rest.count a
      · rw [g1_in z] at e; cases e
      · rw [g1_out zx z] at e; exact e
  · have := cah a; have := ct1 a; have := ca a; have := pnd a; have := nd a; have := c a
    by_cases z : 0 < as'.count a
    · have := dj a z; omega
    · omega
  · have := cah a; have := ct1 a; have := ca a
    by_cases z : 0 < as'.count a
    · exact f1n a z
    · exact f1o a (by omega)
  · have hH := fr a o e h
    by_cases z : 0 < b.count a
    · rcases bnew a (.inr z) with y | y
      · rw [e] at y; cases y
      · exact absurd y h
    · exact sh a (by omega) o hH
  · have := cah a; have := ct1 a; have := ca a
    by_cases z : 0 < as'.count a
    · exact bnew a (new a z)
    · exact nw a (by have := c a; omega)
  · by_cases z : tn = true
    · rw [f1e z] at e
      rcases scH_cases e with h | ⟨h, vs, rfl, z, h2⟩
      · exact nf a o h
      · rcases oldSc a vs z h2 h with y | y
        · exact .inr (bnew a (.inl y))
        · exact .inr (bnew a (.inr ((mb a).mp y)))
    · have z : tn = false := by simpa using z
      rw [f1b z] at e
      rcases pnf a o e with y | y | y
      · rw [z] at y; exact nf a o y
      · exact .inr (bnew a (.inl y))
      · exact .inr (bnew a (.inr ((mb a).mp y)))
  · by_cases z : a ∈ b'
    · exact pth a z
    · obtain ⟨o, e⟩ := ba a ha
      exact ⟨o, pfr a o e z⟩
  · have w := pim b us e z
    cases tn with
    | true => exact scH_im sFF b us w z
    | false => exact w
end
end TV
set_option Elab.async false
set_option linter.all false
set_option maxRecDepth 100000
set_option maxHeartbeats 4000000
namespace TV
open PySem PySem.Spec PyProof.Rows L2
theorem argsT_hid {δ : Sl} : ∀ {as : List Ar} {args : List T} {i : Nat}, argsT δ as = some args → i ∈ refsOf as → ∃ t, hidT δ i = some t := by
  intro as
  induction as with
  | nil => intro args i _ h; cases h
  | cons a r ih =>
    intro args i e h
    have e : (arT δ a).bind (fun t => (argsT δ r).map fun ts => t :: ts) = some args := e
    cases ea : arT δ a with
    | none => rw [ea] at e; cases e
    | some t0 =>
      cases er : argsT δ r with
      | none => rw [ea, er] at e; cases e
      | some ts0 =>
        cases a with
        | val t => exact ih er h
        | ref j =>
          rcases List.mem_cons.mp h with h | h
          · subst h; exact ⟨t0, ea⟩
          · exact ih er h
theorem hidT_some {δ : Sl} {i : Nat} {t : T} (h : hidT δ i = some t) : ∃ p, δ[i]? = some (.hid p t) := by
  unfold hidT at h
  cases e : δ[i]? with
  | none => rw [e] at h; cases h
  | some s =>
    rw [e] at h
    cases s with
    | un => cases h
    | vis p t' => cases h
    | hid p t' => cases h; exact ⟨p, rfl⟩
theorem setHid_of {δ : Sl} {i : Nat} {p : Bool} {t u : T} (h : δ[i]? = some (.hid p t)) : setHid δ i u = δ.set i (.hid p u) := by
  unfold setHid; rw [h]
section
variable {K : PySem.W.Frag} {mg : Str → Option Value} {H : Hp} {σ : L2.St} {δ : Sl} {ts : List (V × T)} {B : Bs}
theorem Stt.call {m : Fn} {as : List Ar} {vs : List V} {Q : VK} {E : XK} (S : Stt K B σ H δ (pushA as vs ts)) (k : ArOk σ as vs)
    (h : match callS m as δ with
      | .ok t δ' => ∀ v H', Stt K B σ H' δ' ((v, t) :: ts) → (NoLn δ → NoLn δ') → Q v H'
      | .exc x δ' => ∀ H', Stt K B σ H' δ' ts → (NoLn δ → NoLn δ') → Rz mg x H' E
      | .bad => False) : spOf K mg (as.map Ar.isRef) m vs H Q E := by
  obtain ⟨F, G, av, ah, at_, I⟩ := S
  unfold callS at h
  cases ea : argsT δ as with
  | none => rw [ea] at h; exact h.elim
  | some args =>
    rw [ea] at h
    dsimp only at h
    have sG : Same G H := I.gh
    have sF : Same F H := fun b o e => I.gh b o (I.fg b o e)
    generalize htn : as.any Ar.tn = tn at h
    have im0 : Im (if tn = true then G else F) H := by cases tn with
      | true => exact fun b vs e z => I.fg b _ (I.im b vs e z)
      | false => exact I.im
    have sF0 : Same (if tn = true then G else F) H := by cases tn with
      | true => exact sG
      | false => exact sF
    rcases hr : refsOf as with _ | ⟨i, _ | ⟨j, r⟩⟩
    · -- none is changed
      obtain ⟨a0, r0, c0, q1, q2⟩ := args0 (H := H) k hr ea I.tm I.fg
      have I0 : SttI K B σ H δ ts F G av ah a0 := ⟨I.fb, I.fg, I.gh, I.sl, r0, fun a => by have := c0 a; have := I.nd a; omega, fun a h => I.fo a (by have := c0 a; omega), I.hg, I.fr, fun a h => I.nw a (by have := c0 a; omega), I.nf, I.pn, I.gx, I.ba, I.im⟩
      have ra : RAr K (if tn = true then G else F) H (as.map Ar.isRef) args vs [] := by cases tn with
        | true => exact q1
        | false => exact q2 htn
      refine ⟨_, [], args, sF0, im0, ra, fun _ => Nat.zero_le _, fun a ha => (nomatch ha), ?_⟩
      rw [hr] at h
      cases em : m args with
      | bad => rw [em] at h; exact h.elim
      | ok t outs =>
        rw [em] at h
        dsimp only at h ⊢
        intro v H' F' as' P
        rw [pick_none k hr] at P
        have hl := P.rp.length
        have eo : outs = [] := by simpa using hl
        subst eo
        have rep : Rep K F' H' t v as' := by
          have := P.rp
          cases this with
          | cons h1 h2 => cases h2; simpa using h1
        have nlt : t.noLn = true := by have := P.nl; rw [T.noLnL, Bool.and_eq_true] at this; exact this.1
        have core : ∀ t2, (∀ F1 G1, (tn = true → Im F1 F') → (tn = false → F1 = F') → Same F' G1 → (∀ a ∈ as', ∀ o, H' a = some o → G1 a = some o) → Rep K F1 G1 t2 v as') → Stt K B σ H' δ ((v, t2) :: ts) := fun t2 ht =>
          Stt.after (b := []) (rest := ah) (bs := []) (as1 := as') (rts := [(v, t2)]) tn I0 (fun a => by simp) (fun a => rfl) P (fun a => by simp) I.sl (fun F1 G1 _ _ r => ⟨ah, r, fun a => by simp⟩)
            (fun F1 G1 e1 e2 s1 s2 => by
              have := RTs.cons (ht F1 G1 e1 e2 s1 s2) (RTs.nil (K := K) (F := F1) (G := G1))
              rwa [List.append_nil] at this) I.pn (fun a ha => P.rp.there a ha)
        cases tn with
        | true =>
          refine h v H' (core t.dgr fun F1 G1 e1 e2 s1 s2 => ?_) id
          exact ((rep.at nlt s2)).dgr s1 (e1 rfl) nlt
        | false =>
          refine h v H' (core t fun F1 G1 e1 e2 s1 s2 => ?_) id
          rw [e2 rfl]
          exact rep.at nlt s2
      | exc x outs =>
        rw [em] at h
        dsimp only at h ⊢
        intro H' F' as' P
        rw [pick_none k hr] at P
        have hl := P.rp.length
        have eo : outs = [] := List.length_eq_zero_iff.mp hl
        subst eo
        have ea0 : as' = [] := by
          have := P.rp
          cases this
          rfl
        subst ea0
        have core : Stt K B σ H' δ ts :=
          Stt.after (b := []) (rest := ah) (bs := []) (as1 := []) (rts := []) tn I0 (fun a => by simp) (fun a => rfl) P (fun a => by simp) I.sl (fun F1 G1 _ _ r => ⟨ah, r, fun a => by simp⟩)
            (fun F1 G1 e1 e2 s1 s2 => RTs.nil) I.pn (fun a ha => nomatch ha)
        cases tn with
        | true => exact h H' core id
        | false => exact h H' core id
    · -- one is
      obtain ⟨ti, hti⟩ := argsT_hid ea (i := i) (by rw [hr]; exact List.mem_cons_self)
      obtain ⟨p, hp⟩ := hidT_some hti
      obtain ⟨w, hpick, hw⟩ := pick_one k hr
      obtain ⟨w', b, rest, e1, h1, hnt, c, rr, _⟩ := I.sl.hid_at hp
      have ew : w' = w := by rw [hw] at e1; injection e1 with e1; injection e1 with e1; exact e1.symm
      subst ew
      obtain ⟨a0, r0, c0, q1, q2⟩ := args1 (b := b) k hr ea I.tm I.fg hw hti hnt
      have I0 : SttI K B σ H δ ts F G av ah a0 := ⟨I.fb, I.fg, I.gh, I.sl, r0, fun a => by have := c0 a; have := I.nd a; omega, fun a h => I.fo a (by have := c0 a; omega), I.hg, I.fr, fun a h => I.nw a (by have := c0 a; omega), I.nf, I.pn, I.gx, I.ba, I.im⟩
      obtain ⟨b', ra, cb⟩ : ∃ b', RAr K (if tn = true then G else F) H (as.map Ar.isRef) args vs b' ∧ ∀ c, b'.count c = b.count c := by cases tn with
        | true => exact q1 (h1.mono I.fg (fun _ _ e => e))
        | false => exact q2 htn h1
      have hb : ∀ a ∈ b', 0 < ah.count a := fun a ha => by have := mem_of_count.mp ha; have := cb a; have := c a; omega
      refine ⟨_, b', args, sF0, im0, ra, fun a => by rw [cb]; have := I.nd a; have := c a; omega, fun a ha => ?_, ?_⟩
      · cases tn with
        | true => exact I.hg a (hb a ha)
        | false => exact I.fo a (by have := hb a ha; omega)
      have hi : i < δ.length := (List.getElem?_eq_some_iff.mp hp).1
      have pn' : ∀ o : T, ∀ q ∈ B.rf, σ[q.1]? = some (some q.2) ∧ ∃ s : Sl1, (δ.set i (.hid p o))[q.1]? = some s ∧ s.pin = true := fun o => pn_set I.pn fun s0 h0 hq => by rw [hp] at h0; cases h0; exact hq
      rw [hr] at h
      cases em : m args with
      | bad => rw [em] at h; exact h.elim
      | ok t outs =>
        rw [em] at h
        dsimp only at h ⊢
        intro v H' F' as' P
        rw [hpick] at P
        have hl := P.rp.length
        obtain ⟨o, eo⟩ : ∃ o, outs = [o] := List.length_eq_one_iff.mp (by simpa using hl)
        subst eo
        obtain ⟨as1, bs, rep, repo, ca⟩ : ∃ as1 bs, Rep K F' H' t v as1 ∧ Rep K F' H' o w' bs ∧ ∀ a, as'.count a = as1.count a + bs.count a := by
          have := P.rp
          cases this with
          | cons h1 h2 =>
            cases h2 with
            | cons h2 h3 => cases h3; exact ⟨_, _, h1, h2, fun a => by simp⟩
        have nl2 := P.nl
        rw [T.noLnL, T.noLnL, Bool.and_eq_true, Bool.and_eq_true] at nl2
        have nlt := nl2.1
        have nlo := nl2.2.1
        have eot : outsTo δ [i] [o] = some (δ.set i (.hid p o)) := by show some (setHid δ i o) = _; rw [setHid_of hp]
        rw [eot] at h
        dsimp only at h
        have core : ∀ t2, (∀ F1 G1, (tn = true → Im F1 F') → (tn = false → F1 = F') → Same F' G1 → (∀ a ∈ as1, ∀ o, H' a = some o → G1 a = some o) → Rep K F1 G1 t2 v as1) → (tn = true → o.noFz = true) → Stt K B σ H' (δ.set i (.hid p o)) ((v, t2) :: ts) := fun t2 ht hz =>
          Stt.after (δ0 := δ.set i .un) (b := b) (rest := rest) (bs := bs) (as1 := as1) (rts := [(v, t2)]) tn I0 c cb P ca rr (fun F1 G1 x1 x2 r => by
              have rep1 : Rep K F1 H' o w' bs := by
                cases tn with
                | true => exact repo.noFz (x1 rfl) (hz rfl)
                | false => rw [x2 rfl]; exact repo
              obtain ⟨ah', y1, y2⟩ := r.putH (i := i) (by rw [List.getElem?_set_self hi]) e1 p o bs nlo rep1
              rw [List.set_set] at y1
              exact ⟨ah', y1, y2⟩)
            (fun F1 G1 e1 e2 s1 s2 => by
              have := RTs.cons (ht F1 G1 e1 e2 s1 s2) (RTs.nil (K := K) (F := F1) (G := G1))
              rwa [List.append_nil] at this) (pn' o) (fun a ha => P.rp.there a (mem_of_count.mpr (by have := mem_of_count.mp ha; have := ca a; omega)))
        have hnl : NoLn δ → NoLn (δ.set i (.hid p o)) := fun hn => hn.set nlo
        cases tn with
        | true =>
          simp only [if_true] at h
          by_cases hz : T.noFzL [o] = true
          · rw [if_pos hz] at h
            refine h v H' (core t.dgr (fun F1 G1 e1 e2 s1 s2 => ?_) fun _ => by simpa [T.noFzL] using hz) hnl
            exact ((rep.at nlt s2)).dgr s1 (e1 rfl) nlt
          · rw [if_neg hz] at h; exact h.elim
        | false =>
          simp only [Bool.false_eq_true, if_false] at h
          refine h v H' (core t (fun F1 G1 e1 e2 s1 s2 => ?_) fun q => by cases q) hnl
          rw [e2 rfl]
          exact rep.at nlt s2
      | exc x outs =>
        rw [em] at h
        dsimp only at h ⊢
        intro H' F' as' P
        rw [hpick] at P
        have hl := P.rp.length
        obtain ⟨o, eo⟩ : ∃ o, outs = [o] := List.length_eq_one_iff.mp (by simpa using hl)
        subst eo
        obtain ⟨bs, repo, ca⟩ : ∃ bs, Rep K F' H' o w' bs ∧ ∀ a, as'.count a = bs.count a := by
          have := P.rp
          cases this with
          | cons h1 h2 => cases h2; exact ⟨_, h1, fun a => by simp⟩
        have nlo : o.noLn = true := by have := P.nl; rw [T.noLnL, Bool.and_eq_true] at this; exact this.1
        have eot : outsTo δ [i] [o] = some (δ.set i (.hid p o)) := by show some (setHid δ i o) = _; rw [setHid_of hp]
        rw [eot] at h
        dsimp only at h
        have core : (tn = true → o.noFz = true) → Stt K B σ H' (δ.set i (.hid p o)) ts := fun hz =>
          Stt.after (δ0 := δ.set i .un) (b := b) (rest := rest) (bs := bs) (as1 := []) (rts := []) tn I0 c cb P (fun a => by rw [ca]; simp) rr (fun F1 G1 x1 x2 r => by
              have rep1 : Rep K F1 H' o w' bs := by
                cases tn with
                | true => exact repo.noFz (x1 rfl) (hz rfl)
                | false => rw [x2 rfl]; exact repo
              obtain ⟨ah', y1, y2⟩ := r.putH (i := i) (by rw [List.getElem?_set_self hi]) e1 p o bs nlo rep1
              rw [List.set_set] at y1
              exact ⟨ah', y1, y2⟩)
            (fun F1 G1 e1 e2 s1 s2 => RTs.nil) (pn' o) (fun a ha => nomatch ha)
        have hnl : NoLn δ → NoLn (δ.set i (.hid p o)) := fun hn => hn.set nlo
        cases tn with
        | true =>
          simp only [if_true] at h
          by_cases hz : T.noFzL [o] = true
          · rw [if_pos hz] at h
            exact h H' (core fun _ => by simpa [T.noFzL] using hz) hnl
          · rw [if_neg hz] at h; exact h.elim
        | false =>
          simp only [Bool.false_eq_true, if_false] at h
          exact h H' (core fun q => by cases q) hnl
    · rw [hr] at h
      cases em : m args with
      | bad => rw [em] at h; exact h.elim
      | ok t outs => rw [em] at h; exact h.elim
      | exc x outs => rw [em] at h; exact h.elim
end
end TV
set_option Elab.async false
set_option linter.all false
set_option maxRecDepth 100000
set_option maxHeartbeats 4000000
namespace TV
open PySem PySem.Spec PyProof.Rows L2
section
variable (X : Cx) (W : WX) {α β : Type}
/-- what is wanted of what comes -/
def Aft (B : Bs) (σ : L2.St) (δ0 : Sl) (ts : List (V × T)) (r : R Sl α) (P : α → Sl → Prop) : Prop := match r with
  | .ok a δ' => P a δ'
  | .exc x δ' => ∀ H', Stt X.K B σ H' δ' ts → (NoLn δ0 → NoLn δ') → Rz X.mg x H' fun cls d H2 => W cls d σ H2
  | .bad => False
def tE (f : ES) : TE := fun σ H Q => ∃ B δ ts, Stt X.K B σ H δ ts ∧ Aft X W B σ δ ts (f δ) fun t δ' => ∀ v H', Stt X.K B σ H' δ' ((v, t) :: ts) → (NoLn δ → NoLn δ') → Q v H'
def DE (e : Expr) (f : ES) : Prop := PE X e (tE X W f)
def tT (f : Sl → R Sl Bool) : TT := fun σ H Q => ∃ B δ ts, Stt X.K B σ H δ ts ∧ Aft X W B σ δ ts (f δ) fun b δ' => ∀ H', Stt X.K B σ H' δ' ts → (NoLn δ → NoLn δ') → Q b H'
def DT (e : Expr) (f : Sl → R Sl Bool) : Prop := PT X e (tT X W f)
def tA (f : AS) : TA := fun σ H Q => ∃ B δ ts, Stt X.K B σ H δ ts ∧ Aft X W B σ δ ts (f δ) fun as δ' => ∀ vs H', Stt X.K B σ H' δ' (pushA as vs ts) → ArOk σ as vs → (NoLn δ → NoLn δ') → Q vs H'
def DA (es : List Expr) (f : AS) : Prop := PA X es (tA X W f)
end
section
variable {X : Cx} {W : WX} {α β : Type} {B : Bs} {σ : L2.St} {δ δ0 δ1 : Sl} {ts ts1 : List (V × T)} {H : Hp}
theorem Aft.bind {r : R Sl α} {k : α → Sl → R Sl β} {P : β → Sl → Prop} (h : Aft X W B σ δ0 ts (r.bind k) P) : Aft X W B σ δ0 ts r fun a δ1 => Aft X W B σ δ0 ts (k a δ1) P := by
  cases r with
  | ok a s => exact h
  | exc x s => exact h
  | bad => exact h
theorem Aft.lift {r : R Sl α} {P P' : α → Sl → Prop} (h : Aft X W B σ δ0 ts r P) (n : NoLn δ0 → NoLn δ1) (d : ∀ H' δ', Stt X.K B σ H' δ' ts1 → Stt X.K B σ H' δ' ts) (hp : ∀ a δ', P a δ' → P' a δ') : Aft X W B σ δ1 ts1 r P' := by
  cases r with
  | ok a s => exact hp a s h
  | exc x s => exact fun H' S n' => h H' (d _ _ S) (fun z => n' (n z))
  | bad => exact h
theorem Aft.mono {r : R Sl α} {P P' : α → Sl → Prop} (h : Aft X W B σ δ0 ts r P) (hp : ∀ a δ', P a δ' → P' a δ') : Aft X W B σ δ0 ts r P' := h.lift id (fun _ _ => id) hp
theorem _root_.L2.PE.imp {e : Expr} {t t' : TE} (h : PE X e t) (hh : ∀ σ H Q, t' σ H Q → t σ H Q) : PE X e t' := ⟨fun pins s σ H Q I q => h.run pins s σ H Q I (hh σ H Q q)⟩
theorem _root_.L2.PT.imp {e : Expr} {t t' : TT} (h : PT X e t) (hh : ∀ σ H Q, t' σ H Q → t σ H Q) : PT X e t' := ⟨fun pins s σ H Q I q => h.run pins s σ H Q I (hh σ H Q q)⟩
theorem _root_.L2.PA.imp {e : List Expr} {t t' : TA} (h : PA X e t) (hh : ∀ σ H Q, t' σ H Q → t σ H Q) : PA X e t' := ⟨fun pos pins s σ H Q I q => h.run pos pins s σ H Q I (hh σ H Q q)⟩
/-- on from a part: another expression behind it -/
theorem to_E {f : ES} {v : V} {t : T} {P : T → Sl → Prop} {Q : VK} (S : Stt X.K B σ H δ1 ((v, t) :: ts)) (n : NoLn δ0 → NoLn δ1) (h : Aft X W B σ δ0 ts (f δ1) P)
    (hp : ∀ t' δ', P t' δ' → ∀ v' H', Stt X.K B σ H' δ' ((v', t') :: (v, t) :: ts) → (NoLn δ0 → NoLn δ') → Q v' H') : tE X W f σ H Q :=
  ⟨B, δ1, (v, t) :: ts, S, h.lift n (fun _ _ => Stt.drop) fun t' δ' p v' H' S' n' => hp t' δ' p v' H' S' fun z => n' (n z)⟩
theorem Stt.eq_int {K : PySem.W.Frag} {v : V} {i : Int} (S : Stt K B σ H δ ((v, .int i) :: ts)) : v = .int i := S.see fun F G as _ _ _ r => by
  cases r with
  | cons h r => cases h with
    | lon h => cases h; rfl
theorem Stt.eq_bl {K : PySem.W.Frag} {v : V} {b : Bool} (S : Stt K B σ H δ ((v, .bl b) :: ts)) : v = .bl b := S.see fun F G as _ _ _ r => by
  cases r with
  | cons h r => cases h with
    | lon h => cases h; rfl
theorem Stt.eq_str {K : PySem.W.Frag} {v : V} {x : Str} (S : Stt K B σ H δ ((v, .str x) :: ts)) : v = .str x := S.see fun F G as _ _ _ r => by
  cases r with
  | cons h r => cases h with
    | lon h => cases h; rfl
theorem Stt.eq_non {K : PySem.W.Frag} {v : V} (S : Stt K B σ H δ ((v, .non) :: ts)) : v = .non := S.see fun F G as _ _ _ r => by
  cases r with
  | cons h r => cases h with
    | lon h => cases h; rfl
def T.scal : T → Option V
  | .non => some .non
  | .bl b => some (.bl b)
  | .int i => some (.int i)
  | .str x => some (.str x)
  | _ => none
theorem lon_scal {K : PySem.W.Frag} {F G : Hp} {t : T} {v : V} (h : t.scal = some v) : Lon K F G t v := by
  cases t with
  | non => cases h; exact .non
  | bl b => cases h; exact .bl b
  | int i => cases h; exact .int i
  | str x => cases h; exact .str x
  | nd f k xs => cases h
theorem Stt.pushS {K : PySem.W.Frag} {t : T} {v : V} (h : t.scal = some v) (S : Stt K B σ H δ ts) : Stt K B σ H δ ((v, t) :: ts) := S.push fun F G _ _ => lon_scal h
def eVar (i : Nat) : ES := fun δ => match δ[i]? with
  | some (.vis _ t) => .ok t.loan δ
  | _ => .bad
theorem de_var {i : Nat} {x : Str} {pos : Pos} (hN : X.N[i]? = some x := by rfl) (hv : Vis X.env.scope x := by first | exact Or.inl rfl | exact Or.inr (Or.inl rfl) | exact Or.inr (Or.inr rfl)) (hd : (x == ("__debug__" : Str)) = false := by decide)
    (hcd : (x == ("__classdict__" : Str)) = false := by decide) : DE X W (.Name x pos) (eVar i) := by
  refine (pe_var hN hv hd hcd).imp fun σ H Q ⟨B, δ, ts, S, h⟩ => ?_
  unfold eVar at h
  cases e : δ[i]? with
  | none => rw [e] at h; exact h.elim
  | some s =>
    rw [e] at h
    cases s with
    | un => exact h.elim
    | hid p t => exact h.elim
    | vis p t =>
      obtain ⟨v, e1, S1⟩ := S.var e
      exact ⟨v, e1, h v H S1 id⟩
/-- the name's value, which the name gives up -/
def eMv (i : Nat) : ES := fun δ => match δ[i]? with
  | some (.vis false t) => .ok t (δ.set i .un)
  | _ => .bad
theorem de_mv {i : Nat} {x : Str} {pos : Pos} (hN : X.N[i]? = some x := by rfl) (hv : Vis X.env.scope x := by first | exact Or.inl rfl | exact Or.inr (Or.inl rfl) | exact Or.inr (Or.inr rfl)) (hd : (x == ("__debug__" : Str)) = false := by decide)
    (hcd : (x == ("__classdict__" : Str)) = false := by decide) : DE X W (.Name x pos) (eMv i) := by
  refine (pe_var hN hv hd hcd).imp fun σ H Q ⟨B, δ, ts, S, h⟩ => ?_
  unfold eMv at h
  cases e : δ[i]? with
  | none => rw [e] at h; exact h.elim
  | some s =>
    rw [e] at h
    cases s with
    | un => exact h.elim
    | hid p t => exact h.elim
    | vis p t =>
      cases p with
      | true => exact h.elim
      | false =>
        obtain ⟨v, e1, S1⟩ := S.move e
        exact ⟨v, e1, h v H S1 fun n => n.set rfl⟩
/-- a name's value, frozen for good (the name keeps it) -/
def eFz (i : Nat) : ES := fun δ => match δ[i]? with
  | some (.vis false t) => if t.noLn = true then .ok t.frz (δ.set i (.vis false t.frz)) else .bad
  | _ => .bad
mutual
theorem T.frz_noLn : ∀ t : T, t.frz.noLn = true
  | .non => rfl
  | .bl _ => rfl
  | .int _ => rfl
  | .str _ => rfl
  | .nd .fz _ _ => rfl
  | .nd .ln _ _ => rfl
  | .nd .ow _ _ => rfl
end
theorem T.frz_loan (t : T) : t.frz.loan = t.frz := by
  cases t with
  | nd f k xs => cases f <;> rfl
  | _ => rfl
theorem de_fz {i : Nat} {x : Str} {pos : Pos} (hN : X.N[i]? = some x := by rfl) (hv : Vis X.env.scope x := by first | exact Or.inl rfl | exact Or.inr (Or.inl rfl) | exact Or.inr (Or.inr rfl)) (hd : (x == ("__debug__" : Str)) = false := by decide)
    (hcd : (x == ("__classdict__" : Str)) = false := by decide) : DE X W (.Name x pos) (eFz i) := by
  refine (pe_var hN hv hd hcd).imp fun σ H Q ⟨B, δ, ts, S, h⟩ => ?_
  unfold eFz at h
  cases e : δ[i]? with
  | none => rw [e] at h; exact h.elim
  | some s =>
    rw [e] at h
    cases s with
    | un => exact h.elim
    | hid p t => exact h.elim
    | vis p t =>
      cases p with
      | true => exact h.elim
      | false =>
        dsimp only at h
        by_cases hn : t.noLn = true
        · rw [if_pos hn] at h
          have S1 := S.frzS e hn
          obtain ⟨v, e1, S2⟩ := S1.var (i := i) (p := false) (t := t.frz) (by rw [List.getElem?_set_self (List.getElem?_eq_some_iff.mp e).1])
          rw [T.frz_loan] at S2
          exact ⟨v, e1, h v H S2 fun n => n.set t.frz_noLn⟩
        · rw [if_neg hn] at h; exact h.elim
def eC (t : T) : ES := fun δ => .ok t δ
theorem de_int {i : Int} {j pos} : DE X W (.Constant (.int i) j pos) (eC (.int i)) := pe_int.imp fun σ H Q ⟨B, δ, ts, S, h⟩ => h (.int i) H (S.pushS rfl) id
theorem de_bl {b : Bool} {j pos} : DE X W (.Constant (.bool b) j pos) (eC (.bl b)) := pe_bl.imp fun σ H Q ⟨B, δ, ts, S, h⟩ => h (.bl b) H (S.pushS rfl) id
/-- a module's constant -/
theorem de_glob {x : Str} {t : T} {v : V} {u : Value} {pos : Pos} (hg : Gl X x) (hm : X.mg x = some u) (r : RelV v u) (hl : ∀ F G, Lon X.K F G t v) (hd : (x == ("__debug__" : Str)) = false := by decide) : DE X W (.Name x pos) (eC t) :=
  (pe_glob hg hm r hd).imp fun σ H Q ⟨B, δ, ts, S, h⟩ => h v H (S.push fun F G _ _ => hl F G) id
def OpV (X : Cx) (r : R2) (g : T → T → Option T) : Prop := ∀ B σ H δ ts v w tx ty t (Q : VK), g tx ty = some t → Stt X.K B σ H δ ((w, ty) :: (v, tx) :: ts) → (∀ v' H', Stt X.K B σ H' δ ((v', t) :: ts) → Q v' H') → r v w H Q
def opt (o : Option T) (δ : Sl) : R Sl T := match o with
  | some t => .ok t δ
  | none => .bad
def eBin (g : T → T → Option T) (fa fb : ES) : ES := fun δ => (fa δ).bind fun x δ => (fb δ).bind fun y δ => opt (g x y) δ
variable {a b : Expr} {fa fb : ES} {pos : Pos}
theorem bin_core {r : R2} {g : T → T → Option T} (hg : OpV X r g) {Q : VK} (S : Stt X.K B σ H δ ts) (h : Aft X W B σ δ ts (eBin g fa fb δ) fun t δ' => ∀ v H', Stt X.K B σ H' δ' ((v, t) :: ts) → (NoLn δ → NoLn δ') → Q v H') :
    tOp r (tE X W fa) (tE X W fb) σ H Q := by
  refine ⟨B, δ, ts, S, h.bind.mono fun x δ1 h1 v H1 S1 n1 => to_E S1 n1 h1.bind fun y δ2 h2 w H2 S2 n2 => ?_⟩
  cases e : g x y with
  | none => rw [e] at h2; exact h2.elim
  | some t => rw [e] at h2; exact hg B σ H2 δ2 ts v w x y t Q e S2 fun v' H' S' => h2 v' H' S' n2
theorem de_bin {op : Operator} {r : R2} {g : T → T → Option T} (ho : OpR X (binaryOp op) r) (hg : OpV X r g) (ha : DE X W a fa) (hb : DE X W b fb) : DE X W (.BinOp a op b pos) (eBin g fa fb) :=
  (pe_op ho ha hb).imp fun σ H Q ⟨B, δ, ts, S, h⟩ => bin_core hg S h
theorem de_cmp {op : CmpOp} {r : R2} {g : T → T → Option T} (ho : OpR X (compareOp op) r) (hg : OpV X r g) (ha : DE X W a fa) (hb : DE X W b fb) (hm : behindInMarks op b = false := by first | exact nomark _ | rfl) : DE X W (.Compare a [op] [b] pos) (eBin g fa fb) :=
  (pe_cmpR ho ha hb hm).imp fun σ H Q ⟨B, δ, ts, S, h⟩ => bin_core hg S h
/-- a truth value as a test -/
def eB (f : ES) : Sl → R Sl Bool := fun δ => (f δ).bind fun t δ => match t with
  | .bl b => .ok b δ
  | _ => .bad
theorem dt_val {e : Expr} {f : ES} (h : DE X W e f) (he : ∀ whole, isTrue e X.env whole = (do let v ← whole; standAt e.pos; holding [v] (truthy v)) := by intro _; rfl) : DT X W e (eB f) := by
  refine (pt_val h he).imp fun σ H Q ⟨B, δ, ts, S, h⟩ => ⟨B, δ, ts, S, h.bind.mono fun t δ1 h1 v H1 S1 n1 => ?_⟩
  cases t with
  | bl b => exact ⟨b, S1.eq_bl, h1 H1 S1.drop n1⟩
  | _ => exact h1.elim
theorem dt_cmp {op : CmpOp} {r : R2} {g : T → T → Option T} (ho : OpR X (compareOp op) r) (hg : OpV X r g) (ha : DE X W a fa) (hb : DE X W b fb) (hm : behindInMarks op b = false := by first | exact nomark _ | rfl) : DT X W (.Compare a [op] [b] pos) (eB (eBin g fa fb)) := by
  refine (pt_cmpR ho ha hb hm).imp fun σ H Q ⟨B, δ, ts, S, h⟩ => bin_core hg S (h.bind.mono fun t δ1 h1 v H1 S1 n1 => ?_)
  cases t with
  | bl b => exact ⟨b, S1.eq_bl, h1 H1 S1.drop n1⟩
  | _ => exact h1.elim
end
end TV
set_option Elab.async false
set_option linter.all false
set_option maxRecDepth 100000
set_option maxHeartbeats 4000000
namespace TV
open PySem PySem.Spec PyProof.Rows L2
mutual
def T.toD : T → PyData
  | .non => .none
  | .bl b => .bool b
  | .int i => .int i
  | .str x => .str x
  | .nd _ .lst xs => .list (T.toDL xs)
  | .nd _ .lsg xs => .list (T.toDL xs)
  | .nd _ .tup xs => .tuple (T.toDL xs)
  | .nd _ .tpg xs => .tuple (T.toDL xs)
  | .nd _ (.dK _) _ => .none
  | .nd _ (.dT _) _ => .none
  | .nd _ (.ex _) _ => .none
def T.toDL : List T → List PyData
  | [] => []
  | x :: xs => x.toD :: T.toDL xs
end
mutual
/-- lists and tuples within one another, at most n deep; no dict -/
def T.okD : Nat → T → Bool
  | _, .non => true
  | _, .bl _ => true
  | _, .int _ => true
  | _, .str x => PyData.strOk x
  | n + 1, .nd _ .lst xs => T.okDL n xs
  | n + 1, .nd _ .lsg xs => T.okDL n xs
  | n + 1, .nd _ .tup xs => T.okDL n xs
  | n + 1, .nd _ .tpg xs => T.okDL n xs
  | _, .nd _ _ _ => false
def T.okDL : Nat → List T → Bool
  | _, [] => true
  | n, x :: xs => x.okD n && T.okDL n xs
end
mutual
def T.eqv : T → T → Bool
  | .non, u => match u with
    | .non => true
    | _ => false
  | .bl a, u => match u with
    | .bl b => a == b
    | .int j => (if a then 1 else 0) == j
    | _ => false
  | .int i, u => match u with
    | .bl b => i == (if b then 1 else 0)
    | .int j => i == j
    | _ => false
  | .str x, u => match u with
    | .str y => x == y
    | _ => false
  | .nd _ .lst xs, u => match u with
    | .nd _ .lst ys => T.eqvL xs ys
    | .nd _ .lsg ys => T.eqvL xs ys
    | _ => false
  | .nd _ .lsg xs, u => match u with
    | .nd _ .lst ys => T.eqvL xs ys
    | .nd _ .lsg ys => T.eqvL xs ys
    | _ => false
  | .nd _ .tup xs, u => match u with
    | .nd _ .tup ys => T.eqvL xs ys
    | .nd _ .tpg ys => T.eqvL xs ys
    | _ => false
  | .nd _ .tpg xs, u => match u with
    | .nd _ .tup ys => T.eqvL xs ys
    | .nd _ .tpg ys => T.eqvL xs ys
    | _ => false
  | .nd _ (.dK _) _, _ => false
  | .nd _ (.dT _) _, _ => false
  | .nd _ (.ex _) _, _ => false
def T.eqvL : List T → List T → Bool
  | [], ys => match ys with
    | [] => true
    | _ => false
  | x :: xs, ys => match ys with
    | [] => false
    | y :: ys => T.eqv x y && T.eqvL xs ys
end
mutual
theorem T.okD_shape : ∀ (n : Nat) (t : T), t.okD n = true → t.toD.canLay0 = true ∧ t.toD.depth ≤ n
  | n, .non, _ => by cases n <;> exact ⟨rfl, Nat.zero_le _⟩
  | n, .bl _, _ => by cases n <;> exact ⟨rfl, Nat.zero_le _⟩
  | n, .int _, _ => by cases n <;> exact ⟨rfl, Nat.zero_le _⟩
  | n, .str x, h => by
    have h : PyData.strOk x = true := by cases n <;> simpa [T.okD] using h
    exact ⟨by simpa [T.toD, PyData.canLay0] using h, by simp [T.toD, PyData.depth]⟩
  | 0, .nd f k xs, h => by cases k <;> simp [T.okD] at h
  | n + 1, .nd f .lst xs, h => by
    have := T.okDL_shape n xs (by simpa [T.okD] using h)
    exact ⟨by simpa [T.toD, PyData.canLay0] using this.1, by simpa [T.toD, PyData.depth] using this.2⟩
  | n + 1, .nd f .lsg xs, h => by
    have := T.okDL_shape n xs (by simpa [T.okD] using h)
    exact ⟨by simpa [T.toD, PyData.canLay0] using this.1, by simpa [T.toD, PyData.depth] using this.2⟩
  | n + 1, .nd f .tup xs, h => by
    have := T.okDL_shape n xs (by simpa [T.okD] using h)
    exact ⟨by simpa [T.toD, PyData.canLay0] using this.1, by simpa [T.toD, PyData.depth] using this.2⟩
  | n + 1, .nd f .tpg xs, h => by
    have := T.okDL_shape n xs (by simpa [T.okD] using h)
    exact ⟨by simpa [T.toD, PyData.canLay0] using this.1, by simpa [T.toD, PyData.depth] using this.2⟩
  | n + 1, .nd f (.dK _) xs, h => by simp [T.okD] at h
  | n + 1, .nd f (.dT _) xs, h => by simp [T.okD] at h
  | n + 1, .nd f (.ex _) xs, h => by simp [T.okD] at h
theorem T.okDL_shape : ∀ (n : Nat) (ts : List T), T.okDL n ts = true → PyData.canLayAll0 (T.toDL ts) = true ∧ PyData.depthAll (T.toDL ts) ≤ n
  | n, [], _ => ⟨by simp [T.toDL, PyData.canLayAll0], by simp [T.toDL, PyData.depthAll]⟩
  | n, t :: ts, h => by
    rw [T.okDL, Bool.and_eq_true] at h
    have h1 := T.okD_shape n t h.1
    have h2 := T.okDL_shape n ts h.2
    exact ⟨by simp [T.toDL, PyData.canLayAll0, h1.1, h2.1], by simp only [T.toDL, PyData.depthAll]; exact Nat.max_le.mpr ⟨h1.2, h2.2⟩⟩
end
mutual
theorem T.eqv_toD : ∀ (n m : Nat) (t u : T), t.okD n = true → u.okD m = true → PyData.eqv t.toD u.toD = t.eqv u
  | n, m, .non, u, _, h => by
    cases u with
    | nd f k xs => cases k <;> cases m <;> simp [T.toD, PyData.eqv, T.eqv, T.okD] at h ⊢
    | _ => simp [T.toD, PyData.eqv, T.eqv]
  | n, m, .bl b, u, _, h => by
    cases u with
    | nd f k xs => cases k <;> cases m <;> simp [T.toD, PyData.eqv, T.eqv, T.okD] at h ⊢
    | _ => simp [T.toD, PyData.eqv, T.eqv]
  | n, m, .int i, u, _, h => by
    cases u with
    | nd f k xs => cases k <;> cases m <;> simp [T.toD, PyData.eqv, T.eqv, T.okD] at h ⊢
    | _ => simp [T.toD, PyData.eqv, T.eqv]
  | n, m, .str x, u, _, h => by
    cases u with
    | nd f k xs => cases k <;> cases m <;> simp [T.toD, PyData.eqv, T.eqv, T.okD] at h ⊢
    | _ => simp [T.toD, PyData.eqv, T.eqv]
  | 0, m, .nd f k xs, u, h, _ => by cases k <;> simp [T.okD] at h
  | n, 0, .nd f k xs, .nd g l ys, _, h => by cases l <;> simp [T.okD] at h
  | n + 1, m, .nd f .lst xs, u, h1, h2 => by
    cases u with
    | nd g l ys =>
      cases m with
      | zero => cases l <;> simp [T.okD] at h2
      | succ m => cases l <;> simp only [T.toD, PyData.eqv, T.eqv] <;> first
        | exact T.eqvL_toD n m xs ys (by simpa [T.okD] using h1) (by simpa [T.okD] using h2)
        | simp [T.okD] at h2
    | _ => simp [T.toD, PyData.eqv, T.eqv]
  | n + 1, m, .nd f .lsg xs, u, h1, h2 => by
    cases u with
    | nd g l ys =>
      cases m with
      | zero => cases l <;> simp [T.okD] at h2
      | succ m => cases l <;> simp only [T.toD, PyData.eqv, T.eqv] <;> first
        | exact T.eqvL_toD n m xs ys (by simpa [T.okD] using h1) (by simpa [T.okD] using h2)
        | simp [T.okD] at h2
    | _ => simp [T.toD, PyData.eqv, T.eqv]
  | n + 1, m, .nd f .tup xs, u, h1, h2 => by
    cases u with
    | nd g l ys =>
      cases m with
      | zero => cases l <;> simp [T.okD] at h2
      | succ m => cases l <;> simp only [T.toD, PyData.eqv, T.eqv] <;> first
        | exact T.eqvL_toD n m xs ys (by simpa [T.okD] using h1) (by simpa [T.okD] using h2)
        | simp [T.okD] at h2
    | _ => simp [T.toD, PyData.eqv, T.eqv]
  | n + 1, m, .nd f .tpg xs, u, h1, h2 => by
    cases u with
    | nd g l ys =>
      cases m with
      | zero => cases l <;> simp [T.okD] at h2
      | succ m => cases l <;> simp only [T.toD, PyData.eqv, T.eqv] <;> first
        | exact T.eqvL_toD n m xs ys (by simpa [T.okD] using h1) (by simpa [T.okD] using h2)
        | simp [T.okD] at h2
    | _ => simp [T.toD, PyData.eqv, T.eqv]
  | n + 1, m, .nd f (.dK _) xs, u, h1, h2 => by simp [T.okD] at h1
  | n + 1, m, .nd f (.dT _) xs, u, h1, h2 => by simp [T.okD] at h1
  | n + 1, m, .nd f (.ex _) xs, u, h1, h2 => by simp [T.okD] at h1
theorem T.eqvL_toD : ∀ (n m : Nat) (ts us : List T), T.okDL n ts = true → T.okDL m us = true → PyData.eqvAll (T.toDL ts) (T.toDL us) = T.eqvL ts us
  | n, m, [], us, _, _ => by cases us <;> simp [T.toDL, PyData.eqvAll, T.eqvL]
  | n, m, t :: ts, [], _, _ => by simp [T.toDL, PyData.eqvAll, T.eqvL]
  | n, m, t :: ts, u :: us, h1, h2 => by
    rw [T.okDL, Bool.and_eq_true] at h1 h2
    simp only [T.toDL, PyData.eqvAll, T.eqvL]
    rw [T.eqv_toD n m t u h1.1 h2.1, T.eqvL_toD n m ts us h1.2 h2.2]
end
section
variable {K : PySem.W.Frag} {F G H : Hp}
theorem stands_dp {f : Fg} {a : Addr} {k : Kd} {xs : List T} {vs : List V} {n : Nat} (st : Stands K H a k vs) (h : DpAll K H vs (T.toDL xs)) (ok : T.okD n (.nd f k xs) = true) : Dp K H (.ref a) (T.toD (.nd f k xs)) := by
  cases k with
  | lst => exact .lst (SqL.of st) h
  | lsg => exact .lst st h
  | tup => exact .tup (SqT.of st) h
  | tpg => exact .tup st h
  | dK ks => cases n <;> simp [T.okD] at ok
  | dT ks => cases n <;> simp [T.okD] at ok
  | ex x => cases n <;> simp [T.okD] at ok
theorem okD_kids {f : Fg} {k : Kd} {xs : List T} {n : Nat} (ok : T.okD n (.nd f k xs) = true) : ∃ m, T.okDL m xs = true := by
  cases n with
  | zero => cases k <;> simp [T.okD] at ok
  | succ n => cases k <;> first | exact ⟨n, by simpa [T.okD] using ok⟩ | simp [T.okD] at ok
mutual
theorem Fro.dp (s : Same F H) : ∀ {t : T} {v : V} {n : Nat}, t.okD n = true → Fro K F t v → Dp K H v t.toD
  | _, _, _, _, .non => .non
  | _, _, _, _, .bl b => .bl b
  | _, _, _, _, .int i => .int i
  | _, _, _, _, .str x => .str x
  | .nd .fz k xs, .ref a, n, ok, .fz h st => by
    obtain ⟨m, hm⟩ := okD_kids ok
    exact stands_dp (st.mono s) (FroL.dp s hm h) ok
theorem FroL.dp (s : Same F H) : ∀ {ts : List T} {vs : List V} {n : Nat}, T.okDL n ts = true → FroL K F ts vs → DpAll K H vs (T.toDL ts)
  | _, _, _, _, .nil => .nil
  | _, _, _, ok, .cons h r => by
    rw [T.okDL, Bool.and_eq_true] at ok
    exact .cons (Fro.dp s ok.1 h) (FroL.dp s ok.2 r)
end
mutual
theorem Lon.dp (s : Same F H) (g : Same G H) : ∀ {t : T} {v : V} {n : Nat}, t.okD n = true → Lon K F G t v → Dp K H v t.toD
  | _, _, _, _, .non => .non
  | _, _, _, _, .bl b => .bl b
  | _, _, _, _, .int i => .int i
  | _, _, _, _, .str x => .str x
  | .nd .fz k xs, .ref a, n, ok, .fz h st => by
    obtain ⟨m, hm⟩ := okD_kids ok
    exact stands_dp (st.mono s) (h.dp s hm) ok
  | .nd .ln k xs, .ref a, n, ok, .ln h st => by
    obtain ⟨m, hm⟩ := okD_kids ok
    exact stands_dp (st.mono g) (LonL.dp s g hm h) ok
theorem LonL.dp (s : Same F H) (g : Same G H) : ∀ {ts : List T} {vs : List V} {n : Nat}, T.okDL n ts = true → LonL K F G ts vs → DpAll K H vs (T.toDL ts)
  | _, _, _, _, .nil => .nil
  | _, _, _, ok, .cons h r => by
    rw [T.okDL, Bool.and_eq_true] at ok
    exact .cons (Lon.dp s g ok.1 h) (LonL.dp s g ok.2 r)
end
mutual
theorem Rep.dp (s : Same F H) (g : Same G H) : ∀ {t : T} {v : V} {as : List Addr} {n : Nat}, t.okD n = true → Rep K F G t v as → Dp K H v t.toD
  | _, _, _, _, ok, .lon h => h.dp s g ok
  | .nd .ow k xs, .ref a, _ :: as, n, ok, .ow h e f => by
    obtain ⟨m, hm⟩ := okD_kids ok
    exact stands_dp ((stands_own e f).mono g) (RepL.dp s g hm h) ok
theorem RepL.dp (s : Same F H) (g : Same G H) : ∀ {ts : List T} {vs : List V} {as : List Addr} {n : Nat}, T.okDL n ts = true → RepL K F G ts vs as → DpAll K H vs (T.toDL ts)
  | _, _, _, _, _, .nil => .nil
  | _, _, _, _, ok, .cons h r => by
    rw [T.okDL, Bool.and_eq_true] at ok
    exact .cons (Rep.dp s g ok.1 h) (RepL.dp s g ok.2 r)
end
end
theorem T.shaped {t : T} (h : t.okD 60 = true) : SeqAt.shaped t.toD = true := by
  obtain ⟨h1, h2⟩ := T.okD_shape 60 t h
  unfold SeqAt.shaped
  rw [h1, decide_eq_true (by omega)]; rfl
section
variable {K : PySem.W.Frag} {B : Bs} {σ : L2.St} {H : Hp} {δ : Sl} {ts : List (V × T)}
theorem Stt.dp1 {v : V} {t : T} {n : Nat} (S : Stt K B σ H δ ((v, t) :: ts)) (h : t.okD n = true) : Dp K H v t.toD := S.see fun F G as fg gh _ r => by
  cases r with
  | cons h1 r => exact h1.dp (fun b o e => gh b o (fg b o e)) gh h
theorem Stt.dp2 {v w : V} {t u : T} {n : Nat} (S : Stt K B σ H δ ((w, u) :: (v, t) :: ts)) (h : t.okD n = true) : Dp K H v t.toD := S.drop.dp1 h
theorem stands_inj {K : PySem.W.Frag} {H : Hp} {a : Addr} {vs ws : List V} (h : Stands K H a .lst vs) (h' : Stands K H a .lst ws) : vs = ws := by
  have h : H a = some (.lst vs) := h
  have h' : H a = some (.lst ws) := h'
  rw [h] at h'; cases h'; rfl
/-- the node's own list of values -/
theorem Rep.node {F G : Hp} {f : Fg} {k : Kd} {xs : List T} {v : V} {as : List Addr} (h : Rep K F G (.nd f k xs) v as) (fg : Same F G) : ∃ a vs as', v = .ref a ∧ Stands K G a k vs ∧ RepL K F G xs vs as' ∧ ∀ c, as'.count c ≤ as.count c := by
  cases h with
  | lon h => cases h with
    | fz h st => exact ⟨_, _, [], rfl, st.mono fg, h.lon.rep, fun c => Nat.zero_le _⟩
    | ln h st => exact ⟨_, _, [], rfl, st, h.rep, fun c => Nat.zero_le _⟩
  | ow h e ft => exact ⟨_, _, _, rfl, stands_own e ft, h, fun c => by rw [List.count_cons]; omega⟩
theorem RepL.append {F G : Hp} : ∀ {xs ys : List T} {vs ws : List V} {as bs : List Addr}, RepL K F G xs vs as → RepL K F G ys ws bs → ∃ cs, RepL K F G (xs ++ ys) (vs ++ ws) cs ∧ ∀ c, cs.count c = as.count c + bs.count c
  | _, _, _, _, _, bs, .nil, h => ⟨bs, h, fun c => by simp⟩
  | _, _, _, _, _, _, .cons h r, h2 => by
    obtain ⟨cs, q, c⟩ := RepL.append r h2
    exact ⟨_, .cons h q, fun a => by simp only [List.count_append, c]; omega⟩
theorem Stt.node {v : V} {f : Fg} {k : Kd} {xs : List T} (S : Stt K B σ H δ ((v, .nd f k xs) :: ts)) : ∃ a vs, v = .ref a ∧ Stands K H a k vs ∧ xs.length = vs.length := S.see fun F G as fg gh _ r => by
  cases r with
  | cons h1 r =>
    obtain ⟨a, vs, as', e, st, rl, _⟩ := h1.node fg
    exact ⟨a, vs, e, st.mono gh, rl.length⟩
end
def gAdd (x y : T) : Option T := match x, y with
  | .int i, .int j => some (.int (i + j))
  | .str a, .str b => if a.length + b.length ≤ sizeLine then some (.str (a ++ b)) else none
  | .nd _ .lst xs, .nd _ .lst ys => if xs.length + ys.length ≤ sizeLine then some (.nd .ow .lst (xs ++ ys)) else none
  | _, _ => none
section
variable {X : Cx}
theorem ov_add : OpV X (fun x y H Q => (rI0 fun i j => V.int (i + j)) x y H Q ∨ (∃ i j, x = .str i ∧ y = .str j ∧ i.length + j.length ≤ sizeLine ∧ Q (.str (i ++ j)) H) ∨ rCat x y H Q) gAdd := by
  intro B σ H δ ts v w tx ty t Q e S h
  unfold gAdd at e
  split at e
  · cases e
    have e1 := S.eq_int; have e2 := S.drop.eq_int
    subst e1 e2
    exact .inl ⟨_, _, rfl, rfl, h _ H (S.drop.drop.pushS rfl)⟩
  · rename_i a b
    by_cases hz : a.length + b.length ≤ sizeLine
    · rw [if_pos hz] at e; cases e
      have e1 := S.eq_str; have e2 := S.drop.eq_str
      subst e1 e2
      exact .inr (.inl ⟨_, _, rfl, rfl, hz, h _ H (S.drop.drop.pushS rfl)⟩)
    · rw [if_neg hz] at e; cases e
  · rename_i f xs g ys
    by_cases hz : xs.length + ys.length ≤ sizeLine
    · rw [if_pos hz] at e; cases e
      obtain ⟨a2, vs2, rfl, st2, l2⟩ := S.node
      obtain ⟨a1, vs1, rfl, st1, l1⟩ := S.drop.node
      refine .inr (.inr ⟨a1, a2, vs1, vs2, rfl, rfl, st1, st2, by rw [← l1, ← l2]; exact hz, fun p hp => h _ _ (S.alloc (k := .lst) hp trivial fun F G as fg gh r => ?_)⟩)
      cases r with
      | cons h2 r =>
        cases r with
        | cons h1 r =>
          obtain ⟨b2, ws2, as2, e2, t2, r2, c2⟩ := h2.node fg
          obtain ⟨b1, ws1, as1, e1, t1, r1, c1⟩ := h1.node fg
          cases e1; cases e2
          have q1 : ws1 = vs1 := stands_inj (t1.mono gh) st1
          have q2 : ws2 = vs2 := stands_inj (t2.mono gh) st2
          subst q1 q2
          obtain ⟨cs, q, c⟩ := r1.append r2
          exact ⟨cs, _, q, r, fun a => by have := c1 a; have := c2 a; rw [c]; simp only [List.count_append]; omega⟩
    · rw [if_neg hz] at e; cases e
  · cases e
theorem de_add {W : WX} {a b : Expr} {fa fb : ES} {pos : Pos} (ha : DE X W a fa) (hb : DE X W b fb) : DE X W (.BinOp a .Add b pos) (eBin gAdd fa fb) := de_bin (OpR.or op_add (OpR.or op_add_str op_cat)) ov_add ha hb
def gII (C : Int → Int → Bool) (g : Int → Int → Int) (x y : T) : Option T := match x, y with
  | .int i, .int j => if C i j = true then some (.int (g i j)) else none
  | _, _ => none
theorem ov_ii {C : Int → Int → Bool} {D : Int → Int → Prop} {g : Int → Int → Int} (hc : ∀ i j, C i j = true → D i j) : OpV X (rI D fun i j => V.int (g i j)) (gII C g) := by
  intro B σ H δ ts v w tx ty t Q e S h
  unfold gII at e
  split at e
  · rename_i i j
    by_cases hz : C i j = true
    · rw [if_pos hz] at e; cases e
      have e1 := S.eq_int; have e2 := S.drop.eq_int
      subst e1 e2
      exact ⟨_, _, rfl, rfl, hc _ _ hz, h _ H (S.drop.drop.pushS rfl)⟩
    · rw [if_neg hz] at e; cases e
  · cases e
def gSub : T → T → Option T := gII (fun _ _ => true) fun i j => i - j
theorem de_sub {W : WX} {a b : Expr} {fa fb : ES} {pos : Pos} (ha : DE X W a fa) (hb : DE X W b fb) : DE X W (.BinOp a .Sub b pos) (eBin gSub fa fb) :=
  de_bin (r := rI (fun _ _ => True) fun i j => V.int (i - j)) (fun pins s σ H x y v u Q I rx ry ⟨i, j, e1, e2, _, q⟩ => op_sub pins s σ H x y v u Q I rx ry ⟨i, j, e1, e2, q⟩) (ov_ii fun _ _ _ => trivial) ha hb
def cMul (i j : Int) : Bool := (decide (-(2 ^ 64) < i) && decide (i < 2 ^ 64)) || ((decide (-(2 ^ 64) < j) && decide (j < 2 ^ 64)) || decide (i.natAbs.log2 + j.natAbs.log2 < 1000000))
def gMul (x y : T) : Option T := match x, y with
  | .int i, .int j => if cMul i j = true then some (.int (i * j)) else none
  | .nd f .lst xs, .int k => if -(2 ^ 63) ≤ k ∧ k < 2 ^ 63 ∧ xs.length * k.toNat ≤ sizeLine ∧ T.noLnL xs = true then some (.nd .ow .lst (List.replicate k.toNat (T.frzL xs)).flatten) else none
  | _, _ => none
theorem FroL.rep {F : Hp} {K : PySem.W.Frag} {xs : List T} {vs : List V} (h : FroL K F xs vs) : ∀ n : Nat, FroL K F (List.replicate n xs).flatten (List.replicate n vs).flatten
  | 0 => .nil
  | n + 1 => by
    have app : ∀ {xs ys : List T} {vs ws : List V}, FroL K F xs vs → FroL K F ys ws → FroL K F (xs ++ ys) (vs ++ ws) := by
      intro xs ys vs ws h1 h2
      induction xs generalizing vs with
      | nil => cases h1; exact h2
      | cons x xs ih => cases h1 with
        | cons a b => exact .cons a (ih b)
    rw [List.replicate_succ, List.replicate_succ, List.flatten_cons, List.flatten_cons]
    exact app h (FroL.rep h n)
theorem Stt.frz2 {K : PySem.W.Frag} {B : Bs} {σ : L2.St} {H : Hp} {δ : Sl} {ts : List (V × T)} {v w : V} {t u : T} (S : Stt K B σ H δ ((w, u) :: (v, t) :: ts)) (n : t.noLn = true) : Stt K B σ H δ ((w, u) :: (v, t.frz) :: ts) := (S.swap.frzT n).swap
end
end TV
set_option Elab.async false
set_option linter.all false
set_option maxRecDepth 100000
set_option maxHeartbeats 4000000
namespace TV
open PySem PySem.Spec PyProof.Rows L2
section
variable {X : Cx} {W : WX} {B : Bs} {σ : L2.St} {δ : Sl} {ts : List (V × T)} {H : Hp} {a b c e : Expr} {fa fb fc : ES} {pos : Pos}
theorem FroL.lonRep {K : PySem.W.Frag} {F G : Hp} {xs : List T} {vs : List V} (h : FroL K F xs vs) : RepL K F G xs vs [] := h.lon.rep
theorem Rep.kidsF {K : PySem.W.Frag} {F G : Hp} {k : Kd} {xs : List T} {v : V} {as : List Addr} (h : Rep K F G (.nd .fz k xs) v as) : ∃ a vs, v = .ref a ∧ Stands K F a k vs ∧ FroL K F xs vs := by
  cases h with
  | lon h => cases h with
    | fz h st => exact ⟨_, _, rfl, st, h⟩
theorem ov_mul : OpV X (fun x y H Q => (rI (fun i j => CMul i j ∨ CMulW i j) fun i j => V.int (i * j)) x y H Q ∨ rRep x y H Q) gMul := by
  intro B σ H δ ts v w tx ty t Q e S h
  unfold gMul at e
  split at e
  · rename_i i j
    by_cases hz : cMul i j = true
    · rw [if_pos hz] at e; cases e
      have e1 := S.eq_int; have e2 := S.drop.eq_int
      subst e1 e2
      refine .inl ⟨_, _, rfl, rfl, ?_, h _ H (S.drop.drop.pushS rfl)⟩
      unfold cMul at hz
      simp only [Bool.or_eq_true, Bool.and_eq_true, decide_eq_true_eq] at hz
      rcases hz with z | z | z
      · exact .inl (.inl z)
      · exact .inl (.inr z)
      · exact .inr z
    · rw [if_neg hz] at e; cases e
  · rename_i f xs k
    by_cases hz : -(2 ^ 63) ≤ k ∧ k < 2 ^ 63 ∧ xs.length * k.toNat ≤ sizeLine ∧ T.noLnL xs = true
    · rw [if_pos hz] at e; cases e
      have e1 := S.eq_int
      subst e1
      obtain ⟨h1, h2, h3, h4⟩ := hz
      obtain ⟨a1, vs1, rfl, st1, l1⟩ := S.drop.node
      refine .inr ⟨a1, k, vs1, rfl, rfl, st1, h1, h2, by rw [← l1]; exact h3, fun p hp => ?_⟩
      cases f with
      | ln =>
        -- the kids of a seen list that are not seen: frozen ones and scalars
        refine h _ _ (S.alloc (k := .lst) hp trivial fun F G as fg gh r => ?_)
        cases r with
        | cons h2 r => cases r with
          | cons h1 r =>
            obtain ⟨b1, ws1, as1, e1, t1, r1, c1⟩ := h1.node fg
            cases e1
            have q1 := stands_inj (t1.mono gh) st1
            subst q1
            cases h1 with
            | lon hl => cases hl with
              | ln hk st =>
                have q2 := stands_inj st t1
                subst q2
                have fr : ∀ {xs : List T} {vs : List V}, T.noLnL xs = true → LonL X.K F G xs vs → FroL X.K F (T.frzL xs) vs := by
                  intro xs vs n hk
                  induction xs generalizing vs with
                  | nil => cases hk; exact .nil
                  | cons x xs ih => cases hk with
                    | cons p q =>
                      rw [T.noLnL, Bool.and_eq_true] at n
                      have pz := p.fro n.1
                      exact .cons (by rw [pz.frz_eq]; exact pz) (ih n.2 q)
                exact ⟨[], _, ((fr h4 hk).rep k.toNat).lonRep, r, fun a => by simp only [List.count_append, List.count_nil]; omega⟩
      | fz =>
        refine h _ _ (S.alloc (k := .lst) hp trivial fun F G as fg gh r => ?_)
        cases r with
        | cons h2 r => cases r with
          | cons h1 r =>
            obtain ⟨b1, ws1, e1, t1, r1⟩ := h1.kidsF
            cases e1
            have q1 := stands_inj ((t1.mono fg).mono gh) st1
            subst q1
            exact ⟨[], _, (show FroL X.K F _ _ by rw [r1.frz_eq]; exact r1.rep k.toNat).lonRep, r, fun a => by simp only [List.count_append, List.count_nil]; omega⟩
      | ow =>
        have S2 := S.frz2 (t := .nd .ow .lst xs) (by simpa [T.noLn] using h4)
        refine h _ _ (S2.alloc (k := .lst) hp trivial fun F G as fg gh r => ?_)
        cases r with
        | cons h2 r => cases r with
          | cons h1 r =>
            obtain ⟨b1, ws1, e1, t1, r1⟩ := (show Rep X.K F G (.nd .fz .lst (T.frzL xs)) _ _ from h1).kidsF
            cases e1
            have q1 := stands_inj ((t1.mono fg).mono gh) st1
            subst q1
            exact ⟨[], _, (r1.rep k.toNat).lonRep, r, fun a => by simp only [List.count_append, List.count_nil]; omega⟩
    · rw [if_neg hz] at e; cases e
  · cases e
theorem op_mulA : OpR X (binaryOp .Mult) (rI (fun i j => CMul i j ∨ CMulW i j) fun i j => V.int (i * j)) := fun pins s σ H x y v u Q I rx ry ⟨i, j, e1, e2, hc, q⟩ => by
  rcases hc with hc | hc
  · exact op_mul pins s σ H x y v u Q I rx ry ⟨i, j, e1, e2, hc, q⟩
  · exact op_mulW pins s σ H x y v u Q I rx ry ⟨i, j, e1, e2, hc, q⟩
theorem de_mul (ha : DE X W a fa) (hb : DE X W b fb) : DE X W (.BinOp a .Mult b pos) (eBin gMul fa fb) := de_bin (OpR.or op_mulA op_rep) ov_mul ha hb
def gDiv : T → T → Option T := gII (fun i j => decide (0 < j) && decide (j.natAbs.log2 < 9000)) fun i j => i / j
theorem de_div (ha : DE X W a fa) (hb : DE X W b fb) : DE X W (.BinOp a .FloorDiv b pos) (eBin gDiv fa fb) :=
  de_bin op_fdivW (ov_ii fun i j h => by simp only [Bool.and_eq_true, decide_eq_true_eq] at h; exact h) ha hb
def gMod : T → T → Option T := gII (fun i j => decide (0 < j)) fun i j => i % j
theorem de_mod (ha : DE X W a fa) (hb : DE X W b fb) : DE X W (.BinOp a .Mod b pos) (eBin gMod fa fb) := de_bin op_mod (ov_ii fun i j h => by simpa using h) ha hb
def gPow : T → T → Option T := gII (fun i j => decide (0 ≤ j) && (decide (j ≤ 1000000) && decide (i.natAbs < 2 ^ 64))) fun i j => i ^ j.toNat
theorem de_pow (ha : DE X W a fa) (hb : DE X W b fb) : DE X W (.BinOp a .Pow b pos) (eBin gPow fa fb) :=
  de_bin op_pow (ov_ii fun i j h => by simp only [Bool.and_eq_true, decide_eq_true_eq] at h; exact h) ha hb
def eUn (g : T → Option T) (fa : ES) : ES := fun δ => (fa δ).bind fun x δ => opt (g x) δ
def gNeg : T → Option T
  | .int i => some (.int (-i))
  | _ => none
theorem de_neg (ha : DE X W a fa) : DE X W (.UnaryOp .USub a pos) (eUn gNeg fa) := by
  refine (pe_un un_neg ha).imp fun σ H Q ⟨B, δ, ts, S, h⟩ => ⟨B, δ, ts, S, h.bind.mono fun x δ1 h1 v H1 S1 n1 => ?_⟩
  cases x with
  | int i => exact ⟨i, S1.eq_int, h1 _ H1 (S1.drop.pushS rfl) n1⟩
  | _ => exact h1.elim
def gCmp (p : Int → Int → Bool) (x y : T) : Option T := match x, y with
  | .int i, .int j => some (.bl (p i j))
  | _, _ => none
theorem ov_cmp {p : Int → Int → Bool} : OpV X (rI0 fun i j => V.bl (p i j)) (gCmp p) := by
  intro B σ H δ ts v w tx ty t Q e S h
  unfold gCmp at e
  split at e
  · cases e
    have e1 := S.eq_int; have e2 := S.drop.eq_int
    subst e1 e2
    exact ⟨_, _, rfl, rfl, h _ H (S.drop.drop.pushS rfl)⟩
  · cases e
abbrev gLt := gCmp fun i j => decide (i < j)
abbrev gLe := gCmp fun i j => decide (i ≤ j)
abbrev gGt := gCmp fun i j => decide (j < i)
abbrev gGe := gCmp fun i j => decide (j ≤ i)
def gEq (x y : T) : Option T := if x.okD 60 = true ∧ y.okD 60 = true then some (.bl (x.eqv y)) else none
def gNe (x y : T) : Option T := if x.okD 60 = true ∧ y.okD 60 = true then some (.bl (!x.eqv y)) else none
theorem ov_eq : OpV X (rEqD X.K) gEq := by
  intro B σ H δ ts v w tx ty t Q e S h
  unfold gEq at e
  by_cases hz : tx.okD 60 = true ∧ ty.okD 60 = true
  · rw [if_pos hz] at e; cases e
    refine ⟨_, _, S.dp2 hz.1, S.dp1 hz.2, T.shaped hz.1, T.shaped hz.2, ?_⟩
    rw [T.eqv_toD 60 60 tx ty hz.1 hz.2]
    exact h _ H (S.drop.drop.pushS rfl)
  · rw [if_neg hz] at e; cases e
theorem ov_ne : OpV X (rNeD X.K) gNe := by
  intro B σ H δ ts v w tx ty t Q e S h
  unfold gNe at e
  by_cases hz : tx.okD 60 = true ∧ ty.okD 60 = true
  · rw [if_pos hz] at e; cases e
    refine ⟨_, _, S.dp2 hz.1, S.dp1 hz.2, T.shaped hz.1, T.shaped hz.2, ?_⟩
    rw [T.eqv_toD 60 60 tx ty hz.1 hz.2]
    exact h _ H (S.drop.drop.pushS rfl)
  · rw [if_neg hz] at e; cases e
/-- is None -/
def T.isNon : T → Bool
  | .non => true
  | _ => false
def gIsN (x y : T) : Option T := match y with
  | .non => some (.bl x.isNon)
  | _ => none
def gNotN (x y : T) : Option T := match y with
  | .non => some (.bl (!x.isNon))
  | _ => none
/-- is of truth values -/
def gIsB (x y : T) : Option T := match x, y with
  | .bl a, .bl b => some (.bl (decide (a = b)))
  | _, _ => none
def gNotB (x y : T) : Option T := match x, y with
  | .bl a, .bl b => some (.bl (!decide (a = b)))
  | _, _ => none
section
variable {k : Nat}
theorem de_eq (hr : Room k X.A) (ha : DE X W a fa) (hb : DE X W b fb) : DE X W (.Compare a [.Eq] [b] pos) (eBin gEq fa fb) := de_cmp (op_eqD hr.units) ov_eq ha hb
theorem dt_lt (ha : DE X W a fa) (hb : DE X W b fb) : DT X W (.Compare a [.Lt] [b] pos) (eB (eBin gLt fa fb)) := dt_cmp op_lt ov_cmp ha hb
theorem dt_gt (ha : DE X W a fa) (hb : DE X W b fb) : DT X W (.Compare a [.Gt] [b] pos) (eB (eBin gGt fa fb)) := dt_cmp op_gt ov_cmp ha hb
theorem dt_ge (ha : DE X W a fa) (hb : DE X W b fb) : DT X W (.Compare a [.GtE] [b] pos) (eB (eBin gGe fa fb)) := dt_cmp op_ge ov_cmp ha hb
theorem dt_eq (hr : Room k X.A) (ha : DE X W a fa) (hb : DE X W b fb) : DT X W (.Compare a [.Eq] [b] pos) (eB (eBin gEq fa fb)) := dt_cmp (op_eqD hr.units) ov_eq ha hb
theorem dt_ne (hr : Room k X.A) (ha : DE X W a fa) (hb : DE X W b fb) : DT X W (.Compare a [.NotEq] [b] pos) (eB (eBin gNe fa fb)) := dt_cmp (op_neD hr.units) ov_ne ha hb
end
/-- a op b op' c -/
def eChain (g g' : T → T → Option T) (fa fb fc : ES) : ES := fun δ => (fa δ).bind fun x δ => (fb δ).bind fun y δ => match g x y with
  | some (.bl true) => match y with
    | .int _ => (fc δ).bind fun z δ => opt (g' y z) δ
    | _ => .bad
  | some (.bl false) => .ok (.bl false) δ
  | _ => .bad
theorem chain_core {r r' : R2} {g g' : T → T → Option T} (hg : OpV X r g) (hg' : OpV X r' g') {Q : VK} (S : Stt X.K B σ H δ ts) (h : Aft X W B σ δ ts (eChain g g' fa fb fc δ) fun t δ' => ∀ v H', Stt X.K B σ H' δ' ((v, t) :: ts) → (NoLn δ → NoLn δ') → Q v H') :
    tChain r r' (tE X W fa) (tE X W fb) (tE X W fc) σ H Q := by
  refine ⟨B, δ, ts, S, h.bind.mono fun x δ1 h1 v H1 S1 n1 => to_E S1 n1 h1.bind fun y δ2 h2 w H2 S2 n2 => ?_⟩
  cases e : g x y with
  | none => rw [e] at h2; exact h2.elim
  | some t =>
    rw [e] at h2
    cases t with
    | bl k =>
      cases k with
      | false =>
        refine hg B σ H2 δ2 ts v w x y (.bl false) _ e S2 fun v' H' S' => ⟨false, S'.eq_bl, ?_⟩
        rw [if_neg Bool.false_ne_true]
        exact h2 _ H' (S'.drop.pushS rfl) n2
      | true =>
        cases y with
        | int i =>
          have ew := S2.eq_int
          refine hg B σ H2 δ2 ts v w x (.int i) (.bl true) _ e S2 fun v' H' S' => ⟨true, S'.eq_bl, ?_⟩
          rw [if_pos rfl]
          refine to_E (S'.drop.pushS (t := .int i) (v := w) (by rw [ew]; rfl)) n2 h2.bind fun z δ3 h3 u H3 S3 n3 => ?_
          cases e' : g' (.int i) z with
          | none => rw [e'] at h3; exact h3.elim
          | some t' => rw [e'] at h3; exact hg' B σ H3 δ3 ts w u (.int i) z t' Q e' S3 fun v' H' S' => h3 v' H' S' n3
        | _ => exact h2.elim
    | _ => exact h2.elim
theorem de_chain {op op' : CmpOp} {r r' : R2} {g g' : T → T → Option T} (ho : OpR X (compareOp op) r) (ho' : OpR X (compareOp op') r') (hg : OpV X r g) (hg' : OpV X r' g') (ha : DE X W a fa) (hb : DE X W b fb) (hc : DE X W c fc)
    (hm : lastMarks [op, op'] [b, c] = false := by with_unfolding_all rfl) : DE X W (.Compare a [op, op'] [b, c] pos) (eChain g g' fa fb fc) :=
  (pe_chain ho ho' ha hb hc hm).imp fun σ H Q ⟨B, δ, ts, S, h⟩ => chain_core hg hg' S h
theorem dt_chain {op op' : CmpOp} {r r' : R2} {g g' : T → T → Option T} (ho : OpR X (compareOp op) r) (ho' : OpR X (compareOp op') r') (hg : OpV X r g) (hg' : OpV X r' g') (ha : DE X W a fa) (hb : DE X W b fb) (hc : DE X W c fc)
    (hm : lastMarks [op, op'] [b, c] = false := by with_unfolding_all rfl) : DT X W (.Compare a [op, op'] [b, c] pos) (eB (eChain g g' fa fb fc)) := by
  refine (pt_chain ho ho' ha hb hc hm).imp fun σ H Q ⟨B, δ, ts, S, h⟩ => chain_core hg hg' S (h.bind.mono fun t δ1 h1 v H1 S1 n1 => ?_)
  cases t with
  | bl b => exact ⟨b, S1.eq_bl, h1 H1 S1.drop n1⟩
  | _ => exact h1.elim
theorem de_leLe (ha : DE X W a fa) (hb : DE X W b fb) (hc : DE X W c fc) (hm : lastMarks [CmpOp.LtE, CmpOp.LtE] [b, c] = false := by with_unfolding_all rfl) : DE X W (.Compare a [.LtE, .LtE] [b, c] pos) (eChain gLe gLe fa fb fc) := de_chain op_le op_le ov_cmp ov_cmp ha hb hc hm
theorem dt_leLe (ha : DE X W a fa) (hb : DE X W b fb) (hc : DE X W c fc) (hm : lastMarks [CmpOp.LtE, CmpOp.LtE] [b, c] = false := by with_unfolding_all rfl) : DT X W (.Compare a [.LtE, .LtE] [b, c] pos) (eB (eChain gLe gLe fa fb fc)) := dt_chain op_le op_le ov_cmp ov_cmp ha hb hc hm
variable {f g : Sl → R Sl Bool} {rest : List Expr}
def DW (X : Cx) (W : WX) (e : Expr) (f : Sl → R Sl Bool) : Prop := PW X e (tT X W f)
theorem _root_.L2.PW.imp {X : Cx} {e : Expr} {t t' : TT} (h : PW X e t) (hh : ∀ σ H Q, t' σ H Q → t σ H Q) : PW X e t' := ⟨fun wh pins s σ H Q I q => h.run wh pins s σ H Q I (hh σ H Q q)⟩
def tfAnd (f g : Sl → R Sl Bool) : Sl → R Sl Bool := fun δ => (f δ).bind fun b δ => if b = true then g δ else .ok false δ
def tfOr (f g : Sl → R Sl Bool) : Sl → R Sl Bool := fun δ => (f δ).bind fun b δ => if b = true then .ok true δ else g δ
def tfNot (f : Sl → R Sl Bool) : Sl → R Sl Bool := fun δ => (f δ).bind fun b δ => .ok (!b) δ
theorem dw_and1 (ha : DT X W a f) : DW X W (.BoolOp .And [a] pos) f := pw_and1 ha
theorem dw_or1 (ha : DT X W a f) : DW X W (.BoolOp .Or [a] pos) f := pw_or1 ha
/-- on from a part: a test behind it -/
theorem to_T {f : Sl → R Sl Bool} {δ0 δ1 : Sl} {P : Bool → Sl → Prop} {Q : Bool → Hp → Prop} (S : Stt X.K B σ H δ1 ts) (n : NoLn δ0 → NoLn δ1) (h : Aft X W B σ δ0 ts (f δ1) P)
    (hp : ∀ b δ', P b δ' → ∀ H', Stt X.K B σ H' δ' ts → (NoLn δ0 → NoLn δ') → Q b H') : tT X W f σ H Q :=
  ⟨B, δ1, ts, S, h.lift n (fun _ _ => id) fun b δ' p H' S' n' => hp b δ' p H' S' fun z => n' (n z)⟩
theorem dw_and (ha : DT X W a f) (hb : DW X W (.BoolOp .And (b :: rest) pos) g) : DW X W (.BoolOp .And (a :: b :: rest) pos) (tfAnd f g) :=
  (pw_and ha hb).imp fun σ H Q ⟨B, δ, ts, S, h⟩ => ⟨B, δ, ts, S, h.bind.mono fun b δ1 h1 H1 S1 n1 => by
    cases b with
    | true => rw [if_pos rfl] at h1 ⊢; exact to_T S1 n1 h1 fun _ _ p => p
    | false => rw [if_neg Bool.false_ne_true] at h1 ⊢; exact h1 H1 S1 n1⟩
theorem dw_or (ha : DT X W a f) (hb : DW X W (.BoolOp .Or (b :: rest) pos) g) : DW X W (.BoolOp .Or (a :: b :: rest) pos) (tfOr f g) :=
  (pw_or ha hb).imp fun σ H Q ⟨B, δ, ts, S, h⟩ => ⟨B, δ, ts, S, h.bind.mono fun b δ1 h1 H1 S1 n1 => by
    cases b with
    | true => rw [if_pos rfl] at h1 ⊢; exact h1 H1 S1 n1
    | false => rw [if_neg Bool.false_ne_true] at h1 ⊢; exact to_T S1 n1 h1 fun _ _ p => p⟩
theorem dt_bop {e : Expr} (h : DW X W e f) : DT X W e f := PW.pt h
theorem dt_not (ha : DT X W a f) : DT X W (.UnaryOp .Not a pos) (tfNot f) :=
  (pt_not ha).imp fun σ H Q ⟨B, δ, ts, S, h⟩ => ⟨B, δ, ts, S, h.bind.mono fun b δ1 h1 H1 S1 n1 => h1 H1 S1 n1⟩
def eAnd (f g : ES) : ES := fun δ => (f δ).bind fun t δ => match t with
  | .bl true => g δ
  | .bl false => .ok (.bl false) δ
  | _ => .bad
def eOr (f g : ES) : ES := fun δ => (f δ).bind fun t δ => match t with
  | .bl true => .ok (.bl true) δ
  | .bl false => g δ
  | _ => .bad
def eNot (f : ES) : ES := fun δ => (f δ).bind fun t δ => match t with
  | .bl b => .ok (.bl (!b)) δ
  | _ => .bad
theorem to_E0 {f : ES} {δ0 δ1 : Sl} {P : T → Sl → Prop} {Q : VK} (S : Stt X.K B σ H δ1 ts) (n : NoLn δ0 → NoLn δ1) (h : Aft X W B σ δ0 ts (f δ1) P)
    (hp : ∀ t' δ', P t' δ' → ∀ v' H', Stt X.K B σ H' δ' ((v', t') :: ts) → (NoLn δ0 → NoLn δ') → Q v' H') : tE X W f σ H Q :=
  ⟨B, δ1, ts, S, h.lift n (fun _ _ => id) fun t' δ' p v' H' S' n' => hp t' δ' p v' H' S' fun z => n' (n z)⟩
theorem de_one {op : BoolOp} (ha : DE X W a fa) : DE X W (.BoolOp op [a] pos) fa := pe_one ha
theorem de_and (ha : DE X W a fa) (hb : DE X W (.BoolOp .And (b :: rest) pos) fb) : DE X W (.BoolOp .And (a :: b :: rest) pos) (eAnd fa fb) :=
  (pe_and ha hb).imp fun σ H Q ⟨B, δ, ts, S, h⟩ => ⟨B, δ, ts, S, h.bind.mono fun t δ1 h1 v H1 S1 n1 => by
    cases t with
    | bl k => cases k with
      | true => exact ⟨true, S1.eq_bl, to_E0 S1.drop n1 h1 fun _ _ p => p⟩
      | false => exact ⟨false, S1.eq_bl, h1 _ H1 (S1.drop.pushS rfl) n1⟩
    | _ => exact h1.elim⟩
theorem de_not (ha : DE X W a fa) : DE X W (.UnaryOp .Not a pos) (eNot fa) :=
  (pe_not ha).imp fun σ H Q ⟨B, δ, ts, S, h⟩ => ⟨B, δ, ts, S, h.bind.mono fun t δ1 h1 v H1 S1 n1 => by
    cases t with
    | bl k => exact ⟨k, S1.eq_bl, h1 _ H1 (S1.drop.pushS rfl) n1⟩
    | _ => exact h1.elim⟩
def eIf (f : Sl → R Sl Bool) (fa fb : ES) : ES := fun δ => (f δ).bind fun k δ => if k = true then fa δ else fb δ
end
end TV
set_option Elab.async false
set_option linter.all false
set_option maxRecDepth 100000
set_option maxHeartbeats 4000000
namespace TV
open PySem PySem.Spec PyProof.Rows L2
structure FnG (P : Program) (w : World) (K : PySem.W.Frag) (mg : Str → Option Value) (base : Heap) (k : Nat) (fa : Addr) (fd : FuncData) (ps : List Str) (sp : Sp) : Prop where
  len : ∀ vs H Q E, sp vs H Q E → vs.length = ps.length
  go : ∀ (A : Around) (fs : List Env) (s : Shared) (H : Hp) (args : Args) (us : List Value) (vs : List V) (Q : VK) (E : XK), A.guards = some [] → Room k A → Env0 P w K mg base A fs s H → BindsTo s fd args (ps.zip us) → Vals vs us → sp vs H Q E →
    codeAny (model P w) A (.call (.ref fa) args) (CR (L2.CX P w) fs P w H s Q E) s
section
variable {P : Program} {w : World} {K : PySem.W.Frag} {mg : Str → Option Value} {base : Heap} {j k : Nat} {fa : Addr} {fd : FuncData} {ps : List Str} {sp sp' : Sp}
theorem FnG.mono (F : FnG P w K mg base j fa fd ps sp) (h : j ≤ k) : FnG P w K mg base k fa fd ps sp :=
  ⟨F.len, fun A fs s H args us vs Q E gd hr => F.go A fs s H args us vs Q E gd (hr.mono h)⟩
theorem FnG.imp (F : FnG P w K mg base k fa fd ps sp) (h : ∀ vs H Q E, sp' vs H Q E → sp vs H Q E) : FnG P w K mg base k fa fd ps sp' :=
  ⟨fun vs H Q E z => F.len vs H Q E (h vs H Q E z), fun A fs s H args us vs Q E gd hr e0 hb r z => F.go A fs s H args us vs Q E gd hr e0 hb r (h vs H Q E z)⟩
/-- a def, by its body -/
theorem fnG_body {x qual : Str} {st : Stmt} {N : List Str} (Fu : L2.Fun K x qual st fa fd) (Sc : FnScope N ps (defScope st)) (len : ∀ vs H Q E, sp vs H Q E → vs.length = ps.length)
    (body : ∀ (cdv : Value) (A : Around) (fs : List Env) (s : Shared) (H : Hp) (vs : List V) (Q : VK) (E : XK), A.guards = some [] → Room k (A.deeper (envOfC qual (defScope st) s.heap.objs.size fa cdv)) → sp vs H Q E →
      ∃ t, PSs (cxOf (L2.CX P w) P w K mg base N qual (defScope st) fa cdv A fs s H E) (defBody st) t ∧ t { nx := fun _ H' => Q .non H', rt := Q } (start N vs) H) : FnG P w K mg base (k + 1) fa fd ps sp := by
  obtain ⟨_, _, _, _, _, _, cdv, _, _, rfl, look, code⟩ := Fu.ex
  refine ⟨len, fun A fs s H args us vs Q E gd hr e0 hb r z => ?_⟩
  have nl := len vs H Q E z
  have kin : K.In s.heap := e0.mod.kin.keeps fun b o h => (e0.bs b o h).1
  have free : s.heap.NoLimit := e0.mod.nolimit.keeps fun b o h => (e0.bs b o h).1
  have kinds : ∀ y ∈ ps.zip us, (defScope st).names.lookup y.1 = some .local ∨ ((defScope st).names.lookup y.1 = some .cell ∧ ((cellsFrom (s.heap.objs.size + 1) (defScope st).names []).lookup y.1).isSome = true) := by
    rintro ⟨y, u⟩ hy
    exact (Sc.par y (List.of_mem_zip hy).1).elim .inl fun q => .inr ⟨q, PySem.W.cellsFrom_some _ _ _ (.inl q)⟩
  refine codeAny_call_function hr.depth (kin _ _ look) rfl Sc.co Sc.gen rfl (PySem.W.codeRec_of kin code) (hb _ _ _ _ (wpAny_newFunctionEnv_cells Sc.kind kinds fun env he s1 x => ?_))
  cases he
  refine ⟨free.keeps x.toInCall.keep, codeAny_func ?_⟩
  obtain ⟨t, pt, tt⟩ := body cdv A fs s H vs Q E gd (hr.deeper _) z
  have I0 : Inv (cxOf (L2.CX P w) P w K mg base N qual (defScope st) fa cdv A fs s H E) [] (start N vs) H s1 := inv_start Sc hr.hd e0 nl r x
  have toEnd : ∀ {σ2 : L2.St} {H2 : Hp} {v : V} {u : Value} {s2 : Shared}, Inv (cxOf (L2.CX P w) P w K mg base N qual (defScope st) fa cdv A fs s H E) [] σ2 H2 s2 → RelV v u → Q v H2 → CE fs P w H s Q u s2 :=
    fun {σ2 H2 v u s2} J rv q => ⟨v, H2, J.os, J.bare, J.base, J.hok, rv, q⟩
  refine wpAny_mono (pt.run [] s1 (start N vs) H _ I0 tt) (fun fl s2 hs => ?_) fun _ _ hs => hs
  match fl, hs with
  | .ret u, ⟨v, σ2, H2, J, rv, q⟩ => exact toEnd J rv q
  | .next, ⟨σ2, H2, J, q⟩ => exact toEnd (v := V.non) (u := Value.none) J rfl q
  | .brk, ⟨_, _, _, q⟩ => exact q.elim
  | .cont, ⟨_, _, _, q⟩ => exact q.elim
end
section
variable {X : Cx} {k : Nat} {fa : Addr} {fd : FuncData} {ps : List Str} {sp : Sp} {x : Str} {p pos : Pos} {e : Expr} {es : List Expr} {t : TA} {E : L2.St → XK}
theorem goG {pins : List (Addr × Obj)} {σ : L2.St} {H : Hp} {s : Shared} {Q : VK} {us : List Value} {vs : List V} (F : FnG X.prog X.w X.K X.mg X.base k fa fd ps sp) (gd : X.A.guards = some []) (hr : Room k X.A) (hb : Binds X.K fd ps []) (hx : PassesAt (L2.CX X.prog X.w) X σ (E σ))
    (I : Inv X pins σ H s) (r : Vals vs us) (h : sp vs H Q (E σ)) : wpAny (model X.prog X.w) X.A (call (.ref fa) us) (EP X pins σ Q) X.xe s := by
  have nu : us.length = ps.length := r.length ▸ F.len vs H Q (E σ) h
  have bnd : BindsTo s fd ⟨us, []⟩ (ps.zip us) := by
    have := hb s us I.kIn (by simpa using nu)
    simpa using this
  refine wpAny_call (codeAny_mono (F.go X.A X.stack s H ⟨us, []⟩ us vs Q (E σ) gd hr I.env0 bnd r h) fun res s2 z => ?_)
  match res, z with
  | .error er, z => exact hx pins H s er s2 I z
  | .ok (.ret u), z => exact I.after z
  | .ok .next, z => exact z.elim
  | .ok .brk, z => exact z.elim
  | .ok .cont, z => exact z.elim
theorem pe_callG (F : FnG X.prog X.w X.K X.mg X.base k fa fd ps sp) (gd : X.A.guards = some []) (hr : Room k X.A) (hg : Gl X x) (hm : X.mg x = some (.ref fa)) (hk : PySem.W.keepIn X.K (.ref fa) = true) (hb : Binds X.K fd ps []) (hx : ∀ σ, PassesAt (L2.CX X.prog X.w) X σ (E σ)) (ha : PA X (e :: es) t)
    (hdb : (x == ("__debug__" : Str)) = false := by decide) (he : starEach (e :: es) X.env = (false, eval e X.env) :: starEach es X.env := by rfl) (hpl : (backTo pos (starEach es X.env)).any (·.1) = false := by rfl) : PE X (.Call (.Name x p) (e :: es) [] pos) (tCallS sp E t) :=
  ⟨fun pins s σ H Q I h => wpAny_Call_Name_kw (ld_glob I hg hm (PySem.W.callWith_K (h₀ := X.base) I.ok.mod.kin hk (thn (ha.run pos pins s σ H _ I h) fun us s1 ⟨vs, H1, I1, r, q⟩ => ⟨I1.kIn, goG F gd hr hb (hx σ) I1 r q⟩) he hpl) hdb)⟩
end
theorem lawG {P : Program} {w : World} {K : PySem.W.Frag} {mg mb : Str → Option Value} {k : Nat} {fa a : Addr} {fd : FuncData} {x : Str} {sp : Sp} {s₁ : Shared} {vs : List Value} {ns : List Int} (kin : K.In s₁.heap) (hns : s₁.heap.Ns mainGlobals mg) (hb : s₁.heap.Ns builtinsNs mb)
    (hbb : ∀ x : Str, x ≠ "__name__" → mb x = bootBuiltins x) (hlim : s₁.heap.NoLimit) (hgen : s₁.gens = #[]) (ha : s₁.heap.get? a = some { cls := .type "list", data := .seq vs.toArray }) (hi : IntsAre vs ns) (hl : ns.length ≤ sizeLine) (hr : Room k callerA)
    (F : ∀ base : Heap, K.In base → base.Ns mainGlobals mg → FnG P w K mg base k fa fd [x] sp) (bind : ∀ (s : Shared) (u : Value), BindsTo s fd ⟨[u], []⟩ [(x, u)])
    (hsp : ∀ H : Hp, Only H → SqL K H a (ns.map V.int) → sp [.ref a] H (fun v _ => v = .bl true) fun _ _ _ => False) (noX : ∀ H e s', L2.CX P w [] H s₁ (fun _ _ _ => False) e s' → False) :
    codeAny (model P w) callerA (.call (.ref fa) ⟨[.ref a], []⟩) (fun r s' => r = .ok (.ret (.bool true)) ∧ OldK s₁.heap s'.heap ∧ s'.os = s₁.os ∧ AllBare s'.gens) s₁ := by
  obtain ⟨mc, lm1, lm2⟩ := hlim
  have vals := vals_ints hi
  have lenEq := hi.length
  have none_in : ∀ b : Addr, b ∉ ([] : List Addr) := fun b z => nomatch z
  suffices step : ∀ H : Hp, Only H → SqL K H a (ns.map V.int) → HOk P w H s₁.heap → (∀ b, H b ≠ none → b = a ∧ K.lookup a = none) →
      codeAny (model P w) callerA (.call (.ref fa) ⟨[.ref a], []⟩) (fun r s' => r = .ok (.ret (.bool true)) ∧ OldK s₁.heap s'.heap ∧ s'.os = s₁.os ∧ AllBare s'.gens) s₁ by
    cases look : K.lookup a with
    | some o =>
      have same := kin a o look
      rw [ha] at same
      have eo := Option.some.inj same
      subst eo
      exact step (fun _ => none) (fun _ => .inl rfl) (.inr ⟨_, vs.toArray, _, look, rfl, rfl, rfl, by rw [List.size_toArray, lenEq]; exact hl, by simpa using vals⟩) (fun b u z => nomatch (show (none : Option HO) = some u from z)) fun b z => (z rfl).elim
    | none =>
      have at_a : ∀ b, (if b = a then some (HO.frz { cls := .type "list", data := .seq vs.toArray } (.lst (ns.map V.int))) else none) ≠ none → b = a := fun b z => by
        by_cases hb : b = a
        · exact hb
        · rw [if_neg hb] at z; exact (z rfl).elim
      refine step (fun b => if b = a then some (.frz { cls := .type "list", data := .seq vs.toArray } (.lst (ns.map V.int))) else none) (fun b => ?_) (.inl (.inr ⟨_, if_pos rfl⟩)) (fun b u z => ?_) fun b z => ⟨at_a b z, look⟩
      · by_cases hb : b = a
        · exact .inr ⟨_, _, if_pos hb⟩
        · exact .inl (if_neg hb)
      · have eb := at_a b (by dsimp only at z; rw [z]; exact nofun)
        subst eb
        have eu := Option.some.inj ((if_pos rfl).symm.trans z)
        subst eu
        exact ⟨ha, by rw [List.length_map]; exact hl, vs, _, vals, ha⟩
  intro H only sq hok at_a
  have visible : ∀ {b : Addr} {o : Obj}, s₁.heap.get? b = some o → H b = none → (L2.hidT s₁.heap H).get? b = some o := fun e n => L2.hidT_get e n
  have names : ∀ {b : Addr} {m : Str → Option Value}, s₁.heap.Ns b m → (L2.hidT s₁.heap H).Ns b m := by
    rintro b m ⟨o, es, ep, e, d, r⟩
    refine ⟨o, es, ep, visible e ?_, d, r⟩
    cases q : H b with
    | none => rfl
    | some u =>
      have eb := (at_a b (by rw [q]; exact nofun)).1
      subst eb
      rw [ha] at e
      have eo := Option.some.inj e
      subst eo
      have d2 : Data.seq vs.toArray _ = Data.dict es ep := d
      cases d2
  have kin2 : K.In (L2.hidT s₁.heap H) := fun b o e => by
    refine visible (kin b o e) ?_
    cases q : H b with
    | none => rfl
    | some u =>
      obtain ⟨eb, nk⟩ := at_a b (by rw [q]; exact nofun)
      rw [eb, nk] at e; cases e
  have mod : L2.Mod K mg (L2.hidT s₁.heap H) := ⟨kin2, names hns, ⟨mb, names hb, hbb⟩, mc, names lm1, lm2⟩
  have env : Env0 P w K mg (L2.hidT s₁.heap H) callerA [] s₁ H := ⟨rfl, mod, fun b o e => L2.of_hidT e, Nat.le_of_eq (L2.hidT_size _ _), trivial, fun b z => (none_in b z).elim, hok, .of_eq hgen⟩
  have run := (F _ kin2 (names hns)).go callerA [] s₁ H ⟨[.ref a], []⟩ [.ref a] [.ref a] _ _ rfl hr env (bind s₁ (.ref a)) (.cons rfl .nil) (hsp H only sq)
  refine codeAny_mono run fun res s2 z => ?_
  match res, z with
  | .error er, z => exact (noX H er s2 z).elim
  | .ok .next, z => exact z.elim
  | .ok .brk, z => exact z.elim
  | .ok .cont, z => exact z.elim
  | .ok (.ret u), ⟨v, H2, os, bare, un, hok2, rel, qv⟩ =>
    have ev : v = .bl true := qv
    subst ev
    have eu : u = Value.bool true := rel
    subst eu
    refine ⟨rfl, OldK.of_keep fun b o e => ?_, os, bare⟩
    cases q : H b with
    | none => exact un.keep b o e q (none_in _) (none_in _)
    | some u =>
      rcases only b with y | ⟨ob, xs, y⟩
      · rw [q] at y; cases y
      · have first := (hok b _ y).1
        have second := (hok2 b _ (un.frzs b ob _ y)).1
        rw [e] at first
        rw [Option.some.inj first]
        exact second
theorem walkG {l : PySem.W.OpenLaw} {k : Nat} {q : Program} {loose : List Str} {XP : (Str → Option Value) → Heap → Prop} {YP : World → Heap → Prop} {d : DefRec} {K : Params → PySem.W.Frag} {x : Str} {sp : World → Sp} (hn : l.most = some 63) (hdf : d.params.defaults = []) (hr : Room k callerA) (hY : ∀ (w : World) (h : Heap), YP w h → (K w.params).In h)
    (F : ∀ (w : World) (mg : Str → Option Value) (fa : Addr) (h : Heap), (K w.params).In h → h.Ns mainGlobals mg → mg d.name = some (.ref fa) →
      ∃ fd : FuncData, (∀ (s : Shared) (u : Value), BindsTo s fd ⟨[u], []⟩ [(x, u)]) ∧ ∀ base : Heap, (K w.params).In base → base.Ns mainGlobals mg → FnG l.prog w (K w.params) mg base k fa fd [x] (sp w))
    (hsp : ∀ (w : World) (H : Hp) (a : Addr) (ns : List Int), ns.length ≤ 63 → Only H → SqL (K w.params) H a (ns.map V.int) → sp w [.ref a] H (fun v _ => v = .bl true) fun _ _ _ => False) :
    PySem.W.WalkO q loose XP YP l.row.toRowW d [] (fun f vs => PySem.call f vs) :=
  Att.attach_call hn hdf fun w s₀ s₁ mg mb fa o pm cd doc a vs ns G Y ho hd hcd hmg hobj hints hlen hgen => by
    have kin := hY w s₁.heap Y
    obtain ⟨fd, bind, fns⟩ := F w mg fa s₁.heap kin G.T.g hmg
    refine lawG kin G.T.g G.T.b G.T.builtins G.T.nolimit hgen hobj hints (Nat.le_trans hlen (by decide)) hr fns bind (fun H only sq => hsp w H a ns hlen only sq) fun H e s' z => ?_
    obtain ⟨_, _, _, _, _, _, _, _, _, _, _, _, z⟩ := z
    exact z
end TV
set_option Elab.async false
set_option linter.all false
set_option maxRecDepth 100000
set_option maxHeartbeats 4000000
namespace TV
open PySem PySem.Spec PyProof.Rows L2
section
variable {X : Cx} {W : WX} {B : Bs} {σ : L2.St} {δ : Sl} {ts : List (V × T)} {H : Hp} {a b c e : Expr} {es : List Expr} {f fa fb fc : ES} {g : AS} {pos : Pos}
def aNil : AS := fun δ => .ok [] δ
def aVal (f : ES) (g : AS) : AS := fun δ => (f δ).bind fun t δ => (g δ).bind fun as δ => .ok (.val t :: as) δ
/-- for a call: frozen, or seen for now -/
def T.nrm (t : T) : T := if t.noLn = true then t.frz else t.loan
def aArg (f : ES) (g : AS) : AS := fun δ => (f δ).bind fun t δ => (g δ).bind fun as δ => .ok (.val t.nrm :: as) δ
def aRef (i : Nat) (g : AS) : AS := fun δ => match δ[i]? with
  | some (.hid _ _) => (g δ).bind fun as δ => .ok (.ref i :: as) δ
  | _ => .bad
theorem da_nil : DA X W [] aNil := pa_nil.imp fun σ H Q ⟨B, δ, ts, S, h⟩ => h [] H S trivial id
theorem da_val (ha : DE X W e f) (hr : DA X W es g) (hs : starEach (e :: es) X.env = (false, eval e X.env) :: starEach es X.env := by rfl) : DA X W (e :: es) (aVal f g) :=
  (pa_cons ha hr hs).imp fun σ H Q ⟨B, δ, ts, S, h⟩ => ⟨B, δ, ts, S, h.bind.mono fun t δ1 h1 v H1 S1 n1 =>
    ⟨B, δ1, (v, t) :: ts, S1, h1.bind.lift n1 (fun _ _ => Stt.drop) fun as δ2 h2 vs H2 S2 k2 n2 => h2 (v :: vs) H2 S2 k2 fun z => n2 (n1 z)⟩⟩
theorem Stt.nrm {v : V} {t : T} {K : PySem.W.Frag} (S : Stt K B σ H δ ((v, t) :: ts)) : Stt K B σ H δ ((v, t.nrm) :: ts) := by
  unfold T.nrm
  by_cases hn : t.noLn = true
  · rw [if_pos hn]; exact S.frzT hn
  · rw [if_neg hn]
    exact S.conv fun F G as fg _ _ r => by
      cases r with
      | cons h1 r => exact ⟨_, .cons (.lon (h1.loan fg)) r, fun a => by simp only [List.count_append, List.nil_append]; omega⟩
theorem da_arg (ha : DE X W e f) (hr : DA X W es g) (hs : starEach (e :: es) X.env = (false, eval e X.env) :: starEach es X.env := by rfl) : DA X W (e :: es) (aArg f g) :=
  (pa_cons ha hr hs).imp fun σ H Q ⟨B, δ, ts, S, h⟩ => ⟨B, δ, ts, S, h.bind.mono fun t δ1 h1 v H1 S1 n1 =>
    ⟨B, δ1, (v, t.nrm) :: ts, S1.nrm, h1.bind.lift n1 (fun _ _ => Stt.drop) fun as δ2 h2 vs H2 S2 k2 n2 => h2 (v :: vs) H2 S2 k2 fun z => n2 (n1 z)⟩⟩
theorem da_ref {i : Nat} {x : Str} {pos : Pos} (hr : DA X W es g) (hN : X.N[i]? = some x := by rfl) (hv : Vis X.env.scope x := by first | exact Or.inl rfl | exact Or.inr (Or.inl rfl) | exact Or.inr (Or.inr rfl)) (hd : (x == ("__debug__" : Str)) = false := by decide)
    (hcd : (x == ("__classdict__" : Str)) = false := by decide) (hs : starEach (Expr.Name x pos :: es) X.env = (false, eval (Expr.Name x pos) X.env) :: starEach es X.env := by rfl) : DA X W (.Name x pos :: es) (aRef i g) := by
  refine (pa_cons (pe_var hN hv hd hcd) hr hs).imp fun σ H Q ⟨B, δ, ts, S, h⟩ => ?_
  unfold aRef at h
  cases e : δ[i]? with
  | none => rw [e] at h; exact h.elim
  | some s =>
    rw [e] at h
    cases s with
    | un => exact h.elim
    | vis p t => exact h.elim
    | hid p t =>
      obtain ⟨v, ev⟩ : ∃ v, σ[i]? = some (some v) := by
        obtain ⟨F, G, av, ah, at_, I⟩ := S
        obtain ⟨v, as, rest, e1, _⟩ := I.sl.hid_at e
        exact ⟨v, e1⟩
      exact ⟨v, ev, B, δ, ts, S, h.bind.mono fun as δ2 h2 vs H2 S2 k2 n2 => h2 (v :: vs) H2 S2 ⟨ev, k2⟩ n2⟩
def valsOf : List Ar → Option (List T)
  | [] => some []
  | .val t :: r => (valsOf r).map fun xs => t :: xs
  | .ref _ :: _ => none
theorem RTs.pushed {K : PySem.W.Frag} {F G : Hp} : ∀ {as : List Ar} {vs : List V} {ts : List (V × T)} {xs : List T} {c : List Addr}, valsOf as = some xs → as.length = vs.length → RTs K F G (pushA as vs ts) c →
    ∃ a1 a2, RepL K F G xs vs a1 ∧ RTs K F G ts a2 ∧ ∀ x, a1.count x + a2.count x ≤ c.count x := by
  intro as
  induction as with
  | nil =>
    intro vs ts xs c e l r
    cases vs with
    | nil => cases e; exact ⟨[], c, .nil, r, fun x => by simp⟩
    | cons v vs => cases l
  | cons a as ih =>
    intro vs ts xs c e l r
    cases vs with
    | nil => cases l
    | cons v vs =>
      cases a with
      | ref i => cases e
      | val t =>
        have e : (valsOf as).map (fun xs => t :: xs) = some xs := e
        cases e2 : valsOf as with
        | none => rw [e2] at e; cases e
        | some ys =>
          rw [e2] at e
          obtain rfl : t :: ys = xs := Option.some.inj e
          obtain ⟨a1, a2, r1, r2, c1⟩ := ih (ts := (v, t) :: ts) e2 (by simpa using l) r
          cases r2 with
          | cons h r2 => exact ⟨_, _, .cons h r1, r2, fun x => by have := c1 x; simp only [List.count_append] at this ⊢; omega⟩
theorem ArOk.len {σ : L2.St} : ∀ {as : List Ar} {vs : List V}, ArOk σ as vs → as.length = vs.length := by
  intro as
  induction as with
  | nil => intro vs k; cases vs with
    | nil => rfl
    | cons v vs => exact k.elim
  | cons a as ih => intro vs k; cases vs with
    | nil => cases a <;> exact k.elim
    | cons v vs => cases a with
      | val t => exact congrArg (· + 1) (ih (vs := vs) k)
      | ref i => exact congrArg (· + 1) (ih (vs := vs) k.2)
def dispT (k : Kd) (as : List Ar) (δ : Sl) : R Sl T := match valsOf as with
  | some xs => if xs.length ≤ sizeLine then .ok (mkN k xs) δ else .bad
  | none => .bad
def eLst (g : AS) : ES := fun δ => (g δ).bind fun as δ => dispT .lst as δ
def eTup (g : AS) : ES := fun δ => (g δ).bind fun as δ => dispT .tup as δ
theorem valsOf_len : ∀ {as : List Ar} {xs : List T}, valsOf as = some xs → xs.length = as.length := by
  intro as
  induction as with
  | nil => intro xs e; cases e; rfl
  | cons a as ih => intro xs e; cases a with
    | ref i => cases e
    | val t =>
      have e : (valsOf as).map (fun xs => t :: xs) = some xs := e
      cases e2 : valsOf as with
      | none => rw [e2] at e; cases e
      | some ys => rw [e2] at e; obtain rfl : t :: ys = xs := Option.some.inj e; exact congrArg (· + 1) (ih e2)
theorem disp_core {as : List Ar} {k : Kd} (htg : k.tg = false) (hk : ∀ n, k.fit n) {vs : List V} {Q : VK} {P : T → Sl → Prop} (S : Stt X.K B σ H δ (pushA as vs ts)) (ok : ArOk σ as vs) (h : Aft X W B σ δ ts (dispT k as δ) P)
    (hp : ∀ t, P t δ → ∀ v H', Stt X.K B σ H' δ ((v, t) :: ts) → Q v H') : vs.length ≤ sizeLine ∧ ∀ p, H p = none → Q (.ref p) (upd H p (k.ho vs)) := by
  unfold dispT at h
  cases e : valsOf as with
  | none => rw [e] at h; exact h.elim
  | some xs =>
    rw [e] at h
    dsimp only at h
    have l1 := valsOf_len e
    have l2 := ok.len
    by_cases hz : xs.length ≤ sizeLine
    · rw [if_pos hz] at h
      exact ⟨by rw [← l2, ← l1]; exact hz, fun p hn => hp _ h _ _ (S.alloc hn (hk _) (fun F G c fg gh r => r.pushed e l2) htg)⟩
    · rw [if_neg hz] at h; exact h.elim
theorem de_lst (h : DA X W es g) : DE X W (.List es pos) (eLst g) :=
  (pe_lst h).imp fun σ H Q ⟨B, δ, ts, S, h⟩ => ⟨B, δ, ts, S, h.bind.mono fun as δ1 h1 vs H1 S1 k1 n1 => disp_core (k := .lst) rfl (fun _ => trivial) S1 k1 (h1.lift n1 (fun _ _ => id) fun _ _ => id) fun t p v H' S' => p v H' S' n1⟩
theorem de_tup {x1} (h : DA X W es g) : DE X W (.Tuple es x1 pos) (eTup g) :=
  (pe_tup h).imp fun σ H Q ⟨B, δ, ts, S, h⟩ => ⟨B, δ, ts, S, h.bind.mono fun as δ1 h1 vs H1 S1 k1 n1 => disp_core (k := .tup) rfl (fun _ => trivial) S1 k1 (h1.lift n1 (fun _ _ => id) fun _ _ => id) fun t p v H' S' => p v H' S' n1⟩
/-- the masks of the arguments: which are handed on to be changed -/
def masked (ms : List Bool) (as : List Ar) : Bool := decide (as.map Ar.isRef = ms)
def callM (ms : List Bool) (m : Fn) (as : List Ar) (δ : Sl) : R Sl T := if masked ms as = true then callS m as δ else .bad
def eCallM (ms : List Bool) (m : Fn) (g : AS) : ES := fun δ => (g δ).bind fun as δ => callM ms m as δ
theorem call_core {ms : List Bool} {m : Fn} {as : List Ar} {vs : List V} {Q : VK} {δ0 : Sl} {P : T → Sl → Prop} (S : Stt X.K B σ H δ (pushA as vs ts)) (ok : ArOk σ as vs) (n : NoLn δ0 → NoLn δ) (h : Aft X W B σ δ0 ts (callM ms m as δ) P)
    (hp : ∀ t δ', P t δ' → ∀ v H', Stt X.K B σ H' δ' ((v, t) :: ts) → (NoLn δ0 → NoLn δ') → Q v H') : spOf X.K X.mg ms m vs H Q (WE W σ) := by
  unfold callM at h
  by_cases hm : masked ms as = true
  · rw [if_pos hm] at h
    have em : as.map Ar.isRef = ms := of_decide_eq_true hm
    rw [← em]
    refine S.call ok ?_
    cases e : callS m as δ with
    | ok t δ' => rw [e] at h; exact fun v H' S' n' => hp t δ' h v H' S' fun z => n' (n z)
    | exc x δ' => rw [e] at h; exact fun H' S' n' => h H' S' (fun z => n' (n z))
    | bad => rw [e] at h; exact h
  · rw [if_neg hm] at h; exact h.elim
theorem de_call {k : Nat} {fA : Addr} {fd : FuncData} {ps : List Str} {ms : List Bool} {m : Fn} {x : Str} {p : Pos} (tk : Takes X W) (F : FnG X.prog X.w X.K X.mg X.base k fA fd ps (spOf X.K X.mg ms m)) (gd : X.A.guards = some []) (hr : Room k X.A) (hg : Gl X x) (hm : X.mg x = some (.ref fA))
    (hk : PySem.W.keepIn X.K (.ref fA) = true) (hb : Binds X.K fd ps []) (ha : DA X W (e :: es) g) (hdb : (x == ("__debug__" : Str)) = false := by decide) (he : starEach (e :: es) X.env = (false, eval e X.env) :: starEach es X.env := by rfl)
    (hpl : (backTo pos (starEach es X.env)).any (·.1) = false := by rfl) : DE X W (.Call (.Name x p) (e :: es) [] pos) (eCallM ms m g) :=
  (pe_callG F gd hr hg hm hk hb (passAt tk) ha hdb he hpl).imp fun σ H Q ⟨B, δ, ts, S, h⟩ => ⟨B, δ, ts, S, h.bind.mono fun as δ1 h1 vs H1 S1 k1 n1 => call_core S1 k1 n1 h1 fun t δ' p v H' S' n' => p v H' S' n'⟩
def CallV (X : Cx) (r : List V → Hp → VK → Prop) (g : List T → Option T) : Prop := ∀ B σ H δ ts (as : List Ar) (vs : List V) xs t (Q : VK), valsOf as = some xs → as.length = vs.length → g xs = some t → Stt X.K B σ H δ (pushA as vs ts) → (∀ v' H', Stt X.K B σ H' δ ((v', t) :: ts) → Q v' H') → r vs H Q
def bltS (g : List T → Option T) (as : List Ar) (δ : Sl) : R Sl T := match valsOf as with
  | some xs => opt (g xs) δ
  | none => .bad
def eBlt (g : List T → Option T) (f : AS) : ES := fun δ => (f δ).bind fun as δ => bltS g as δ
theorem blt_core {r : List V → Hp → VK → Prop} {g : List T → Option T} (hv : CallV X r g) {as : List Ar} {vs : List V} {Q : VK} {δ0 : Sl} {P : T → Sl → Prop} (S : Stt X.K B σ H δ (pushA as vs ts)) (ok : ArOk σ as vs) (h : Aft X W B σ δ0 ts (bltS g as δ) P)
    (hp : ∀ t, P t δ → ∀ v H', Stt X.K B σ H' δ ((v, t) :: ts) → Q v H') : r vs H Q := by
  unfold bltS at h
  cases e : valsOf as with
  | none => rw [e] at h; exact h.elim
  | some xs =>
    rw [e] at h
    dsimp only at h
    cases e2 : g xs with
    | none => rw [e2] at h; exact h.elim
    | some t => rw [e2] at h; exact hv B σ H δ ts as vs xs t Q e ok.len e2 S fun v' H' S' => hp t h v' H' S'
theorem de_callB {r : List V → Hp → VK → Prop} {gg : List T → Option T} {id : String} {x : Str} {p : Pos} (hc : CallR X (.builtin id) r) (hv : CallV X r gg) (hg : Gl X x) (hm : X.mg x = none) (hb : bootBuiltins x = some (.builtin id)) (ha : DA X W (e :: es) g)
    (hn : x ≠ "__name__" := by decide) (hdb : (x == ("__debug__" : Str)) = false := by decide) (he : starEach (e :: es) X.env = (false, eval e X.env) :: starEach es X.env := by rfl) (hpl : (backTo pos (starEach es X.env)).any (·.1) = false := by rfl) :
    DE X W (.Call (.Name x p) (e :: es) [] pos) (eBlt gg g) :=
  (pe_callB hc hg hm hb ha hn hdb he hpl).imp fun σ H Q ⟨B, δ, ts, S, h⟩ => ⟨B, δ, ts, S, h.bind.mono fun as δ1 h1 vs H1 S1 k1 n1 => blt_core hv S1 k1 h1 fun t p v H' S' => p v H' S' n1⟩
theorem de_callTy {r : List V → Hp → VK → Prop} {gg : List T → Option T} {TT : String} {x : Str} {p : Pos} (hc : CallR X (.type TT) r) (hv : CallV X r gg) (hg : Gl X x) (hm : X.mg x = none) (hb : bootBuiltins x = some (.type TT)) (ha : DA X W (e :: es) g)
    (hn : x ≠ "__name__" := by decide) (hdb : (x == ("__debug__" : Str)) = false := by decide) (he : starEach (e :: es) X.env = (false, eval e X.env) :: starEach es X.env := by rfl) (hpl : (backTo pos (starEach es X.env)).any (·.1) = false := by rfl) :
    DE X W (.Call (.Name x p) (e :: es) [] pos) (eBlt gg g) :=
  (pe_callTy hc hg hm hb ha hn hdb he hpl).imp fun σ H Q ⟨B, δ, ts, S, h⟩ => ⟨B, δ, ts, S, h.bind.mono fun as δ1 h1 vs H1 S1 k1 n1 => blt_core hv S1 k1 h1 fun t p v H' S' => p v H' S' n1⟩
def gIxL (x y : T) : Option T := match x, y with
  | .nd _ .lst xs, .int i => atI xs i
  | .nd _ .lsg xs, .int i => atI xs i
  | _, _ => none
def gIxT (x y : T) : Option T := match x, y with
  | .nd _ .tup xs, .int i => atI xs i
  | .nd _ .tpg xs, .int i => atI xs i
  | _, _ => none
def gIxS (x y : T) : Option T := match x, y with
  | .str z, .int i => if z.length ≤ sizeLine then (atI z.cps.toList i).map fun c => .str ⟨#[c]⟩ else none
  | _, _ => none
theorem atI_both {K : PySem.W.Frag} {F G : Hp} {xs : List T} {vs : List V} {as : List Addr} {i : Int} {t : T} (r : RepL K F G xs vs as) (h : atI xs i = some t) : ∃ v as1, atI vs i = some v ∧ Rep K F G t v as1 ∧ ∀ c, as1.count c ≤ as.count c := by
  unfold atI at h ⊢
  rw [← r.length]
  cases e : ixN xs.length i with
  | none => rw [e] at h; cases h
  | some j =>
    rw [e] at h
    have h : xs[j]? = some t := h
    obtain ⟨v, as1, as0, e1, h1, c, _⟩ := r.at_place h
    exact ⟨v, as1, e1, h1, fun a => by rw [c]; omega⟩
theorem SttI.re {K : PySem.W.Frag} {F G : Hp} {av ah at_ at' : List Addr} {ts' : List (V × T)} (I : SttI K B σ H δ ts F G av ah at_) (r : RTs K F G ts' at') (c : ∀ a, at'.count a ≤ at_.count a) : Stt K B σ H δ ts' :=
  ⟨F, G, av, ah, at', I.fb, I.fg, I.gh, I.sl, r, fun a => by have := c a; have := I.nd a; omega, fun a h => I.fo a (by have := c a; omega), I.hg, I.fr, fun a h => I.nw a (by have := c a; omega), I.nf, I.pn, I.gx, I.ba, I.im⟩
theorem Stt.item {K : PySem.W.Frag} {v w : V} {fl : Fg} {k : Kd} {xs : List T} {u t : T} {i : Int} (S : Stt K B σ H δ ((w, u) :: (v, .nd fl k xs) :: ts)) (h : atI xs i = some t) :
    ∃ a vs x, v = .ref a ∧ Stands K H a k vs ∧ atI vs i = some x ∧ Stt K B σ H δ ((x, t) :: ts) := by
  obtain ⟨F, G, av, ah, at_, I⟩ := S
  have tm := I.tm
  cases tm with
  | cons h2 r => cases r with
    | cons h1 r =>
      obtain ⟨a, vs, as', e1, st, rl, c1⟩ := h1.node I.fg
      obtain ⟨x, as3, e2, hx, c3⟩ := atI_both rl h
      exact ⟨a, vs, x, e1, st.mono I.gh, e2, I.re (.cons hx r) fun b => by have := c1 b; have := c3 b; simp only [List.count_append]; omega⟩
theorem ov_ixL : OpV X (rIxL X.K) gIxL := by
  intro B σ H δ ts v w tx ty t Q e S h
  unfold gIxL at e
  split at e
  · obtain ⟨a, vs, x, rfl, st, ex, S'⟩ := S.item e
    exact ⟨a, vs, _, x, rfl, S.eq_int, SqL.of st, ex, h _ H S'⟩
  · obtain ⟨a, vs, x, rfl, st, ex, S'⟩ := S.item e
    exact ⟨a, vs, _, x, rfl, S.eq_int, st, ex, h _ H S'⟩
  · cases e
theorem ov_ixT : OpV X (rIxT X.K) gIxT := by
  intro B σ H δ ts v w tx ty t Q e S h
  unfold gIxT at e
  split at e
  · obtain ⟨a, vs, x, rfl, st, ex, S'⟩ := S.item e
    exact ⟨a, vs, _, x, rfl, S.eq_int, SqT.of st, ex, h _ H S'⟩
  · obtain ⟨a, vs, x, rfl, st, ex, S'⟩ := S.item e
    exact ⟨a, vs, _, x, rfl, S.eq_int, st, ex, h _ H S'⟩
  · cases e
theorem ov_ixS : OpV X rIxS gIxS := by
  intro B σ H δ ts v w tx ty t Q e S h
  unfold gIxS at e
  split at e
  · rename_i z i
    by_cases hz : z.length ≤ sizeLine
    · rw [if_pos hz] at e
      cases e2 : atI z.cps.toList i with
      | none => rw [e2] at e; cases e
      | some c =>
        rw [e2] at e
        cases e
        exact ⟨z, i, c, S.drop.eq_str, S.eq_int, hz, e2, h _ H (S.drop.drop.pushS rfl)⟩
    · rw [if_neg hz] at e; cases e
  · cases e
theorem de_ix {r : R2} {g : T → T → Option T} (hi : IxR X r) (hg : OpV X r g) (ha : DE X W a fa) (hb : DE X W b fb) (hs : PlainIx b := by exact fun _ _ => rfl) : DE X W (.Subscript a b pos) (eBin g fa fb) :=
  (pe_ix hi ha hb hs).imp fun σ H Q ⟨B, δ, ts, S, h⟩ => bin_core hg S h
theorem OpV.or {r r' : R2} {g g' : T → T → Option T} (h : OpV X r g) (h' : OpV X r' g') : OpV X (fun x y H Q => r x y H Q ∨ r' x y H Q) (fun x y => (g x y).or (g' x y)) := by
  intro B σ H δ ts v w tx ty t Q e S hh
  have e : (g tx ty).or (g' tx ty) = some t := e
  cases e1 : g tx ty with
  | some t1 =>
    rw [e1] at e
    obtain rfl : t1 = t := Option.some.inj e
    exact .inl (h B σ H δ ts v w tx ty t1 Q e1 S hh)
  | none => rw [e1] at e; exact .inr (h' B σ H δ ts v w tx ty t Q e S hh)
def gIx (x y : T) : Option T := (gIxL x y).or ((gIxT x y).or (gIxS x y))
theorem de_sub_ix (ha : DE X W a fa) (hb : DE X W b fb) (hs : PlainIx b := by exact fun _ _ => rfl) : DE X W (.Subscript a b pos) (eBin gIx fa fb) :=
  de_ix ix_seq (ov_ixL.or (ov_ixT.or ov_ixS)) ha hb hs
end
end TV
set_option Elab.async false
set_option linter.all false
set_option maxRecDepth 100000
set_option maxHeartbeats 4000000
namespace TV
open PySem PySem.Spec PyProof.Rows L2
section
variable (X : Cx) (W : WX)
def AftS (B : Bs) (ts : List (V × T)) (r : R Sl Flw) (D : Ends) : Prop := match r with
  | .ok .next δ' => ∀ σ' H', Stt X.K B σ' H' δ' ts → NoLn δ' → D.nx σ' H'
  | .ok (.ret t) δ' => ∀ v σ' H', Stt X.K B σ' H' δ' ((v, t) :: ts) → t.noLn = true → NoLn δ' → D.rt v H'
  | .ok .brk δ' => ∀ σ' H', Stt X.K B σ' H' δ' ts → NoLn δ' → D.bk σ' H'
  | .ok .cont δ' => ∀ σ' H', Stt X.K B σ' H' δ' ts → NoLn δ' → D.ct σ' H'
  | .exc x δ' => ∀ σ' H', Stt X.K B σ' H' δ' ts → NoLn δ' → Rz X.mg x H' fun cls d H2 => W cls d σ' H2
  | .bad => False
def tS (g : SS) : TS := fun D σ H => ∃ B δ ts, Stt X.K B σ H δ ts ∧ NoLn δ ∧ NoLnT ts ∧ AftS X W B ts (g δ) D
def DS (st : Stmt) (g : SS) : Prop := PS X st (tS X W g)
def DSs (st : List Stmt) (g : SS) : Prop := PSs X st (tS X W g)
/-- a target -/
abbrev GS := T → Sl → R Sl Unit
def tG (vs : List Nat) (gs : GS) : TG := fun v σ H Q => ∃ B δ ts t, Stt X.K B σ H δ ((v, t) :: ts) ∧ match gs t δ with
  | .ok _ δ' => ∀ σ' H', Stt X.K B σ' H' δ' ts → wipe σ' vs = wipe σ vs → (NoLn δ → t.noLn = true → NoLn δ') → Q σ' H'
  | _ => False
/-- a target: it stores to the slots vs alone -/
def DG (tg : Expr) (vs : List Nat) (gs : GS) : Prop := PG X tg (tG X vs gs)
end
section
variable {X : Cx} {W : WX} {B : Bs} {σ : L2.St} {δ δ0 δ1 : Sl} {ts ts1 : List (V × T)} {H : Hp} {a b c e : Expr} {es : List Expr} {f fa fb fc : ES} {g g1 g2 : SS} {pos : Pos} {D D' : Ends} {st : Stmt} {sts : List Stmt}
theorem _root_.L2.PS.imp {e : Stmt} {t t' : TS} (h : PS X e t) (hh : ∀ D σ H, t' D σ H → t D σ H) : PS X e t' := ⟨fun pins s σ H D I q => h.run pins s σ H D I (hh D σ H q)⟩
theorem _root_.L2.PSs.imp {e : List Stmt} {t t' : TS} (h : PSs X e t) (hh : ∀ D σ H, t' D σ H → t D σ H) : PSs X e t' := ⟨fun pins s σ H D I q => h.run pins s σ H D I (hh D σ H q)⟩
theorem _root_.L2.PG.imp {e : Expr} {t t' : TG} (h : PG X e t) (hh : ∀ v σ H Q, t' v σ H Q → t v σ H Q) : PG X e t' := ⟨fun pins s σ H v u Q I r q => h.run pins s σ H v u Q I r (hh v σ H Q q)⟩
/-- from a statement's wish to the wish of an expression in it -/
theorem AftS.expr {α : Type} {r : R Sl α} {k : α → Sl → R Sl Flw} (n : NoLn δ) (h : AftS X W B ts (r.bind k) D) : Aft X W B σ δ ts r fun x δ1 => AftS X W B ts (k x δ1) D := by
  cases r with
  | ok x s => exact h
  | exc x s => exact fun H' S' n' => h σ H' S' (n' n)
  | bad => exact h
def sNil : SS := fun δ => .ok .next δ
def sSeq (g1 g2 : SS) : SS := fun δ => (g1 δ).bind fun fl δ => match fl with
  | .next => g2 δ
  | .ret t => .ok (.ret t) δ
  | .brk => .ok .brk δ
  | .cont => .ok .cont δ
theorem dss_nil : DSs X W [] sNil := pss_nil.imp fun D σ H ⟨B, δ, ts, S, n, nt, h⟩ => h σ H S n
theorem dss_one (h : DS X W st g) : DSs X W [st] g := pss_one h
theorem dss_cons (h1 : DS X W st g1) (h2 : DSs X W sts g2) : DSs X W (st :: sts) (sSeq g1 g2) := (pss_cons h1 h2).imp fun D σ H ⟨B, δ, ts, S, n, nt, h⟩ => by
  refine ⟨B, δ, ts, S, n, nt, ?_⟩
  unfold sSeq at h
  cases e : g1 δ with
  | bad => rw [e] at h; exact h.elim
  | exc x s => rw [e] at h; exact h
  | ok fl s =>
    rw [e] at h
    cases fl with
    | next => exact fun σ' H' S' n' => ⟨B, s, ts, S', n', nt, h⟩
    | ret t => exact h
    | brk => exact h
    | cont => exact h
theorem ds_never : DS X W st (fun _ => .bad) := ps_never.imp fun D σ H ⟨B, δ, ts, S, n, nt, h⟩ => h
def sBreak : SS := fun δ => .ok .brk δ
def sCont : SS := fun δ => .ok .cont δ
def sExpr (f : ES) : SS := fun δ => (f δ).bind fun _ δ => .ok .next δ
theorem ds_expr (he : DE X W e f) (hs : swapsWith e none pos.line X.env = pure false := by rfl) : DS X W (.Expr e pos) (sExpr f) :=
  (ps_expr he hs).imp fun D σ H ⟨B, δ, ts, S, n, nt, h⟩ => ⟨B, δ, ts, S, (h.expr n).mono fun t δ1 h1 v H1 S1 n1 => h1 σ H1 S1.drop (n1 n)⟩
def sRet (f : ES) : SS := fun δ => (f δ).bind fun t δ => if t.noLn = true then .ok (.ret t) δ else .bad
theorem ds_ret (he : DE X W e f) : DS X W (.Return (some e) pos) (sRet f) :=
  (ps_ret he).imp fun D σ H ⟨B, δ, ts, S, n, nt, h⟩ => ⟨B, δ, ts, S, (h.expr n).mono fun t δ1 h1 v H1 S1 n1 => by
    by_cases hn : t.noLn = true
    · rw [if_pos hn] at h1; exact h1 v σ H1 S1 hn (n1 n)
    · rw [if_neg hn] at h1; exact h1.elim⟩
def sRetN : SS := fun δ => .ok (.ret .non) δ
def sIf (c : Sl → R Sl Bool) (g1 g2 : SS) : SS := fun δ => (c δ).bind fun b δ => if b = true then g1 δ else g2 δ
theorem ds_if {c : Expr} {x y : List Stmt} {fc : Sl → R Sl Bool} (hc : DT X W c fc) (ha : DSs X W x g1) (hb : DSs X W y g2) : DS X W (.If c x y pos) (sIf fc g1 g2) :=
  (ps_if hc ha hb).imp fun D σ H ⟨B, δ, ts, S, n, nt, h⟩ => ⟨B, δ, ts, S, (h.expr n).mono fun b δ1 h1 H1 S1 n1 => by
    cases b with
    | true => rw [if_pos rfl] at h1 ⊢; exact ⟨B, δ1, ts, S1, n1 n, nt, h1⟩
    | false => rw [if_neg Bool.false_ne_true] at h1 ⊢; exact ⟨B, δ1, ts, S1, n1 n, nt, h1⟩⟩
def stoS (fz : Bool) (i : Nat) (t : T) (δ : Sl) : R Sl Unit := match δ[i]? with
  | some s => if s.pin = true then .bad else if t.noLn = true then .ok () (δ.set i (.vis false (if fz = true then t.frz else t))) else .bad
  | none => .bad
def sSet (fz : Bool) (i : Nat) (f : ES) : SS := fun δ => (f δ).bind fun t δ => (stoS fz i t δ).bind fun _ δ => .ok .next δ
theorem Stt.sto {fz : Bool} {i : Nat} {t : T} {v : V} {δ' : Sl} {K : PySem.W.Frag} (S : Stt K B σ H δ ((v, t) :: ts)) (n : NoLn δ) (e : stoS fz i t δ = .ok () δ') : Stt K B (σ.set i (some v)) H δ' ts ∧ NoLn δ' := by
  unfold stoS at e
  cases e1 : δ[i]? with
  | none => rw [e1] at e; cases e
  | some s =>
    rw [e1] at e
    dsimp only at e
    by_cases hp : s.pin = true
    · rw [if_pos hp] at e; cases e
    · rw [if_neg hp] at e
      by_cases hn : t.noLn = true
      · rw [if_pos hn] at e
        cases e
        have hp : s.pin = false := by simpa using hp
        cases fz with
        | true => exact ⟨(S.frzT hn).store e1 hp, n.set t.frz_noLn⟩
        | false => exact ⟨S.store e1 hp, n.set hn⟩
      · rw [if_neg hn] at e; cases e
theorem ds_set {fz : Bool} {i : Nat} {x : Str} {pos' : Pos} (hN : X.N.Nodup) (he : DE X W e f) (hi : X.N[i]? = some x := by rfl) (hx : Loc X.env.scope x := by first | exact Or.inl rfl | exact Or.inr rfl) (hs : swapsWith e (some (.Name x pos')) pos.line X.env = pure false := by rfl)
    (hf : X.fn x = true ∨ X.env.scope.names.lookup x = some .local := by first | exact .inl rfl | exact .inr rfl) : DS X W (.Assign [.Name x pos'] e pos) (sSet fz i f) :=
  (ps_set hN hi hx he hs hf).imp fun D σ H ⟨B, δ, ts, S, n, nt, h⟩ => ⟨B, δ, ts, S, (h.expr n).mono fun t δ1 h1 v H1 S1 n1 => by
    cases e1 : stoS fz i t δ1 with
    | ok u δ2 =>
      rw [e1] at h1
      obtain ⟨S2, n2⟩ := S1.sto (n1 n) e1
      exact h1 _ H1 S2 n2
    | exc x s => unfold stoS at e1; split at e1 <;> first | (split at e1 <;> first | cases e1 | (split at e1 <;> cases e1)) | cases e1
    | bad => rw [e1] at h1; exact h1.elim⟩
def gN (i : Nat) : GS := fun t δ => match δ[i]? with
  | some s => if s.pin = true then .bad else .ok () (δ.set i (.vis false t))
  | none => .bad
theorem wipe_set {σ : L2.St} {i : Nat} {o : Option V} : ∀ {vs : List Nat}, i ∈ vs → wipe (σ.set i o) vs = wipe σ vs
  | [], h => nomatch h
  | v :: vs, h => by
    show (wipe (σ.set i o) vs).set v none = (wipe σ vs).set v none
    by_cases hm : i ∈ vs
    · rw [wipe_set hm]
    · have e : i = v := (List.mem_cons.mp h).resolve_right hm
      subst e
      have out : ∀ {vs : List Nat}, i ∉ vs → wipe (σ.set i o) vs = (wipe σ vs).set i o := by
        intro vs hv
        induction vs with
        | nil => rfl
        | cons w ws ih =>
          have h1 : i ≠ w := fun z => hv (by rw [z]; exact List.mem_cons_self)
          show (wipe (σ.set i o) ws).set w none = ((wipe σ ws).set w none).set i o
          rw [ih fun z => hv (List.mem_cons_of_mem _ z), List.set_comm _ _ h1]
      rw [out hm, List.set_set]
theorem dg_name {i : Nat} {vs : List Nat} {x : Str} (hN : X.N.Nodup) (hi : X.N[i]? = some x := by rfl) (hx : Loc X.env.scope x := by first | exact Or.inl rfl | exact Or.inr rfl) (hf : X.fn x = true ∨ X.env.scope.names.lookup x = some .local := by first | exact .inl rfl | exact .inr rfl) (hm : i ∈ vs := by decide) : DG X (.Name x pos) vs (gN i) :=
  (pg_name hN hi hx hf).imp fun v σ H Q ⟨B, δ, ts, t, S, h⟩ => by
    unfold gN at h
    cases e1 : δ[i]? with
    | none => rw [e1] at h; exact h.elim
    | some s =>
      rw [e1] at h
      dsimp only at h
      by_cases hp : s.pin = true
      · rw [if_pos hp] at h; exact h.elim
      · rw [if_neg hp] at h
        exact h _ H (S.store e1 (by simpa using hp)) (wipe_set hm) fun n n' => n.set n'
/-- several targets -/
abbrev GSs := List T → Sl → R Sl Unit
def tGs (X : Cx) (ws : List Nat) (gs : GSs) : TGs := fun vs σ H Q => ∃ B δ ts xs, vs.length = xs.length ∧ Stt X.K B σ H δ (vs.zip xs ++ ts) ∧ match gs xs δ with
  | .ok _ δ' => ∀ σ' H', Stt X.K B σ' H' δ' ts → wipe σ' ws = wipe σ ws → (NoLn δ → T.noLnL xs = true → NoLn δ') → Q σ' H'
  | _ => False
def DGs (X : Cx) (es : List Expr) (ws : List Nat) (gs : GSs) : Prop := PGs X es (tGs X ws gs)
def gNil : GSs := fun xs δ => match xs with
  | [] => .ok () δ
  | _ => .bad
def gCons (g : GS) (gs : GSs) : GSs := fun xs δ => match xs with
  | [] => .bad
  | x :: xs => (g x δ).bind fun _ δ => gs xs δ
theorem _root_.L2.PGs.imp {e : List Expr} {t t' : TGs} (h : PGs X e t) (hh : ∀ v σ H Q, t' v σ H Q → t v σ H Q) : PGs X e t' := ⟨fun pins s σ H v u Q I r q => h.run pins s σ H v u Q I r (hh v σ H Q q)⟩
theorem dgs_nil {ws : List Nat} : DGs X [] ws gNil := pgs_nil.imp fun vs σ H Q ⟨B, δ, ts, xs, l, S, h⟩ => by
  cases xs with
  | nil => cases vs with
    | nil => exact ⟨rfl, h σ H S rfl fun n _ => n⟩
    | cons v vs => cases l
  | cons x xs => exact h.elim
theorem dgs_cons {ws : List Nat} {gg : GS} {gs : GSs} (h1 : DG X e ws gg) (h2 : DGs X es ws gs) (hs : (assignEach (e :: es) X.env).map (·.2) = assign e X.env :: (assignEach es X.env).map (·.2) := by rfl) : DGs X (e :: es) ws (gCons gg gs) :=
  (pgs_cons h1 h2 hs).imp fun vs σ H Q ⟨B, δ, ts, xs, l, S, h⟩ => by
    cases xs with
    | nil => exact h.elim
    | cons x xs => cases vs with
      | nil => cases l
      | cons v vs =>
        unfold gCons at h
        dsimp only at h
        refine ⟨v, vs, rfl, B, δ, vs.zip xs ++ ts, x, S, ?_⟩
        cases e1 : gg x δ with
        | bad => rw [e1] at h; exact h.elim
        | exc y s => rw [e1] at h; exact h.elim
        | ok u δ1 =>
          rw [e1] at h
          refine fun σ1 H1 S1 w1 n1 => ⟨B, δ1, ts, xs, by simpa using l, S1, ?_⟩
          cases e2 : gs xs δ1 with
          | bad => rw [show R.bind (R.ok u δ1) _ = gs xs δ1 from rfl, e2] at h; exact h.elim
          | exc y s => rw [show R.bind (R.ok u δ1) _ = gs xs δ1 from rfl, e2] at h; exact h.elim
          | ok u2 δ2 =>
            rw [show R.bind (R.ok u δ1) _ = gs xs δ1 from rfl, e2] at h
            exact fun σ2 H2 S2 w2 n2 => h σ2 H2 S2 (w2.trans w1) fun n nl => by
              rw [T.noLnL, Bool.and_eq_true] at nl
              exact n2 (n1 n nl.1) nl.2
/-- a, b, .. = a tuple's items -/
def gTp (n : Nat) (gs : GSs) : GS := fun t δ => match t with
  | .nd _ .tup xs => if xs.length = n then gs xs δ else .bad
  | .nd _ .tpg xs => if xs.length = n then gs xs δ else .bad
  | _ => .bad
theorem T.noLn_kids {fl : Fg} {k : Kd} {xs : List T} {K : PySem.W.Frag} {F G : Hp} {v : V} {as : List Addr} (h : Rep K F G (.nd fl k xs) v as) (n : (T.nd fl k xs).noLn = true) : T.noLnL xs = true := by
  have fr : ∀ {xs : List T} {vs : List V}, FroL K F xs vs → T.noLnL xs = true := by
    intro xs vs h
    induction xs generalizing vs with
    | nil => rfl
    | cons x xs ih => cases h with
      | cons a b =>
        rw [T.noLnL, ih b]
        cases a <;> rfl
  cases h with
  | lon h => cases h with
    | fz h st => exact fr h
    | ln h st => cases n
  | ow h e f => exact T.nd_ow_noLn n
theorem RepL.zip {K : PySem.W.Frag} {F G : Hp} : ∀ {xs : List T} {vs : List V} {as : List Addr}, RepL K F G xs vs as → RTs K F G (vs.zip xs) as
  | _, _, _, .nil => .nil
  | _, _, _, .cons h r => .cons h (RepL.zip r)
theorem Stt.open_ {K : PySem.W.Frag} {fl : Fg} {k : Kd} {xs : List T} {v : V} (S : Stt K B σ H δ ((v, .nd fl k xs) :: ts)) : ∃ a vs, v = .ref a ∧ Stands K H a k vs ∧ vs.length = xs.length ∧ Stt K B σ H δ (vs.zip xs ++ ts) ∧ ((T.nd fl k xs).noLn = true → T.noLnL xs = true) := by
  obtain ⟨F, G, av, ah, at_, I⟩ := S
  have tm := I.tm
  cases tm with
  | cons h1 r =>
    obtain ⟨a, vs, as', e1, st, rl, c1⟩ := h1.node I.fg
    obtain ⟨as2, r2, c2⟩ := rl.zip.join r
    exact ⟨a, vs, e1, st.mono I.gh, rl.length.symm, I.re r2 fun b => by have := c1 b; have := c2 b; simp only [List.count_append]; omega, T.noLn_kids h1⟩
theorem dg_tup {k n : Nat} {ws : List Nat} {gs : GSs} (hc : X.calm = true) (h : DGs X es ws gs) (hn : (assignEach es X.env).length = n := by rfl) (hst : (assignEach es X.env).findIdx? (·.1) = none := by rfl) : DG X (.Tuple es k pos) ws (gTp n gs) :=
  (pg_tup hc h hn hst).imp fun v σ H Q ⟨B, δ, ts, t, S, h⟩ => by
    have core : ∀ {fl : Fg} {k : Kd} {xs : List T}, t = .nd fl k xs → (∀ a vs, Stands X.K H a k vs → SqT X.K H a vs) → gTp n gs t δ = (if xs.length = n then gs xs δ else .bad) → gTup X.K n (tGs X ws gs) v σ H Q := by
      intro fl k xs et hsq eg
      subst et
      rw [eg] at h
      by_cases hl : xs.length = n
      · rw [if_pos hl] at h
        obtain ⟨a, vs, rfl, st, l, S', nn⟩ := S.open_
        refine ⟨a, vs, rfl, hsq _ _ st, l.trans hl, B, δ, ts, xs, l, S', ?_⟩
        cases e2 : gs xs δ with
        | bad => rw [e2] at h; exact h.elim
        | exc y s => rw [e2] at h; exact h.elim
        | ok u δ1 => rw [e2] at h; exact fun σ' H' S'' w' n' => h σ' H' S'' w' fun m n2 => n' m (nn n2)
      · rw [if_neg hl] at h; exact h.elim
    cases t with
    | nd fl k xs =>
      cases k with
      | tup => exact core rfl (fun a vs st => SqT.of st) rfl
      | tpg => exact core rfl (fun a vs st => st) rfl
      | _ => exact h.elim
    | _ => exact h.elim
/-- target = value -/
def gNext (r : R Sl Unit) : R Sl Flw := match r with
  | .ok _ δ => .ok .next δ
  | _ => .bad
def sAsg (gs : GS) (f : ES) : SS := fun δ => (f δ).bind fun t δ => if t.noLn = true then gNext (gs t δ) else .bad
end
end TV
set_option Elab.async false
set_option linter.all false
set_option maxRecDepth 100000
set_option maxHeartbeats 4000000
namespace TV
open PySem PySem.Spec PyProof.Rows L2
section
variable {X : Cx} {W : WX} {B : Bs} {σ : L2.St} {δ δ0 δ1 : Sl} {ts ts1 : List (V × T)} {H : Hp} {a b c e base idx : Expr} {es : List Expr} {f fa fb fc fi : ES} {pos pos' cpos apos : Pos} {D D' : Ends} {i : Nat} {x : Str}
theorem ho_inj {H : Hp} {a : Addr} {k k' : Kd} {vs vs' : List V} (h : H a = some (k.ho vs)) (f : k.fit vs.length) (h' : H a = some (k'.ho vs')) (f' : k'.fit vs'.length) : vs = vs' := by
  rw [h] at h'
  have e := Option.some.inj h'
  have z : ∀ {α : Type} {ks : List α} {ks' : List α} {vs vs' : List V}, ks.length = vs.length → ks'.length = vs'.length → ks.zip vs = ks'.zip vs' → vs = vs' := by
    intro α ks ks' vs vs' l l' e
    have := congrArg (List.map Prod.snd) e
    rwa [List.map_snd_zip (by omega), List.map_snd_zip (by omega)] at this
  cases k <;> cases k' <;> first
    | exact f.elim
    | exact f'.elim
    | (injection e; done)
    | (injection e with e; exact z f f' e)
    | cases e
theorem PathV.inj {G : Hp} : ∀ {p : List Nat} {v w w' : V}, PathV G p v w → PathV G p v w' → w = w'
  | [], _, _, _, h, h' => h.symm.trans h'
  | _ :: _, _, _, _, ⟨a, k, vs, v', e, h, f, e2, r⟩, ⟨a', k', vs', v'', e', h', f', e2', r'⟩ => by
    rw [e] at e'; cases e'
    have := ho_inj h f h' f'
    subst this
    rw [e2] at e2'; cases e2'
    exact PathV.inj r r'
def pVar (i : Nat) : Sl → Option T := fun δ => match δ[i]? with
  | some (.vis _ t) => some t.loan
  | _ => none
def pBin (g : T → T → Option T) (fa fb : Sl → Option T) : Sl → Option T := fun δ => (fa δ).bind fun x => (fb δ).bind fun y => g x y
def rootT (δ : Sl) (i : Nat) : Option T := match δ[i]? with
  | some (.vis _ t) => some t
  | _ => none
def ptN (i : Nat) : Sl → Option (List Nat) := fun δ => match rootT δ i with
  | some _ => some []
  | none => none
def ptStep (i : Nat) (δ : Sl) (p : List Nat) (kt : T) : Option (List Nat) := match kt with
  | .int k => match rootT δ i with
    | some t => match T.get p t with
      | some (.nd .ow .lst xs) => (ixN xs.length k).map fun j => p ++ [j]
      | _ => none
    | none => none
  | _ => none
theorem ptStep_some {δ : Sl} {p path : List Nat} {kt : T} (h : ptStep i δ p kt = some path) : ∃ k t xs j, kt = .int k ∧ rootT δ i = some t ∧ T.get p t = some (.nd .ow .lst xs) ∧ ixN xs.length k = some j ∧ path = p ++ [j] := by
  unfold ptStep at h
  split at h
  · rename_i k
    split at h
    · rename_i t e1
      split at h
      · rename_i xs e2
        cases e3 : ixN xs.length k with
        | none => rw [e3] at h; cases h
        | some j => rw [e3] at h; exact ⟨k, t, xs, j, rfl, e1, e2, e3, (Option.some.inj h).symm⟩
      · cases h
    · cases h
  · cases h
def ptIx (i : Nat) (fp : Sl → Option (List Nat)) (fk : Sl → Option T) : Sl → Option (List Nat) := fun δ => match fp δ with
  | some p => (match fk δ with
    | some k => ptStep i δ p k
    | none => none)
  | none => none
theorem Stt.slotL {K : PySem.W.Frag} {p : Bool} {k : Kd} {xs : List T} (S : Stt K B σ H δ ts) (e : δ[i]? = some (.vis p (.nd .ow k xs))) : ∃ a vs, σ[i]? = some (some (.ref a)) ∧ Stands K H a k vs ∧ xs.length = vs.length := by
  obtain ⟨v, e1, S1⟩ := S.var e
  obtain ⟨a, vs, ev, st, l⟩ := (show Stt K B σ H δ ((v, .nd .ln k (T.loanL xs)) :: ts) from S1).node
  subst ev
  refine ⟨a, vs, e1, st, ?_⟩
  have : ∀ xs : List T, (T.loanL xs).length = xs.length := fun xs => by
    induction xs with
    | nil => rfl
    | cons x xs ih => rw [T.loanL, List.length_cons, List.length_cons, ih]
  rw [← this, l]
def ownL (δ : Sl) (i : Nat) : Option (Bool × List T) := match δ[i]? with
  | some (.vis p (.nd .ow .lst xs)) => some (p, xs)
  | _ => none
theorem ownL_some {δ : Sl} {i : Nat} {q : Bool × List T} (h : ownL δ i = some q) : δ[i]? = some (.vis q.1 (.nd .ow .lst q.2)) := by
  unfold ownL at h
  split at h
  · rename_i p xs e; cases h; exact e
  · cases h
def fzIf (fz : Bool) (t : T) : T := if fz = true then t.frz else t
theorem noLnL_append : ∀ {xs ys : List T}, T.noLnL (xs ++ ys) = (T.noLnL xs && T.noLnL ys)
  | [], ys => by simp [T.noLnL]
  | x :: xs, ys => by rw [List.cons_append, T.noLnL, T.noLnL, noLnL_append, Bool.and_assoc]
theorem noLnL_iff : ∀ {xs : List T}, T.noLnL xs = true ↔ ∀ x ∈ xs, x.noLn = true
  | [] => by simp [T.noLnL]
  | x :: xs => by rw [T.noLnL, Bool.and_eq_true, noLnL_iff]; simp
theorem NoLnT.cons {v : V} {t : T} (h : t.noLn = true) (nt : NoLnT ts) : NoLnT ((v, t) :: ts) := fun p hp => by
  rcases List.mem_cons.mp hp with rfl | hp
  · exact h
  · exact nt p hp
/-- a method that changes a list and gives nothing -/
def sMeth (i : Nat) (g : AS) (step : List T → List T → Option (List T)) : SS := fun δ => match ownL δ i with
  | none => .bad
  | some _ => (g δ).bind fun as δ => match valsOf as with
    | none => .bad
    | some args => match ownL δ i with
      | none => .bad
      | some (p, xs) => match step xs args with
        | none => .bad
        | some xs' => if T.noLnL args = true then .ok .next (δ.set i (.vis p (.nd .ow .lst xs'))) else .bad
/-- what the trees say of the values -/
def SameS : List T → List V → Prop
  | t :: ts, v :: vs => (∀ k, t = .int k → v = .int k) ∧ SameS ts vs
  | [], [] => True
  | _, _ => False
def MetV (r : V → List V → Hp → VK → Prop) (step : List T → List T → Option (List T)) : Prop := ∀ (K : PySem.W.Frag) (H : Hp) (a : Addr) (vs ys : List V) (xs args xs' : List T) (ts : List (V × T)) (Q : VK), step xs args = some xs' → xs.length = vs.length → SameS args ys → H a = some (.lst vs) →
  (∀ F G as, Same F G → Same G H → RTs K F G (ts) as → True) → 
  (∀ ws, (∀ F G as1 as2, Same F G → Same G H → RepL K F G xs vs as1 → RepL K F G args ys as2 → ∃ b, RepL K F G xs' ws b ∧ ∀ c, b.count c ≤ as1.count c + as2.count c) → ∀ v, Q v (upd H a (.lst ws))) → r (.ref a) ys H Q
theorem RepL.sameS {K : PySem.W.Frag} {F G : Hp} : ∀ {xs : List T} {vs : List V} {as : List Addr}, RepL K F G xs vs as → SameS xs vs
  | _, _, _, .nil => trivial
  | _, _, _, .cons h r => ⟨fun k e => by
      subst e
      cases h with
      | lon h => cases h; rfl, RepL.sameS r⟩
theorem meth_core {r : V → List V → Hp → VK → Prop} {step : List T → List T → Option (List T)} (hv : MetV r step) (hl : ∀ xs args xs', step xs args = some xs' → T.noLnL xs = true → T.noLnL args = true → T.noLnL xs' = true)
    {as : List Ar} {vs1 : List V} {a : Addr} {H1 : Hp} {Q : VK} (S1 : Stt X.K B σ H1 δ (pushA as vs1 ts)) (k1 : ArOk σ as vs1) (n : NoLn δ) (nt : NoLnT ts) (ea : σ[i]? = some (some (.ref a)))
    (h : AftS X W B ts (match valsOf as with
    | none => R.bad
    | some args => match ownL δ i with
      | none => .bad
      | some (p, xs) => match step xs args with
        | none => .bad
        | some xs' => if T.noLnL args = true then .ok .next (δ.set i (.vis p (.nd .ow .lst xs'))) else .bad) D) (hQ : ∀ v H', D.nx σ H' → Q v H') : r (.ref a) vs1 H1 Q := by
  cases e2 : valsOf as with
  | none => rw [e2] at h; exact h.elim
  | some args =>
    rw [e2] at h
    dsimp only at h
    cases e1 : ownL δ i with
    | none => rw [e1] at h; exact h.elim
    | some q =>
      obtain ⟨p, xs⟩ := q
      rw [e1] at h
      dsimp only at h
      cases e3 : step xs args with
      | none => rw [e3] at h; exact h.elim
      | some xs' =>
        rw [e3] at h
        dsimp only at h
        by_cases hz : T.noLnL args = true
        · rw [if_pos hz] at h
          have hn := ownL_some e1
          obtain ⟨v, a2, vs2, ev, pv, Ha, _, l, wr⟩ := S1.mutate (path := []) hn n rfl
          rw [ea] at ev; cases ev
          have pv : V.ref a = V.ref a2 := pv
          cases pv
          have nx : T.noLnL xs = true := T.nd_ow_noLn (k := .lst) (n _ (List.mem_of_getElem? hn))
          have nl := hl xs args xs' e3 nx hz
          have ss : SameS args vs1 := S1.see fun F G c fg gh fb rr => by
            obtain ⟨a1, a2, r1, r2, _⟩ := rr.pushed e2 k1.len
            exact r1.sameS
          refine hv X.K H1 a vs2 vs1 xs args xs' ts Q e3 l ss Ha (fun _ _ _ _ _ _ => trivial) fun ws hws v => hQ v _ (h σ _ (wr .lst xs' ws ts trivial rfl nl nt fun F G as1 as2 fg gh r1 r2 => ?_) (n.set (by show (T.nd .ow .lst _).noLn = true; simpa [T.noLn] using nl)))
          obtain ⟨c1, c2, q1, q2, q3⟩ := r2.pushed e2 k1.len
          obtain ⟨b, z1, z2⟩ := hws F G as1 c1 fg gh r1 q1
          exact ⟨b, c2, z1, q2, fun c => by have := z2 c; have := q3 c; omega⟩
        · rw [if_neg hz] at h; exact h.elim
theorem ds_meth {name : Str} {id : String} {r : V → List V → Hp → VK → Prop} {step : List T → List T → Option (List T)} {g : AS} {np : Pos} (slot : Slot "list" name id) (hty : typeOf (.builtin id) = pure (.type "method_descriptor")) (hm : MtR X id r) (hv : MetV r step) (hl : ∀ xs args xs', step xs args = some xs' → T.noLnL xs = true → T.noLnL args = true → T.noLnL xs' = true)
    (he : DA X W (e :: es) g) (hN : X.N[i]? = some x := by rfl) (hvis : Vis X.env.scope x := by first | exact Or.inl rfl | exact Or.inr (Or.inl rfl) | exact Or.inr (Or.inr rfl)) (hd : (x == ("__debug__" : Str)) = false := by decide)
    (hcd : (x == ("__classdict__" : Str)) = false := by decide) (hbase : attributeBase (.Name x np) name X.env (eval (.Name x np) X.env) = eval (.Name x np) X.env := by rfl)
    (hfew : ((backTo cpos (starEach (e :: es) X.env)).all (fun x => !x.1) && (backToKw cpos (keywordEach [] X.env)).all (fun x => x.1.isSome)
      && decide ((e :: es).length + ([] : List Keyword).length + (if ([] : List Keyword).isEmpty then 0 else 1) < 30)) = true := by rfl)
    (hline : (apos.endLine == cpos.line) = true := by rfl) (hs : starEach (e :: es) X.env = (false, eval e X.env) :: starEach es X.env := by rfl) (hplain : (backTo cpos (starEach es X.env)).any (·.1) = false := by rfl)
    (hsw : swapsWith (.Call (.Attribute (.Name x np) name apos) (e :: es) [] cpos) none pos.line X.env = pure false := by rfl) :
    DS X W (.Expr (.Call (.Attribute (.Name x np) name apos) (e :: es) [] cpos) pos) (sMeth i g step) :=
  (ps_expr (pe_bm PySem.F.plainAttrs_list slot hty hm (pe_var hN hvis hd hcd) he hbase hfew hline hs hplain) hsw).imp fun D σ H ⟨B, δ, ts, S, n, nt, h⟩ => by
    unfold sMeth at h
    cases e0 : ownL δ i with
    | none => rw [e0] at h; exact h.elim
    | some q0 =>
      rw [e0] at h
      obtain ⟨a, vs, ea, st, _⟩ := S.slotL (ownL_some e0)
      refine ⟨.ref a, ea, .inl ⟨rfl, _, SqL.of st⟩, B, δ, ts, S, (AftS.expr (σ := σ) n h).mono fun as δ1 h1 vs1 H1 S1 k1 n1 => meth_core hv hl S1 k1 (n1 n) nt ea h1 fun v H' q => q⟩
def stApp (xs args : List T) : Option (List T) := match args with
  | [t] => if xs.length < sizeLine then some (xs ++ [t]) else none
  | _ => none
theorem mv_app : MetV rAppend stApp := by
  intro K H a vs ys xs args xs' ts Q e l ss Ha _ h
  unfold stApp at e
  split at e
  · rename_i t
    by_cases hz : xs.length < sizeLine
    · rw [if_pos hz] at e; cases e
      match ys, ss with
      | [y], ss =>
        refine ⟨a, vs, y, rfl, rfl, Ha, by rw [← l]; exact hz, h _ (fun F G as1 as2 fg gh r1 r2 => ?_) _⟩
        obtain ⟨cs, q1, q2⟩ := r1.append r2
        exact ⟨cs, q1, fun c => by rw [q2]; omega⟩
    · rw [if_neg hz] at e; cases e
  · cases e
theorem stApp_nl : ∀ xs args xs', stApp xs args = some xs' → T.noLnL xs = true → T.noLnL args = true → T.noLnL xs' = true := by
  intro xs args xs' e n1 n2
  unfold stApp at e
  split at e
  · by_cases hz : xs.length < sizeLine
    · rw [if_pos hz] at e; cases e
      rw [noLnL_append, n1, n2]; rfl
    · rw [if_neg hz] at e; cases e
  · cases e
def stIns (xs args : List T) : Option (List T) := match args with
  | [.int k, t] => if xs.length < sizeLine ∧ 0 ≤ k ∧ k < 2 ^ 63 then some (xs.take k.toNat ++ [t] ++ xs.drop k.toNat) else none
  | _ => none
theorem RepL.cut {K : PySem.W.Frag} {F G : Hp} : ∀ {xs : List T} {vs : List V} {as : List Addr} (n : Nat), RepL K F G xs vs as → ∃ a1 a2, RepL K F G (xs.take n) (vs.take n) a1 ∧ RepL K F G (xs.drop n) (vs.drop n) a2 ∧ ∀ c, as.count c = a1.count c + a2.count c
  | _, _, as, 0, h => ⟨[], as, by simpa using RepL.nil, by simpa using h, fun c => by simp⟩
  | _, _, _, n + 1, .nil => ⟨[], [], by simpa using RepL.nil, by simpa using RepL.nil, fun c => by simp⟩
  | _, _, _, n + 1, .cons h r => by
    obtain ⟨a1, a2, r1, r2, c⟩ := RepL.cut n r
    exact ⟨_, a2, .cons h r1, r2, fun x => by simp only [List.count_append, c]; omega⟩
theorem mv_ins : MetV (fun x vs H Q => ∃ (l : Addr) (xs : List V) (i : Int) (y : V), x = .ref l ∧ vs = [.int i, y] ∧ H l = some (.lst xs) ∧ xs.length < sizeLine ∧ 0 ≤ i ∧ i < 2 ^ 63 ∧
    Q .non (upd H l (.lst (xs.take i.toNat ++ [y] ++ xs.drop i.toNat)))) stIns := by
  intro K H a vs ys xs args xs' ts Q e l ss Ha _ h
  unfold stIns at e
  split at e
  · rename_i k t
    by_cases hz : xs.length < sizeLine ∧ 0 ≤ k ∧ k < 2 ^ 63
    · rw [if_pos hz] at e; cases e
      match ys, ss with
      | [y0, y], ss =>
        have := ss.1 k rfl
        subst this
        refine ⟨a, vs, k, y, rfl, rfl, Ha, by rw [← l]; exact hz.1, hz.2.1, hz.2.2, h _ (fun F G as1 as2 fg gh r1 r2 => ?_) _⟩
        obtain ⟨c1, c2, p1, p2, pc⟩ := r1.cut k.toNat
        cases r2 with
        | cons h0 r2 =>
          obtain ⟨d1, q1, q2⟩ := p1.append r2
          obtain ⟨d2, z1, z2⟩ := q1.append p2
          exact ⟨d2, z1, fun c => by rw [z2, q2, pc, List.count_append]; omega⟩
    · rw [if_neg hz] at e; cases e
  · cases e
theorem stIns_nl : ∀ xs args xs', stIns xs args = some xs' → T.noLnL xs = true → T.noLnL args = true → T.noLnL xs' = true := by
  intro xs args xs' e n1 n2
  unfold stIns at e
  split at e
  · rename_i k t
    by_cases hz : xs.length < sizeLine ∧ 0 ≤ k ∧ k < 2 ^ 63
    · rw [if_pos hz] at e; cases e
      rw [noLnL_iff] at n1 n2 ⊢
      intro x hx
      simp only [List.mem_append, List.mem_cons, List.not_mem_nil, or_false] at hx
      rcases hx with (hx | hx) | hx
      · exact n1 x (List.mem_of_mem_take hx)
      · exact n2 x (by simp [hx])
      · exact n1 x (List.mem_of_mem_drop hx)
    · rw [if_neg hz] at e; cases e
  · cases e
def stClear (_ args : List T) : Option (List T) := match args with
  | [] => some []
  | _ => none
/-- pop(), the value dropped -/
def stPop (xs args : List T) : Option (List T) := match args with
  | [] => if xs.length = 0 then none else some (xs.take (xs.length - 1))
  | _ => none
theorem RepL.erase {K : PySem.W.Frag} {F G : Hp} : ∀ {xs : List T} {vs : List V} {as : List Addr} (n : Nat), RepL K F G xs vs as → ∃ b, RepL K F G (xs.eraseIdx n) (vs.eraseIdx n) b ∧ ∀ c, b.count c ≤ as.count c
  | _, _, _, _, .nil => ⟨[], .nil, fun c => Nat.le_refl _⟩
  | _, _, _, 0, .cons h r => ⟨_, r, fun c => by rw [List.count_append]; omega⟩
  | _, _, _, n + 1, .cons h r => by
    obtain ⟨b, r1, c⟩ := RepL.erase n r
    exact ⟨_, .cons h r1, fun x => by have := c x; simp only [List.count_append]; omega⟩
/-- pop(i), the value dropped -/
def stPopAt (xs args : List T) : Option (List T) := match args with
  | [.int k] => if -(2 ^ 63) ≤ k ∧ k < 2 ^ 63 then (seqIndex? k xs.length).bind fun j => if j < xs.length then some (xs.eraseIdx j) else none else none
  | _ => none
theorem mv_popAt : MetV rPopAt stPopAt := by
  intro K H a vs ys xs args xs' ts Q e l ss Ha _ h
  unfold stPopAt at e
  split at e
  · rename_i k
    by_cases hz : -(2 ^ 63) ≤ k ∧ k < 2 ^ 63
    · rw [if_pos hz] at e
      cases ej : seqIndex? k xs.length with
      | none => rw [ej] at e; cases e
      | some j =>
        rw [ej] at e
        have e : (if j < xs.length then some (xs.eraseIdx j) else none) = some xs' := e
        by_cases hj : j < xs.length
        · rw [if_pos hj] at e; cases e
          match ys, ss with
          | [y], ss =>
            have := ss.1 k rfl
            subst this
            refine ⟨a, vs, k, j, vs[j]'(by omega), rfl, rfl, Ha, hz.1, hz.2, by rw [← l]; exact ej, List.getElem?_eq_getElem _, h _ (fun F G as1 as2 fg gh r1 r2 => ?_) _⟩
            obtain ⟨b, z1, z2⟩ := r1.erase j
            exact ⟨b, z1, fun c => by have := z2 c; omega⟩
        · rw [if_neg hj] at e; cases e
    · rw [if_neg hz] at e; cases e
  · cases e
theorem stPopAt_nl : ∀ xs args xs', stPopAt xs args = some xs' → T.noLnL xs = true → T.noLnL args = true → T.noLnL xs' = true := by
  intro xs args xs' e n1 n2
  unfold stPopAt at e
  split at e
  · rename_i k
    by_cases hz : -(2 ^ 63) ≤ k ∧ k < 2 ^ 63
    · rw [if_pos hz] at e
      cases ej : seqIndex? k xs.length with
      | none => rw [ej] at e; cases e
      | some j =>
        rw [ej] at e
        have e : (if j < xs.length then some (xs.eraseIdx j) else none) = some xs' := e
        by_cases hj : j < xs.length
        · rw [if_pos hj] at e; cases e
          rw [noLnL_iff] at n1 ⊢
          exact fun x hx => n1 x (List.mem_of_mem_eraseIdx hx)
        · rw [if_neg hj] at e; cases e
    · rw [if_neg hz] at e; cases e
  · cases e
end
end TV
set_option Elab.async false
set_option linter.all false
set_option maxRecDepth 100000
set_option maxHeartbeats 4000000
namespace TV
open PySem PySem.Spec PyProof.Rows L2
section
variable {X : Cx} {W : WX} {B : Bs} {σ : L2.St} {δ δ0 δ1 : Sl} {ts ts1 : List (V × T)} {H : Hp} {a b c e base idx : Expr} {es : List Expr} {f fa fb fc fi : ES} {pos pos' spos cpos apos : Pos} {D D' : Ends} {i : Nat} {x : Str}
theorem RepL.put {K : PySem.W.Frag} {F G : Hp} {t : T} {v : V} {bs : List Addr} : ∀ {xs : List T} {vs : List V} {as : List Addr} (j : Nat), RepL K F G xs vs as → Rep K F G t v bs → ∃ c, RepL K F G (xs.set j t) (vs.set j v) c ∧ ∀ a, c.count a ≤ as.count a + bs.count a
  | _, _, _, _, .nil, _ => ⟨[], .nil, fun c => by simp⟩
  | _, _, _, 0, .cons h r, h' => ⟨_, .cons h' r, fun c => by simp only [List.count_append]; omega⟩
  | _, _, _, n + 1, .cons h r, h' => by
    obtain ⟨b, r1, c⟩ := RepL.put n r h'
    exact ⟨_, .cons h r1, fun x => by have := c x; simp only [List.count_append]; omega⟩
theorem noLnL_set {xs : List T} {t : T} {j : Nat} (h : T.noLnL xs = true) (ht : t.noLn = true) : T.noLnL (xs.set j t) = true := by
  rw [noLnL_iff] at h ⊢
  intro x hx
  rcases List.mem_or_eq_of_mem_set hx with q | q
  · exact h x q
  · subst q; exact ht
theorem Stt.fzIf {K : PySem.W.Frag} {fz : Bool} {v : V} {t : T} (S : Stt K B σ H δ ((v, t) :: ts)) (n : t.noLn = true) : Stt K B σ H δ ((v, TV.fzIf fz t) :: ts) ∧ (TV.fzIf fz t).noLn = true := by
  cases fz with
  | true => exact ⟨S.frzT n, t.frz_noLn⟩
  | false => exact ⟨S, n⟩
def putS (i : Nat) (t kt : T) (δ : Sl) : R Sl Flw := match ownL δ i with
  | some (p, xs) => match kt with
    | .int k => match ixN xs.length k with
      | some j => .ok .next (δ.set i (.vis p (.nd .ow .lst (xs.set j t))))
      | none => .bad
    | _ => .bad
  | none => .bad
theorem putS_ok {t kt : T} {δ : Sl} {r : R Sl Flw} (h : putS i t kt δ = r) : r = .bad ∨ ∃ p xs k j, ownL δ i = some (p, xs) ∧ kt = .int k ∧ ixN xs.length k = some j ∧ r = .ok .next (δ.set i (.vis p (.nd .ow .lst (xs.set j t)))) := by
  unfold putS at h
  split at h
  · rename_i p xs e
    split at h
    · rename_i k
      split at h
      · rename_i j ej; exact .inr ⟨p, xs, k, j, e, rfl, ej, h.symm⟩
      · exact .inl h.symm
    · exact .inl h.symm
  · exact .inl h.symm
/-- x[e] = e' -/
def sPut1 (fz : Bool) (i : Nat) (f fi : ES) : SS := fun δ => (f δ).bind fun t δ => if t.noLn = true then (match ownL δ i with
  | none => .bad
  | some _ => (fi δ).bind fun kt δ => putS i (fzIf fz t) kt δ) else .bad
theorem ds_put1 {fz : Bool} {np : Pos} (he : DE X W e f) (hi : DE X W idx fi) (hN : X.N[i]? = some x := by rfl) (hvis : Vis X.env.scope x := by first | exact Or.inl rfl | exact Or.inr (Or.inl rfl) | exact Or.inr (Or.inr rfl)) (hd : (x == ("__debug__" : Str)) = false := by decide)
    (hcd : (x == ("__classdict__" : Str)) = false := by decide)
    (ha : ∀ v, assign (.Subscript (.Name x np) idx spos) X.env v = (do
      let ov ← holding [v] (eval (.Name x np) X.env)
      let iv ← holding [v, ov] (eval idx X.env)
      standAt spos
      holding [v, ov, iv] (setItem ov iv v)
      release [v, ov, iv] []) := by intro _; rfl)
    (hs : swapsWithSole [.Subscript (.Name x np) idx spos] e pos.line X.env = pure false := by rfl) (hw : swappedStores [.Subscript (.Name x np) idx spos] e X.env = pure none := by rfl)
    (h1 : (assignEach [.Subscript (.Name x np) idx spos] X.env).map (·.2) = [assign (.Subscript (.Name x np) idx spos) X.env] := by rfl) :
    DS X W (.Assign [.Subscript (.Name x np) idx spos] e pos) (sPut1 fz i f fi) :=
  (ps_asg he (pg_sub (pe_var hN hvis hd hcd) hi set_list ha) hs hw h1).imp fun D σ H ⟨B, δ, ts, S, n, nt, h⟩ => ⟨B, δ, ts, S, (h.expr n).mono fun t δ1 h1 v H1 S1 n1 => by
    by_cases hn : t.noLn = true
    · rw [if_pos hn] at h1
      obtain ⟨S1, hn⟩ := Stt.fzIf (fz := fz) S1 hn
      cases e0 : ownL δ1 i with
      | none => rw [e0] at h1; exact h1.elim
      | some q0 =>
        rw [e0] at h1
        obtain ⟨a, vs, ea, st, _⟩ := Stt.slotL S1 (ownL_some e0)
        refine ⟨.ref a, ea, to_E S1 id (AftS.expr (σ := σ) (n1 n) h1) fun kt δ2 h2 kv H2 S2 n2 => ?_⟩
        rcases putS_ok (rfl : putS i (fzIf fz t) kt δ2 = _) with z | ⟨p, xs, k, j, eo, rfl, ej, z⟩
        · rw [z] at h2; exact h2.elim
        · rw [z] at h2
          have ek := S2.eq_int
          subst ek
          have hnn := n2 (n1 n)
          obtain ⟨v', a2, vs2, ev, pv, Ha, _, l, wr⟩ := S2.drop.mutate (path := []) (ownL_some eo) hnn rfl
          rw [ea] at ev; cases ev
          have pv : V.ref a = V.ref a2 := pv
          cases pv
          have nx : T.noLnL xs = true := T.nd_ow_noLn (k := .lst) (hnn _ (List.mem_of_getElem? (ownL_some eo)))
          have nl := noLnL_set (j := j) nx hn
          refine ⟨a, vs2, k, j, rfl, rfl, Ha, by rw [← l]; exact ej, h2 σ _ (wr .lst (xs.set j (fzIf fz t)) (vs2.set j v) ts trivial rfl nl nt fun F G as1 as2 fg gh r1 r2 => ?_) (hnn.set (by show (T.nd .ow .lst _).noLn = true; simpa [T.noLn] using nl))⟩
          cases r2 with
          | cons hy r2 =>
            obtain ⟨c, q1, q2⟩ := r1.put j hy
            exact ⟨c, _, q1, r2, fun x => by have := q2 x; simp only [List.count_append]; omega⟩
    · rw [if_neg hn] at h1; exact h1.elim⟩
/-- x[..]..[e] = e', deeper -/
def putP (i : Nat) (path : List Nat) (t kt : T) (δ : Sl) : R Sl Flw := match δ[i]? with
  | some (.vis p r) => match T.get path r with
    | some (.nd .ow .lst xs) => match kt with
      | .int k => match ixN xs.length k with
        | some j => .ok .next (δ.set i (.vis p (T.put path r (.nd .ow .lst (xs.set j t)))))
        | none => .bad
      | _ => .bad
    | _ => .bad
  | _ => .bad
def sPut (fz : Bool) (i : Nat) (fp : Sl → Option (List Nat)) (f : ES) (fk : Sl → Option T) : SS := fun δ => (f δ).bind fun t δ => if t.noLn = true then (match fp δ with
  | none => .bad
  | some path => match fk δ with
    | none => .bad
    | some kt => putP i path (fzIf fz t) kt δ) else .bad
def whileL (c : Sl → R Sl Bool) (b : SS) : Nat → SS
  | 0 => fun _ => .bad
  | n + 1 => fun δ => (c δ).bind fun k δ => if k = true then (b δ).bind fun fl δ => match fl with
    | .next => whileL c b n δ
    | .cont => whileL c b n δ
    | .brk => .ok .next δ
    | .ret t => .ok (.ret t) δ else .ok .next δ
def sWhile (n : Nat) (c : Sl → R Sl Bool) (b : SS) : SS := whileL c b n
theorem ds_while {n : Nat} {c : Expr} {body : List Stmt} {fc : Sl → R Sl Bool} {g : SS} (hp : PassesOwn (model X.prog X.w) X.A X.env X.xe) (hc : DT X W c fc) (hb : DSs X W body g) : DS X W (.While c body [] pos) (sWhile n fc g) :=
  (ps_while hp hc hb).imp fun D σ H ⟨B, δ, ts, S, nl, nt, h⟩ => by
    refine ⟨fun m σ H => ∃ δ, Stt X.K B σ H δ ts ∧ NoLn δ ∧ AftS X W B ts (whileL fc g m δ) D, ⟨n, δ, S, nl, h⟩, ?_⟩
    rintro m σ H ⟨δ, S, nl, h⟩
    cases m with
    | zero => exact h.elim
    | succ m =>
      refine ⟨B, δ, ts, S, (AftS.expr (σ := σ) nl h).mono fun k δ1 h1 H1 S1 n1 => ?_⟩
      cases k with
      | false => rw [if_neg Bool.false_ne_true] at h1 ⊢; exact h1 σ H1 S1 (n1 nl)
      | true =>
        rw [if_pos rfl] at h1 ⊢
        refine ⟨fun σ' H' => ∃ δ, Stt X.K B σ' H' δ ts ∧ NoLn δ ∧ AftS X W B ts (whileL fc g m δ) D, fun σ' H' q => ⟨m, Nat.lt_succ_self m, q⟩, B, δ1, ts, S1, n1 nl, nt, ?_⟩
        cases e : g δ1 with
        | bad => rw [e] at h1; exact h1.elim
        | exc y s => rw [e] at h1; exact h1
        | ok fl δ2 =>
          rw [e] at h1
          cases fl with
          | next => exact fun σ' H' S' n' => ⟨δ2, S', n', h1⟩
          | cont => exact fun σ' H' S' n' => ⟨δ2, S', n', h1⟩
          | brk => exact h1
          | ret t => exact h1
/-- an iterator gives these items, while tsI stand -/
def ItOk (X : Cx) (F0 : Hp) (J : It) (tsI : List (V × T)) (items : List T) : Prop := ∀ B σ H δ ts i, Same F0 B.F → Stt X.K B σ H δ (tsI ++ ts) →
  (∀ t, items[i]? = some t → J.go i H ∧ ∀ y H', J.yld i H y H' → Stt X.K B σ H' δ ((y, t) :: (tsI ++ ts))) ∧ (items.length ≤ i → J.stop i H)
abbrev IS := Sl → R Sl (Bool × List T)
def tI (X : Cx) (W : WX) (f : IS) : TI := fun σ H Rr => ∃ B δ ts, Stt X.K B σ H δ ts ∧ Aft X W B σ δ ts (f δ) fun ci δ' => ∀ J H' tsI, Stt X.K B σ H' δ' (tsI ++ ts) → ItOk X B.F J tsI ci.2 → (ci.1 = true → NoLnT tsI) → (NoLn δ → NoLn δ') → Rr J H'
def DI (X : Cx) (W : WX) (tg e : Expr) (f : IS) : Prop := PI X tg e (tI X W f)
theorem _root_.L2.PI.imp {tg e : Expr} {t t' : TI} (h : PI X tg e t) (hh : ∀ σ H Q, t' σ H Q → t σ H Q) : PI X tg e t' := ⟨fun pins s σ H R I q => h.run pins s σ H R I (hh σ H R q)⟩
theorem Stt.drops {K : PySem.W.Frag} : ∀ {ts1 ts2 : List (V × T)}, Stt K B σ H δ (ts1 ++ ts2) → Stt K B σ H δ ts2
  | [], _, S => S
  | _ :: _, _, S => Stt.drops (Stt.drop S)
theorem NoLnT.app {ts1 ts2 : List (V × T)} (h1 : NoLnT ts1) (h2 : NoLnT ts2) : NoLnT (ts1 ++ ts2) := fun p hp => (List.mem_append.mp hp).elim (h1 p) (h2 p)
def forL (gs : GS) (body : SS) : List T → SS
  | [] => fun δ => .ok .next δ
  | t :: r => fun δ => if t.noLn = true then (match gs t δ with
    | .ok _ δ => (body δ).bind fun fl δ => match fl with
      | .next => forL gs body r δ
      | .cont => forL gs body r δ
      | .brk => .ok .next δ
      | .ret t => .ok (.ret t) δ
    | _ => .bad) else .bad
def sFor (f : IS) (gs : GS) (body : SS) : SS := fun δ => (f δ).bind fun ci δ => if ci.1 = true then forL gs body ci.2 δ else .bad
theorem ds_for {tg iter : Expr} {ws : List Nat} {body : List Stmt} {f : IS} {gs : GS} {g : SS} (hp : PassesOwn (model X.prog X.w) X.A X.env X.xe) (hc : X.calm = true) (hi : DI X W tg iter f) (hg : DG X tg ws gs) (hb : DSs X W body g)
    (hs : ∀ x, foldedSetIterable iter X.env x = pure x := by intro _; rfl) : DS X W (.For tg iter body [] pos) (sFor f gs g) :=
  (ps_for hp hc hi hg hb hs).imp fun D σ H ⟨B, δ, ts, S, nl, nt, h⟩ => ⟨B, δ, ts, S, (AftS.expr (σ := σ) nl h).mono fun ci δ1 h1 J H1 tsI S1 ok cl n1 => by
    obtain ⟨cc, items⟩ := ci
    dsimp only at h1 ok cl
    cases cc with
    | false => rw [if_neg Bool.false_ne_true] at h1; exact h1.elim
    | true =>
      rw [if_pos rfl] at h1
      have nI := cl rfl
      refine ⟨fun i m σ H => ∃ δ, Stt X.K B σ H δ (tsI ++ ts) ∧ NoLn δ ∧ m = items.length - i ∧ i ≤ items.length ∧ AftS X W B ts (forL gs g (items.drop i) δ) D, ⟨items.length, δ1, S1, n1 nl, rfl, Nat.zero_le _, h1⟩, ?_⟩
      rintro i m σ H ⟨δ, S, nl, rfl, hle, h⟩
      have it := ok B σ H δ ts i (fun _ _ e => e) S
      by_cases hlt : i < items.length
      · rw [List.drop_eq_getElem_cons hlt] at h
        obtain ⟨go, yl⟩ := it.1 items[i] (List.getElem?_eq_getElem hlt)
        refine .inr ⟨go, fun σ' H' => ∃ δ, Stt X.K B σ' H' δ (tsI ++ ts) ∧ NoLn δ ∧ AftS X W B ts (forL gs g (items.drop (i + 1)) δ) D, fun σ' H' ⟨δ, S', n', h'⟩ => ⟨_, by omega, δ, S', n', rfl, hlt, h'⟩, fun y H' hy => ?_⟩
        have S2 := yl y H' hy
        unfold forL at h
        by_cases hn : (items[i]).noLn = true
        · rw [if_pos hn] at h
          refine ⟨B, δ, tsI ++ ts, items[i], S2, ?_⟩
          cases e1 : gs items[i] δ with
          | bad => rw [e1] at h; exact h.elim
          | exc z s => rw [e1] at h; exact h.elim
          | ok u δ2 =>
            rw [e1] at h
            dsimp only at h
            refine fun σ' H2 S3 _ n3 => ⟨B, δ2, tsI ++ ts, S3, n3 nl hn, nI.app nt, ?_⟩
            cases e2 : g δ2 with
            | bad => rw [e2] at h; exact h.elim
            | exc z s => rw [e2] at h; exact fun σ' H' S' n' => h σ' H' S'.drops n'
            | ok fl δ3 =>
              rw [e2] at h
              cases fl with
              | next => exact fun σ' H' S' n' => ⟨δ3, S', n', h⟩
              | cont => exact fun σ' H' S' n' => ⟨δ3, S', n', h⟩
              | brk => exact fun σ' H' S' n' => h σ' H' S'.drops n'
              | ret t => exact fun v σ' H' S' ht n' => h v σ' H' (Stt.drops (ts1 := tsI) (S'.conv fun F G as _ _ _ r => by
                  cases r with
                  | cons hv r =>
                    obtain ⟨a1, a2, r1, r2, c⟩ := r.split
                    obtain ⟨b, r3, c3⟩ := r1.join (.cons hv r2)
                    exact ⟨b, r3, fun x => by rw [c3]; simp only [List.count_append]; have := c x; omega⟩)) ht n'
        · rw [if_neg hn] at h; exact h.elim
      · refine .inl ⟨it.2 (by omega), ?_⟩
        rw [List.drop_eq_nil_of_le (by omega)] at h
        exact h σ H S.drops nl⟩
end
end TV
set_option Elab.async false
set_option linter.all false
set_option maxRecDepth 100000
set_option maxHeartbeats 4000000
namespace TV
open PySem PySem.Spec PyProof.Rows L2
section
variable {X : Cx} {W : WX} {B : Bs} {σ : L2.St} {δ δ0 δ1 : Sl} {ts ts1 : List (V × T)} {H : Hp} {a b c e base idx tg : Expr} {es : List Expr} {f fa fb fc fi : ES} {pos pos' spos cpos apos : Pos} {i : Nat} {x : Str}
theorem FroL.at_ {K : PySem.W.Frag} {F : Hp} : ∀ {xs : List T} {vs : List V} {j : Nat} {t : T}, FroL K F xs vs → xs[j]? = some t → ∃ v, vs[j]? = some v ∧ Fro K F t v
  | _, _, _, _, .nil, e => by simp at e
  | _, _, 0, _, .cons h r, e => by simp at e; subst e; exact ⟨_, rfl, h⟩
  | _, _, j + 1, _, .cons h r, e => by
    obtain ⟨v, e1, h1⟩ := FroL.at_ (j := j) r (by simpa using e)
    exact ⟨v, by simpa using e1, h1⟩
theorem LonL.at_ {K : PySem.W.Frag} {F G : Hp} : ∀ {xs : List T} {vs : List V} {j : Nat} {t : T}, LonL K F G xs vs → xs[j]? = some t → ∃ v, vs[j]? = some v ∧ Lon K F G t v
  | _, _, _, _, .nil, e => by simp at e
  | _, _, 0, _, .cons h r, e => by simp at e; subst e; exact ⟨_, rfl, h⟩
  | _, _, j + 1, _, .cons h r, e => by
    obtain ⟨v, e1, h1⟩ := LonL.at_ (j := j) r (by simpa using e)
    exact ⟨v, by simpa using e1, h1⟩
/-- the kids of a node that is not owned may be had again and again -/
theorem Lon.kid {K : PySem.W.Frag} {F G : Hp} {fl : Fg} {k : Kd} {xs : List T} {v : V} (h : Lon K F G (.nd fl k xs) v) (fg : Same F G) : ∃ (a : Addr) (vs : List V), v = .ref a ∧ Stands K G a k vs ∧ xs.length = vs.length ∧ ∀ (j : Nat) (t : T), xs[j]? = some t → ∃ u, vs[j]? = some u ∧ Lon K F G t u := by
  cases h with
  | fz h st => exact ⟨_, _, rfl, st.mono fg, h.length, fun j t e => let ⟨u, e1, h1⟩ := h.at_ e; ⟨u, e1, h1.lon⟩⟩
  | ln h st => exact ⟨_, _, rfl, st, h.length, fun j t e => h.at_ e⟩
def notOw : T → Bool
  | .nd .ow _ _ => false
  | _ => true
theorem nrm_notOw (t : T) : notOw t.nrm = true := by
  unfold T.nrm
  split
  · cases t with
    | nd f k xs => cases f <;> rfl
    | _ => rfl
  · cases t with
    | nd f k xs => cases f <;> rfl
    | _ => rfl
theorem Rep.notOw {K : PySem.W.Frag} {F G : Hp} {t : T} {v : V} {as : List Addr} (n : TV.notOw t = true) (h : Rep K F G t v as) : as = [] ∧ Lon K F G t v := by
  cases h with
  | lon h => exact ⟨rfl, h⟩
  | ow h e f => cases n
/-- what stands at the head, not owned, and one of its kids beside it -/
theorem Stt.kid {K : PySem.W.Frag} {fl : Fg} {k : Kd} {xs : List T} {v : V} (S : Stt K B σ H δ ((v, .nd fl k xs) :: ts)) (n : notOw (.nd fl k xs) = true) :
    ∃ (a : Addr) (vs : List V), v = .ref a ∧ Stands K H a k vs ∧ xs.length = vs.length ∧ ∀ (j : Nat) (t : T), xs[j]? = some t → ∃ u, vs[j]? = some u ∧ Stt K B σ H δ ((u, t) :: (v, .nd fl k xs) :: ts) := by
  obtain ⟨F, G, av, ah, at_, I⟩ := S
  have tm := I.tm
  cases tm with
  | cons h1 r =>
    rename_i as at_
    obtain ⟨rfl, hl⟩ := h1.notOw n
    obtain ⟨a, vs, e1, st, l, kk⟩ := hl.kid I.fg
    refine ⟨a, vs, e1, st.mono I.gh, l, fun j t e => ?_⟩
    obtain ⟨u, eu, hu⟩ := kk j t e
    exact ⟨u, eu, I.re (.cons (.lon hu) (.cons h1 r)) fun b => by simp⟩
/-- a list that is walked -/
def seqOf (t : T) : Option (List T) := match t with
  | .nd _ .lst xs => some xs
  | .nd _ .lsg xs => some xs
  | _ => none
def iSeq (f : ES) : IS := fun δ => (f δ).bind fun t δ => match seqOf t.nrm with
  | some xs => .ok (t.noLn, xs) δ
  | none => .bad
theorem Stt.listV {K : PySem.W.Frag} {t : T} {xs : List T} {v : V} (S : Stt K B σ H δ ((v, t) :: ts)) (n : notOw t = true) (e : seqOf t = some xs) :
    ∃ (a : Addr) (vs : List V), v = .ref a ∧ SqL K H a vs ∧ xs.length = vs.length ∧ (∀ (j : Nat) (u : T), xs[j]? = some u → ∃ y, vs[j]? = some y ∧ Stt K B σ H δ ((y, u) :: (v, t) :: ts)) := by
  unfold seqOf at e
  split at e
  · cases e
    obtain ⟨a, vs, e1, st, l, kk⟩ := S.kid n
    exact ⟨a, vs, e1, SqL.of st, l, kk⟩
  · cases e
    obtain ⟨a, vs, e1, st, l, kk⟩ := S.kid n
    exact ⟨a, vs, e1, st, l, kk⟩
  · cases e
theorem nrm_noLn {t : T} (h : t.noLn = true) : t.nrm.noLn = true := by unfold T.nrm; rw [if_pos h]; exact t.frz_noLn
theorem di_list (hl : DE X W e f) : DI X W tg e (iSeq f) :=
  (pi_list hl).imp fun σ H Rr ⟨B, δ, ts, S, h⟩ => ⟨B, δ, ts, S, h.bind.mono fun t δ1 h1 v H1 S1 n1 => by
    have S2 := S1.nrm
    cases e1 : seqOf t.nrm with
    | none => rw [e1] at h1; exact h1.elim
    | some xs =>
      rw [e1] at h1
      obtain ⟨a, vs, rfl, sq, l, kk⟩ := S2.listV (nrm_notOw t) e1
      refine ⟨a, rfl, ⟨vs, sq⟩, h1 (Itl X.K a) H1 [(.ref a, t.nrm)] S2 (fun B' σ' H' δ' ts' i _ S' => ?_) (fun hc p hp => ?_) n1⟩
      · obtain ⟨a', vs', ea, sq', l', kk'⟩ := Stt.listV (ts := ts') S' (nrm_notOw t) e1
        cases ea
        refine ⟨fun u eu => ?_, fun hle => ⟨vs', sq', by dsimp only at hle; omega⟩⟩
        obtain ⟨y, ey, S''⟩ := kk' i u eu
        refine ⟨⟨vs', y, sq', ey⟩, fun y2 H2 hy => ?_⟩
        obtain ⟨rfl, hy⟩ := hy
        have := hy vs' sq'
        rw [ey] at this; cases this
        exact S''
      · simp at hp; subst hp; exact nrm_noLn hc⟩
def tupOf (t : T) : Option (List T) := match t with
  | .nd _ .tup xs => some xs
  | .nd _ .tpg xs => some xs
  | _ => none
def iTupS (f : ES) : IS := fun δ => (f δ).bind fun t δ => match tupOf t.nrm with
  | some xs => .ok (t.noLn, xs) δ
  | none => .bad
theorem Stt.tupV {K : PySem.W.Frag} {t : T} {xs : List T} {v : V} (S : Stt K B σ H δ ((v, t) :: ts)) (n : notOw t = true) (e : tupOf t = some xs) :
    ∃ (a : Addr) (vs : List V), v = .ref a ∧ SqT K H a vs ∧ xs.length = vs.length ∧ (∀ (j : Nat) (u : T), xs[j]? = some u → ∃ y, vs[j]? = some y ∧ Stt K B σ H δ ((y, u) :: (v, t) :: ts)) := by
  unfold tupOf at e
  split at e
  · cases e
    obtain ⟨a, vs, e1, st, l, kk⟩ := S.kid n
    exact ⟨a, vs, e1, SqT.of st, l, kk⟩
  · cases e
    obtain ⟨a, vs, e1, st, l, kk⟩ := S.kid n
    exact ⟨a, vs, e1, st, l, kk⟩
  · cases e
theorem di_tup (hl : DE X W e f) : DI X W tg e (iTupS f) :=
  (pi_tup hl).imp fun σ H Rr ⟨B, δ, ts, S, h⟩ => ⟨B, δ, ts, S, h.bind.mono fun t δ1 h1 v H1 S1 n1 => by
    have S2 := S1.nrm
    cases e1 : tupOf t.nrm with
    | none => rw [e1] at h1; exact h1.elim
    | some xs =>
      rw [e1] at h1
      obtain ⟨a, vs, rfl, sq, l, kk⟩ := S2.tupV (nrm_notOw t) e1
      refine ⟨a, rfl, ⟨vs, sq⟩, h1 (Itt X.K a) H1 [(.ref a, t.nrm)] S2 (fun B' σ' H' δ' ts' i _ S' => ?_) (fun hc p hp => ?_) n1⟩
      · obtain ⟨a', vs', ea, sq', l', kk'⟩ := Stt.tupV (ts := ts') S' (nrm_notOw t) e1
        cases ea
        refine ⟨fun u eu => ?_, fun hle => ⟨vs', sq', by dsimp only at hle; omega⟩⟩
        obtain ⟨y, ey, S''⟩ := kk' i u eu
        refine ⟨⟨vs', y, sq', ey⟩, fun y2 H2 hy => ?_⟩
        obtain ⟨rfl, hy⟩ := hy
        have := hy vs' sq'
        rw [ey] at this; cases this
        exact S''
      · simp at hp; subst hp; exact nrm_noLn hc⟩
/-- range -/
def rgT (lo : Int) (n : Nat) : List T := (List.range n).map fun (k : Nat) => T.int (lo + (k : Int))
def rgOk (lo hi : Int) : Bool := decide (-(2 ^ 62) ≤ lo) && (decide (lo < 2 ^ 62) && (decide (-(2 ^ 62) ≤ hi) && decide (hi < 2 ^ 62)))
theorem rgT_get {lo : Int} {n i : Nat} {t : T} (h : (rgT lo n)[i]? = some t) : i < n ∧ t = .int (lo + i) := by
  unfold rgT at h
  rw [List.getElem?_map] at h
  cases e : (List.range n)[i]? with
  | none => rw [e] at h; cases h
  | some k =>
    rw [e] at h
    have := List.getElem?_eq_some_iff.mp e
    obtain ⟨h1, h2⟩ := this
    rw [List.getElem_range] at h2
    subst h2
    exact ⟨by simpa using h1, (Option.some.inj h).symm⟩
theorem rgT_len {lo : Int} {n : Nat} : (rgT lo n).length = n := by unfold rgT; simp
theorem it_range {F0 : Hp} {lo : Int} {n : Nat} : ItOk X F0 (Itr lo n) [] (rgT lo n) := fun B σ H δ ts i _ S => ⟨fun t e => by
    obtain ⟨h1, rfl⟩ := rgT_get e
    refine ⟨h1, fun y H' hy => ?_⟩
    obtain ⟨rfl, rfl⟩ := hy
    exact Stt.pushS rfl S, fun h => by rw [rgT_len] at h; exact h⟩
def rg1 (args : List T) : Option (List T) := match args with
  | [.int j] => if rgOk 0 j = true then some (rgT 0 j.toNat) else none
  | _ => none
def rg2 (args : List T) : Option (List T) := match args with
  | [.int i, .int j] => if rgOk i j = true then some (rgT i (j - i).toNat) else none
  | _ => none
def iRg (step : List T → Option (List T)) (g : AS) : IS := fun δ => (g δ).bind fun as δ => match valsOf as with
  | none => .bad
  | some args => match step args with
    | some xs => .ok (true, xs) δ
    | none => .bad
theorem Stt.sameS {K : PySem.W.Frag} {as : List Ar} {vs : List V} {xs : List T} (S : Stt K B σ H δ (pushA as vs ts)) (e : valsOf as = some xs) (l : as.length = vs.length) : SameS xs vs ∧ Stt K B σ H δ ts :=
  ⟨S.see fun F G c fg gh fb rr => by
    obtain ⟨a1, a2, r1, r2, _⟩ := rr.pushed e l
    exact r1.sameS, S.conv fun F G c fg gh fb rr => by
    obtain ⟨a1, a2, r1, r2, h⟩ := rr.pushed e l
    exact ⟨a2, r2, fun x => by have := h x; omega⟩⟩
theorem di_range1 {g : AS} {p : Pos} (hg : Gl X "range") (hm : X.mg "range" = none) (ha : DA X W [a] g) (hs : starEach [a] X.env = [(false, eval a X.env)] := by rfl) : DI X W tg (.Call (.Name "range" p) [a] [] pos) (iRg rg1 g) :=
  (pi_range1 hg hm ha hs).imp fun σ H Rr ⟨B, δ, ts, S, h⟩ => ⟨B, δ, ts, S, h.bind.mono fun as δ1 h1 vs H1 S1 k1 n1 => by
    cases e1 : valsOf as with
    | none => rw [e1] at h1; exact h1.elim
    | some args =>
      rw [e1] at h1
      dsimp only at h1
      obtain ⟨ss, S2⟩ := S1.sameS e1 k1.len
      cases e2 : rg1 args with
      | none => rw [e2] at h1; exact h1.elim
      | some xs =>
        rw [e2] at h1
        unfold rg1 at e2
        split at e2
        · rename_i j
          by_cases hz : rgOk 0 j = true
          · rw [if_pos hz] at e2; cases e2
            match vs, ss with
            | [v], ss =>
              have ev := ss.1 j rfl
              subst ev
              unfold rgOk at hz
              simp only [Bool.and_eq_true, decide_eq_true_eq] at hz
              exact ⟨j, rfl, hz.2.2.1, hz.2.2.2, h1 _ H1 [] S2 it_range (fun _ p hp => nomatch hp) n1⟩
          · rw [if_neg hz] at e2; cases e2
        · cases e2⟩
theorem di_range2 {g : AS} {p : Pos} (hg : Gl X "range") (hm : X.mg "range" = none) (ha : DA X W [a, b] g) (hs : starEach [a, b] X.env = [(false, eval a X.env), (false, eval b X.env)] := by rfl) (hs2 : starEach [b] X.env = [(false, eval b X.env)] := by rfl) : DI X W tg (.Call (.Name "range" p) [a, b] [] pos) (iRg rg2 g) :=
  (pi_range2 hg hm ha hs hs2).imp fun σ H Rr ⟨B, δ, ts, S, h⟩ => ⟨B, δ, ts, S, h.bind.mono fun as δ1 h1 vs H1 S1 k1 n1 => by
    cases e1 : valsOf as with
    | none => rw [e1] at h1; exact h1.elim
    | some args =>
      rw [e1] at h1
      dsimp only at h1
      obtain ⟨ss, S2⟩ := S1.sameS e1 k1.len
      cases e2 : rg2 args with
      | none => rw [e2] at h1; exact h1.elim
      | some xs =>
        rw [e2] at h1
        unfold rg2 at e2
        split at e2
        · rename_i i j
          by_cases hz : rgOk i j = true
          · rw [if_pos hz] at e2; cases e2
            match vs, ss with
            | [v, w], ss =>
              have ev := ss.1 i rfl
              have ew := ss.2.1 j rfl
              subst ev ew
              unfold rgOk at hz
              simp only [Bool.and_eq_true, decide_eq_true_eq] at hz
              exact ⟨i, j, rfl, hz, h1 _ H1 [] S2 it_range (fun _ p hp => nomatch hp) n1⟩
          · rw [if_neg hz] at e2; cases e2
        · cases e2⟩
/-- zip, enumerate: pairs -/
def pairT (x y : T) : T := mkN .tup [x, y]
def zipT (args : List T) : Option (List T) := match args with
  | [s, t] => (seqOf s).bind fun xs => (seqOf t).map fun ys => List.zipWith pairT xs ys
  | _ => none
/-- the arguments of an iterator's call stand beside the loop -/
def iArgs (step : List T → Option (List T)) (g : AS) : IS := fun δ => (g δ).bind fun as δ => match valsOf as with
  | none => .bad
  | some args => if args.all notOw = true then (match step args with
    | some xs => .ok (T.noLnL args, xs) δ
    | none => .bad) else .bad
theorem Stt.pair {K : PySem.W.Frag} {x y : T} {v w : V} {q : Addr} (S : Stt K B σ H δ ((v, x) :: (w, y) :: ts)) (hq : H q = none) : Stt K B σ (upd H q (.tup [v, w])) δ ((.ref q, pairT x y) :: ts) :=
  S.alloc (k := .tup) (vs := [v, w]) hq trivial fun F G as fg gh r => by
    cases r with
    | cons h1 r => cases r with
      | cons h2 r => exact ⟨_, _, .cons h1 (.cons h2 .nil), r, fun a => by simp only [List.count_append, List.count_nil]; omega⟩
theorem zipWith_get {α β γ : Type} {g : α → β → γ} {xs : List α} {ys : List β} {i : Nat} {z : γ} (h : (List.zipWith g xs ys)[i]? = some z) : ∃ x y, xs[i]? = some x ∧ ys[i]? = some y ∧ z = g x y := by
  rw [List.getElem?_zipWith] at h
  cases e1 : xs[i]? with
  | none => rw [e1] at h; cases h
  | some x => cases e2 : ys[i]? with
    | none => rw [e1, e2] at h; cases h
    | some y => rw [e1, e2] at h; exact ⟨x, y, rfl, rfl, (Option.some.inj h).symm⟩
theorem di_zip {g : AS} {p tpos : Pos} {elts : List Expr} {kk : Nat} (hg : Gl X "zip") (hm : X.mg "zip" = none) (ha : DA X W [a, b] g)
    (hs : starEach [a, b] X.env = (false, eval a X.env) :: starEach [b] X.env := by rfl) (hpl : (backTo pos (starEach [b] X.env)).any (·.1) = false := by rfl) :
    DI X W (.Tuple elts kk tpos) (.Call (.Name "zip" p) [a, b] [] pos) (iArgs zipT g) :=
  (pi_zip hg hm ha hs hpl).imp fun σ H Rr ⟨B, δ, ts, S, h⟩ => ⟨B, δ, ts, S, h.bind.mono fun as δ1 h1 vs H1 S1 k1 n1 => by
    cases e1 : valsOf as with
    | none => rw [e1] at h1; exact h1.elim
    | some args =>
      rw [e1] at h1
      dsimp only at h1
      by_cases hz : args.all notOw = true
      · rw [if_pos hz] at h1
        cases e2 : zipT args with
        | none => rw [e2] at h1; exact h1.elim
        | some items =>
          rw [e2] at h1
          unfold zipT at e2
          split at e2
          · rename_i s t
            cases e3 : seqOf s with
            | none => rw [e3] at e2; cases e2
            | some xs => cases e4 : seqOf t with
              | none => rw [e3, e4] at e2; cases e2
              | some ys =>
                rw [e3, e4] at e2
                obtain rfl : List.zipWith pairT xs ys = items := Option.some.inj e2
                have n3 : notOw s = true ∧ notOw t = true := by simpa using hz
                have lv := valsOf_len e1
                have lk := k1.len
                have S2 : ∃ v w, vs = [v, w] ∧ Stt X.K B σ H1 δ1 ((w, t) :: (v, s) :: ts) := by
                  match as, vs, e1, lk, S1 with
                  | [.val s', .val t'], [v, w], e1, _, S1 => cases e1; exact ⟨v, w, rfl, S1⟩
                  | [.val _, .ref _], _, e1, _, _ => cases e1
                  | [.ref _, _], _, e1, _, _ => cases e1
                  | [], _, _, _, _ => simp at lv
                  | [_], _, _, _, _ => simp at lv
                  | _ :: _ :: _ :: _, _, _, _, _ => simp at lv
                obtain ⟨v, w, rfl, S2⟩ := S2
                obtain ⟨a2, vs2, rfl, sq2, l2, kk2⟩ := S2.listV n3.2 e4
                obtain ⟨a1, vs1, rfl, sq1, l1, kk1⟩ := S2.swap.listV n3.1 e3
                refine ⟨a1, a2, vs1, vs2, rfl, sq1, sq2, h1 (Itz X.K a1 a2) H1 [(.ref a2, t), (.ref a1, s)] S2 (fun B' σ' H' δ' ts' i _ S' => ?_) (fun hc p hp => ?_) n1⟩
                · obtain ⟨b2, ws2, q2, sr2, m2, kr2⟩ := Stt.listV (ts := (.ref a1, s) :: ts') S' n3.2 e4
                  cases q2
                  have S'' : Stt X.K B' σ' H' δ' ((.ref a1, s) :: (.ref a2, t) :: ts') := Stt.swap (ts := ts') S'
                  obtain ⟨b1, ws1, q1, sr1, m1, kr1⟩ := S''.listV n3.1 e3
                  cases q1
                  refine ⟨fun z ez => ?_, fun hle => ⟨ws1, ws2, sr1, sr2, by rw [List.length_zipWith] at hle; omega⟩⟩
                  obtain ⟨x, y, ex, ey, rfl⟩ := zipWith_get ez
                  obtain ⟨v2, ev2, Sy⟩ := kr2 i y ey
                  refine ⟨?_, fun y2 H2 hy => ?_⟩
                  · obtain ⟨v1, ev1, _⟩ := kr1 i x ex
                    exact ⟨ws1, ws2, v1, v2, sr1, sr2, ev1, ev2⟩
                  · obtain ⟨q, u1, u2, rfl, hq, rfl, f1, f2⟩ := hy
                    obtain ⟨v1, ev1, _⟩ := kr1 i x ex
                    have g1 := f1 ws1 sr1; rw [ev1] at g1
                    have g2 := f2 ws2 sr2; rw [ev2] at g2
                    have g1 := (Option.some.inj g1).symm
                    have g2 := (Option.some.inj g2).symm
                    subst g1 g2
                    -- both items in hand, the lists behind them
                    have Sx : Stt X.K B' σ' H' δ' ((u1, x) :: (u2, y) :: ((.ref a2, t) :: (.ref a1, s) :: ts')) := by
                      have S3 : Stt X.K B' σ' H' δ' ((.ref a1, s) :: (u2, y) :: (.ref a2, t) :: ts') := Sy.conv fun F G as _ _ _ r => by
                        cases r with
                        | cons p1 r => cases r with
                          | cons p2 r => cases r with
                            | cons p3 r => exact ⟨_, .cons p3 (.cons p1 (.cons p2 r)), fun a => by simp only [List.count_append]; omega⟩
                      obtain ⟨b1', ws1', q1', sr1', m1', kr1'⟩ := S3.listV n3.1 e3
                      cases q1'
                      obtain ⟨u, eu, S4⟩ := kr1' i x ex
                      have : u = u1 := by
                        have := f1 ws1' sr1'; rw [eu] at this; cases this; rfl
                      subst this
                      exact S4.conv fun F G as _ _ _ r => by
                        cases r with
                        | cons p1 r => cases r with
                          | cons p2 r => cases r with
                            | cons p3 r => cases r with
                              | cons p4 r => exact ⟨_, .cons p1 (.cons p3 (.cons p4 (.cons p2 r))), fun a => by simp only [List.count_append]; omega⟩
                    exact Sx.pair hq
                · have hc : T.noLnL [s, t] = true := hc
                  rw [noLnL_iff] at hc
                  simp at hp
                  rcases hp with rfl | rfl
                  · exact hc t (by simp)
                  · exact hc s (by simp)
          · cases e2
      · rw [if_neg hz] at h1; exact h1.elim⟩
end
end TV
set_option Elab.async false
set_option linter.all false
set_option maxRecDepth 100000
set_option maxHeartbeats 4000000
namespace TV
open PySem PySem.Spec PyProof.Rows L2
section
variable {X : Cx} {W : WX} {B : Bs} {σ : L2.St} {δ δ0 δ1 : Sl} {ts ts1 : List (V × T)} {H : Hp} {a b c e base idx tg : Expr} {es : List Expr} {f fa fb fc fi : ES} {pos pos' spos cpos apos : Pos} {i : Nat} {x : Str}
theorem RTs.perm {K : PySem.W.Frag} {F G : Hp} {ts ts' : List (V × T)} (p : ts.Perm ts') : ∀ {as : List Addr}, RTs K F G ts as → ∃ as', RTs K F G ts' as' ∧ ∀ a, as'.count a = as.count a := by
  induction p with
  | nil => exact fun r => ⟨_, r, fun _ => rfl⟩
  | cons x p ih => intro as r; cases r with
    | cons h r => obtain ⟨as', q, c⟩ := ih r; exact ⟨_, .cons h q, fun a => by rw [List.count_append, List.count_append, c]⟩
  | swap x y l => intro as r; cases r with
    | cons h r => cases r with
      | cons h2 r => exact ⟨_, .cons h2 (.cons h r), fun a => by simp only [List.count_append]; omega⟩
  | trans p q ih1 ih2 => intro as r; obtain ⟨a1, q1, c1⟩ := ih1 r; obtain ⟨a2, q2, c2⟩ := ih2 q1; exact ⟨a2, q2, fun a => by rw [c2, c1]⟩
theorem Stt.perm {K : PySem.W.Frag} {ts ts' : List (V × T)} (p : ts.Perm ts') (S : Stt K B σ H δ ts) : Stt K B σ H δ ts' := S.conv fun F G as _ _ _ r => let ⟨as', q, c⟩ := r.perm p; ⟨as', q, fun a => Nat.le_of_eq (c a)⟩
def saveL : List Nat → Sl → Option (List (Nat × T) × Sl)
  | [], δ => some ([], δ)
  | v :: vs, δ => match δ[v]? with
    | some .un => saveL vs δ
    | some (.vis false t) => (saveL vs (δ.set v .un)).map fun p => ((v, t) :: p.1, p.2)
    | _ => none
def blank : List Nat → Sl → Option Sl
  | [], δ => some δ
  | v :: vs, δ => match δ[v]? with
    | some s => if s.pin = true then none else blank vs (δ.set v .un)
    | none => none
def backL : List (Nat × T) → Sl → Option Sl
  | [], δ => some δ
  | (v, t) :: r, δ => match δ[v]? with
    | some .un => backL r (δ.set v (.vis false t))
    | _ => none
theorem Stt.out {K : PySem.W.Frag} (S : Stt K B σ H δ ts) (e : δ[i]? = some .un) (o : Option V) : Stt K B (σ.set i o) H δ ts := by
  have := S.forget e rfl o
  have hs : δ.set i .un = δ := by
    apply List.ext_getElem?
    intro j
    by_cases hj : i = j
    · subst hj; rw [List.getElem?_set_self (List.getElem?_eq_some_iff.mp e).1, e]
    · rw [List.getElem?_set_ne hj]
  rwa [hs] at this
theorem set_wipe {σ : L2.St} {v : Nat} : ∀ {vs : List Nat}, (wipe σ vs).set v none = wipe (σ.set v none) vs
  | [] => rfl
  | w :: ws => by
    show ((wipe σ ws).set w none).set v none = (wipe (σ.set v none) ws).set w none
    by_cases h : w = v
    · subst h; rw [List.set_set, ← set_wipe, List.set_set]
    · rw [List.set_comm _ _ h, set_wipe]
theorem wipe_wipe {σ : L2.St} : ∀ {vs : List Nat}, wipe (wipe σ vs) vs = wipe σ vs
  | [] => rfl
  | v :: vs => by
    show (wipe ((wipe σ vs).set v none) vs).set v none = (wipe σ vs).set v none
    rw [set_wipe, List.set_set, ← set_wipe, wipe_wipe]
theorem NoLn.un (n : NoLn δ) : NoLn (δ.set i .un) := n.set rfl
theorem saveL_ok {K : PySem.W.Frag} : ∀ {vs : List Nat} {σ : L2.St} {δ δ' : Sl} {kp : List (Nat × T)} {ts : List (V × T)}, saveL vs δ = some (kp, δ') → Stt K B σ H δ ts →
    ∃ kv : List V, kv.length = kp.length ∧ Stt K B (wipe σ vs) H δ' (kv.zip (kp.map (·.2)) ++ ts) ∧ (∀ (j : Nat) (v : V), (kv[j]? = some v) → ∃ p : Nat × T, kp[j]? = some p ∧ σ[p.1]? = some (some v)) ∧ (NoLn δ → NoLn δ') ∧ (NoLn δ → ∀ p ∈ kp, p.2.noLn = true) ∧ (∀ v ∈ vs, δ'[v]? = some .un) ∧ (∀ v : Nat, δ[v]? = some .un → δ'[v]? = some .un)
  | [], σ, δ, δ', kp, ts, e, S => by cases e; exact ⟨[], rfl, S, fun j v h => by simp at h, id, fun _ p h => (nomatch h), fun v h => (nomatch h), fun _ => id⟩
  | v :: vs, σ, δ, δ', kp, ts, e, S => by
    unfold saveL at e
    split at e
    · rename_i eu
      obtain ⟨kv, l, S', k1, k2, k3, k4, k5⟩ := saveL_ok e (S.out eu none)
      refine ⟨kv, l, by show Stt K B ((wipe σ vs).set v none) H _ _; rw [set_wipe]; exact S', fun j u hu => ?_, k2, k3, fun w hw => ?_, k5⟩
      · obtain ⟨p, e1, e2⟩ := k1 j u hu
        refine ⟨p, e1, ?_⟩
        by_cases hv : v = p.1
        · rw [hv] at e2
          rw [List.getElem?_set] at e2
          split at e2
          · split at e2 <;> cases e2
          · exact e2
        · rwa [List.getElem?_set_ne hv] at e2
      · rcases List.mem_cons.mp hw with rfl | hw
        · exact k5 _ eu
        · exact k4 w hw
    · rename_i t ev
      cases es : saveL vs (δ.set v .un) with
      | none => rw [es] at e; cases e
      | some p =>
        obtain ⟨kp2, δ2⟩ := p
        rw [es] at e
        cases e
        obtain ⟨x, ex, S1⟩ := S.move ev
        have hi := (List.getElem?_eq_some_iff.mp ev).1
        have eu : (δ.set v .un)[v]? = some Sl1.un := List.getElem?_set_self hi
        obtain ⟨kv, l, S', k1, k2, k3, k4, k5⟩ := saveL_ok es (S1.out eu none)
        refine ⟨x :: kv, by simp [l], ?_, fun j u hu => ?_, fun n => k2 n.un, fun n p hp => ?_, fun w hw => ?_, fun w hw => ?_⟩
        · show Stt K B ((wipe σ vs).set v none) H _ ((x, t) :: (kv.zip (kp2.map (·.2)) ++ ts))
          rw [set_wipe]
          exact S'.perm List.perm_middle
        · cases j with
          | zero => cases hu; exact ⟨(v, t), rfl, ex⟩
          | succ j =>
            obtain ⟨p, e1, e2⟩ := k1 j u (by simpa using hu)
            refine ⟨p, by simpa using e1, ?_⟩
            by_cases hv : v = p.1
            · rw [hv] at e2
              rw [List.getElem?_set] at e2
              split at e2
              · split at e2 <;> cases e2
              · exact e2
            · rwa [List.getElem?_set_ne hv] at e2
        · rcases List.mem_cons.mp hp with rfl | hp
          · exact n _ (List.mem_of_getElem? ev)
          · exact k3 n.un p hp
        · rcases List.mem_cons.mp hw with rfl | hw
          · exact k5 _ eu
          · exact k4 w hw
        · by_cases hv : v = w
          · subst hv; exact k5 _ eu
          · exact k5 w (by rw [List.getElem?_set_ne hv]; exact hw)
    · cases e
theorem blank_ok {K : PySem.W.Frag} : ∀ {vs : List Nat} {σ : L2.St} {δ δ' : Sl} {ts : List (V × T)}, blank vs δ = some δ' → Stt K B σ H δ ts → Stt K B (wipe σ vs) H δ' ts ∧ (NoLn δ → NoLn δ')
  | [], σ, δ, δ', ts, e, S => by cases e; exact ⟨S, id⟩
  | v :: vs, σ, δ, δ', ts, e, S => by
    unfold blank at e
    split at e
    · rename_i s es
      by_cases hp : s.pin = true
      · rw [if_pos hp] at e; cases e
      · rw [if_neg hp] at e
        obtain ⟨S', k⟩ := blank_ok e (S.forget es (by simpa using hp) none)
        exact ⟨by show Stt K B ((wipe σ vs).set v none) H _ _; rw [set_wipe]; exact S', fun n => k n.un⟩
    · cases e
theorem backL_ok {K : PySem.W.Frag} : ∀ {kp : List (Nat × T)} {kv : List V} {σ : L2.St} {δ δ' : Sl} {ts : List (V × T)}, backL kp δ = some δ' → kv.length = kp.length → (∀ (j : Nat) (v : V), (kv[j]? = some v) → ∃ p : Nat × T, kp[j]? = some p ∧ σ[p.1]? = some (some v)) → Stt K B σ H δ (kv.zip (kp.map (·.2)) ++ ts) →
    Stt K B σ H δ' ts ∧ (NoLn δ → (∀ p ∈ kp, p.2.noLn = true) → NoLn δ')
  | [], [], σ, δ, δ', ts, e, l, k, S => by cases e; exact ⟨S, fun n _ => n⟩
  | (v, t) :: r, x :: kv, σ, δ, δ', ts, e, l, k, S => by
    unfold backL at e
    split at e
    · rename_i eu
      obtain ⟨p, e1, e2⟩ := k 0 x rfl
      cases e1
      have S1 : Stt K B σ H (δ.set v (.vis false t)) (kv.zip (r.map (·.2)) ++ ts) := Stt.unmove S eu e2
      obtain ⟨S2, n2⟩ := backL_ok e (by simpa using l) (fun j u hu => k (j + 1) u (by simpa using hu)) S1
      exact ⟨S2, fun n hp => n2 (n.set (hp _ List.mem_cons_self)) fun p h => hp p (List.mem_cons_of_mem _ h)⟩
    · cases e
  | [], _ :: _, _, _, _, _, _, l, _, _ => by cases l
  | _ :: _, [], _, _, _, _, _, l, _, _ => by cases l
theorem RSl.resig {K : PySem.W.Frag} {F G H : Hp} : ∀ {σ σ' : L2.St} {δ : Sl} {av ah : List Addr}, RSl K F G H σ δ av ah → σ'.length = σ.length → (∀ i : Nat, δ[i]? ≠ some .un → σ'[i]? = σ[i]?) → RSl K F G H σ' δ av ah
  | _, [], _, _, _, .nil, _, _ => .nil
  | _, o :: σ', _, _, _, .un r, l, h => .un (RSl.resig r (by simpa using l) fun i hi => by simpa using h (i + 1) (by simpa using hi))
  | _, o :: σ', _, _, _, .vis q r, l, h => by
    have h0 := h 0 (by simp)
    simp at h0; subst h0
    exact .vis q (RSl.resig r (by simpa using l) fun i hi => by simpa using h (i + 1) (by simpa using hi))
  | _, o :: σ', _, _, _, .hid n q r, l, h => by
    have h0 := h 0 (by simp)
    simp at h0; subst h0
    exact .hid n q (RSl.resig r (by simpa using l) fun i hi => by simpa using h (i + 1) (by simpa using hi))
  | _, _ :: _, _, _, _, .nil, l, _ => by cases l
  | _, [], _, _, _, .un _, l, _ => by cases l
  | _, [], _, _, _, .vis _ _, l, _ => by cases l
  | _, [], _, _, _, .hid _ _ _, l, _ => by cases l
theorem Stt.resig {K : PySem.W.Frag} {σ' : L2.St} (S : Stt K B σ H δ ts) (l : σ'.length = σ.length) (h : ∀ i : Nat, δ[i]? ≠ some .un → σ'[i]? = σ[i]?) : Stt K B σ' H δ ts := by
  obtain ⟨F, G, av, ah, at_, ⟨fb, fg, gh, sl, tm, nd, fo, hg, fr, nw, nf, pn, gx, ba, im⟩⟩ := S
  refine ⟨F, G, av, ah, at_, fb, fg, gh, sl.resig l h, tm, nd, fo, hg, fr, nw, nf, fun p hp => ?_, gx, ba, im⟩
  obtain ⟨e1, s, e2, e3⟩ := pn p hp
  exact ⟨by rw [h p.1 (fun z => by rw [e2] at z; cases z; cases e3)]; exact e1, s, e2, e3⟩
theorem wipe_out {σ : L2.St} {i : Nat} : ∀ {vs : List Nat}, i ∉ vs → (wipe σ vs)[i]? = σ[i]?
  | [], _ => rfl
  | v :: vs, h => by
    show ((wipe σ vs).set v none)[i]? = _
    rw [List.getElem?_set_ne (fun z : v = i => h (by rw [z]; exact List.mem_cons_self)), wipe_out fun z => h (List.mem_cons_of_mem _ z)]
theorem blank_un : ∀ {vs : List Nat} {δ δ' : Sl}, blank vs δ = some δ' → (∀ v ∈ vs, δ'[v]? = some .un) ∧ ∀ v : Nat, δ[v]? = some .un → δ'[v]? = some .un
  | [], _, _, e => by cases e; exact ⟨fun v h => (nomatch h), fun _ => id⟩
  | v :: vs, δ, δ', e => by
    unfold blank at e
    split at e
    · rename_i s es
      by_cases hp : s.pin = true
      · rw [if_pos hp] at e; cases e
      · rw [if_neg hp] at e
        obtain ⟨k1, k2⟩ := blank_un e
        have hi := (List.getElem?_eq_some_iff.mp es).1
        refine ⟨fun w hw => ?_, fun w hw => ?_⟩
        · rcases List.mem_cons.mp hw with rfl | hw
          · exact k2 _ (List.getElem?_set_self hi)
          · exact k1 w hw
        · by_cases hv : v = w
          · subst hv; exact k2 _ (List.getElem?_set_self hi)
          · exact k2 w (by rw [List.getElem?_set_ne hv]; exact hw)
    · cases e
/-- the new list stands beside the block, untouched by it -/
theorem Stt.begin {K : PySem.W.Frag} {D : Addr} {o : HO} (S : Stt K B σ H δ ts) (hD : H D = none) (no : ∀ us, o ≠ .tup us := by intro us e; cases e) : Stt K { B with H := upd B.H D o, ex := D :: B.ex } σ (upd H D o) δ ts := by
  obtain ⟨F, G, av, ah, at_, ⟨fb, fg, gh, sl, tm, nd, fo, hg, fr, nw, nf, pn, gx, ba, im⟩⟩ := S
  have gD : G D = none := by
    cases e : G D with
    | none => rfl
    | some o => have := gh _ _ e; rw [hD] at this; cases this
  have nb : D ∉ B.as := fun z => by obtain ⟨o, e⟩ := ba D z; rw [hD] at e; cases e
  have sh : Same H (upd H D o) := fun b o e => by rw [upd_ne (ne_of_none e hD)]; exact e
  have nh : D ∉ ah := fun z => by obtain ⟨o, e⟩ := sl.thereH D z; rw [hD] at e; cases e
  have nv : D ∉ av := fun z => by obtain ⟨o, e⟩ := sl.thereV D z; rw [gD] at e; cases e
  have nt : D ∉ at_ := fun z => by obtain ⟨o, e⟩ := tm.there D z; rw [gD] at e; cases e
  have z1 := List.count_eq_zero.mpr nh
  have z2 := List.count_eq_zero.mpr nv
  have z3 := List.count_eq_zero.mpr nt
  have ne : ∀ a, 0 < av.count a + ah.count a + at_.count a → a ≠ D := fun a h z => by subst z; omega
  refine ⟨F, G, av, ah, at_, fb, fg, fun b o e => sh _ _ (gh b o e), sl.mono (fun _ _ e => e) (fun _ _ e => e) sh, tm, nd, fo, hg, fun b o e h => ?_, fun a h => ?_, fun a o e => ?_, pn, fun a ha => ?_, fun a ha => let ⟨o, e⟩ := ba a ha; ⟨o, sh _ _ e⟩, im.upd no⟩
  · by_cases hb : b = D
    · subst hb; dsimp only at e; rw [upd_same] at e ⊢; exact e
    · dsimp only at e; rw [upd_ne hb] at e ⊢; exact fr b o e h
  · dsimp only; rw [upd_ne (ne a h)]; exact nw a h
  · have : a ≠ D := fun z => by have := fg a o e; rw [z, gD] at this; cases this
    dsimp only; rw [upd_ne this]; exact nf a o e
  · rcases List.mem_cons.mp ha with rfl | ha
    · exact ⟨gD, ⟨o, by dsimp only; rw [upd_same]⟩, nb⟩
    · obtain ⟨g1, ⟨o2, e⟩, g3⟩ := gx a ha
      have : a ≠ D := fun z => by have := fr a o2 e g3; rw [z, hD] at this; cases this
      exact ⟨g1, ⟨o2, by dsimp only; rw [upd_ne this]; exact e⟩, g3⟩
theorem Stt.held {K : PySem.W.Frag} {D : Addr} (S : Stt K B σ H δ ts) (hD : D ∈ B.ex) : ∃ o, B.H D = some o ∧ H D = some o := by
  obtain ⟨F, G, av, ah, at_, I⟩ := S
  obtain ⟨g1, ⟨o, e⟩, g3⟩ := I.gx D hD
  exact ⟨o, e, I.fr D o e g3⟩
theorem Stt.write {K : PySem.W.Frag} {D : Addr} {o : HO} (S : Stt K B σ H δ ts) (hD : D ∈ B.ex) (no : ∀ us, o ≠ .tup us := by intro us e; cases e) : Stt K { B with H := upd B.H D o } σ (upd H D o) δ ts := by
  obtain ⟨F, G, av, ah, at_, ⟨fb, fg, gh, sl, tm, nd, fo, hg, fr, nw, nf, pn, gx, ba, im⟩⟩ := S
  obtain ⟨gD, ⟨o0, eD⟩, nb⟩ := gx D hD
  have ne : ∀ a, 0 < av.count a + ah.count a + at_.count a → a ≠ D := fun a h z => by
    subst z
    rcases nw a h with e | e
    · rw [eD] at e; cases e
    · exact nb e
  have nG : ∀ b o, G b = some o → b ≠ D := fun b o e z => by rw [z, gD] at e; cases e
  refine ⟨F, G, av, ah, at_, fb, fg, fun b o e => by rw [upd_ne (nG b o e)]; exact gh b o e, sl.hat fun a ha o e => by rw [upd_ne (ne a (by have := mem_of_count.mp ha; omega))]; exact e, tm, nd, fo, hg, fun b o e h => ?_, fun a h => ?_, fun a o e => ?_, pn, fun a ha => ?_, fun a ha => ?_, im.upd no⟩
  · by_cases hb : b = D
    · subst hb; dsimp only at e; rw [upd_same] at e ⊢; exact e
    · dsimp only at e; rw [upd_ne hb] at e ⊢; exact fr b o e h
  · dsimp only; rw [upd_ne (ne a h)]; exact nw a h
  · have : a ≠ D := nG a o (fg a o e)
    dsimp only; rw [upd_ne this]; exact nf a o e
  · obtain ⟨g1, ⟨o2, e⟩, g3⟩ := gx a ha
    refine ⟨g1, ?_, g3⟩
    by_cases hb : a = D
    · subst hb; exact ⟨o, by dsimp only; rw [upd_same]⟩
    · exact ⟨o2, by dsimp only; rw [upd_ne hb]; exact e⟩
  · obtain ⟨o2, e⟩ := ba a ha
    have : a ≠ D := fun z => nb (z ▸ ha)
    exact ⟨o2, by rw [upd_ne this]; exact e⟩
/-- the block is done: the new list is the state's own -/
theorem RTs.unzip {K : PySem.W.Frag} {F G : Hp} : ∀ {vs : List V} {xs : List T} {as : List Addr}, vs.length = xs.length → RTs K F G (vs.zip xs) as → RepL K F G xs vs as
  | [], [], _, _, .nil => .nil
  | _ :: _, _ :: _, _, l, .cons h r => .cons h (RTs.unzip (by simpa using l) r)
  | [], _ :: _, _, l, _ => by cases l
  | _ :: _, [], _, l, _ => by cases l
theorem Stt.finish {K : PySem.W.Frag} {D : Addr} {o : HO} {k : Kd} {xs : List T} {vs : List V} (hB : B.H D = none) (hx : D ∉ B.ex) (S : Stt K { B with H := upd B.H D o, ex := D :: B.ex } σ H δ (vs.zip xs ++ ts)) (l : vs.length = xs.length) (ho : o = k.ho vs) (hf : k.fit vs.length) : Stt K B σ H δ ((.ref D, .nd .ow k xs) :: ts) := by
  obtain ⟨F, G, av, ah, at_, ⟨fb, fg, gh, sl, tm, nd, fo, hg, fr, nw, nf, pn, gx, ba, im⟩⟩ := S
  obtain ⟨gD, ⟨o0, eD⟩, nb⟩ := gx D List.mem_cons_self
  have HD : H D = some o := fr D o (by dsimp only; rw [upd_same]) nb
  have fD : F D = none := by
    cases e : F D with
    | none => rfl
    | some o => have := fg _ _ e; rw [gD] at this; cases this
  have ne : ∀ a, 0 < av.count a + ah.count a + at_.count a → a ≠ D := fun a h z => by
    subst z
    rcases nw a h with e | e
    · have eD : upd B.H a o a = some o0 := eD
      have e : upd B.H a o a = none := e
      rw [eD] at e; cases e
    · exact nb e
  obtain ⟨a1, a2, r1, r2, c⟩ := tm.split
  have r1' : RepL K F G xs vs a1 := RTs.unzip l r1
  have sg : Same G (upd G D o) := fun b o e => by rw [upd_ne (ne_of_none e gD)]; exact e
  have z0 : ∀ a, av.count a + ah.count a + ((D :: a1) ++ a2).count a = av.count a + ah.count a + at_.count a + (if D = a then 1 else 0) := fun a => by
    have := c a
    rw [List.cons_append, List.count_cons, List.count_append]
    by_cases e : D = a <;> simp [e] <;> omega
  have zD : av.count D + ah.count D + at_.count D = 0 := Nat.eq_zero_of_not_pos fun h => ne D h rfl
  have cq : ∀ a, 0 < av.count a + ah.count a + ((D :: a1) ++ a2).count a → a = D ∨ (a ≠ D ∧ 0 < av.count a + ah.count a + at_.count a) := fun a h => by
    by_cases e : D = a
    · exact .inl e.symm
    · rw [z0, if_neg e] at h; exact .inr ⟨fun z => e z.symm, by omega⟩
  subst ho
  refine ⟨F, upd G D (k.ho vs), av, ah, (D :: a1) ++ a2, fb, fun b o e => sg _ _ (fg b o e), fun b o e => ?_, sl.mono (fun _ _ e => e) sg (fun _ _ e => e), .cons (.ow (r1'.mono (fun _ _ e => e) sg) upd_same hf) (r2.mono (fun _ _ e => e) sg), fun a => ?_, fun a h => ?_, fun a h => ?_, fun b o e h => ?_, fun a h => ?_, fun a o e => ?_, pn, fun a ha => ?_, ba, im⟩
  · by_cases hb : b = D
    · subst hb; rw [upd_same] at e; rw [HD]; exact e
    · rw [upd_ne hb] at e; exact gh b o e
  · rw [z0]
    by_cases e : D = a
    · subst e; rw [if_pos rfl]; omega
    · rw [if_neg e]; exact nd a
  · rcases cq a h with rfl | ⟨_, h⟩
    · exact fD
    · exact fo a h
  · rw [upd_ne (ne a (by omega))]; exact hg a h
  · have hb : b ≠ D := fun z => by rw [z, hB] at e; cases e
    exact fr b o (by dsimp only; rw [upd_ne hb]; exact e) h
  · rcases cq a h with rfl | ⟨n, h⟩
    · exact .inl hB
    · have := nw a h
      dsimp only at this; rw [upd_ne n] at this; exact this
  · have hb : a ≠ D := fun z => by rw [z, fD] at e; cases e
    have := nf a o e
    dsimp only at this; rw [upd_ne hb] at this; exact this
  · obtain ⟨g1, ⟨o2, e⟩, g3⟩ := gx a (List.mem_cons_of_mem _ ha)
    dsimp only at e
    by_cases hb : a = D
    · exact absurd (hb ▸ ha) hx
    · rw [upd_ne hb] at e ⊢; exact ⟨g1, ⟨o2, e⟩, g3⟩
def noW : WX := fun _ _ _ _ => False
/-- the turns of a block -/
def turnE (ys : List T) (vs : List Nat) (δ : Sl) (k : Sl → R Sl (List T)) : R Sl (List T) := match blank vs δ with
  | none => .bad
  | some δ => match k δ with
    | .ok r δ => .ok (ys ++ r) δ
    | _ => .bad
def lcL (gs : GS) (ft : Sl → R Sl Bool) (fe : ES) (vs : List Nat) : List T → Sl → R Sl (List T)
  | [] => fun δ => .ok [] δ
  | t :: r => fun δ => match gs t δ with
    | .ok _ δ => (match ft δ with
      | .ok b δ => if b = true then (match fe δ with
        | .ok y δ => turnE [y] vs δ (lcL gs ft fe vs r)
        | _ => .bad) else turnE [] vs δ (lcL gs ft fe vs r)
      | _ => .bad)
    | _ => .bad
def endLc (δ0 : Sl) (kp : List (Nat × T)) (r : R Sl (List T)) : R Sl T := match r with
  | .ok ys δ => if ys.length ≤ sizeLine ∧ (!δ0.all Sl1.noLn || δ.all Sl1.noLn) = true then (match backL kp δ with
    | some δ => .ok (.nd .ow .lst ys) δ
    | none => .bad) else .bad
  | _ => .bad
def eLc (f : IS) (gs : GS) (ft : Sl → R Sl Bool) (fe : ES) (vs : List Nat) : ES := fun δ => (f δ).bind fun ci δ => match saveL vs δ with
  | none => .bad
  | some (kp, δ) => endLc δ kp (lcL gs ft fe vs ci.2 δ)
theorem turnE_ok {ys r : List T} {vs : List Nat} {k : Sl → R Sl (List T)} {δ' : Sl} (h : turnE ys vs δ k = .ok r δ') : ∃ δ1 r1, blank vs δ = some δ1 ∧ k δ1 = .ok r1 δ' ∧ r = ys ++ r1 := by
  unfold turnE at h
  split at h
  · cases h
  · rename_i δ1 e
    split at h
    · rename_i r1 δ2 e2; cases h; exact ⟨δ1, r1, e, e2, rfl⟩
    · cases h
theorem lc_treeG {ti : TI} {f : IS} {gs : GS} {ft : Sl → R Sl Bool} {fe : ES} {vs : List Nat} {Q : VK} {P : T → Sl → Prop} (hP : ∀ t δ', P t δ' → ∀ v H', Stt X.K B σ H' δ' ((v, t) :: ts) → (NoLn δ → NoLn δ') → Q v H') (h : Aft X W B σ δ ts (eLc f gs ft fe vs δ) P)
    (hk : ∀ Rr, (Aft X W B σ δ ts (f δ) fun ci δ' => ∀ J H' tsI, Stt X.K B σ H' δ' (tsI ++ ts) → ItOk X B.F J tsI ci.2 → (ci.1 = true → NoLnT tsI) → (NoLn δ → NoLn δ') → Rr J H') → ti σ H Rr) : tLc ti (tG X vs gs) (tT X noW ft) (tE X noW fe) vs σ H Q := by
  refine hk _ (h.bind.mono fun ci δ1 h1 J H1 tsI S1 ok cl n1 D hD => ?_)
  cases e1 : saveL vs δ1 with
  | none => rw [e1] at h1; exact h1.elim
  | some p =>
    obtain ⟨kp, δ2⟩ := p
    rw [e1] at h1
    dsimp only at h1
    cases e2 : lcL gs ft fe vs ci.2 δ2 with
    | exc z s => rw [e2] at h1; exact h1.elim
    | bad => rw [e2] at h1; exact h1.elim
    | ok ys δE =>
      rw [e2] at h1
      unfold endLc at h1
      dsimp only at h1
      by_cases hz : ys.length ≤ sizeLine ∧ (!δ2.all Sl1.noLn || δE.all Sl1.noLn) = true
      · rw [if_pos hz] at h1
        cases e3 : backL kp δE with
        | none => rw [e3] at h1; exact h1.elim
        | some δF =>
          rw [e3] at h1
          have h1 : ∀ v H', Stt X.K B σ H' δF ((v, .nd .ow .lst ys) :: ts) → (NoLn δ → NoLn δF) → Q v H' := hP _ _ h1
          obtain ⟨kv, l, S2, k1, k2, k3, k4, k5⟩ := saveL_ok e1 S1
          have bD : B.H D = none := by
            obtain ⟨F, G, av, ah, at_, I⟩ := S1
            cases e : B.H D with
            | none => rfl
            | some o =>
              by_cases hb : D ∈ B.as
              · obtain ⟨o, e⟩ := I.ba D hb; rw [hD] at e; cases e
              · have := I.fr D o e hb; rw [hD] at this; cases this
          have xD : D ∉ B.ex := fun z => by
            obtain ⟨o, e, _⟩ := S1.held z
            rw [bD] at e; cases e
          let inv : Nat → Hp → Prop := fun i H => ∃ (acc : List V) (done rest : List T) (δ : Sl), Stt X.K { B with H := upd B.H D (.lst acc), ex := D :: B.ex } (wipe σ vs) H δ (tsI ++ (acc.zip done ++ (kv.zip (kp.map (·.2)) ++ ts))) ∧ acc.length = done.length ∧ lcL gs ft fe vs (ci.2.drop i) δ = .ok rest δE ∧ done ++ rest = ys ∧ (∀ v ∈ vs, δ[v]? = some .un)
          refine ⟨fun i m H => m = ci.2.length - i ∧ i ≤ ci.2.length ∧ inv i H, ⟨ci.2.length, rfl, Nat.zero_le _, [], [], ys, δ2, ?_, rfl, e2, rfl, k4⟩, ?_⟩
          · refine (S2.begin hD).perm ?_
            show (kv.zip (kp.map (·.2)) ++ (tsI ++ ts)).Perm (tsI ++ (kv.zip (kp.map (·.2)) ++ ts))
            rw [← List.append_assoc, ← List.append_assoc]
            exact List.perm_append_comm.append_right ts
          rintro i m H ⟨rfl, hle, acc, done, rest, δ, S, la, hl, hd, hu⟩
          have it := ok { B with H := upd B.H D (.lst acc), ex := D :: B.ex } _ H δ _ i (fun _ _ e => e) S
          by_cases hlt : i < ci.2.length
          · obtain ⟨go, yl⟩ := it.1 ci.2[i] (List.getElem?_eq_getElem hlt)
            refine .inr ⟨go, inv (i + 1), fun H' hh => ⟨_, by omega, rfl, hlt, hh⟩, fun y H' hy => ?_⟩
            have S3 := yl y H' hy
            rw [List.drop_eq_getElem_cons hlt] at hl
            unfold lcL at hl
            refine ⟨_, δ, _, _, S3, ?_⟩
            cases e4 : gs ci.2[i] δ with
            | exc z s => rw [e4] at hl; cases hl
            | bad => rw [e4] at hl; cases hl
            | ok u δ3 =>
              rw [e4] at hl
              dsimp only at hl
              intro σ' H2 S4 hw n4
              have hw2 := hw
              rw [wipe_wipe] at hw2
              refine ⟨by first | exact hw | exact hw2, _, δ3, _, S4, ?_⟩
              cases e5 : ft δ3 with
              | exc z s => rw [e5] at hl; cases hl
              | bad => rw [e5] at hl; cases hl
              | ok b δ4 =>
                rw [e5] at hl
                dsimp only at hl
                intro H3 S5 n5
                cases b with
                | false =>
                  rw [if_neg Bool.false_ne_true] at hl ⊢
                  obtain ⟨δ5, r1, eb, el, er⟩ := turnE_ok hl
                  obtain ⟨S6, n6⟩ := blank_ok eb S5
                  rw [hw2] at S6
                  exact ⟨acc, done, r1, δ5, S6, la, el, by rw [er] at hd; exact hd, (blank_un eb).1⟩
                | true =>
                  rw [if_pos rfl] at hl ⊢
                  refine ⟨_, δ4, _, S5, ?_⟩
                  cases e6 : fe δ4 with
                  | exc z s => rw [e6] at hl; cases hl
                  | bad => rw [e6] at hl; cases hl
                  | ok t δ5 =>
                    rw [e6] at hl
                    dsimp only at hl
                    intro v H4 S6 n6
                    obtain ⟨δ6, r1, eb, el, er⟩ := turnE_ok hl
                    obtain ⟨S7, n7⟩ := blank_ok eb S6
                    rw [hw2] at S7
                    obtain ⟨o, eo, ho⟩ := S7.held (D := D) List.mem_cons_self
                    have eo : upd B.H D (.lst acc) D = some o := eo
                    rw [upd_same] at eo; cases eo
                    have hlen : done.length + 1 + r1.length = ys.length := by
                      rw [← hd, er]; simp [List.length_append]; omega
                    refine ⟨acc, ho, by omega, acc ++ [v], done ++ [t], r1, δ6, ?_, by simp [la], el, by rw [← hd, er]; simp, (blank_un eb).1⟩
                    have S8 := S7.write (o := .lst (acc ++ [v])) (D := D) List.mem_cons_self
                    have S9 := S8.perm (ts' := tsI ++ ((acc ++ [v]).zip (done ++ [t]) ++ (kv.zip (kp.map (·.2)) ++ ts))) (by
                      rw [List.zip_append la]
                      show ((v, t) :: (tsI ++ (acc.zip done ++ (kv.zip (kp.map (·.2)) ++ ts)))).Perm (tsI ++ ((acc.zip done ++ [(v, t)]) ++ (kv.zip (kp.map (·.2)) ++ ts)))
                      rw [← List.append_assoc, ← List.append_assoc, List.append_assoc (acc.zip done), ← List.append_assoc tsI, List.append_assoc (tsI ++ acc.zip done)]
                      exact List.perm_middle.symm)
                    have eB : upd (upd B.H D (.lst acc)) D (.lst (acc ++ [v])) = upd B.H D (.lst (acc ++ [v])) := by
                      funext b
                      by_cases hb : b = D
                      · subst hb; rw [upd_same, upd_same]
                      · rw [upd_ne hb, upd_ne hb, upd_ne hb]
                    have S9 : Stt X.K { B with H := upd (upd B.H D (.lst acc)) D (.lst (acc ++ [v])), ex := D :: B.ex } _ _ _ _ := S9
                    rw [eB] at S9
                    exact S9
          · refine .inl ⟨it.2 (by omega), ?_⟩
            rw [List.drop_eq_nil_of_le (by omega)] at hl
            unfold lcL at hl
            cases hl
            have S3 := S.drops
            obtain ⟨o, eo, ho⟩ := S3.held (D := D) List.mem_cons_self
            have S4 : Stt X.K B (wipe σ vs) H δE ((.ref D, .nd .ow .lst done) :: (kv.zip (kp.map (·.2)) ++ ts)) := Stt.finish (k := .lst) (o := .lst acc) (vs := acc) bD xD S3 la rfl trivial
            rw [List.append_nil] at hd
            subst hd
            have S5 := S4.perm (List.perm_middle (a := (V.ref D, T.nd .ow .lst done)) (l₁ := kv.zip (kp.map (·.2))) (l₂ := ts)).symm
            have nE : NoLn δ2 → NoLn δE := fun n2 => by
              have := hz.2
              rw [List.all_eq_true.mpr n2] at this
              exact List.all_eq_true.mp (by simpa using this)
            have S6 : Stt X.K B σ H δE (kv.zip (kp.map (·.2)) ++ ((.ref D, .nd .ow .lst done) :: ts)) := S5.resig (by rw [wipe_length]) fun i hi => (wipe_out fun z => hi (hu i z)).symm
            obtain ⟨S7, n7⟩ := backL_ok e3 l k1 S6
            exact h1 _ _ S7 fun n => n7 (nE (k2 (n1 n))) (k3 (n1 n))
      · rw [if_neg hz] at h1; exact h1.elim
theorem lc_tree {f : IS} {gs : GS} {ft : Sl → R Sl Bool} {fe : ES} {vs : List Nat} {Q : VK} (h : tE X W (eLc f gs ft fe vs) σ H Q) : tLc (tI X W f) (tG X vs gs) (tT X noW ft) (tE X noW fe) vs σ H Q := by
  obtain ⟨B, δ, ts, S, h⟩ := h
  exact lc_treeG (fun t δ' h => h) h fun Rr k => ⟨B, δ, ts, S, k⟩
/-- a clause's tests -/
def DTs (X : Cx) (W : WX) (ifs : List Expr) (f : Sl → R Sl Bool) : Prop := PTs X ifs (tT X W f)
def tOk : Sl → R Sl Bool := fun δ => .ok true δ
theorem dts_nil : DTs X W [] tOk := ⟨fun pins s σ H Q I ⟨B, δ, ts, S, h⟩ => pts_nil.run pins s σ H Q I (h H S id)⟩
theorem dts_one {fc : Sl → R Sl Bool} (h : DT X W c fc) : DTs X W [c] fc := pts_one h
theorem de_lc {elt iter : Expr} {ifs : List Expr} {scope : Scope} {own : List (Str × Nat)} {f : IS} {gs : GS} {ft : Sl → R Sl Bool} {fe : ES} (hc : X.calm = true) (hN : X.N.Nodup) (ok : BlkOk X.N X.env.scope scope own) (hi : DI X W tg iter f)
    (hg : ∀ (s : Shared) (H : Hp) (C : Addr) (cl : List (Str × Addr)) (fp : List Addr), DG (X.blk s H scope (compEnvC scope cl C X.env) fp) tg (own.map (·.2)) gs)
    (ht : ∀ (s : Shared) (H : Hp) (C : Addr) (cl : List (Str × Addr)) (fp : List Addr), DTs (X.blk s H scope (compEnvC scope cl C X.env) fp) noW ifs ft)
    (he : ∀ (s : Shared) (H : Hp) (C : Addr) (cl : List (Str × Addr)) (fp : List Addr), DE (X.blk s H scope (compEnvC scope cl C X.env) fp) noW elt fe) (hs : ∀ x, foldedSetIterable iter X.env x = pure x := by intro _; rfl) :
    DE X W (.ListComp elt [⟨tg, iter, ifs, 0⟩] scope pos) (eLc f gs ft fe (own.map (·.2))) :=
  (pe_lc (g := tG X (own.map fun p : Str × Nat => p.2) gs) (tt := tT X noW ft) (te := tE X noW fe) hc hN hi ok hg ht he hs).imp fun σ H Q h => lc_tree h
/-- name = [..] on one line -/
theorem ds_setLc {fz : Bool} {y : Str} {py : Pos} {elt iter : Expr} {ifs : List Expr} {scope : Scope} {own : List (Str × Nat)} {f : IS} {gs : GS} {ft : Sl → R Sl Bool} {fe : ES} (hc : X.calm = true) (hN : X.N.Nodup) (ok : BlkOk X.N X.env.scope scope own) (hsw : swapsWith (.ListComp elt [⟨tg, iter, ifs, 0⟩] scope pos) (some (.Name y py)) spos.line X.env = pure true) (hi : DI X W tg iter f)
    (hg : ∀ (s : Shared) (H : Hp) (C : Addr) (cl : List (Str × Addr)) (fp : List Addr), DG (X.blk s H scope (compEnvC scope cl C X.env) fp) tg (own.map (·.2)) gs)
    (ht : ∀ (s : Shared) (H : Hp) (C : Addr) (cl : List (Str × Addr)) (fp : List Addr), DTs (X.blk s H scope (compEnvC scope cl C X.env) fp) noW ifs ft)
    (he : ∀ (s : Shared) (H : Hp) (C : Addr) (cl : List (Str × Addr)) (fp : List Addr), DE (X.blk s H scope (compEnvC scope cl C X.env) fp) noW elt fe) (hy : X.N[i]? = some y := by rfl) (hyl : X.env.scope.names.lookup y = some .local := by rfl) (hs : ∀ x, foldedSetIterable iter X.env x = pure x := by intro _; rfl) :
    DS X W (.Assign [.Name y py] (.ListComp elt [⟨tg, iter, ifs, 0⟩] scope pos) spos) (sSet fz i (eLc f gs ft fe (own.map (·.2)))) :=
  (ps_setLc (g := tG X (own.map fun p : Str × Nat => p.2) gs) (tt := tT X noW ft) (te := tE X noW fe) hc hN hy hyl hsw hi ok hg ht he hs).imp fun D σ H ⟨B, δ, ts, S, n, nt, h⟩ => lc_tree ⟨B, δ, ts, S, (AftS.expr (σ := σ) n h).mono fun t δ1 h1 v H1 S1 n1 => by
    cases e : stoS fz i t δ1 with
    | bad => rw [e] at h1; exact h1.elim
    | exc z s => rw [e] at h1; unfold stoS at e; split at e <;> first | (split at e <;> first | cases e | (split at e <;> cases e)) | cases e
    | ok u δ2 =>
      rw [e] at h1
      obtain ⟨S2, n2⟩ := S1.sto (n1 n) e
      exact h1 _ _ S2 n2⟩
end
end TV
set_option Elab.async false
set_option linter.all false
set_option maxRecDepth 100000
set_option maxHeartbeats 4000000
namespace TV
open PySem PySem.Spec PyProof.Rows L2
section
variable {X : Cx} {W : WX} {B : Bs} {σ : L2.St} {δ δ0 δ1 : Sl} {ts ts1 : List (V × T)} {H : Hp} {a b c e base idx tg : Expr} {es : List Expr} {f fa fb fc fi : ES} {pos pos' spos cpos apos : Pos} {i : Nat} {x : Str}
def enumT (xs : List T) : List T := List.zipWith pairT ((List.range xs.length).map fun (k : Nat) => T.int (k : Int)) xs
def iEnumS (f : ES) : IS := fun δ => (f δ).bind fun t δ => match seqOf t.nrm with
  | some xs => .ok (t.noLn, enumT xs) δ
  | none => .bad
def one (g : T → Option T) : List T → Option T := fun xs => match xs with
  | [t] => g t
  | _ => none
def two (g : T → T → Option T) : List T → Option T := fun xs => match xs with
  | [s, t] => g s t
  | _ => none
theorem CallV.one {r : List V → Hp → VK → Prop} {g : T → Option T} (h : ∀ B σ H δ ts v t x (Q : VK), g t = some x → Stt X.K B σ H δ ((v, t) :: ts) → (∀ v' H', Stt X.K B σ H' δ ((v', x) :: ts) → Q v' H') → r [v] H Q) : CallV X r (TV.one g) := by
  intro B σ H δ ts as vs xs t Q e1 l e2 S q
  unfold TV.one at e2
  split at e2
  · rename_i u
    have lv := valsOf_len e1
    match as, vs, e1, l, S with
    | [.val s'], [v], e1, _, S => cases e1; exact h B σ H δ ts v u t Q e2 S q
    | [.ref _], _, e1, _, _ => cases e1
    | [], _, _, _, _ => simp at lv
    | _ :: _ :: _, _, _, _, _ => simp at lv
  · cases e2
/-- any list or tuple -/
def itemsOf (t : T) : Option (List T) := match t with
  | .nd _ .lst xs => some xs
  | .nd _ .lsg xs => some xs
  | .nd _ .tup xs => some xs
  | .nd _ .tpg xs => some xs
  | _ => none
theorem Stt.items {K : PySem.W.Frag} {t : T} {xs : List T} {v : V} (S : Stt K B σ H δ ((v, t) :: ts)) (e : itemsOf t = some xs) :
    ∃ (a : Addr) (vs : List V), v = .ref a ∧ (SqL K H a vs ∨ SqT K H a vs) ∧ vs.length = xs.length ∧ Stt K B σ H δ (vs.zip xs ++ ts) := by
  unfold itemsOf at e
  split at e
  · cases e
    obtain ⟨a, vs, e1, st, l, S', _⟩ := S.open_
    exact ⟨a, vs, e1, .inl (SqL.of st), l, S'⟩
  · cases e
    obtain ⟨a, vs, e1, st, l, S', _⟩ := S.open_
    exact ⟨a, vs, e1, .inl st, l, S'⟩
  · cases e
    obtain ⟨a, vs, e1, st, l, S', _⟩ := S.open_
    exact ⟨a, vs, e1, .inr (SqT.of st), l, S'⟩
  · cases e
    obtain ⟨a, vs, e1, st, l, S', _⟩ := S.open_
    exact ⟨a, vs, e1, .inr st, l, S'⟩
  · cases e
/-- len -/
def gLen (t : T) : Option T := match t with
  | .str z => if z.length ≤ sizeLine then some (.int z.length) else none
  | t => (itemsOf t).map fun xs => .int xs.length
theorem cv_len : CallV X (fun xs H Q => ∃ x n, xs = [x] ∧ LenV X.K x H n ∧ Q (.int n) H) (one gLen) := CallV.one fun B σ H δ ts v t x Q e S q => by
  unfold gLen at e
  split at e
  · rename_i z
    by_cases hz : z.length ≤ sizeLine
    · rw [if_pos hz] at e; cases e
      rw [S.eq_str]
      exact ⟨_, z.length, rfl, ⟨hz, rfl⟩, q _ _ (S.drop.pushS rfl)⟩
    · rw [if_neg hz] at e; cases e
  · cases e1 : itemsOf t with
    | none => rw [e1] at e; cases e
    | some xs =>
      rw [e1] at e; cases e
      obtain ⟨a, vs, rfl, sq, l, S'⟩ := S.items e1
      refine ⟨_, vs.length, rfl, ?_, ?_⟩
      · rcases sq with sq | sq
        · exact .inl ⟨vs, sq, rfl⟩
        · exact .inr ⟨vs, sq, rfl⟩
      · rw [l]; exact q _ _ (S'.drops.pushS rfl)
theorem de_len {p : Pos} {g : AS} (hg : Gl X "len") (hm : X.mg "len" = none) (ha : DA X W [e] g) (he : starEach [e] X.env = (false, eval e X.env) :: starEach [] X.env := by rfl) (hpl : (backTo pos (starEach [] X.env)).any (·.1) = false := by rfl) : DE X W (.Call (.Name "len" p) [e] [] pos) (eBlt (one gLen) g) :=
  de_callB call_len cv_len hg hm rfl ha (by decide) (by decide) he hpl
/-- list(x), tuple(x) -/
def gListOf (t : T) : Option T := (itemsOf t).map fun xs => .nd .ow .lst xs
theorem RTs.unzip_app {K : PySem.W.Frag} {F G : Hp} {vs : List V} {xs : List T} {ts : List (V × T)} {as : List Addr} (l : vs.length = xs.length) (r : RTs K F G (vs.zip xs ++ ts) as) : ∃ a1 a2, RepL K F G xs vs a1 ∧ RTs K F G ts a2 ∧ ∀ a, a1.count a + a2.count a ≤ as.count a := by
  obtain ⟨a1, a2, r1, r2, c⟩ := r.split
  exact ⟨a1, a2, RTs.unzip l r1, r2, fun a => by rw [c]; omega⟩
theorem cv_list : CallV X (fun xs H Q => ∃ p ys, xs = [.ref p] ∧ (SqL X.K H p ys ∨ SqT X.K H p ys) ∧ ∀ l, H l = none → Q (.ref l) (upd H l (.lst ys))) (one gListOf) := CallV.one fun B σ H δ ts v t x Q e S q => by
  unfold gListOf at e
  cases e1 : itemsOf t with
  | none => rw [e1] at e; cases e
  | some xs =>
    rw [e1] at e; cases e
    obtain ⟨a, vs, rfl, sq, l, S'⟩ := S.items e1
    exact ⟨a, vs, rfl, sq, fun p hp => q _ _ (S'.alloc (k := .lst) hp trivial fun F G as _ _ r => RTs.unzip_app l r)⟩
theorem de_list {p : Pos} {g : AS} (hg : Gl X "list") (hm : X.mg "list" = none) (ha : DA X W [e] g) (he : starEach [e] X.env = (false, eval e X.env) :: starEach [] X.env := by rfl) (hpl : (backTo pos (starEach [] X.env)).any (·.1) = false := by rfl) : DE X W (.Call (.Name "list" p) [e] [] pos) (eBlt (one gListOf) g) :=
  de_callTy call_list_of cv_list hg hm rfl ha (by decide) (by decide) he hpl
def gTupOf (t : T) : Option T := match t with
  | .nd f .tup xs => some (.nd f .tup xs)
  | .nd f .tpg xs => some (.nd f .tpg xs)
  | .nd _ .lst xs => some (mkN .tup xs)
  | .nd _ .lsg xs => some (mkN .tup xs)
  | _ => none
/-- int, abs, max, min -/
def gInt1 (t : T) : Option T := match t with
  | .int i => some (.int i)
  | .bl b => some (.int (if b then 1 else 0))
  | _ => none
theorem cv_int : CallV X (fun xs H Q => (∃ i, xs = [.int i] ∧ Q (.int i) H) ∨ ∃ k, xs = [.bl k] ∧ Q (.int (if k then 1 else 0)) H) (one gInt1) := CallV.one fun B σ H δ ts v t x Q e S q => by
  unfold gInt1 at e
  split at e
  · cases e; rw [S.eq_int]; exact .inl ⟨_, rfl, q _ _ (S.drop.pushS rfl)⟩
  · cases e; rw [S.eq_bl]; exact .inr ⟨_, rfl, q _ _ (S.drop.pushS rfl)⟩
  · cases e
theorem de_int1 {p : Pos} {g : AS} (hg : Gl X "int") (hm : X.mg "int" = none) (ha : DA X W [e] g) (he : starEach [e] X.env = (false, eval e X.env) :: starEach [] X.env := by rfl) (hpl : (backTo pos (starEach [] X.env)).any (·.1) = false := by rfl) : DE X W (.Call (.Name "int" p) [e] [] pos) (eBlt (one gInt1) g) :=
  de_callTy call_int1 cv_int hg hm rfl ha (by decide) (by decide) he hpl
def gAbs (t : T) : Option T := match t with
  | .int i => some (.int (if i < 0 then -i else i))
  | _ => none
def gMax2 (s t : T) : Option T := match s, t with
  | .int i, .int j => some (.int (if j > i then j else i))
  | _, _ => none
def gMin2 (s t : T) : Option T := match s, t with
  | .int i, .int j => some (.int (if j < i then j else i))
  | _, _ => none
/-- lists of ints, of bools -/
def intOf (t : T) : Option Int := match t with
  | .int i => some i
  | _ => none
def blOf (t : T) : Option Bool := match t with
  | .bl b => some b
  | _ => none
def intsOf : List T → Option (List Int)
  | [] => some []
  | t :: r => (intOf t).bind fun i => (intsOf r).map fun is => i :: is
def blsOf : List T → Option (List Bool)
  | [] => some []
  | t :: r => (blOf t).bind fun i => (blsOf r).map fun is => i :: is
theorem intsOf_eq : ∀ {xs : List T} {is : List Int}, intsOf xs = some is → xs = is.map T.int
  | [], _, e => by cases e; rfl
  | t :: r, _, e => by
    unfold intsOf at e
    cases t with
    | int i => cases e2 : intsOf r with
      | none => rw [e2] at e; cases e
      | some is => rw [e2] at e; cases e; rw [intsOf_eq e2]; rfl
    | _ => cases e
theorem blsOf_eq : ∀ {xs : List T} {is : List Bool}, blsOf xs = some is → xs = is.map T.bl
  | [], _, e => by cases e; rfl
  | t :: r, _, e => by
    unfold blsOf at e
    cases t with
    | bl i => cases e2 : blsOf r with
      | none => rw [e2] at e; cases e
      | some is => rw [e2] at e; cases e; rw [blsOf_eq e2]; rfl
    | _ => cases e
theorem RepL.ints {K : PySem.W.Frag} {F G : Hp} : ∀ {is : List Int} {vs : List V} {as : List Addr}, RepL K F G (is.map T.int) vs as → vs = is.map V.int
  | [], _, _, .nil => rfl
  | i :: is, _, _, .cons h r => by
    cases h with
    | lon h => cases h with
      | int => rw [RepL.ints r]; rfl
theorem RepL.bls {K : PySem.W.Frag} {F G : Hp} : ∀ {is : List Bool} {vs : List V} {as : List Addr}, RepL K F G (is.map T.bl) vs as → vs = is.map V.bl
  | [], _, _, .nil => rfl
  | i :: is, _, _, .cons h r => by
    cases h with
    | lon h => cases h with
      | bl => rw [RepL.bls r]; rfl
theorem Stt.listI {K : PySem.W.Frag} {t : T} {xs : List T} {is : List Int} {v : V} (S : Stt K B σ H δ ((v, t) :: ts)) (e : seqOf t = some xs) (ei : intsOf xs = some is) : ∃ a : Addr, v = .ref a ∧ SqL K H a (is.map V.int) := by
  rw [intsOf_eq ei] at e
  unfold seqOf at e
  have key : ∀ {fl : Fg} {k : Kd}, Stt K B σ H δ ((v, .nd fl k (is.map T.int)) :: ts) → (k = .lst ∨ k = .lsg) → ∃ a : Addr, v = .ref a ∧ SqL K H a (is.map V.int) := by
    intro fl k S hk
    refine S.see fun F G as fg gh _ r => ?_
    cases r with
    | cons h1 r =>
      obtain ⟨a, vs, as', e, st, rl, _⟩ := h1.node fg
      rw [rl.ints] at st
      rcases hk with rfl | rfl
      · exact ⟨a, e, SqL.of (Stands.mono gh st)⟩
      · exact ⟨a, e, Stands.mono gh st⟩
  split at e
  · cases e; exact key S (.inl rfl)
  · cases e; exact key S (.inr rfl)
  · cases e
theorem Stt.listB {K : PySem.W.Frag} {t : T} {xs : List T} {is : List Bool} {v : V} (S : Stt K B σ H δ ((v, t) :: ts)) (e : seqOf t = some xs) (ei : blsOf xs = some is) : ∃ a : Addr, v = .ref a ∧ SqL K H a (is.map V.bl) := by
  rw [blsOf_eq ei] at e
  unfold seqOf at e
  have key : ∀ {fl : Fg} {k : Kd}, Stt K B σ H δ ((v, .nd fl k (is.map T.bl)) :: ts) → (k = .lst ∨ k = .lsg) → ∃ a : Addr, v = .ref a ∧ SqL K H a (is.map V.bl) := by
    intro fl k S hk
    refine S.see fun F G as fg gh _ r => ?_
    cases r with
    | cons h1 r =>
      obtain ⟨a, vs, as', e, st, rl, _⟩ := h1.node fg
      rw [rl.bls] at st
      rcases hk with rfl | rfl
      · exact ⟨a, e, SqL.of (Stands.mono gh st)⟩
      · exact ⟨a, e, Stands.mono gh st⟩
  split at e
  · cases e; exact key S (.inl rfl)
  · cases e; exact key S (.inr rfl)
  · cases e
def gInts (g : List Int → Option T) (t : T) : Option T := (seqOf t).bind fun xs => (intsOf xs).bind g
def gBls (g : List Bool → T) (t : T) : Option T := (seqOf t).bind fun xs => (blsOf xs).map g
theorem gInts_ok {g : List Int → Option T} {t x : T} (h : gInts g t = some x) : ∃ xs is, seqOf t = some xs ∧ intsOf xs = some is ∧ g is = some x := by
  unfold gInts at h
  cases e1 : seqOf t with
  | none => rw [e1] at h; cases h
  | some xs => cases e2 : intsOf xs with
    | none => rw [e1] at h; simp only [Option.bind_some, e2] at h; cases h
    | some is => rw [e1] at h; simp only [Option.bind_some, e2] at h; exact ⟨xs, is, rfl, e2, h⟩
theorem gBls_ok {g : List Bool → T} {t x : T} (h : gBls g t = some x) : ∃ xs is, seqOf t = some xs ∧ blsOf xs = some is ∧ g is = x := by
  unfold gBls at h
  cases e1 : seqOf t with
  | none => rw [e1] at h; cases h
  | some xs => cases e2 : blsOf xs with
    | none => rw [e1] at h; simp only [Option.bind_some, e2] at h; cases h
    | some is => rw [e1] at h; simp only [Option.bind_some, e2] at h; exact ⟨xs, is, rfl, e2, Option.some.inj h⟩
def gAll : T → Option T := gBls fun bs => .bl (bs.all id)
def gAny : T → Option T := gBls fun bs => .bl (bs.any id)
def gSum : T → Option T := gInts fun is => some (.int is.sum)
def maxL : List Int → Option Int
  | [] => none
  | i :: r => some (r.foldl max i)
def minL : List Int → Option Int
  | [] => none
  | i :: r => some (r.foldl min i)
def gMaxL : T → Option T := gInts fun is => (maxL is).map T.int
def gMinL : T → Option T := gInts fun is => (minL is).map T.int
theorem cv_all : CallV X (rAll X.K) (one gAll) := CallV.one fun B σ H δ ts v t x Q e S q => by
  obtain ⟨xs, is, e1, e2, rfl⟩ := gBls_ok e
  obtain ⟨a, rfl, sq⟩ := S.listB e1 e2
  exact ⟨a, is, rfl, sq, q _ _ (S.drop.pushS rfl)⟩
theorem cv_sum : CallV X (rSum X.K) (one gSum) := CallV.one fun B σ H δ ts v t x Q e S q => by
  obtain ⟨xs, is, e1, e2, e3⟩ := gInts_ok e
  cases e3
  obtain ⟨a, rfl, sq⟩ := S.listI e1 e2
  exact ⟨a, is, rfl, sq, q _ _ (S.drop.pushS rfl)⟩
theorem de_all {p : Pos} {g : AS} (hc : X.calm = true) (hg : Gl X "all") (hm : X.mg "all" = none) (ha : DA X W [e] g) (he : starEach [e] X.env = (false, eval e X.env) :: starEach [] X.env := by rfl) (hpl : (backTo pos (starEach [] X.env)).any (·.1) = false := by rfl) : DE X W (.Call (.Name "all" p) [e] [] pos) (eBlt (one gAll) g) :=
  de_callB (cr_all hc) cv_all hg hm rfl ha (by decide) (by decide) he hpl
theorem de_sum {p : Pos} {g : AS} (hc : X.calm = true) (hg : Gl X "sum") (hm : X.mg "sum" = none) (ha : DA X W [e] g) (he : starEach [e] X.env = (false, eval e X.env) :: starEach [] X.env := by rfl) (hpl : (backTo pos (starEach [] X.env)).any (·.1) = false := by rfl) : DE X W (.Call (.Name "sum" p) [e] [] pos) (eBlt (one gSum) g) :=
  de_callB (cr_sum hc) cv_sum hg hm rfl ha (by decide) (by decide) he hpl
def tyN (t : T) : Option String := match t with
  | .non => some "NoneType"
  | .bl _ => some "bool"
  | .int _ => some "int"
  | .str _ => some "str"
  | .nd _ .lst _ => some "list"
  | .nd _ .lsg _ => some "list"
  | .nd _ .tup _ => some "tuple"
  | .nd _ .tpg _ => some "tuple"
  | .nd _ (.dK _) _ => some "dict"
  | .nd _ (.dT _) _ => none
  | .nd _ (.ex _) _ => none
theorem tyx_l {K : PySem.W.Frag} {a : Addr} {vs : List V} (h : SqL K H a vs) : TyX K H (.ref a) (.type "list") := by
  rcases h with (h | ⟨o, h⟩) | ⟨o, its, n, h1, h2, _⟩
  · exact .base (.lst h)
  · exact .base (.frz h)
  · exact .kList h1 h2
theorem tyx_t {K : PySem.W.Frag} {a : Addr} {vs : List V} (h : SqT K H a vs) : TyX K H (.ref a) (.type "tuple") := by
  rcases h with (h | ⟨o, h⟩) | ⟨o, its, n, h1, h2, _⟩
  · exact .base (.tup h)
  · exact .fTuple h
  · exact .kTuple h1 h2
theorem Stt.tyx {K : PySem.W.Frag} {t : T} {v : V} {n : String} (S : Stt K B σ H δ ((v, t) :: ts)) (e : tyN t = some n) : TyX K H v (.type n) := by
  unfold tyN at e
  split at e <;> first | cases e | skip
  · rw [S.eq_non]; exact .base .non
  · rw [S.eq_bl]; exact .base (.bl _)
  · rw [S.eq_int]; exact .base (.int _)
  · rw [S.eq_str]; exact .base (.str _)
  · obtain ⟨a, vs, rfl, st, _⟩ := S.node; exact tyx_l (SqL.of st)
  · obtain ⟨a, vs, rfl, st, _⟩ := S.node; exact tyx_l st
  · obtain ⟨a, vs, rfl, st, _⟩ := S.node; exact tyx_t (SqT.of st)
  · obtain ⟨a, vs, rfl, st, _⟩ := S.node; exact tyx_t st
  · obtain ⟨a, vs, rfl, st, _⟩ := S.node
    rcases st.1 with h | ⟨o, h⟩
    · exact .base (.dK h)
    · exact .fDict h
def gIsi (n : String) (t : T) : Option Bool := (tyN t).bind fun m => kitB m n
def eIsi (n : String) (f : ES) : ES := fun δ => (f δ).bind fun t δ => opt ((gIsi n t).map T.bl) δ
theorem de_isi {n : String} {y : Str} {p p2 : Pos} (hg : Gl X "isinstance") (hm : X.mg "isinstance" = none) (he : DE X W e f) (hg2 : Gl X y) (hm2 : X.mg y = none) (hb : bootBuiltins y = some (.type n)) (hn2 : y ≠ "__name__" := by decide) (hdb2 : (y == ("__debug__" : Str)) = false := by decide)
    (hs : starEach (e :: [Expr.Name y p2]) X.env = (false, eval e X.env) :: starEach [Expr.Name y p2] X.env := by rfl) (hs2 : starEach (Expr.Name y p2 :: []) X.env = (false, eval (Expr.Name y p2) X.env) :: starEach [] X.env := by rfl) (hpl : (backTo pos (starEach [Expr.Name y p2] X.env)).any (·.1) = false := by rfl) :
    DE X W (.Call (.Name "isinstance" p) [e, .Name y p2] [] pos) (eIsi n f) :=
  (pe_callB call_isi hg hm rfl (pa_cons he (pa_cons (pe_bltn (v := .ty n) hg2 hm2 hb rfl hn2 hdb2) pa_nil hs2) hs) (by decide) (by decide) hs hpl).imp fun σ H Q ⟨B, δ, ts, S, h⟩ => ⟨B, δ, ts, S, h.bind.mono fun t δ1 h1 v H1 S1 n1 => by
    unfold gIsi at h1
    cases e1 : tyN t with
    | none => rw [e1] at h1; exact h1.elim
    | some m =>
      rw [e1] at h1
      simp only [Option.bind_some] at h1
      cases e2 : kitB m n with
      | none => rw [e2] at h1; exact h1.elim
      | some b =>
        rw [e2] at h1
        exact ⟨v, .ty n, .type m, .type n, b, rfl, .ty n, S1.tyx e1, kit_ty e2, h1 _ _ (S1.drop.pushS rfl) n1⟩⟩
end
end TV
set_option Elab.async false
set_option linter.all false
set_option maxRecDepth 100000
set_option maxHeartbeats 4000000
namespace TV
open PySem PySem.Spec PyProof.Rows L2
def hideS (i : Nat) (δ : Sl) : Sl := match δ[i]? with
  | some (.vis p t) => δ.set i (.hid p t)
  | _ => δ
def showS (i : Nat) (δ : Sl) : Sl := match δ[i]? with
  | some (.hid p t) => δ.set i (.vis p t)
  | _ => δ
def frzS (i : Nat) (δ : Sl) : Sl := match δ[i]? with
  | some (.vis false t) => δ.set i (.vis false t.frz)
  | _ => δ
def pre (h : Sl → Sl) (g : SS) : SS := fun δ => g (h δ)
section
variable {X : Cx} {W : WX} {B : Bs} {σ : L2.St} {δ : Sl} {ts : List (V × T)} {H : Hp} {g : SS} {st : Stmt} {sts : List Stmt} {i : Nat}
def Ghost (h : Sl → Sl) : Prop := ∀ {K : PySem.W.Frag} {B : Bs} {σ : L2.St} {H : Hp} {δ : Sl} {ts : List (V × T)}, Stt K B σ H δ ts → NoLn δ → NoLnT ts → Stt K B σ H (h δ) ts ∧ NoLn (h δ)
theorem ghost_hide : Ghost (hideS i) := fun {K B σ H δ ts} S n nt => by
  unfold hideS
  split
  · rename_i p t e
    have hn : t.noLn = true := n _ (List.mem_of_getElem? e)
    exact ⟨S.hide e n nt, n.set hn⟩
  · exact ⟨S, n⟩
theorem ghost_show : Ghost (showS i) := fun {K B σ H δ ts} S n nt => by
  unfold showS
  split
  · rename_i p t e
    have hn : t.noLn = true := n _ (List.mem_of_getElem? e)
    exact ⟨S.unhide e, n.set hn⟩
  · exact ⟨S, n⟩
theorem ds_pre {h : Sl → Sl} (gh : Ghost h) (hs : DS X W st g) : DS X W st (pre h g) := hs.imp fun D σ H ⟨B, δ, ts, S, n, nt, k⟩ => let ⟨S', n'⟩ := gh S n nt; ⟨B, h δ, ts, S', n', nt, k⟩
theorem dss_pre {h : Sl → Sl} (gh : Ghost h) (hs : DSs X W sts g) : DSs X W sts (pre h g) := hs.imp fun D σ H ⟨B, δ, ts, S, n, nt, k⟩ => let ⟨S', n'⟩ := gh S n nt; ⟨B, h δ, ts, S', n', nt, k⟩
end
def startS : List Bool → List T → Sl
  | false :: ms, t :: ts => .vis false t :: startS ms ts
  | true :: ms, t :: ts => .hid true t :: startS ms ts
  | _, _ => []
def outsL : List Bool → Sl → Option (List T)
  | [], _ => some []
  | false :: ms, _ :: δ => outsL ms δ
  | true :: ms, .vis _ t :: δ => (outsL ms δ).map fun r => t :: r
  | true :: ms, .hid _ t :: δ => (outsL ms δ).map fun r => t :: r
  | _, _ => none
def mkR (ms : List Bool) (r : R Sl Flw) : R (List T) T := match r with
  | .ok fl δ => match outsL ms δ with
    | some outs => (match fl with
      | .next => .ok .non outs
      | .ret t => .ok t outs
      | _ => .bad)
    | none => .bad
  | .exc x δ => if ms.any id = true then .bad else .exc x []
  | .bad => .bad
/-- what a def means, by its body -/
def mkFn (ms : List Bool) (n : Nat) (g : SS) : Fn := fun args => mkR ms (g (startS ms args ++ List.replicate (n - args.length) .un))
def rfOf : Nat → List Bool → List V → List (Nat × V)
  | k, true :: ms, v :: vs => (k, v) :: rfOf (k + 1) ms vs
  | k, false :: ms, _ :: vs => rfOf (k + 1) ms vs
  | _, _, _ => []
theorem rfOf_mem {p : Nat × V} : ∀ {ms : List Bool} {vs : List V} {k : Nat}, p ∈ rfOf k ms vs → ∃ j, p.1 = k + j ∧ ms[j]? = some true ∧ vs[j]? = some p.2
  | true :: ms, v :: vs, k, h => by
    rcases List.mem_cons.mp h with rfl | h
    · exact ⟨0, rfl, rfl, rfl⟩
    · obtain ⟨j, e1, e2, e3⟩ := rfOf_mem h
      exact ⟨j + 1, by omega, by simpa using e2, by simpa using e3⟩
  | false :: ms, v :: vs, k, h => by
    obtain ⟨j, e1, e2, e3⟩ := rfOf_mem (ms := ms) (vs := vs) (k := k + 1) h
    exact ⟨j + 1, by omega, by simpa using e2, by simpa using e3⟩
  | [], _, _, h => by cases h
  | true :: _, [], _, h => by cases h
  | false :: _, [], _, h => by cases h
theorem mem_rfOf : ∀ {ms : List Bool} {vs : List V} {k j : Nat} {v : V}, ms[j]? = some true → vs[j]? = some v → (k + j, v) ∈ rfOf k ms vs
  | true :: ms, w :: vs, k, 0, v, h1, h2 => by cases h2; exact List.mem_cons_self
  | false :: ms, w :: vs, k, 0, v, h1, h2 => by cases h1
  | true :: ms, w :: vs, k, j + 1, v, h1, h2 => by
    have := mem_rfOf (k := k + 1) (j := j) (ms := ms) (vs := vs) (v := v) (by simpa using h1) (by simpa using h2)
    rw [show k + (j + 1) = k + 1 + j by omega]
    exact List.mem_cons_of_mem _ this
  | false :: ms, w :: vs, k, j + 1, v, h1, h2 => by
    have := mem_rfOf (k := k + 1) (j := j) (ms := ms) (vs := vs) (v := v) (by simpa using h1) (by simpa using h2)
    rw [show k + (j + 1) = k + 1 + j by omega]
    exact this
  | [], _, _, _, _, h1, _ => by simp at h1
  | _ :: _, [], _, _, _, _, h2 => by simp at h2
section
variable {K : PySem.W.Frag} {F G H : Hp}
theorem RAr.slots : ∀ {ms : List Bool} {args : List T} {vs : List V} {as : List Addr}, RAr K F H ms args vs as → ∀ n, RSl K F F H (vs.map some ++ List.replicate n none) (startS ms args ++ List.replicate n .un) [] as
  | _, _, _, _, .nil, n => by
    show RSl K F F H (List.replicate n none) (List.replicate n .un) [] []
    induction n with
    | zero => exact .nil
    | succ n ih => exact .un ih
  | _, _, _, _, .val h r, n => by
    have := RSl.vis (p := false) (Rep.lon (G := F) h.lon) (RAr.slots r n)
    exact this
  | _, _, _, _, .ref nl h r, n => .hid nl h (RAr.slots r n)
theorem startS_at : ∀ {ms : List Bool} {args : List T} {vs : List V} {as : List Addr} {j : Nat}, RAr K F H ms args vs as → ms[j]? = some true → ∃ t, (startS ms args)[j]? = some (.hid true t)
  | _, _, _, _, _, .nil, h => by simp at h
  | _, _, _, _, 0, .val _ r, h => by simp at h
  | _, _, _, _, 0, .ref _ _ r, h => ⟨_, rfl⟩
  | _, _, _, _, j + 1, .val _ r, h => by
    obtain ⟨t, e⟩ := startS_at (j := j) r (by simpa using h)
    exact ⟨t, by simpa [startS] using e⟩
  | _, _, _, _, j + 1, .ref _ _ r, h => by
    obtain ⟨t, e⟩ := startS_at (j := j) r (by simpa using h)
    exact ⟨t, by simpa [startS] using e⟩
theorem RAr.startNoLn : ∀ {ms : List Bool} {args : List T} {vs : List V} {as : List Addr}, RAr K F H ms args vs as → NoLn (startS ms args)
  | _, _, _, _, .nil => fun s hs => by cases hs
  | _, _, _, _, .val h r => fun s hs => by
    rcases List.mem_cons.mp hs with rfl | hs
    · cases h <;> rfl
    · exact RAr.startNoLn r s hs
  | _, _, _, _, .ref nl h r => fun s hs => by
    rcases List.mem_cons.mp hs with rfl | hs
    · exact nl
    · exact RAr.startNoLn r s hs
theorem outs_rep : ∀ {ms : List Bool} {σ : L2.St} {δ : Sl} {av ah : List Addr} {vs : List V} {outs : List T}, RSl K F G H σ δ av ah → Same G H → outsL ms δ = some outs → ms.length = vs.length → (∀ (j : Nat) (v : V), ms[j]? = some true → vs[j]? = some v → σ[j]? = some (some v)) →
    ∃ as', RepL K F H outs (pick ms vs) as' ∧ ∀ a, as'.count a ≤ av.count a + ah.count a
  | [], _, _, _, _, [], _, _, _, e, _, _ => by cases e; exact ⟨[], .nil, fun a => by simp⟩
  | [], _, _, _, _, _ :: _, _, _, _, _, l, _ => by cases l
  | _ :: _, _, _, _, _, [], _, _, _, _, l, _ => by cases l
  | false :: ms, _, _, _, _, v :: vs, outs, r, gh, e, l, k => by
    cases r with
    | nil => cases e
    | un r =>
      obtain ⟨as', q, c⟩ := outs_rep (ms := ms) (vs := vs) r gh e (by simpa using l) fun j v h1 h2 => by simpa using k (j + 1) v (by simpa using h1) (by simpa using h2)
      exact ⟨as', q, c⟩
    | vis h r =>
      obtain ⟨as', q, c⟩ := outs_rep (ms := ms) (vs := vs) r gh e (by simpa using l) fun j v h1 h2 => by simpa using k (j + 1) v (by simpa using h1) (by simpa using h2)
      exact ⟨as', q, fun a => by have := c a; rw [List.count_append]; omega⟩
    | hid n h r =>
      obtain ⟨as', q, c⟩ := outs_rep (ms := ms) (vs := vs) r gh e (by simpa using l) fun j v h1 h2 => by simpa using k (j + 1) v (by simpa using h1) (by simpa using h2)
      exact ⟨as', q, fun a => by have := c a; rw [List.count_append]; omega⟩
  | true :: ms, _, _, _, _, v :: vs, outs, r, gh, e, l, k => by
    have k0 := k 0 v rfl rfl
    cases r with
    | nil => cases e
    | un r => cases e
    | vis h r =>
      rename_i v' σ p t δ as av
      have e : (outsL ms δ).map (fun r => t :: r) = some outs := e
      cases e2 : outsL ms δ with
      | none => rw [e2] at e; cases e
      | some outs2 =>
        rw [e2] at e; cases e
        obtain ⟨as', q, c⟩ := outs_rep (ms := ms) (vs := vs) r gh e2 (by simpa using l) fun j v h1 h2 => by simpa using k (j + 1) v (by simpa using h1) (by simpa using h2)
        simp at k0; subst k0
        exact ⟨_, .cons (h.mono (fun _ _ e => e) gh) q, fun a => by have := c a; simp only [List.count_append]; omega⟩
    | hid n h r =>
      rename_i v' σ p t δ as ah
      have e : (outsL ms δ).map (fun r => t :: r) = some outs := e
      cases e2 : outsL ms δ with
      | none => rw [e2] at e; cases e
      | some outs2 =>
        rw [e2] at e; cases e
        obtain ⟨as', q, c⟩ := outs_rep (ms := ms) (vs := vs) r gh e2 (by simpa using l) fun j v h1 h2 => by simpa using k (j + 1) v (by simpa using h1) (by simpa using h2)
        simp at k0; subst k0
        exact ⟨_, .cons h q, fun a => by have := c a; simp only [List.count_append]; omega⟩
theorem outs_noLn : ∀ {ms : List Bool} {δ : Sl} {outs : List T}, outsL ms δ = some outs → NoLn δ → T.noLnL outs = true
  | [], _, _, e, _ => by cases e; rfl
  | false :: ms, [], _, e, _ => by cases e
  | false :: ms, s :: δ, _, e, n => outs_noLn (ms := ms) e fun x hx => n x (List.mem_cons_of_mem _ hx)
  | true :: ms, [], _, e, _ => by cases e
  | true :: ms, .un :: δ, _, e, _ => by cases e
  | true :: ms, .vis p t :: δ, outs, e, n => by
    have e : (outsL ms δ).map (fun r => t :: r) = some outs := e
    cases e2 : outsL ms δ with
    | none => rw [e2] at e; cases e
    | some outs2 =>
      rw [e2] at e; cases e
      rw [T.noLnL, Bool.and_eq_true]
      exact ⟨n _ List.mem_cons_self, outs_noLn e2 fun x hx => n x (List.mem_cons_of_mem _ hx)⟩
  | true :: ms, .hid p t :: δ, outs, e, n => by
    have e : (outsL ms δ).map (fun r => t :: r) = some outs := e
    cases e2 : outsL ms δ with
    | none => rw [e2] at e; cases e
    | some outs2 =>
      rw [e2] at e; cases e
      rw [T.noLnL, Bool.and_eq_true]
      exact ⟨n _ List.mem_cons_self, outs_noLn e2 fun x hx => n x (List.mem_cons_of_mem _ hx)⟩
end
section
variable {P : Program} {w : World} {K : PySem.W.Frag} {mg : Str → Option Value} {base : Heap}
theorem post_of {F H : Hp} {as : List Addr} {ms : List Bool} {vs : List V} {σ : L2.St} {H' : Hp} {δ : Sl} {ts : List (V × T)} {outs : List T} (l : ms.length = vs.length) (S : Stt K ⟨F, H, as, rfOf 0 ms vs, []⟩ σ H' δ ts) (e : outsL ms δ = some outs) (n : NoLn δ) (nt : NoLnT ts) :
    ∃ F' as', Post K F H as F' H' (ts.map (·.2) ++ outs) (ts.map (·.1) ++ pick ms vs) as' := by
  obtain ⟨F', G, av, ah, at_, ⟨fb, fg, gh, sl, tm, nd, fo, hg, fr, nw, nf, pn, gx, ba, im⟩⟩ := S
  obtain ⟨as', q, c⟩ := outs_rep (ms := ms) (vs := vs) sl gh e l fun j v h1 h2 => by
    have := (pn _ (mem_rfOf (k := 0) h1 h2)).1
    simpa using this
  have tq : ∀ {ts : List (V × T)} {at_ : List Addr}, RTs K F' G ts at_ → ∃ bs, RepL K F' H' (ts.map (·.2) ++ outs) (ts.map (·.1) ++ pick ms vs) bs ∧ ∀ a, bs.count a = at_.count a + as'.count a := by
    intro ts at_ r
    induction r with
    | nil => exact ⟨as', q, fun a => by simp⟩
    | cons h r ih =>
      obtain ⟨bs, q2, c2⟩ := ih
      exact ⟨_, .cons (h.mono (fun _ _ e => e) gh) q2, fun a => by simp only [List.count_append]; rw [c2]; omega⟩
  obtain ⟨bs, q2, c2⟩ := tq tm
  have cc : ∀ a, bs.count a ≤ av.count a + ah.count a + at_.count a := fun a => by rw [c2]; have := c a; omega
  refine ⟨F', bs, fb, fun b o e => gh _ _ (fg _ _ e), q2, ?_, fun a => Nat.le_trans (cc a) (nd a), fun a ha => fo a (Nat.lt_of_lt_of_le (mem_of_count.mp ha) (cc a)), fr, fun a ha => nw a (Nat.lt_of_lt_of_le (mem_of_count.mp ha) (cc a)), nf, ba, im⟩
  rw [noLnL_iff]
  intro t ht
  rcases List.mem_append.mp ht with ht | ht
  · obtain ⟨p, hp, rfl⟩ := List.mem_map.mp ht
    exact nt p hp
  · have := outs_noLn e n
    rw [noLnL_iff] at this
    exact this t ht
theorem pick_false : ∀ {ms : List Bool} {vs : List V}, ms.any id = false → pick ms vs = []
  | [], [], _ => rfl
  | [], _ :: _, _ => rfl
  | true :: _, _, h => by simp at h
  | false :: _, [], _ => rfl
  | false :: ms, _ :: vs, h => pick_false (ms := ms) (vs := vs) (by simpa using h)
/-- .. where it raises -/
theorem post_exc {F H : Hp} {as : List Addr} {ms : List Bool} {vs : List V} {σ : L2.St} {H' : Hp} {δ : Sl} (l : ms.any id = false) (S : Stt K ⟨F, H, as, rfOf 0 ms vs, []⟩ σ H' δ []) :
    ∃ F' as', Post K F H as F' H' [] (pick ms vs) as' := by
  obtain ⟨F', G, av, ah, at_, ⟨fb, fg, gh, sl, tm, nd, fo, hg, fr, nw, nf, pn, gx, ba, im⟩⟩ := S
  rw [pick_false l]
  exact ⟨F', [], fb, fun b o e => gh _ _ (fg _ _ e), .nil, rfl, fun a => Nat.zero_le _, fun a ha => (nomatch ha), fr, fun a ha => (nomatch ha), nf, ba, im⟩
theorem fn_ok {x qual : Str} {st : Stmt} {f : Addr} {fd : FuncData} {N ps : List Str} {k : Nat} {ms : List Bool} {g : SS} (Fu : Fun K x qual st f fd) (Sc : FnScope N ps (defScope st)) (hl : ms.length = ps.length)
    (hb : ∀ (cdv : Value) (A : Around) (outer : List Env) (s : Shared) (H : Hp) (E : XK), A.guards = some [] → Room k (A.deeper (envOfC qual (defScope st) s.heap.objs.size f cdv)) →
      DSs (cxOf (L2.CX P w) P w K mg base N qual (defScope st) f cdv A outer s H E) (fun cls d _ H => E cls d H) (defBody st) g) :
    FnG P w K mg base (k + 1) f fd ps (spOf K mg ms (mkFn ms N.length g)) := by
  refine fnG_body Fu Sc (fun vs H Q E h => ?_) (fun cdv A outer s H vs Q E gd hr h => ?_)
  · obtain ⟨F, as, args, _, _, r, _⟩ := h
    exact r.len.1.trans hl
  · obtain ⟨F, as, args, fh, im, r, nd, fo, h⟩ := h
    refine ⟨_, hb cdv A outer s H E gd hr, ?_⟩
    have lv : ms.length = vs.length := r.len.1.symm
    have la : args.length = vs.length := r.len.2.trans lv
    have S0 : Stt K ⟨F, H, as, rfOf 0 ms vs, []⟩ (L2.start N vs) H (startS ms args ++ List.replicate (N.length - args.length) .un) [] := by
      have sl := r.slots (N.length - args.length)
      refine ⟨F, F, [], as, [], fun _ _ e => e, fun _ _ e => e, fh, ?_, .nil, fun a => by simpa using nd a, fun a ha => fo a (mem_of_count.mpr (by simpa using ha)), fun a ha => fo a (mem_of_count.mpr ha), fun _ _ e _ => e, fun a ha => .inr (mem_of_count.mpr (by simpa using ha)), fun _ _ e => .inl e, fun p hp => ?_, fun a ha => (nomatch ha), fun a ha => sl.thereH a ha, im⟩
      · unfold L2.start; rw [← la]; exact sl
      · obtain ⟨j, e1, e2, e3⟩ := rfOf_mem hp
        rw [Nat.zero_add] at e1
        rw [e1]
        have hj : j < vs.length := (List.getElem?_eq_some_iff.mp e3).1
        refine ⟨?_, ?_⟩
        · unfold L2.start
          rw [List.getElem?_append_left (by simpa using hj), List.getElem?_map, e3]; rfl
        · obtain ⟨t, et⟩ := startS_at r e2
          exact ⟨_, by rw [List.getElem?_append_left (List.getElem?_eq_some_iff.mp et).1]; exact et, rfl⟩
    have N0 : NoLn (startS ms args ++ List.replicate (N.length - args.length) .un) := fun s hs => by
      rcases List.mem_append.mp hs with hs | hs
      · exact r.startNoLn s hs
      · rw [(List.mem_replicate.mp hs).2]; rfl
    refine ⟨_, _, [], S0, N0, fun p hp => (nomatch hp), ?_⟩
    unfold mkFn at h
    generalize g (startS ms args ++ List.replicate (N.length - args.length) .un) = rr at h
    cases rr with
    | bad => exact h.elim
    | exc x δ' =>
      unfold mkR at h
      dsimp only at h
      by_cases e : ms.any id = true
      · rw [if_pos e] at h; exact h.elim
      · rw [if_neg e] at h
        exact fun σ' H' S' n' => by
          obtain ⟨F', as', P'⟩ := post_exc (ms := ms) (vs := vs) (by simpa using e) S'
          exact h H' F' as' P'
    | ok fl δ' =>
      unfold mkR at h
      dsimp only at h
      cases e : outsL ms δ' with
      | none => rw [e] at h; exact h.elim
      | some outs =>
        rw [e] at h
        cases fl with
        | brk => exact h.elim
        | cont => exact h.elim
        | next =>
          refine fun σ' H' S' n' => ?_
          · obtain ⟨F', as', P'⟩ := post_of (ts := [(.non, .non)]) lv (S'.pushS rfl) e n' (fun p hp => by simp at hp; subst hp; rfl)
            exact h .non H' F' as' P'
        | ret t =>
          refine fun v σ' H' S' ht n' => ?_
          · obtain ⟨F', as', P'⟩ := post_of (ts := [(v, t)]) lv S' e n' (fun p hp => by simp at hp; subst hp; exact ht)
            exact h v H' F' as' P'
end
end TV
set_option Elab.async false
set_option linter.all false
set_option maxRecDepth 100000
set_option maxHeartbeats 4000000
namespace TV
open PySem PySem.Spec PyProof.Rows L2
section
variable {X : Cx} {W : WX} {B : Bs} {σ : L2.St} {δ δ0 δ1 : Sl} {ts ts1 : List (V × T)} {H : Hp} {a b c e base idx tg : Expr} {es : List Expr} {f fa fb fc fi : ES} {pos pos' spos cpos apos : Pos} {i : Nat} {p : Bool} {x : Str}
def ePopH (i : Nat) : ES := fun δ => match δ[i]? with
  | some (.hid p (.nd .ow .lst xs)) => match xs.getLast? with
    | some u => .ok u (δ.set i (.hid p (.nd .ow .lst xs.dropLast)))
    | none => .bad
  | _ => .bad
theorem RepL.last {K : PySem.W.Frag} {F G : Hp} {xs : List T} {vs : List V} {as : List Addr} {u : T} (r : RepL K F G xs vs as) (e : xs.getLast? = some u) : ∃ w as1 as2, vs[vs.length - 1]? = some w ∧ RepL K F G xs.dropLast vs.dropLast as1 ∧ Rep K F G u w as2 ∧ ∀ c, as1.count c + as2.count c ≤ as.count c := by
  rw [List.getLast?_eq_getElem?] at e
  obtain ⟨w, as2, as0, e1, h1, c1, _⟩ := r.at_place e
  obtain ⟨c1', c2', p1, p2, pc⟩ := r.cut (xs.length - 1)
  have hz : xs.length - 1 < xs.length := (List.getElem?_eq_some_iff.mp e).1
  have hd : xs.drop (xs.length - 1) = [u] := by
    rw [List.drop_eq_getElem_cons hz, List.drop_eq_nil_of_le (by omega)]
    rw [List.getElem?_eq_getElem hz] at e
    rw [Option.some.inj e]
  rw [hd] at p2
  cases hv : vs.drop (xs.length - 1) with
  | nil => rw [hv] at p2; cases p2
  | cons w' r' =>
    rw [hv] at p2
    cases p2 with
    | cons hq rq =>
      cases rq
      refine ⟨w', c1', _, ?_, ?_, hq, fun c => by have := pc c; simp only [List.append_nil] at this; omega⟩
      · rw [← r.length]
        have : (vs.drop (xs.length - 1))[0]? = some w' := by rw [hv]; rfl
        rw [List.getElem?_drop] at this
        simpa using this
      · rw [List.dropLast_eq_take, List.dropLast_eq_take, ← r.length]; exact p1
def tP (X : Cx) (W : WX) (f : Sl → R Sl (Option Int)) : TO := fun σ H Q => ∃ B δ ts, Stt X.K B σ H δ ts ∧ Aft X W B σ δ ts (f δ) fun o δ' => ∀ H', Stt X.K B σ H' δ' ts → (NoLn δ → NoLn δ') → Q o H'
def DO (X : Cx) (W : WX) (e : Option Expr) (f : Sl → R Sl (Option Int)) : Prop := PO X e (tP X W f)
def oNone : Sl → R Sl (Option Int) := fun δ => .ok none δ
def oSome (f : ES) : Sl → R Sl (Option Int) := fun δ => (f δ).bind fun t δ => match t with
  | .int i => .ok (some i) δ
  | _ => .bad
theorem do_none : DO X W none oNone := ⟨fun pins s σ H Q I ⟨B, δ, ts, S, h⟩ => po_none.run pins s σ H Q I (h H S id)⟩
theorem do_some (h : DE X W e f) : DO X W (some e) (oSome f) := ⟨fun pins s σ H Q I ⟨B, δ, ts, S, hw⟩ => (po_some h).run pins s σ H Q I ⟨B, δ, ts, S, hw.bind.mono fun t δ1 h1 v H1 S1 n1 => by
  split at h1
  · rw [S1.eq_int]; exact ⟨_, rfl, h1 H1 S1.drop n1⟩
  · exact h1.elim⟩⟩
def cutT (xs : List T) (lo hi : Option Int) : List T := (xs.drop (HT.sIx xs.length 0 lo)).take (HT.sIx xs.length xs.length hi - HT.sIx xs.length 0 lo)
def gSl (t : T) (lo hi : Option Int) : Option T := match t with
  | .nd _ .lst xs => some (.nd .ow .lst (cutT xs lo hi))
  | .nd _ .lsg xs => some (.nd .ow .lst (cutT xs lo hi))
  | .nd _ .tup xs => if HT.sIx xs.length 0 lo = 0 ∧ HT.sIx xs.length xs.length hi = xs.length then none else some (mkN .tup (cutT xs lo hi))
  | .nd _ .tpg xs => if HT.sIx xs.length 0 lo = 0 ∧ HT.sIx xs.length xs.length hi = xs.length then none else some (mkN .tup (cutT xs lo hi))
  | _ => none
def eSl (f : ES) (flo fhi : Sl → R Sl (Option Int)) : ES := fun δ => (f δ).bind fun t δ => (flo δ).bind fun lo δ => (fhi δ).bind fun hi δ => opt (gSl t lo hi) δ
theorem RepL.cutT {K : PySem.W.Frag} {F G : Hp} {xs : List T} {vs : List V} {as : List Addr} {lo hi : Option Int} (r : RepL K F G xs vs as) : ∃ bs, RepL K F G (TV.cutT xs lo hi) (cutV vs lo hi) bs ∧ ∀ c, bs.count c ≤ as.count c := by
  unfold TV.cutT cutV
  rw [← r.length]
  obtain ⟨c1, c2, p1, p2, pc⟩ := r.cut (HT.sIx xs.length 0 lo)
  obtain ⟨d1, d2, q1, q2, qc⟩ := p2.cut (HT.sIx xs.length xs.length hi - HT.sIx xs.length 0 lo)
  exact ⟨d1, q1, fun c => by have := pc c; have := qc c; omega⟩
theorem Stt.cutT {K : PySem.W.Frag} {fl : Fg} {k k2 : Kd} {xs : List T} {v : V} {lo hi : Option Int} (S : Stt K B σ H δ ((v, .nd fl k xs) :: ts)) (hf : ∀ n, k2.fit n) (htg : k2.tg = false := by rfl) : ∃ (a : Addr) (vs : List V), v = .ref a ∧ Stands K H a k vs ∧ vs.length = xs.length ∧ ∀ q, H q = none → Stt K B σ (upd H q (k2.ho (cutV vs lo hi))) δ ((.ref q, mkN k2 (TV.cutT xs lo hi)) :: ts) := by
  obtain ⟨a, vs, rfl, st, l, S', _⟩ := S.open_
  refine ⟨a, vs, rfl, st, l, fun q hq => S'.alloc hq (hf _) (fun F G as _ _ r => ?_) htg⟩
  obtain ⟨a1, a2, r1, r2, c⟩ := RTs.unzip_app l r
  obtain ⟨b, q1, q2⟩ := r1.cutT (lo := lo) (hi := hi)
  exact ⟨b, a2, q1, r2, fun a => by have := q2 a; have := c a; omega⟩
theorem de_sl {lo hi : Option Expr} {flo fhi : Sl → R Sl (Option Int)} {p2 : Pos} (he : DE X W e f) (hl : DO X W lo flo) (hu : DO X W hi fhi) : DE X W (.Subscript e (.Slice lo hi none p2) pos) (eSl f flo fhi) :=
  (pe_slice (SlR.or sl_list sl_tup) he hl hu).imp fun σ H Q ⟨B, δ, ts, S, h⟩ => ⟨B, δ, ts, S, h.bind.mono fun t δ1 h1 v H1 S1 n1 =>
    ⟨B, δ1, _, S1, h1.bind.lift n1 (fun _ _ => Stt.drop) fun lo δ2 h2 H2 S2 n2 => ⟨B, δ2, _, S2, h2.bind.lift (fun z => n2 (n1 z)) (fun _ _ => Stt.drop) fun hi δ3 h3 H3 S3 n3 => by
      have nn : NoLn δ → NoLn δ3 := fun z => n3 (n2 (n1 z))
      unfold gSl at h3
      split at h3
      · obtain ⟨a, vs, rfl, st, l, k⟩ := S3.cutT (k2 := .lst) (lo := lo) (hi := hi) fun _ => trivial
        exact .inl ⟨a, vs, rfl, SqL.of st, fun q hq => h3 _ _ (k q hq) nn⟩
      · obtain ⟨a, vs, rfl, st, l, k⟩ := S3.cutT (k2 := .lst) (lo := lo) (hi := hi) fun _ => trivial
        exact .inl ⟨a, vs, rfl, st, fun q hq => h3 _ _ (k q hq) nn⟩
      · obtain ⟨a, vs, rfl, st, l, k⟩ := S3.cutT (k2 := .tup) (lo := lo) (hi := hi) fun _ => trivial
        split at h3
        · exact h3.elim
        · rename_i xs hz
          exact .inr ⟨a, vs, rfl, SqT.of st, by rw [l]; exact hz, fun q hq => h3 _ _ (k q hq) nn⟩
      · obtain ⟨a, vs, rfl, st, l, k⟩ := S3.cutT (k2 := .tup) (lo := lo) (hi := hi) fun _ => trivial
        split at h3
        · exact h3.elim
        · rename_i xs hz
          exact .inr ⟨a, vs, rfl, st, by rw [l]; exact hz, fun q hq => h3 _ _ (k q hq) nn⟩
      · exact h3.elim⟩⟩⟩
def flatT (t : T) : Bool := t.scal.isSome
def eqT1 : T → T → Bool
  | .non, .non => true
  | .bl a, .bl b => a == b
  | .bl a, .int b => (if a then 1 else 0) == b
  | .int a, .bl b => a == (if b then 1 else 0)
  | .int a, .int b => a == b
  | .str a, .str b => a == b
  | _, _ => false
def inT (x : T) (xs : List T) : Bool := xs.any fun y => eqT1 y x
def gInF (neg : Bool) (x y : T) : Option T := (itemsOf y).bind fun xs => if flatT x = true ∧ xs.all flatT = true then some (.bl (if neg then !inT x xs else inT x xs)) else none
theorem scal_rep {K : PySem.W.Frag} {F G : Hp} {t : T} {v : V} {as : List Addr} (h : flatT t = true) (r : Rep K F G t v as) : t.scal = some v ∧ flatV v = true := by
  unfold flatT at h
  cases r with
  | lon r => cases r with
    | non => exact ⟨rfl, rfl⟩
    | bl => exact ⟨rfl, rfl⟩
    | int => exact ⟨rfl, rfl⟩
    | str => exact ⟨rfl, rfl⟩
    | fz => cases h
    | ln => cases h
  | ow => cases h
theorem eqT1_eq {s t : T} {v w : V} (h1 : s.scal = some v) (h2 : t.scal = some w) : eqT1 s t = eqV v w := by
  cases s <;> cases t <;> simp only [T.scal, Option.some.injEq, reduceCtorEq] at h1 h2 <;> (subst h1; subst h2; rfl)
theorem inT_eq {K : PySem.W.Frag} {F G : Hp} {t : T} {w : V} (h2 : t.scal = some w) : ∀ {xs : List T} {vs : List V} {as : List Addr}, RepL K F G xs vs as → xs.all flatT = true → vs.all flatV = true ∧ inT t xs = inV w vs
  | _, _, _, .nil, _ => ⟨rfl, rfl⟩
  | _, _, _, .cons h r, e => by
    rw [List.all_cons, Bool.and_eq_true] at e
    obtain ⟨h1, h3⟩ := scal_rep e.1 h
    obtain ⟨q1, q2⟩ := inT_eq h2 r e.2
    refine ⟨by rw [List.all_cons, h3, q1]; rfl, ?_⟩
    unfold inT inV at q2 ⊢
    rw [List.any_cons, List.any_cons, q2, eqT1_eq h1 h2]
theorem ov_inF {neg : Bool} : OpV X (rIn X.K neg) (gInF neg) := by
  intro B σ H δ ts v w tx ty t Q e S h
  unfold gInF at e
  cases e1 : itemsOf ty with
  | none => rw [e1] at e; cases e
  | some xs =>
    rw [e1] at e
    simp only [Option.bind_some] at e
    by_cases hz : flatT tx = true ∧ xs.all flatT = true
    · rw [if_pos hz] at e; cases e
      have S0 := S.swap
      obtain ⟨hv, hfv⟩ : tx.scal = some v ∧ flatV v = true := S0.see fun F G as _ _ _ r => by
        cases r with
        | cons h r => exact scal_rep hz.1 h
      obtain ⟨a, vs, rfl, sq, l, S'⟩ := S.items e1
      have key : vs.all flatV = true ∧ inT tx xs = inV v vs := S'.see fun F G as _ _ _ r => by
        obtain ⟨a1, a2, r1, r2, _⟩ := RTs.unzip_app l r
        exact inT_eq hv r1 hz.2
      refine ⟨a, vs, rfl, sq, hfv, key.1, ?_⟩
      rw [← key.2]
      exact h _ H (S.drop.drop.pushS rfl)
    · rw [if_neg hz] at e; cases e
theorem de_inF (ha : DE X W a fa) (hb : DE X W b fb) (hm : behindInMarks .In b = false := by rfl) : DE X W (.Compare a [.In] [b] pos) (eBin (gInF false) fa fb) := de_cmp op_in_seq ov_inF ha hb hm
end
structure Has (P : Program) (w : World) (K : PySem.W.Frag) (mg : Str → Option Value) (base : Heap) (k : Nat) (x : Str) (ps : List Str) (ms : List Bool) (m : Fn) : Prop where
  ex : ∃ (f : Addr) (fd : FuncData), mg x = some (.ref f) ∧ PySem.W.keepIn K (.ref f) = true ∧ Binds K fd ps [] ∧ FnG P w K mg base k f fd ps (spOf K mg ms m)
section
variable {X : Cx} {W : WX} {e : Expr} {es : List Expr} {pos : Pos}
theorem de_fn {k j : Nat} {ms : List Bool} {ps : List Str} {m : Fn} {x : Str} {p : Pos} {g : AS} (h : Has X.prog X.w X.K X.mg X.base k x ps ms m) (tk : Takes X W) (gd : X.A.guards = some []) (hr : Room j X.A) (hk : k ≤ j) (hg : Gl X x) (ha : DA X W (e :: es) g) (hdb : (x == ("__debug__" : Str)) = false := by decide)
    (he : starEach (e :: es) X.env = (false, eval e X.env) :: starEach es X.env := by rfl) (hpl : (backTo pos (starEach es X.env)).any (·.1) = false := by rfl) : DE X W (.Call (.Name x p) (e :: es) [] pos) (eCallM ms m g) := by
  obtain ⟨f, fd, h1, h2, h3, h4⟩ := h.ex
  exact de_call tk (h4.mono hk) gd hr hg h1 h2 h3 ha hdb he hpl
end
theorem froL_ints {K : PySem.W.Frag} {F : Hp} : ∀ ns : List Int, FroL K F (ns.map T.int) (ns.map V.int)
  | [] => .nil
  | n :: ns => .cons (.int n) (froL_ints ns)
theorem law_sp {K : PySem.W.Frag} {mg : Str → Option Value} {m : Fn} {H : Hp} {a : Addr} {ns : List Int} {outs : List T} (hm : m [.nd .fz .lsg (ns.map T.int)] = .ok (.bl true) outs) (hS : SqL K H a (ns.map V.int)) :
    spOf K mg [false] m [.ref a] H (fun v _ => v = .bl true) fun _ _ _ => False := by
  refine ⟨H, [], [.nd .fz .lsg (ns.map T.int)], fun _ _ e => e, fun _ _ e _ => e, .val (.fz (froL_ints ns) hS) .nil, fun _ => Nat.zero_le _, fun a h => (nomatch h), ?_⟩
  rw [hm]
  intro v H' F' as' Po
  have := Po.rp
  cases this with
  | cons h r => cases h with
    | lon h => cases h; rfl
end TV
set_option Elab.async false
set_option linter.all false
set_option maxRecDepth 100000
set_option maxHeartbeats 4000000
namespace TV
open PySem PySem.Spec PyProof.Rows L2
section
variable {X : Cx} {W : WX} {e : Expr} {f1 f2 : ES} {pos : Pos}
theorem de_ite {c : Sl → Bool} (h1 : DE X W e f1) (h2 : DE X W e f2) : DE X W e (fun δ => if c δ = true then f1 δ else f2 δ) := ⟨fun pins s σ H Q I ⟨B, δ, ts, S, h⟩ => by
  by_cases hc : c δ = true
  · simp only [hc, if_true] at h; exact h1.run pins s σ H Q I ⟨B, δ, ts, S, h⟩
  · simp only [hc, if_false] at h; exact h2.run pins s σ H Q I ⟨B, δ, ts, S, h⟩⟩
theorem di_ite {tg : Expr} {i1 i2 : IS} {c : Sl → Bool} (h1 : DI X W tg e i1) (h2 : DI X W tg e i2) : DI X W tg e (fun δ => if c δ = true then i1 δ else i2 δ) := ⟨fun pins s σ H Q I ⟨B, δ, ts, S, h⟩ => by
  by_cases hc : c δ = true
  · simp only [hc, if_true] at h; exact h1.run pins s σ H Q I ⟨B, δ, ts, S, h⟩
  · simp only [hc, if_false] at h; exact h2.run pins s σ H Q I ⟨B, δ, ts, S, h⟩⟩
def isTup (r : R Sl T) : Bool := match r with
  | .ok t _ => (tupOf t.nrm).isSome
  | _ => false
/-- a list or a tuple is walked -/
def iAny (f : ES) : IS := fun δ => if isTup (f δ) = true then iTupS f δ else iSeq f δ
theorem di_any {tg : Expr} {f : ES} (h : DE X W e f) : DI X W tg e (iAny f) := di_ite (di_tup h) (di_list h)
def canFz (i : Nat) (δ : Sl) : Bool := match δ[i]? with
  | some (.vis false t) => t.noLn
  | _ => false
/-- a name is read: frozen where that can be, else seen -/
def eAuto (i : Nat) : ES := fun δ => if canFz i δ = true then eFz i δ else eVar i δ
theorem de_auto {i : Nat} {x : Str} (hN : X.N[i]? = some x := by rfl) (hv : Vis X.env.scope x := by first | exact Or.inl rfl | exact Or.inr (Or.inl rfl) | exact Or.inr (Or.inr rfl)) (hd : (x == ("__debug__" : Str)) = false := by decide)
    (hcd : (x == ("__classdict__" : Str)) = false := by decide) : DE X W (.Name x pos) (eAuto i) := de_ite (de_fz hN hv hd hcd) (de_var hN hv hd hcd)
end
/-- the wish of a law -/
def spTrue (K : PySem.W.Frag) : Sp := fun vs H Q _ => ∃ (a : Addr) (ns : List Int), vs = [.ref a] ∧ SqL K H a (ns.map V.int) ∧ ns.length ≤ 63 ∧ ∀ v H', v = .bl true → Q v H'
theorem law_ok {P : Program} {w : World} {K : PySem.W.Frag} {mg : Str → Option Value} {base : Heap} {k : Nat} {f : Addr} {fd : FuncData} {ps : List Str} {m : Fn} (F : FnG P w K mg base k f fd ps (spOf K mg [false] m)) (hl : ps.length = 1)
    (hm : ∀ ns : List Int, ns.length ≤ 63 → ∃ outs, m [.nd .fz .lsg (ns.map T.int)] = .ok (.bl true) outs) : FnG P w K mg base k f fd ps (spTrue K) :=
  F.imp fun vs H Q E ⟨a, ns, e, hS, hle, q⟩ => by
    subst e
    obtain ⟨outs, e⟩ := hm ns hle
    obtain ⟨F', as, args, h1, hi, h2, h3, h4, h5⟩ := law_sp (mg := mg) e hS
    refine ⟨F', as, args, h1, hi, h2, h3, h4, ?_⟩
    cases em : m args with
    | bad => rw [em] at h5; exact h5
    | ok t outs => rw [em] at h5; exact fun v H' F' as' p => q v H' (h5 v H' F' as' p)
    | exc x outs => rw [em] at h5; exact fun H' F' as' p cls d H2 z xa => (h5 H' F' as' p cls d H2 z xa).elim
theorem walk_tree {l : PySem.W.OpenLaw} {k : Nat} {q : Program} {loose : List Str} {XP : (Str → Option Value) → Heap → Prop} {YP : World → Heap → Prop} {d : DefRec} {K : Params → PySem.W.Frag} {x : Str} (hn : l.most = some 63) (hdf : d.params.defaults = []) (hr : Room k callerA)
    (hY : ∀ (w : World) (h : Heap), YP w h → (K w.params).In h)
    (F : ∀ (w : World) (mg : Str → Option Value) (fa : Addr) (h : Heap), (K w.params).In h → h.Ns mainGlobals mg → mg d.name = some (.ref fa) →
      ∃ fd : FuncData, (∀ (s : Shared) (u : Value), BindsTo s fd ⟨[u], []⟩ [(x, u)]) ∧ ∀ base : Heap, (K w.params).In base → base.Ns mainGlobals mg → FnG l.prog w (K w.params) mg base k fa fd [x] (spTrue (K w.params))) :
    PySem.W.WalkO q loose XP YP l.row.toRowW d [] (fun f vs => PySem.call f vs) :=
  walkG (sp := fun w => spTrue (K w.params)) hn hdf hr hY F (fun _ _ a ns hl _ hS => ⟨a, ns, rfl, hS, hl, fun v _ h => h⟩)
/-- a def, by its body's walk -/
theorem fn_okM {P : Program} {w : World} {K : PySem.W.Frag} {mg : Str → Option Value} {base : Heap} {x qual : Str} {st : Stmt} {f : Addr} {fd : FuncData} {N ps : List Str} {k n : Nat} {ms : List Bool} {m : Fn} {g : SS} (Fu : L2.Fun K x qual st f fd) (Sc : FnScope N ps (defScope st)) (hl : ms.length = ps.length) (hn : N.length = n) (hm : m = mkFn ms n g)
    (hb : ∀ (cdv : Value) (A : Around) (outer : List Env) (s : Shared) (H : Hp) (E : XK), A.guards = some [] → Room k (A.deeper (envOfC qual (defScope st) s.heap.objs.size f cdv)) →
      PassesOwn (model P w) (A.deeper (envOfC qual (defScope st) s.heap.objs.size f cdv)) (cxOf (L2.CX P w) P w K mg base N qual (defScope st) f cdv A outer s H E).env (cxOf (L2.CX P w) P w K mg base N qual (defScope st) f cdv A outer s H E).xe →
      Takes (cxOf (L2.CX P w) P w K mg base N qual (defScope st) f cdv A outer s H E) (fun cls d _ H => E cls d H) →
      DSs (cxOf (L2.CX P w) P w K mg base N qual (defScope st) f cdv A outer s H E) (fun cls d _ H => E cls d H) (defBody st) g) : FnG P w K mg base (k + 1) f fd ps (spOf K mg ms m) := by
  subst hm hn
  exact fn_ok Fu Sc hl fun cdv A outer s H E gd hr => hb cdv A outer s H E gd hr (passes_of (X := cxOf (L2.CX P w) P w K mg base N qual (defScope st) f cdv A outer s H E) rfl) (takes_of (X := cxOf (L2.CX P w) P w K mg base N qual (defScope st) f cdv A outer s H E) rfl rfl rfl rfl)
/-- a def of the module, by its body's walk -/
theorem has_ok {P : Program} {w : World} {K : PySem.W.Frag} {mg : Str → Option Value} {base : Heap} {x qual : Str} {st : Stmt} {f : Addr} {fd : FuncData} {N ps : List Str} {k n : Nat} {ms : List Bool} {m : Fn} {g : SS} (Fu : L2.Fun K x qual st f fd) (hx : mg x = some (.ref f)) (Sc : FnScope N ps (defScope st)) (hl : ms.length = ps.length) (hn : N.length = n) (hm : m = mkFn ms n g)
    (hbd : ∀ (kV doc pm : Value) (an : Option Addr) (cdv ct : Value) (us : List Value), us.length = ps.length → bindArgs (PySem.W.fnOf x qual (defArgs st) (defBody st) (defScope st) .none kV doc pm an cdv ct) ⟨us, []⟩ = pure (ps.zip us))
    (hb : ∀ (cdv : Value) (A : Around) (outer : List Env) (s : Shared) (H : Hp) (E : XK), A.guards = some [] → Room k (A.deeper (envOfC qual (defScope st) s.heap.objs.size f cdv)) →
      PassesOwn (model P w) (A.deeper (envOfC qual (defScope st) s.heap.objs.size f cdv)) (cxOf (L2.CX P w) P w K mg base N qual (defScope st) f cdv A outer s H E).env (cxOf (L2.CX P w) P w K mg base N qual (defScope st) f cdv A outer s H E).xe →
      Takes (cxOf (L2.CX P w) P w K mg base N qual (defScope st) f cdv A outer s H E) (fun cls d _ H => E cls d H) →
      DSs (cxOf (L2.CX P w) P w K mg base N qual (defScope st) f cdv A outer s H E) (fun cls d _ H => E cls d H) (defBody st) g) : Has P w K mg base (k + 1) x ps ms m := by
  subst hm hn
  exact ⟨f, fd, hx, Fu.kp, Fu.binds hbd, fn_ok Fu Sc hl fun cdv A outer s H E gd hr => hb cdv A outer s H E gd hr (passes_of (X := cxOf (L2.CX P w) P w K mg base N qual (defScope st) f cdv A outer s H E) rfl) (takes_of (X := cxOf (L2.CX P w) P w K mg base N qual (defScope st) f cdv A outer s H E) rfl rfl rfl rfl)⟩
theorem boot_ty_int : bootBuiltins "int" = some (.type "int") := by decide +kernel
theorem boot_ty_bool : bootBuiltins "bool" = some (.type "bool") := by decide +kernel
theorem boot_ty_list : bootBuiltins "list" = some (.type "list") := by decide +kernel
theorem boot_ty_tuple : bootBuiltins "tuple" = some (.type "tuple") := by decide +kernel
end TV
set_option Elab.async false
set_option linter.all false
set_option maxRecDepth 100000
set_option maxHeartbeats 4000000
namespace TV
open PySem PySem.Spec PyProof.Rows L2
def fg1 (i : Nat) (δ : Sl) : Sl := match δ[i]? with
  | some s => if s.pin = true then δ else δ.set i .un
  | none => δ
def fgS : List Nat → Sl → Sl
  | [], δ => δ
  | v :: vs, δ => fgS vs (fg1 v δ)
def shS : List Nat → Sl → Sl
  | [], δ => δ
  | v :: vs, δ => shS vs (showS v δ)
def hdS : List Nat → Sl → Sl
  | [], δ => δ
  | v :: vs, δ => hdS vs (hideS v δ)
theorem ghost_id : Ghost (fun δ => δ) := fun S n _ => ⟨S, n⟩
theorem ghost_fg1 {i : Nat} : Ghost (fg1 i) := fun {K B σ H δ ts} S n nt => by
  unfold fg1
  cases e : δ[i]? with
  | none => exact ⟨S, n⟩
  | some s =>
    dsimp only
    by_cases hp : s.pin = true
    · rw [if_pos hp]; exact ⟨S, n⟩
    · rw [if_neg hp]
      have hi : i < σ.length := by rw [S.len]; exact (List.getElem?_eq_some_iff.mp e).1
      have S' := S.forget e (by simpa using hp) σ[i]
      rw [List.set_getElem_self] at S'
      exact ⟨S', n.set rfl⟩
theorem ghost_fg : ∀ {vs : List Nat}, Ghost (fgS vs)
  | [] => ghost_id
  | v :: vs => fun S n nt => let ⟨S', n'⟩ := ghost_fg1 (i := v) S n nt; ghost_fg (vs := vs) S' n' nt
theorem ghost_sh : ∀ {vs : List Nat}, Ghost (shS vs)
  | [] => ghost_id
  | v :: vs => fun S n nt => let ⟨S', n'⟩ := ghost_show (i := v) S n nt; ghost_sh (vs := vs) S' n' nt
theorem ghost_hd : ∀ {vs : List Nat}, Ghost (hdS vs)
  | [] => ghost_id
  | v :: vs => fun S n nt => let ⟨S', n'⟩ := ghost_hide (i := v) S n nt; ghost_hd (vs := vs) S' n' nt
/-- behind a statement: hn where it goes on, hr where it returns, hc at break and continue -/
def post (hn hr hc : Sl → Sl) (g : SS) : SS := fun δ => (g δ).bind fun fl δ => match fl with
  | .next => .ok .next (hn δ)
  | .ret t => .ok (.ret t) (hr δ)
  | .brk => .ok .brk (hc δ)
  | .cont => .ok .cont (hc δ)
section
variable {X : Cx} {W : WX} {g : SS} {st : Stmt} {sts : List Stmt} {hn hr hc : Sl → Sl}
theorem AftS.post {B : Bs} {ts : List (V × T)} {D : Ends} {δ : Sl} (gn : Ghost hn) (gr : Ghost hr) (gc : Ghost hc) (nt : NoLnT ts) (h : AftS X W B ts (post hn hr hc g δ) D) : AftS X W B ts (g δ) D := by
  unfold TV.post at h
  cases e : g δ with
  | bad => rw [e] at h; exact h
  | exc x s => rw [e] at h; exact h
  | ok fl s =>
    rw [e] at h
    cases fl with
    | next => exact fun σ' H' S' n' => let ⟨S2, n2⟩ := gn S' n' nt; h σ' H' S2 n2
    | ret t => exact fun v σ' H' S' ht n' => let ⟨S2, n2⟩ := gr S' n' (fun p hp => by
        rcases List.mem_cons.mp hp with rfl | hp
        · exact ht
        · exact nt p hp); h v σ' H' S2 ht n2
    | brk => exact fun σ' H' S' n' => let ⟨S2, n2⟩ := gc S' n' nt; h σ' H' S2 n2
    | cont => exact fun σ' H' S' n' => let ⟨S2, n2⟩ := gc S' n' nt; h σ' H' S2 n2
theorem ds_post (gn : Ghost hn) (gr : Ghost hr) (gc : Ghost hc) (h : DS X W st g) : DS X W st (post hn hr hc g) := h.imp fun D σ H ⟨B, δ, ts, S, n, nt, k⟩ => ⟨B, δ, ts, S, n, nt, AftS.post gn gr gc nt k⟩
end
end TV
set_option Elab.async false
set_option linter.all false
set_option maxRecDepth 100000
set_option maxHeartbeats 4000000
namespace TV
open PySem PySem.Spec PyProof.Rows L2
theorem Stt.fg1 {K : PySem.W.Frag} {B : Bs} {σ : L2.St} {H : Hp} {δ : Sl} {ts : List (V × T)} {i : Nat} (S : Stt K B σ H δ ts) : Stt K B σ H (TV.fg1 i δ) ts := by
  unfold TV.fg1
  cases e : δ[i]? with
  | none => exact S
  | some s =>
    dsimp only
    by_cases hp : s.pin = true
    · rw [if_pos hp]; exact S
    · rw [if_neg hp]
      have hi : i < σ.length := by rw [S.len]; exact (List.getElem?_eq_some_iff.mp e).1
      have S' := S.forget e (by simpa using hp) σ[i]
      rw [List.set_getElem_self] at S'
      exact S'
theorem Stt.fgS {K : PySem.W.Frag} {B : Bs} {σ : L2.St} {H : Hp} {ts : List (V × T)} : ∀ {vs : List Nat} {δ : Sl}, Stt K B σ H δ ts → Stt K B σ H (TV.fgS vs δ) ts
  | [], _, S => S
  | v :: vs, _, S => Stt.fgS (vs := vs) S.fg1
theorem noLn_fg1 {δ : Sl} {i : Nat} (n : NoLn δ) : NoLn (TV.fg1 i δ) := by
  unfold TV.fg1
  cases e : δ[i]? with
  | none => exact n
  | some s =>
    dsimp only
    by_cases hp : s.pin = true
    · rw [if_pos hp]; exact n
    · rw [if_neg hp]; exact n.set rfl
theorem noLn_fgS : ∀ {vs : List Nat} {δ : Sl}, NoLn δ → NoLn (TV.fgS vs δ)
  | [], _, n => n
  | v :: vs, _, n => noLn_fgS (vs := vs) (noLn_fg1 n)
def exF {α : Type} (vs : List Nat) (r : R Sl α) : R Sl α := match r with
  | .ok a s => .ok a s
  | .exc x s => .exc x (fgS vs s)
  | .bad => .bad
def exM {α : Type} (r : R Sl α) : R Sl α := match r with
  | .ok a s => .ok a s
  | .exc _ _ => .bad
  | .bad => .bad
section
variable {X : Cx} {W : WX} {e : Expr} {f : ES}
/-- a value is frozen where it stands -/
def eFr (f : ES) : ES := fun δ => (f δ).bind fun t δ => if t.noLn = true then .ok t.frz δ else .bad
theorem de_fr (h : DE X W e f) : DE X W e (eFr f) := h.imp fun σ H Q ⟨B, δ, ts, S, k⟩ => ⟨B, δ, ts, S, (Aft.bind k).mono fun t δ1 h1 v H1 S1 n1 => by
  by_cases hn : t.noLn = true
  · rw [if_pos hn] at h1; exact h1 v H1 (S1.frzT hn) n1
  · rw [if_neg hn] at h1; exact h1.elim⟩
def eCallF (vs : List Nat) (ms : List Bool) (m : Fn) (g : AS) : ES := fun δ => (g δ).bind fun as δ => exF vs (callM ms m as δ)
def eCallN (ms : List Bool) (m : Fn) (g : AS) : ES := fun δ => (g δ).bind fun as δ => exM (callM ms m as δ)
theorem Aft.exF {B : Bs} {σ : L2.St} {δ0 : Sl} {ts : List (V × T)} {α : Type} {r : R Sl α} {vs : List Nat} {P : α → Sl → Prop} (k : Aft X W B σ δ0 ts (TV.exF vs r) P) : Aft X W B σ δ0 ts r P := by
  unfold TV.exF at k
  cases r with
  | bad => exact k
  | ok a s => exact k
  | exc x s => exact fun H' S' n' => k H' S'.fgS (fun n0 => noLn_fgS (n' n0))
theorem Aft.exM {B : Bs} {σ : L2.St} {δ0 : Sl} {ts : List (V × T)} {α : Type} {r : R Sl α} {P : α → Sl → Prop} (k : Aft X W B σ δ0 ts (TV.exM r) P) : Aft X W B σ δ0 ts r P := by
  unfold TV.exM at k
  cases r with
  | bad => exact k
  | ok a s => exact k
  | exc x s => exact k.elim
theorem de_callF {vs : List Nat} {ms : List Bool} {m : Fn} {g : AS} (h : DE X W e (eCallM ms m g)) : DE X W e (eCallF vs ms m g) := h.imp fun σ H Q ⟨B, δ, ts, S, k⟩ => ⟨B, δ, ts, S, by
  unfold eCallF at k
  unfold eCallM
  cases eg : g δ with
  | bad => rw [eg] at k; exact k
  | exc x s => rw [eg] at k; exact k
  | ok a s => rw [eg] at k; exact Aft.exF k⟩
theorem de_callN {ms : List Bool} {m : Fn} {g : AS} (h : DE X W e (eCallM ms m g)) : DE X W e (eCallN ms m g) := h.imp fun σ H Q ⟨B, δ, ts, S, k⟩ => ⟨B, δ, ts, S, by
  unfold eCallN at k
  unfold eCallM
  cases eg : g δ with
  | bad => rw [eg] at k; exact k
  | exc x s => rw [eg] at k; exact k
  | ok a s => rw [eg] at k; exact Aft.exM k⟩
/-- an empty list, of what it will hold -/
theorem de_emp {pos : Pos} : DE X W (.List [] pos) (eC (.nd .ow .lst [])) := (de_lst da_nil).imp fun σ H Q ⟨B, δ, ts, S, k⟩ => ⟨B, δ, ts, S, by
  have h : eLst aNil δ = .ok (.nd .ow .lst []) δ := if_pos (c := ([] : List T).length ≤ sizeLine) (e := .bad) (Nat.zero_le _)
  rw [h]; exact k⟩
end
end TV
set_option Elab.async false
set_option linter.all false
set_option maxRecDepth 100000
set_option maxHeartbeats 4000000
namespace TV
open PySem PySem.Spec PyProof.Rows L2
section
variable {X : Cx} {W : WX} {B : Bs} {σ : L2.St} {δ : Sl} {ts : List (V × T)} {H : Hp} {a b c e : Expr} {es : List Expr} {f fa fb fc : ES} {g : AS} {pos : Pos}
def lsRg (lo hi : Int) (δ : Sl) : R Sl T := if rgOk lo hi = true ∧ (hi - lo).toNat ≤ sizeLine then .ok (.nd .ow .lst (rgT lo (hi - lo).toNat)) δ else .bad
def eLsRg1 (fa : ES) : ES := fun δ => (fa δ).bind fun t δ => match t with
  | .int j => lsRg 0 j δ
  | _ => .bad
def eLsRg2 (fa fb : ES) : ES := fun δ => (fa δ).bind fun s δ => (fb δ).bind fun t δ => match s, t with
  | .int i, .int j => lsRg i j δ
  | _, _ => .bad
theorem Stt.rgNew {K : PySem.W.Frag} {i j : Int} {q : Addr} (S : Stt K B σ H δ ts) (hq : H q = none) : Stt K B σ (upd H q (.lst (rgV i j))) δ ((.ref q, .nd .ow .lst (rgT i (j - i).toNat)) :: ts) := by
  have e1 : rgT i (j - i).toNat = ((List.range (j - i).toNat).map fun (k : Nat) => i + (k : Int)).map T.int := by unfold rgT; rw [List.map_map]; rfl
  have e2 : rgV i j = ((List.range (j - i).toNat).map fun (k : Nat) => i + (k : Int)).map V.int := by unfold rgV; rw [List.map_map]; rfl
  rw [e1, e2]
  exact S.alloc (k := .lst) hq trivial fun F G as _ _ r => ⟨[], as, (froL_ints _).lon.rep, r, fun a => by simp⟩
theorem lsRg_some {i j : Int} {P : T → Sl → Prop} (h : Aft X W B σ δ ts (lsRg i j δ) P) : RgOk i j ∧ P (.nd .ow .lst (rgT i (j - i).toNat)) δ := by
  unfold lsRg at h
  by_cases hz : rgOk i j = true ∧ (j - i).toNat ≤ sizeLine
  · rw [if_pos hz] at h
    obtain ⟨hz, hs⟩ := hz
    unfold rgOk at hz
    simp only [Bool.and_eq_true, decide_eq_true_eq] at hz
    exact ⟨⟨hz.1, hz.2.1, hz.2.2.1, hz.2.2.2, hs⟩, h⟩
  · rw [if_neg hz] at h; exact h.elim
theorem de_lsRg1 {p p2 pos2 : Pos} (hc : X.calm = true) (hg : Gl X "list") (hm : X.mg "list" = none) (hg2 : Gl X "range") (hm2 : X.mg "range" = none) (ha : DE X W a fa) (na : starEach [a] X.env = (false, eval a X.env) :: starEach [] X.env := by rfl)
    (nb : starEach [.Call (.Name "range" p2) [a] [] pos2] X.env = (false, eval (.Call (.Name "range" p2) [a] [] pos2) X.env) :: starEach [] X.env := by rfl) : DE X W (.Call (.Name "list" p) [.Call (.Name "range" p2) [a] [] pos2] [] pos) (eLsRg1 fa) :=
  (pe_listRg hc hg hm (prg_1 hg2 hm2 ha na) nb).imp fun σ H Q ⟨B, δ, ts, S, h⟩ => ⟨B, δ, ts, S, h.bind.mono fun t δ1 h1 v H1 S1 n1 => by
    split at h1
    · rename_i j
      rw [S1.eq_int]
      obtain ⟨r, k⟩ := lsRg_some (X := X) (W := W) (B := B) (σ := σ) (ts := ts) (δ := δ1) (P := fun t δ' => ∀ v H', Stt X.K B σ H' δ' ((v, t) :: ts) → (NoLn δ → NoLn δ') → Q v H') (by
        unfold lsRg at h1 ⊢; split at h1
        · rename_i hz; rw [if_pos hz]; exact h1
        · exact h1.elim)
      exact ⟨j, rfl, r, fun q hq => k _ _ (S1.drop.rgNew hq) n1⟩
    · exact h1.elim⟩
end
def pickX {α : Type} (xs : List α) (lo hi st : Option Int) : List α := (sliceRange (sliceBounds lo hi st xs.length).1 (sliceBounds lo hi st xs.length).2.1 (sliceBounds lo hi st xs.length).2.2).filterMap (xs[·]?)
def gPick (t : T) (lo hi st : Option Int) : Option T := if st = some 0 then none else match t.nrm with
  | .nd .fz .lst xs => some (.nd .ow .lst (pickX xs lo hi st))
  | .nd .ln .lst xs => some (.nd .ow .lst (pickX xs lo hi st))
  | _ => none
def eSlS (f : ES) (flo fhi fst : Sl → R Sl (Option Int)) : ES := fun δ => (f δ).bind fun t δ => (flo δ).bind fun lo δ => (fhi δ).bind fun hi δ => (fst δ).bind fun st δ => opt (gPick t lo hi st) δ
section
end
end TV
set_option Elab.async false
set_option linter.all false
set_option maxRecDepth 100000
set_option maxHeartbeats 4000000
namespace PySem
open Sem (wp)
section
variable {prog : Program} {w : World} {A : Around} {E : Value → Shared → Prop} {s : Shared}
def tvMn (x y : Int) : Int := if y < x then y else x
end
end PySem
namespace TV
open PySem PySem.Spec PyProof.Rows L2
section
variable {X : Cx} {W : WX} {B : Bs} {σ : L2.St} {δ : Sl} {ts : List (V × T)} {H : Hp} {a b c d e : Expr} {es : List Expr} {f fa fb fc : ES} {g : AS} {pos : Pos}
def three (g : T → T → T → Option T) : List T → Option T := fun xs => match xs with
  | [s, t, u] => g s t u
  | _ => none
def four (g : T → T → T → T → Option T) : List T → Option T := fun xs => match xs with
  | [s, t, u, v] => g s t u v
  | _ => none
def gMax3 (s t u : T) : Option T := match s, t, u with
  | .int i, .int j, .int k => some (.int (let m := if j > i then j else i; if k > m then k else m))
  | _, _, _ => none
def gMin4 (s t u v : T) : Option T := match s, t, u, v with
  | .int i, .int j, .int k, .int l => some (.int (tvMn (tvMn (tvMn i j) k) l))
  | _, _, _, _ => none
end
end TV
set_option Elab.async false
set_option linter.all false
set_option maxRecDepth 100000
set_option maxHeartbeats 4000000
namespace TV
open PySem PySem.Spec PyProof.Rows L2
def argsU : List Bool → List Ar → Option (List T)
  | [], [] => some []
  | false :: ms, .val t :: r => if t.rootFz = true then (argsU ms r).map fun ts => t.frz :: ts else none
  | _, _ => none
/-- the list is one of whole numbers -/
def eCallD (ms : List Bool) (m : Fn) (g0 gr : AS) : ES := fun δ => (g0 δ).bind fun a0 δ => match (valsOf a0).bind intsOf with
  | none => .bad
  | some is => if is.length ≤ sizeLine then (exM (gr δ)).bind fun a1 δ => (match argsU ms a1 with
    | none => .bad
    | some args => match m (.nd .ow .lst (is.map T.int) :: args) with
      | .ok t [_] => .ok t δ
      | _ => .bad) else .bad
section
end
section
end
end TV
set_option Elab.async false
set_option linter.all false
set_option maxRecDepth 100000
set_option maxHeartbeats 4000000
namespace TV
open PySem PySem.Spec L2
section
variable {X : Cx} {W : WX} {B : Bs} {σ : L2.St} {δ δ1 : Sl} {ts : List (V × T)} {H : Hp} {D : FWp} {e base : Expr} {es : List Expr} {i : Nat} {pos cpos apos : Pos}
def sMethP (i : Nat) (fp : Sl → Option (List Nat)) (args : List T) (step : List T → List T → Option (List T)) : SS := fun δ => match fp δ with
  | none => .bad
  | some path => match δ[i]? with
    | some (.vis p rt) => (match T.get path rt with
      | some (.nd .ow .lst xs) => (match step xs args with
        | some xs' => if T.noLnL args = true then .ok .next (δ.set i (.vis p (T.put path rt (.nd .ow .lst xs')))) else .bad
        | none => .bad)
      | _ => .bad)
    | _ => .bad
end
end TV
set_option Elab.async false
set_option linter.all false
set_option maxRecDepth 100000
set_option maxHeartbeats 4000000
namespace TV
open PySem PySem.Spec PyProof.Rows L2
theorem toDL_map : ∀ xs : List T, T.toDL xs = xs.map T.toD
  | [] => rfl
  | x :: xs => by rw [T.toDL, toDL_map xs]; rfl
section
variable {X : Cx} {W : WX} {B : Bs} {σ : L2.St} {δ δ1 : Sl} {ts : List (V × T)} {H : Hp} {a b c e base : Expr} {es : List Expr} {f fa fb fc : ES} {g : AS} {i : Nat} {k : Nat} {pos cpos apos : Pos}
def inD (x : T) (xs : List T) : Bool := xs.any fun z => z.eqv x
def gInD (neg : Bool) (x y : T) : Option T := (itemsOf y).bind fun xs => if x.okD 60 = true ∧ y.okD 60 = true then some (.bl (if neg = true then !inD x xs else inD x xs)) else none
def tyOf (n : String) (t : T) : Bool := match t with
  | .str _ => n == "str"
  | .nd _ .lst _ => n == "list"
  | .nd _ .lsg _ => n == "list"
  | _ => false
def bmS (g : T → List T → Option T) (t : T) (as : List Ar) (δ : Sl) : R Sl T := match valsOf as with
  | some ys => opt (g t ys) δ
  | none => .bad
def eBm (n : String) (g : T → List T → Option T) (fb : ES) (fa : AS) : ES := fun δ => (fb δ).bind fun t δ => if tyOf n t = true then (fa δ).bind fun as δ => bmS g t as δ else .bad
def idxD (x : T) : List T → Option Nat
  | [] => none
  | y :: ys => if y.eqv x = true then some 0 else (idxD x ys).map (· + 1)
def gIndex (t : T) (args : List T) : Option T := match args with
  | [x] => (seqOf t).bind fun xs => if x.okD 60 = true ∧ T.okDL 59 xs = true then (idxD x xs).map fun j => .int (j : Int) else none
  | _ => none
/-- one kind of data, in order -/
def leT : T → T → Bool := PySem.W.dataLe false T.toD
def isTupT (t : T) : Bool := match t with
  | .nd _ .tup (_ :: _) => true
  | .nd _ .tpg (_ :: _) => true
  | _ => false
def noTupT (t : T) : Bool := match t with
  | .nd _ .tup _ => false
  | .nd _ .tpg _ => false
  | .nd _ (.dK _) _ => false
  | .nd _ (.dT _) _ => false
  | .nd _ (.ex _) _ => false
  | .non => false
  | _ => true
def sortsT (xs : List T) : Bool := T.okDL 59 xs && ((xs.all fun x => xs.all fun y => PySem.W.alike x.toD y.toD) && (xs.all isTupT || xs.all noTupT))
def gSorted (t : T) : Option T := (seqOf t).bind fun xs => if sortsT xs = true then some (.nd .ow .lst (xs.mergeSort leT)) else none
end
end TV
set_option Elab.async false
set_option linter.all false
set_option maxRecDepth 100000
set_option maxHeartbeats 4000000
namespace TV
open PySem PySem.Spec PyProof.Rows L2
section
variable {X : Cx} {W : WX} {B : Bs} {σ : L2.St} {δ δ1 : Sl} {ts : List (V × T)} {H : Hp} {a b c e base : Expr} {es : List Expr} {f fa fb fc : ES} {g : AS} {i : Nat} {k : Nat} {pos cpos apos : Pos}
def reprT (d : PyData) : Option T := if d.showable = true ∧ d.shown.length ≤ sizeLine then some (.str d.shown) else none
def gRepr (t : T) : Option T := if t.okD 60 = true then reprT t.toD else none
def eCallE (m : Fn) (f : ES) (g0 : AS) : ES := fun δ => (f δ).bind fun t δ => if t.nrm.rootFz = true then (exM (g0 δ)).bind fun a0 δ => (match (valsOf a0).bind intsOf with
  | none => .bad
  | some is => if is.length ≤ sizeLine then (match m [t.nrm.frz, .nd .ow .lst (is.map T.int)] with
    | .ok u [_] => .ok u δ
    | _ => .bad) else .bad) else .bad
end
end TV
set_option Elab.async false
set_option linter.all false
set_option maxRecDepth 100000
set_option maxHeartbeats 4000000
namespace TV
open PySem PySem.Spec PyProof.Rows L2
section
variable {K : PySem.W.Frag} {F F' G G' H : Hp} {σ : L2.St} {δ : Sl} {ts : List (V × T)} {B : Bs} {i : Nat} {p : Bool} {t : T} {xs : List T}
theorem Rep.seen {v : V} {as : List Addr} (n : TV.notOw t = true) (nl : t.noLn = true) (h : Rep K F G t v as) : as = [] ∧ Rep K F G' t v [] := by
  obtain ⟨rfl, hl⟩ := h.notOw n
  refine ⟨rfl, .lon ?_⟩
  cases hl with
  | non => exact .non
  | bl b => exact .bl b
  | int i => exact .int i
  | str x => exact .str x
  | fz h2 st => exact Lon.fz h2 st
  | ln h st => cases nl
theorem RepL.item : ∀ {ts : List T} {vs : List V} {as : List Addr}, RepL K F G ts vs as → ∀ (j : Nat) (t : T), ts[j]? = some t → ∃ u b, vs[j]? = some u ∧ Rep K F G t u b
  | _, _, _, .nil, j, t, e => by simp at e
  | _, _, _, .cons h r, 0, t, e => by simp at e; subst e; exact ⟨_, _, rfl, h⟩
  | _, _, _, .cons h r, j + 1, t, e => by simpa using r.item j t (by simpa using e)
def keep1 (t : T) : Bool := notOw t && t.noLn
theorem Stt.heldL (S : Stt K B σ H δ ts) (e : δ[i]? = some (.hid p (.nd .ow .lst xs))) (hn : xs.all keep1 = true) :
    ∃ a vs, σ[i]? = some (some (.ref a)) ∧ H a = some (.lst vs) ∧ xs.length = vs.length ∧ ∀ (j : Nat) (t : T), xs[j]? = some t → ∃ u, vs[j]? = some u ∧ Stt K B σ H δ ((u, t) :: ts) := by
  obtain ⟨F, G, av, ah, at_, I⟩ := S
  obtain ⟨v, as, rest, e1, h1, hnt, c, rr, _⟩ := I.sl.hid_at e
  cases h1 with
  | lon h => cases h
  | @ow a _ _ vs as' h e2 f =>
    refine ⟨a, vs, e1, e2, h.length, fun j t ej => ?_⟩
    obtain ⟨u, b, eu, hu⟩ := h.item j t ej
    have k := List.all_eq_true.mp hn t (List.mem_of_getElem? ej)
    unfold keep1 at k
    rw [Bool.and_eq_true] at k
    obtain ⟨_, r⟩ := hu.seen (G' := G) k.1 k.2
    exact ⟨u, eu, I.re (.cons r I.tm) fun b => by simp⟩
theorem Stt.pin (S : Stt K B σ H δ ts) (e : δ[i]? = some (.hid false t)) : ∃ v, σ[i]? = some (some v) ∧ Stt K { B with rf := (i, v) :: B.rf } σ H (δ.set i (.hid true t)) ts ∧ ∀ q ∈ B.rf, q.1 ≠ i := by
  obtain ⟨F, G, av, ah, at_, ⟨fb, fg, gh, sl, tm, nd, fo, hg, fr, nw, nf, pn, gx, ba, im⟩⟩ := S
  obtain ⟨v, as, rest, e1, h1, hnt, c, rr, _⟩ := sl.hid_at e
  have hi := (List.getElem?_eq_some_iff.mp e).1
  obtain ⟨ah', q1, q2⟩ := rr.putH (i := i) (by rw [List.getElem?_set_self hi]) e1 true t as hnt h1
  rw [List.set_set] at q1
  have cc : ∀ a, ah'.count a = ah.count a := fun a => by rw [q2, c]
  have ne : ∀ q ∈ B.rf, q.1 ≠ i := fun q hq z => by
    obtain ⟨_, s, es, ps⟩ := pn q hq
    rw [z, e] at es; cases es; cases ps
  refine ⟨v, e1, ⟨F, G, av, ah', at_, fb, fg, gh, q1, tm, fun a => by rw [cc]; exact nd a, fun a ha => fo a (by rwa [cc] at ha), fun a ha => hg a (by rwa [cc] at ha), fr, fun a ha => nw a (by rwa [cc] at ha), nf, ?_, gx, ba, im⟩, ne⟩
  intro q hq
  rcases List.mem_cons.mp hq with rfl | hq
  · exact ⟨e1, _, List.getElem?_set_self hi, rfl⟩
  · obtain ⟨a, s, es, ps⟩ := pn q hq
    exact ⟨a, s, by rw [List.getElem?_set_ne (fun z => ne q hq z.symm)]; exact es, ps⟩
theorem Stt.dropPin {q : Nat × V} {as : List Addr} {ex : List Addr} {rf : List (Nat × V)} {F0 H0 : Hp} (S : Stt K ⟨F0, H0, as, q :: rf, ex⟩ σ H δ ts) : Stt K ⟨F0, H0, as, rf, ex⟩ σ H δ ts := by
  obtain ⟨F, G, av, ah, at_, ⟨fb, fg, gh, sl, tm, nd, fo, hg, fr, nw, nf, pn, gx, ba, im⟩⟩ := S
  exact ⟨F, G, av, ah, at_, fb, fg, gh, sl, tm, nd, fo, hg, fr, nw, nf, fun p hp => pn p (List.mem_cons_of_mem _ hp), gx, ba, im⟩
theorem Stt.pinned {q : Nat × V} {as : List Addr} {ex : List Addr} {rf : List (Nat × V)} {F0 H0 : Hp} (S : Stt K ⟨F0, H0, as, q :: rf, ex⟩ σ H δ ts) : σ[q.1]? = some (some q.2) := by
  obtain ⟨F, G, av, ah, at_, ⟨fb, fg, gh, sl, tm, nd, fo, hg, fr, nw, nf, pn, gx, ba, im⟩⟩ := S
  exact (pn q List.mem_cons_self).1
theorem Stt.unpin (S : Stt K B σ H δ ts) (e : δ[i]? = some (.hid true t)) (ne : ∀ q ∈ B.rf, q.1 ≠ i) : Stt K B σ H (δ.set i (.vis false t)) ts := by
  have S1 : Stt K B σ H (δ.set i (.hid false t)) ts := by
    obtain ⟨F, G, av, ah, at_, ⟨fb, fg, gh, sl, tm, nd, fo, hg, fr, nw, nf, pn, gx, ba, im⟩⟩ := S
    obtain ⟨v, as, rest, e1, h1, hnt, c, rr, _⟩ := sl.hid_at e
    have hi := (List.getElem?_eq_some_iff.mp e).1
    obtain ⟨ah', q1, q2⟩ := rr.putH (i := i) (by rw [List.getElem?_set_self hi]) e1 false t as hnt h1
    rw [List.set_set] at q1
    have cc : ∀ a, ah'.count a = ah.count a := fun a => by rw [q2, c]
    refine ⟨F, G, av, ah', at_, fb, fg, gh, q1, tm, fun a => by rw [cc]; exact nd a, fun a ha => fo a (by rwa [cc] at ha), fun a ha => hg a (by rwa [cc] at ha), fr, fun a ha => nw a (by rwa [cc] at ha), nf, fun q hq => ?_, gx, ba, im⟩
    obtain ⟨a, s, es, ps⟩ := pn q hq
    exact ⟨a, s, by rw [List.getElem?_set_ne (fun z => ne q hq z.symm)]; exact es, ps⟩
  have hi := (List.getElem?_eq_some_iff.mp e).1
  have := S1.unhide (i := i) (p := false) (t := t) (List.getElem?_set_self hi)
  rwa [List.set_set] at this
end
open Classical in
/-- the turns of a walk over the list of name i, which stays as it is -/
noncomputable def heldB (i : Nat) (t : T) (body : SS) : SS := fun δ => match body δ with
  | .ok fl δ' => if δ'[i]? = some (.hid true t) then .ok fl δ' else .bad
  | r => r
def keepable : T → Bool
  | .nd .ow .lst xs => xs.all keep1
  | _ => false
def kidsT : T → List T
  | .nd _ _ xs => xs
  | _ => []
open Classical in
noncomputable def endH (i : Nat) (t : T) (r : R Sl Flw) : R Sl Flw := match r with
  | .ok .next δ => if δ[i]? = some (.hid true t) then .ok .next (δ.set i (.vis false t)) else .bad
  | .ok (.ret u) δ => if δ[i]? = some (.hid true t) then .ok (.ret u) (δ.set i .un) else .bad
  | .ok _ _ => .bad
  | r => r
noncomputable def sForH (i : Nat) (gs : GS) (body : SS) : SS := fun δ => match δ[i]? with
  | some (.vis false t) => if keepable t = true then endH i t (forL gs (heldB i t body) (kidsT t) (δ.set i (.hid true t))) else .bad
  | _ => .bad
section
variable {X : Cx} {W : WX} {σ : L2.St} {δ : Sl} {ts : List (V × T)} {H : Hp} {B : Bs} {pos npos : Pos} {i : Nat} {x : Str}
theorem ds_forH {tg : Expr} {ws : List Nat} {body : List Stmt} {gs : GS} {g : SS} (hp : PassesOwn (model X.prog X.w) X.A X.env X.xe) (hc : X.calm = true) (hg : DG X tg ws gs) (hb : DSs X W body g)
    (hN : X.N[i]? = some x := by rfl) (hv : Vis X.env.scope x := by first | exact Or.inl rfl | exact Or.inr (Or.inl rfl) | exact Or.inr (Or.inr rfl)) (hd : (x == ("__debug__" : Str)) = false := by decide)
    (hcd : (x == ("__classdict__" : Str)) = false := by decide)
    (hs : ∀ y, foldedSetIterable (.Name x npos) X.env y = pure y := by intro _; rfl) : DS X W (.For tg (.Name x npos) body [] pos) (sForH i gs g) :=
  (ps_for hp hc (pi_list (pe_var hN hv hd hcd)) hg hb hs).imp fun D σ H ⟨B, δ, ts, S, nl, nt, h⟩ => by
    unfold sForH at h
    cases e : δ[i]? with
    | none => rw [e] at h; exact h.elim
    | some s =>
      rw [e] at h
      cases s with
      | un => exact h.elim
      | hid p t => exact h.elim
      | vis p t =>
        cases p with
        | true => exact h.elim
        | false =>
          dsimp only at h
          by_cases hk : keepable t = true
          · rw [if_pos hk] at h
            obtain ⟨xs, rfl, hx⟩ : ∃ xs, t = .nd .ow .lst xs ∧ xs.all keep1 = true := by
              unfold keepable at hk
              split at hk
              · exact ⟨_, rfl, hk⟩
              · cases hk
            have hi := (List.getElem?_eq_some_iff.mp e).1
            have S0 := S.hide e nl nt
            have hnt : (T.nd .ow .lst xs).noLn = true := nl _ (List.mem_of_getElem? e)
            have n0 : NoLn (δ.set i (.hid true (.nd .ow .lst xs))) := nl.set hnt
            obtain ⟨v, ev, S1, ne⟩ := S0.pin (List.getElem?_set_self hi)
            rw [List.set_set] at S1
            obtain ⟨F0, H0, as0, rf0, ex0⟩ := B
            dsimp only at S1 ne
            obtain ⟨a, vs, ea, ha, _, _⟩ := S1.heldL (List.getElem?_set_self hi) hx
            rw [ev] at ea
            cases ea
            refine ⟨_, ev, a, rfl, ⟨vs, SqL.of ha⟩, ?_⟩
            refine ⟨fun k m σ H => ∃ δ, Stt X.K ⟨F0, H0, as0, (i, .ref a) :: rf0, ex0⟩ σ H δ ts ∧ NoLn δ ∧ δ[i]? = some (.hid true (.nd .ow .lst xs)) ∧ m = xs.length - k ∧ k ≤ xs.length ∧ AftS X W ⟨F0, H0, as0, rf0, ex0⟩ ts (endH i (.nd .ow .lst xs) (forL gs (heldB i (.nd .ow .lst xs) g) (xs.drop k) δ)) D, ⟨xs.length, _, S1, n0, List.getElem?_set_self hi, rfl, Nat.zero_le _, h⟩, ?_⟩
            rintro k m σ H ⟨δ, S, nl, e, rfl, hle, h⟩
            obtain ⟨a', vs, ea, ha, len, kk⟩ := S.heldL e hx
            rw [S.pinned] at ea
            cases ea
            by_cases hlt : k < xs.length
            · rw [List.drop_eq_getElem_cons hlt] at h
              obtain ⟨u, eu, S2⟩ := kk k xs[k] (List.getElem?_eq_getElem hlt)
              refine .inr ⟨⟨vs, u, SqL.of ha, eu⟩, fun σ' H' => ∃ δ, Stt X.K ⟨F0, H0, as0, (i, .ref a) :: rf0, ex0⟩ σ' H' δ ts ∧ NoLn δ ∧ δ[i]? = some (.hid true (.nd .ow .lst xs)) ∧ AftS X W ⟨F0, H0, as0, rf0, ex0⟩ ts (endH i (.nd .ow .lst xs) (forL gs (heldB i (.nd .ow .lst xs) g) (xs.drop (k + 1)) δ)) D, fun σ' H' ⟨δ, S', n', e', h'⟩ => ⟨_, by omega, δ, S', n', e', rfl, hlt, h'⟩, fun y H' hy => ?_⟩
              obtain ⟨rfl, hy⟩ := hy
              have := hy vs (SqL.of ha)
              rw [eu] at this
              cases this
              unfold forL at h
              have hn : (xs[k]).noLn = true := by
                have q := List.all_eq_true.mp hx xs[k] (List.getElem_mem _)
                unfold keep1 at q
                rw [Bool.and_eq_true] at q
                exact q.2
              rw [if_pos hn] at h
              refine ⟨_, δ, ts, xs[k], S2, ?_⟩
              cases e1 : gs xs[k] δ with
              | bad => rw [e1] at h; exact h.elim
              | exc z s => rw [e1] at h; exact h.elim
              | ok w δ2 =>
                rw [e1] at h
                dsimp only at h
                refine fun σ' H2 S3 _ n3 => ⟨_, δ2, ts, S3, n3 nl hn, nt, ?_⟩
                unfold heldB at h
                cases e2 : g δ2 with
                | bad => rw [e2] at h; exact h.elim
                | exc z s => rw [e2] at h; exact fun σ' H' S' n' => h σ' H' S'.dropPin n'
                | ok fl δ3 =>
                  rw [e2] at h
                  dsimp only at h
                  by_cases e3 : δ3[i]? = some (.hid true (.nd .ow .lst xs))
                  · rw [if_pos e3] at h
                    cases fl with
                    | next => exact fun σ' H' S' n' => ⟨δ3, S', n', e3, h⟩
                    | cont => exact fun σ' H' S' n' => ⟨δ3, S', n', e3, h⟩
                    | brk =>
                      intro σ' H' S' n'
                      have h' : AftS X W ⟨F0, H0, as0, rf0, ex0⟩ ts (endH i (.nd .ow .lst xs) (.ok .next δ3)) D := h
                      unfold endH at h'
                      dsimp only at h'
                      rw [if_pos e3] at h'
                      exact h' σ' H' (S'.dropPin.unpin e3 ne) (n'.set hnt)
                    | ret r =>
                      intro v σ' H' S' ht n'
                      have h' : AftS X W ⟨F0, H0, as0, rf0, ex0⟩ ts (endH i (.nd .ow .lst xs) (.ok (.ret r) δ3)) D := h
                      unfold endH at h'
                      dsimp only at h'
                      rw [if_pos e3] at h'
                      have hi3 := (List.getElem?_eq_some_iff.mp e3).1
                      have S4 := S'.dropPin.unpin e3 ne
                      obtain ⟨v4, ev4, _⟩ := S4.var (List.getElem?_set_self hi3)
                      have S5 := S4.forget (i := i) (List.getElem?_set_self hi3) rfl (some v4)
                      rw [List.set_set] at S5
                      have es : σ'.set i (some v4) = σ' := by
                        apply List.ext_getElem?
                        intro j
                        by_cases hj : i = j
                        · subst hj; rw [List.getElem?_set_self (List.getElem?_eq_some_iff.mp ev4).1, ev4]
                        · rw [List.getElem?_set_ne hj]
                      rw [es] at S5
                      exact h' v σ' H' S5 ht (n'.set rfl)
                  · rw [if_neg e3] at h; exact h.elim
            · refine .inl ⟨⟨vs, SqL.of ha, by omega⟩, ?_⟩
              rw [List.drop_eq_nil_of_le (by omega)] at h
              have h' : AftS X W ⟨F0, H0, as0, rf0, ex0⟩ ts (endH i (.nd .ow .lst xs) (.ok .next δ)) D := h
              unfold endH at h'
              dsimp only at h'
              rw [if_pos e] at h'
              exact h' σ H (S.dropPin.unpin e ne) (nl.set hnt)
          · rw [if_neg hk] at h; exact h.elim
end
def ownK {β : Type} (t : T) (k : List T → R Sl β) : R Sl β := match t with
  | .nd .ow .lst xs => k xs
  | _ => .bad
def sForO (i : Nat) (gs : GS) (body : SS) : SS := fun δ => (eMv i δ).bind fun t δ => ownK t fun xs => forL gs body xs δ
section
variable {X : Cx} {W : WX} {σ : L2.St} {δ : Sl} {ts : List (V × T)} {H : Hp} {B : Bs} {pos npos : Pos} {i : Nat} {x : Str}
theorem RepL.toRTs {K : PySem.W.Frag} {F G : Hp} : ∀ {xs : List T} {vs : List V} {as : List Addr} {ts : List (V × T)} {bs : List Addr}, RepL K F G xs vs as → RTs K F G ts bs → ∃ cs, RTs K F G (vs.zip xs ++ ts) cs ∧ ∀ a, cs.count a = as.count a + bs.count a
  | _, _, _, ts, bs, .nil, r => ⟨bs, r, fun a => by simp⟩
  | _, _, _, ts, bs, .cons h q, r => by
    obtain ⟨cs, q1, q2⟩ := q.toRTs r
    exact ⟨_, .cons h q1, fun a => by rw [List.count_append, List.count_append, q2]; omega⟩
theorem Stt.openL {K : PySem.W.Frag} {xs : List T} {v : V} (S : Stt K B σ H δ ((v, .nd .ow .lst xs) :: ts)) : ∃ (a : Addr) (vs : List V) (B' : Bs), v = .ref a ∧ Stt K B' σ H δ (vs.zip xs ++ ts) ∧ B'.F a = some (.lst vs) ∧ xs.length = vs.length ∧
    (∀ σ' H' δ' ts', Stt K B' σ' H' δ' ts' → Stt K B σ' H' δ' ts') := by
  obtain ⟨F, G, av, ah, at_, ⟨fb, fg, gh, sl, tm, nd, fo, hg, fr, nw, nf, pn, gx, ba, im⟩⟩ := S
  cases tm with
  | cons h1 r =>
    rename_i as1 bs1
    cases h1 with
    | lon h => cases h
    | @ow a _ _ vs as' h e2 f =>
      have Fa : F a = none := fo a (by simp; omega)
      have e2' : G a = some (.lst vs) := e2
      have sF : Same F (fun b => if b = a then some (.lst vs) else F b) := fun b o eb => by
        show (if b = a then _ else F b) = some o
        rw [if_neg (fun z => by rw [z, Fa] at eb; cases eb)]; exact eb
      obtain ⟨cs, q1, q2⟩ := h.toRTs r
      have cc : ∀ b, cs.count b ≤ (a :: as' ++ bs1).count b := fun b => by rw [q2, List.count_append, List.count_cons]; omega
      have ca : cs.count a = 0 ∧ av.count a = 0 ∧ ah.count a = 0 := by
        have := nd a
        rw [List.count_append, List.count_cons_self] at this
        rw [q2]; omega
      refine ⟨a, vs, { B with F := fun b => if b = a then some (.lst vs) else B.F b }, rfl, ⟨fun b => if b = a then some (.lst vs) else F b, G, av, ah, cs, fun b o eb => ?_, fun b o eb => ?_, gh, sl.mono sF (fun _ _ e => e) (fun _ _ e => e), q1.mono sF (fun _ _ e => e), fun b => by have := nd b; have := cc b; omega, fun b hb => ?_, hg, fr, fun b hb => nw b (by have := cc b; omega), fun b o eb => ?_, pn, gx, ba, fun b us e z => sF _ _ (im b us e z)⟩, if_pos rfl, h.length, ?_⟩
      · dsimp only at eb ⊢
        by_cases z : b = a
        · rw [if_pos z] at eb ⊢; exact eb
        · rw [if_neg z] at eb ⊢; exact fb b o eb
      · by_cases z : b = a
        · rw [if_pos z] at eb; rw [z, e2', ← eb]
        · rw [if_neg z] at eb; exact fg b o eb
      · rw [if_neg (fun z => by subst z; omega)]
        exact fo b (by have := cc b; omega)
      · dsimp only at eb ⊢
        by_cases z : b = a
        · rw [if_pos z] at eb ⊢; exact .inl eb
        · rw [if_neg z] at eb ⊢; exact nf b o eb
      · rintro σ' H' δ' ts' ⟨F2, G2, av2, ah2, at2, ⟨fb2, fg2, gh2, sl2, tm2, nd2, fo2, hg2, fr2, nw2, nf2, pn2, gx2, ba2, im2⟩⟩
        refine ⟨F2, G2, av2, ah2, at2, fun b o eb => fb2 b o ?_, fg2, gh2, sl2, tm2, nd2, fo2, hg2, fr2, nw2, fun b o eb => ?_, pn2, gx2, ba2, im2⟩
        · dsimp only
          rw [if_neg (fun z => by subst z; have := fb _ _ eb; rw [Fa] at this; cases this)]; exact eb
        · rcases nf2 b o eb with z | z
          · dsimp only at z
            by_cases y : b = a
            · subst y
              exact .inr (nw b (by simp; omega))
            · rw [if_neg y] at z; exact .inl z
          · exact .inr z
theorem Stt.baseF {K : PySem.W.Frag} {a : Addr} {o : HO} (S : Stt K B σ H δ ts) (e : B.F a = some o) : H a = some o := by
  obtain ⟨F, G, av, ah, at_, I⟩ := S
  exact I.gh _ _ (I.fg _ _ (I.fb _ _ e))
theorem NoLnT.zip {xs : List T} (h : T.noLnL xs = true) : ∀ {vs : List V}, NoLnT (vs.zip xs) := fun {vs} p hp => by
  obtain ⟨v, t⟩ := p
  exact (noLnL_iff.mp h) t (List.of_mem_zip hp).2
theorem ds_forO {tg : Expr} {ws : List Nat} {body : List Stmt} {gs : GS} {g : SS} (hp : PassesOwn (model X.prog X.w) X.A X.env X.xe) (hc : X.calm = true) (hg : DG X tg ws gs) (hb : DSs X W body g)
    (hN : X.N[i]? = some x := by rfl) (hv : Vis X.env.scope x := by first | exact Or.inl rfl | exact Or.inr (Or.inl rfl) | exact Or.inr (Or.inr rfl)) (hd : (x == ("__debug__" : Str)) = false := by decide)
    (hcd : (x == ("__classdict__" : Str)) = false := by decide)
    (hs : ∀ y, foldedSetIterable (.Name x npos) X.env y = pure y := by intro _; rfl) : DS X W (.For tg (.Name x npos) body [] pos) (sForO i gs g) :=
  (ps_for hp hc (pi_list (pe_var hN hv hd hcd)) hg hb hs).imp fun D σ H ⟨B, δ, ts, S, nl, nt, h⟩ => by
    unfold sForO eMv at h
    cases e : δ[i]? with
    | none => rw [e] at h; exact h.elim
    | some s =>
      rw [e] at h
      cases s with
      | un => exact h.elim
      | hid p t => exact h.elim
      | vis p t =>
        cases p with
        | true => exact h.elim
        | false =>
          have h : AftS X W B ts (ownK t fun xs => forL gs g xs (δ.set i .un)) D := h
          have hnt : t.noLn = true := nl _ (List.mem_of_getElem? e)
          obtain ⟨xs, rfl⟩ : ∃ xs, t = .nd .ow .lst xs := by
            unfold ownK at h
            split at h
            · exact ⟨_, rfl⟩
            · exact h.elim
          have h : AftS X W B ts (forL gs g xs (δ.set i .un)) D := h
          obtain ⟨v, ev, S0⟩ := S.move e
          have n0 : NoLn (δ.set i .un) := nl.set rfl
          obtain ⟨a, vs, B', rfl, S1, ea, len, back⟩ := S0.openL
          have nx : T.noLnL xs = true := T.nd_ow_noLn hnt
          have nz : ∀ k, NoLnT ((vs.zip xs).drop k) := fun k p hp => NoLnT.zip nx p (List.mem_of_mem_drop hp)
          refine ⟨_, ev, a, rfl, ⟨vs, SqL.of (S1.baseF ea)⟩, ?_⟩
          refine ⟨fun k m σ H => ∃ δ, Stt X.K B' σ H δ ((vs.zip xs).drop k ++ ts) ∧ NoLn δ ∧ m = xs.length - k ∧ k ≤ xs.length ∧ AftS X W B ts (forL gs g (xs.drop k) δ) D, ⟨xs.length, _, S1, n0, rfl, Nat.zero_le _, h⟩, ?_⟩
          rintro k m σ H ⟨δ, S, nl, rfl, hle, h⟩
          have ha : H a = some (.lst vs) := S.baseF ea
          by_cases hlt : k < xs.length
          · rw [List.drop_eq_getElem_cons hlt] at h
            have hz : k < (vs.zip xs).length := by rw [List.length_zip]; omega
            rw [List.drop_eq_getElem_cons hz, List.getElem_zip] at S
            have eu : vs[k]? = some (vs[k]'(by omega)) := List.getElem?_eq_getElem (by omega)
            refine .inr ⟨⟨vs, _, SqL.of ha, eu⟩, fun σ' H' => ∃ δ, Stt X.K B' σ' H' δ ((vs.zip xs).drop (k + 1) ++ ts) ∧ NoLn δ ∧ AftS X W B ts (forL gs g (xs.drop (k + 1)) δ) D, fun σ' H' ⟨δ, S', n', h'⟩ => ⟨_, by omega, δ, S', n', rfl, hlt, h'⟩, fun y H' hy => ?_⟩
            obtain ⟨rfl, hy⟩ := hy
            have := hy vs (SqL.of ha)
            rw [eu] at this
            cases this
            unfold forL at h
            have hn : (xs[k]).noLn = true := (noLnL_iff.mp nx) _ (List.getElem_mem _)
            rw [if_pos hn] at h
            refine ⟨B', δ, (vs.zip xs).drop (k + 1) ++ ts, xs[k], S, ?_⟩
            cases e1 : gs xs[k] δ with
            | bad => rw [e1] at h; exact h.elim
            | exc z s => rw [e1] at h; exact h.elim
            | ok w δ2 =>
              rw [e1] at h
              dsimp only at h
              refine fun σ' H2 S3 _ n3 => ⟨B', δ2, (vs.zip xs).drop (k + 1) ++ ts, S3, n3 nl hn, (nz _).app nt, ?_⟩
              cases e2 : g δ2 with
              | bad => rw [e2] at h; exact h.elim
              | exc z s => rw [e2] at h; exact fun σ' H' S' n' => h σ' H' (back _ _ _ _ S'.drops) n'
              | ok fl δ3 =>
                rw [e2] at h
                cases fl with
                | next => exact fun σ' H' S' n' => ⟨δ3, S', n', h⟩
                | cont => exact fun σ' H' S' n' => ⟨δ3, S', n', h⟩
                | brk => exact fun σ' H' S' n' => h σ' H' (back _ _ _ _ S'.drops) n'
                | ret t => exact fun v σ' H' S' ht n' => h v σ' H' (back _ _ _ _ (Stt.drops (ts1 := (vs.zip xs).drop (k + 1)) (S'.conv fun F G as _ _ _ r => by
                    cases r with
                    | cons hv r =>
                      obtain ⟨a1, a2, r1, r2, c⟩ := r.split
                      obtain ⟨b, r3, c3⟩ := r1.join (.cons hv r2)
                      exact ⟨b, r3, fun x => by rw [c3]; simp only [List.count_append]; have := c x; omega⟩))) ht n'
          · refine .inl ⟨⟨vs, SqL.of ha, by omega⟩, ?_⟩
            rw [List.drop_eq_nil_of_le (by omega)] at h
            exact h σ H (back _ _ _ _ S.drops) nl
end
end TV
set_option Elab.async false
set_option linter.all false
set_option maxRecDepth 100000
set_option maxHeartbeats 4000000
namespace TV
open PySem PySem.Spec PyProof.Rows L2
def keyT : T → Option Key
  | .int i => some (.inl i)
  | .str x => some (.inr x)
  | _ => none
def keysL : List T → Option (List Key)
  | [] => some []
  | t :: ts => (keyT t).bind fun k => (keysL ts).map fun ks => k :: ks
def keyTT : T → Option (List Key)
  | .nd _ .tup xs => keysL xs
  | _ => none
section
variable {K : PySem.W.Frag} {F G H : Hp} {σ : L2.St} {δ : Sl} {ts : List (V × T)} {B : Bs}
theorem keyT_val {t : T} {k : Key} {v : V} {as : List Addr} (e : keyT t = some k) (r : Rep K F G t v as) : v = kV k := by
  cases t with
  | int i => cases e; cases r with | lon h => cases h; rfl
  | str x => cases e; cases r with | lon h => cases h; rfl
  | non => cases e
  | bl b => cases e
  | nd f k xs => cases e
theorem keysL_vals : ∀ {xs : List T} {ks : List Key} {vs : List V} {as : List Addr}, keysL xs = some ks → RepL K F G xs vs as → vs = ks.map kV
  | [], _, _, _, e, .nil => by cases e; rfl
  | t :: xs, _, _, _, e, .cons h r => by
    have e : (keyT t).bind (fun k => (keysL xs).map fun ks => k :: ks) = _ := e
    cases e1 : keyT t with
    | none => rw [e1] at e; cases e
    | some k =>
      cases e2 : keysL xs with
      | none => rw [e1, e2] at e; cases e
      | some ks =>
        rw [e1, e2] at e
        cases e
        rw [List.map_cons, keyT_val e1 h, keysL_vals e2 r]
theorem Stt.key {v : V} {t : T} {ks : List Key} (S : Stt K B σ H δ ((v, t) :: ts)) (e : keyTT t = some ks) : ∃ b, v = .ref b ∧ H b = some (.tup (ks.map kV)) := by
  unfold keyTT at e
  split at e
  · exact S.see fun F G as fg gh _ r => by
      cases r with
      | cons h1 r =>
        obtain ⟨a, vs, as', ev, st, rl, _⟩ := h1.node fg
        refine ⟨a, ev, ?_⟩
        rw [← keysL_vals e rl]
        exact st.mono gh
  · cases e
/-- what stands at a key -/
def lookT (ks : List (List Key)) (xs : List T) (k : List Key) : Option T := ((ks.zip xs).find? fun p => decide (p.1 = k)).map (·.2)
end
section
variable {X : Cx} {W : WX} {B : Bs} {σ : L2.St} {δ : Sl} {ts : List (V × T)} {H : Hp} {pos : Pos}
def gDIn (neg : Bool) (x y : T) : Option T := match y with
  | .nd _ (.dT ks) xs => (keyTT x).map fun k => .bl (if neg = true then (lookT ks xs k).isNone else (lookT ks xs k).isSome)
  | _ => none
def gDGet (x y : T) : Option T := match x with
  | .nd _ (.dT ks) xs => (keyTT y).bind fun k => lookT ks xs k
  | _ => none
def ownD (δ : Sl) (i : Nat) : Option (Bool × List (List Key) × List T) := match δ[i]? with
  | some (.vis p (.nd .ow (.dT ks) xs)) => some (p, ks, xs)
  | _ => none
def idxK : List (List Key) → List Key → Option Nat
  | [], _ => none
  | q :: qs, k => if q = k then some 0 else (idxK qs k).map (· + 1)
def putDT (ks : List (List Key)) (xs : List T) (k : List Key) (t : T) : T := match idxK ks k with
  | some j => .nd .ow (.dT ks) (xs.set j t)
  | none => .nd .ow (.dT (ks ++ [k])) (xs ++ [t])
def putD (i : Nat) (t kt : T) (δ : Sl) : R Sl Flw := match ownD δ i with
  | some (p, ks, xs) => match keyTT kt with
    | some k => if ks.Nodup ∧ ks.length < sizeLine then .ok .next (δ.set i (.vis p (putDT ks xs k t))) else .bad
    | none => .bad
  | none => .bad
/-- d[e] = e' -/
def sPutD (fz : Bool) (i : Nat) (f fi : ES) : SS := fun δ => (f δ).bind fun t δ => if t.noLn = true then (match ownD δ i with
  | none => .bad
  | some _ => (fi δ).bind fun kt δ => putD i (fzIf fz t) kt δ) else .bad
def eDGet2 (fd fk fx : ES) : ES := fun δ => (fd δ).bind fun x δ => match x with
  | .nd _ (.dT ks) xs => (fk δ).bind fun k δ => (fx δ).bind fun d δ => match keyTT k with
    | some kk => .ok ((lookT ks xs kk).getD d) δ
    | none => .bad
  | _ => .bad
end
end TV
set_option Elab.async false
set_option linter.all false
set_option maxRecDepth 100000
set_option maxHeartbeats 4000000
namespace TV
open PySem PySem.Spec PyProof.Rows L2
def ofKey : Key → T
  | .inl i => .int i
  | .inr x => .str x
def keyN (k : List Key) : T := .nd .fz .tup (k.map ofKey)
section
end
section
end
/-- sorted(d) -/
def gSortedD (t : T) : Option T := match t with
  | .nd _ (.dT ks) _ => if sortsT (ks.map keyN) = true then some (.nd .ow .lst ((ks.map keyN).mergeSort leT)) else none
  | _ => none
section
variable {X : Cx} {W : WX} {B : Bs} {σ : L2.St} {δ : Sl} {ts : List (V × T)} {H : Hp} {e : Expr} {es : List Expr} {f : ES} {pos : Pos} {k : Nat}
/-- a, b, .. = a list's items -/
def gUl (n : Nat) (gs : GSs) : GS := fun t δ => match t with
  | .nd _ .lst xs => if xs.length = n then gs xs δ else .bad
  | _ => .bad
end
end TV
set_option Elab.async false
set_option linter.all false
set_option maxRecDepth 100000
set_option maxHeartbeats 4000000
namespace TV
open PySem PySem.Spec PyProof.Rows L2
/-- a value, told as one that might be None -/
def mkO (t : T) : T := t
def eOpt (f : ES) : ES := fun δ => (f δ).bind fun t δ => .ok (mkO t) δ
/-- a value that is not None -/
def eUno (f : ES) : ES := fun δ => (f δ).bind fun t δ => if t.isNon = true then .bad else .ok t δ
section
end
end TV
namespace TV
open PySem PySem.Spec PyProof.Rows L2
/-- a value, seen alone -/
def eLn (f : ES) : ES := fun δ => (f δ).bind fun t δ => .ok t.loan δ
section
end
end TV
set_option Elab.async false
set_option linter.all false
set_option maxRecDepth 100000
set_option maxHeartbeats 4000000
namespace TV
open PySem PySem.Spec PyProof.Rows L2
section
end
theorem _root_.L2.PE.or {X : Cx} {e : Expr} {t1 t2 : TE} (h1 : PE X e t1) (h2 : PE X e t2) : PE X e fun σ H Q => t1 σ H Q ∨ t2 σ H Q :=
  ⟨fun pins s σ H Q I h => h.elim (h1.run pins s σ H Q I) (h2.run pins s σ H Q I)⟩
/-- [.. for k in d], d a name for a frozen dict -/
def eLcK (i : Nat) (gs : GS) (ft : Sl → R Sl Bool) (fe : ES) (vs : List Nat) : ES := fun δ => match δ[i]? with
  | some (.vis _ (.nd .fz (.dT ks) _)) => eLc (fun δ => .ok (true, ks.map keyN) δ) gs ft fe vs δ
  | _ => .bad
section
end
end TV
set_option Elab.async false
set_option linter.all false
set_option maxRecDepth 100000
set_option maxHeartbeats 4000000
namespace TV
open PySem PySem.Spec PyProof.Rows L2
def rdT (i : Int) (n : Nat) : List T := (List.range n).map fun (k : Nat) => T.int (i - (k : Int))
def rg3 (args : List T) : Option (List T) := match args with
  | [.int i, .int j, .int c] => if c = -1 ∧ rgOk i j = true then some (rdT i (i - j).toNat) else none
  | _ => none
theorem rdT_len {i : Int} {n : Nat} : (rdT i n).length = n := by unfold rdT; simp
section
end
end TV
namespace TV
open PySem PySem.Spec L2
def eBadE : ES := fun _ => .bad
theorem eBadE_eq {δ} : eBadE δ = .bad := rfl
section
end
end TV
set_option Elab.async false
set_option linter.all false
set_option maxRecDepth 100000
set_option maxHeartbeats 4000000
namespace TV
open PySem PySem.Spec PyProof.Rows L2
def gCount (t : T) (args : List T) : Option T := match t, args with
  | .str a, [.str b] => some (.int (PySem.Txt.count a b))
  | _, _ => none
section
end
section
end
end TV
set_option Elab.async false
set_option linter.all false
set_option maxRecDepth 100000
set_option maxHeartbeats 4000000
namespace TV
open PySem PySem.Spec PyProof.Rows L2
def T.isP2 : T → Bool
  | .nd .fz .tup [.int _, .int _] => true
  | _ => false
def gMulP (x y : T) : Option T := match gMul x y with
  | some (.nd f k xs) => if xs.all T.isP2 = true then some (.nd f k xs) else none
  | _ => none
section
end
section
end
end TV
set_option Elab.async false
set_option linter.all false
set_option maxRecDepth 100000
set_option maxHeartbeats 4000000
namespace TV
open PySem PySem.Spec PyProof.Rows L2
section
end
section
end
end TV
set_option Elab.async false
set_option linter.all false
set_option maxRecDepth 100000
set_option maxHeartbeats 4000000
namespace TV
open PySem PySem.Spec PyProof.Rows L2
section
variable {K : PySem.W.Frag} {B : Bs} {σ : L2.St} {H : Hp} {δ : Sl} {ts ts' : List (V × T)}
/-- what a caught exception is, as a tree -/
def xT (x : Xc) : T := .nd .fz (.ex x.n) (match x.f with
  | none => []
  | some (p, q) => [keyN p, keyN q])
end
section
end
end TV
set_option Elab.async false
set_option linter.all false
set_option maxRecDepth 100000
set_option maxHeartbeats 4000000
namespace TV
open PySem PySem.Spec PyProof.Rows L2
def excSub (x c : Str) : Bool := x == c || (c == "FloorError" || c == "ValueError")
def isE (xs : List Str) (c : Str) (t : T) : Option Bool := match t with
  | .nd _ (.ex x) ys => if xs.contains x = true ∧ ys.length ≠ 1 then some (excSub x c) else none
  | .non => some false
  | _ => none
def eIsE (xs : List Str) (c : Str) (f : ES) : ES := fun δ => (f δ).bind fun t δ => opt ((isE xs c t).map T.bl) δ
section
variable {X : Cx} {W : WX} {B : Bs} {σ : L2.St} {H : Hp} {δ : Sl} {ts : List (V × T)} {e : Expr} {f : ES} {pos : Pos}
def sRaise (vs : List Nat) (x : Str) : SS := fun δ => .exc (x : Xc) (fgS vs δ)
end
end TV
set_option Elab.async false
set_option linter.all false
set_option maxRecDepth 100000
set_option maxHeartbeats 4000000
namespace TV
open PySem PySem.Spec PyProof.Rows L2
section
end
end TV
set_option Elab.async false
set_option linter.all false
set_option maxRecDepth 100000
set_option maxHeartbeats 4000000
namespace TV
open PySem PySem.Spec PyProof.Rows L2
def mkX (t : T) : T := t
def eCX (f : ES) : ES := fun δ => (f δ).bind fun t δ => .ok (mkX t) δ
def mkXL (t : T) : T := t
def eCXL (f : ES) : ES := fun δ => (f δ).bind fun t δ => .ok (mkXL t) δ
def narT (p : T → Bool) (t : T) (δ : Sl) : R Sl T := if p t = true then .ok t δ else .bad
def eNar (p : T → Bool) (f : ES) : ES := fun δ => (f δ).bind fun t δ => narT p t δ
section
end
end TV
namespace TV
open PySem PySem.Spec PyProof.Rows L2
section
variable {X : Cx} {W : WX} {e a b : Expr} {f f' fa fb : ES} {pos : Pos}
def notStrT : T → Bool
  | .str _ => false
  | _ => true
/-- an item of what is no text -/
def gIxD (x y : T) : Option T := if notStrT x = true then gIx x y else none
end
end TV
set_option Elab.async false
set_option linter.all false
set_option maxRecDepth 100000
set_option maxHeartbeats 4000000
namespace TV
open PySem PySem.Spec PyProof.Rows L2
def isBlT (t : T) (b : Bool) : Bool := match t with
  | .bl a => decide (a = b)
  | _ => false
def gIsBX (x y : T) : Option T := match y with
  | .bl b => some (.bl (isBlT x b))
  | _ => none
def gNotBX (x y : T) : Option T := match y with
  | .bl b => some (.bl (!isBlT x b))
  | _ => none
section
end
end TV
set_option Elab.async false
set_option linter.all false
set_option maxRecDepth 100000
set_option maxHeartbeats 4000000
namespace TV
open PySem PySem.Spec PyProof.Rows L2
def narS (i : Nat) (p : T → Bool) (δ : Sl) : R Sl Flw := match δ[i]? with
  | some (.vis b t) => (narT p t δ).bind fun u δ => .ok .next (δ.set i (.vis b u))
  | _ => .ok .next δ
def pnK (i : Nat) (p : T → Bool) (r : R Sl Flw) : R Sl Flw := r.bind fun fl δ => match fl with
  | .next => narS i p δ
  | .ret t => .ok (.ret t) δ
  | .brk => .ok .brk δ
  | .cont => .ok .cont δ
def sPNar (i : Nat) (p : T → Bool) (g : SS) : SS := fun δ => pnK i p (g δ)
section
end
end TV
set_option Elab.async false
set_option linter.all false
set_option maxRecDepth 100000
set_option maxHeartbeats 4000000
namespace TV
open PySem PySem.Spec PyProof.Rows L2
section
variable {X : Cx} {W : WX} {e : Expr} {pos : Pos}
def gStrI (t : T) : Option T := match t with
  | .int i => if i.natAbs.log2 < 1920 then some (.str (toString i)) else none
  | _ => none
end
end TV
set_option Elab.async false
set_option linter.all false
set_option maxRecDepth 100000
set_option maxHeartbeats 4000000
namespace TV
open PySem PySem.Spec PyProof.Rows L2
section
end
def okI (r : R Sl T) (k : Int → Sl → R Sl T) : R Sl T := match r with
  | .ok (.int i) δ => k i δ
  | _ => .bad
def selE (ms : List Bool) (g : AS) : List Fn → Int → Sl → R Sl T
  | [], _, _ => .bad
  | m :: r, i, δ => if decide (i = 0) = true then eCallM ms m g δ else selE ms g r (i - 1) δ
def eSel (ms : List Bool) (fs : List Fn) (fi : ES) (g : AS) : ES := fun δ => okI (fi δ) fun i δ => selE ms g fs i δ
def FnAt (X : Cx) (j : Nat) (ms : List Bool) (f : Addr) (m : Fn) : Prop := ∃ (fd : FuncData) (ps : List Str), PySem.W.keepIn X.K (.ref f) = true ∧ Binds X.K fd ps [] ∧ FnG X.prog X.w X.K X.mg X.base j f fd ps (spOf X.K X.mg ms m)
inductive FnsAt (X : Cx) (j : Nat) (ms : List Bool) : List Addr → List Fn → Prop
  | nil : FnsAt X j ms [] []
  | cons {f : Addr} {m : Fn} {as : List Addr} {fs : List Fn} : FnAt X j ms f m → FnsAt X j ms as fs → FnsAt X j ms (f :: as) (m :: fs)
theorem FnsAt.len {X : Cx} {j : Nat} {ms : List Bool} {as : List Addr} {fs : List Fn} (h : FnsAt X j ms as fs) : as.length = fs.length := by
  induction h with
  | nil => rfl
  | cons _ _ ih => simp [ih]
section
end
end TV
set_option Elab.async false
set_option linter.all false
set_option maxRecDepth 100000
set_option maxHeartbeats 4000000
namespace TV
open PySem PySem.Spec PyProof.Rows L2
end TV
set_option Elab.async false
set_option linter.all false
set_option maxRecDepth 100000
set_option maxHeartbeats 4000000
namespace TV
open PySem PySem.Spec PyProof.Rows L2
def tripT (x y z : T) : T := mkN .tup [x, y, z]
def zip3L : List T → List T → List T → List T
  | x :: xs, y :: ys, z :: zs => tripT x y z :: zip3L xs ys zs
  | _, _, _ => []
def zipT3 (args : List T) : Option (List T) := match args with
  | [s, t, u] => (seqOf s).bind fun xs => (seqOf t).bind fun ys => (seqOf u).map fun zs => zip3L xs ys zs
  | _ => none
section
end
end TV
set_option Elab.async false
set_option linter.all false
set_option maxRecDepth 100000
set_option maxHeartbeats 4000000
namespace TV
open PySem PySem.Spec PyProof.Rows L2
def stExt (xs args : List T) : Option (List T) := match args with
  | [.nd _ .lst us] => if xs.length + us.length ≤ sizeLine ∧ T.noLnL us = true then some (xs ++ us) else none
  | _ => none
section
end
end TV
set_option Elab.async false
set_option linter.all false
set_option maxRecDepth 100000
set_option maxHeartbeats 4000000
namespace TV
open PySem PySem.Spec PyProof.Rows L2
def strOf (t : T) : Option Str := match t with
  | .str x => some x
  | _ => none
def strsOf : List T → Option (List Str)
  | [] => some []
  | t :: r => (strOf t).bind fun x => (strsOf r).map (x :: ·)
section
variable {X : Cx} {W : WX} {B : Bs} {σ : L2.St} {δ : Sl} {ts : List (V × T)} {H : Hp} {e a b : Expr} {pos : Pos} {f fa fb : ES}
def joinT (a : Str) (ys : List Str) : Option T := if (ys.map (·.length)).sum + ys.length * a.length ≤ 16777216 then some (.str (PySem.Txt.join a ys)) else none
def gJoin (t : T) (args : List T) : Option T := match t, args with
  | .str a, [y] => (seqOf y).bind fun xs => (strsOf xs).bind (joinT a)
  | _, _ => none
def gSplit (t : T) (args : List T) : Option T := match t, args with
  | .str a, [.str b] => if (b.length == 0) = false ∧ a.length + 2 ≤ sizeLine then some (.nd .ow .lst ((PySem.Txt.split a b).map T.str)) else none
  | _, _ => none
def gSlT (t : T) (lo hi : Option Int) : Option T := match t with
  | .str z => if z.length ≤ sizeLine then some (.str (cutS z lo hi)) else none
  | _ => none
def eSlT (f : ES) (flo fhi : Sl → R Sl (Option Int)) : ES := fun δ => (f δ).bind fun t δ => (flo δ).bind fun lo δ => (fhi δ).bind fun hi δ => opt (gSlT t lo hi) δ
def repS (x : Str) (n : Int) : Str := if n < 1 then Str.empty else if (n == 1 || x.length == 0) = true then x else ⟨(List.replicate n.toNat x.cps).foldl (· ++ ·) #[]⟩
def gMulS (x y : T) : Option T := match x, y with
  | .str z, .int n => if n < 2000000 ∧ -2000000 < n ∧ z.length ≤ 8 then some (.str (repS z n)) else none
  | _, _ => none
def inS (x y : Str) : Bool := !(Builtin.Str.occurrences y x 0 y.length 1).isEmpty
def gInS (neg : Bool) (x y : T) : Option T := match x, y with
  | .str a, .str b => some (.bl (if neg = true then !inS a b else inS a b))
  | _, _ => none
def signsT (z : Str) : List T := z.cps.toList.map fun c => T.str ⟨#[c]⟩
def iStrS (f : ES) : IS := fun δ => (f δ).bind fun t δ => match t with
  | .str z => .ok (true, signsT z) δ
  | _ => .bad
end
end TV
set_option Elab.async false
set_option linter.all false
set_option maxRecDepth 100000
set_option maxHeartbeats 4000000
namespace TV
open PySem PySem.Spec PyProof.Rows L2
section
variable {X : Cx} {W : WX} {e : Expr} {pos : Pos} {f : ES}
def iEnumT (f : ES) : IS := fun δ => (f δ).bind fun t δ => match t with
  | .str z => .ok (true, enumT (signsT z)) δ
  | _ => .bad
end
end TV
set_option Elab.async false
set_option linter.all false
set_option maxRecDepth 100000
set_option maxHeartbeats 4000000
namespace TV
open PySem PySem.Spec PyProof.Rows L2
inductive EntS (P : Params) : List DictEntry → List (Str × T) → Prop
  | nil : EntS P [] []
  | cons {h : Int} {x : Str} {k : Tok} {u : Value} {v : V} {t : T} {es : List DictEntry} {kvs : List (Str × T)} : h = PyData.keyHash P x → t.scal = some v → RelV v u → EntS P es kvs → EntS P (⟨h, .str x k, u⟩ :: es) ((x, t) :: kvs)
inductive EntI : List DictEntry → List (Int × T) → Prop
  | nil : EntI [] []
  | cons {h : Int} {x : Int} {k : Tok} {u : Value} {v : V} {t : T} {es : List DictEntry} {kvs : List (Int × T)} : h = hashInt x → t.scal = some v → RelV v u → EntI es kvs → EntI (⟨h, .int x k, u⟩ :: es) ((x, t) :: kvs)
theorem EntS.keys {P : Params} : ∀ {es : List DictEntry} {kvs : List (Str × T)}, EntS P es kvs → ∀ e ∈ es, ∃ x t, e.key = .str x t ∧ e.hash = PyData.keyHash P x
  | _, _, .nil, _, h => by cases h
  | _, _, .cons h1 _ _ r, e, h => by
    rcases List.mem_cons.mp h with rfl | h
    · exact ⟨_, _, rfl, h1⟩
    · exact r.keys e h
theorem EntI.keys : ∀ {es : List DictEntry} {kvs : List (Int × T)}, EntI es kvs → ∀ e ∈ es, ∃ x t, e.key = .int x t ∧ e.hash = hashInt x
  | _, _, .nil, _, h => by cases h
  | _, _, .cons h1 _ _ r, e, h => by
    rcases List.mem_cons.mp h with rfl | h
    · exact ⟨_, _, rfl, h1⟩
    · exact r.keys e h
def lookF {κ : Type} [DecidableEq κ] (k : κ) : List (κ × T) → Option T
  | [] => none
  | p :: r => if p.1 = k then some p.2 else lookF k r
theorem isStrOf_lit {z x : Str} {k : Tok} : Value.isStrOf z (.str x k) = decide (x = z) := by
  unfold Value.isStrOf
  by_cases h : x = z
  · simp [h]
  · simp [h]
theorem isInt_lit {z x : Int} {k : Tok} : Value.isInt z (.int x k) = decide (x = z) := by
  unfold Value.isInt
  by_cases h : x = z
  · simp [h]
  · simp [h]
theorem EntS.find {P : Params} {z : Str} : ∀ {es : List DictEntry} {kvs : List (Str × T)}, EntS P es kvs →
    (∀ t, lookF z kvs = some t → ∃ u v, (es.find? fun e => Value.isStrOf z e.key).map (·.val) = some u ∧ t.scal = some v ∧ RelV v u) ∧ (lookF z kvs = none → (es.find? fun e => Value.isStrOf z e.key).map (·.val) = none)
  | _, _, .nil => ⟨(fun t h => by cases h), fun _ => rfl⟩
  | _, _, .cons (x := x) (k := k) (u := u) (t := t) h1 h2 h3 r => by
    obtain ⟨a, b⟩ := r.find (z := z)
    rw [List.find?_cons]
    dsimp only
    rw [isStrOf_lit]
    by_cases h : x = z
    · rw [decide_eq_true h]
      refine ⟨fun t' e => ?_, fun e => ?_⟩
      · unfold lookF at e
        rw [if_pos h] at e; cases e
        exact ⟨u, _, rfl, h2, h3⟩
      · unfold lookF at e
        rw [if_pos h] at e; cases e
    · rw [decide_eq_false h]
      refine ⟨fun t' e => ?_, fun e => ?_⟩
      · unfold lookF at e
        rw [if_neg h] at e
        exact a t' e
      · unfold lookF at e
        rw [if_neg h] at e
        exact b e
theorem EntI.find {z : Int} : ∀ {es : List DictEntry} {kvs : List (Int × T)}, EntI es kvs →
    (∀ t, lookF z kvs = some t → ∃ u v, (es.find? fun e => Value.isInt z e.key).map (·.val) = some u ∧ t.scal = some v ∧ RelV v u) ∧ (lookF z kvs = none → (es.find? fun e => Value.isInt z e.key).map (·.val) = none)
  | _, _, .nil => ⟨(fun t h => by cases h), fun _ => rfl⟩
  | _, _, .cons (x := x) (k := k) (u := u) (t := t) h1 h2 h3 r => by
    obtain ⟨a, b⟩ := r.find (z := z)
    rw [List.find?_cons]
    dsimp only
    rw [isInt_lit]
    by_cases h : x = z
    · rw [decide_eq_true h]
      refine ⟨fun t' e => ?_, fun e => ?_⟩
      · unfold lookF at e
        rw [if_pos h] at e; cases e
        exact ⟨u, _, rfl, h2, h3⟩
      · unfold lookF at e
        rw [if_pos h] at e; cases e
    · rw [decide_eq_false h]
      refine ⟨fun t' e => ?_, fun e => ?_⟩
      · unfold lookF at e
        rw [if_neg h] at e
        exact a t' e
      · unfold lookF at e
        rw [if_neg h] at e
        exact b e
section
variable {X : Cx} {W : WX} {c : Addr} {b : Expr} {fb : ES} {x : Str} {p pos : Pos} {B : Bs} {σ : L2.St} {δ : Sl} {ts : List (V × T)} {H : Hp}
def gTabS (kvs : List (Str × T)) (y : T) : Option T := match y with
  | .str z => lookF z kvs
  | _ => none
def gTabI (kvs : List (Int × T)) (y : T) : Option T := match y with
  | .int z => lookF z kvs
  | _ => none
def gTabIn (neg : Bool) (kvs : List (Str × T)) (y : T) : Option T := match y with
  | .str z => some (.bl (if neg = true then !(lookF z kvs).isSome else (lookF z kvs).isSome))
  | _ => none
end
end TV
set_option Elab.async false
set_option linter.all false
set_option maxRecDepth 100000
set_option maxHeartbeats 4000000
namespace TV
open PySem PySem.Spec PyProof.Rows L2 PyProof
section
variable {X : Cx} {W : WX} {a b c : Expr} {pos : Pos} {ta : TA}
def lsRd (args : List T) (δ : Sl) : R Sl T := match rg3 args with
  | some xs => if xs.length ≤ 16777216 then .ok (.nd .ow .lst xs) δ else .bad
  | none => .bad
def eLsRg3 (g : AS) : ES := fun δ => (g δ).bind fun as δ => match valsOf as with
  | some args => lsRd args δ
  | none => .bad
end
end TV
set_option Elab.async false
set_option linter.all false
set_option maxRecDepth 100000
set_option maxHeartbeats 4000000
namespace TV
open PySem PySem.Spec PyProof.Rows L2
section
variable {K : PySem.W.Frag} {F F' G G' H : Hp} {σ : L2.St} {δ : Sl} {ts : List (V × T)} {B : Bs}
theorem RepL.pull : ∀ {xs : List T} {vs : List V} {as : List Addr} (j : Nat) (t : T), RepL K F G xs vs as → xs[j]? = some t → ∃ v b c, vs[j]? = some v ∧ Rep K F G t v b ∧ RepL K F G (xs.set j .non) (vs.set j .non) c ∧ ∀ a, b.count a + c.count a = as.count a
  | _, _, _, j, t, .nil, e => by simp at e
  | _, _, _, 0, t, .cons h r, e => by
    simp at e; subst e
    exact ⟨_, _, _, rfl, h, .cons (.lon .non) r, fun a => by simp only [List.count_append, List.count_nil]; omega⟩
  | _, _, _, j + 1, t, .cons h r, e => by
    obtain ⟨v, b, c, e1, h1, r1, cc⟩ := r.pull j t (by simpa using e)
    exact ⟨v, b, _, by simpa using e1, h1, .cons h r1, fun a => by have := cc a; simp only [List.count_append]; omega⟩
theorem RepL.swap {xs : List T} {vs : List V} {as : List Addr} (r : RepL K F G xs vs as) {m n : Nat} {t u : T} {v w : V} (em : xs[m]? = some t) (en : xs[n]? = some u) (ev : vs[m]? = some v) (ew : vs[n]? = some w) :
    ∃ c, RepL K F G ((xs.set m u).set n t) ((vs.set m w).set n v) c ∧ ∀ a, c.count a ≤ as.count a := by
  by_cases z : m = n
  · subst z
    rw [em] at en; cases en
    rw [ev] at ew; cases ew
    have h1 : (xs.set m t).set m t = xs := by
      rw [List.set_set]
      apply List.ext_getElem?
      intro k
      by_cases hk : m = k
      · subst hk; rw [List.getElem?_set_self (List.getElem?_eq_some_iff.mp em).1, em]
      · rw [List.getElem?_set_ne hk]
    have h2 : (vs.set m v).set m v = vs := by
      rw [List.set_set]
      apply List.ext_getElem?
      intro k
      by_cases hk : m = k
      · subst hk; rw [List.getElem?_set_self (List.getElem?_eq_some_iff.mp ev).1, ev]
      · rw [List.getElem?_set_ne hk]
    rw [h1, h2]
    exact ⟨as, r, fun a => Nat.le_refl _⟩
  · obtain ⟨v', b, c, e1, q1, r1, c1⟩ := r.pull m t em
    rw [ev] at e1; cases e1
    obtain ⟨w', b2, c2, e2, q2, r2, cc2⟩ := r1.pull n u (by rw [List.getElem?_set_ne z]; exact en)
    rw [List.getElem?_set_ne z, ew] at e2; cases e2
    obtain ⟨d1, r3, c3⟩ := r2.put m q2
    obtain ⟨d2, r4, c4⟩ := r3.put n q1
    have h1 : ((((xs.set m .non).set n .non).set m u).set n t) = (xs.set m u).set n t := by
      apply List.ext_getElem?
      intro k
      simp only [List.getElem?_set, List.length_set]
      by_cases hk : n = k
      · subst hk; simp
      · by_cases hm : m = k
        · subst hm; simp [Ne.symm z]
        · simp [hk, hm]
    have h2 : ((((vs.set m .non).set n .non).set m w).set n v) = (vs.set m w).set n v := by
      apply List.ext_getElem?
      intro k
      simp only [List.getElem?_set, List.length_set]
      by_cases hk : n = k
      · subst hk; simp
      · by_cases hm : m = k
        · subst hm; simp [Ne.symm z]
        · simp [hk, hm]
    rw [h1, h2] at r4
    exact ⟨d2, r4, fun a => by have := c1 a; have := cc2 a; have := c3 a; have := c4 a; omega⟩
theorem RepL.same {xs : List T} {vs : List V} {as : List Addr} (r : RepL K F G xs vs as) {j : Nat} {v : V} (e : vs[j]? = some v) : ∃ t b, xs[j]? = some t ∧ Rep K F G t v b := by
  have hl := r.length
  have hj := (List.getElem?_eq_some_iff.mp e).1
  obtain ⟨v', b, c, e1, h1, _⟩ := r.pull j _ (List.getElem?_eq_getElem (l := xs) (show j < xs.length by omega))
  rw [e] at e1; cases e1
  exact ⟨_, b, List.getElem?_eq_getElem (by omega), h1⟩
end
def swS (k i j : Nat) (δ : Sl) : R Sl Flw := match ownL δ k, δ[i]?, δ[j]? with
  | some (p, xs), some (.vis _ (.int I)), some (.vis _ (.int J)) => match ixN xs.length I, ixN xs.length J with
    | some m, some n => match xs[m]?, xs[n]? with
      | some t, some u => .ok .next (δ.set k (.vis p (.nd .ow .lst ((xs.set m u).set n t))))
      | _, _ => .bad
    | _, _ => .bad
  | _, _, _ => .bad
def sSwap (k i j : Nat) : SS := swS k i j
section
end
end TV
set_option Elab.async false
set_option linter.all false
set_option maxRecDepth 100000
set_option maxHeartbeats 4000000
namespace TV
open PySem PySem.Spec PyProof.Rows L2
section
variable {X : Cx} {W : WX} {a b : Expr} {ta : TE} {fa fb : ES} {pos : Pos}
def inRg (t u : T) : Option T := match t, u with
  | .int i, .int n => some (.bl (decide (0 ≤ i ∧ i < n)))
  | _, _ => none
end
end TV
set_option Elab.async false
set_option linter.all false
set_option maxRecDepth 100000
set_option maxHeartbeats 4000000
namespace TV
open PySem PySem.Spec PyProof.Rows L2
def tIs : T → Option (List Int)
  | .nd _ .tup xs => intsOf xs
  | _ => none
def gLtT (x y : T) : Option T := (tIs x).bind fun a => (tIs y).map fun b => .bl (HT.lexLt a b)
section
end
end TV
set_option Elab.async false
set_option linter.all false
set_option maxRecDepth 100000
set_option maxHeartbeats 4000000
namespace TV
open PySem PySem.Spec PyProof.Rows L2
section
end
end TV
set_option Elab.async false
set_option linter.all false
set_option maxRecDepth 100000
set_option maxHeartbeats 4000000
namespace TV
open PySem PySem.Spec PyProof.Rows L2
def scalT : T → Bool
  | .nd _ _ _ => false
  | _ => true
def pairK : T → Option (List Key × T)
  | .nd _ .tup [k, v] => if scalT v = true then (keyTT k).map fun kk => (kk, v) else none
  | _ => none
def pairsK : List T → Option (List (List Key × T))
  | [] => some []
  | t :: ts => (pairK t).bind fun p => (pairsK ts).map fun ps => p :: ps
def gDictOf (t : T) : Option T := match t with
  | .nd _ .lst ps => (pairsK ps).bind fun kvs => if (kvs.map (·.1)).Nodup then some (.nd .ow (.dT (kvs.map (·.1))) (kvs.map (·.2))) else none
  | _ => none
section
end
section
variable {K : PySem.W.Frag} {F F' G H : Hp} {B : Bs} {σ : L2.St} {δ : Sl} {ts : List (V × T)}
theorem Rep.scal {t : T} {v : V} {as : List Addr} (n : scalT t = true) (h : Rep K F G t v as) : Lon K F' G t v ∧ as = [] := by
  cases h with
  | lon h => cases h with
    | non => exact ⟨.non, rfl⟩
    | bl b => exact ⟨.bl b, rfl⟩
    | int i => exact ⟨.int i, rfl⟩
    | str x => exact ⟨.str x, rfl⟩
    | fz h st => cases n
    | ln h st => cases n
  | ow h e f => cases n
end
section
end
end TV
set_option Elab.async false
set_option linter.all false
set_option maxRecDepth 100000
set_option maxHeartbeats 4000000
namespace TV
open PySem PySem.Spec PyProof.Rows L2
theorem KT.drop {H : Hp} {kvs : List (List Key × V)} {xs : List (List Key × Addr × Value)} (r : KT H kvs xs) (k : List Key) : KT H (dropK kvs k) (withoutH xs k) := by
  unfold dropK withoutH
  induction r with
  | nil => exact .nil
  | @cons p q ps qs h t ih =>
    obtain ⟨h1, h2⟩ := h
    rw [List.filter_cons, List.filter_cons]
    by_cases e : p.1 = k
    · have a : ¬ decide (p.1 ≠ k) = true := by simp [e]
      have b : ¬ decide (q.1 ≠ k) = true := by simp [h1.symm.trans e]
      rw [if_neg a, if_neg b]; exact ih
    · have e' : ¬ q.1 = k := fun z => e (h1.trans z)
      have a : decide (p.1 ≠ k) = true := by simp [e]
      have b : decide (q.1 ≠ k) = true := by simp [e']
      rw [if_pos a, if_pos b]; exact .cons ⟨h1, h2⟩ ih
section
end
section
end
def popDT (ks : List (List Key)) (xs : List T) (k : List Key) : T := match idxK ks k with
  | some j => .nd .ow (.dT (ks.eraseIdx j)) (xs.eraseIdx j)
  | none => .nd .ow (.dT ks) xs
def popD (need : Bool) (i : Nat) (kt : T) (δ : Sl) : R Sl Flw := match ownD δ i with
  | some (p, ks, xs) => match keyTT kt with
    | some k => if ks.Nodup ∧ (!need || (idxK ks k).isSome) = true then .ok .next (δ.set i (.vis p (popDT ks xs k))) else .bad
    | none => .bad
  | none => .bad
def sPopD1 (i : Nat) (fk : ES) : SS := fun δ => match ownD δ i with
  | none => .bad
  | some _ => (fk δ).bind fun kt δ => popD true i kt δ
def sPopD2 (i : Nat) (fk fx : ES) : SS := fun δ => match ownD δ i with
  | none => .bad
  | some _ => (fk δ).bind fun kt δ => (fx δ).bind fun _ δ => popD false i kt δ
section
end
section
end
def gDNe (t u : T) : Option T := match t, u with
  | .nd _ (.dT ks) _, .nd _ (.dT []) _ => some (.bl (!ks.isEmpty))
  | _, _ => none
section
end
def argMinD (ds : List PyData) : Nat := argBest (fun i j => PySem.W.dataLt (ds.getD i .none) (ds.getD j .none)) (ds.length - 1)
section
end
def gMinT (t : T) : Option T := match t with
  | .nd _ .lst xs => if sortsT xs = true ∧ xs.all isTupT = true ∧ xs.isEmpty = false then xs[argMinD (T.toDL xs)]? else none
  | _ => none
section
end
end TV
set_option Elab.async false
set_option linter.all false
set_option maxRecDepth 100000
set_option maxHeartbeats 4000000
namespace TV
open PySem PySem.Spec PyProof.Rows L2
/-- any reference -/
def tRaw : T := .nd .fz (.ex ("" : Str)) [.non]
section
end
section
end
end TV
set_option Elab.async false
set_option linter.all false
set_option maxRecDepth 100000
set_option maxHeartbeats 4000000
namespace TV
open PySem PySem.Spec PyProof.Rows L2
section
end
section
end
end TV
set_option Elab.async false
set_option linter.all false
set_option maxRecDepth 100000
set_option maxHeartbeats 4000000
namespace TV
open PySem PySem.Spec PyProof.Rows L2
open Classical in
noncomputable def endLd (i j m : Nat) (xs : List T) (r : R Sl Flw) : R Sl Flw := match r with
  | .ok fl δ => (match δ[j]? with
    | some (.vis true t) => if (δ.set j .un)[i]? = some (.hid true tRaw) then .ok fl ((δ.set j .un).set i (.vis false (.nd .ow .lst (xs.set m t)))) else .bad
    | _ => .bad)
  | _ => .bad
noncomputable def sLend (i j : Nat) (f : ES) (g : SS) : SS := fun δ => (f δ).bind fun kt δ => match kt with
  | .int k => (match δ[i]? with
    | some (.vis false (.nd .ow .lst xs)) => (match ixN xs.length k with
      | some m => (match xs[m]? with
        | some t => (match (δ.set i (.hid true tRaw))[j]? with
          | some s => if s.pin = false then endLd i j m xs (g ((δ.set i (.hid true tRaw)).set j (.vis true t))) else .bad
          | none => .bad)
        | none => .bad)
      | none => .bad)
    | _ => .bad)
  | _ => .bad
def slotI (δ : Sl) (i : Nat) : Option (List T) := match δ[i]? with
  | some (.vis false (.nd .ow .lst xs)) => some xs
  | _ => none
noncomputable def sLd (i j : Nat) (f : ES) (g : SS) : SS := fun δ => match slotI δ i with
  | some _ => sLend i j f g δ
  | none => .bad
section
end
end TV
set_option Elab.async false
set_option linter.all false
set_option maxRecDepth 100000
set_option maxHeartbeats 4000000
namespace TV
open PySem PySem.Spec PyProof.Rows L2
def parV (as : List Ar) (i j : Nat) (δ : Sl) : R Sl Flw := match valsOf as with
  | some [t, u] => (stoS false i t δ).bind fun _ δ => (stoS false j u δ).bind fun _ δ => .ok .next δ
  | _ => .bad
def sPar (i j : Nat) (g : AS) : SS := fun δ => (g δ).bind fun as δ => parV as i j δ
section
end
end TV
set_option Elab.async false
set_option linter.all false
set_option maxRecDepth 100000
set_option maxHeartbeats 4000000
namespace TV
open PySem PySem.Spec PyProof.Rows L2
section
variable {X : Cx} {W : WX} {a b : Expr} {fa fb : ES} {pos : Pos}
def gDivM : T → T → Option T := gII (fun i j => decide (0 < j ∧ j.natAbs.log2 < 9000 ∨ j ≠ 0 ∧ j.natAbs < 1073741824)) fun i j => i.fdiv j
end
end TV
set_option Elab.async false
set_option linter.all false
set_option maxRecDepth 100000
set_option maxHeartbeats 4000000
namespace TV
open PySem PySem.Spec PyProof.Rows L2
section
end
end TV
set_option Elab.async false
set_option linter.all false
set_option maxRecDepth 100000
set_option maxHeartbeats 4000000
namespace TV
open PySem PySem.Spec PyProof.Rows L2
section
end
end TV
set_option Elab.async false
set_option linter.all false
set_option maxRecDepth 100000
set_option maxHeartbeats 4000000
namespace TV
open PySem PySem.Spec PyProof.Rows L2
section
end
def gSortedT (t : T) : Option T := (tupOf t).bind fun xs => if sortsT xs = true then some (.nd .ow .lst (xs.mergeSort leT)) else none
section
end
end TV
set_option Elab.async false
set_option linter.all false
set_option maxRecDepth 100000
set_option maxHeartbeats 4000000
namespace TV
open PySem PySem.Spec PyProof.Rows L2
def eLcO (f : ES) (gs : GS) (ft : Sl → R Sl Bool) (fe : ES) (vs : List Nat) : ES := fun δ => (f δ).bind fun t δ => ownK t fun xs => match saveL vs δ with
  | none => .bad
  | some (kp, δ) => endLc δ kp (lcL gs ft fe vs xs δ)
section
end
end TV
set_option Elab.async false
set_option linter.all false
set_option maxRecDepth 100000
set_option maxHeartbeats 4000000
namespace TV
open PySem PySem.Spec PyProof.Rows L2
def zipO (as : List T) : Option (List T × List T) := match as with
  | [.nd .ow .lst xs, t] => if (T.noLnL xs && (notOw t && t.noLn)) = true then (seqOf t).map fun ys => (xs, ys) else none
  | _ => none
def sForOZ (f : AS) (gs : GS) (body : SS) : SS := fun δ => (f δ).bind fun as δ => match valsOf as with
  | none => .bad
  | some args => match zipO args with
    | none => .bad
    | some p => forL gs body (List.zipWith pairT p.1 p.2) δ
section
end
end TV
set_option Elab.async false
set_option linter.all false
set_option maxRecDepth 100000
set_option maxHeartbeats 4000000
namespace TV
open PySem PySem.Spec PyProof.Rows L2
def gT (vs : List Nat) (f : Sl → R Sl Bool) : Sl → R Sl Bool := fun δ => (f (hdS vs δ)).bind fun b δ => .ok b (shS vs δ)
section
end
end TV
set_option Elab.async false
set_option linter.all false
set_option maxRecDepth 100000
set_option maxHeartbeats 4000000
namespace TV
open PySem PySem.Spec PyProof.Rows L2
def gCatT (x y : T) : Option T := match x, y with
  | .nd .fz .tup xs, .nd .fz .tup ys => if xs.length + ys.length ≤ sizeLine then some (if xs.isEmpty = true then .nd .fz .tup ys else if ys.isEmpty = true then .nd .fz .tup xs else mkN .tup (xs ++ ys)) else none
  | _, _ => none
section
variable {X : Cx}
def eCatT (fa fb : ES) : ES := eFr (eBin gCatT fa fb)
end
end TV
set_option Elab.async false
set_option linter.all false
set_option maxRecDepth 100000
set_option maxHeartbeats 4000000
namespace TV
open PySem PySem.Spec PyProof.Rows L2
def fzXT (t : T) : T := t.frz
def fzX1 (i : Nat) (δ : Sl) : Sl := match δ[i]? with
  | some (.vis false t) => δ.set i (.vis false (fzXT t))
  | _ => δ
def fzX : List Nat → Sl → Sl
  | [], δ => δ
  | v :: vs, δ => fzX vs (fzX1 v δ)
/-- x[e] = e', then x frozen -/
def putX (i : Nat) (t kt : T) (δ : Sl) : R Sl Flw := (putS i t kt δ).bind fun fl δ => match fl with
  | .next => .ok .next (fzX1 i δ)
  | fl => .ok fl δ
def sPutX (i : Nat) (f fi : ES) : SS := fun δ => (f δ).bind fun t δ => if t.noLn = true then (match ownL δ i with
  | none => .bad
  | some _ => (fi δ).bind fun kt δ => putX i t kt δ) else .bad
end TV
set_option Elab.async false
set_option linter.all false
set_option maxRecDepth 100000
set_option maxHeartbeats 4000000
namespace TV
open PySem PySem.Spec PyProof.Rows L2
section
variable {X : Cx}
/-- what is written of it -/
def rzF (y : Str) (vs : List Nat) (as : List Ar) (δ : Sl) : R Sl Flw := match as with
  | [.val a, .val b] => (match keyTT a, keyTT b with
    | some p, some q => .exc ⟨y, some (p, q)⟩ (fgS vs δ)
    | _, _ => .bad)
  | _ => .bad
def sRaiseF (y : Str) (vs : List Nat) (g : AS) : SS := fun δ => (g δ).bind (rzF y vs)
variable {W : WX}
def isK2 : T → Bool
  | .nd .fz .tup [.int _, .int _] => true
  | _ => false
def xSel (o : Bool) (y : Str) (t : T) : Option T := match t with
  | .nd _ (.ex x) [p, q] => if x = y ∧ isK2 (if o = true then p else q) = true then some (if o = true then p else q) else none
  | _ => none
def eXf (o : Bool) (y : Str) (f : ES) : ES := fun δ => (f δ).bind fun t δ => opt (xSel o y t) δ
end
end TV
set_option Elab.async false
set_option linter.all false
set_option maxRecDepth 100000
set_option maxHeartbeats 4000000
namespace TV
open PySem PySem.Spec PyProof.Rows L2
section
end
section
end
end TV
set_option Elab.async false
set_option linter.all false
set_option maxRecDepth 100000
set_option maxHeartbeats 4000000
namespace TV
open PySem PySem.Spec PyProof.Rows L2
/-- the c-th probe for the hash h -/
abbrev pr (m : Nat) (h : Int) (c : Nat) : SetTable.Probe := nth m (runAt m (SetTable.bits h % (m + 1)) (SetTable.bits h)) c
theorem pr_on {m : Nat} {h : Int} (c q : Nat) : nth m (pr m h c) q = pr m h (c + q) := (nth_add m c _ q).symm
theorem pr_on_j {m : Nat} {h : Int} (c q : Nat) : (nth m (pr m h c) q).j = way m h (c + q) := congrArg SetTable.Probe.j (pr_on c q)
theorem nth_dm {m : Nat} : ∀ (n : Nat) {p : SetTable.Probe}, p.dummy = none → (nth m p n).dummy = none
  | 0, _, e => e
  | n + 1, p, e => nth_dm n (p := adv m p) (by unfold adv; split <;> exact e)
structure Bag (P : Program) (w : World) (h : Heap) (a : Addr) (L : List (Addr × List Int)) (es : Array (Int × Value)) (ep : Nat) (t : SetTable) : Prop where
  obj : ∃ o, h.get? a = some o ∧ o.ExactSet ∧ o.data = .set es ep t
  row : es.toList = rowsOf P w L
  tb : TabOk t (L.map fun p => thash P w p.2)
  uniq : (L.map (·.2)).Nodup
  keys : ∀ p ∈ L, IsT P w h p.2 p.1
  pl : t.plain = true
  ld : w.params.followText "set-order" = true ∨ t.led = true
  rm : L.length * 5 < t.mask * 3
theorem rows_size {P : Program} {w : World} {L : List (Addr × List Int)} {es : Array (Int × Value)} (h : es.toList = rowsOf P w L) : es.size = L.length := by
  rw [← Array.length_toList, h]
  exact List.length_map _
section
variable {P : Program} {w : World} {A : Around} {E : Value → Shared → Prop} {s : Shared} {a : Addr} {L : List (Addr × List Int)} {es : Array (Int × Value)} {ep : Nat} {t : SetTable}
theorem Bag.slots (R : Bag P w s.heap a L es ep t) : t.place.size = L.length := by
  have e := R.tb.sz
  rwa [List.length_map] at e
theorem Bag.fits (R : Bag P w s.heap a L es ep t) : t.fits es.size = true := by
  have e1 := R.slots
  have e2 := rows_size R.row
  have e3 := R.rm
  unfold SetTable.fits SetTable.fill
  rw [R.tb.dm, Bool.and_eq_true, beq_iff_eq, decide_eq_true_eq]
  refine ⟨e1.trans e2.symm, ?_⟩
  show t.place.size + 0 ≤ t.mask
  omega
theorem Bag.even (R : Bag P w s.heap a L es ep t) : ¬ t.gaveWay = true := by
  unfold SetTable.gaveWay
  rw [mask_odd R.tb.mok]
  decide
theorem Bag.ent (R : Bag P w s.heap a L es ep t) {i : Nat} {p : Addr × List Int} (e : L[i]? = some p) : es[i]? = some (thash P w p.2, Value.ref p.1) := by
  rw [← Array.getElem?_toList, R.row]
  show (L.map fun p => (thash P w p.2, Value.ref p.1))[i]? = _
  rw [List.getElem?_map, e]; rfl
/-- the search from the c-th probe on -/
theorem Bag.seek (R : Bag P w s.heap a L es ep t) {x : Addr} {k : List Int} (hx : IsT P w s.heap k x) (hu : A.units < cLine) {K : Nat} (kf : K < 10 * SetTable.turns t.mask) (kn : way t.mask (thash P w k) K ∉ t.place.toList)
    (kb : ∀ c, c < K → way t.mask (thash P w k) c ∈ t.place.toList) {Q : SetFound → Shared → Prop} (yes : k ∈ L.map (·.2) → Q (.there none) s) (no : k ∉ L.map (·.2) → Q (.free (way t.mask (thash P w k) K) false) s) :
    ∀ (n c : Nat) (st : Option SetTable.Probe), K - c < n → c ≤ K → st.getD (t.probeStart (thash P w k)) = pr t.mask (thash P w k) c →
      (∀ (i : Nat) p, L[i]? = some p → p.2 = k → ∃ c', c ≤ c' ∧ c' < K ∧ t.place.toList[i]? = some (way t.mask (thash P w k) c')) →
      wpAny (model P w) A (setSearchFrom a (.ref x) (thash P w k) true n st) Q E s := by
  intro n
  induction n with
  | zero => intro c st h; exact absurd h (Nat.not_lt_zero _)
  | succ n ih =>
    intro c st hn hc hst rest
    obtain ⟨o, ho, hex, hd⟩ := R.obj
    have hashes : ∀ (i : Nat) p, L[i]? = some p → ((fun i => (es[i]?.map (·.1)).getD 0) : Nat → Int) i = thash P w p.2 := fun i p e => by
      show (es[i]?.map (·.1)).getD 0 = _
      rw [R.ent e]; rfl
    -- one that has the key would have been met
    have unmet : ∀ {c1 : Nat}, (∀ k' i', k' < c1 → t.place.toList[i']? = some (nth t.mask (pr t.mask (thash P w k) c) k').j → ((fun i => (es[i]?.map (·.1)).getD 0) : Nat → Int) i' ≠ thash P w k) → ∀ (i : Nat) p c', L[i]? = some p → p.2 = k → c ≤ c' →
        t.place.toList[i]? = some (way t.mask (thash P w k) c') → c + c1 ≤ c' := fun {c1} none_ i p c' e1 e2 e3 e4 => by
      rcases Nat.lt_or_ge c' (c + c1) with z | z
      · exfalso
        refine none_ (c' - c) i (by omega) ?_ ((hashes i p e1).trans (congrArg (thash P w) e2))
        rw [pr_on_j, show c + (c' - c) = c' by omega]; exact e4
      · exact z
    have spec := go_spec t R.tb.ris R.tb.dm (fun i => (es[i]?.map (·.1)).getD 0) (thash P w k) (10 * SetTable.turns t.mask) (K - c) (pr t.mask (thash P w k) c) (nth_dm c rfl) (by omega)
      (fun q hq => by rw [pr_on_j]; exact kb (c + q) (by omega)) (by rw [pr_on_j, show c + (K - c) = K by omega]; exact kn)
    rw [setSearchFrom_succ]
    refine wpAny_bind (wpAny_setState_of ho hd R.fits ?_)
    dsimp only
    refine wp_if_neg R.even ?_
    try refine wpAny_bind (wpAny_pure ?_)
    rcases spec with ⟨q, i, hq, hi, hh, none_, found⟩ | ⟨none_, found⟩
    · rw [pr_on_j] at hi
      have met : t.probe (fun i => (es[i]?.map (·.1)).getD 0) (thash P w k) (st.getD (t.probeStart (thash P w k))) = some (.candidate (way t.mask (thash P w k) (c + q)) i (pr t.mask (thash P w k) (c + (q + 1)))) := by
        rw [hst, ← pr_on_j, ← pr_on]
        exact found
      rw [met]
      dsimp only
      have li : i < L.length := by
        have h1 := (List.getElem?_eq_some_iff.mp hi).1
        rw [Array.length_toList, R.slots] at h1
        exact h1
      obtain ⟨p, hp⟩ : ∃ p, L[i]? = some p := ⟨_, List.getElem?_eq_getElem li⟩
      have mp : p ∈ L := List.mem_of_getElem? hp
      have live : t.slot (way t.mask (thash P w k) (c + q)) = .live i := slot_live R.tb.ris hi
      have go : wpAny (model P w) A (searchRest a (.ref x) (thash P w k) true n es t (way t.mask (thash P w k) (c + q)) i (pr t.mask (thash P w k) (c + (q + 1)))) Q E s := by
        unfold searchRest
        rw [R.ent hp]
        dsimp only
        refine wpAny_bind (wpAny_holding (wpAny_eqBool_tuple hu (R.keys p mp) hx (wpAny_bind (wpAny_setState_of ho hd R.fits ?_))))
        dsimp only
        by_cases same : p.2 = k
        · exact wp_if_pos (by simp [same]) (wpAny_pure (yes (List.mem_map.mpr ⟨p, mp, same⟩)))
        · refine wp_if_neg (by simp [same]) ?_
          try refine wpAny_bind (wpAny_pure ?_)
          rw [sameMem]
          dsimp only
          simp only [if_true, live, R.ent hp]
          refine wpAny_bind (wpAny_isSame_ref_self (wpAny_bind (wpAny_pure ?_)))
          simp only [if_true]
          refine wp_if_neg (by simp [same]) (ih (c + (q + 1)) _ (by omega) (by omega) rfl fun i0 p0 e1 e2 => ?_)
          obtain ⟨c', b1, b2, b3⟩ := rest i0 p0 e1 e2
          refine ⟨c', ?_, b2, b3⟩
          have b4 := unmet (c1 := q) none_ i0 p0 c' e1 e2 b1 b3
          rcases Nat.lt_or_ge (c + q) c' with z | z
          · omega
          · exfalso
            have ec : c' = c + q := by omega
            rw [ec] at b3
            have l2 := slot_live R.tb.ris b3
            rw [live] at l2
            injection l2 with l2
            rw [← l2, hp] at e1
            injection e1 with e1
            rw [← e1] at e2
            exact same e2
      by_cases hl : t.led = true
      · refine wp_if_neg (by simp [hl]) ?_
        try refine wpAny_bind (wpAny_pure ?_)
        exact go
      · refine wp_if_pos (by simp [hl]) (wpAny_bind (seen_tup hx (fun y hy => ?_) (wp_if_neg (by decide) ?_)))
        · obtain ⟨e, he, rfl⟩ := List.mem_map.mp hy
          have he1 : e ∈ es.toList := by
            have : e ∈ es ∧ e.1 = thash P w k := by simpa using he
            simpa using this.1
          rw [R.row] at he1
          obtain ⟨p2, hp2, rfl⟩ := List.mem_map.mp he1
          exact ⟨p2.2, p2.1, rfl, R.keys p2 hp2⟩
        · try refine wpAny_bind (wpAny_pure ?_)
          exact go
    · have met : t.probe (fun i => (es[i]?.map (·.1)).getD 0) (thash P w k) (st.getD (t.probeStart (thash P w k))) = some (.empty (way t.mask (thash P w k) K) none) := by
        have e2 : way t.mask (thash P w k) K = (nth t.mask (pr t.mask (thash P w k) c) (K - c)).j := by rw [pr_on_j, show c + (K - c) = K by omega]
        rw [hst, e2]
        exact found
      rw [met]
      dsimp only
      refine wpAny_pure (no fun hm => ?_)
      obtain ⟨p0, m0, e2⟩ := List.mem_map.mp hm
      obtain ⟨i0, l0, e0⟩ := List.getElem_of_mem m0
      have e1 : L[i0]? = some p0 := by rw [List.getElem?_eq_getElem l0, e0]
      obtain ⟨c', b1, b2, b3⟩ := rest i0 p0 e1 e2
      have := unmet (c1 := K - c) none_ i0 p0 c' e1 e2 b1 b3
      omega
theorem Bag.find (R : Bag P w s.heap a L es ep t) {x : Addr} {k : List Int} (hx : IsT P w s.heap k x) (hu : A.units < cLine) {Q : SetFound → Shared → Prop} (yes : k ∈ L.map (·.2) → Q (.there none) s)
    (no : ∀ K, k ∉ L.map (·.2) → way t.mask (thash P w k) K ∉ t.place.toList → (∀ c, c < K → way t.mask (thash P w k) c ∈ t.place.toList) → Q (.free (way t.mask (thash P w k) K) false) s) :
    wpAny (model P w) A (setSearch a (.ref x) (thash P w k) true) Q E s := by
  have hr := R.rm
  obtain ⟨K, kf, kn, kb⟩ := R.tb.first (by rw [List.length_map]; omega) (thash P w k)
  have small : 10 * SetTable.turns t.mask ≤ 1420 := by
    unfold SetTable.turns
    rcases R.tb.mok with e | e | e <;> omega
  unfold setSearch
  refine R.seek hx hu kf kn kb yes (fun nm => no K nm kn kb) 100000 0 none (by omega) (Nat.zero_le _) rfl fun i p e1 e2 => ?_
  have hi : (L.map fun p => thash P w p.2)[i]? = some (thash P w k) := by rw [List.getElem?_map, e1, ← e2]; rfl
  have li : i < t.place.toList.length := by
    rw [Array.length_toList, R.slots]
    exact (List.getElem?_eq_some_iff.mp e1).1
  obtain ⟨c, hc, e⟩ := R.tb.before kn hi (List.getElem?_eq_getElem li)
  exact ⟨c, Nat.zero_le _, hc, by rw [List.getElem?_eq_getElem li, e]⟩
/-- laid anew, larger -/
theorem bag_relay {o : Obj} (ho : s.heap.get? a = some o) (hex : o.ExactSet) (hd : o.data = .set es ep t) (row : es.toList = rowsOf P w L) (sz : t.place.size = es.size) (dm : t.dummies = #[]) (fl : es.size ≤ t.mask) (uniq : (L.map (·.2)).Nodup)
    (keys : ∀ p ∈ L, IsT P w s.heap p.2 p.1) (pl : t.plain = true) (ld : w.params.followText "set-order" = true ∨ t.led = true) {wanted M : Nat} (eM : SetTable.sizeAbove wanted - 1 = M) (hM : MaskOk M) (top : SetTable.sizeAbove wanted ≤ 128) (rm : L.length * 5 < M * 3)
    {Q : Unit → Shared → Prop} (hQ : ∀ h' L' es' ep' t', Heap.SameBut a s.heap h' → Bag P w h' a L' es' ep' t' → L'.Perm L → Q () { s with heap := h' }) : wpAny (model P w) A (setRelay a wanted) Q E s := by
  have ls : es.size = L.length := rows_size row
  have fits : t.fits es.size = true := by
    unfold SetTable.fits SetTable.fill
    rw [dm, Bool.and_eq_true, beq_iff_eq, decide_eq_true_eq]
    exact ⟨sz, by show t.place.size + 0 ≤ t.mask; omega⟩
  have hM8 : M ≤ 127 := by rcases hM with e | e | e <;> omega
  obtain ⟨t', order, e, perm, tb, em, el, epl, _⟩ := relaid_ok t (hs := es.map (·.1)) (wanted := wanted) eM hM (by rw [Array.size_map, ls]; omega)
  rw [Array.size_map, ls] at perm
  obtain ⟨L2, r1, r2, r3⟩ := order_rows L es order row perm
  rw [← r3] at tb
  have s2 : (order.filterMap (es[·]?)).size = es.size := by rw [rows_size r1, r2.length_eq, ls]
  have sb : Heap.SameBut a s.heap (s.heap.update a (Obj.putSet (order.filterMap (es[·]?)) t')) := Heap.SameBut.update ..
  rw [setRelay_eq]
  refine wpAny_bind (wpAny_setState_of ho hd fits ?_)
  dsimp only
  refine wp_if_neg (by rw [sizeLine_eq]; omega) ?_
  try refine wpAny_bind (wpAny_pure ?_)
  rw [e]
  dsimp only
  refine wpAny_bind (wp_if_neg (by rw [s2]; simp) ?_)
  try refine wpAny_bind (wpAny_pure ?_)
  refine wpAny_pure ?_
  dsimp only
  refine wpAny_storeSet_of ho hd (hQ _ L2 _ (ep + 1) t' sb ⟨⟨_, store_at ho hd, ⟨hex.1, hex.2.1, hex.2.2⟩, rfl⟩, r1, tb, (r2.map (·.2)).nodup_iff.mpr uniq, fun p hp => isT_same (keys p (r2.mem_iff.mp hp)) ho hd sb, by rw [epl]; exact pl, by rw [el]; exact ld, ?_⟩ r2) (by rw [s2, ls, sizeLine_eq]; omega)
  rw [r2.length_eq, em]
  exact rm
/-- one more -/
theorem Bag.add (R : Bag P w s.heap a L es ep t) {x : Addr} {k : List Int} (hx : IsT P w s.heap k x) (hu : A.units < cLine) (top : (L.length + 1) * 5 < 127 * 3) {Q : Bool → Shared → Prop}
    (hQ : ∀ b h' L' es' ep' t', Heap.SameBut a s.heap h' → Bag P w h' a L' es' ep' t' → (k ∈ L.map (·.2) → L' = L) → (k ∉ L.map (·.2) → L'.Perm ((x, k) :: L)) → Q b { s with heap := h' }) :
    wpAny (model P w) A (setAddHashed a (.ref x) (thash P w k)) Q E s := by
  obtain ⟨o, ho, hex, hd⟩ := R.obj
  have ls := rows_size R.row
  have hr := R.rm
  unfold setAddHashed
  refine wpAny_holding ?_
  rw [show (100000 : Nat) = 99999 + 1 from rfl, setAddHashedIn_succ]
  refine wpAny_bind (wpAny_setState_of ho hd R.fits ?_)
  dsimp only
  refine wp_if_neg (by simp [byScan, Value.scannable]) ?_
  try refine wpAny_bind (wpAny_pure ?_)
  refine wpAny_bind (R.find hx hu (fun hm => ?_) fun K hm kn kb => ?_)
  · dsimp only
    exact wpAny_pure (hQ false s.heap L es ep t (Heap.SameBut.refl a s.heap) R (fun _ => rfl) fun z => absurd hm z)
  · dsimp only
    refine wpAny_bind (wpAny_setState_of ho hd R.fits ?_)
    dsimp only
    obtain ⟨q1, q2, q3, q4, q5, q6, q7, q8, q9⟩ := R.tb.put kn kb
    have pl1 : (t.put (way t.mask (thash P w k) K)).1.plain = true := by rw [q6]; exact R.pl
    generalize t.put (way t.mask (thash P w k) K) = pt at q1 q3 q4 q5 q6 q7 q8 q9 pl1 ⊢
    obtain ⟨t1, j⟩ := pt
    dsimp only at q1 q3 q4 q5 q6 q7 q8 q9 pl1 ⊢
    subst q1
    first
      | (refine wpAny_bind ?_; refine wp_if_pos pl1 ?_; refine hashBy_tup hx ?_)
      | refine wp_if_pos pl1 (wpAny_bind (hashBy_tup hx ?_))
    simp only [if_true]
    have row1 : (SetTable.insertAt es (SetTable.below t.place (way t.mask (thash P w k) K)) (thash P w k, Value.ref x)).toList = rowsOf P w (L.take (SetTable.below t.place (way t.mask (thash P w k) K)) ++ (x, k) :: L.drop (SetTable.below t.place (way t.mask (thash P w k) K))) := by
      rw [SetTable.toList_insertAt, rows_put, R.row]
    generalize SetTable.below t.place (way t.mask (thash P w k) K) = j at q2 q3 row1 ⊢
    have perm := put_perm L j (x, k)
    have len1 : (L.take j ++ (x, k) :: L.drop j).length = L.length + 1 := perm.length_eq
    have hs1 : (L.take j ++ (x, k) :: L.drop j).map (fun p => thash P w p.2) = (L.map fun p => thash P w p.2).take j ++ thash P w k :: (L.map fun p => thash P w p.2).drop j := by
      rw [List.map_append, List.map_cons, List.map_take, List.map_drop]
    rw [← hs1] at q3
    have uniq1 : ((L.take j ++ (x, k) :: L.drop j).map (·.2)).Nodup := by
      refine (perm.map (·.2)).nodup_iff.mpr ?_
      rw [List.map_cons]
      exact List.nodup_cons.mpr ⟨hm, R.uniq⟩
    have sz1 : (SetTable.insertAt es j (thash P w k, Value.ref x)).size = L.length + 1 := (rows_size row1).trans len1
    generalize SetTable.insertAt es j (thash P w k, Value.ref x) = es1 at row1 sz1 ⊢
    generalize L.take j ++ (x, k) :: L.drop j = L1 at perm len1 q3 uniq1 row1
    have sb : Heap.SameBut a s.heap (s.heap.update a (Obj.putSet es1 t1)) := Heap.SameBut.update ..
    have ho1 := store_at (es' := es1) (t' := t1) ho hd
    refine wpAny_bind (wpAny_storeSet_of ho hd ?_ (by rw [sz1, sizeLine_eq]; omega))
    generalize s.heap.update a (Obj.putSet es1 t1) = h1 at sb ho1 ⊢
    have keys1 : ∀ p ∈ L1, IsT P w h1 p.2 p.1 := fun p hp => by
      rcases List.mem_cons.mp (perm.mem_iff.mp hp) with e | hp
      · rw [e]; exact isT_same hx ho hd sb
      · exact isT_same (R.keys p hp) ho hd sb
    have ld1 : w.params.followText "set-order" = true ∨ t1.led = true := by rw [q5]; exact R.ld
    have full : t1.tooFull = decide ((L.length + 1) * 5 ≥ t.mask * 3) := by
      unfold SetTable.tooFull
      rw [q9, List.length_map, q4]
    by_cases hf : t1.tooFull = true
    · rw [full, decide_eq_true_eq] at hf
      have two : (t.mask = 7 ∧ L.length = 4) ∨ (t.mask = 31 ∧ L.length = 18) := by
        rcases R.tb.mok with e | e | e
        · left; rw [e] at hf hr; exact ⟨e, by omega⟩
        · right; rw [e] at hf hr; exact ⟨e, by omega⟩
        · exfalso; rw [e] at hf; omega
      have hft : t1.tooFull = true := by rw [full]; exact decide_eq_true hf
      first
        | (refine wpAny_bind ?_; refine wp_if_pos (by simp [hft]) ?_)
        | (refine wp_if_pos (by simp [hft]) ?_; refine wpAny_bind ?_)
      rw [ls]
      have szp : t1.place.size = es1.size := by
        have e := q3.sz
        rw [List.length_map, len1] at e
        rw [e, sz1]
      have anew : ∀ M, SetTable.sizeAbove (SetTable.grown (L.length + 1)) - 1 = M → MaskOk M → SetTable.sizeAbove (SetTable.grown (L.length + 1)) ≤ 128 → (L.length + 1) * 5 < M * 3 →
          wpAny (model P w) A (setRelay a (SetTable.grown (L.length + 1))) (fun _ s' => wpAny (model P w) A (pure true) Q E s') E { s with heap := h1 } := fun M m1 m2 m3 m4 =>
        bag_relay (s := { s with heap := h1 }) ho1 ⟨hex.1, hex.2.1, hex.2.2⟩ rfl row1 szp q3.dm (by rw [sz1, q4]; rcases two with ⟨e, e2⟩ | ⟨e, e2⟩ <;> omega) uniq1 keys1 pl1 ld1 m1 m2 m3 (by rw [len1]; exact m4)
          fun h2 L2 es2 ep2 t2 sb2 R2 pm2 => wpAny_pure (hQ true h2 L2 es2 ep2 t2 (sb.trans sb2) R2 (fun z => absurd z hm) fun _ => pm2.trans perm)
      rcases two with ⟨_, e2⟩ | ⟨_, e2⟩
      · exact anew 31 (by rw [e2, size_20]) (.inr (.inl rfl)) (by rw [e2, size_20]; decide) (by omega)
      · exact anew 127 (by rw [e2, size_76]) (.inr (.inr rfl)) (by rw [e2, size_76]; decide) (by omega)
    · have nf : (L.length + 1) * 5 < t.mask * 3 := by
        have e := hf
        rw [full, decide_eq_true_eq] at e
        omega
      first
        | refine wp_if_neg (by simp [hf]) ?_
        | (refine wpAny_bind ?_; refine wp_if_neg (by simp [hf]) ?_; refine wpAny_pure ?_)
      exact wpAny_pure (hQ true h1 L1 es1 (ep + 1) t1 sb ⟨⟨_, ho1, ⟨hex.1, hex.2.1, hex.2.2⟩, rfl⟩, row1, q3, uniq1, keys1, pl1, ld1, by rw [len1, q4]; exact nf⟩ (fun z => absurd z hm) fun _ => perm)
end
end TV
set_option Elab.async false
set_option linter.all false
set_option maxRecDepth 100000
set_option maxHeartbeats 4000000
namespace TV
open PySem PySem.Spec PyProof.Rows L2
theorem Bag.keep {P : Program} {w : World} {h h' : Heap} {a : Addr} {L : List (Addr × List Int)} {es : Array (Int × Value)} {ep : Nat} {t : SetTable} (R : Bag P w h a L es ep t) (ha : ∀ o, h.get? a = some o → h'.get? a = some o) (ht : ∀ p ∈ L, IsT P w h' p.2 p.1) : Bag P w h' a L es ep t := by
  obtain ⟨⟨o, ho, q⟩, b, c, d, _, e, f, g⟩ := R
  exact ⟨⟨o, ha o ho, q⟩, b, c, d, ht, e, f, g⟩
theorem bag_new {P : Program} {w : World} {h : Heap} {a : Addr} (ho : h.get? a = some { cls := .type "set", dict := none, data := .set #[] 0 (.fresh 0 0 (!w.params.followText "set-order")) }) : Bag P w h a [] #[] 0 (.fresh 0 0 (!w.params.followText "set-order")) := by
  refine ⟨⟨_, ho, ⟨rfl, rfl, rfl⟩, rfl⟩, rfl, ⟨List.Pairwise.nil, rfl, rfl, .inl rfl, fun x hx => (nomatch hx), fun i h j hi => (nomatch hi)⟩, List.nodup_nil, fun p hp => (nomatch hp), rfl, ?_, by show 0 * 5 < 7 * 3; decide⟩
  cases e : w.params.followText "set-order" with
  | true => exact .inl rfl
  | false => exact .inr rfl
section
variable {P : Program} {w : World} {A : Around} {E : Value → Shared → Prop}
/-- the loop of set.update, from the i-th item on -/
theorem bag_loop {I : Addr} {fp wr : List Addr} {G : Array GenState → Array GenState → Prop} {n : Nat} {Pv : Nat → Value → Prop} {St : Nat → Shared → Prop} {R : Result → Shared → Prop} (W : WalksS P w A.in1 I fp wr G n Pv St) (S : Addr) (off : S ∉ fp)
    (ks : List (Addr × List Int)) (hn : n = ks.length) (top : ks.length * 5 < 127 * 3) (val : ∀ i v, Pv i v → ∃ p, ks[i]? = some p ∧ v = .ref p.1) (h0 : Heap) (hk : ∀ p ∈ ks, IsT P w h0 p.2 p.1) (hS : h0.get? S = none) (hw : ∀ b ∈ wr, h0.get? b = none) (hu : A.in1.units < cLine)
    (s0 : Shared) (fin : ∀ s' L es ep t, Moved (S :: wr) G s0 s' → Bag P w s'.heap S L es ep t → Got ks n L → (∀ b o, h0.get? b = some o → s'.heap.get? b = some o) → R (.ok (.ret .none)) s') :
    ∀ (m i : Nat) (s : Shared), n - i = m → i ≤ n → St i s → (s0 = s ∨ Moved (S :: wr) G s0 s) → (∀ b o, h0.get? b = some o → s.heap.get? b = some o) → (∃ L es ep t, Bag P w s.heap S L es ep t ∧ Got ks i L) →
      codeAny (model P w) A (.builtin "set.update.loop" ⟨[.ref S, .ref I], []⟩) R s := by
  have Sw : S ∉ wr := fun z => off (W.sub _ z)
  have up : ∀ b ∈ wr, b ∈ S :: wr := fun b hb => List.mem_cons_of_mem _ hb
  have stay : ∀ {s s' : Shared}, Moved wr G s s' → (∀ b o, h0.get? b = some o → s.heap.get? b = some o) → ∀ b o, h0.get? b = some o → s'.heap.get? b = some o := fun hm k b o e =>
    hm.heap b o (fun hb => by rw [hw b hb] at e; cases e) (k b o e)
  have join : ∀ {s0 s s' : Shared}, (s0 = s ∨ Moved (S :: wr) G s0 s) → Moved (S :: wr) G s s' → Moved (S :: wr) G s0 s' := fun a b => by
    rcases a with rfl | a
    · exact b
    · exact Moved.trans W.gtrans a b
  intro m
  induction m with
  | zero =>
    intro i s hm hi hst mv k ⟨L, es, ep, t, B, g⟩
    obtain rfl : i = n := by omega
    refine codeAny_builtin F.entry_set_update_loop ?_
    rw [Around.under_plainId F.plain_set_update_loop _]
    show wpAny _ A.in1 (pyNext (.ref I) >>= _) _ _ s
    refine wpAny_bind (W.done s _ _ hst fun s' hm' => ?_)
    show wpAny _ A.in1 (ret Value.none) _ _ s'
    have k' := stay hm' k
    refine wpAny_pure (fin s' L es ep t (join mv (hm'.mono up)) (B.keep (fun o e => hm'.heap S o Sw e) fun p hp => isT_keep (hk p (List.mem_of_mem_take (g.sub p hp))) k') g k')
  | succ m ih =>
    intro i s hm hi hst mv k ⟨L, es, ep, t, B, g⟩
    have lt : i < n := by omega
    refine codeAny_builtin F.entry_set_update_loop ?_
    rw [Around.under_plainId F.plain_set_update_loop _]
    show wpAny _ A.in1 (pyNext (.ref I) >>= _) _ _ s
    refine wpAny_bind (W.item i s _ _ lt hst fun v s' pv hst' hm' => ?_)
    obtain ⟨p, hp, rfl⟩ := val i v pv
    have k' := stay hm' k
    have B' : Bag P w s'.heap S L es ep t := B.keep (fun o e => hm'.heap S o Sw e) fun q hq => isT_keep (hk q (List.mem_of_mem_take (g.sub q hq))) k'
    have hx : IsT P w s'.heap p.2 p.1 := isT_keep (hk p (List.mem_of_getElem? hp)) k'
    show wpAny _ A.in1 (holding [Value.ref p.1] (setAdd S (.ref p.1)) >>= _) _ _ s'
    refine wpAny_bind (wpAny_holding ?_)
    unfold setAdd
    refine wpAny_holding (wpAny_bind (wpAny_pyHash_tuple hu hx ?_))
    refine Bag.add (s := { s' with toks := s'.toks + (p.2.length + 1) }) B' hx hu (by have := g.len; omega) fun b h' L' es' ep' t' sb B2 c1 c2 => ?_
    have off_S : ∀ b, b ≠ S → h'.get? b = s'.heap.get? b := fun b hb => sb.2 b hb
    refine wpAny_pure ⟨plainId_quiet F.plain_set_update_loop _, ih (i + 1) _ (by omega) lt (W.frame _ s' _ _ hst' (Nat.le_add_right _ _) fun b hb o e => ?_) (.inr (join mv ((hm'.mono up).then_heap (Nat.le_add_right _ _) fun b o hb e => ?_)))
      (fun b o e => (off_S b (fun z => by rw [z, hS] at e; cases e)).trans (k' b o e)) ⟨L', es', ep', t', B2, ?_⟩⟩
    · rw [off_S b fun z => off (by rw [← z]; exact hb)]; exact e
    · rw [off_S b fun z => hb (by rw [z]; exact List.mem_cons_self)]; exact e
    · rcases Classical.em (p.2 ∈ L.map (·.2)) with c | c
      · rw [c1 c]; exact g.same hp c
      · exact g.more hp (c2 c)
end
end TV
set_option Elab.async false
set_option linter.all false
set_option maxRecDepth 100000
set_option maxHeartbeats 6000000
namespace TV
open PySem PySem.Spec PyProof.Rows L2
section
variable {P : Program} {w : World} {A : Around} {E : Value → Shared → Prop} {s : Shared}
/-- a set as it is made -/
abbrev set0 (w : World) : Obj := { cls := .type "set", dict := none, data := .set #[] 0 (.fresh 0 0 (!w.params.followText "set-order")) }
theorem bag_call {l : Addr} {items : Array Value} (ks : List (Addr × List Int)) {Q : Value → Shared → Prop} (hh : A.handled = none) (hl : s.heap.IsList l items) (hit : items.toList = ks.map fun p => Value.ref p.1) (hk : ∀ p ∈ ks, IsT P w s.heap p.2 p.1)
    (top : ks.length * 5 < 127 * 3) (hu : A.units + 3 < cLine)
    (h : ∀ (h' : Heap) (tk : Nat) L es ep t, Bag P w h' s.heap.objs.size L es ep t → Got ks ks.length L → (∀ b o, s.heap.get? b = some o → h'.get? b = some o) → Q (.ref s.heap.objs.size) { s with heap := h', toks := tk }) :
    wpAny (model P w) A (call (.type "set") [.ref l]) Q E s := by
  have hsz : items.size = ks.length := by rw [← Array.length_toList, hit, List.length_map]
  have free : ∀ b, s.heap.objs.size ≤ b → s.heap.get? b = none := fun b hb => by
    cases e : s.heap.get? b with
    | none => rfl
    | some o => exact absurd (Nat.lt_of_lt_of_le (Heap.lt_size e) hb) (Nat.lt_irrefl _)
  have val : ∀ (i : Nat) (v : Value), items[i]? = some v → ∃ p, ks[i]? = some p ∧ v = .ref p.1 := fun i v hv => by
    have e : (ks.map fun p => Value.ref p.1)[i]? = some v := by rw [← hit, Array.getElem?_toList]; exact hv
    rw [List.getElem?_map] at e
    cases ek : ks[i]? with
    | none => rw [ek] at e; cases e
    | some p => rw [ek] at e; exact ⟨p, rfl, (Option.some.inj e).symm⟩
  obtain ⟨c, tl, hmro⟩ := F.called_set.mro
  have made := F.called_set.made
  have sub := F.called_set.sub
  refine wpAny_call (codeAny_of_tree ?_)
  show wpAny _ _ (callAny (.type "set") _) _ _ _
  refine wpAny_pure ⟨Code.quiet_builtin _ (by decide +kernel), codeAny_builtin F.entry_type_call ?_⟩
  rw [Around.under_plain (weight_type_call_type "set" [.ref l] []) rfl]
  have n1 := F.called_set.notType
  have n2 := F.called_set.canCreate
  have n3 := F.typeCall_set_1 (.ref l)
  repeat (any_goals (first | assumption | wp_step))
  refine codeAny_mono (code_set_led1 (.ref l) (E := E) (Q₁ := fun u s1 => u = .ref s.heap.objs.size ∧ s1 = { s with heap := s.heap.push (set0 w) }) ⟨rfl, rfl⟩) fun r s1 hr => ?_
  rcases r with e | fl
  · exact hr
  cases fl with
  | ret u =>
    obtain ⟨rfl, rfl⟩ := hr
    have hS : (s.heap.push (set0 w)).get? s.heap.objs.size = some (set0 w) := Heap.get?_push_size _ rfl
    have hT : Shared.TypeIs { s with heap := s.heap.push (set0 w) } (.ref s.heap.objs.size) "set" := ⟨_, hS, rfl⟩
    have look := F.called_set.init.lookup
    have bind_ := F.called_set.init.bind (.ref s.heap.objs.size)
    repeat (any_goals (first | assumption | wp_step))
    refine codeAny_mono (codeAny_call_builtin (R := wants (fun r s2 => r = .none ∧ ∃ h' tk L es ep t, s2 = { s with heap := h', toks := tk } ∧ Bag P w h' s.heap.objs.size L es ep t ∧ Got ks ks.length L ∧ (∀ b o, s.heap.get? b = some o → h'.get? b = some o)) E)
      F.called_set.init.plain F.entry_set_init (check_set_init_1 hT ?_)) fun r2 s2 hr2 => ?_
    · obtain ⟨⟨ocls, odict, odata, oslots⟩, hol, hc, nl, hd⟩ := hl
      simp only at hc hd
      subst hc hd
      have below : l < s.heap.objs.size := Heap.lt_size hol
      have hol1 := Heap.get?_push_of_some (set0 w) hol
      have sl1 := F.sub_list_set
      have sl2 := F.sub_list_frozenset
      have ne_d : (Value.type "list" == Value.type "dict") = false := by decide
      have isl : (s.heap.push (set0 w)).IsList l items := ⟨_, hol1, rfl, nl, rfl⟩
      have hh3 : A.in1.in1.in1.handled = none := by simp [hh]
      have size1 : (s.heap.push (set0 w)).objs.size = s.heap.objs.size + 1 := Heap.size_push ..
      have l_I : l ≠ (s.heap.push (set0 w)).objs.size := by rw [size1]; exact Nat.ne_of_lt (Nat.lt_succ_of_lt below)
      have S_off : s.heap.objs.size ∉ [(s.heap.push (set0 w)).objs.size, l] := by
        rw [size1]
        intro z
        rcases List.mem_cons.mp z with z | z
        · exact absurd z (Nat.ne_of_lt (Nat.lt_succ_self _))
        · exact absurd (List.mem_singleton.mp z) (Nat.ne_of_gt below)
      unfold Builtin.«set.__init__» noKeywords Builtin.Frozenset.updateFrom
      generalize hPI : pyIter = PI
      wp_walk
      subst hPI
      refine wpAny_pyIter_list isl (wpAny_bind (wpAny_runValue ?_))
      refine bag_loop ((Walks.list hh3 _ l l_I items).toS) s.heap.objs.size S_off ks hsz top val s.heap hk (free _ (Nat.le_refl _)) (fun b hb => free b (by rw [List.mem_singleton.mp hb, size1]; exact Nat.le_succ _)) hu _ ?fin (items.size - 0) 0 _ (by omega) (Nat.zero_le _)
        ⟨⟨_, Heap.get?_push_size _ rfl, rfl, rfl⟩, isl.push _⟩ (.inl rfl) (fun b o e => Heap.get?_push_of_some _ (Heap.get?_push_of_some _ e)) ⟨[], #[], 0, _, bag_new (Heap.get?_push_of_some _ hS), Got.zero ks⟩
      case fin =>
        intro s' L es ep t hm B g k
        obtain ⟨h', g2, d', tk', os'⟩ := s'
        have e1 : g2 = s.gens := hm.gens
        have e2 : d' = s.drawn := hm.drawn
        have e3 : os' = s.os := hm.os
        subst e1 e2 e3
        show wpAny _ _ _ _ _ _
        refine wpAny_pure ?_
        show wpAny _ _ (ret Value.none) _ _ _
        rw [hsz] at g
        exact wpAny_pure ⟨rfl, h', tk', L, es, ep, t, rfl, B, g, k⟩
    · rcases r2 with e | fl2
      · exact hr2
      cases fl2 with
      | ret r =>
        obtain ⟨rfl, h', tk, L, es, ep, t, rfl, B, g, k⟩ := hr2
        repeat (any_goals (first | assumption | wp_step))
        exact h _ _ _ _ _ _ B g k
      | _ => exact hr2.elim
  | _ => exact hr.elim
end
end TV
set_option Elab.async false
set_option linter.all false
set_option maxRecDepth 100000
set_option maxHeartbeats 4000000
namespace TV
open PySem PySem.Spec PyProof.Rows L2
/-- each once -/
def dd : List (List Int) → List (List Int)
  | [] => []
  | k :: r => if k ∈ r then dd r else k :: dd r
theorem mem_dd {x : List Int} : ∀ {r : List (List Int)}, x ∈ dd r ↔ x ∈ r
  | [] => Iff.rfl
  | k :: r => by
    unfold dd
    by_cases h : k ∈ r
    · rw [if_pos h, mem_dd, List.mem_cons]
      exact ⟨.inr, fun z => z.elim (fun e => by rw [e]; exact h) id⟩
    · rw [if_neg h, List.mem_cons, List.mem_cons, mem_dd]
theorem nodup_dd : ∀ {r : List (List Int)}, (dd r).Nodup
  | [] => List.nodup_nil
  | k :: r => by
    unfold dd
    by_cases h : k ∈ r
    · rw [if_pos h]; exact nodup_dd
    · rw [if_neg h]; exact List.nodup_cons.mpr ⟨fun z => h (mem_dd.mp z), nodup_dd⟩
def intsK : List Key → Option (List Int)
  | [] => some []
  | .inl i :: r => (intsK r).map fun is => i :: is
  | .inr _ :: _ => none
theorem intsK_eq : ∀ {k : List Key} {is : List Int}, intsK k = some is → k.map kV = is.map V.int
  | [], _, e => by cases e; rfl
  | .inl i :: r, _, e => by
    have e : (intsK r).map (fun is => i :: is) = _ := e
    cases e2 : intsK r with
    | none => rw [e2] at e; cases e
    | some js => rw [e2] at e; cases e; rw [List.map_cons, List.map_cons, intsK_eq e2]; rfl
  | .inr x :: r, _, e => by cases e
def keysI : List T → Option (List (List Int))
  | [] => some []
  | t :: r => ((keyTT t).bind intsK).bind fun k => (keysI r).map fun ks => k :: ks
section
variable {K : PySem.W.Frag} {F G H : Hp}
theorem rep_ints {t : T} {v : V} {as : List Addr} {is : List Int} (e : (keyTT t).bind intsK = some is) (fg : Same F G) (gh : Same G H) (r : Rep K F G t v as) : ∃ b, v = .ref b ∧ SqT K H b (is.map V.int) := by
  cases e1 : keyTT t with
  | none => rw [e1] at e; cases e
  | some ks =>
    rw [e1] at e
    have e2 : intsK ks = some is := e
    unfold keyTT at e1
    split at e1
    · obtain ⟨b, vs, as', rfl, st, rl, _⟩ := r.node fg
      refine ⟨b, rfl, ?_⟩
      rw [← intsK_eq e2, ← keysL_vals e1 rl]
      exact SqT.of (st.mono gh)
    · cases e1
theorem repL_ints (fg : Same F G) (gh : Same G H) : ∀ {xs : List T} {vs : List V} {as : List Addr} {kss : List (List Int)}, keysI xs = some kss → RepL K F G xs vs as → ∃ ks : List (Addr × List Int), vs = ks.map (fun p => V.ref p.1) ∧ ks.map (·.2) = kss ∧ ∀ p ∈ ks, SqT K H p.1 (p.2.map V.int)
  | [], _, _, _, e, .nil => by cases e; exact ⟨[], rfl, rfl, fun p h => (nomatch h)⟩
  | t :: xs, _, _, _, e, .cons h r => by
    have e : (((keyTT t).bind intsK).bind fun k => (keysI xs).map fun ks => k :: ks) = _ := e
    cases e1 : (keyTT t).bind intsK with
    | none => rw [e1] at e; cases e
    | some is =>
      cases e2 : keysI xs with
      | none => rw [e1, e2] at e; cases e
      | some iss =>
        rw [e1, e2] at e
        cases e
        obtain ⟨b, rfl, q⟩ := rep_ints e1 fg gh h
        obtain ⟨ks, rfl, rfl, qs⟩ := repL_ints fg gh e2 r
        refine ⟨(b, is) :: ks, rfl, rfl, fun p hp => ?_⟩
        rcases List.mem_cons.mp hp with rfl | hp
        · exact q
        · exact qs p hp
end
def tLenSetT (K : PySem.W.Frag) (ta : TE) : TE := fun σ H Q => ta σ H fun x H1 => ∃ (l : Addr) (ks : List (Addr × List Int)), x = V.ref l ∧ SqL K H1 l (ks.map fun p => V.ref p.1) ∧ (∀ p ∈ ks, SqT K H1 p.1 (p.2.map V.int)) ∧ ks.length * 5 < 127 * 3 ∧ Q (.int (dd (ks.map (·.2))).length) H1
section
variable {X : Cx}
theorem pe_lenSetT {a : Expr} {ta : TE} {p p2 q pos : Pos} (hc : X.calm = true) (hu : X.A.units + 64 < cLine) (hg : Gl X "len") (hm : X.mg "len" = none) (hg2 : Gl X "set") (hm2 : X.mg "set" = none) (ha : PE X a ta)
    (na : starEach [a] X.env = (false, eval a X.env) :: starEach [] X.env := by rfl) : PE X (.Call (.Name "len" p) [.Call (.Name "set" p2) [a] [] q] [] pos) (tLenSetT X.K ta) := by
  refine ⟨fun pins s σ H Q I h => ?_⟩
  refine Call_ (ld_blt I hg hm PySem.boot_len (PyProof.Rows.callWith_builtin1 (PyProof.Rows.args_cons ?_ rfl) rfl rfl))
  refine Call_ (ld_blt I hg2 hm2 PyProof.Rows.boot_set (PyProof.Rows.callWith_type1 (PyProof.Rows.args_cons (thn (ha.run pins s σ H _ I h) fun v s1 hh => PyProof.Rows.args_nil ?_) na) na rfl))
  obtain ⟨x, H1, I1, r1, l, ks, rfl, hq, hk, top, q1⟩ := hh
  cases r1
  obtain ⟨its, r, lst, _⟩ := I1.list hq
  refine bag_call (P := X.prog) (w := X.w) ks (I1.ok.hd hc) lst.isList (by simpa using refs_of_vals r) (fun p hp => I1.isT (hk p hp)) top (by omega) fun h' tk L es ep t B g k => ?_
  have I2 : Inv X pins σ H1 { s1 with heap := h', toks := tk } := I1.kept fun b o e => k b o e
  obtain ⟨o, ho, hex, hd⟩ := B.obj
  have sz := rows_size B.row
  have el : L.length = (dd (ks.map (·.2))).length := by
    have pm : (L.map (·.2)).Perm (dd (ks.map (·.2))) := (List.perm_ext_iff_of_nodup B.uniq nodup_dd).mpr fun x => by
      rw [mem_dd]
      refine ⟨fun hx => ?_, fun hx => ?_⟩
      · obtain ⟨p, hp, rfl⟩ := List.mem_map.mp hx
        exact List.mem_map.mpr ⟨p, List.mem_of_mem_take (g.sub p hp), rfl⟩
      · obtain ⟨p, hp, rfl⟩ := List.mem_map.mp hx
        exact g.all p (by rw [List.take_length]; exact hp)
    have := pm.length_eq
    rwa [List.length_map] at this
  have few := B.rm
  have m127 : t.mask ≤ 127 := by rcases B.tb.mok with e | e | e <;> omega
  refine PyProof.Rows.args_nil (call_len_set ho hex hd (Bag.fits (s := { s1 with heap := h', toks := tk }) B) (by rw [sz]; omega) ⟨.int (dd (ks.map (·.2))).length, H1, I2.tok _, ⟨_, by rw [sz, el]⟩, q1⟩)
def gLenSet : T → Option T
  | .nd _ .lst xs => (keysI xs).bind fun ks => if ks.length * 5 < 127 * 3 then some (.int (dd ks).length) else none
  | _ => none
def eLenSet (f : ES) : ES := fun δ => (f δ).bind fun t δ => opt (gLenSet t) δ
variable {W : WX}
theorem de_lenSet {k : Nat} {e : Expr} {f : ES} {p p2 q pos : Pos} (hc : X.calm = true) (hr : Room k X.A) (hg : Gl X "len") (hm : X.mg "len" = none) (hg2 : Gl X "set") (hm2 : X.mg "set" = none) (he : DE X W e f)
    (na : starEach [e] X.env = (false, eval e X.env) :: starEach [] X.env := by rfl) : DE X W (.Call (.Name "len" p) [.Call (.Name "set" p2) [e] [] q] [] pos) (eLenSet f) :=
  (pe_lenSetT hc (by have := hr.un; omega) hg hm hg2 hm2 he na).imp fun σ H Q ⟨B, δ, ts, S, h⟩ => ⟨B, δ, ts, S, h.bind.mono fun t δ1 h1 v H1 S1 n1 => by
    unfold gLenSet at h1
    split at h1
    · rename_i fl xs
      cases e1 : keysI xs with
      | none => rw [e1] at h1; exact h1.elim
      | some kss =>
        rw [e1] at h1
        dsimp only [Option.bind] at h1
        by_cases c : kss.length * 5 < 127 * 3
        · rw [if_pos c] at h1
          obtain ⟨l, vs, rfl, st, ks, ev, e2, hk⟩ : ∃ (l : Addr) (vs : List V), v = .ref l ∧ Stands X.K H1 l .lst vs ∧ ∃ ks : List (Addr × List Int), vs = ks.map (fun p => V.ref p.1) ∧ ks.map (·.2) = kss ∧ ∀ p ∈ ks, SqT X.K H1 p.1 (p.2.map V.int) := S1.see fun F G as fg gh _ r => by
            cases r with
            | cons h r =>
              obtain ⟨b, vs, as', ev, st, rl, _⟩ := h.node fg
              exact ⟨b, vs, ev, st.mono gh, repL_ints fg gh e1 rl⟩
          subst ev e2
          refine ⟨l, ks, rfl, SqL.of st, hk, by rw [← List.length_map (f := fun p : Addr × List Int => p.2)]; exact c, h1 _ _ (S1.drop.pushS rfl) n1⟩
        · rw [if_neg c] at h1; exact h1.elim
    · exact h1.elim⟩
end
end TV
set_option Elab.async false
set_option linter.all false
set_option maxRecDepth 100000
set_option maxHeartbeats 4000000
namespace TV
open PySem PySem.Spec L2
/-- what typed code comes to, within a def -/
inductive O (α : Type) where
  | ok (a : α)
  | exc (x : Xc) (d : Sl)
  | bad
/-- what a def comes to, typed -/
inductive OF (α : Type) where
  | ok (a : α)
  | exc (x : Xc)
  | bad
/-- how a typed block ends -/
inductive Fl (τ σ ρ : Type) where
  | nx (s : τ)
  | br (s : σ)
  | ct (s : σ)
  | rt (r : ρ)
section
variable {α β γ τ τ' σ σ' ρ : Type}
def O.bind (o : O α) (f : α → O β) : O β := match o with
  | .ok a => f a
  | .exc x d => .exc x d
  | .bad => .bad
def bO {β : Type} (o : O α) (f : α → R Sl β) : R Sl β := match o with
  | .ok a => f a
  | .exc x d => .exc x d
  | .bad => .bad
def OF.lift (d : Sl) (o : OF α) : O α := match o with
  | .ok a => .ok a
  | .exc x => .exc x d
  | .bad => .bad
def O.top (m : Bool) (o : O α) : OF α := match o with
  | .ok a => .ok a
  | .exc x _ => if m = true then .bad else .exc x
  | .bad => .bad
def rP (er : ρ → T) (eo : ρ → List T) (o : OF ρ) : R (List T) T := match o with
  | .ok r => .ok (er r) (eo r)
  | .exc x => .exc x []
  | .bad => .bad
def kO (gs : σ → Sl) (er : ρ → T) (gr : ρ → Sl) (o : O (Fl τ σ ρ)) (k : τ → R Sl Flw) : R Sl Flw := match o with
  | .ok (.nx s) => k s
  | .ok (.br s) => .ok .brk (gs s)
  | .ok (.ct s) => .ok .cont (gs s)
  | .ok (.rt r) => .ok (.ret (er r)) (gr r)
  | .exc x d => .exc x d
  | .bad => .bad
def Fl.seq (o : O (Fl τ σ ρ)) (k : τ → O (Fl τ' σ ρ)) : O (Fl τ' σ ρ) := match o with
  | .ok (.nx s) => k s
  | .ok (.br s) => .ok (.br s)
  | .ok (.ct s) => .ok (.ct s)
  | .ok (.rt r) => .ok (.rt r)
  | .exc x d => .exc x d
  | .bad => .bad
def Fl.fin (o : O (Fl τ σ ρ)) (k : τ → O ρ) : O ρ := match o with
  | .ok (.nx s) => k s
  | .ok (.br _) => .bad
  | .ok (.ct _) => .bad
  | .ok (.rt r) => .ok r
  | .exc x d => .exc x d
  | .bad => .bad
/-- a def's end, m: whether it has arguments that it changes -/
def bP (m : Bool) (o : O α) (f : α → R (List T) T) : R (List T) T := match o with
  | .ok a => f a
  | .exc x _ => if m = true then .bad else .exc x []
  | .bad => .bad
def kP (m : Bool) (o : O (Fl τ σ ρ)) (k : τ → R (List T) T) (kr : ρ → R (List T) T) : R (List T) T := match o with
  | .ok (.nx s) => k s
  | .ok (.br _) => .bad
  | .ok (.ct _) => .bad
  | .ok (.rt r) => kr r
  | .exc x _ => if m = true then .bad else .exc x []
  | .bad => .bad
theorem bO_ok {a : α} {f : α → R Sl β} : bO (.ok a) f = f a := rfl
theorem bO_bad {f : α → R Sl β} : bO .bad f = .bad := rfl
theorem bO_exc {x : Xc} {d : Sl} {f : α → R Sl β} : bO (.exc x d) f = .exc x d := rfl
theorem bO_bind {o : O α} {g : α → O β} {f : β → R Sl γ} : bO (o.bind g) f = bO o fun a => bO (g a) f := by cases o <;> rfl
theorem bO_ite {c : Prop} [Decidable c] {a b : O α} {f : α → R Sl β} : bO (if c then a else b) f = if c then bO a f else bO b f := by by_cases h : c <;> simp [h]
theorem bind_bO {o : O α} {f : α → R Sl β} {g : β → Sl → R Sl γ} : (bO o f).bind g = bO o fun a => (f a).bind g := by cases o <;> rfl
theorem bind_ok {a : α} {s : Sl} {g : α → Sl → R Sl γ} : (R.ok a s).bind g = g a s := rfl
theorem bind_exc {x : Xc} {s : Sl} {g : α → Sl → R Sl γ} : (R.exc (α := α) x s).bind g = .exc x s := rfl
theorem bind_bad {g : α → Sl → R Sl γ} : (R.bad (α := α)).bind g = .bad := rfl
theorem bind_ite {c : Prop} [Decidable c] {a b : R Sl α} {g : α → Sl → R Sl γ} : (if c then a else b).bind g = if c then a.bind g else b.bind g := by by_cases h : c <;> simp [h]
theorem obind_ok {a : α} {f : α → O β} : (O.ok a).bind f = f a := rfl
theorem kO_nx {gs : σ → Sl} {er : ρ → T} {gr : ρ → Sl} {s : τ} {k : τ → R Sl Flw} : kO gs er gr (.ok (.nx s)) k = k s := rfl
theorem kO_br {gs : σ → Sl} {er : ρ → T} {gr : ρ → Sl} {s : σ} {k : τ → R Sl Flw} : kO gs er gr (.ok (.br s)) k = .ok .brk (gs s) := rfl
theorem kO_ct {gs : σ → Sl} {er : ρ → T} {gr : ρ → Sl} {s : σ} {k : τ → R Sl Flw} : kO gs er gr (.ok (.ct s)) k = .ok .cont (gs s) := rfl
theorem kO_rt {gs : σ → Sl} {er : ρ → T} {gr : ρ → Sl} {s : ρ} {k : τ → R Sl Flw} : kO gs er gr (.ok (.rt s)) k = .ok (.ret (er s)) (gr s) := rfl
theorem kO_bad {gs : σ → Sl} {er : ρ → T} {gr : ρ → Sl} {k : τ → R Sl Flw} : kO gs er gr .bad k = .bad := rfl
theorem kO_exc {gs : σ → Sl} {er : ρ → T} {gr : ρ → Sl} {x : Xc} {d : Sl} {k : τ → R Sl Flw} : kO gs er gr (.exc x d) k = .exc x d := rfl
theorem kO_bind {gs : σ → Sl} {er : ρ → T} {gr : ρ → Sl} {o : O α} {f : α → O (Fl τ σ ρ)} {k : τ → R Sl Flw} : kO gs er gr (o.bind f) k = bO o fun a => kO gs er gr (f a) k := by cases o <;> rfl
theorem kO_ite {gs : σ → Sl} {er : ρ → T} {gr : ρ → Sl} {c : Prop} [Decidable c] {a b : O (Fl τ σ ρ)} {k : τ → R Sl Flw} : kO gs er gr (if c then a else b) k = if c then kO gs er gr a k else kO gs er gr b k := by by_cases h : c <;> simp [h]
theorem kO_seq {gs : σ → Sl} {er : ρ → T} {gr : ρ → Sl} {o : O (Fl τ σ ρ)} {f : τ → O (Fl τ' σ ρ)} {k : τ' → R Sl Flw} : kO gs er gr (Fl.seq o f) k = kO gs er gr o fun s => kO gs er gr (f s) k := by
  cases o with
  | ok a => cases a <;> rfl
  | exc => rfl
  | bad => rfl
def sqK (r : R Sl Flw) (g2 : SS) : R Sl Flw := r.bind fun fl δ => match fl with
  | .next => g2 δ
  | .ret t => .ok (.ret t) δ
  | .brk => .ok .brk δ
  | .cont => .ok .cont δ
theorem sSeq_eq {g1 g2 : SS} {δ : Sl} : sSeq g1 g2 δ = sqK (g1 δ) g2 := rfl
theorem sqK_next {g2 : SS} {δ : Sl} : sqK (.ok .next δ) g2 = g2 δ := rfl
theorem sqK_ret {g2 : SS} {δ : Sl} {t : T} : sqK (.ok (.ret t) δ) g2 = .ok (.ret t) δ := rfl
theorem sqK_brk {g2 : SS} {δ : Sl} : sqK (.ok .brk δ) g2 = .ok .brk δ := rfl
theorem sqK_cont {g2 : SS} {δ : Sl} : sqK (.ok .cont δ) g2 = .ok .cont δ := rfl
theorem sqK_bad {g2 : SS} : sqK .bad g2 = .bad := rfl
theorem sqK_exc {g2 : SS} {x : Xc} {δ : Sl} : sqK (.exc x δ) g2 = .exc x δ := rfl
theorem sqK_bO {g2 : SS} {o : O α} {f : α → R Sl Flw} : sqK (bO o f) g2 = bO o fun a => sqK (f a) g2 := by cases o <;> rfl
theorem sqK_ite {g2 : SS} {c : Prop} [Decidable c] {a b : R Sl Flw} : sqK (if c then a else b) g2 = if c then sqK a g2 else sqK b g2 := by by_cases h : c <;> simp [h]
theorem sqK_kO {g2 : SS} {gs : σ → Sl} {er : ρ → T} {gr : ρ → Sl} {o : O (Fl τ σ ρ)} {k : τ → R Sl Flw} : sqK (kO gs er gr o k) g2 = kO gs er gr o fun s => sqK (k s) g2 := by
  cases o with
  | ok a => cases a <;> rfl
  | exc => rfl
  | bad => rfl
/-- a ghost step behind, where it goes on -/
def nxK (h : Sl → Sl) (r : R Sl Flw) : R Sl Flw := r.bind fun fl δ => match fl with
  | .next => .ok .next (h δ)
  | .ret t => .ok (.ret t) δ
  | .brk => .ok .brk δ
  | .cont => .ok .cont δ
def postN (h : Sl → Sl) (g : SS) : SS := fun δ => nxK h (g δ)
def rtK (h : Sl → Sl) (r : R Sl Flw) : R Sl Flw := r.bind fun fl δ => match fl with
  | .next => .ok .next δ
  | .ret t => .ok (.ret t) (h δ)
  | .brk => .ok .brk δ
  | .cont => .ok .cont δ
def postR (h : Sl → Sl) (g : SS) : SS := fun δ => rtK h (g δ)
theorem ds_postN {X : Cx} {W : WX} {g : SS} {st : Stmt} {h : Sl → Sl} (gh : Ghost h) (hs : DS X W st g) : DS X W st (postN h g) := (ds_post gh ghost_id ghost_id hs).imp fun D σ H ⟨B, δ, ts, S, n, nt, k⟩ => ⟨B, δ, ts, S, n, nt, k⟩
theorem ds_postR {X : Cx} {W : WX} {g : SS} {st : Stmt} {h : Sl → Sl} (gh : Ghost h) (hs : DS X W st g) : DS X W st (postR h g) := (ds_post ghost_id gh ghost_id hs).imp fun D σ H ⟨B, δ, ts, S, n, nt, k⟩ => ⟨B, δ, ts, S, n, nt, k⟩
theorem nxK_next {h : Sl → Sl} {δ : Sl} : nxK h (.ok .next δ) = .ok .next (h δ) := rfl
theorem nxK_ret {h : Sl → Sl} {δ : Sl} {t : T} : nxK h (.ok (.ret t) δ) = .ok (.ret t) δ := rfl
theorem nxK_brk {h : Sl → Sl} {δ : Sl} : nxK h (.ok .brk δ) = .ok .brk δ := rfl
theorem nxK_cont {h : Sl → Sl} {δ : Sl} : nxK h (.ok .cont δ) = .ok .cont δ := rfl
theorem nxK_bad {h : Sl → Sl} : nxK h .bad = .bad := rfl
theorem nxK_exc {h : Sl → Sl} {x : Xc} {δ : Sl} : nxK h (.exc x δ) = .exc x δ := rfl
theorem nxK_bO {h : Sl → Sl} {o : O α} {f : α → R Sl Flw} : nxK h (bO o f) = bO o fun a => nxK h (f a) := by cases o <;> rfl
theorem nxK_ite {h : Sl → Sl} {c : Prop} [Decidable c] {a b : R Sl Flw} : nxK h (if c then a else b) = if c then nxK h a else nxK h b := by by_cases h : c <;> simp [h]
theorem nxK_kO {h : Sl → Sl} {gs : σ → Sl} {er : ρ → T} {gr : ρ → Sl} {o : O (Fl τ σ ρ)} {k : τ → R Sl Flw} : nxK h (kO gs er gr o k) = kO gs er gr o fun s => nxK h (k s) := by
  cases o with
  | ok a => cases a <;> rfl
  | exc => rfl
  | bad => rfl
theorem rtK_next {h : Sl → Sl} {δ : Sl} : rtK h (.ok .next δ) = .ok .next δ := rfl
theorem rtK_ret {h : Sl → Sl} {δ : Sl} {t : T} : rtK h (.ok (.ret t) δ) = .ok (.ret t) (h δ) := rfl
theorem rtK_bad {h : Sl → Sl} : rtK h .bad = .bad := rfl
theorem rtK_exc {h : Sl → Sl} {x : Xc} {δ : Sl} : rtK h (.exc x δ) = .exc x δ := rfl
theorem rtK_bO {h : Sl → Sl} {o : O α} {f : α → R Sl Flw} : rtK h (bO o f) = bO o fun a => rtK h (f a) := by cases o <;> rfl
theorem rtK_ite {h : Sl → Sl} {c : Prop} [Decidable c] {a b : R Sl Flw} : rtK h (if c then a else b) = if c then rtK h a else rtK h b := by by_cases h : c <;> simp [h]
theorem mkR_next {ms : List Bool} {δ : Sl} : mkR ms (.ok .next δ) = match outsL ms δ with
  | some outs => .ok .non outs
  | none => .bad := rfl
theorem mkR_ret {ms : List Bool} {δ : Sl} {t : T} : mkR ms (.ok (.ret t) δ) = match outsL ms δ with
  | some outs => .ok t outs
  | none => .bad := rfl
theorem mkR_brk {ms : List Bool} {δ : Sl} : mkR ms (.ok .brk δ) = .bad := by unfold mkR; dsimp only; cases outsL ms δ <;> rfl
theorem mkR_cont {ms : List Bool} {δ : Sl} : mkR ms (.ok .cont δ) = .bad := by unfold mkR; dsimp only; cases outsL ms δ <;> rfl
theorem mkR_bad {ms : List Bool} : mkR ms .bad = .bad := rfl
theorem mkR_exc {ms : List Bool} {x : Xc} {δ : Sl} : mkR ms (.exc x δ) = if ms.any id = true then .bad else .exc x [] := rfl
theorem mkR_bO {ms : List Bool} {o : O α} {f : α → R Sl Flw} : mkR ms (bO o f) = bP (ms.any id) o fun a => mkR ms (f a) := by cases o <;> rfl
theorem mkR_ite {ms : List Bool} {c : Prop} [Decidable c] {a b : R Sl Flw} : mkR ms (if c then a else b) = if c then mkR ms a else mkR ms b := by by_cases h : c <;> simp [h]
theorem mkR_kO {ms : List Bool} {gs : σ → Sl} {er : ρ → T} {gr : ρ → Sl} {o : O (Fl τ σ ρ)} {k : τ → R Sl Flw} : mkR ms (kO gs er gr o k) = kP (ms.any id) o (fun s => mkR ms (k s)) (fun r => mkR ms (.ok (.ret (er r)) (gr r))) := by
  cases o with
  | ok a =>
    cases a with
    | nx s => rfl
    | br s => exact mkR_brk
    | ct s => exact mkR_cont
    | rt r => rfl
  | exc => rfl
  | bad => rfl
theorem rP_top {er : ρ → T} {eo : ρ → List T} {m : Bool} {o : O ρ} : rP er eo (o.top m) = bP m o fun r => .ok (er r) (eo r) := by
  cases o with
  | ok a => rfl
  | exc x d => cases m <;> rfl
  | bad => rfl
theorem bP_ok {m : Bool} {a : α} {f : α → R (List T) T} : bP m (.ok a) f = f a := rfl
theorem bP_bad {m : Bool} {f : α → R (List T) T} : bP m .bad f = .bad := rfl
theorem bP_exc {m : Bool} {x : Xc} {d : Sl} {f : α → R (List T) T} : bP m (.exc x d) f = if m = true then .bad else .exc x [] := rfl
theorem bP_bind {m : Bool} {o : O α} {g : α → O β} {f : β → R (List T) T} : bP m (o.bind g) f = bP m o fun a => bP m (g a) f := by cases o <;> rfl
theorem bP_ite {m : Bool} {c : Prop} [Decidable c] {a b : O α} {f : α → R (List T) T} : bP m (if c then a else b) f = if c then bP m a f else bP m b f := by by_cases h : c <;> simp [h]
theorem bP_fin {m : Bool} {o : O (Fl τ σ ρ)} {k : τ → O ρ} {f : ρ → R (List T) T} : bP m (Fl.fin o k) f = kP m o (fun s => bP m (k s) f) f := by
  cases o with
  | ok a => cases a <;> rfl
  | exc => rfl
  | bad => rfl
/-- a call -/
def callK (as : List Ar) (δ : Sl) (r : R (List T) T) : R Sl T := match r with
  | .bad => .bad
  | .ok t outs => match outsTo δ (refsOf as) outs with
    | none => .bad
    | some δ' => if as.any Ar.tn then (if T.noFzL outs then .ok t.dgr δ' else .bad) else .ok t δ'
  | .exc x outs => match outsTo δ (refsOf as) outs with
    | none => .bad
    | some δ' => if as.any Ar.tn then (if T.noFzL outs then .exc x δ' else .bad) else .exc x δ'
theorem callM_eq {ms : List Bool} {m : Fn} {as : List Ar} {δ : Sl} : callM ms m as δ = if masked ms as = true then (match argsT δ as with
  | none => .bad
  | some args => callK as δ (m args)) else .bad := by
  unfold callM callS callK
  rfl
theorem callK_rP {as : List Ar} {δ : Sl} {er : ρ → T} {eo : ρ → List T} {o : OF ρ} (h : refsOf as = []) : callK as δ (rP er eo o) = bO (o.lift δ) fun r => callK as δ (.ok (er r) (eo r)) := by
  cases o with
  | ok a => rfl
  | bad => rfl
  | exc x =>
    unfold callK rP
    simp only [h, outsTo]
    cases as.any Ar.tn <;> rfl
/-- .. of a def that changes an argument: it raises nothing that is told -/
def OF.mut (o : OF α) : O α := match o with
  | .ok a => .ok a
  | .exc _ => .bad
  | .bad => .bad
theorem callK_rPm {as : List Ar} {δ : Sl} {er : ρ → T} {eo : ρ → List T} {o : OF ρ} {i : Nat} {is : List Nat} (h : refsOf as = i :: is) : callK as δ (rP er eo o) = bO o.mut fun r => callK as δ (.ok (er r) (eo r)) := by
  cases o with
  | ok a => rfl
  | bad => rfl
  | exc x =>
    unfold callK rP
    simp only [h]
    cases is <;> rfl
end
section
variable {α β γ τ σ σ' ρ : Type}
def foldO (p : σ → α → O σ) : σ → List α → O σ
  | s, [] => .ok s
  | s, x :: xs => (p s x).bind fun s => foldO p s xs
def forO (p : σ → α → O (Fl σ σ ρ)) : σ → List α → O (Fl σ σ' ρ)
  | s, [] => .ok (.nx s)
  | s, x :: xs => match p s x with
    | .ok (.nx s) => forO p s xs
    | .ok (.ct s) => forO p s xs
    | .ok (.br s) => .ok (.nx s)
    | .ok (.rt r) => .ok (.rt r)
    | .exc x d => .exc x d
    | .bad => .bad
def whileO (q : σ → O Bool) (p : σ → O σ) : Nat → σ → O σ
  | 0, _ => .bad
  | n + 1, s => (q s).bind fun b => if b = true then (p s).bind fun s => whileO q p n s else .ok s
def turnL (gs : GS) (body : SS) (t : T) (δ : Sl) : R Sl Flw := match gs t δ with
  | .ok _ δ => body δ
  | _ => .bad
theorem forL_N {gs : GS} {body : SS} {e : α → T} {G : σ → Sl} {p : σ → α → O σ} (hn : ∀ a, (e a).noLn = true) (h : ∀ s a, turnL gs body (e a) (G s) = bO (p s a) fun s => .ok .next (G s)) : ∀ (xs : List α) (s : σ), forL gs body (xs.map e) (G s) = bO (foldO p s xs) fun s => .ok .next (G s)
  | [], s => rfl
  | x :: xs, s => by
    have hx := h s x
    unfold turnL at hx
    rw [List.map_cons, forL]
    simp only [hn, if_true]
    cases hg : gs (e x) (G s) with
    | ok u d =>
      rw [hg] at hx
      dsimp only at hx ⊢
      rw [hx, foldO, bO_bind, bind_bO]
      congr 1
      funext s'
      exact forL_N hn h xs s'
    | exc y d =>
      rw [hg] at hx; dsimp only at hx ⊢
      rw [foldO]
      cases hp : p s x with
      | ok s' => rw [hp] at hx; cases hx
      | exc y' d' => rw [hp] at hx; cases hx
      | bad => rfl
    | bad =>
      rw [hg] at hx; dsimp only at hx ⊢
      rw [foldO]
      cases hp : p s x with
      | ok s' => rw [hp] at hx; cases hx
      | exc y' d' => rw [hp] at hx; cases hx
      | bad => rfl
theorem forL_M {gs : GS} {body : SS} {e : α → T} {G : σ → Sl} {er : ρ → T} {gr : ρ → Sl} {p : σ → α → O (Fl σ σ ρ)} (hn : ∀ a, (e a).noLn = true) (h : ∀ s a, turnL gs body (e a) (G s) = kO G er gr (p s a) fun s => .ok .next (G s)) (gs' : σ' → Sl) : ∀ (xs : List α) (s : σ), forL gs body (xs.map e) (G s) = kO gs' er gr (forO p s xs) fun s => .ok .next (G s)
  | [], s => rfl
  | x :: xs, s => by
    have hx := h s x
    unfold turnL at hx
    rw [List.map_cons, forL]
    simp only [hn, if_true]
    have bad : ∀ r : R Sl Flw, r = .bad → r = kO G er gr (p s x) (fun s => .ok .next (G s)) → R.bad = kO gs' er gr (forO p s (x :: xs)) fun s => .ok .next (G s) := fun r e1 e2 => by
      rw [e1] at e2
      rw [forO]
      cases hp : p s x with
      | ok f => rw [hp] at e2; cases f <;> cases e2
      | exc y' d' => rw [hp] at e2; cases e2
      | bad => rfl
    cases hg : gs (e x) (G s) with
    | ok u d =>
      rw [hg] at hx
      dsimp only at hx ⊢
      rw [hx, forO]
      cases hp : p s x with
      | ok f =>
        cases f with
        | nx s' => exact forL_M hn h gs' xs s'
        | ct s' => exact forL_M hn h gs' xs s'
        | br s' => rfl
        | rt r => rfl
      | exc y' d' => rfl
      | bad => rfl
    | exc y d => rw [hg] at hx; exact bad _ rfl hx
    | bad => rw [hg] at hx; exact bad _ rfl hx
theorem whileL_N {c : Sl → R Sl Bool} {body : SS} {G : σ → Sl} {q : σ → O Bool} {p : σ → O σ} (hq : ∀ s, c (G s) = bO (q s) fun b => .ok b (G s)) (h : ∀ s, body (G s) = bO (p s) fun s => .ok .next (G s)) : ∀ (n : Nat) (s : σ), whileL c body n (G s) = bO (whileO q p n s) fun s => .ok .next (G s)
  | 0, s => rfl
  | n + 1, s => by
    rw [whileL]; dsimp only; rw [hq, whileO, bO_bind, bind_bO]
    congr 1
    funext b
    rw [bind_ok, bO_ite]
    cases b with
    | false => rfl
    | true =>
      simp only [if_true]
      rw [h, bind_bO, bO_bind]
      congr 1
      funext s'
      exact whileL_N hq h n s'
def mapO (f : α → O β) : List α → O (List β)
  | [] => .ok []
  | x :: xs => match f x with
    | .ok y => (match mapO f xs with
      | .ok ys => .ok (y :: ys)
      | _ => .bad)
    | _ => .bad
def filO (q : α → O Bool) (f : α → O β) : List α → O (List β)
  | [] => .ok []
  | x :: xs => match q x with
    | .ok b => if b = true then (match f x with
      | .ok y => (match filO q f xs with
        | .ok ys => .ok (y :: ys)
        | _ => .bad)
      | _ => .bad) else filO q f xs
    | _ => .bad
def lcR (e : β → T) (δ : Sl) (o : O (List β)) : R Sl (List T) := match o with
  | .ok ys => .ok (ys.map e) δ
  | _ => .bad
def szG (ys : List β) : O (List β) := if ys.length ≤ sizeLine then .ok ys else .bad
theorem lcL_map' {gs : GS} {fe : ES} {vs : List Nat} {e : α → T} {e' : β → T} {δ : Sl} {G1 : α → Sl} {G2 : α → β → Sl} {f : α → O β} (h1 : ∀ a, gs (e a) δ = .ok () (G1 a)) (h2 : ∀ a, fe (G1 a) = bO (f a) fun b => .ok (e' b) (G2 a b)) (h3 : ∀ a b, blank vs (G2 a b) = some δ) : ∀ xs : List α, lcL gs tOk fe vs (xs.map e) δ = lcR e' δ (mapO f xs)
  | [] => rfl
  | x :: xs => by
    have ih := lcL_map' h1 h2 h3 xs
    rw [List.map_cons]
    unfold lcL
    simp only [h1, tOk, if_true, h2, mapO]
    cases hf : f x with
    | ok y =>
      simp only [bO_ok, turnE, h3, ih]
      cases mapO f xs with
      | ok ys => simp [lcR]
      | exc y d => rfl
      | bad => rfl
    | exc y d => rfl
    | bad => rfl
theorem lcL_fil {gs : GS} {ft : Sl → R Sl Bool} {fe : ES} {vs : List Nat} {e : α → T} {e' : β → T} {δ : Sl} {G1 : α → Sl} {G2 : α → β → Sl} {q : α → O Bool} {f : α → O β} (h1 : ∀ a, gs (e a) δ = .ok () (G1 a)) (hq : ∀ a, ft (G1 a) = bO (q a) fun b => .ok b (G1 a)) (h2 : ∀ a, fe (G1 a) = bO (f a) fun b => .ok (e' b) (G2 a b)) (h0 : ∀ a, blank vs (G1 a) = some δ) (h3 : ∀ a b, blank vs (G2 a b) = some δ) : ∀ xs : List α, lcL gs ft fe vs (xs.map e) δ = lcR e' δ (filO q f xs)
  | [] => rfl
  | x :: xs => by
    have ih := lcL_fil h1 hq h2 h0 h3 xs
    rw [List.map_cons]
    unfold lcL
    simp only [h1, hq, filO]
    cases hb : q x with
    | ok b =>
      simp only [bO_ok]
      cases b with
      | true =>
        simp only [if_true, h2]
        cases hf : f x with
        | ok y =>
          simp only [bO_ok, turnE, h3, ih]
          cases filO q f xs with
          | ok ys => simp [lcR]
          | exc y d => rfl
          | bad => rfl
        | exc y d => rfl
        | bad => rfl
      | false =>
        simp only [Bool.false_eq_true, if_false, turnE, h0, ih]
        cases filO q f xs with
        | ok ys => simp [lcR]
        | exc y d => rfl
        | bad => rfl
    | exc y d => rfl
    | bad => rfl
theorem endLc_lcR {δ0 δ : Sl} {kp : List (Nat × T)} {e : β → T} {o : O (List β)} : endLc δ0 kp (lcR e δ o) = bO (match o with
  | .ok ys => szG ys
  | _ => .bad) fun ys => if (!δ0.all Sl1.noLn || δ.all Sl1.noLn) = true then (match backL kp δ with
    | some δ => .ok (.nd .ow .lst (ys.map e)) δ
    | none => .bad) else .bad := by
  cases o with
  | ok ys =>
    unfold endLc lcR szG
    dsimp only
    rw [List.length_map]
    by_cases h1 : ys.length ≤ sizeLine
    · by_cases h2 : (!δ0.all Sl1.noLn || δ.all Sl1.noLn) = true
      · rw [if_pos h1, bO_ok, if_pos h2, if_pos ⟨h1, h2⟩]
        try rfl
      · rw [if_pos h1, bO_ok, if_neg h2, if_neg fun z => h2 z.2]
    · rw [if_neg h1, if_neg fun z => h1 z.1]; rfl
  | exc => rfl
  | bad => rfl
end
end TV
set_option Elab.async false
set_option linter.all false
set_option maxRecDepth 100000
set_option maxHeartbeats 4000000
namespace TV
open PySem PySem.Spec L2
section
variable {α β γ ε α' : Type}
def eL (f : Fg) (k : Kd) (e : α → T) (xs : List α) : T := .nd f k (xs.map e)
def eP2 (f : Fg) (e1 : α → T) (e2 : β → T) (p : α × β) : T := .nd f .tup [e1 p.1, e2 p.2]
def eP3 (f : Fg) (e1 : α → T) (e2 : β → T) (e3 : γ → T) (p : α × β × γ) : T := .nd f .tup [e1 p.1, e2 p.2.1, e3 p.2.2]
def eP4 (f : Fg) (e1 : α → T) (e2 : β → T) (e3 : γ → T) (e4 : ε → T) (p : α × β × γ × ε) : T := .nd f .tup [e1 p.1, e2 p.2.1, e3 p.2.2.1, e4 p.2.2.2]
def eO (e : α → T) : Option α → T
  | none => .non
  | some a => e a
class ScE (e : α → T) : Prop where h : ∀ a, (e a).sc = true
class NscE (e : α → T) : Prop where h : ∀ a, (e a).sc = false
instance : ScE T.int := ⟨fun _ => rfl⟩
instance : ScE T.str := ⟨fun _ => rfl⟩
instance : NscE T.bl := ⟨fun _ => rfl⟩
instance {k : Kd} {f : Fg} {e : α → T} : NscE (eL f k e) := ⟨fun _ => rfl⟩
instance {f : Fg} {e1 : α → T} {e2 : β → T} : NscE (eP2 f e1 e2) := ⟨fun _ => rfl⟩
instance {f : Fg} {e1 : α → T} {e2 : β → T} {e3 : γ → T} : NscE (eP3 f e1 e2 e3) := ⟨fun _ => rfl⟩
instance {f : Fg} {e1 : α → T} {e2 : β → T} {e3 : γ → T} {e4 : ε → T} : NscE (eP4 f e1 e2 e3 e4) := ⟨fun _ => rfl⟩
def ofF : Fg → Bool
  | .fz => true
  | _ => false
class TupF2 (e1 : α → T) (e2 : β → T) (f : outParam Fg) : Prop where h : ∀ a b, scTup .tup [e1 a, e2 b] = ofF f ∧ f ≠ .ln
class TupF3 (e1 : α → T) (e2 : β → T) (e3 : γ → T) (f : outParam Fg) : Prop where h : ∀ a b c, scTup .tup [e1 a, e2 b, e3 c] = ofF f ∧ f ≠ .ln
class TupF4 (e1 : α → T) (e2 : β → T) (e3 : γ → T) (e4 : ε → T) (f : outParam Fg) : Prop where h : ∀ a b c d, scTup .tup [e1 a, e2 b, e3 c, e4 d] = ofF f ∧ f ≠ .ln
instance {e1 : α → T} {e2 : β → T} [h1 : ScE e1] [h2 : ScE e2] : TupF2 e1 e2 .fz := ⟨fun a b => by simp [scTup, h1.h, h2.h, ofF]⟩
instance {e1 : α → T} {e2 : β → T} [h1 : ScE e1] [h2 : NscE e2] : TupF2 e1 e2 .ow := ⟨fun a b => by simp [scTup, h1.h, h2.h, ofF]⟩
instance {e1 : α → T} {e2 : β → T} [h1 : NscE e1] : TupF2 e1 e2 .ow := ⟨fun a b => by simp [scTup, h1.h, ofF]⟩
instance {e1 : α → T} {e2 : β → T} {e3 : γ → T} [h1 : ScE e1] [h2 : ScE e2] [h3 : ScE e3] : TupF3 e1 e2 e3 .fz := ⟨fun a b c => by simp [scTup, h1.h, h2.h, h3.h, ofF]⟩
instance {e1 : α → T} {e2 : β → T} {e3 : γ → T} [h1 : ScE e1] [h2 : ScE e2] [h3 : NscE e3] : TupF3 e1 e2 e3 .ow := ⟨fun a b c => by simp [scTup, h1.h, h2.h, h3.h, ofF]⟩
instance {e1 : α → T} {e2 : β → T} {e3 : γ → T} [h1 : ScE e1] [h2 : NscE e2] : TupF3 e1 e2 e3 .ow := ⟨fun a b c => by simp [scTup, h1.h, h2.h, ofF]⟩
instance {e1 : α → T} {e2 : β → T} {e3 : γ → T} [h1 : NscE e1] : TupF3 e1 e2 e3 .ow := ⟨fun a b c => by simp [scTup, h1.h, ofF]⟩
instance {e1 : α → T} {e2 : β → T} {e3 : γ → T} {e4 : ε → T} [h1 : ScE e1] [h2 : ScE e2] [h3 : ScE e3] [h4 : ScE e4] : TupF4 e1 e2 e3 e4 .fz := ⟨fun a b c d => by simp [scTup, h1.h, h2.h, h3.h, h4.h, ofF]⟩
instance {e1 : α → T} {e2 : β → T} {e3 : γ → T} {e4 : ε → T} [h1 : ScE e1] [h2 : ScE e2] [h3 : ScE e3] [h4 : NscE e4] : TupF4 e1 e2 e3 e4 .ow := ⟨fun a b c d => by simp [scTup, h1.h, h2.h, h3.h, h4.h, ofF]⟩
instance {e1 : α → T} {e2 : β → T} {e3 : γ → T} {e4 : ε → T} [h1 : ScE e1] [h2 : ScE e2] [h3 : NscE e3] : TupF4 e1 e2 e3 e4 .ow := ⟨fun a b c d => by simp [scTup, h1.h, h2.h, h3.h, ofF]⟩
instance {e1 : α → T} {e2 : β → T} {e3 : γ → T} {e4 : ε → T} [h1 : ScE e1] [h2 : NscE e2] : TupF4 e1 e2 e3 e4 .ow := ⟨fun a b c d => by simp [scTup, h1.h, h2.h, ofF]⟩
instance {e1 : α → T} {e2 : β → T} {e3 : γ → T} {e4 : ε → T} [h1 : NscE e1] : TupF4 e1 e2 e3 e4 .ow := ⟨fun a b c d => by simp [scTup, h1.h, ofF]⟩
theorem mkN_of {xs : List T} {f : Fg} (h : scTup .tup xs = ofF f) (n : f ≠ .ln) : mkN .tup xs = .nd f .tup xs := by
  unfold mkN; rw [h]; cases f <;> first | rfl | exact absurd rfl n
theorem mkN_p2 {e1 : α → T} {e2 : β → T} {f : Fg} [h : TupF2 e1 e2 f] {a : α} {b : β} : mkN .tup [e1 a, e2 b] = eP2 f e1 e2 (a, b) := mkN_of (h.h a b).1 (h.h a b).2
theorem TupF2.scT {e1 : α → T} {e2 : β → T} (h : TupF2 e1 e2 .fz) {a : α} {b : β} : scTup .tup [e1 a, e2 b] = true := (h.h a b).1
theorem TupF2.scF {e1 : α → T} {e2 : β → T} (h : TupF2 e1 e2 .ow) {a : α} {b : β} : scTup .tup [e1 a, e2 b] = false := (h.h a b).1
theorem TupF3.scT {e1 : α → T} {e2 : β → T} {e3 : γ → T} (h : TupF3 e1 e2 e3 .fz) {a : α} {b : β} {c : γ} : scTup .tup [e1 a, e2 b, e3 c] = true := (h.h a b c).1
theorem TupF3.scF {e1 : α → T} {e2 : β → T} {e3 : γ → T} (h : TupF3 e1 e2 e3 .ow) {a : α} {b : β} {c : γ} : scTup .tup [e1 a, e2 b, e3 c] = false := (h.h a b c).1
theorem TupF4.scT {e1 : α → T} {e2 : β → T} {e3 : γ → T} {e4 : ε → T} (h : TupF4 e1 e2 e3 e4 .fz) {a : α} {b : β} {c : γ} {d : ε} : scTup .tup [e1 a, e2 b, e3 c, e4 d] = true := (h.h a b c d).1
class NoLnE (e : α → T) : Prop where h : ∀ a, (e a).noLn = true
class FrzE (e : α → T) (e' : outParam (α → T)) : Prop where h : ∀ a, (e a).frz = e' a
class LoanE (e : α → T) (e' : outParam (α → T)) : Prop where h : ∀ a, (e a).loan = e' a
class DgrE (e : α → T) (e' : outParam (α → T)) : Prop where h : ∀ a, (e a).dgr = e' a
class NoFzE (e : α → T) : Prop where h : ∀ a, (e a).noFz = true
class OkDE (n : Nat) (e : α → T) : Prop where h : ∀ a, (e a).okD n = true
class EqvE [DecidableEq α] (e e' : α → T) : Prop where h : ∀ a b, (e a).eqv (e' b) = decide (a = b)
instance : NoLnE T.int := ⟨fun _ => rfl⟩
instance : NoLnE T.bl := ⟨fun _ => rfl⟩
instance : NoLnE T.str := ⟨fun _ => rfl⟩
instance {k : Kd} {e : α → T} : NoLnE (eL .fz k e) := ⟨fun _ => rfl⟩
theorem noLnL_map {e : α → T} [h : NoLnE e] : ∀ xs : List α, T.noLnL (xs.map e) = true
  | [] => rfl
  | x :: xs => by rw [List.map_cons, T.noLnL, h.h, noLnL_map xs]; rfl
instance {k : Kd} {e : α → T} [NoLnE e] : NoLnE (eL .ow k e) := ⟨fun xs => by unfold eL; rw [T.noLn]; exact noLnL_map xs⟩
instance {e1 : α → T} {e2 : β → T} : NoLnE (eP2 .fz e1 e2) := ⟨fun _ => rfl⟩
instance {e1 : α → T} {e2 : β → T} {e3 : γ → T} : NoLnE (eP3 .fz e1 e2 e3) := ⟨fun _ => rfl⟩
instance {e1 : α → T} {e2 : β → T} {e3 : γ → T} {e4 : ε → T} : NoLnE (eP4 .fz e1 e2 e3 e4) := ⟨fun _ => rfl⟩
instance {e1 : α → T} {e2 : β → T} [h1 : NoLnE e1] [h2 : NoLnE e2] : NoLnE (eP2 .ow e1 e2) := ⟨fun _ => by simp [eP2, T.noLn, T.noLnL, h1.h, h2.h]⟩
instance {e1 : α → T} {e2 : β → T} {e3 : γ → T} [h1 : NoLnE e1] [h2 : NoLnE e2] [h3 : NoLnE e3] : NoLnE (eP3 .ow e1 e2 e3) := ⟨fun _ => by simp [eP3, T.noLn, T.noLnL, h1.h, h2.h, h3.h]⟩
instance {e1 : α → T} {e2 : β → T} {e3 : γ → T} {e4 : ε → T} [h1 : NoLnE e1] [h2 : NoLnE e2] [h3 : NoLnE e3] [h4 : NoLnE e4] : NoLnE (eP4 .ow e1 e2 e3 e4) := ⟨fun _ => by simp [eP4, T.noLn, T.noLnL, h1.h, h2.h, h3.h, h4.h]⟩
instance {e : α → T} [h : NoLnE e] : NoLnE (eO e) := ⟨fun o => by cases o <;> first | rfl | exact h.h _⟩
instance : FrzE T.int T.int := ⟨fun _ => rfl⟩
instance : FrzE T.bl T.bl := ⟨fun _ => rfl⟩
instance : FrzE T.str T.str := ⟨fun _ => rfl⟩
theorem frzL_map {e e' : α → T} [h : FrzE e e'] : ∀ xs : List α, T.frzL (xs.map e) = xs.map e'
  | [] => rfl
  | x :: xs => by rw [List.map_cons, T.frzL, h.h, frzL_map xs]; rfl
instance {k : Kd} {e : α → T} : FrzE (eL .fz k e) (eL .fz k e) := ⟨fun _ => rfl⟩
instance {k : Kd} {e e' : α → T} [FrzE e e'] : FrzE (eL .ow k e) (eL .fz k e') := ⟨fun xs => by unfold eL; rw [T.frz, frzL_map]⟩
instance {k : Kd} {e e' : α → T} [FrzE e e'] : FrzE (eL .ln k e) (eL .fz k e') := ⟨fun xs => by unfold eL; rw [T.frz, frzL_map]⟩
instance {e1 : α → T} {e2 : β → T} : FrzE (eP2 .fz e1 e2) (eP2 .fz e1 e2) := ⟨fun _ => rfl⟩
instance {e1 : α → T} {e2 : β → T} {e3 : γ → T} : FrzE (eP3 .fz e1 e2 e3) (eP3 .fz e1 e2 e3) := ⟨fun _ => rfl⟩
instance {e1 : α → T} {e2 : β → T} {e3 : γ → T} {e4 : ε → T} : FrzE (eP4 .fz e1 e2 e3 e4) (eP4 .fz e1 e2 e3 e4) := ⟨fun _ => rfl⟩
instance {e1 e1' : α → T} {e2 e2' : β → T} [h1 : FrzE e1 e1'] [h2 : FrzE e2 e2'] : FrzE (eP2 .ow e1 e2) (eP2 .fz e1' e2') := ⟨fun _ => by simp [eP2, T.frz, T.frzL, h1.h, h2.h]⟩
instance {e1 e1' : α → T} {e2 e2' : β → T} [h1 : FrzE e1 e1'] [h2 : FrzE e2 e2'] : FrzE (eP2 .ln e1 e2) (eP2 .fz e1' e2') := ⟨fun _ => by simp [eP2, T.frz, T.frzL, h1.h, h2.h]⟩
instance {e1 e1' : α → T} {e2 e2' : β → T} {e3 e3' : γ → T} [h1 : FrzE e1 e1'] [h2 : FrzE e2 e2'] [h3 : FrzE e3 e3'] : FrzE (eP3 .ow e1 e2 e3) (eP3 .fz e1' e2' e3') := ⟨fun _ => by simp [eP3, T.frz, T.frzL, h1.h, h2.h, h3.h]⟩
instance {e1 e1' : α → T} {e2 e2' : β → T} {e3 e3' : γ → T} {e4 e4' : ε → T} [h1 : FrzE e1 e1'] [h2 : FrzE e2 e2'] [h3 : FrzE e3 e3'] [h4 : FrzE e4 e4'] : FrzE (eP4 .ow e1 e2 e3 e4) (eP4 .fz e1' e2' e3' e4') := ⟨fun _ => by simp [eP4, T.frz, T.frzL, h1.h, h2.h, h3.h, h4.h]⟩
instance {e e' : α → T} [h : FrzE e e'] : FrzE (eO e) (eO e') := ⟨fun o => by cases o <;> first | rfl | exact h.h _⟩
instance : LoanE T.int T.int := ⟨fun _ => rfl⟩
instance : LoanE T.bl T.bl := ⟨fun _ => rfl⟩
instance : LoanE T.str T.str := ⟨fun _ => rfl⟩
theorem loanL_map {e e' : α → T} [h : LoanE e e'] : ∀ xs : List α, T.loanL (xs.map e) = xs.map e'
  | [] => rfl
  | x :: xs => by rw [List.map_cons, T.loanL, h.h, loanL_map xs]; rfl
instance {k : Kd} {e : α → T} : LoanE (eL .fz k e) (eL .fz k e) := ⟨fun _ => rfl⟩
instance {k : Kd} {e : α → T} : LoanE (eL .ln k e) (eL .ln k e) := ⟨fun _ => rfl⟩
instance {k : Kd} {e e' : α → T} [LoanE e e'] : LoanE (eL .ow k e) (eL .ln k e') := ⟨fun xs => by unfold eL; rw [T.loan, loanL_map]⟩
instance {e1 : α → T} {e2 : β → T} : LoanE (eP2 .fz e1 e2) (eP2 .fz e1 e2) := ⟨fun _ => rfl⟩
instance {e1 : α → T} {e2 : β → T} {e3 : γ → T} : LoanE (eP3 .fz e1 e2 e3) (eP3 .fz e1 e2 e3) := ⟨fun _ => rfl⟩
instance {e1 : α → T} {e2 : β → T} {e3 : γ → T} {e4 : ε → T} : LoanE (eP4 .fz e1 e2 e3 e4) (eP4 .fz e1 e2 e3 e4) := ⟨fun _ => rfl⟩
instance {e1 e1' : α → T} {e2 e2' : β → T} [h1 : LoanE e1 e1'] [h2 : LoanE e2 e2'] : LoanE (eP2 .ow e1 e2) (eP2 .ln e1' e2') := ⟨fun _ => by simp [eP2, T.loan, T.loanL, h1.h, h2.h]⟩
instance {e1 e1' : α → T} {e2 e2' : β → T} {e3 e3' : γ → T} [h1 : LoanE e1 e1'] [h2 : LoanE e2 e2'] [h3 : LoanE e3 e3'] : LoanE (eP3 .ow e1 e2 e3) (eP3 .ln e1' e2' e3') := ⟨fun _ => by simp [eP3, T.loan, T.loanL, h1.h, h2.h, h3.h]⟩
instance {e e' : α → T} [h : LoanE e e'] : LoanE (eO e) (eO e') := ⟨fun o => by cases o <;> first | rfl | exact h.h _⟩
instance : DgrE T.int T.int := ⟨fun _ => rfl⟩
instance : DgrE T.bl T.bl := ⟨fun _ => rfl⟩
instance : DgrE T.str T.str := ⟨fun _ => rfl⟩
theorem dgrL_map {e e' : α → T} [h : DgrE e e'] : ∀ xs : List α, T.dgrL (xs.map e) = xs.map e'
  | [] => rfl
  | x :: xs => by rw [List.map_cons, T.dgrL, h.h, dgrL_map xs]; rfl
instance {e e' : α → T} [DgrE e e'] : DgrE (eL .fz .lst e) (eL .ln .lst e') := ⟨fun xs => by unfold eL; rw [T.dgr, dgrL_map]; rfl⟩
instance {e e' : α → T} [DgrE e e'] : DgrE (eL .fz .lsg e) (eL .ln .lsg e') := ⟨fun xs => by unfold eL; rw [T.dgr, dgrL_map]; rfl⟩
instance {e e' : α → T} [DgrE e e'] : DgrE (eL .fz .tpg e) (eL .ln .tpg e') := ⟨fun xs => by unfold eL; rw [T.dgr, dgrL_map]; rfl⟩
instance {k : Kd} {e e' : α → T} [DgrE e e'] : DgrE (eL .ow k e) (eL .ow k e') := ⟨fun xs => by unfold eL; rw [T.dgr, dgrL_map]⟩
instance {e1 e1' : α → T} {e2 e2' : β → T} [h1 : DgrE e1 e1'] [h2 : DgrE e2 e2'] : DgrE (eP2 .ow e1 e2) (eP2 .ow e1' e2') := ⟨fun _ => by simp [eP2, T.dgr, T.dgrL, h1.h, h2.h]⟩
instance {e1 e1' : α → T} {e2 e2' : β → T} {e3 e3' : γ → T} [h1 : DgrE e1 e1'] [h2 : DgrE e2 e2'] [h3 : DgrE e3 e3'] : DgrE (eP3 .ow e1 e2 e3) (eP3 .ow e1' e2' e3') := ⟨fun _ => by simp [eP3, T.dgr, T.dgrL, h1.h, h2.h, h3.h]⟩
instance {e e' : α → T} [h : DgrE e e'] : DgrE (eO e) (eO e') := ⟨fun o => by cases o <;> first | rfl | exact h.h _⟩
instance : NoFzE T.int := ⟨fun _ => rfl⟩
instance : NoFzE T.bl := ⟨fun _ => rfl⟩
instance : NoFzE T.str := ⟨fun _ => rfl⟩
theorem noFzL_map {e : α → T} [h : NoFzE e] : ∀ xs : List α, T.noFzL (xs.map e) = true
  | [] => rfl
  | x :: xs => by rw [List.map_cons, T.noFzL, h.h, noFzL_map xs]; rfl
instance {k : Kd} {e : α → T} [NoFzE e] : NoFzE (eL .ow k e) := ⟨fun xs => by unfold eL; rw [T.noFz]; exact noFzL_map xs⟩
instance {e1 : α → T} {e2 : β → T} [h1 : NoFzE e1] [h2 : NoFzE e2] : NoFzE (eP2 .ow e1 e2) := ⟨fun _ => by simp [eP2, T.noFz, T.noFzL, h1.h, h2.h]⟩
instance {n : Nat} : OkDE n T.int := ⟨fun _ => by cases n <;> rfl⟩
instance {n : Nat} : OkDE n T.bl := ⟨fun _ => by cases n <;> rfl⟩
theorem okDL_map {n : Nat} {e : α → T} [h : OkDE n e] : ∀ xs : List α, T.okDL n (xs.map e) = true
  | [] => by cases n <;> rfl
  | x :: xs => by rw [List.map_cons, T.okDL, h.h, okDL_map xs]; rfl
instance {n : Nat} {f : Fg} {e : α → T} [OkDE n e] : OkDE (n + 1) (eL f .lst e) := ⟨fun xs => by unfold eL; rw [T.okD]; exact okDL_map xs⟩
instance {n : Nat} {f : Fg} {e1 : α → T} {e2 : β → T} [h1 : OkDE n e1] [h2 : OkDE n e2] : OkDE (n + 1) (eP2 f e1 e2) := ⟨fun _ => by simp [eP2, T.okD, T.okDL, h1.h, h2.h]⟩
instance {n : Nat} {f : Fg} {e1 : α → T} {e2 : β → T} {e3 : γ → T} [h1 : OkDE n e1] [h2 : OkDE n e2] [h3 : OkDE n e3] : OkDE (n + 1) (eP3 f e1 e2 e3) := ⟨fun _ => by simp [eP3, T.okD, T.okDL, h1.h, h2.h, h3.h]⟩
instance {n : Nat} {f : Fg} {e1 : α → T} {e2 : β → T} {e3 : γ → T} {e4 : ε → T} [h1 : OkDE n e1] [h2 : OkDE n e2] [h3 : OkDE n e3] [h4 : OkDE n e4] : OkDE (n + 1) (eP4 f e1 e2 e3 e4) := ⟨fun _ => by simp [eP4, T.okD, T.okDL, h1.h, h2.h, h3.h, h4.h]⟩
instance {n : Nat} {e : α → T} [h : OkDE n e] : OkDE n (eO e) := ⟨fun o => by cases o <;> first | (cases n <;> rfl) | exact h.h _⟩
instance : EqvE T.int T.int := ⟨fun a b => by simp only [T.eqv]; by_cases h : a = b <;> simp [h]⟩
instance : EqvE T.bl T.bl := ⟨fun a b => by cases a <;> cases b <;> simp [T.eqv]⟩
theorem eqvL_map [DecidableEq α] {e e' : α → T} [h : EqvE e e'] : ∀ xs ys : List α, T.eqvL (xs.map e) (ys.map e') = decide (xs = ys)
  | [], [] => by simp [T.eqvL]
  | [], _ :: _ => by simp [T.eqvL]
  | _ :: _, [] => by simp [T.eqvL]
  | x :: xs, y :: ys => by
    simp only [List.map_cons, T.eqvL, h.h, eqvL_map xs ys]
    by_cases h1 : x = y <;> by_cases h2 : xs = ys <;> simp [h1, h2]
instance [DecidableEq α] {f f' : Fg} {e e' : α → T} [EqvE e e'] : EqvE (eL f .lst e) (eL f' .lst e') := ⟨fun a b => by unfold eL; simp only [T.eqv]; exact eqvL_map a b⟩
instance [DecidableEq α] [DecidableEq β] {f f' : Fg} {e1 e1' : α → T} {e2 e2' : β → T} [h1 : EqvE e1 e1'] [h2 : EqvE e2 e2'] : EqvE (eP2 f e1 e2) (eP2 f' e1' e2') := ⟨fun a b => by
  obtain ⟨a1, a2⟩ := a; obtain ⟨b1, b2⟩ := b
  simp only [eP2, T.eqv, T.eqvL, h1.h, h2.h]
  by_cases z1 : a1 = b1 <;> by_cases z2 : a2 = b2 <;> simp [z1, z2]⟩
instance [DecidableEq α] [DecidableEq β] [DecidableEq γ] {f f' : Fg} {e1 e1' : α → T} {e2 e2' : β → T} {e3 e3' : γ → T} [h1 : EqvE e1 e1'] [h2 : EqvE e2 e2'] [h3 : EqvE e3 e3'] : EqvE (eP3 f e1 e2 e3) (eP3 f' e1' e2' e3') := ⟨fun a b => by
  obtain ⟨a1, a2, a3⟩ := a; obtain ⟨b1, b2, b3⟩ := b
  simp only [eP3, T.eqv, T.eqvL, h1.h, h2.h, h3.h]
  by_cases z1 : a1 = b1 <;> by_cases z2 : a2 = b2 <;> by_cases z3 : a3 = b3 <;> simp [z1, z2, z3]⟩
instance {e1 : α → T} {e2 : β → T} : LoanE (eP2 .ln e1 e2) (eP2 .ln e1 e2) := ⟨fun _ => rfl⟩
instance {e1 : α → T} {e2 : β → T} {e3 : γ → T} : LoanE (eP3 .ln e1 e2 e3) (eP3 .ln e1 e2 e3) := ⟨fun _ => rfl⟩
instance {e1 : α → T} {e2 : β → T} {e3 : γ → T} {e4 : ε → T} : LoanE (eP4 .ln e1 e2 e3 e4) (eP4 .ln e1 e2 e3 e4) := ⟨fun _ => rfl⟩
instance {e1 e1' : α → T} {e2 e2' : β → T} {e3 e3' : γ → T} {e4 e4' : ε → T} [h1 : LoanE e1 e1'] [h2 : LoanE e2 e2'] [h3 : LoanE e3 e3'] [h4 : LoanE e4 e4'] : LoanE (eP4 .ow e1 e2 e3 e4) (eP4 .ln e1' e2' e3' e4') := ⟨fun _ => by simp [eP4, T.loan, T.loanL, h1.h, h2.h, h3.h, h4.h]⟩
instance {e1 e1' : α → T} {e2 e2' : β → T} {e3 e3' : γ → T} [h1 : FrzE e1 e1'] [h2 : FrzE e2 e2'] [h3 : FrzE e3 e3'] : FrzE (eP3 .ln e1 e2 e3) (eP3 .fz e1' e2' e3') := ⟨fun _ => by simp [eP3, T.frz, T.frzL, h1.h, h2.h, h3.h]⟩
instance {e1 e1' : α → T} {e2 e2' : β → T} {e3 e3' : γ → T} {e4 e4' : ε → T} [h1 : FrzE e1 e1'] [h2 : FrzE e2 e2'] [h3 : FrzE e3 e3'] [h4 : FrzE e4 e4'] : FrzE (eP4 .ln e1 e2 e3 e4) (eP4 .fz e1' e2' e3' e4') := ⟨fun _ => by simp [eP4, T.frz, T.frzL, h1.h, h2.h, h3.h, h4.h]⟩
instance {e1 e1' : α → T} {e2 e2' : β → T} [h : TupF2 e1 e2 .ow] [h1 : DgrE e1 e1'] [h2 : DgrE e2 e2'] : DgrE (eP2 .fz e1 e2) (eP2 .ln e1' e2') := ⟨fun p => by simp [eP2, T.dgr, T.dgrL, h1.h, h2.h, h.scF]⟩
instance {e1 : α → T} {e2 : β → T} [h : TupF2 e1 e2 .fz] : DgrE (eP2 .fz e1 e2) (eP2 .fz e1 e2) := ⟨fun p => by simp [eP2, T.dgr, h.scT]⟩
instance {e1 e1' : α → T} {e2 e2' : β → T} {e3 e3' : γ → T} [h : TupF3 e1 e2 e3 .ow] [h1 : DgrE e1 e1'] [h2 : DgrE e2 e2'] [h3 : DgrE e3 e3'] : DgrE (eP3 .fz e1 e2 e3) (eP3 .ln e1' e2' e3') := ⟨fun p => by simp [eP3, T.dgr, T.dgrL, h1.h, h2.h, h3.h, h.scF]⟩
instance {e1 : α → T} {e2 : β → T} {e3 : γ → T} [h : TupF3 e1 e2 e3 .fz] : DgrE (eP3 .fz e1 e2 e3) (eP3 .fz e1 e2 e3) := ⟨fun p => by simp [eP3, T.dgr, h.scT]⟩
instance {e1 : α → T} {e2 : β → T} {e3 : γ → T} {e4 : ε → T} [h : TupF4 e1 e2 e3 e4 .fz] : DgrE (eP4 .fz e1 e2 e3 e4) (eP4 .fz e1 e2 e3 e4) := ⟨fun p => by simp [eP4, T.dgr, h.scT]⟩
instance {e1 : α → T} {e2 : β → T} [h : TupF2 e1 e2 .fz] : NoFzE (eP2 .fz e1 e2) := ⟨fun p => h.scT⟩
instance {e1 : α → T} {e2 : β → T} {e3 : γ → T} [h : TupF3 e1 e2 e3 .fz] : NoFzE (eP3 .fz e1 e2 e3) := ⟨fun p => h.scT⟩
instance {e1 : α → T} {e2 : β → T} {e3 : γ → T} {e4 : ε → T} [h : TupF4 e1 e2 e3 e4 .fz] : NoFzE (eP4 .fz e1 e2 e3 e4) := ⟨fun p => h.scT⟩
instance {k : Kd} {e : α → T} : DgrE (eL .ln k e) (eL .ln k e) := ⟨fun xs => rfl⟩
instance {e1 : α → T} {e2 : β → T} {e3 : γ → T} [h1 : NoFzE e1] [h2 : NoFzE e2] [h3 : NoFzE e3] : NoFzE (eP3 .ow e1 e2 e3) := ⟨fun _ => by simp [eP3, T.noFz, T.noFzL, h1.h, h2.h, h3.h]⟩
instance [DecidableEq α] [DecidableEq β] [DecidableEq γ] [DecidableEq ε] {f f' : Fg} {e1 e1' : α → T} {e2 e2' : β → T} {e3 e3' : γ → T} {e4 e4' : ε → T} [h1 : EqvE e1 e1'] [h2 : EqvE e2 e2'] [h3 : EqvE e3 e3'] [h4 : EqvE e4 e4'] : EqvE (eP4 f e1 e2 e3 e4) (eP4 f' e1' e2' e3' e4') := ⟨fun a b => by
  obtain ⟨a1, a2, a3, a4⟩ := a; obtain ⟨b1, b2, b3, b4⟩ := b
  simp only [eP4, T.eqv, T.eqvL, h1.h, h2.h, h3.h, h4.h]
  by_cases z1 : a1 = b1 <;> by_cases z2 : a2 = b2 <;> by_cases z3 : a3 = b3 <;> by_cases z4 : a4 = b4 <;> simp [z1, z2, z3, z4]⟩
theorem noLnE {e : α → T} [h : NoLnE e] (a : α) : (e a).noLn = true := h.h a
theorem noLn_non : T.non.noLn = true := rfl
theorem noLn_ln {k : Kd} {e : α → T} {xs : List α} : (eL .ln k e xs).noLn = false := rfl
theorem frzE {e e' : α → T} [h : FrzE e e'] (a : α) : (e a).frz = e' a := h.h a
theorem frz_non : T.non.frz = .non := rfl
theorem loanE {e e' : α → T} [h : LoanE e e'] (a : α) : (e a).loan = e' a := h.h a
theorem loan_non : T.non.loan = .non := rfl
theorem dgrE {e e' : α → T} [h : DgrE e e'] (a : α) : (e a).dgr = e' a := h.h a
theorem dgr_non : T.non.dgr = .non := rfl
theorem noFzE {e : α → T} [h : NoFzE e] (a : α) : (e a).noFz = true := h.h a
theorem nrmE {e e' : α → T} [h : NoLnE e] [h2 : FrzE e e'] (a : α) : (e a).nrm = e' a := by unfold T.nrm; rw [h.h, if_pos rfl, h2.h]
theorem nrm_non : T.non.nrm = .non := rfl
theorem nrm_ln {k : Kd} {e : α → T} {xs : List α} : (eL .ln k e xs).nrm = eL .ln k e xs := rfl
theorem rootFz_int {i : Int} : (T.int i).rootFz = true := rfl
theorem rootFz_bl {i : Bool} : (T.bl i).rootFz = true := rfl
theorem rootFz_str {i : Str} : (T.str i).rootFz = true := rfl
theorem rootFz_non : T.non.rootFz = true := rfl
theorem rootFz_eL {k : Kd} {e : α → T} {xs : List α} : (eL .fz k e xs).rootFz = true := rfl
theorem rootFz_ln {k : Kd} {e : α → T} {xs : List α} : (eL .ln k e xs).rootFz = false := rfl
theorem rootFz_eP2 {e1 : α → T} {e2 : β → T} {p : α × β} : (eP2 .fz e1 e2 p).rootFz = true := rfl
theorem rootFz_eP3 {e1 : α → T} {e2 : β → T} {e3 : γ → T} {p : α × β × γ} : (eP3 .fz e1 e2 e3 p).rootFz = true := rfl
theorem rootFz_eP4 {e1 : α → T} {e2 : β → T} {e3 : γ → T} {e4 : ε → T} {p : α × β × γ × ε} : (eP4 .fz e1 e2 e3 e4 p).rootFz = true := rfl
end
end TV
set_option Elab.async false
set_option linter.all false
set_option maxRecDepth 100000
set_option maxHeartbeats 4000000
namespace TV
open PySem PySem.Spec L2
def optK {α β : Type} (o : Option α) (n : β) (k : α → β) : β := match o with
  | some a => k a
  | none => n
theorem optK_some {α β : Type} {a : α} {n : β} {k : α → β} : optK (some a) n k = k a := rfl
theorem optK_none {α β : Type} {n : β} {k : α → β} : optK none n k = n := rfl
section
variable {α β γ ε : Type} {f f' : Fg} {e e' : α → T} {δ : Sl}
theorem o_add {a b : Int} : opt (gAdd (.int a) (.int b)) δ = .ok (.int (a + b)) δ := rfl
theorem o_sub {a b : Int} : opt (gSub (.int a) (.int b)) δ = .ok (.int (a - b)) δ := rfl
def mulO (a b : Int) : O Int := if cMul a b = true then .ok (a * b) else .bad
theorem o_mul {a b : Int} : opt (gMul (.int a) (.int b)) δ = bO (mulO a b) fun x => .ok (.int x) δ := by
  unfold gMul mulO; dsimp only; by_cases h : cMul a b = true <;> simp [h, opt, bO]
def divO (a b : Int) : O Int := if 0 < b ∧ b.natAbs.log2 < 9000 then .ok (a / b) else .bad
theorem o_div {a b : Int} : opt (gDiv (.int a) (.int b)) δ = bO (divO a b) fun x => .ok (.int x) δ := by
  unfold gDiv gII divO; dsimp only; by_cases h : 0 < b ∧ b.natAbs.log2 < 9000
  · simp [h, opt, bO]
  · rw [if_neg h, if_neg (by simpa using h)]; rfl
def modO (a b : Int) : O Int := if 0 < b then .ok (a % b) else .bad
theorem o_mod {a b : Int} : opt (gMod (.int a) (.int b)) δ = bO (modO a b) fun x => .ok (.int x) δ := by
  unfold gMod gII modO; dsimp only; by_cases h : 0 < b <;> simp [h, opt, bO]
def powO (a b : Int) : O Int := if 0 ≤ b ∧ b ≤ 1000000 ∧ a.natAbs < 2 ^ 64 then .ok (a ^ b.toNat) else .bad
theorem o_pow {a b : Int} : opt (gPow (.int a) (.int b)) δ = bO (powO a b) fun x => .ok (.int x) δ := by
  unfold gPow gII powO; dsimp only; by_cases h : 0 ≤ b ∧ b ≤ 1000000 ∧ a.natAbs < 2 ^ 64
  · rw [if_pos h, if_pos (by simpa using h)]; rfl
  · rw [if_neg h, if_neg (by simpa using h)]; rfl
theorem o_neg {a : Int} : opt (gNeg (.int a)) δ = .ok (.int (-a)) δ := rfl
theorem o_lt {a b : Int} : opt (gLt (.int a) (.int b)) δ = .ok (.bl (decide (a < b))) δ := rfl
theorem o_le {a b : Int} : opt (gLe (.int a) (.int b)) δ = .ok (.bl (decide (a ≤ b))) δ := rfl
theorem o_gt {a b : Int} : opt (gGt (.int a) (.int b)) δ = .ok (.bl (decide (b < a))) δ := rfl
theorem o_ge {a b : Int} : opt (gGe (.int a) (.int b)) δ = .ok (.bl (decide (b ≤ a))) δ := rfl
theorem o_eq [DecidableEq α] [h1 : OkDE 60 e] [h2 : OkDE 60 e'] [h3 : EqvE e e'] {a b : α} : opt (gEq (e a) (e' b)) δ = .ok (.bl (decide (a = b))) δ := by
  unfold gEq; rw [h1.h, h2.h, h3.h]; rfl
theorem o_ne [DecidableEq α] [h1 : OkDE 60 e] [h2 : OkDE 60 e'] [h3 : EqvE e e'] {a b : α} : opt (gNe (e a) (e' b)) δ = .ok (.bl (!decide (a = b))) δ := by
  unfold gNe; rw [h1.h, h2.h, h3.h]; rfl
def eqSO (a b : Str) : O Bool := if PyData.strOk a = true ∧ PyData.strOk b = true then .ok (decide (a = b)) else .bad
theorem o_eqS {a b : Str} : opt (gEq (.str a) (.str b)) δ = bO (eqSO a b) fun x => .ok (.bl x) δ := by
  unfold gEq eqSO
  show opt (if PyData.strOk a = true ∧ PyData.strOk b = true then _ else _) δ = _
  by_cases h : PyData.strOk a = true ∧ PyData.strOk b = true
  · rw [if_pos h, if_pos h]; by_cases h2 : a = b <;> simp [T.eqv, opt, bO, h2]
  · rw [if_neg h, if_neg h]; rfl
theorem o_neS {a b : Str} : opt (gNe (.str a) (.str b)) δ = bO (eqSO a b) fun x => .ok (.bl (!x)) δ := by
  unfold gNe eqSO
  show opt (if PyData.strOk a = true ∧ PyData.strOk b = true then _ else _) δ = _
  by_cases h : PyData.strOk a = true ∧ PyData.strOk b = true
  · rw [if_pos h, if_pos h]; by_cases h2 : a = b <;> simp [T.eqv, opt, bO, h2]
  · rw [if_neg h, if_neg h]; rfl
class NotNon (e : α → T) : Prop where h : ∀ a, (e a).isNon = false
instance : NotNon T.int := ⟨fun _ => rfl⟩
instance : NotNon T.bl := ⟨fun _ => rfl⟩
instance : NotNon T.str := ⟨fun _ => rfl⟩
instance {k : Kd} : NotNon (eL f k e) := ⟨fun _ => rfl⟩
instance {e2 : β → T} : NotNon (eP2 f e e2) := ⟨fun _ => rfl⟩
instance {e2 : β → T} {e3 : γ → T} : NotNon (eP3 f e e2 e3) := ⟨fun _ => rfl⟩
theorem o_isN [h : NotNon e] {o : Option α} : opt (gIsN (eO e o) .non) δ = .ok (.bl o.isNone) δ := by
  cases o with
  | none => rfl
  | some a => show R.ok (T.bl ((e a).isNon)) δ = _; rw [h.h]; rfl
theorem o_notN [h : NotNon e] {o : Option α} : opt (gNotN (eO e o) .non) δ = .ok (.bl o.isSome) δ := by
  cases o with
  | none => rfl
  | some a => show R.ok (T.bl (!(e a).isNon)) δ = _; rw [h.h]; rfl
theorem o_isN_e [h : NotNon e] {a : α} : opt (gIsN (e a) .non) δ = .ok (.bl false) δ := by show R.ok (T.bl ((e a).isNon)) δ = _; rw [h.h]
theorem o_notN_e [h : NotNon e] {a : α} : opt (gNotN (e a) .non) δ = .ok (.bl true) δ := by show R.ok (T.bl (!(e a).isNon)) δ = _; rw [h.h]; rfl
theorem o_isN_non : opt (gIsN .non .non) δ = .ok (.bl true) δ := rfl
theorem o_notN_non : opt (gNotN .non .non) δ = .ok (.bl false) δ := rfl
theorem o_isB {a b : Bool} : opt (gIsB (.bl a) (.bl b)) δ = .ok (.bl (decide (a = b))) δ := rfl
theorem o_notB {a b : Bool} : opt (gNotB (.bl a) (.bl b)) δ = .ok (.bl (!decide (a = b))) δ := rfl
def catO (xs ys : List α) : O (List α) := if xs.length + ys.length ≤ sizeLine then .ok (xs ++ ys) else .bad
theorem o_cat {xs ys : List α} : opt (gAdd (eL f .lst e xs) (eL f' .lst e ys)) δ = bO (catO xs ys) fun zs => .ok (eL .ow .lst e zs) δ := by
  unfold gAdd eL catO; dsimp only; rw [List.length_map, List.length_map]
  by_cases h : xs.length + ys.length ≤ sizeLine
  · rw [if_pos h, if_pos h, ← List.map_append]; rfl
  · rw [if_neg h, if_neg h]; rfl
def catS (a b : Str) : O Str := if a.length + b.length ≤ sizeLine then .ok (a ++ b) else .bad
theorem o_catS {a b : Str} : opt (gAdd (.str a) (.str b)) δ = bO (catS a b) fun z => .ok (.str z) δ := by
  unfold gAdd catS; dsimp only
  by_cases h : a.length + b.length ≤ sizeLine
  · rw [if_pos h, if_pos h]; rfl
  · rw [if_neg h, if_neg h]; rfl
def repO (xs : List α) (k : Int) : O (List α) := if -(2 ^ 63) ≤ k ∧ k < 2 ^ 63 ∧ xs.length * k.toNat ≤ sizeLine then .ok (List.replicate k.toNat xs).flatten else .bad
theorem o_rep [h1 : NoLnE e] [h2 : FrzE e e'] {xs : List α} {k : Int} : opt (gMul (eL f .lst e xs) (.int k)) δ = bO (repO xs k) fun zs => .ok (eL .ow .lst e' zs) δ := by
  unfold gMul eL repO; dsimp only; rw [List.length_map, noLnL_map, frzL_map]
  by_cases h : -(2 ^ 63) ≤ k ∧ k < 2 ^ 63 ∧ xs.length * k.toNat ≤ sizeLine
  · rw [if_pos h, if_pos ⟨h.1, h.2.1, h.2.2, rfl⟩, bO_ok]
    rw [List.map_flatten, List.map_replicate]; rfl
  · rw [if_neg h, if_neg (fun z => h ⟨z.1, z.2.1, z.2.2.1⟩)]; rfl
def ixO (xs : List α) (i : Int) : O α := match atI xs i with
  | some a => .ok a
  | none => .bad
theorem atI_map {xs : List α} {g : α → β} {i : Int} : atI (xs.map g) i = (atI xs i).map g := by
  unfold atI; rw [List.length_map]; cases ixN xs.length i with
  | none => rfl
  | some j => simp
theorem o_ix {xs : List α} {i : Int} : opt (gIx (eL f .lst e xs) (.int i)) δ = bO (ixO xs i) fun a => .ok (e a) δ := by
  unfold gIx gIxL gIxT gIxS eL ixO; dsimp only; rw [atI_map]; cases atI xs i <;> rfl
theorem o_ixg {xs : List α} {i : Int} : opt (gIx (eL f .lsg e xs) (.int i)) δ = bO (ixO xs i) fun a => .ok (e a) δ := by
  unfold gIx gIxL gIxT gIxS eL ixO; dsimp only; rw [atI_map]; cases atI xs i <;> rfl
theorem o_p2_0 {e2 : β → T} {p : α × β} : opt (gIx (eP2 f e e2 p) (.int 0)) δ = .ok (e p.1) δ := rfl
theorem o_p2_1 {e2 : β → T} {p : α × β} : opt (gIx (eP2 f e e2 p) (.int 1)) δ = .ok (e2 p.2) δ := rfl
theorem o_p3_0 {e2 : β → T} {e3 : γ → T} {p : α × β × γ} : opt (gIx (eP3 f e e2 e3 p) (.int 0)) δ = .ok (e p.1) δ := rfl
theorem o_p3_1 {e2 : β → T} {e3 : γ → T} {p : α × β × γ} : opt (gIx (eP3 f e e2 e3 p) (.int 1)) δ = .ok (e2 p.2.1) δ := rfl
theorem o_p3_2 {e2 : β → T} {e3 : γ → T} {p : α × β × γ} : opt (gIx (eP3 f e e2 e3 p) (.int 2)) δ = .ok (e3 p.2.2) δ := rfl
theorem o_p4_0 {e2 : β → T} {e3 : γ → T} {e4 : ε → T} {p : α × β × γ × ε} : opt (gIx (eP4 f e e2 e3 e4 p) (.int 0)) δ = .ok (e p.1) δ := rfl
theorem o_p4_1 {e2 : β → T} {e3 : γ → T} {e4 : ε → T} {p : α × β × γ × ε} : opt (gIx (eP4 f e e2 e3 e4 p) (.int 1)) δ = .ok (e2 p.2.1) δ := rfl
theorem o_p4_2 {e2 : β → T} {e3 : γ → T} {e4 : ε → T} {p : α × β × γ × ε} : opt (gIx (eP4 f e e2 e3 e4 p) (.int 2)) δ = .ok (e3 p.2.2.1) δ := rfl
theorem o_p4_3 {e2 : β → T} {e3 : γ → T} {e4 : ε → T} {p : α × β × γ × ε} : opt (gIx (eP4 f e e2 e3 e4 p) (.int 3)) δ = .ok (e4 p.2.2.2) δ := rfl
theorem seqOf_eL {xs : List α} : seqOf (eL f .lst e xs) = some (xs.map e) := rfl
theorem seqOf_eLg {xs : List α} : seqOf (eL f .lsg e xs) = some (xs.map e) := rfl
theorem tupOf_eL {xs : List α} : tupOf (eL f .lst e xs) = none := rfl
theorem tupOf_eLg {xs : List α} : tupOf (eL f .lsg e xs) = none := rfl
theorem itemsOf_eL {xs : List α} : itemsOf (eL f .lst e xs) = some (xs.map e) := rfl
theorem o_len {xs : List α} : opt (gLen (eL f .lst e xs)) δ = .ok (.int (xs.length : Int)) δ := by
  show R.ok (T.int ((xs.map e).length : Int)) δ = _; rw [List.length_map]
theorem o_leng {xs : List α} : opt (gLen (eL f .lsg e xs)) δ = .ok (.int (xs.length : Int)) δ := by
  show R.ok (T.int ((xs.map e).length : Int)) δ = _; rw [List.length_map]
def lenS (z : Str) : O Int := if z.length ≤ sizeLine then .ok (z.length : Int) else .bad
theorem o_lenS {z : Str} : opt (gLen (.str z)) δ = bO (lenS z) fun n => .ok (.int n) δ := by
  unfold gLen lenS; dsimp only; by_cases h : z.length ≤ sizeLine <;> simp [h, opt, bO]
theorem o_listOf {xs : List α} : opt (gListOf (eL f .lst e xs)) δ = .ok (eL .ow .lst e xs) δ := rfl
theorem o_listOfg {xs : List α} : opt (gListOf (eL f .lsg e xs)) δ = .ok (eL .ow .lst e xs) δ := rfl
theorem o_int_int {i : Int} : opt (gInt1 (.int i)) δ = .ok (.int i) δ := rfl
def b2I (b : Bool) : Int := if b = true then 1 else 0
theorem o_int_bl {b : Bool} : opt (gInt1 (.bl b)) δ = .ok (.int (b2I b)) δ := rfl
def absI (i : Int) : Int := if i < 0 then -i else i
theorem o_abs {i : Int} : opt (gAbs (.int i)) δ = .ok (.int (absI i)) δ := rfl
def max2 (i j : Int) : Int := if j > i then j else i
def min2 (i j : Int) : Int := if j < i then j else i
theorem o_max2 {i j : Int} : opt (gMax2 (.int i) (.int j)) δ = .ok (.int (max2 i j)) δ := rfl
theorem o_min2 {i j : Int} : opt (gMin2 (.int i) (.int j)) δ = .ok (.int (min2 i j)) δ := rfl
theorem intsOf_map : ∀ xs : List Int, intsOf (xs.map T.int) = some xs
  | [] => rfl
  | x :: xs => by rw [List.map_cons, intsOf, intsOf_map xs]; rfl
theorem blsOf_map : ∀ xs : List Bool, blsOf (xs.map T.bl) = some xs
  | [] => rfl
  | x :: xs => by rw [List.map_cons, blsOf, blsOf_map xs]; rfl
theorem o_all {xs : List Bool} : opt (gAll (eL f .lst T.bl xs)) δ = .ok (.bl (xs.all id)) δ := by
  unfold gAll gBls; rw [seqOf_eL]; show opt ((blsOf (xs.map T.bl)).map _) δ = _; rw [blsOf_map]; rfl
theorem o_any {xs : List Bool} : opt (gAny (eL f .lst T.bl xs)) δ = .ok (.bl (xs.any id)) δ := by
  unfold gAny gBls; rw [seqOf_eL]; show opt ((blsOf (xs.map T.bl)).map _) δ = _; rw [blsOf_map]; rfl
theorem o_sum {xs : List Int} : opt (gSum (eL f .lst T.int xs)) δ = .ok (.int xs.sum) δ := by
  unfold gSum gInts; rw [seqOf_eL]; show opt ((intsOf (xs.map T.int)).bind _) δ = _; rw [intsOf_map]; rfl
def maxO (xs : List Int) : O Int := match maxL xs with
  | some a => .ok a
  | none => .bad
def minO (xs : List Int) : O Int := match minL xs with
  | some a => .ok a
  | none => .bad
theorem o_maxL {xs : List Int} : opt (gMaxL (eL f .lst T.int xs)) δ = bO (maxO xs) fun x => .ok (.int x) δ := by
  unfold gMaxL gInts maxO; rw [seqOf_eL]; show opt ((intsOf (xs.map T.int)).bind _) δ = _; rw [intsOf_map]
  show opt ((maxL xs).map T.int) δ = _; cases maxL xs <;> rfl
theorem o_minL {xs : List Int} : opt (gMinL (eL f .lst T.int xs)) δ = bO (minO xs) fun x => .ok (.int x) δ := by
  unfold gMinL gInts minO; rw [seqOf_eL]; show opt ((intsOf (xs.map T.int)).bind _) δ = _; rw [intsOf_map]
  show opt ((minL xs).map T.int) δ = _; cases minL xs <;> rfl
theorem inT_int {x : Int} : ∀ xs : List Int, inT (.int x) (xs.map T.int) = decide (x ∈ xs)
  | [] => rfl
  | y :: ys => by
    have := inT_int (x := x) ys
    unfold inT at this ⊢
    rw [List.map_cons, List.any_cons, this]
    by_cases h : y = x
    · subst h; simp [eqT1]
    · have h2 : ¬ x = y := fun z => h z.symm
      simp [eqT1, h, h2]
theorem flat_ints : ∀ xs : List Int, (xs.map T.int).all flatT = true
  | [] => rfl
  | y :: ys => by rw [List.map_cons, List.all_cons, flat_ints ys]; rfl
theorem o_in {neg : Bool} {x : Int} {xs : List Int} : opt (gInF neg (.int x) (eL f .lst T.int xs)) δ = .ok (.bl (if neg then !decide (x ∈ xs) else decide (x ∈ xs))) δ := by
  unfold gInF; rw [itemsOf_eL]
  show opt (if flatT (.int x) = true ∧ (xs.map T.int).all flatT = true then _ else _) δ = _
  rw [flat_ints, if_pos ⟨rfl, rfl⟩, inT_int]; rfl
theorem o_in_t2 {neg : Bool} {x : Int} {p : Int × Int} : opt (gInF neg (.int x) (eP2 f T.int T.int p)) δ = .ok (.bl (if neg then !decide (x ∈ [p.1, p.2]) else decide (x ∈ [p.1, p.2]))) δ := by
  have := @o_in f δ neg x [p.1, p.2]; exact this
theorem o_in_t3 {neg : Bool} {x : Int} {p : Int × Int × Int} : opt (gInF neg (.int x) (eP3 f T.int T.int T.int p)) δ = .ok (.bl (if neg then !decide (x ∈ [p.1, p.2.1, p.2.2]) else decide (x ∈ [p.1, p.2.1, p.2.2]))) δ := by
  have := @o_in f δ neg x [p.1, p.2.1, p.2.2]; exact this
def cutI (xs : List α) (lo hi : Option Int) : List α := (xs.drop (HT.sIx xs.length 0 lo)).take (HT.sIx xs.length xs.length hi - HT.sIx xs.length 0 lo)
theorem o_sl {xs : List α} {lo hi : Option Int} : opt (gSl (eL f .lst e xs) lo hi) δ = .ok (eL .ow .lst e (cutI xs lo hi)) δ := by
  unfold gSl eL cutT cutI opt; dsimp only; rw [List.length_map, List.map_take, List.map_drop]
theorem kt1 : kitB "int" "int" = some true := by decide +kernel
theorem kt2 : kitB "int" "bool" = some false := by decide +kernel
theorem kt3 : kitB "int" "list" = some false := by decide +kernel
theorem kt4 : kitB "int" "tuple" = some false := by decide +kernel
theorem kt5 : kitB "int" "str" = some false := by decide +kernel
theorem kt6 : kitB "list" "list" = some true := by decide +kernel
theorem kt7 : kitB "list" "tuple" = some false := by decide +kernel
theorem kt8 : kitB "list" "int" = some false := by decide +kernel
theorem kt9 : kitB "list" "bool" = some false := by decide +kernel
theorem kt10 : kitB "list" "str" = some false := by decide +kernel
theorem kt11 : kitB "tuple" "tuple" = some true := by decide +kernel
theorem kt12 : kitB "tuple" "list" = some false := by decide +kernel
theorem kt13 : kitB "tuple" "int" = some false := by decide +kernel
theorem kt14 : kitB "tuple" "bool" = some false := by decide +kernel
theorem kt15 : kitB "tuple" "str" = some false := by decide +kernel
theorem kt16 : kitB "str" "str" = some true := by decide +kernel
theorem kt17 : kitB "str" "list" = some false := by decide +kernel
theorem kt18 : kitB "str" "tuple" = some false := by decide +kernel
theorem kt19 : kitB "str" "int" = some false := by decide +kernel
theorem kt20 : kitB "str" "bool" = some false := by decide +kernel
theorem kt21 : kitB "bool" "bool" = some true := by decide +kernel
theorem kt22 : kitB "bool" "int" = some true := by decide +kernel
theorem kt23 : kitB "bool" "list" = some false := by decide +kernel
theorem kt24 : kitB "bool" "tuple" = some false := by decide +kernel
theorem kt25 : kitB "bool" "str" = some false := by decide +kernel
theorem kt26 : kitB "NoneType" "int" = some false := by decide +kernel
theorem kt27 : kitB "NoneType" "bool" = some false := by decide +kernel
theorem kt28 : kitB "NoneType" "list" = some false := by decide +kernel
theorem kt29 : kitB "NoneType" "tuple" = some false := by decide +kernel
theorem kt30 : kitB "NoneType" "str" = some false := by decide +kernel
class TyE (n : String) (e : α → T) : Prop where h : ∀ a, tyN (e a) = some n
instance : TyE "int" T.int := ⟨fun _ => rfl⟩
instance : TyE "bool" T.bl := ⟨fun _ => rfl⟩
instance : TyE "str" T.str := ⟨fun _ => rfl⟩
instance : TyE "list" (eL f .lst e) := ⟨fun _ => rfl⟩
instance : TyE "list" (eL f .lsg e) := ⟨fun _ => rfl⟩
instance {e2 : β → T} : TyE "tuple" (eP2 f e e2) := ⟨fun _ => rfl⟩
instance {e2 : β → T} {e3 : γ → T} : TyE "tuple" (eP3 f e e2 e3) := ⟨fun _ => rfl⟩
instance {e2 : β → T} {e3 : γ → T} {e4 : ε → T} : TyE "tuple" (eP4 f e e2 e3 e4) := ⟨fun _ => rfl⟩
theorem isi_int {n : String} {i : Int} : opt ((gIsi n (.int i)).map T.bl) δ = opt ((kitB "int" n).map T.bl) δ := rfl
theorem isi_bl {n : String} {i : Bool} : opt ((gIsi n (.bl i)).map T.bl) δ = opt ((kitB "bool" n).map T.bl) δ := rfl
theorem isi_str {n : String} {i : Str} : opt ((gIsi n (.str i)).map T.bl) δ = opt ((kitB "str" n).map T.bl) δ := rfl
theorem isi_eL {n : String} {xs : List α} : opt ((gIsi n (eL f .lst e xs)).map T.bl) δ = opt ((kitB "list" n).map T.bl) δ := rfl
theorem isi_eP2 {n : String} {e2 : β → T} {p : α × β} : opt ((gIsi n (eP2 f e e2 p)).map T.bl) δ = opt ((kitB "tuple" n).map T.bl) δ := rfl
theorem isi_eP3 {n : String} {e2 : β → T} {e3 : γ → T} {p : α × β × γ} : opt ((gIsi n (eP3 f e e2 e3 p)).map T.bl) δ = opt ((kitB "tuple" n).map T.bl) δ := rfl
theorem isi_eP4 {n : String} {e2 : β → T} {e3 : γ → T} {e4 : ε → T} {p : α × β × γ × ε} : opt ((gIsi n (eP4 f e e2 e3 e4 p)).map T.bl) δ = opt ((kitB "tuple" n).map T.bl) δ := rfl
theorem opt_bl {b : Bool} : opt ((some b).map T.bl) δ = .ok (.bl b) δ := rfl
end
end TV
set_option Elab.async false
set_option linter.all false
set_option maxRecDepth 100000
set_option maxHeartbeats 4000000
namespace TV
open PySem PySem.Spec L2
section
variable {α β γ ε σ τ ρ : Type} {f : ES} {g : AS} {δ : Sl} {gs : GS} {e : α → T}
theorem getE0 {s : Sl1} {l : Sl} : (s :: l)[0]? = some s := rfl
theorem getES {s : Sl1} {l : Sl} {n : Nat} : (s :: l)[n + 1]? = l[n]? := rfl
theorem setE0 {s u : Sl1} {l : Sl} : (s :: l).set 0 u = u :: l := rfl
theorem setES {s u : Sl1} {l : Sl} {n : Nat} : (s :: l).set (n + 1) u = s :: l.set n u := rfl
theorem pinE_un : Sl1.un.pin = false := rfl
theorem pinE_vis {p : Bool} {t : T} : (Sl1.vis p t).pin = p := rfl
theorem pinE_hid {p : Bool} {t : T} : (Sl1.hid p t).pin = p := rfl
theorem eVar_eq {i : Nat} : eVar i δ = match δ[i]? with
  | some (.vis _ t) => .ok t.loan δ
  | _ => .bad := rfl
theorem eMv_eq {i : Nat} : eMv i δ = match δ[i]? with
  | some (.vis false t) => .ok t (δ.set i .un)
  | _ => .bad := rfl
theorem eAuto_eq {i : Nat} : eAuto i δ = match δ[i]? with
  | some (.vis false t) => if t.noLn = true then .ok t.frz (δ.set i (.vis false t.frz)) else .ok t.loan δ
  | some (.vis true t) => .ok t.loan δ
  | _ => .bad := by
  unfold eAuto canFz eFz eVar
  cases h : δ[i]? with
  | none => rfl
  | some s =>
    cases s with
    | un => rfl
    | hid p t => rfl
    | vis p t =>
      cases p with
      | true => rfl
      | false => dsimp only; by_cases hn : t.noLn = true <;> simp [hn]
def blM (t : T) (x y : R Sl α) : R Sl α := match t with
  | .bl b => if b = true then x else y
  | _ => .bad
theorem blM_bl {b : Bool} {x y : R Sl α} : blM (.bl b) x y = if b = true then x else y := rfl
theorem eAnd_eq {f g : ES} : eAnd f g δ = (f δ).bind fun t δ => blM t (g δ) (.ok (.bl false) δ) := by
  unfold eAnd; congr 1; funext t δ; cases t with
  | bl b => cases b <;> rfl
  | _ => rfl
theorem eOr_eq {f g : ES} : eOr f g δ = (f δ).bind fun t δ => blM t (.ok (.bl true) δ) (g δ) := by
  unfold eOr; congr 1; funext t δ; cases t with
  | bl b => cases b <;> rfl
  | _ => rfl
theorem iteAndT {b c : Bool} : (if b = true then R.ok (T.bl c) δ else R.ok (T.bl false) δ) = R.ok (T.bl (b && c)) δ := by cases b <;> rfl
theorem iteOrT {b c : Bool} : (if b = true then R.ok (T.bl true) δ else R.ok (T.bl c) δ) = R.ok (T.bl (b || c)) δ := by cases b <;> rfl
theorem iteAndB {b c : Bool} : (if b = true then R.ok c δ else R.ok false δ) = R.ok (b && c) δ := by cases b <;> rfl
theorem iteOrB {b c : Bool} : (if b = true then R.ok true δ else R.ok c δ) = R.ok (b || c) δ := by cases b <;> rfl
def chK (o : Option T) (y : T) (k : Sl → R Sl T) (δ : Sl) : R Sl T := match o with
  | some (.bl true) => (match y with
    | .int _ => k δ
    | _ => .bad)
  | some (.bl false) => .ok (.bl false) δ
  | _ => .bad
theorem chK_eq {b : Bool} {i : Int} {k : Sl → R Sl T} : chK (some (.bl b)) (.int i) k δ = if b = true then k δ else .ok (.bl false) δ := by cases b <;> rfl
theorem eChain_eq {g1 g2 : T → T → Option T} {fa fb fc : ES} : eChain g1 g2 fa fb fc δ = (fa δ).bind fun x δ => (fb δ).bind fun y δ => chK (g1 x y) y (fun δ => (fc δ).bind fun z δ => opt (g2 y z) δ) δ := rfl
theorem gCmp_int {p : Int → Int → Bool} {a b : Int} : gCmp p (.int a) (.int b) = some (.bl (p a b)) := rfl
theorem valsOf_nil : valsOf [] = some [] := rfl
theorem valsOf_cons {t : T} {r : List Ar} : valsOf (.val t :: r) = (valsOf r).map fun xs => t :: xs := rfl
theorem omap_some {g : α → β} {a : α} : (some a).map g = some (g a) := rfl
theorem omap_none {g : α → β} : (none : Option α).map g = none := rfl
theorem obindS {g : α → Option β} {a : α} : (some a).bind g = g a := rfl
theorem bltS_eq {g : List T → Option T} {as : List Ar} : bltS g as δ = optK (valsOf as) .bad fun xs => opt (g xs) δ := by unfold bltS optK; cases valsOf as <;> rfl
theorem one_eq {g : T → Option T} {t : T} : one g [t] = g t := rfl
theorem two_eq {g : T → T → Option T} {s t : T} : two g [s, t] = g s t := rfl
theorem dispT_eq {k : Kd} {as : List Ar} : dispT k as δ = optK (valsOf as) .bad fun xs => if xs.length ≤ sizeLine then .ok (mkN k xs) δ else .bad := by unfold dispT optK; cases valsOf as <;> rfl
theorem len0 {α : Type} : ([] : List α).length = 0 := rfl
theorem lenS1 {α : Type} {a : α} {l : List α} : (a :: l).length = l.length + 1 := rfl
theorem size_eq {n : Nat} : (n ≤ sizeLine) = (n ≤ 16777216) := rfl
theorem masked_nil : masked [] [] = true := rfl
theorem masked_v {t : T} {as : List Ar} {ms : List Bool} : masked (false :: ms) (.val t :: as) = masked ms as := by unfold masked; simp [Ar.isRef]
theorem masked_r {i : Nat} {as : List Ar} {ms : List Bool} : masked (true :: ms) (.ref i :: as) = masked ms as := by unfold masked; simp [Ar.isRef]
theorem callM_K {ms : List Bool} {m : Fn} {as : List Ar} : callM ms m as δ = if masked ms as = true then optK (argsT δ as) .bad (fun args => callK as δ (m args)) else .bad := by rw [callM_eq]; unfold optK; cases argsT δ as <;> rfl
theorem argsT_nil : argsT δ [] = some [] := rfl
theorem argsT_v {t : T} {as : List Ar} : argsT δ (.val t :: as) = (argsT δ as).map fun ts => t.frz :: ts := rfl
theorem argsT_r {i : Nat} {as : List Ar} : argsT δ (.ref i :: as) = (hidT δ i).bind fun t => (argsT δ as).map fun ts => t :: ts := rfl
theorem hidT_eq {i : Nat} : TV.hidT δ i = match δ[i]? with
  | some (.hid _ t) => some t
  | _ => none := rfl
theorem refsOf_nil : refsOf [] = [] := rfl
theorem refsOf_v {t : T} {as : List Ar} : refsOf (.val t :: as) = refsOf as := rfl
theorem refsOf_r {i : Nat} {as : List Ar} : refsOf (.ref i :: as) = i :: refsOf as := rfl
theorem callK_ok {as : List Ar} {t : T} {outs : List T} : callK as δ (.ok t outs) = optK (outsTo δ (refsOf as) outs) .bad fun δ' => if as.any Ar.tn = true then (if T.noFzL outs = true then .ok t.dgr δ' else .bad) else .ok t δ' := by unfold callK optK; dsimp only; cases outsTo δ (refsOf as) outs <;> rfl
theorem callK_bad {as : List Ar} : callK as δ .bad = .bad := rfl
theorem callK_v {as : List Ar} {er : ρ → T} {eo : ρ → List T} {o : OF ρ} (h : (refsOf as).isEmpty = true) : callK as δ (rP er eo o) = bO (o.lift δ) fun r => callK as δ (.ok (er r) (eo r)) := callK_rP (by simpa using h)
theorem callK_r {as : List Ar} {er : ρ → T} {eo : ρ → List T} {o : OF ρ} (h : (refsOf as).isEmpty = false) : callK as δ (rP er eo o) = bO o.mut fun r => callK as δ (.ok (er r) (eo r)) := by
  cases e : refsOf as with
  | nil => rw [e] at h; cases h
  | cons i is => exact callK_rPm e
theorem callK_e {as : List Ar} {er : ρ → T} {eo : ρ → List T} {o : OF ρ} : callK as δ (rP er eo o) = if (refsOf as).isEmpty = true then (bO (o.lift δ) fun r => callK as δ (.ok (er r) (eo r))) else bO o.mut fun r => callK as δ (.ok (er r) (eo r)) := by
  by_cases h : (refsOf as).isEmpty = true
  · rw [if_pos h, callK_v h]
  · rw [if_neg h, callK_r (by simpa using h)]
theorem exF_ok {vs : List Nat} {a : α} : exF vs (.ok a δ) = .ok a δ := rfl
theorem exF_bad {vs : List Nat} : exF vs (.bad : R Sl α) = .bad := rfl
theorem exF_lift {vs : List Nat} {o : OF ρ} {k : ρ → R Sl α} : exF vs (bO (o.lift δ) k) = bO (o.lift (fgS vs δ)) fun a => exF vs (k a) := by cases o <;> rfl
theorem exF_mut {vs : List Nat} {o : OF ρ} {k : ρ → R Sl α} : exF vs (bO o.mut k) = bO o.mut fun a => exF vs (k a) := by cases o <;> rfl
theorem exM_ok {a : α} : exM (.ok a δ) = .ok a δ := rfl
theorem exM_bad : exM (.bad : R Sl α) = .bad := rfl
theorem exM_lift {o : OF ρ} {k : ρ → R Sl α} : exM (bO (o.lift δ) k) = bO o.mut fun a => exM (k a) := by cases o <;> rfl
theorem exM_mut {o : OF ρ} {k : ρ → R Sl α} : exM (bO o.mut k) = bO o.mut fun a => exM (k a) := by cases o <;> rfl
theorem emp_nil {α : Type} : ([] : List α).isEmpty = true := rfl
theorem emp_cons {α : Type} {a : α} {l : List α} : (a :: l).isEmpty = false := rfl
theorem outsTo0 : outsTo δ [] [] = some δ := rfl
theorem outsTo1 {i : Nat} {t : T} : outsTo δ [i] [t] = some (setHid δ i t) := rfl
theorem setHid_eq {i : Nat} {t : T} : setHid δ i t = match δ[i]? with
  | some (.hid p _) => δ.set i (.hid p t)
  | _ => δ := rfl
theorem any_nil {α : Type} {p : α → Bool} : ([] : List α).any p = false := rfl
theorem any_cons {α : Type} {p : α → Bool} {a : α} {l : List α} : (a :: l).any p = (p a || l.any p) := rfl
theorem all_nil {α : Type} {p : α → Bool} : ([] : List α).all p = true := rfl
theorem all_cons {α : Type} {p : α → Bool} {a : α} {l : List α} : (a :: l).all p = (p a && l.all p) := rfl
theorem tn_v {t : T} : Ar.tn (.val t) = !t.rootFz := rfl
theorem tn_r {i : Nat} : Ar.tn (.ref i) = false := rfl
theorem noFzL_nil : T.noFzL [] = true := rfl
theorem noFzL_cons {t : T} {ts : List T} : T.noFzL (t :: ts) = (t.noFz && T.noFzL ts) := rfl
theorem noLnL_nil : T.noLnL [] = true := rfl
theorem noLnL_cons {t : T} {ts : List T} : T.noLnL (t :: ts) = (t.noLn && T.noLnL ts) := rfl
theorem orF1 {b : Bool} : (false || b) = b := rfl
theorem orT1 {b : Bool} : (true || b) = true := rfl
theorem andT1 {b : Bool} : (true && b) = b := rfl
theorem andF1 {b : Bool} : (false && b) = false := rfl
theorem notT : (!true) = false := rfl
theorem notF : (!false) = true := rfl
theorem nd_map {f : Fg} {k : Kd} {xs : List α} : T.nd f k (xs.map e) = eL f k e xs := rfl
def ownT : T → Option (List T)
  | .nd .ow .lst xs => some xs
  | _ => none
theorem ownT_eL {xs : List α} : ownT (eL .ow .lst e xs) = some (xs.map e) := rfl
theorem ownL_eq {i : Nat} : ownL δ i = match δ[i]? with
  | some (.vis p t) => (ownT t).map fun xs => (p, xs)
  | _ => none := by
  unfold ownL
  cases δ[i]? with
  | none => rfl
  | some s =>
    cases s with
    | un => rfl
    | hid p t => rfl
    | vis p t =>
      cases t with
      | nd f k xs => cases f <;> cases k <;> rfl
      | _ => rfl
theorem sMeth_eq {i : Nat} {step : List T → List T → Option (List T)} : sMeth i g step δ = optK (ownL δ i) .bad fun _ => (g δ).bind fun as δ => optK (valsOf as) .bad fun args => optK (ownL δ i) .bad fun px => optK (step px.2 args) .bad fun xs' => if T.noLnL args = true then .ok .next (δ.set i (.vis px.1 (.nd .ow .lst xs'))) else .bad := by
  unfold sMeth optK
  cases ownL δ i with
  | none => rfl
  | some p =>
    dsimp only
    congr 1; funext as δ
    cases valsOf as with
    | none => rfl
    | some args =>
      dsimp only
      cases ownL δ i with
      | none => rfl
      | some p => dsimp only; cases step p.2 args <;> rfl
def appO (xs : List α) (a : α) : O (List α) := if xs.length < sizeLine then .ok (xs ++ [a]) else .bad
theorem k_app {xs : List α} {a : α} {k : List T → R Sl β} : optK (stApp (xs.map e) [e a]) .bad k = bO (appO xs a) fun ys => k (ys.map e) := by
  unfold stApp appO; dsimp only; rw [List.length_map]
  by_cases h : xs.length < sizeLine
  · rw [if_pos h, if_pos h, bO_ok, List.map_append]; rfl
  · rw [if_neg h, if_neg h]; rfl
def insO (xs : List α) (k : Int) (a : α) : O (List α) := if xs.length < sizeLine ∧ 0 ≤ k ∧ k < 2 ^ 63 then .ok (xs.take k.toNat ++ [a] ++ xs.drop k.toNat) else .bad
theorem k_ins {xs : List α} {a : α} {i : Int} {k : List T → R Sl β} : optK (stIns (xs.map e) [.int i, e a]) .bad k = bO (insO xs i a) fun ys => k (ys.map e) := by
  unfold stIns insO; dsimp only; rw [List.length_map]
  by_cases h : xs.length < sizeLine ∧ 0 ≤ i ∧ i < 2 ^ 63
  · rw [if_pos h, if_pos h, bO_ok, List.map_append, List.map_append, List.map_take, List.map_drop]; rfl
  · rw [if_neg h, if_neg h]; rfl
theorem k_clear {xs : List α} {k : List T → R Sl β} : optK (stClear (xs.map e) []) .bad k = k (([] : List α).map e) := rfl
def popO (xs : List α) : O (List α) := if xs.length = 0 then .bad else .ok (xs.take (xs.length - 1))
theorem k_pop {xs : List α} {k : List T → R Sl β} : optK (stPop (xs.map e) []) .bad k = bO (popO xs) fun ys => k (ys.map e) := by
  unfold stPop popO; dsimp only; rw [List.length_map]
  by_cases h : xs.length = 0
  · rw [if_pos h, if_pos h]; rfl
  · rw [if_neg h, if_neg h, ← List.map_take]; rfl
def setT (xs : List T) (k : Int) (t : T) : Option (List T) := (ixN xs.length k).map fun j => xs.set j t
theorem putS_eq {i : Nat} {t : T} {k : Int} : putS i t (.int k) δ = optK (ownL δ i) .bad fun px => optK (setT px.2 k t) .bad fun xs' => .ok .next (δ.set i (.vis px.1 (.nd .ow .lst xs'))) := by
  unfold putS optK setT
  cases ownL δ i with
  | none => rfl
  | some p =>
    dsimp only
    cases ixN p.2.length k <;> rfl
theorem sPut1_eq {fz : Bool} {i : Nat} {fi : ES} : sPut1 fz i f fi δ = (f δ).bind fun t δ => if t.noLn = true then optK (ownL δ i) .bad (fun _ => (fi δ).bind fun kt δ => putS i (fzIf fz t) kt δ) else .bad := by
  unfold sPut1; congr 1; funext t δ
  unfold optK
  cases ownL δ i <;> rfl
def setO (xs : List α) (k : Int) (a : α) : O (List α) := match ixN xs.length k with
  | some j => .ok (xs.set j a)
  | none => .bad
theorem k_set {xs : List α} {a : α} {i : Int} {k : List T → R Sl β} : optK (setT (xs.map e) i (e a)) .bad k = bO (setO xs i a) fun ys => k (ys.map e) := by
  unfold setT setO; rw [List.length_map]
  cases ixN xs.length i with
  | none => rfl
  | some j => show k ((xs.map e).set j (e a)) = k ((xs.set j a).map e); rw [List.map_set]
theorem fzIfT {t : T} : fzIf true t = t.frz := rfl
theorem fzIfF {t : T} : fzIf false t = t := rfl
def iAny2 (f : ES) : IS := fun δ => (f δ).bind fun t δ => optK ((tupOf t.nrm).or (seqOf t.nrm)) .bad fun xs => .ok (t.noLn, xs) δ
theorem iAny2_eq {f : ES} : iAny f = iAny2 f := by
  funext δ
  unfold iAny iAny2 iTupS iSeq optK
  cases f δ with
  | exc x s => rfl
  | bad => rfl
  | ok t s =>
    have hi : isTup (R.ok t s : R Sl T) = (tupOf t.nrm).isSome := rfl
    have aux : ∀ (o o' : Option (List T)), (if o.isSome = true then (match o with
      | some xs => R.ok (t.noLn, xs) s
      | none => R.bad) else (match o' with
      | some xs => R.ok (t.noLn, xs) s
      | none => R.bad)) = (match o.or o' with
      | some a => R.ok (t.noLn, a) s
      | none => R.bad) := fun o o' => by cases o <;> cases o' <;> rfl
    rw [hi]
    simp only [bind_ok]
    generalize tupOf t.nrm = o1; generalize seqOf t.nrm = o2; cases o1 <;> cases o2 <;> rfl
theorem di_any2 {X : Cx} {W : WX} {e tg : Expr} {f : ES} (h : DE X W e f) : DI X W tg e (iAny2 f) := iAny2_eq ▸ di_any h
theorem or_none1 {o : Option α} : (none : Option α).or o = o := rfl
theorem or_some1 {a : α} {o : Option α} : (some a).or o = some a := rfl
theorem iEnumS_eq : iEnumS f δ = (f δ).bind fun t δ => optK (seqOf t.nrm) .bad fun xs => .ok (t.noLn, enumT xs) δ := by
  unfold iEnumS; congr 1; funext t δ; unfold optK; cases seqOf t.nrm <;> rfl
def enumI (xs : List α) : List (Int × α) := xs.zipIdx.map fun p => ((p.2 : Int), p.1)
theorem enum_map {fl : Fg} [h : TupF2 T.int e fl] {xs : List α} : enumT (xs.map e) = (enumI xs).map (eP2 fl T.int e) := by
  unfold enumT enumI
  rw [List.map_map, List.length_map]
  apply List.ext_getElem?
  intro i
  rw [List.getElem?_zipWith, List.getElem?_map, List.getElem?_map, List.getElem?_map, List.getElem?_zipIdx]
  by_cases h : i < xs.length
  · rw [List.getElem?_range h, List.getElem?_eq_getElem h]
    have : ∀ (i : Int) (a : α), pairT (.int i) (e a) = eP2 fl T.int e (i, a) := fun i a => mkN_p2 (e1 := T.int)
    simp [this]
  · rw [List.getElem?_eq_none (l := xs) (by omega)]
    simp
theorem iRg_eq {step : List T → Option (List T)} : iRg step g δ = (g δ).bind fun as δ => optK (valsOf as) .bad fun args => optK (step args) .bad fun xs => .ok (true, xs) δ := by
  unfold iRg; congr 1; funext as δ; unfold optK
  cases valsOf as with
  | none => rfl
  | some args => dsimp only; cases step args <;> rfl
def rgI (lo : Int) (n : Nat) : List Int := (List.range n).map fun (k : Nat) => lo + (k : Int)
theorem rgT_map {lo : Int} {n : Nat} : rgT lo n = (rgI lo n).map T.int := by unfold rgT rgI; rw [List.map_map]; rfl
def rgO (lo hi : Int) : O (List Int) := if rgOk lo hi = true then .ok (rgI lo (hi - lo).toNat) else .bad
theorem k_rg1 {j : Int} {k : List T → R Sl β} : optK (rg1 [.int j]) .bad k = bO (rgO 0 j) fun xs => k (xs.map T.int) := by
  unfold rg1 rgO; dsimp only; rw [Int.sub_zero, rgT_map]; by_cases h : rgOk 0 j = true
  · rw [if_pos h, if_pos h]; rfl
  · rw [if_neg h, if_neg h]; rfl
theorem k_rg2 {i j : Int} {k : List T → R Sl β} : optK (rg2 [.int i, .int j]) .bad k = bO (rgO i j) fun xs => k (xs.map T.int) := by
  unfold rg2 rgO; dsimp only; rw [rgT_map]; by_cases h : rgOk i j = true
  · rw [if_pos h, if_pos h]; rfl
  · rw [if_neg h, if_neg h]; rfl
theorem iArgs_eq {step : List T → Option (List T)} : iArgs step g δ = (g δ).bind fun as δ => optK (valsOf as) .bad fun args => if args.all notOw = true then optK (step args) .bad (fun xs => .ok (T.noLnL args, xs) δ) else .bad := by
  unfold iArgs; congr 1; funext as δ; unfold optK
  cases valsOf as with
  | none => rfl
  | some args => dsimp only; cases step args <;> rfl
theorem notOw_fz {k : Kd} {xs : List α} : notOw (eL .fz k e xs) = true := rfl
theorem notOw_ln {k : Kd} {xs : List α} : notOw (eL .ln k e xs) = true := rfl
theorem zip_map {f1 f2 : Fg} {e2 : β → T} {fl : Fg} [h : TupF2 e e2 fl] {xs : List α} {ys : List β} : zipT [eL f1 .lst e xs, eL f2 .lst e2 ys] = some ((xs.zip ys).map (eP2 fl e e2)) := by
  show some (List.zipWith pairT (xs.map e) (ys.map e2)) = _
  congr 1
  induction xs generalizing ys with
  | nil => rfl
  | cons x xs ih =>
    cases ys with
    | nil => rfl
    | cons y ys => simp only [List.map_cons, List.zipWith_cons_cons, List.zip_cons_cons, ih]; rw [show pairT (e x) (e2 y) = eP2 fl e e2 (x, y) from mkN_p2]
theorem gTp_eP2 {gs : GSs} {f : Fg} {e2 : β → T} {p : α × β} : gTp 2 gs (eP2 f e e2 p) δ = gs [e p.1, e2 p.2] δ := rfl
theorem gTp_eP3 {gs : GSs} {f : Fg} {e2 : β → T} {e3 : γ → T} {p : α × β × γ} : gTp 3 gs (eP3 f e e2 e3 p) δ = gs [e p.1, e2 p.2.1, e3 p.2.2] δ := rfl
theorem gTp_eP4 {gs : GSs} {f : Fg} {e2 : β → T} {e3 : γ → T} {e4 : ε → T} {p : α × β × γ × ε} : gTp 4 gs (eP4 f e e2 e3 e4 p) δ = gs [e p.1, e2 p.2.1, e3 p.2.2.1, e4 p.2.2.2] δ := rfl
theorem gCons_eq {g : GS} {gs : GSs} {t : T} {ts : List T} : gCons g gs (t :: ts) δ = (g t δ).bind fun _ δ => gs ts δ := rfl
theorem gNil_eq : gNil [] δ = .ok () δ := rfl
theorem gN_eq {i : Nat} {t : T} : gN i t δ = match δ[i]? with
  | some s => if s.pin = true then .bad else .ok () (δ.set i (.vis false t))
  | none => .bad := rfl
def tnK (r : R Sl Unit) (body : SS) : R Sl Flw := match r with
  | .ok _ δ => body δ
  | _ => .bad
theorem turnL_eq {body : SS} {t : T} : turnL gs body t δ = tnK (gs t δ) body := rfl
theorem tnK_ok {body : SS} : tnK (.ok () δ) body = body δ := rfl
theorem gNext_ok : gNext (.ok () δ) = .ok .next δ := rfl
theorem sFor_eq {f : IS} {body : SS} : sFor f gs body δ = (f δ).bind fun ci δ => if ci.1 = true then forL gs body ci.2 δ else .bad := rfl
def lcS {β : Type} (o : O (List β)) : O (List β) := match o with
  | .ok ys => szG ys
  | _ => .bad
theorem endLc_k {kp : List (Nat × T)} {e : β → T} {o : O (List β)} : endLc δ kp (lcR e δ o) = bO (lcS o) fun ys => optK (backL kp δ) .bad fun δ => .ok (eL .ow .lst e ys) δ := by
  rw [endLc_lcR]
  have h : (!δ.all Sl1.noLn || δ.all Sl1.noLn) = true := by cases δ.all Sl1.noLn <;> rfl
  simp only [h, if_true]
  unfold lcS optK
  cases o with
  | ok ys => dsimp only; congr 1; funext ys; cases backL kp δ <;> rfl
  | exc => rfl
  | bad => rfl
theorem eLc_eq {f : IS} {ft : Sl → R Sl Bool} {fe : ES} {vs : List Nat} : eLc f gs ft fe vs δ = (f δ).bind fun ci δ => optK (saveL vs δ) .bad fun kd => endLc kd.2 kd.1 (lcL gs ft fe vs ci.2 kd.2) := by
  unfold eLc optK; congr 1; funext ci δ; cases saveL vs δ <;> rfl
theorem saveL_nil : saveL [] δ = some ([], δ) := rfl
theorem saveL_cons {v : Nat} {vs : List Nat} : saveL (v :: vs) δ = match δ[v]? with
  | some .un => saveL vs δ
  | some (.vis false t) => (saveL vs (δ.set v .un)).map fun p => ((v, t) :: p.1, p.2)
  | _ => none := by rw [saveL]; try (rcases δ[v]? with _ | _ | ⟨_ | _, _⟩ | _ <;> rfl)
theorem backL_nil : backL [] δ = some δ := rfl
theorem backL_cons {v : Nat} {t : T} {r : List (Nat × T)} : backL ((v, t) :: r) δ = match δ[v]? with
  | some .un => backL r (δ.set v (.vis false t))
  | _ => none := by rw [backL]; try (rcases δ[v]? with _ | _ | _ | _ <;> rfl)
theorem blank_nil : blank [] δ = some δ := rfl
theorem blank_cons {v : Nat} {vs : List Nat} : blank (v :: vs) δ = match δ[v]? with
  | some s => if s.pin = true then none else blank vs (δ.set v .un)
  | none => none := by rw [blank]; try (cases δ[v]? <;> rfl)
theorem fgS_nil : fgS [] δ = δ := rfl
theorem fgS_cons {v : Nat} {vs : List Nat} : fgS (v :: vs) δ = fgS vs (fg1 v δ) := rfl
theorem shS_nil : shS [] δ = δ := rfl
theorem shS_cons {v : Nat} {vs : List Nat} : shS (v :: vs) δ = shS vs (showS v δ) := rfl
theorem hdS_nil : hdS [] δ = δ := rfl
theorem hdS_cons {v : Nat} {vs : List Nat} : hdS (v :: vs) δ = hdS vs (hideS v δ) := rfl
theorem outsL_nil : outsL [] δ = some [] := rfl
theorem outsL_f {ms : List Bool} {s : Sl1} : outsL (false :: ms) (s :: δ) = outsL ms δ := rfl
theorem outsL_v {ms : List Bool} {p : Bool} {t : T} : outsL (true :: ms) (.vis p t :: δ) = (outsL ms δ).map fun r => t :: r := rfl
theorem outsL_h {ms : List Bool} {p : Bool} {t : T} : outsL (true :: ms) (.hid p t :: δ) = (outsL ms δ).map fun r => t :: r := rfl
theorem mkR_nextK {ms : List Bool} : mkR ms (.ok .next δ) = optK (outsL ms δ) .bad fun outs => .ok .non outs := by rw [mkR_next]; unfold optK; cases outsL ms δ <;> rfl
theorem mkR_retK {ms : List Bool} {t : T} : mkR ms (.ok (.ret t) δ) = optK (outsL ms δ) .bad fun outs => .ok t outs := by rw [mkR_ret]; unfold optK; cases outsL ms δ <;> rfl
theorem ePopH_eq {i : Nat} : ePopH i δ = match δ[i]? with
  | some (.hid p t) => optK (ownT t) .bad fun xs => optK xs.getLast? .bad fun u => .ok u (δ.set i (.hid p (.nd .ow .lst xs.dropLast)))
  | _ => .bad := by
  unfold ePopH
  cases δ[i]? with
  | none => rfl
  | some s =>
    cases s with
    | un => rfl
    | vis p t => rfl
    | hid p t =>
      cases t with
      | nd f k xs => cases f <;> cases k <;> first | rfl | (dsimp only [ownT, optK]; cases xs.getLast? <;> rfl)
      | _ => rfl
def lastA (xs : List α) : O α := match xs.getLast? with
  | some a => .ok a
  | none => .bad
theorem k_last {xs : List α} {k : T → R Sl β} : optK (xs.map e).getLast? .bad k = bO (lastA xs) fun a => k (e a) := by unfold lastA optK; rw [List.getLast?_map]; cases xs.getLast? <;> rfl
theorem dropLast_map {xs : List α} : (xs.map e).dropLast = xs.dropLast.map e := List.map_dropLast.symm
theorem opt_some {t : T} : opt (some t) δ = .ok t δ := rfl
end
end TV
set_option Elab.async false
set_option linter.all false
set_option maxRecDepth 100000
set_option maxHeartbeats 4000000
namespace TV
open PySem PySem.Spec L2
section
variable {α β σ : Type}
def lcRS (e : β → T) (G : σ → Sl) (o : O (List β × σ)) : R Sl (List T) := match o with
  | .ok r => .ok (r.1.map e) (G r.2)
  | _ => .bad
def lcSS (o : O (List β × σ)) : O (List β × σ) := match o with
  | .ok r => if r.1.length ≤ sizeLine then .ok r else .bad
  | _ => .bad
theorem endLc_kS {δ0 : Sl} {G : σ → Sl} {kp : List (Nat × T)} {e : β → T} {o : O (List β × σ)} : endLc δ0 kp (lcRS e G o) = bO (lcSS o) fun r => if (!δ0.all Sl1.noLn || (G r.2).all Sl1.noLn) = true then optK (backL kp (G r.2)) .bad (fun δ => .ok (eL .ow .lst e r.1) δ) else .bad := by
  cases o with
  | ok r =>
    unfold endLc lcRS lcSS
    dsimp only
    rw [List.length_map]
    by_cases h1 : r.1.length ≤ sizeLine
    · by_cases h2 : (!δ0.all Sl1.noLn || (G r.2).all Sl1.noLn) = true
      · rw [if_pos h1, bO_ok, if_pos h2, if_pos ⟨h1, h2⟩]
        unfold optK
        cases backL kp (G r.2) <;> rfl
      · rw [if_pos h1, bO_ok, if_neg h2, if_neg fun z => h2 z.2]
    · rw [if_neg h1, if_neg fun z => h1 z.1]; rfl
  | exc => rfl
  | bad => rfl
theorem noLnS_un : Sl1.un.noLn = true := rfl
theorem noLnS_vis {p : Bool} {t : T} : (Sl1.vis p t).noLn = t.noLn := rfl
theorem noLnS_hid {p : Bool} {t : T} : (Sl1.hid p t).noLn = t.noLn := rfl
theorem tupOf_eP2 {f : Fg} {e : α → T} {p : α × α} : tupOf (eP2 f e e p) = some ([p.1, p.2].map e) := rfl
theorem tupOf_eP3 {f : Fg} {e : α → T} {p : α × α × α} : tupOf (eP3 f e e e p) = some ([p.1, p.2.1, p.2.2].map e) := rfl
theorem tupOf_eP4 {f : Fg} {e : α → T} {p : α × α × α × α} : tupOf (eP4 f e e e e p) = some ([p.1, p.2.1, p.2.2.1, p.2.2.2].map e) := rfl
theorem noLn_ln2 {e : α → T} {e2 : β → T} {p : α × β} : (eP2 .ln e e2 p).noLn = false := rfl
theorem noLn_ln3 {e : α → T} {e2 : β → T} {e3 : σ → T} {p : α × β × σ} : (eP3 .ln e e2 e3 p).noLn = false := rfl
theorem noLn_ln4 {τ : Type} {e : α → T} {e2 : β → T} {e3 : σ → T} {e4 : τ → T} {p : α × β × σ × τ} : (eP4 .ln e e2 e3 e4 p).noLn = false := rfl
theorem nrm_ln2 {e : α → T} {e2 : β → T} {p : α × β} : (eP2 .ln e e2 p).nrm = eP2 .ln e e2 p := rfl
theorem nrm_ln3 {e : α → T} {e2 : β → T} {e3 : σ → T} {p : α × β × σ} : (eP3 .ln e e2 e3 p).nrm = eP3 .ln e e2 e3 p := rfl
theorem nrm_ln4 {τ : Type} {e : α → T} {e2 : β → T} {e3 : σ → T} {e4 : τ → T} {p : α × β × σ × τ} : (eP4 .ln e e2 e3 e4 p).nrm = eP4 .ln e e2 e3 e4 p := rfl
theorem rootFz_ln2 {e : α → T} {e2 : β → T} {p : α × β} : (eP2 .ln e e2 p).rootFz = false := rfl
theorem rootFz_ln3 {e : α → T} {e2 : β → T} {e3 : σ → T} {p : α × β × σ} : (eP3 .ln e e2 e3 p).rootFz = false := rfl
theorem rootFz_ln4 {τ : Type} {e : α → T} {e2 : β → T} {e3 : σ → T} {e4 : τ → T} {p : α × β × σ × τ} : (eP4 .ln e e2 e3 e4 p).rootFz = false := rfl
/-- always seen for now -/
class LnE (e : α → T) : Prop where h : ∀ a, (e a).noLn = false
instance {k : Kd} {e : α → T} : LnE (eL .ln k e) := ⟨fun _ => rfl⟩
instance {e1 : α → T} {e2 : β → T} : LnE (eP2 .ln e1 e2) := ⟨fun _ => rfl⟩
instance {e1 : α → T} {e2 : β → T} {e3 : σ → T} : LnE (eP3 .ln e1 e2 e3) := ⟨fun _ => rfl⟩
instance {e1 : α → T} {e2 : β → T} [h : LnE e1] : LnE (eP2 .ow e1 e2) := ⟨fun _ => by simp [eP2, T.noLn, T.noLnL, h.h]⟩
theorem seqOf_owln {e e' : α → T} [h : LnE e] [h2 : LoanE e e'] {xs : List α} : seqOf (eL .ow .lst e xs).nrm = some (xs.map e') := by
  cases xs with
  | nil => rfl
  | cons x xs =>
    have hn : (eL .ow .lst e (x :: xs)).noLn = false := by unfold eL; rw [List.map_cons, T.noLn, T.noLnL, h.h]; rfl
    unfold T.nrm
    rw [hn]
    show seqOf (eL .ow .lst e (x :: xs)).loan = _
    rw [loanE]; rfl
theorem tupOf_owln {e e' : α → T} [h : LnE e] [h2 : LoanE e e'] {xs : List α} : tupOf (eL .ow .lst e xs).nrm = none := by
  cases xs with
  | nil => rfl
  | cons x xs =>
    have hn : (eL .ow .lst e (x :: xs)).noLn = false := by unfold eL; rw [List.map_cons, T.noLn, T.noLnL, h.h]; rfl
    unfold T.nrm
    rw [hn]
    show tupOf (eL .ow .lst e (x :: xs)).loan = _
    rw [loanE]; rfl
end
end TV
set_option Elab.async false
set_option linter.all false
set_option maxRecDepth 100000
set_option maxHeartbeats 4000000
namespace TV
open PySem PySem.Spec L2
section
variable {α β γ σ τ ρ : Type} {f f' : Fg} {e e' : α → T} {δ : Sl}
def lsO (lo hi : Int) : O (List Int) := if rgOk lo hi = true ∧ (hi - lo).toNat ≤ sizeLine then .ok (rgI lo (hi - lo).toNat) else .bad
theorem lsRg_eq {lo hi : Int} : lsRg lo hi δ = bO (lsO lo hi) fun xs => .ok (eL .ow .lst T.int xs) δ := by
  unfold lsRg lsO
  rw [rgT_map]
  by_cases h : rgOk lo hi = true ∧ (hi - lo).toNat ≤ sizeLine
  · rw [if_pos h, if_pos h]; rfl
  · rw [if_neg h, if_neg h]; rfl
theorem eLsRg1_eq {fa : ES} : eLsRg1 fa δ = (fa δ).bind fun t δ => match t with
  | .int j => lsRg 0 j δ
  | _ => .bad := rfl
theorem eLsRg2_eq {fa fb : ES} : eLsRg2 fa fb δ = (fa δ).bind fun s δ => (fb δ).bind fun t δ => match s, t with
  | .int i, .int j => lsRg i j δ
  | _, _ => .bad := rfl
theorem pickX_map {g : α → β} {xs : List α} {lo hi st : Option Int} : pickX (xs.map g) lo hi st = (pickX xs lo hi st).map g := by
  unfold pickX
  rw [List.length_map, List.map_filterMap]
  congr 1
  funext j
  rw [List.getElem?_map]
def pickO (xs : List α) (lo hi st : Option Int) : O (List α) := if st = some 0 then .bad else .ok (pickX xs lo hi st)
theorem pick_core {t : T} {xs : List α} {lo hi st : Option Int} (fl : Fg) (hf : fl ≠ .ow) (h : t.nrm = eL fl .lst e xs) : opt (gPick t lo hi st) δ = bO (pickO xs lo hi st) fun ys => .ok (eL .ow .lst e ys) δ := by
  unfold gPick pickO
  by_cases h0 : st = some 0
  · rw [if_pos h0, if_pos h0]; rfl
  · rw [if_neg h0, if_neg h0, h]
    unfold eL
    cases fl with
    | ow => exact absurd rfl hf
    | fz => dsimp only; rw [pickX_map]; rfl
    | ln => dsimp only; rw [pickX_map]; rfl
theorem o_pickF {xs : List α} {lo hi st : Option Int} : opt (gPick (eL .fz .lst e xs) lo hi st) δ = bO (pickO xs lo hi st) fun ys => .ok (eL .ow .lst e ys) δ := pick_core .fz (by intro z; cases z) rfl
theorem o_pickL {xs : List α} {lo hi st : Option Int} : opt (gPick (eL .ln .lst e xs) lo hi st) δ = bO (pickO xs lo hi st) fun ys => .ok (eL .ow .lst e ys) δ := pick_core .ln (by intro z; cases z) rfl
theorem o_pickW [NoLnE e] [FrzE e e'] {xs : List α} {lo hi st : Option Int} : opt (gPick (eL .ow .lst e xs) lo hi st) δ = bO (pickO xs lo hi st) fun ys => .ok (eL .ow .lst e' ys) δ := pick_core .fz (by intro z; cases z) (nrmE _)
def O.nx (o : O α) : O α := match o with
  | .ok a => .ok a
  | .exc _ _ => .bad
  | .bad => .bad
theorem nx_mut {o : OF α} : o.mut.nx = o.mut := by cases o <;> rfl
theorem nx_lift {o : OF α} {d : Sl} : (o.lift d).nx = o.mut := by cases o <;> rfl
theorem exM_bO {o : O α} {k : α → R Sl β} : exM (bO o k) = bO o.nx fun a => exM (k a) := by cases o <;> rfl
def dK (δ : Sl) (r : R (List T) T) : R Sl T := match r with
  | .ok t [_] => .ok t δ
  | _ => .bad
theorem eCallD_eq {ms : List Bool} {m : Fn} {g0 gr : AS} : eCallD ms m g0 gr δ = (g0 δ).bind fun a0 δ => optK ((valsOf a0).bind intsOf) .bad fun is => if is.length ≤ sizeLine then (exM (gr δ)).bind (fun a1 δ => optK (argsU ms a1) .bad fun args => dK δ (m (.nd .ow .lst (is.map T.int) :: args))) else .bad := by
  unfold eCallD
  congr 1; funext a0 δ
  unfold optK
  cases (valsOf a0).bind intsOf with
  | none => rfl
  | some is =>
    dsimp only
    by_cases h : is.length ≤ sizeLine
    · rw [if_pos h, if_pos h]
      congr 1; funext a1 δ
      cases argsU ms a1 with
      | none => rfl
      | some args =>
        dsimp only
        unfold dK
        cases m (.nd .ow .lst (is.map T.int) :: args) with
        | ok t l => cases l with
          | nil => rfl
          | cons a l => cases l <;> rfl
        | exc => rfl
        | bad => rfl
    · rw [if_neg h, if_neg h]
theorem dK_rP {er : ρ → T} {eo : ρ → List T} {o : OF ρ} : dK δ (rP er eo o) = bO o.mut fun r => dK δ (.ok (er r) (eo r)) := by cases o <;> rfl
theorem dK_ok {t o : T} : dK δ (.ok t [o]) = .ok t δ := rfl
theorem intsOf_nil : intsOf [] = some [] := rfl
theorem intsOf_cons {i : Int} {r : List T} : intsOf (.int i :: r) = (intsOf r).map fun is => i :: is := rfl
theorem argsU_nil : argsU [] [] = some [] := rfl
theorem argsU_v {ms : List Bool} {t : T} {r : List Ar} : argsU (false :: ms) (.val t :: r) = if t.rootFz = true then (argsU ms r).map (fun ts => t.frz :: ts) else none := rfl
theorem three_eq {g : T → T → T → Option T} {s t u : T} : three g [s, t, u] = g s t u := rfl
theorem four_eq {g : T → T → T → T → Option T} {s t u v : T} : four g [s, t, u, v] = g s t u v := rfl
theorem o_max3 {i j k : Int} : opt (gMax3 (.int i) (.int j) (.int k)) δ = .ok (.int (max2 (max2 i j) k)) δ := rfl
theorem o_min4 {i j k l : Int} : opt (gMin4 (.int i) (.int j) (.int k) (.int l)) δ = .ok (.int (min2 (min2 (min2 i j) k) l)) δ := rfl
def visT (δ : Sl) (i : Nat) : Option (Bool × T) := match δ[i]? with
  | some (.vis p t) => some (p, t)
  | _ => none
def inL (r k1 : T) : Option (List T × Nat × List T) := match r, k1 with
  | .nd .ow .lst xs, .int a => (ixN xs.length a).bind fun j => match xs[j]? with
    | some (.nd .ow .lst ys) => some (xs, j, ys)
    | _ => none
  | _, _ => none
def setK (q : List T × Nat × List T) (k2 u : T) : Option T := match k2 with
  | .int b => (ixN q.2.2.length b).map fun l => .nd .ow .lst (q.1.set q.2.1 (.nd .ow .lst (q.2.2.set l u)))
  | _ => none
def put2T (r k1 k2 u : T) : Option T := (inL r k1).bind fun q => setK q k2 u
theorem modify_eq : ∀ {xs : List T} {j : Nat} {t : T} {g : T → T}, xs[j]? = some t → xs.modify j g = xs.set j (g t)
  | _ :: _, 0, _, _, h => by simp at h; subst h; rfl
  | x :: xs, j + 1, t, g, h => by
    have := modify_eq (xs := xs) (j := j) (g := g) (by simpa using h)
    simp [List.modify, List.set] at this ⊢
    exact this
  | [], _, _, _, h => by simp at h
theorem sPut_aux {i : Nat} {p : Bool} {r k1 u : T} {o : Option T} (hd : δ[i]? = some (.vis p r)) : (match ptStep i δ [] k1 with
  | none => R.bad
  | some path => match o with
    | none => R.bad
    | some kt => putP i path u kt δ) = optK o .bad fun k2 => optK (put2T r k1 k2 u) .bad fun r' => R.ok Flw.next (δ.set i (.vis p r')) := by
  have hr : rootT δ i = some r := by unfold rootT; rw [hd]
  have none' : ∀ {α : Type} (o : Option α), (optK o (R.bad : R Sl Flw) fun _ => R.bad) = .bad := fun o => by cases o <;> rfl
  have nn : inL r k1 = none → (∀ path, ptStep i δ [] k1 = some path → ∀ kt, putP i path u kt δ = .bad) → (match ptStep i δ [] k1 with
    | none => R.bad
    | some path => match o with
      | none => R.bad
      | some kt => putP i path u kt δ) = optK o .bad fun k2 => optK (put2T r k1 k2 u) .bad fun r' => R.ok Flw.next (δ.set i (.vis p r')) := fun h1 h2 => by
    unfold put2T
    rw [h1]
    show _ = optK o (R.bad : R Sl Flw) fun k2 => R.bad
    rw [none']
    cases hp : ptStep i δ [] k1 with
    | none => rfl
    | some path =>
      dsimp only
      cases o with
      | none => rfl
      | some kt => exact h2 path hp kt
  cases hi : inL r k1 with
  | none =>
    refine nn hi fun path hp kt => ?_
    obtain ⟨k, t, xs, j, e1, e2, e3, e4, e5⟩ := ptStep_some hp
    rw [hr] at e2; cases e2
    have e3 : some r = some (T.nd .ow .lst xs) := e3
    cases e3
    subst e1 e5
    unfold inL at hi
    dsimp only at hi
    rw [e4] at hi
    unfold putP
    rw [hd]
    show (match (xs[j]?).bind (T.get []) with
      | some (.nd .ow .lst ys) => _
      | _ => R.bad) = .bad
    cases hx : xs[j]? with
    | none => rfl
    | some v =>
      simp only [Option.bind_some, hx, T.get] at hi ⊢
      split at hi
      · cases hi
      · rename_i hne
        first
          | rfl
          | (split
             · rename_i ys e; cases e; exact absurd rfl (hne ys)
             · rfl)
  | some q =>
    obtain ⟨xs, j, ys⟩ := q
    unfold inL at hi
    split at hi
    · rename_i zs a
      cases hj : ixN zs.length a with
      | none => rw [hj] at hi; cases hi
      | some l =>
        rw [hj] at hi
        simp only [Option.bind_some] at hi
        split at hi
        · rename_i ws hx
          cases hi
          have hp : ptStep i δ [] (.int a) = some [j] := by
            unfold ptStep
            rw [hr]
            show (ixN xs.length a).map _ = _
            rw [hj]; rfl
          rw [hp]
          unfold put2T inL
          dsimp only
          rw [hj]
          simp only [Option.bind_some, hx]
          cases o with
          | none => rfl
          | some kt =>
            show putP i [j] u kt δ = optK (setK (xs, j, ys) kt u) .bad _
            unfold putP setK
            rw [hd]
            simp only [T.get, hx, Option.bind_some]
            cases kt with
            | int b =>
              dsimp only
              cases ixN ys.length b with
              | none => rfl
              | some l =>
                simp only [Option.map_some, optK]
                congr 3
                show T.nd .ow .lst (xs.modify j fun t => T.put [] t _) = _
                rw [modify_eq hx]; rfl
            | _ => rfl
        · cases hi
    · cases hi
theorem sPut_eq {fz : Bool} {i : Nat} {f1 fk : Sl → Option T} {f : ES} : sPut fz i (ptIx i (ptN i) f1) f fk δ = (f δ).bind fun t δ => if t.noLn = true then optK (visT δ i) .bad (fun pr => optK (f1 δ) .bad fun k1 => optK (fk δ) .bad fun k2 => optK (put2T pr.2 k1 k2 (fzIf fz t)) .bad fun r' => .ok .next (δ.set i (.vis pr.1 r'))) else .bad := by
  unfold sPut
  congr 1; funext t δ
  by_cases hn : t.noLn = true
  · rw [if_pos hn, if_pos hn]
    unfold ptIx ptN visT
    cases hd : δ[i]? with
    | none => unfold rootT; rw [hd]; rfl
    | some s =>
      cases s with
      | un => unfold rootT; rw [hd]; rfl
      | hid p r => unfold rootT; rw [hd]; rfl
      | vis p r =>
        have hr : rootT δ i = some r := by unfold rootT; rw [hd]
        rw [hr]
        dsimp only
        cases f1 δ with
        | none => rfl
        | some k1 => exact sPut_aux hd
  · rw [if_neg hn, if_neg hn]
theorem visT_eq {i : Nat} : visT δ i = match δ[i]? with
  | some (.vis p t) => some (p, t)
  | _ => none := rfl
theorem pVar_eq {i : Nat} : pVar i δ = match δ[i]? with
  | some (.vis _ t) => some t.loan
  | _ => none := rfl
theorem pBin_eq {g : T → T → Option T} {fa fb : Sl → Option T} : pBin g fa fb δ = (fa δ).bind fun x => (fb δ).bind fun y => g x y := rfl
theorem gII_add {a b : Int} : gII (fun _ _ => true) (fun i j => i + j) (.int a) (.int b) = some (.int (a + b)) := rfl
theorem gII_sub {a b : Int} : gII (fun _ _ => true) (fun i j => i - j) (.int a) (.int b) = some (.int (a - b)) := rfl
def set2O (xss : List (List α)) (a b : Int) (v : α) : O (List (List α)) := match ixN xss.length a with
  | some j => (match xss[j]? with
    | some ys => (match ixN ys.length b with
      | some l => .ok (xss.set j (ys.set l v))
      | none => .bad)
    | none => .bad)
  | none => .bad
theorem k_set2 {xss : List (List α)} {a b : Int} {v : α} {k : T → R Sl β} : optK (put2T (eL .ow .lst (eL .ow .lst e) xss) (.int a) (.int b) (e v)) .bad k = bO (set2O xss a b v) fun yss => k (eL .ow .lst (eL .ow .lst e) yss) := by
  unfold put2T inL set2O
  show optK (((ixN (xss.map _).length a).bind _).bind _) .bad k = _
  rw [List.length_map]
  cases ixN xss.length a with
  | none => rfl
  | some j =>
    dsimp only
    simp only [Option.bind_some, List.getElem?_map]
    cases hx : xss[j]? with
    | none => rfl
    | some ys =>
      show optK (setK (xss.map (eL .ow .lst e), j, ys.map e) (.int b) (e v)) .bad k = _
      unfold setK
      dsimp only
      rw [List.length_map]
      cases ixN ys.length b with
      | none => rfl
      | some l =>
        show k _ = k _
        congr 1
        unfold eL
        congr 1
        rw [List.map_set, List.map_set]
end
end TV
set_option Elab.async false
set_option linter.all false
set_option maxRecDepth 100000
set_option maxHeartbeats 4000000
namespace TV
open PySem PySem.Spec L2
section
variable {α β γ σ τ ρ : Type} {f f' : Fg} {e e' : α → T} {δ : Sl}
def methT1 (r k1 : T) (g : List T → Option (List T)) : Option T := (inL r k1).bind fun q => (g q.2.2).map fun ys => .nd .ow .lst (q.1.set q.2.1 (.nd .ow .lst ys))
theorem sMethP_aux {i : Nat} {p : Bool} {r k1 : T} {args : List T} {step : List T → List T → Option (List T)} (hd : δ[i]? = some (.vis p r)) (hz : T.noLnL args = true) : (match ptStep i δ [] k1 with
  | none => R.bad
  | some path => match δ[i]? with
    | some (.vis p rt) => (match T.get path rt with
      | some (.nd .ow .lst xs) => (match step xs args with
        | some xs' => if T.noLnL args = true then .ok Flw.next (δ.set i (.vis p (T.put path rt (.nd .ow .lst xs')))) else .bad
        | none => .bad)
      | _ => .bad)
    | _ => .bad) = optK (methT1 r k1 fun xs => step xs args) .bad fun r' => R.ok Flw.next (δ.set i (.vis p r')) := by
  have hr : rootT δ i = some r := by unfold rootT; rw [hd]
  have bd : inL r k1 = none → ptStep i δ [] k1 = none ∨ (∃ path, ptStep i δ [] k1 = some path ∧ ∀ xs, T.get path r ≠ some (.nd .ow .lst xs)) := fun h => by
    cases hp : ptStep i δ [] k1 with
    | none => exact .inl rfl
    | some path =>
      refine .inr ⟨path, rfl, fun xs hx => ?_⟩
      obtain ⟨k, t, ys, j, e1, e2, e3, e4, e5⟩ := ptStep_some hp
      rw [hr] at e2; cases e2
      have e3 : some r = some (T.nd .ow .lst ys) := e3
      cases e3
      subst e1 e5
      unfold inL at h
      dsimp only at h
      rw [e4] at h
      have hx : (ys[j]?).bind (T.get []) = some (.nd .ow .lst xs) := hx
      cases hy : ys[j]? with
      | none => rw [hy] at hx; cases hx
      | some v =>
        rw [hy] at hx
        have hx : some v = some (T.nd .ow .lst xs) := hx
        cases hx
        simp only [Option.bind_some, hy] at h
        cases h
  unfold methT1
  cases hi : inL r k1 with
  | none =>
    rcases bd hi with hp | ⟨path, hp, hx⟩
    · rw [hp]; rfl
    · rw [hp, hd]
      dsimp only [Option.bind_none, optK]
      split
      · rename_i xs e; exact absurd e (hx xs)
      · rfl
  | some q =>
    obtain ⟨xs, j, ys⟩ := q
    unfold inL at hi
    split at hi
    · rename_i zs a
      cases hj : ixN zs.length a with
      | none => rw [hj] at hi; cases hi
      | some l =>
        rw [hj] at hi
        simp only [Option.bind_some] at hi
        split at hi
        · rename_i ws hx
          cases hi
          have hp : ptStep i δ [] (.int a) = some [j] := by
            unfold ptStep
            rw [hr]
            show (ixN xs.length a).map _ = _
            rw [hj]; rfl
          have hg : T.get [j] (.nd .ow .lst xs) = some (.nd .ow .lst ys) := by
            show (xs[j]?).bind (T.get []) = _
            rw [hx]; rfl
          rw [hp, hd]
          dsimp only
          rw [hg]
          dsimp only [Option.bind_some]
          cases step ys args with
          | none => rfl
          | some xs' =>
            dsimp only [Option.map_some, optK]
            rw [if_pos hz]
            have : T.put [j] (.nd .ow .lst xs) (.nd .ow .lst xs') = .nd .ow .lst (xs.set j (.nd .ow .lst xs')) := by
              show T.nd .ow .lst (xs.modify j fun t => T.put [] t _) = _
              rw [modify_eq hx]; rfl
            rw [this]
        · cases hi
    · cases hi
theorem sMethP_gen {i : Nat} {args : List T} {step : List T → List T → Option (List T)} {f1 : Sl → Option T} (hz : T.noLnL args = true) : sMethP i (ptIx i (ptN i) f1) args step δ = optK (visT δ i) .bad fun pr => optK (f1 δ) .bad fun k1 => optK (methT1 pr.2 k1 fun xs => step xs args) .bad fun r' => .ok .next (δ.set i (.vis pr.1 r')) := by
  unfold sMethP ptIx ptN visT
  cases hd : δ[i]? with
  | none => unfold rootT; rw [hd]; rfl
  | some s =>
    cases s with
    | un => unfold rootT; rw [hd]; rfl
    | hid p r => unfold rootT; rw [hd]; rfl
    | vis p r =>
      have hr : rootT δ i = some r := by unfold rootT; rw [hd]
      rw [hr]
      dsimp only
      cases f1 δ with
      | none => rfl
      | some k1 =>
        have := sMethP_aux (k1 := k1) (step := step) hd hz
        rw [hd] at this
        exact this
theorem sMethP_c {i : Nat} {c : Int} {step : List T → List T → Option (List T)} {f1 : Sl → Option T} : sMethP i (ptIx i (ptN i) f1) [.int c] step δ = optK (visT δ i) .bad fun pr => optK (f1 δ) .bad fun k1 => optK (methT1 pr.2 k1 fun xs => step xs [.int c]) .bad fun r' => .ok .next (δ.set i (.vis pr.1 r')) := sMethP_gen rfl
theorem sMethP_0 {i : Nat} {step : List T → List T → Option (List T)} {f1 : Sl → Option T} : sMethP i (ptIx i (ptN i) f1) [] step δ = optK (visT δ i) .bad fun pr => optK (f1 δ) .bad fun k1 => optK (methT1 pr.2 k1 fun xs => step xs []) .bad fun r' => .ok .next (δ.set i (.vis pr.1 r')) := sMethP_gen rfl
/-- a step at a place of a list of lists -/
def at2O (xss : List (List α)) (k : Int) (g : List α → O (List α)) : O (List (List α)) := match ixN xss.length k with
  | some j => (match xss[j]? with
    | some ys => (g ys).bind fun zs => .ok (xss.set j zs)
    | none => .bad)
  | none => .bad
def app2O (xss : List (List α)) (k : Int) (v : α) : O (List (List α)) := at2O xss k fun ys => appO ys v
def pop2O (xss : List (List α)) (k : Int) : O (List (List α)) := at2O xss k popO
def clear2O (xss : List (List α)) (k : Int) : O (List (List α)) := at2O xss k fun _ => .ok []
theorem at2_core {xss : List (List α)} {a : Int} {g : List T → Option (List T)} {g' : List α → O (List α)} {k : T → R Sl β} (h : ∀ (ys : List α) (k : List T → R Sl β), optK (g (ys.map e)) .bad k = bO (g' ys) fun zs => k (zs.map e)) : optK (methT1 (eL .ow .lst (eL .ow .lst e) xss) (.int a) g) .bad k = bO (at2O xss a g') fun yss => k (eL .ow .lst (eL .ow .lst e) yss) := by
  unfold methT1 inL at2O
  show optK (((ixN (xss.map _).length a).bind _).bind _) .bad k = _
  rw [List.length_map]
  cases ixN xss.length a with
  | none => rfl
  | some j =>
    dsimp only
    simp only [Option.bind_some, List.getElem?_map]
    cases hx : xss[j]? with
    | none => rfl
    | some ys =>
      show optK ((g (ys.map e)).map fun zs => T.nd .ow .lst ((xss.map (eL .ow .lst e)).set j (.nd .ow .lst zs))) .bad k = _
      have := h ys fun zs => k (T.nd .ow .lst ((xss.map (eL .ow .lst e)).set j (.nd .ow .lst zs)))
      have e1 : optK ((g (ys.map e)).map fun zs => T.nd .ow .lst ((xss.map (eL .ow .lst e)).set j (.nd .ow .lst zs))) .bad k = optK (g (ys.map e)) .bad fun zs => k (T.nd .ow .lst ((xss.map (eL .ow .lst e)).set j (.nd .ow .lst zs))) := by
        cases g (ys.map e) <;> rfl
      rw [e1, this]
      dsimp only
      rw [bO_bind]
      congr 1; funext zs
      show k _ = k _
      congr 1
      show T.nd .ow .lst _ = T.nd .ow .lst ((xss.set j zs).map (eL .ow .lst e))
      rw [List.map_set]; rfl
theorem k_app2 {xss : List (List α)} {a : Int} {v : α} {k : T → R Sl β} : optK (methT1 (eL .ow .lst (eL .ow .lst e) xss) (.int a) fun xs => stApp xs [e v]) .bad k = bO (app2O xss a v) fun yss => k (eL .ow .lst (eL .ow .lst e) yss) := at2_core fun ys k => k_app
theorem k_app2i {xss : List (List Int)} {a : Int} {v : Int} {k : T → R Sl β} : optK (methT1 (eL .ow .lst (eL .ow .lst T.int) xss) (.int a) fun xs => stApp xs [.int v]) .bad k = bO (app2O xss a v) fun yss => k (eL .ow .lst (eL .ow .lst T.int) yss) := k_app2
theorem k_pop2 {xss : List (List α)} {a : Int} {k : T → R Sl β} : optK (methT1 (eL .ow .lst (eL .ow .lst e) xss) (.int a) fun xs => stPop xs []) .bad k = bO (pop2O xss a) fun yss => k (eL .ow .lst (eL .ow .lst e) yss) := at2_core fun ys k => k_pop
theorem k_clear2 {xss : List (List α)} {a : Int} {k : T → R Sl β} : optK (methT1 (eL .ow .lst (eL .ow .lst e) xss) (.int a) fun xs => stClear xs []) .bad k = bO (clear2O xss a) fun yss => k (eL .ow .lst (eL .ow .lst e) yss) := at2_core fun ys k => k_clear
end
end TV
set_option Elab.async false
set_option linter.all false
set_option maxRecDepth 100000
set_option maxHeartbeats 4000000
namespace TV
open PySem PySem.Spec L2
section
variable {α β γ ε σ τ ρ : Type} {f f' : Fg} {e e' : α → T} {δ : Sl}
theorem inD_map [DecidableEq α] [h : EqvE e' e] (x : α) : ∀ xs : List α, inD (e x) (xs.map e') = decide (x ∈ xs)
  | [] => rfl
  | y :: ys => by
    show ((e' y).eqv (e x) || inD (e x) (ys.map e')) = _
    rw [h.h, inD_map x ys]
    by_cases h1 : y = x
    · simp [h1]
    · by_cases h2 : x ∈ ys
      · simp [h2]
      · have : ¬ x = y := fun z => h1 z.symm
        simp [h1, h2, this]
def memB [DecidableEq α] (x : α) (xs : List α) : Bool := decide (x ∈ xs)
theorem o_inD [DecidableEq α] [h1 : OkDE 60 e] [h2 : OkDE 59 e'] [h3 : EqvE e' e] {neg : Bool} {x : α} {xs : List α} : opt (gInD neg (e x) (eL f .lst e' xs)) δ = .ok (.bl (if neg = true then !memB x xs else memB x xs)) δ := by
  have h : OkDE 60 (eL f .lst e') := inferInstance
  unfold gInD
  rw [itemsOf_eL]
  show opt (if (e x).okD 60 = true ∧ (eL f .lst e' xs).okD 60 = true then _ else _) δ = _
  rw [if_pos ⟨h1.h x, h.h xs⟩, inD_map]; rfl
theorem o_inD_t2 [DecidableEq α] {e1 e2 : α → T} [h1 : OkDE 60 e] [h2 : OkDE 59 e1] [h3 : OkDE 59 e2] [h4 : EqvE e1 e] [h5 : EqvE e2 e] {neg : Bool} {x : α} {p : α × α} : opt (gInD neg (e x) (eP2 f e1 e2 p)) δ = .ok (.bl (if neg = true then !memB x [p.1, p.2] else memB x [p.1, p.2])) δ := by
  have h : (eP2 f e1 e2 p).okD 60 = true := by
    show T.okDL 59 [e1 p.1, e2 p.2] = true
    simp [T.okDL, h2.h, h3.h]
  unfold gInD
  show opt (if (e x).okD 60 = true ∧ (eP2 f e1 e2 p).okD 60 = true then _ else _) δ = _
  rw [if_pos ⟨h1.h x, h⟩]
  have : inD (e x) [e1 p.1, e2 p.2] = decide (x ∈ [p.1, p.2]) := by
    show ((e1 p.1).eqv (e x) || ((e2 p.2).eqv (e x) || false)) = _
    rw [h4.h, h5.h]
    by_cases a : p.1 = x <;> by_cases b : p.2 = x <;> simp [a, b, eq_comm (a := x)]
  rw [this]; rfl
theorem o_inD_t3 [DecidableEq α] {e1 e2 e3 : α → T} [h1 : OkDE 60 e] [h2 : OkDE 59 e1] [h3 : OkDE 59 e2] [h6 : OkDE 59 e3] [h4 : EqvE e1 e] [h5 : EqvE e2 e] [h7 : EqvE e3 e] {neg : Bool} {x : α} {p : α × α × α} : opt (gInD neg (e x) (eP3 f e1 e2 e3 p)) δ = .ok (.bl (if neg = true then !memB x [p.1, p.2.1, p.2.2] else memB x [p.1, p.2.1, p.2.2])) δ := by
  have h : (eP3 f e1 e2 e3 p).okD 60 = true := by
    show T.okDL 59 [e1 p.1, e2 p.2.1, e3 p.2.2] = true
    simp [T.okDL, h2.h, h3.h, h6.h]
  unfold gInD
  show opt (if (e x).okD 60 = true ∧ (eP3 f e1 e2 e3 p).okD 60 = true then _ else _) δ = _
  rw [if_pos ⟨h1.h x, h⟩]
  have : inD (e x) [e1 p.1, e2 p.2.1, e3 p.2.2] = decide (x ∈ [p.1, p.2.1, p.2.2]) := by
    show ((e1 p.1).eqv (e x) || ((e2 p.2.1).eqv (e x) || ((e3 p.2.2).eqv (e x) || false))) = _
    rw [h4.h, h5.h, h7.h]
    by_cases a : p.1 = x <;> by_cases b : p.2.1 = x <;> by_cases c : p.2.2 = x <;> simp [a, b, c, eq_comm (a := x)]
  rw [this]; rfl
theorem eBm_eq {n : String} {g : T → List T → Option T} {fb : ES} {fa : AS} : eBm n g fb fa δ = (fb δ).bind fun t δ => if tyOf n t = true then (fa δ).bind fun as δ => bmS g t as δ else .bad := rfl
theorem tyOf_eL {xs : List α} : tyOf "list" (eL f .lst e xs) = true := rfl
theorem tyOf_str {x : Str} : tyOf "str" (.str x) = true := rfl
theorem bmS_eq {g : T → List T → Option T} {t : T} {as : List Ar} : bmS g t as δ = optK (valsOf as) .bad fun ys => opt (g t ys) δ := by unfold bmS optK; cases valsOf as <;> rfl
def idxI [DecidableEq α] (x : α) : List α → Option Nat
  | [] => none
  | y :: ys => if y = x then some 0 else (idxI x ys).map (· + 1)
def idxO [DecidableEq α] (x : α) (xs : List α) : O Int := match idxI x xs with
  | some j => .ok (j : Int)
  | none => .bad
theorem idxD_map [DecidableEq α] [h : EqvE e' e] (x : α) : ∀ xs : List α, idxD (e x) (xs.map e') = idxI x xs
  | [] => rfl
  | y :: ys => by
    rw [List.map_cons, idxD, h.h, idxI, idxD_map x ys]
    by_cases h1 : y = x <;> simp [h1]
theorem o_index [DecidableEq α] [h1 : OkDE 60 e] [h2 : OkDE 59 e'] [h3 : EqvE e' e] {x : α} {xs : List α} : opt (gIndex (eL f .lst e' xs) [e x]) δ = bO (idxO x xs) fun j => .ok (.int j) δ := by
  show opt (if (e x).okD 60 = true ∧ T.okDL 59 (xs.map e') = true then (idxD (e x) (xs.map e')).map (fun j => T.int (j : Int)) else none) δ = _
  rw [if_pos ⟨h1.h x, okDL_map xs⟩, idxD_map]
  unfold idxO
  cases idxI x xs <;> rfl
class PLt (α : Type) where lt : α → α → Bool
instance : PLt Int := ⟨fun a b => decide (a < b)⟩
instance [DecidableEq α] [PLt α] [PLt β] : PLt (α × β) := ⟨fun p q => if p.1 = q.1 then PLt.lt p.2 q.2 else PLt.lt p.1 q.1⟩
def lexB [DecidableEq α] [PLt α] : List α → List α → Bool
  | [], [] => false
  | [], _ :: _ => true
  | _ :: _, [] => false
  | x :: xs, y :: ys => if x = y then lexB xs ys else PLt.lt x y
instance [DecidableEq α] [PLt α] : PLt (List α) := ⟨lexB⟩
/-- Python's order of what e gives is PLt's -/
class OrdE [DecidableEq α] [PLt α] (e : α → T) : Prop where
  al : ∀ a b, PySem.W.alike (e a).toD (e b).toD = true
  lt : ∀ a b, PySem.W.dataLt (e a).toD (e b).toD = PLt.lt a b
  eq : ∀ a b, PyData.eqv (e a).toD (e b).toD = decide (a = b)
instance : OrdE T.int := ⟨fun a b => by simp [T.toD, PySem.W.alike], fun a b => by
  show PySem.W.dataLt (.int a) (.int b) = decide (a < b)
  show PyProof.Rows.lexLt PyProof.Rows.itemOrd [.inl a] [.inl b] = _
  rw [PySem.W.lex_one]; rfl, fun a b => by
  rw [T.eqv_toD 60 60 _ _ rfl rfl]
  have : EqvE T.int T.int := inferInstance
  exact this.h a b⟩
theorem dataLt_cons2 {x y : PyData} (h : PySem.W.alike x y = true) (xs ys : List PyData) : PyProof.Rows.lexLt PyProof.Rows.itemOrd (PySem.W.keyToksAll (x :: xs)) (PySem.W.keyToksAll (y :: ys)) = if PyData.eqv x y = true then PyProof.Rows.lexLt PyProof.Rows.itemOrd (PySem.W.keyToksAll xs) (PySem.W.keyToksAll ys) else PySem.W.dataLt x y := PySem.W.dataLt_cons h xs ys
theorem lex_nil2 : PyProof.Rows.lexLt PyProof.Rows.itemOrd (PySem.W.keyToksAll []) (PySem.W.keyToksAll []) = false := rfl
theorem alikeAll_map [DecidableEq α] [PLt α] [h : OrdE e] : ∀ xs ys : List α, PySem.W.alikeAll ((xs.map e).map T.toD) ((ys.map e).map T.toD) = true
  | [], _ => by simp [PySem.W.alikeAll]
  | _ :: _, [] => by simp [PySem.W.alikeAll]
  | x :: xs, y :: ys => by
    simp only [List.map_cons, PySem.W.alikeAll, h.al, alikeAll_map xs ys, Bool.and_self]
theorem lexAll_map [DecidableEq α] [PLt α] [h : OrdE e] : ∀ xs ys : List α, PyProof.Rows.lexLt PyProof.Rows.itemOrd (PySem.W.keyToksAll ((xs.map e).map T.toD)) (PySem.W.keyToksAll ((ys.map e).map T.toD)) = lexB xs ys
  | [], [] => rfl
  | [], y :: ys => by
    simp only [List.map_nil, List.map_cons, lexB]
    exact PyProof.Rows.lex_diff (O := PyProof.Rows.itemOrd) (by decide)
  | x :: xs, [] => by
    simp only [List.map_nil, List.map_cons, lexB]
    exact PyProof.Rows.lex_diff (O := PyProof.Rows.itemOrd) (by decide)
  | x :: xs, y :: ys => by
    simp only [List.map_cons]
    rw [dataLt_cons2 (h.al x y), h.eq, h.lt, lexAll_map xs ys, lexB]
    by_cases z : x = y <;> simp [z]
theorem eqvAll_map2 [DecidableEq α] [PLt α] [h : OrdE e] : ∀ xs ys : List α, PyData.eqvAll ((xs.map e).map T.toD) ((ys.map e).map T.toD) = decide (xs = ys)
  | [], [] => rfl
  | [], _ :: _ => rfl
  | _ :: _, [] => rfl
  | x :: xs, y :: ys => by
    simp only [List.map_cons]
    rw [PyData.eqvAll, h.eq, eqvAll_map2 xs ys]
    by_cases a : x = y <;> by_cases b : xs = ys <;> simp [a, b]
instance [DecidableEq α] [PLt α] [h : OrdE e] : OrdE (eL f .lst e) := ⟨fun xs ys => by
    show PySem.W.alike (.list (T.toDL (xs.map e))) (.list (T.toDL (ys.map e))) = true
    rw [toDL_map, toDL_map, PySem.W.alike, alikeAll_map], fun xs ys => by
    show PySem.W.dataLt (.list (T.toDL (xs.map e))) (.list (T.toDL (ys.map e))) = _
    rw [toDL_map, toDL_map, PySem.W.dataLt_list, lexAll_map]; rfl, fun xs ys => by
    show PyData.eqv (.list (T.toDL (xs.map e))) (.list (T.toDL (ys.map e))) = _
    rw [toDL_map, toDL_map, PyData.eqv, eqvAll_map2]⟩
instance [DecidableEq α] [DecidableEq β] [PLt α] [PLt β] {e1 : α → T} {e2 : β → T} [h1 : OrdE e1] [h2 : OrdE e2] : OrdE (eP2 f e1 e2) := ⟨fun p q => by
    show PySem.W.alike (.tuple [(e1 p.1).toD, (e2 p.2).toD]) (.tuple [(e1 q.1).toD, (e2 q.2).toD]) = true
    simp [PySem.W.alike, PySem.W.alikeAll, h1.al, h2.al], fun p q => by
    show PySem.W.dataLt (.tuple [(e1 p.1).toD, (e2 p.2).toD]) (.tuple [(e1 q.1).toD, (e2 q.2).toD]) = if p.1 = q.1 then PLt.lt p.2 q.2 else PLt.lt p.1 q.1
    rw [PySem.W.dataLt_tuple, dataLt_cons2 (h1.al _ _), dataLt_cons2 (h2.al _ _), h1.eq, h1.lt, h2.eq, h2.lt, lex_nil2]
    by_cases a : p.1 = q.1
    · by_cases b : p.2 = q.2
      · have := h2.lt p.2 p.2
        have hs : PLt.lt p.2 p.2 = false := by rw [← this]; exact PyProof.Rows.lex_irrefl _
        rw [if_pos (by simpa using a), if_pos (by simpa using b), if_pos a, ← b, hs]
      · rw [if_pos (by simpa using a), if_neg (by simpa using b), if_pos a]
    · rw [if_neg (by simpa using a), if_neg a], fun p q => by
    show PyData.eqv (.tuple [(e1 p.1).toD, (e2 p.2).toD]) (.tuple [(e1 q.1).toD, (e2 q.2).toD]) = _
    rw [PyData.eqv, PyData.eqvAll, PyData.eqvAll, PyData.eqvAll, h1.eq, h2.eq]
    by_cases a : p.1 = q.1 <;> by_cases b : p.2 = q.2 <;> simp [a, b, Prod.ext_iff]⟩
instance [DecidableEq α] [DecidableEq β] [DecidableEq γ] [PLt α] [PLt β] [PLt γ] {e1 : α → T} {e2 : β → T} {e3 : γ → T} [h1 : OrdE e1] [h2 : OrdE e2] [h3 : OrdE e3] : OrdE (eP3 f e1 e2 e3) := ⟨fun p q => by
    show PySem.W.alike (.tuple [(e1 p.1).toD, (e2 p.2.1).toD, (e3 p.2.2).toD]) (.tuple [(e1 q.1).toD, (e2 q.2.1).toD, (e3 q.2.2).toD]) = true
    simp [PySem.W.alike, PySem.W.alikeAll, h1.al, h2.al, h3.al], fun p q => by
    show PySem.W.dataLt (.tuple [(e1 p.1).toD, (e2 p.2.1).toD, (e3 p.2.2).toD]) (.tuple [(e1 q.1).toD, (e2 q.2.1).toD, (e3 q.2.2).toD]) = if p.1 = q.1 then (if p.2.1 = q.2.1 then PLt.lt p.2.2 q.2.2 else PLt.lt p.2.1 q.2.1) else PLt.lt p.1 q.1
    rw [PySem.W.dataLt_tuple, dataLt_cons2 (h1.al _ _), dataLt_cons2 (h2.al _ _), dataLt_cons2 (h3.al _ _), h1.eq, h1.lt, h2.eq, h2.lt, h3.eq, h3.lt, lex_nil2]
    by_cases a : p.1 = q.1
    · by_cases b : p.2.1 = q.2.1
      · by_cases c : p.2.2 = q.2.2
        · have := h3.lt p.2.2 p.2.2
          have hs : PLt.lt p.2.2 p.2.2 = false := by rw [← this]; exact PyProof.Rows.lex_irrefl _
          rw [if_pos (by simpa using a), if_pos (by simpa using b), if_pos (by simpa using c), if_pos a, if_pos b, ← c, hs]
        · rw [if_pos (by simpa using a), if_pos (by simpa using b), if_neg (by simpa using c), if_pos a, if_pos b]
      · rw [if_pos (by simpa using a), if_neg (by simpa using b), if_pos a, if_neg b]
    · rw [if_neg (by simpa using a), if_neg a], fun p q => by
    show PyData.eqv (.tuple [(e1 p.1).toD, (e2 p.2.1).toD, (e3 p.2.2).toD]) (.tuple [(e1 q.1).toD, (e2 q.2.1).toD, (e3 q.2.2).toD]) = _
    rw [PyData.eqv, PyData.eqvAll, PyData.eqvAll, PyData.eqvAll, PyData.eqvAll, h1.eq, h2.eq, h3.eq]
    by_cases a : p.1 = q.1 <;> by_cases b : p.2.1 = q.2.1 <;> by_cases c : p.2.2 = q.2.2 <;> simp [a, b, c, Prod.ext_iff]⟩
def leP [PLt α] (a b : α) : Bool := !PLt.lt b a
def srtI [PLt α] (xs : List α) : List α := xs.mergeSort leP
class SrtE (e : α → T) : Prop where h : (∀ a, isTupT (e a) = true) ∨ ∀ a, noTupT (e a) = true
instance : SrtE T.int := ⟨.inr fun _ => rfl⟩
instance : SrtE (eL f .lst e) := ⟨.inr fun _ => rfl⟩
instance {e1 : α → T} {e2 : β → T} : SrtE (eP2 f e1 e2) := ⟨.inl fun _ => rfl⟩
instance {e1 : α → T} {e2 : β → T} {e3 : γ → T} : SrtE (eP3 f e1 e2 e3) := ⟨.inl fun _ => rfl⟩
theorem leT_map [DecidableEq α] [PLt α] [h : OrdE e] (a b : α) : leT (e a) (e b) = leP a b := by
  show PySem.W.dataLe false T.toD (e a) (e b) = !PLt.lt b a
  rw [← h.lt b a]; rfl
theorem o_sorted [DecidableEq α] [PLt α] [h1 : OkDE 59 e] [h2 : OrdE e] [h3 : SrtE e] {xs : List α} : opt (gSorted (eL f .lst e xs)) δ = .ok (eL .ow .lst e (srtI xs)) δ := by
  show opt (if sortsT (xs.map e) = true then some (.nd .ow .lst ((xs.map e).mergeSort leT)) else none) δ = _
  have hs : sortsT (xs.map e) = true := by
    unfold sortsT
    simp only [Bool.and_eq_true, Bool.or_eq_true, List.all_eq_true, List.mem_map, forall_exists_index, and_imp, forall_apply_eq_imp_iff₂]
    refine ⟨okDL_map xs, fun a _ b _ => h2.al a b, ?_⟩
    rcases h3.h with h | h
    · exact .inl fun a _ => h a
    · exact .inr fun a _ => h a
  rw [if_pos hs]
  have : (xs.map e).mergeSort leT = (xs.mergeSort leP).map e := (List.map_mergeSort (r := leP) (s := leT) (f := e) (l := xs) fun a _ b _ => (leT_map a b).symm).symm
  rw [this]; rfl
class PD (α : Type) where pd : α → PyData
instance : PD Int := ⟨.int⟩
instance : PD Bool := ⟨.bool⟩
instance : PD Str := ⟨.str⟩
instance : PD Unit := ⟨fun _ => .none⟩
instance [PD α] : PD (List α) := ⟨fun xs => .list (xs.map PD.pd)⟩
instance [PD α] [PD β] : PD (α × β) := ⟨fun p => .tuple [PD.pd p.1, PD.pd p.2]⟩
instance [PD α] : PD (Option α) := ⟨fun o => match o with
  | none => .none
  | some a => PD.pd a⟩
class PdE [PD α] (e : α → T) : Prop where h : ∀ a, (e a).toD = PD.pd a
instance : PdE T.int := ⟨fun _ => rfl⟩
instance : PdE T.bl := ⟨fun _ => rfl⟩
instance : PdE T.str := ⟨fun _ => rfl⟩
instance [PD α] [h : PdE e] : PdE (eL f .lst e) := ⟨fun xs => by
  show PyData.list (T.toDL (xs.map e)) = .list (xs.map PD.pd)
  rw [toDL_map, List.map_map]
  congr 1
  exact List.map_congr_left fun a _ => h.h a⟩
instance [PD α] [PD β] {e1 : α → T} {e2 : β → T} [h1 : PdE e1] [h2 : PdE e2] : PdE (eP2 f e1 e2) := ⟨fun p => by
  show PyData.tuple [(e1 p.1).toD, (e2 p.2).toD] = .tuple [PD.pd p.1, PD.pd p.2]
  rw [h1.h, h2.h]⟩
instance [PD α] [h : PdE e] : PdE (eO e) := ⟨fun o => by cases o with
  | none => rfl
  | some a => exact h.h a⟩
def reprO [PD α] (a : α) : O Str := if (PD.pd a).showable = true ∧ (PD.pd a).shown.length ≤ sizeLine then .ok (PD.pd a).shown else .bad
theorem o_repr [PD α] [h1 : OkDE 60 e] [h2 : PdE e] {a : α} : opt (gRepr (e a)) δ = bO (reprO a) fun x => .ok (.str x) δ := by
  unfold gRepr reprT reprO
  rw [if_pos (h1.h a), h2.h]
  by_cases h : (PD.pd a).showable = true ∧ (PD.pd a).shown.length ≤ sizeLine
  · rw [if_pos h, if_pos h]; rfl
  · rw [if_neg h, if_neg h]; rfl
theorem eCallE_eq {m : Fn} {fa : ES} {g0 : AS} : eCallE m fa g0 δ = (fa δ).bind fun t δ => if t.nrm.rootFz = true then (exM (g0 δ)).bind (fun a0 δ => optK ((valsOf a0).bind intsOf) .bad fun is => if is.length ≤ sizeLine then dK δ (m [t.nrm.frz, .nd .ow .lst (is.map T.int)]) else .bad) else .bad := by
  unfold eCallE
  congr 1; funext t δ
  by_cases h : t.nrm.rootFz = true
  · rw [if_pos h, if_pos h]
    congr 1; funext a0 δ
    unfold optK
    cases (valsOf a0).bind intsOf with
    | none => rfl
    | some is => rfl
  · rw [if_neg h, if_neg h]
theorem o_len_p2 {e1 : α → T} {e2 : β → T} {p : α × β} : opt (gLen (eP2 f e1 e2 p)) δ = .ok (.int 2) δ := rfl
theorem o_len_p3 {e1 : α → T} {e2 : β → T} {e3 : γ → T} {p : α × β × γ} : opt (gLen (eP3 f e1 e2 e3 p)) δ = .ok (.int 3) δ := rfl
theorem o_len_p4 {e1 : α → T} {e2 : β → T} {e3 : γ → T} {e4 : ε → T} {p : α × β × γ × ε} : opt (gLen (eP4 f e1 e2 e3 e4 p)) δ = .ok (.int 4) δ := rfl
end
end TV
set_option Elab.async false
set_option linter.all false
set_option maxRecDepth 100000
set_option maxHeartbeats 4000000
namespace TV
open PySem PySem.Spec L2
section
variable {α σ σ' ρ : Type}
class KeepE (e : α → T) : Prop where h : ∀ a, keep1 (e a) = true
instance : KeepE T.int := ⟨fun _ => rfl⟩
instance : KeepE T.bl := ⟨fun _ => rfl⟩
instance : KeepE T.str := ⟨fun _ => rfl⟩
instance {k : Kd} {e : α → T} : KeepE (eL .fz k e) := ⟨fun _ => rfl⟩
instance {β : Type} {e1 : α → T} {e2 : β → T} : KeepE (eP2 .fz e1 e2) := ⟨fun _ => rfl⟩
instance {β γ : Type} {e1 : α → T} {e2 : β → T} {e3 : γ → T} : KeepE (eP3 .fz e1 e2 e3) := ⟨fun _ => rfl⟩
instance {β γ ε : Type} {e1 : α → T} {e2 : β → T} {e3 : γ → T} {e4 : ε → T} : KeepE (eP4 .fz e1 e2 e3 e4) := ⟨fun _ => rfl⟩
theorem keepable_eL {e : α → T} [h : KeepE e] {xs : List α} : keepable (eL .ow .lst e xs) = true := by
  show (xs.map e).all keep1 = true
  rw [List.all_map]
  exact List.all_eq_true.mpr fun a _ => h.h a
theorem keep1_noLn {t : T} (h : keep1 t = true) : t.noLn = true := by
  unfold keep1 at h; rw [Bool.and_eq_true] at h; exact h.2
theorem forO_end {p : σ → α → O (Fl σ σ ρ)} : ∀ (xs : List α) (s : σ), (∃ s', forO (σ' := σ') p s xs = .ok (.nx s')) ∨ (∃ r, forO (σ' := σ') p s xs = .ok (.rt r)) ∨ (∃ x d, forO (σ' := σ') p s xs = .exc x d) ∨ forO (σ' := σ') p s xs = .bad
  | [], s => .inl ⟨s, rfl⟩
  | x :: xs, s => by
    unfold forO
    cases p s x with
    | ok f =>
      cases f with
      | nx s' => exact forO_end xs s'
      | ct s' => exact forO_end xs s'
      | br s' => exact .inl ⟨s', rfl⟩
      | rt r => exact .inr (.inl ⟨r, rfl⟩)
    | exc y d => exact .inr (.inr (.inl ⟨y, d, rfl⟩))
    | bad => exact .inr (.inr (.inr rfl))
open Classical in
theorem forH_M {gs : GS} {body : SS} {e : α → T} [K : KeepE e] {G Gv : σ → Sl} {er : ρ → T} {gr gr' : ρ → Sl} {p : σ → α → O (Fl σ σ ρ)} {i : Nat} (gs' : σ' → Sl) (xs : List α)
    (hG : ∀ s, (G s)[i]? = some (.hid true (eL .ow .lst e xs))) (hr : ∀ r, (gr r)[i]? = some (.hid true (eL .ow .lst e xs))) (h : ∀ s a, turnL gs body (e a) (G s) = kO G er gr (p s a) fun s => .ok .next (G s))
    (hv : ∀ s, (G s).set i (.vis false (eL .ow .lst e xs)) = Gv s) (h0 : ∀ s, (Gv s)[i]? = some (.vis false (eL .ow .lst e xs))) (h1 : ∀ s, (Gv s).set i (.hid true (eL .ow .lst e xs)) = G s) (hr' : ∀ r, (gr r).set i .un = gr' r) (s : σ) :
    sForH i gs body (Gv s) = kO gs' er gr' (forO (σ' := σ') p s xs) fun s => .ok .next (Gv s) := by
  unfold sForH
  rw [h0]
  dsimp only
  rw [if_pos keepable_eL, h1, show kidsT (eL .ow .lst e xs) = xs.map e from rfl]
  have hb : ∀ s a, turnL gs (heldB i (eL .ow .lst e xs) body) (e a) (G s) = kO G er gr (p s a) fun s => .ok .next (G s) := fun s a => by
    have q := h s a
    unfold turnL at q ⊢
    cases hg : gs (e a) (G s) with
    | ok u d =>
      rw [hg] at q
      dsimp only at q ⊢
      unfold heldB
      rw [q]
      have ck : ∀ (fl : Flw) (d : Sl), d[i]? = some (.hid true (eL .ow .lst e xs)) → (match (R.ok fl d : R Sl Flw) with
        | .ok fl δ' => if δ'[i]? = some (.hid true (eL .ow .lst e xs)) then R.ok fl δ' else .bad
        | r => r) = R.ok fl d := fun fl d hd => by dsimp only; rw [if_pos hd]
      cases p s a with
      | ok f =>
        cases f with
        | nx s' => exact ck _ _ (hG s')
        | ct s' => exact ck _ _ (hG s')
        | br s' => exact ck _ _ (hG s')
        | rt r => exact ck _ _ (hr r)
      | exc x d => rfl
      | bad => rfl
    | exc y d => rw [hg] at q; exact q
    | bad => rw [hg] at q; exact q
  rw [forL_M (fun a => keep1_noLn (K.h a)) hb gs' xs s]
  rcases forO_end (σ' := σ') (p := p) xs s with ⟨s', e1⟩ | ⟨r, e1⟩ | ⟨x, d, e1⟩ | e1
  · rw [e1]
    show (if (G s')[i]? = some (.hid true (eL .ow .lst e xs)) then R.ok Flw.next ((G s').set i (.vis false (eL .ow .lst e xs))) else R.bad) = _; rw [if_pos (hG s'), hv]; rfl
  · rw [e1]
    show (if (gr r)[i]? = some (.hid true (eL .ow .lst e xs)) then R.ok (Flw.ret (er r)) ((gr r).set i .un) else R.bad) = _; rw [if_pos (hr r), hr']; rfl
  · rw [e1]; rfl
  · rw [e1]; rfl
theorem sForO_eq {gs : GS} {body : SS} {i : Nat} {δ : Sl} : sForO i gs body δ = (eMv i δ).bind fun t δ => ownK t fun xs => forL gs body xs δ := rfl
theorem ownK_eL {β : Type} {e : α → T} {xs : List α} {k : List T → R Sl β} : ownK (eL .ow .lst e xs) k = k (xs.map e) := rfl
def methT2 (r k1 k2 : T) (g : List T → Option (List T)) : Option T := (inL r k1).bind fun q => (methT1 (.nd .ow .lst q.2.2) k2 g).map fun y => .nd .ow .lst (q.1.set q.2.1 y)
theorem inL_some {r k1 : T} {xs ys : List T} {j : Nat} (h : inL r k1 = some (xs, j, ys)) : ∃ a, r = .nd .ow .lst xs ∧ k1 = .int a ∧ ixN xs.length a = some j ∧ xs[j]? = some (.nd .ow .lst ys) := by
  unfold inL at h
  split at h
  · rename_i zs a
    cases hj : ixN zs.length a with
    | none => rw [hj] at h; cases h
    | some l =>
      rw [hj] at h
      simp only [Option.bind_some] at h
      split at h
      · rename_i ws hx
        cases h
        exact ⟨a, rfl, rfl, hj, hx⟩
      · cases h
  · cases h
theorem inL_none {r k1 : T} (h : inL r k1 = none) {i : Nat} {δ : Sl} (hr : rootT δ i = some r) : ptStep i δ [] k1 = none ∨ ∃ path, ptStep i δ [] k1 = some path ∧ ∀ xs, T.get path r ≠ some (.nd .ow .lst xs) := by
  cases hp : ptStep i δ [] k1 with
  | none => exact .inl rfl
  | some path =>
    refine .inr ⟨path, rfl, fun xs hx => ?_⟩
    obtain ⟨k, t, ys, j, e1, e2, e3, e4, e5⟩ := ptStep_some hp
    rw [hr] at e2; cases e2
    have e3 : some r = some (T.nd .ow .lst ys) := e3
    cases e3
    subst e1 e5
    unfold inL at h
    dsimp only at h
    rw [e4] at h
    have hx : (ys[j]?).bind (T.get []) = some (.nd .ow .lst xs) := hx
    cases hy : ys[j]? with
    | none => rw [hy] at hx; cases hx
    | some v =>
      rw [hy] at hx
      have hx : some v = some (T.nd .ow .lst xs) := hx
      cases hx
      simp only [Option.bind_some, hy] at h
      cases h
theorem ptStep_bad {i : Nat} {δ : Sl} {p : List Nat} {k r : T} (hr : rootT δ i = some r) (h : ∀ xs, T.get p r ≠ some (.nd .ow .lst xs)) : ptStep i δ p k = none := by
  cases hp : ptStep i δ p k with
  | none => rfl
  | some path =>
    obtain ⟨_, t, ys, j, e1, e2, e3, e4, e5⟩ := ptStep_some hp
    rw [hr] at e2; cases e2
    exact absurd e3 (h ys)
theorem sMethP2_gen {δ : Sl} {i : Nat} {args : List T} {step : List T → List T → Option (List T)} {f1 f2 : Sl → Option T} (hz : T.noLnL args = true) : sMethP i (ptIx i (ptIx i (ptN i) f1) f2) args step δ = optK (visT δ i) .bad fun pr => optK (f1 δ) .bad fun k1 => optK (f2 δ) .bad fun k2 => optK (methT2 pr.2 k1 k2 fun xs => step xs args) .bad fun r' => .ok .next (δ.set i (.vis pr.1 r')) := by
  unfold sMethP ptIx ptN visT
  cases hd : δ[i]? with
  | none => unfold rootT; rw [hd]; rfl
  | some s =>
    cases s with
    | un => unfold rootT; rw [hd]; rfl
    | hid p r => unfold rootT; rw [hd]; rfl
    | vis p r =>
      have hr : rootT δ i = some r := by unfold rootT; rw [hd]
      rw [hr]
      dsimp only
      cases f1 δ with
      | none => rfl
      | some k1 =>
        dsimp only [optK]
        cases f2 δ with
        | none => cases ptStep i δ [] k1 <;> rfl
        | some k2 =>
          dsimp only
          cases hi : inL r k1 with
          | none =>
            have e0 : (methT2 r k1 k2 fun xs => step xs args) = none := by unfold methT2; rw [hi]; rfl
            rw [e0]
            rcases inL_none hi hr with hp | ⟨path, hp, hx⟩
            · rw [hp]
            · rw [hp]
              dsimp only
              rw [ptStep_bad hr hx]
          | some q =>
            obtain ⟨xs, j, ys⟩ := q
            obtain ⟨a, rfl, rfl, hj, hx⟩ := inL_some hi
            have hp : ptStep i δ [] (.int a) = some [j] := by
              unfold ptStep
              rw [hr]
              show (ixN xs.length a).map _ = _
              rw [hj]; rfl
            have hg : T.get [j] (.nd .ow .lst xs) = some (.nd .ow .lst ys) := by
              show (xs[j]?).bind (T.get []) = _
              rw [hx]; rfl
            have em : (methT2 (.nd .ow .lst xs) (.int a) k2 fun xs => step xs args) = (methT1 (.nd .ow .lst ys) k2 fun xs => step xs args).map fun y => .nd .ow .lst (xs.set j y) := by
              unfold methT2; rw [hi]; rfl
            rw [em, hp]
            dsimp only
            have hs : ptStep i δ [j] k2 = (match k2 with
              | .int b => (ixN ys.length b).map fun l => [j] ++ [l]
              | _ => none) := by
              unfold ptStep
              rw [hr]
              cases k2 <;> (dsimp only; try rw [hg])
            rw [hs]
            unfold methT1 inL
            cases k2 with
            | int b =>
              dsimp only
              cases hb : ixN ys.length b with
              | none => rfl
              | some l =>
                dsimp only [Option.map_some]
                have hg2 : T.get ([j] ++ [l]) (.nd .ow .lst xs) = ys[l]? := by
                  show (xs[j]?).bind (T.get [l]) = _
                  rw [hx]
                  show (ys[l]?).bind (T.get []) = _
                  cases ys[l]? <;> rfl
                rw [hg2]
                simp only [Option.bind_some]
                cases hy : ys[l]? with
                | none => rfl
                | some u =>
                  cases u with
                  | nd f k zs =>
                    cases f with
                    | ow =>
                      cases k with
                      | lst =>
                        dsimp only [Option.bind_some]
                        cases step zs args with
                        | none => rfl
                        | some zs' =>
                          dsimp only [Option.map_some, optK]
                          rw [if_pos hz]
                          have : T.put ([j] ++ [l]) (.nd .ow .lst xs) (.nd .ow .lst zs') = .nd .ow .lst (xs.set j (.nd .ow .lst (ys.set l (.nd .ow .lst zs')))) := by
                            show T.nd .ow .lst (xs.modify j fun t => T.put [l] t _) = _
                            rw [modify_eq hx]
                            show T.nd .ow .lst (xs.set j (T.nd .ow .lst (ys.modify l fun t => T.put [] t _))) = _
                            rw [modify_eq hy]; rfl
                          rw [this]
                      | _ => rfl
                    | _ => rfl
                  | _ => rfl
            | _ => rfl
theorem sMethP2_c {δ : Sl} {i : Nat} {c : Int} {step : List T → List T → Option (List T)} {f1 f2 : Sl → Option T} : sMethP i (ptIx i (ptIx i (ptN i) f1) f2) [.int c] step δ = optK (visT δ i) .bad fun pr => optK (f1 δ) .bad fun k1 => optK (f2 δ) .bad fun k2 => optK (methT2 pr.2 k1 k2 fun xs => step xs [.int c]) .bad fun r' => .ok .next (δ.set i (.vis pr.1 r')) := sMethP2_gen rfl
theorem sMethP2_0 {δ : Sl} {i : Nat} {step : List T → List T → Option (List T)} {f1 f2 : Sl → Option T} : sMethP i (ptIx i (ptIx i (ptN i) f1) f2) [] step δ = optK (visT δ i) .bad fun pr => optK (f1 δ) .bad fun k1 => optK (f2 δ) .bad fun k2 => optK (methT2 pr.2 k1 k2 fun xs => step xs []) .bad fun r' => .ok .next (δ.set i (.vis pr.1 r')) := sMethP2_gen rfl
def at3O (xs : List (List (List α))) (k l : Int) (g : List α → O (List α)) : O (List (List (List α))) := at2O xs k fun ys => at2O ys l g
def app3O (xs : List (List (List α))) (k l : Int) (v : α) : O (List (List (List α))) := at3O xs k l fun ys => appO ys v
def pop3O (xs : List (List (List α))) (k l : Int) : O (List (List (List α))) := at3O xs k l popO
def clear3O (xs : List (List (List α))) (k l : Int) : O (List (List (List α))) := at3O xs k l fun _ => .ok []
theorem at3_core {β : Type} {e : α → T} {xs : List (List (List α))} {a b : Int} {g : List T → Option (List T)} {g' : List α → O (List α)} {k : T → R Sl β} (h : ∀ (ys : List α) (k : List T → R Sl β), optK (g (ys.map e)) .bad k = bO (g' ys) fun zs => k (zs.map e)) : optK (methT2 (eL .ow .lst (eL .ow .lst (eL .ow .lst e)) xs) (.int a) (.int b) g) .bad k = bO (at3O xs a b g') fun yss => k (eL .ow .lst (eL .ow .lst (eL .ow .lst e)) yss) := by
  have hm : (methT2 (eL .ow .lst (eL .ow .lst (eL .ow .lst e)) xs) (.int a) (.int b) g) = methT1 (eL .ow .lst (eL .ow .lst (eL .ow .lst e)) xs) (.int a) fun zs => (methT1 (.nd .ow .lst zs) (.int b) g).bind fun y => match y with
      | .nd .ow .lst ws => some ws
      | _ => none := by
    unfold methT2
    show (inL _ (.int a)).bind _ = (inL _ (.int a)).bind _
    congr 1; funext q
    obtain ⟨us, j, ys⟩ := q
    show (methT1 (.nd .ow .lst ys) (.int b) g).map _ = ((methT1 (.nd .ow .lst ys) (.int b) g).bind _).map _
    cases hq : methT1 (.nd .ow .lst ys) (.int b) g with
    | none => rfl
    | some y =>
      unfold methT1 at hq
      cases hi : inL (.nd .ow .lst ys) (.int b) with
      | none => rw [hi] at hq; cases hq
      | some p =>
        rw [hi] at hq
        simp only [Option.bind_some] at hq
        cases hg : g p.2.2 with
        | none => rw [hg] at hq; cases hq
        | some ws => rw [hg] at hq; cases hq; rfl
  rw [hm]
  refine at2_core (e := eL .ow .lst e) fun ys k => ?_
  have := at2_core (e := e) (xss := ys) (a := b) (g := g) (g' := g') (k := fun y => match y with
      | .nd .ow .lst ws => k ws
      | _ => .bad) h
  have e1 : optK ((methT1 (.nd .ow .lst (ys.map (eL .ow .lst e))) (.int b) g).bind fun y => match y with
      | .nd .ow .lst ws => some ws
      | _ => none) .bad k = optK (methT1 (eL .ow .lst (eL .ow .lst e) ys) (.int b) g) .bad fun y => match y with
      | .nd .ow .lst ws => k ws
      | _ => .bad := by
    show optK ((methT1 (eL .ow .lst (eL .ow .lst e) ys) (.int b) g).bind _) .bad k = _
    cases methT1 (eL .ow .lst (eL .ow .lst e) ys) (.int b) g with
    | none => rfl
    | some y =>
      show optK (match y with
      | .nd .ow .lst ws => some ws
      | _ => none) .bad k = _
      show _ = (match y with
      | .nd .ow .lst ws => k ws
      | _ => .bad)
      cases y with
      | nd f kd ws => cases f <;> cases kd <;> rfl
      | _ => rfl
  rw [e1, this]
  rfl
theorem k_app3i {β : Type} {xs : List (List (List Int))} {a b v : Int} {k : T → R Sl β} : optK (methT2 (eL .ow .lst (eL .ow .lst (eL .ow .lst T.int)) xs) (.int a) (.int b) fun xs => stApp xs [.int v]) .bad k = bO (app3O xs a b v) fun yss => k (eL .ow .lst (eL .ow .lst (eL .ow .lst T.int)) yss) := at3_core (e := T.int) fun ys k => k_app
theorem k_pop3 {β : Type} {e : α → T} {xs : List (List (List α))} {a b : Int} {k : T → R Sl β} : optK (methT2 (eL .ow .lst (eL .ow .lst (eL .ow .lst e)) xs) (.int a) (.int b) fun xs => stPop xs []) .bad k = bO (pop3O xs a b) fun yss => k (eL .ow .lst (eL .ow .lst (eL .ow .lst e)) yss) := at3_core fun ys k => k_pop
theorem k_clear3 {β : Type} {e : α → T} {xs : List (List (List α))} {a b : Int} {k : T → R Sl β} : optK (methT2 (eL .ow .lst (eL .ow .lst (eL .ow .lst e)) xs) (.int a) (.int b) fun xs => stClear xs []) .bad k = bO (clear3O xs a b) fun yss => k (eL .ow .lst (eL .ow .lst (eL .ow .lst e)) yss) := at3_core fun ys k => k_clear
def eQ2 {α β : Type} (f : Fg) (e1 : α → T) (e2 : β → T) (p : α × β) : T := .nd f .lst [e1 p.1, e2 p.2]
section
variable {α β γ ε σ τ ρ : Type} {f f' : Fg} {e e' : α → T} {δ : Sl}
instance {e1 : α → T} {e2 : β → T} : NoLnE (eQ2 .fz e1 e2) := ⟨fun _ => rfl⟩
instance {e1 : α → T} {e2 : β → T} [h1 : NoLnE e1] [h2 : NoLnE e2] : NoLnE (eQ2 .ow e1 e2) := ⟨fun _ => by simp [eQ2, T.noLn, T.noLnL, h1.h, h2.h]⟩
instance {e1 : α → T} {e2 : β → T} : FrzE (eQ2 .fz e1 e2) (eQ2 .fz e1 e2) := ⟨fun _ => rfl⟩
instance {e1 e1' : α → T} {e2 e2' : β → T} [h1 : FrzE e1 e1'] [h2 : FrzE e2 e2'] : FrzE (eQ2 .ow e1 e2) (eQ2 .fz e1' e2') := ⟨fun _ => by simp [eQ2, T.frz, T.frzL, h1.h, h2.h]⟩
instance {e1 e1' : α → T} {e2 e2' : β → T} [h1 : FrzE e1 e1'] [h2 : FrzE e2 e2'] : FrzE (eQ2 .ln e1 e2) (eQ2 .fz e1' e2') := ⟨fun _ => by simp [eQ2, T.frz, T.frzL, h1.h, h2.h]⟩
instance {e1 : α → T} {e2 : β → T} : LoanE (eQ2 .fz e1 e2) (eQ2 .fz e1 e2) := ⟨fun _ => rfl⟩
instance {e1 e1' : α → T} {e2 e2' : β → T} [h1 : LoanE e1 e1'] [h2 : LoanE e2 e2'] : LoanE (eQ2 .ow e1 e2) (eQ2 .ln e1' e2') := ⟨fun _ => by simp [eQ2, T.loan, T.loanL, h1.h, h2.h]⟩
instance {e1 e1' : α → T} {e2 e2' : β → T} [h1 : DgrE e1 e1'] [h2 : DgrE e2 e2'] : DgrE (eQ2 .ow e1 e2) (eQ2 .ow e1' e2') := ⟨fun _ => by simp [eQ2, T.dgr, T.dgrL, h1.h, h2.h]⟩
instance {e1 : α → T} {e2 : β → T} [h1 : NoFzE e1] [h2 : NoFzE e2] : NoFzE (eQ2 .ow e1 e2) := ⟨fun _ => by simp [eQ2, T.noFz, T.noFzL, h1.h, h2.h]⟩
instance {n : Nat} {f : Fg} {e1 : α → T} {e2 : β → T} [h1 : OkDE n e1] [h2 : OkDE n e2] : OkDE (n + 1) (eQ2 f e1 e2) := ⟨fun _ => by simp [eQ2, T.okD, T.okDL, h1.h, h2.h]⟩
instance [DecidableEq α] [DecidableEq β] {f f' : Fg} {e1 e1' : α → T} {e2 e2' : β → T} [h1 : EqvE e1 e1'] [h2 : EqvE e2 e2'] : EqvE (eQ2 f e1 e2) (eQ2 f' e1' e2') := ⟨fun a b => by
  obtain ⟨a1, a2⟩ := a; obtain ⟨b1, b2⟩ := b
  simp only [eQ2, T.eqv, T.eqvL, h1.h, h2.h]
  by_cases z1 : a1 = b1 <;> by_cases z2 : a2 = b2 <;> simp [z1, z2]⟩
instance {e1 : α → T} {e2 : β → T} : LoanE (eQ2 .ln e1 e2) (eQ2 .ln e1 e2) := ⟨fun _ => rfl⟩
instance {e1 e1' : α → T} {e2 e2' : β → T} [h1 : DgrE e1 e1'] [h2 : DgrE e2 e2'] : DgrE (eQ2 .fz e1 e2) (eQ2 .ln e1' e2') := ⟨fun _ => by simp [eQ2, T.dgr, T.dgrL, scTup, h1.h, h2.h]⟩
theorem rootFz_eQ2 {e1 : α → T} {e2 : β → T} {p : α × β} : (eQ2 .fz e1 e2 p).rootFz = true := rfl
instance {e2 : β → T} : NotNon (eQ2 f e e2) := ⟨fun _ => rfl⟩
theorem o_q2_0 {e2 : β → T} {p : α × β} : opt (gIx (eQ2 f e e2 p) (.int 0)) δ = .ok (e p.1) δ := rfl
theorem o_q2_1 {e2 : β → T} {p : α × β} : opt (gIx (eQ2 f e e2 p) (.int 1)) δ = .ok (e2 p.2) δ := rfl
instance {e2 : β → T} : TyE "list" (eQ2 f e e2) := ⟨fun _ => rfl⟩
theorem isi_eQ2 {n : String} {e2 : β → T} {p : α × β} : opt ((gIsi n (eQ2 f e e2 p)).map T.bl) δ = opt ((kitB "list" n).map T.bl) δ := rfl
theorem noLn_lnq2 {e : α → T} {e2 : β → T} {p : α × β} : (eQ2 .ln e e2 p).noLn = false := rfl
theorem nrm_lnq2 {e : α → T} {e2 : β → T} {p : α × β} : (eQ2 .ln e e2 p).nrm = eQ2 .ln e e2 p := rfl
theorem rootFz_lnq2 {e : α → T} {e2 : β → T} {p : α × β} : (eQ2 .ln e e2 p).rootFz = false := rfl
instance {e1 : α → T} {e2 : β → T} : LnE (eQ2 .ln e1 e2) := ⟨fun _ => rfl⟩
instance {e1 : α → T} {e2 : β → T} [h : LnE e1] : LnE (eQ2 .ow e1 e2) := ⟨fun _ => by simp [eQ2, T.noLn, T.noLnL, h.h]⟩
theorem o_len_q2 {e1 : α → T} {e2 : β → T} {p : α × β} : opt (gLen (eQ2 f e1 e2 p)) δ = .ok (.int 2) δ := rfl
end
end
section
variable {δ : Sl} {f : Fg}
def memS (x : Str) (xs : List Str) : O Bool := if PyData.strOk x = true ∧ xs.all PyData.strOk = true then .ok (decide (x ∈ xs)) else .bad
theorem okDL_strs {n : Nat} : ∀ xs : List Str, T.okDL n (xs.map T.str) = xs.all PyData.strOk
  | [] => by simp [T.okDL]
  | x :: xs => by
    rw [List.map_cons, T.okDL, okDL_strs xs, List.all_cons]
    cases n <;> simp [T.okD]
theorem inD_strs {x : Str} : ∀ xs : List Str, inD (.str x) (xs.map T.str) = decide (x ∈ xs)
  | [] => rfl
  | y :: ys => by
    show ((T.str y).eqv (.str x) || inD (.str x) (ys.map T.str)) = _
    rw [inD_strs ys]
    have : (T.str y).eqv (.str x) = (y == x) := by simp [T.eqv]
    rw [this]
    by_cases h1 : y = x
    · simp [h1]
    · have h2 : ¬ x = y := fun z => h1 z.symm
      simp [h1, h2]
theorem o_inS {neg : Bool} {x : Str} {xs : List Str} : opt (gInD neg (.str x) (eL f .tpg T.str xs)) δ = bO (memS x xs) fun b => .ok (.bl (if neg = true then !b else b)) δ := by
  unfold gInD memS
  show opt (if (T.str x).okD 60 = true ∧ (T.nd f .tpg (xs.map T.str)).okD 60 = true then _ else _) δ = _
  have e1 : (T.str x).okD 60 = PyData.strOk x := by simp [T.okD]
  have e2 : (T.nd f .tpg (xs.map T.str)).okD 60 = xs.all PyData.strOk := by
    show T.okDL 59 (xs.map T.str) = _
    exact okDL_strs xs
  rw [e1, e2, inD_strs]
  by_cases h : PyData.strOk x = true ∧ xs.all PyData.strOk = true
  · rw [if_pos h, if_pos h]; rfl
  · rw [if_neg h, if_neg h]; rfl
end
end TV
set_option Elab.async false
set_option linter.all false
set_option maxRecDepth 100000
set_option maxHeartbeats 4000000
namespace TV
open PySem PySem.Spec L2
section
variable {α β κ σ τ ρ : Type} {f f' : Fg} {e e' : α → T} {δ : Sl}
def eD (f : Fg) (ek : κ → List Key) (e : α → T) (d : List (κ × α)) : T := .nd f (.dT (d.map fun p => ek p.1)) (d.map fun p => e p.2)
class KeyE (ek : κ → List Key) : Prop where inj : ∀ a b, ek a = ek b → a = b
class KeyT (et : κ → T) (ek : outParam (κ → List Key)) : Prop where h : ∀ a, keyTT (et a) = some (ek a)
def ek2 (p : Int × Int) : List Key := [.inl p.1, .inl p.2]
def ek3 (p : Int × Int × Int) : List Key := [.inl p.1, .inl p.2.1, .inl p.2.2]
instance : KeyE ek2 := ⟨fun a b h => by
  obtain ⟨a1, a2⟩ := a; obtain ⟨b1, b2⟩ := b
  unfold ek2 at h
  simp at h
  rw [h.1, h.2]⟩
instance : KeyE ek3 := ⟨fun a b h => by
  obtain ⟨a1, a2, a3⟩ := a; obtain ⟨b1, b2, b3⟩ := b
  unfold ek3 at h
  simp at h
  rw [h.1, h.2.1, h.2.2]⟩
instance {f : Fg} : KeyT (eP2 f T.int T.int) ek2 := ⟨fun _ => rfl⟩
instance {f : Fg} : KeyT (eP3 f T.int T.int T.int) ek3 := ⟨fun _ => rfl⟩
def lookK [DecidableEq κ] (d : List (κ × α)) (k : κ) : Option α := (d.find? fun p => decide (p.1 = k)).map (·.2)
theorem lookT_eD [DecidableEq κ] {ek : κ → List Key} [h : KeyE ek] {k : κ} : ∀ d : List (κ × α), lookT (d.map fun p => ek p.1) (d.map fun p => e p.2) (ek k) = (lookK d k).map e
  | [] => rfl
  | p :: d => by
    unfold lookT lookK
    rw [List.map_cons, List.map_cons, List.zip_cons_cons, List.find?_cons, List.find?_cons]
    by_cases q : p.1 = k
    · have a : decide (ek p.1 = ek k) = true := decide_eq_true (by rw [q])
      have b : decide (p.1 = k) = true := decide_eq_true q
      rw [a, b]; rfl
    · have a : decide (ek p.1 = ek k) = false := decide_eq_false fun z => q (h.inj _ _ z)
      have b : decide (p.1 = k) = false := decide_eq_false q
      rw [a, b]
      exact lookT_eD (k := k) d
def getDO [DecidableEq κ] (d : List (κ × α)) (k : κ) : O α := match lookK d k with
  | some a => .ok a
  | none => .bad
theorem o_dget [DecidableEq κ] {ek : κ → List Key} {et : κ → T} [h : KeyE ek] [h2 : KeyT et ek] {d : List (κ × α)} {k : κ} : opt (gDGet (eD f ek e d) (et k)) δ = bO (getDO d k) fun a => .ok (e a) δ := by
  have : gDGet (eD f ek e d) (et k) = (lookK d k).map e := by
    show (keyTT (et k)).bind _ = _
    rw [h2.h]
    exact lookT_eD (ek := ek) (e := e) (k := k) d
  rw [this]
  unfold getDO
  cases lookK d k <;> rfl
theorem o_din [DecidableEq κ] {ek : κ → List Key} {et : κ → T} [h : KeyE ek] [h2 : KeyT et ek] {d : List (κ × α)} {k : κ} {neg : Bool} : opt (gDIn neg (et k) (eD f ek e d)) δ = .ok (.bl (if neg = true then (lookK d k).isNone else (lookK d k).isSome)) δ := by
  have : gDIn neg (et k) (eD f ek e d) = some (.bl (if neg = true then (lookK d k).isNone else (lookK d k).isSome)) := by
    show (keyTT (et k)).map _ = _
    rw [h2.h]
    show some (T.bl _) = _
    rw [lookT_eD (ek := ek) (e := e) (k := k) d]
    cases lookK d k <;> rfl
  rw [this]; rfl
/-- d[k] = v -/
def putKD [DecidableEq κ] : List (κ × α) → κ → α → List (κ × α)
  | [], k, v => [(k, v)]
  | p :: d, k, v => if p.1 = k then (k, v) :: d else p :: putKD d k v
def putDO [DecidableEq κ] (d : List (κ × α)) (k : κ) (v : α) : O (List (κ × α)) := if (d.map (·.1)).Nodup ∧ d.length < sizeLine then .ok (putKD d k v) else .bad
theorem putDT_eD [DecidableEq κ] {ek : κ → List Key} [h : KeyE ek] {k : κ} {v : α} : ∀ d : List (κ × α), putDT (d.map fun p => ek p.1) (d.map fun p => e p.2) (ek k) (e v) = eD .ow ek e (putKD d k v)
  | [] => rfl
  | p :: d => by
    have ih := putDT_eD (ek := ek) (k := k) (v := v) d
    unfold putDT at ih ⊢
    rw [List.map_cons, List.map_cons]
    unfold idxK putKD
    by_cases q : p.1 = k
    · rw [if_pos (by rw [q]), if_pos q]
      subst q; rfl
    · rw [if_neg (fun z => q (h.inj _ _ z)), if_neg q]
      cases z : idxK (d.map fun p => ek p.1) (ek k) with
      | none =>
        rw [z] at ih
        dsimp only at ih
        unfold eD at ih
        injection ih with _ i1 i2
        injection i1 with i1
        show T.nd .ow (.dT (ek p.1 :: ((d.map fun p => ek p.1) ++ [ek k]))) (e p.2 :: ((d.map fun p => e p.2) ++ [e v])) = _
        rw [i1, i2]; rfl
      | some j =>
        rw [z] at ih
        dsimp only at ih
        unfold eD at ih
        injection ih with _ i1 i2
        injection i1 with i1
        show T.nd .ow (.dT (ek p.1 :: d.map fun p => ek p.1)) (e p.2 :: (d.map fun p => e p.2).set j (e v)) = _
        rw [i1, i2]; rfl
def isDT : T → Bool
  | .nd .ow (.dT _) _ => true
  | _ => false
theorem isDT_eD {ek : κ → List Key} {d : List (κ × α)} : isDT (eD .ow ek e d) = true := rfl
theorem ownD_vis {i : Nat} {β : Type} {c : R Sl β} : optK (ownD δ i) .bad (fun _ => c) = optK (visT δ i) .bad fun pr => if isDT pr.2 = true then c else .bad := by
  unfold ownD visT
  cases δ[i]? with
  | none => rfl
  | some s =>
    cases s with
    | un => rfl
    | hid p t => rfl
    | vis p t =>
      cases t with
      | nd f k xs => cases f <;> cases k <;> rfl
      | _ => rfl
theorem sPutD_eq {fz : Bool} {i : Nat} {fv fi : ES} : sPutD fz i fv fi δ = (fv δ).bind fun t δ => if t.noLn = true then optK (visT δ i) .bad (fun pr => if isDT pr.2 = true then (fi δ).bind fun kt δ => putD i (fzIf fz t) kt δ else .bad) else .bad := by
  unfold sPutD
  congr 1; funext t δ
  by_cases h : t.noLn = true
  · rw [if_pos h, if_pos h]
    show _ = _
    rw [← ownD_vis]
    unfold optK
    cases ownD δ i <;> rfl
  · rw [if_neg h, if_neg h]
def putDV (r kt t : T) : Option T := match r with
  | .nd .ow (.dT ks) xs => (keyTT kt).bind fun k => if ks.Nodup ∧ ks.length < sizeLine then some (putDT ks xs k t) else none
  | _ => none
theorem putD_eq {i : Nat} {t kt : T} : putD i t kt δ = optK (visT δ i) .bad fun pr => optK (putDV pr.2 kt t) .bad fun r' => .ok .next (δ.set i (.vis pr.1 r')) := by
  unfold putD ownD visT
  cases δ[i]? with
  | none => rfl
  | some s =>
    cases s with
    | un => rfl
    | hid p u => rfl
    | vis p u =>
      cases u with
      | nd f k xs =>
        cases f with
        | ow =>
          cases k with
          | dT ks =>
            dsimp only [optK]
            unfold putDV
            dsimp only
            cases keyTT kt with
            | none => rfl
            | some k =>
              dsimp only [Option.bind_some]
              by_cases h : ks.Nodup ∧ ks.length < sizeLine
              · rw [if_pos h, if_pos h]
              · rw [if_neg h, if_neg h]
          | _ => rfl
        | _ => rfl
      | _ => rfl
theorem nodup_ek {ek : κ → List Key} [h : KeyE ek] : ∀ d : List (κ × α), (d.map fun p => ek p.1).Nodup ↔ (d.map (·.1)).Nodup
  | [] => by simp
  | p :: d => by
    rw [List.map_cons, List.map_cons, List.nodup_cons, List.nodup_cons, nodup_ek d]
    have : ek p.1 ∈ (d.map fun p => ek p.1) ↔ p.1 ∈ d.map (·.1) := by
      rw [List.mem_map, List.mem_map]
      constructor
      · rintro ⟨q, hq, e⟩; exact ⟨q, hq, h.inj _ _ e⟩
      · rintro ⟨q, hq, e⟩; exact ⟨q, hq, by rw [e]⟩
    rw [this]
theorem k_putD [DecidableEq κ] {β : Type} {ek : κ → List Key} {et : κ → T} [h : KeyE ek] [h2 : KeyT et ek] {d : List (κ × α)} {k : κ} {v : α} {c : T → R Sl β} : optK (putDV (eD .ow ek e d) (et k) (e v)) .bad c = bO (putDO d k v) fun d' => c (eD .ow ek e d') := by
  have e1 : putDV (eD .ow ek e d) (et k) (e v) = if (d.map (·.1)).Nodup ∧ d.length < sizeLine then some (eD .ow ek e (putKD d k v)) else none := by
    show (keyTT (et k)).bind _ = _
    rw [h2.h]
    show (if (d.map fun p => ek p.1).Nodup ∧ (d.map fun p => ek p.1).length < sizeLine then some (putDT _ _ (ek k) (e v)) else none) = _
    rw [putDT_eD, List.length_map]
    by_cases z : (d.map (·.1)).Nodup ∧ d.length < sizeLine
    · rw [if_pos z, if_pos ⟨(nodup_ek d).mpr z.1, z.2⟩]
    · rw [if_neg z, if_neg fun y => z ⟨(nodup_ek d).mp y.1, y.2⟩]
  rw [e1]
  unfold putDO
  by_cases z : (d.map (·.1)).Nodup ∧ d.length < sizeLine
  · rw [if_pos z, if_pos z]; rfl
  · rw [if_neg z, if_neg z]; rfl
theorem eD_items (d : List (κ × α)) : (d.map fun p => e p.2) = (d.map (·.2)).map e := by rw [List.map_map]; rfl
instance {ek : κ → List Key} : NoLnE (eD .fz ek e) := ⟨fun _ => rfl⟩
instance {ek : κ → List Key} [NoLnE e] : NoLnE (eD .ow ek e) := ⟨fun d => by unfold eD; rw [T.noLn, eD_items]; exact noLnL_map _⟩
instance {ek : κ → List Key} : FrzE (eD .fz ek e) (eD .fz ek e) := ⟨fun _ => rfl⟩
instance {ek : κ → List Key} [FrzE e e'] : FrzE (eD .ow ek e) (eD .fz ek e') := ⟨fun d => by unfold eD; rw [T.frz, eD_items, eD_items, frzL_map]⟩
instance {ek : κ → List Key} [FrzE e e'] : FrzE (eD .ln ek e) (eD .fz ek e') := ⟨fun d => by unfold eD; rw [T.frz, eD_items, eD_items, frzL_map]⟩
instance {ek : κ → List Key} : LoanE (eD .fz ek e) (eD .fz ek e) := ⟨fun _ => rfl⟩
instance {ek : κ → List Key} : LoanE (eD .ln ek e) (eD .ln ek e) := ⟨fun _ => rfl⟩
instance {ek : κ → List Key} [LoanE e e'] : LoanE (eD .ow ek e) (eD .ln ek e') := ⟨fun d => by unfold eD; rw [T.loan, eD_items, eD_items, loanL_map]⟩
instance {ek : κ → List Key} [DgrE e e'] : DgrE (eD .fz ek e) (eD .ln ek e') := ⟨fun d => by unfold eD; rw [T.dgr, eD_items, eD_items, dgrL_map]; rfl⟩
instance {ek : κ → List Key} [DgrE e e'] : DgrE (eD .ow ek e) (eD .ow ek e') := ⟨fun d => by unfold eD; rw [T.dgr, eD_items, eD_items, dgrL_map]⟩
instance {ek : κ → List Key} [NoFzE e] : NoFzE (eD .ow ek e) := ⟨fun d => by unfold eD; rw [T.noFz, eD_items]; exact noFzL_map _⟩
instance {ek : κ → List Key} : LnE (eD .ln ek e) := ⟨fun _ => rfl⟩
theorem rootFz_eD {ek : κ → List Key} {d : List (κ × α)} : (eD .fz ek e d).rootFz = true := rfl
theorem rootFz_lnD {ek : κ → List Key} {d : List (κ × α)} : (eD .ln ek e d).rootFz = false := rfl
theorem noLn_lnD {ek : κ → List Key} {d : List (κ × α)} : (eD .ln ek e d).noLn = false := rfl
theorem nrm_lnD {ek : κ → List Key} {d : List (κ × α)} : (eD .ln ek e d).nrm = eD .ln ek e d := rfl
/-- d.get(k, x) -/
def isDA : T → Bool
  | .nd _ (.dT _) _ => true
  | _ => false
def gDGet2 (x k u : T) : Option T := match x with
  | .nd _ (.dT ks) xs => (keyTT k).map fun kk => (lookT ks xs kk).getD u
  | _ => none
theorem eDGet2_eq {fd fk fx : ES} : eDGet2 fd fk fx δ = (fd δ).bind fun x δ => if isDA x = true then (fk δ).bind fun k δ => (fx δ).bind fun u δ => opt (gDGet2 x k u) δ else .bad := by
  unfold eDGet2
  congr 1; funext x δ
  cases x with
  | nd f k xs =>
    cases k with
    | dT ks =>
      have hi : isDA (T.nd f (.dT ks) xs) = true := rfl
      rw [hi, if_pos rfl]
      dsimp only
      congr 1; funext kt δ
      congr 1; funext u δ
      unfold gDGet2
      dsimp only
      cases keyTT kt <;> rfl
    | _ => rfl
  | _ => rfl
theorem isDA_eD {ek : κ → List Key} {d : List (κ × α)} : isDA (eD f ek e d) = true := rfl
def getKD [DecidableEq κ] (d : List (κ × α)) (k : κ) (v : α) : α := (lookK d k).getD v
theorem o_dget2 [DecidableEq κ] {ek : κ → List Key} {et : κ → T} [h : KeyE ek] [h2 : KeyT et ek] {d : List (κ × α)} {k : κ} {v : α} : opt (gDGet2 (eD f ek e d) (et k) (e v)) δ = .ok (e (getKD d k v)) δ := by
  have : gDGet2 (eD f ek e d) (et k) (e v) = some (e (getKD d k v)) := by
    show (keyTT (et k)).map _ = _
    rw [h2.h]
    show some ((lookT (d.map fun p => ek p.1) (d.map fun p => e p.2) (ek k)).getD (e v)) = _
    rw [lookT_eD]
    unfold getKD
    cases lookK d k <;> rfl
  rw [this]; rfl
end
end TV
set_option Elab.async false
set_option linter.all false
set_option maxRecDepth 100000
set_option maxHeartbeats 4000000
namespace TV
open PySem PySem.Spec L2
section
variable {α β κ σ τ ρ : Type} {f f' : Fg} {e e' : α → T} {δ : Sl}
class KeyN (ek : κ → List Key) (et : outParam (κ → T)) : Prop where h : ∀ a, keyN (ek a) = et a
instance : KeyN ek2 (eP2 .fz T.int T.int) := ⟨fun _ => rfl⟩
instance : KeyN ek3 (eP3 .fz T.int T.int T.int) := ⟨fun _ => rfl⟩
theorem keys_map {ek : κ → List Key} {et : κ → T} [h : KeyN ek et] (d : List (κ × α)) : (d.map fun p => ek p.1).map keyN = (d.map (·.1)).map et := by
  rw [List.map_map, List.map_map]
  congr 1; funext p; exact h.h p.1
theorem o_sortedD [DecidableEq κ] [PLt κ] {ek : κ → List Key} {et : κ → T} [hk : KeyN ek et] [h1 : OkDE 59 et] [h2 : OrdE et] [h3 : SrtE et] {d : List (κ × α)} : opt (gSortedD (eD f ek e d)) δ = .ok (eL .ow .lst et (srtI (d.map (·.1)))) δ := by
  have := o_sorted (f := .ow) (e := et) (δ := δ) (xs := d.map (·.1))
  rw [← this]
  show opt (if sortsT ((d.map fun p => ek p.1).map keyN) = true then _ else none) δ = opt (if sortsT ((d.map (·.1)).map et) = true then _ else none) δ
  rw [keys_map]
def un2O (xs : List α) : O (α × α) := match xs with
  | [a, b] => .ok (a, b)
  | _ => .bad
theorem gUl2 {gs : GSs} {xs : List α} : gUl 2 gs (eL f .lst e xs) δ = bO (un2O xs) fun p => gs [e p.1, e p.2] δ := by
  match xs with
  | [] => rfl
  | [a] => rfl
  | [a, b] => rfl
  | a :: b :: c :: xs =>
    have h : ¬ ((a :: b :: c :: xs).map e).length = 2 := by simp
    exact if_neg (t := gs ((a :: b :: c :: xs).map e) δ) h
def un3O (xs : List α) : O (α × α × α) := match xs with
  | [a, b, c] => .ok (a, b, c)
  | _ => .bad
theorem gUl3 {gs : GSs} {xs : List α} : gUl 3 gs (eL f .lst e xs) δ = bO (un3O xs) fun p => gs [e p.1, e p.2.1, e p.2.2] δ := by
  match xs with
  | [] => rfl
  | [a] => rfl
  | [a, b] => rfl
  | [a, b, c] => rfl
  | a :: b :: c :: d :: xs =>
    have h : ¬ ((a :: b :: c :: d :: xs).map e).length = 3 := by simp
    exact if_neg (t := gs ((a :: b :: c :: d :: xs).map e) δ) h
def O.nb (o : O α) : O α := match o with
  | .ok a => .ok a
  | _ => .bad
theorem gNext_nb {o : O α} {k : α → R Sl Unit} : gNext (bO o k) = bO o.nb fun a => gNext (k a) := by cases o <;> rfl
theorem un2_nb {xs : List α} : (un2O xs).nb = un2O xs := by unfold un2O; split <;> rfl
theorem un3_nb {xs : List α} : (un3O xs).nb = un3O xs := by unfold un3O; split <;> rfl
theorem eOpt_eq {g : ES} : eOpt g δ = (g δ).bind fun t δ => .ok (mkO t) δ := rfl
theorem mkO_some [h : NotNon e] {a : α} : mkO (e a) = eO e (some a) := rfl
theorem eUno_eq {g : ES} : eUno g δ = (g δ).bind fun t δ => if t.isNon = true then .bad else .ok t δ := rfl
def unO (o : Option α) : O α := match o with
  | some a => .ok a
  | none => .bad
theorem unO_eO [h : NotNon e] {o : Option α} {k : T → R Sl β} : (if (eO e o).isNon = true then (.bad : R Sl T) else .ok (eO e o) δ) = bO (unO o) fun a => .ok (e a) δ := by
  cases o with
  | none => rfl
  | some a =>
    show (if (e a).isNon = true then _ else _) = _
    rw [h.h a]; rfl
theorem uno_eO [h : NotNon e] {o : Option α} : (if (eO e o).isNon = true then (.bad : R Sl T) else .ok (eO e o) δ) = bO (unO o) fun a => .ok (e a) δ := unO_eO (k := fun _ => (.bad : R Sl Unit))
instance {e2 : β → T} {e3 : σ → T} {e4 : τ → T} : NotNon (eP4 f e e2 e3 e4) := ⟨fun _ => rfl⟩
instance {ek : κ → List Key} : NotNon (eD f ek e) := ⟨fun _ => rfl⟩
theorem eqv_non : ∀ {t : T}, t.isNon = false → T.eqv t .non = false ∧ T.eqv .non t = false
  | .non, h => by cases h
  | .bl b, _ => ⟨rfl, rfl⟩
  | .int i, _ => ⟨rfl, rfl⟩
  | .str x, _ => ⟨rfl, rfl⟩
  | .nd f k xs, _ => by cases k <;> exact ⟨by simp [T.eqv], rfl⟩
instance [DecidableEq α] [h : EqvE e e'] [h1 : NotNon e] [h2 : NotNon e'] : EqvE (eO e) (eO e') := ⟨fun a b => by
  cases a with
  | none => cases b with
    | none => simp [eO, T.eqv]
    | some b => show T.eqv .non (e' b) = _; rw [(eqv_non (h2.h b)).2]; rfl
  | some a => cases b with
    | none => show T.eqv (e a) .non = _; rw [(eqv_non (h1.h a)).1]; rfl
    | some b =>
      show T.eqv (e a) (e' b) = _
      rw [h.h a b]
      by_cases z : a = b <;> simp [z]⟩
class RFzE (e : α → T) : Prop where h : ∀ a, (e a).rootFz = true
instance : RFzE T.int := ⟨fun _ => rfl⟩
instance : RFzE T.bl := ⟨fun _ => rfl⟩
instance : RFzE T.str := ⟨fun _ => rfl⟩
instance {k : Kd} : RFzE (eL .fz k e) := ⟨fun _ => rfl⟩
instance {e2 : β → T} : RFzE (eP2 .fz e e2) := ⟨fun _ => rfl⟩
instance {e2 : β → T} {e3 : σ → T} : RFzE (eP3 .fz e e2 e3) := ⟨fun _ => rfl⟩
instance {e2 : β → T} {e3 : σ → T} {e4 : τ → T} : RFzE (eP4 .fz e e2 e3 e4) := ⟨fun _ => rfl⟩
theorem rootFz_eO [h : RFzE e] {o : Option α} : (eO e o).rootFz = true := by
  cases o with
  | none => rfl
  | some a => exact h.h a
end
end TV
namespace TV
open PySem PySem.Spec L2
theorem eLn_eq {g : ES} {δ : Sl} : eLn g δ = (g δ).bind fun t δ => .ok t.loan δ := rfl
theorem loan_lst0 {α : Type} {e e' : α → T} [h : LoanE e e'] : (eL .ow .lst e ([] : List α)).loan = eL .ln .lst e' [] := rfl
end TV
namespace TV
open PySem PySem.Spec L2
section
variable {α β : Type} {e : α → T}
def popAtO (xs : List α) (k : Int) : O (List α) := if -(2 ^ 63) ≤ k ∧ k < 2 ^ 63 then (match seqIndex? k xs.length with
  | some j => if j < xs.length then .ok (xs.eraseIdx j) else .bad
  | none => .bad) else .bad
theorem map_erase : ∀ (xs : List α) (n : Nat), (xs.map e).eraseIdx n = (xs.eraseIdx n).map e
  | [], _ => rfl
  | x :: xs, 0 => rfl
  | x :: xs, n + 1 => by rw [List.map_cons, List.eraseIdx_cons_succ, map_erase xs n]; rfl
theorem k_popAt {xs : List α} {i : Int} {k : List T → R Sl β} : optK (stPopAt (xs.map e) [.int i]) .bad k = bO (popAtO xs i) fun ys => k (ys.map e) := by
  unfold stPopAt popAtO
  dsimp only
  rw [List.length_map]
  by_cases h : -(2 ^ 63) ≤ i ∧ i < 2 ^ 63
  · rw [if_pos h, if_pos h]
    cases seqIndex? i xs.length with
    | none => rfl
    | some j =>
      show optK (if j < xs.length then some ((xs.map e).eraseIdx j) else none) .bad k = _
      dsimp only
      by_cases hj : j < xs.length
      · rw [if_pos hj, if_pos hj, map_erase]; rfl
      · rw [if_neg hj, if_neg hj]; rfl
  · rw [if_neg h, if_neg h]; rfl
end
end TV
set_option Elab.async false
set_option linter.all false
set_option maxRecDepth 100000
set_option maxHeartbeats 4000000
namespace TV
open PySem PySem.Spec L2
section
variable {α β κ σ τ ρ : Type} {f f' : Fg} {e e' : α → T} {δ : Sl}
def keysF (t : T) : Option (List T) := match t with
  | .nd .fz (.dT ks) _ => some (ks.map keyN)
  | _ => none
theorem eLcK_eq {i : Nat} {gs : GS} {ft : Sl → R Sl Bool} {fe : ES} {vs : List Nat} : eLcK i gs ft fe vs δ = optK (visT δ i) .bad fun pr => optK (keysF pr.2) .bad fun xs => optK (saveL vs δ) .bad fun kd => endLc kd.2 kd.1 (lcL gs ft fe vs xs kd.2) := by
  unfold eLcK visT
  cases δ[i]? with
  | none => rfl
  | some s =>
    cases s with
    | un => rfl
    | hid p t => rfl
    | vis p t =>
      cases t with
      | nd fl k xs =>
        cases fl with
        | fz =>
          cases k with
          | dT ks =>
            show eLc _ gs ft fe vs δ = _
            rw [eLc_eq]; rfl
          | _ => rfl
        | _ => rfl
      | _ => rfl
theorem keysF_eD {ek : κ → List Key} {et : κ → T} [h : KeyN ek et] {d : List (κ × α)} : keysF (eD .fz ek e d) = some ((d.map (·.1)).map et) := by
  show some ((d.map fun p => ek p.1).map keyN) = _
  rw [keys_map]
end
end TV
namespace TV
open PySem PySem.Spec L2
section
variable {α β σ τ : Type} {f : Fg} {e : α → T} {e2 : β → T} {e3 : σ → T} {e4 : τ → T}
theorem gT2_0 {p : α × β} : gIxT (eP2 f e e2 p) (.int 0) = some (e p.1) := rfl
theorem gT2_1 {p : α × β} : gIxT (eP2 f e e2 p) (.int 1) = some (e2 p.2) := rfl
theorem gT3_0 {p : α × β × σ} : gIxT (eP3 f e e2 e3 p) (.int 0) = some (e p.1) := rfl
theorem gT3_1 {p : α × β × σ} : gIxT (eP3 f e e2 e3 p) (.int 1) = some (e2 p.2.1) := rfl
theorem gT3_2 {p : α × β × σ} : gIxT (eP3 f e e2 e3 p) (.int 2) = some (e3 p.2.2) := rfl
end
end TV
set_option Elab.async false
set_option linter.all false
set_option maxRecDepth 100000
set_option maxHeartbeats 4000000
namespace TV
open PySem PySem.Spec PyProof.Rows L2
def rdI (i : Int) (n : Nat) : List Int := (List.range n).map fun (k : Nat) => i - (k : Int)
theorem rdT_map {i : Int} {n : Nat} : rdT i n = (rdI i n).map T.int := by unfold rdT rdI; rw [List.map_map]; rfl
def rgdO (i j : Int) : O (List Int) := if rgOk i j = true then .ok (rdI i (i - j).toNat) else .bad
section
variable {β : Type} {δ : Sl} {f : Fg}
theorem k_rg3 {i j : Int} {k : List T → R Sl β} : optK (rg3 [.int i, .int j, .int (-1)]) .bad k = bO (rgdO i j) fun xs => k (xs.map T.int) := by
  unfold rg3 rgdO; dsimp only; rw [rdT_map]
  by_cases h : rgOk i j = true
  · rw [if_pos ⟨rfl, h⟩, if_pos h]; rfl
  · rw [if_neg (fun z => h z.2), if_neg h]; rfl
theorem o_inSl {neg : Bool} {x : Str} {xs : List Str} : opt (gInD neg (.str x) (eL f .lst T.str xs)) δ = bO (memS x xs) fun b => .ok (.bl (if neg = true then !b else b)) δ := by
  unfold gInD memS
  show opt (if (T.str x).okD 60 = true ∧ (T.nd f .lst (xs.map T.str)).okD 60 = true then _ else _) δ = _
  have e1 : (T.str x).okD 60 = PyData.strOk x := by simp [T.okD]
  have e2 : (T.nd f .lst (xs.map T.str)).okD 60 = xs.all PyData.strOk := by
    show T.okDL 59 (xs.map T.str) = _
    exact okDL_strs xs
  rw [e1, e2, inD_strs]
  by_cases h : PyData.strOk x = true ∧ xs.all PyData.strOk = true
  · rw [if_pos h, if_pos h]; rfl
  · rw [if_neg h, if_neg h]; rfl
theorem o_inSg {neg : Bool} {x : Str} {xs : List Str} : opt (gInD neg (.str x) (eL f .lsg T.str xs)) δ = bO (memS x xs) fun b => .ok (.bl (if neg = true then !b else b)) δ := by
  unfold gInD memS
  show opt (if (T.str x).okD 60 = true ∧ (T.nd f .lsg (xs.map T.str)).okD 60 = true then _ else _) δ = _
  have e1 : (T.str x).okD 60 = PyData.strOk x := by simp [T.okD]
  have e2 : (T.nd f .lsg (xs.map T.str)).okD 60 = xs.all PyData.strOk := by
    show T.okDL 59 (xs.map T.str) = _
    exact okDL_strs xs
  rw [e1, e2, inD_strs]
  by_cases h : PyData.strOk x = true ∧ xs.all PyData.strOk = true
  · rw [if_pos h, if_pos h]; rfl
  · rw [if_neg h, if_neg h]; rfl
def eqLS (xs ys : List Str) : O Bool := if xs.all PyData.strOk = true ∧ ys.all PyData.strOk = true then .ok (decide (xs = ys)) else .bad
theorem eqvL_strs : ∀ xs ys : List Str, T.eqvL (xs.map T.str) (ys.map T.str) = decide (xs = ys)
  | [], [] => by simp [T.eqvL]
  | [], y :: ys => by simp [T.eqvL]
  | x :: xs, [] => by simp [T.eqvL]
  | x :: xs, y :: ys => by
    rw [List.map_cons, List.map_cons, T.eqvL, eqvL_strs xs ys]
    by_cases h1 : x = y <;> by_cases h2 : xs = ys <;> simp [T.eqv, h1, h2]
variable {g : Fg}
theorem o_eqLS {xs ys : List Str} : opt (gEq (eL f .lst T.str xs) (eL g .lst T.str ys)) δ = bO (eqLS xs ys) fun b => .ok (.bl b) δ := by
  unfold gEq eqLS
  have e1 : ∀ f, ∀ xs : List Str, (eL f .lst T.str xs).okD 60 = xs.all PyData.strOk := fun f xs => by
    show T.okDL 59 (xs.map T.str) = _
    exact okDL_strs xs
  have e3 : (eL f .lst T.str xs).eqv (eL g .lst T.str ys) = decide (xs = ys) := by
    show T.eqv (.nd f .lst (xs.map T.str)) (.nd g .lst (ys.map T.str)) = _
    rw [T.eqv]; exact eqvL_strs xs ys
  rw [e1, e1, e3]
  by_cases h : xs.all PyData.strOk = true ∧ ys.all PyData.strOk = true
  · rw [if_pos h, if_pos h]; rfl
  · rw [if_neg h, if_neg h]; rfl
theorem o_neLS {xs ys : List Str} : opt (gNe (eL f .lst T.str xs) (eL g .lst T.str ys)) δ = bO (eqLS xs ys) fun b => .ok (.bl (!b)) δ := by
  unfold gNe eqLS
  have e1 : ∀ f, ∀ xs : List Str, (eL f .lst T.str xs).okD 60 = xs.all PyData.strOk := fun f xs => by
    show T.okDL 59 (xs.map T.str) = _
    exact okDL_strs xs
  have e3 : (eL f .lst T.str xs).eqv (eL g .lst T.str ys) = decide (xs = ys) := by
    show T.eqv (.nd f .lst (xs.map T.str)) (.nd g .lst (ys.map T.str)) = _
    rw [T.eqv]; exact eqvL_strs xs ys
  rw [e1, e1, e3]
  by_cases h : xs.all PyData.strOk = true ∧ ys.all PyData.strOk = true
  · rw [if_pos h, if_pos h]; rfl
  · rw [if_neg h, if_neg h]; rfl
end
def gIxV : T → T → Option T := gIx
section
variable {α : Type} {δ : Sl} {f : Fg} {e : α → T}
theorem o_p2v {p : α × α} {i : Int} : opt (gIxV (eP2 f e e p) (.int i)) δ = bO (ixO [p.1, p.2] i) fun a => .ok (e a) δ := by
  unfold gIxV gIx gIxL gIxT gIxS eP2 ixO; dsimp only; rw [show [e p.1, e p.2] = [p.1, p.2].map e from rfl, atI_map]; cases atI [p.1, p.2] i <;> rfl
theorem o_p3v {p : α × α × α} {i : Int} : opt (gIxV (eP3 f e e e p) (.int i)) δ = bO (ixO [p.1, p.2.1, p.2.2] i) fun a => .ok (e a) δ := by
  unfold gIxV gIx gIxL gIxT gIxS eP3 ixO; dsimp only; rw [show [e p.1, e p.2.1, e p.2.2] = [p.1, p.2.1, p.2.2].map e from rfl, atI_map]; cases atI [p.1, p.2.1, p.2.2] i <;> rfl
end
section
variable {α β : Type} {e : α → T}
theorem zip_mapG {k1 k2 : Kd} {f1 f2 : Fg} {e2 : β → T} {fl : Fg} [h : TupF2 e e2 fl] {xs : List α} {ys : List β} (h1 : seqOf (eL f1 k1 e xs) = some (xs.map e)) (h2 : seqOf (eL f2 k2 e2 ys) = some (ys.map e2)) : zipT [eL f1 k1 e xs, eL f2 k2 e2 ys] = some ((xs.zip ys).map (eP2 fl e e2)) := by
  show (seqOf _).bind _ = _
  rw [h1, h2]
  exact zip_map (f1 := f1) (f2 := f2)
theorem zip_map1 {f1 f2 : Fg} {e2 : β → T} {fl : Fg} [h : TupF2 e e2 fl] {xs : List α} {ys : List β} : zipT [eL f1 .lsg e xs, eL f2 .lst e2 ys] = some ((xs.zip ys).map (eP2 fl e e2)) := zip_mapG rfl rfl
theorem zip_map2 {f1 f2 : Fg} {e2 : β → T} {fl : Fg} [h : TupF2 e e2 fl] {xs : List α} {ys : List β} : zipT [eL f1 .lst e xs, eL f2 .lsg e2 ys] = some ((xs.zip ys).map (eP2 fl e e2)) := zip_mapG rfl rfl
end
theorem mkO_non : mkO .non = .non := rfl
theorem eO_none {α : Type} {e : α → T} : eO e none = .non := rfl
end TV
set_option Elab.async false
set_option linter.all false
set_option maxRecDepth 100000
namespace TV
open PySem PySem.Spec PyProof.Rows L2
theorem o_count {δ : Sl} {a b : Str} : opt (gCount (.str a) [.str b]) δ = .ok (.int (PySem.Txt.count a b)) δ := rfl
/-- a text's sign by its number -/
def ixS (z : Str) (i : Int) : O Str := if z.length ≤ sizeLine then (ixO z.cps.toList i).bind fun c => .ok ⟨#[c]⟩ else .bad
theorem o_ixS {δ : Sl} {z : Str} {i : Int} : opt (gIx (.str z) (.int i)) δ = bO (ixS z i) fun c => .ok (.str c) δ := by
  unfold gIx gIxL gIxT gIxS ixS ixO; dsimp only
  by_cases h : z.length ≤ sizeLine
  · rw [if_pos h, if_pos h]; cases atI z.cps.toList i <;> rfl
  · rw [if_neg h, if_neg h]; rfl
section
variable {α β : Type} {δ : Sl} {e : α → T}
theorem sMethP_e {i : Nat} {step : List T → List T → Option (List T)} {f1 : Sl → Option T} : sMethP i (ptIx i (ptN i) f1) [.nd .ow .lst []] step δ = optK (visT δ i) .bad fun pr => optK (f1 δ) .bad fun k1 => optK (methT1 pr.2 k1 fun xs => step xs [.nd .ow .lst []]) .bad fun r' => .ok .next (δ.set i (.vis pr.1 r')) := sMethP_gen rfl
theorem sMethP2_e {i : Nat} {step : List T → List T → Option (List T)} {f1 f2 : Sl → Option T} : sMethP i (ptIx i (ptIx i (ptN i) f1) f2) [.nd .ow .lst []] step δ = optK (visT δ i) .bad fun pr => optK (f1 δ) .bad fun k1 => optK (f2 δ) .bad fun k2 => optK (methT2 pr.2 k1 k2 fun xs => step xs [.nd .ow .lst []]) .bad fun r' => .ok .next (δ.set i (.vis pr.1 r')) := sMethP2_gen rfl
theorem k_app2e {xss : List (List (List α))} {a : Int} {k : T → R Sl β} : optK (methT1 (eL .ow .lst (eL .ow .lst (eL .ow .lst e)) xss) (.int a) fun xs => stApp xs [.nd .ow .lst []]) .bad k = bO (app2O xss a ([] : List α)) fun yss => k (eL .ow .lst (eL .ow .lst (eL .ow .lst e)) yss) := k_app2 (e := eL .ow .lst e) (v := ([] : List α))
theorem k_app3e {xs : List (List (List (List α)))} {a b : Int} {k : T → R Sl β} : optK (methT2 (eL .ow .lst (eL .ow .lst (eL .ow .lst (eL .ow .lst e))) xs) (.int a) (.int b) fun xs => stApp xs [.nd .ow .lst []]) .bad k = bO (app3O xs a b ([] : List α)) fun yss => k (eL .ow .lst (eL .ow .lst (eL .ow .lst (eL .ow .lst e))) yss) := at3_core (e := eL .ow .lst e) fun ys k => k_app (e := eL .ow .lst e) (a := ([] : List α))
end
section
variable {α β : Type} {δ : Sl} {e e' : α → T} {f g : Fg}
theorem eL_someL {k : Kd} {xs : List α} : eL f k e xs = eL f k (eO e) (xs.map some) := by unfold eL; rw [List.map_map]; rfl
theorem o_eqLO [DecidableEq α] [OkDE 59 e] [OkDE 59 e'] [EqvE e e'] [NotNon e] [NotNon e'] {xs : List α} {ys : List (Option α)} : opt (gEq (eL f .lst e xs) (eL g .lst (eO e') ys)) δ = .ok (.bl (decide (xs.map some = ys))) δ := by
  rw [eL_someL]; exact o_eq
theorem o_neLO [DecidableEq α] [OkDE 59 e] [OkDE 59 e'] [EqvE e e'] [NotNon e] [NotNon e'] {xs : List α} {ys : List (Option α)} : opt (gNe (eL f .lst e xs) (eL g .lst (eO e') ys)) δ = .ok (.bl (!decide (xs.map some = ys))) δ := by
  rw [eL_someL]; exact o_ne
theorem o_eqOL [DecidableEq α] [OkDE 59 e] [OkDE 59 e'] [EqvE e e'] [NotNon e] [NotNon e'] {ys : List α} {xs : List (Option α)} : opt (gEq (eL f .lst (eO e) xs) (eL g .lst e' ys)) δ = .ok (.bl (decide (xs = ys.map some))) δ := by
  rw [eL_someL (e := e')]; exact o_eq
theorem o_neOL [DecidableEq α] [OkDE 59 e] [OkDE 59 e'] [EqvE e e'] [NotNon e] [NotNon e'] {ys : List α} {xs : List (Option α)} : opt (gNe (eL f .lst (eO e) xs) (eL g .lst e' ys)) δ = .ok (.bl (!decide (xs = ys.map some))) δ := by
  rw [eL_someL (e := e')]; exact o_ne
end
end TV
set_option Elab.async false
set_option linter.all false
set_option maxRecDepth 100000
namespace TV
open PySem PySem.Spec PyProof.Rows L2
def eTD (xs : List Int) : T := .nd .fz .tup (xs.map T.int)
theorem all_sc_int : ∀ xs : List Int, (xs.map T.int).all T.sc = true
  | [] => rfl
  | _ :: xs => all_sc_int xs
theorem o_tupTD {δ : Sl} {f : Fg} {xs : List Int} : opt (gTupOf (eL f .lst T.int xs)) δ = .ok (eTD xs) δ := by
  show R.ok (mkN .tup (xs.map T.int)) δ = _
  unfold mkN eTD scTup; dsimp only
  rw [if_pos (all_sc_int xs)]
def tupRepO (xs : List Int) (k : Int) : O (List (Int × Int)) :=
  if -(2 ^ 63) ≤ k ∧ k < 2 ^ 63 ∧ 1 * k.toNat ≤ sizeLine then
    (if k.toNat = 0 then .ok [] else match xs with
      | [a, b] => .ok (List.replicate k.toNat (a, b))
      | _ => .bad) else .bad
theorem isP2_TD {xs : List Int} : T.isP2 (eTD xs) = true ↔ ∃ a b, xs = [a, b] := by
  unfold eTD
  match xs with
  | [] => exact ⟨fun h => (by cases h), fun ⟨_, _, h⟩ => (by cases h)⟩
  | [a] => exact ⟨fun h => (by cases h), fun ⟨_, _, h⟩ => (by cases h)⟩
  | [a, b] => exact ⟨fun _ => ⟨a, b, rfl⟩, fun _ => rfl⟩
  | a :: b :: c :: l => exact ⟨fun h => (by cases h), fun ⟨_, _, h⟩ => (by cases h)⟩
theorem o_mulTD {δ : Sl} {f : Fg} {xs : List Int} {k : Int} : opt (gMulP (eL f .lst eTD [xs]) (.int k)) δ = bO (tupRepO xs k) fun zs => .ok (eL .ow .lst (eP2 .fz T.int T.int) zs) δ := by
  have e0 : gMul (eL f .lst eTD [xs]) (.int k) = if -(2 ^ 63) ≤ k ∧ k < 2 ^ 63 ∧ 1 * k.toNat ≤ sizeLine then some (.nd .ow .lst (List.replicate k.toNat [eTD xs]).flatten) else none := by
    have a : T.noLnL [eTD xs] = true := by simp [T.noLnL, T.noLn, eTD]
    have b : T.frzL [eTD xs] = [eTD xs] := by simp [T.frzL, T.frz, eTD]
    unfold gMul eL; dsimp only [List.map]
    rw [a, b]; simp
  unfold gMulP tupRepO
  rw [e0]
  by_cases h : -(2 ^ 63) ≤ k ∧ k < 2 ^ 63 ∧ 1 * k.toNat ≤ sizeLine
  · rw [if_pos h, if_pos h]
    dsimp only
    have ef : (List.replicate k.toNat [eTD xs]).flatten = List.replicate k.toNat (eTD xs) := by
      induction k.toNat with
      | zero => rfl
      | succ n ih => rw [List.replicate_succ, List.flatten_cons, ih]; rfl
    rw [ef]
    by_cases hk : k.toNat = 0
    · rw [hk]; rfl
    · rw [if_neg hk]
      by_cases hp : ∃ a b, xs = [a, b]
      · obtain ⟨a, b, rfl⟩ := hp
        have : (List.replicate k.toNat (eTD [a, b])).all T.isP2 = true := by simp [isP2_TD]
        rw [if_pos this]
        show R.ok _ δ = R.ok _ δ
        unfold eL; rw [List.map_replicate]; rfl
      · have : ¬ (List.replicate k.toNat (eTD xs)).all T.isP2 = true := by
          rw [List.all_replicate]; simp only [hk, if_false]; exact fun z => hp (isP2_TD.mp z)
        rw [if_neg this]
        match xs, hp with
        | [], _ => rfl
        | [a], _ => rfl
        | [a, b], hp => exact (hp ⟨a, b, rfl⟩).elim
        | a :: b :: c :: l, _ => rfl
  · rw [if_neg h, if_neg h]; rfl
end TV
set_option Elab.async false
set_option linter.all false
set_option maxRecDepth 100000
set_option maxHeartbeats 4000000
namespace TV
open PySem PySem.Spec L2
def eE (x : Xc) : T := xT x
instance : NoLnE eE := ⟨fun _ => rfl⟩
instance : FrzE eE eE := ⟨fun _ => rfl⟩
instance : LoanE eE eE := ⟨fun _ => rfl⟩
instance : RFzE eE := ⟨fun _ => rfl⟩
instance : NotNon eE := ⟨fun _ => rfl⟩
instance : NscE eE := ⟨fun _ => rfl⟩
theorem rootFz_eE {x : Xc} : (eE x).rootFz = true := rfl
section
variable {α β τ ρ : Type} {δ : Sl}
theorem eIsE_eq {xs : List Str} {c : Str} {g : ES} : eIsE xs c g δ = (g δ).bind fun t δ => opt ((isE xs c t).map T.bl) δ := rfl
def isEO (xs : List Str) (c : Str) (x : Xc) : O Bool := if xs.contains x.n = true then .ok (excSub x.n c) else .bad
def isEOo (xs : List Str) (c : Str) : Option Xc → O Bool
  | none => .ok false
  | some x => isEO xs c x
theorem xT_len (x : Xc) : (match x.f with
  | none => ([] : List T)
  | some (p, q) => [keyN p, keyN q]).length ≠ 1 := by
  obtain ⟨n, f⟩ := x
  cases f with
  | none => show (0 : Nat) ≠ 1; decide
  | some pq => obtain ⟨p, q⟩ := pq; show 2 ≠ 1; decide
theorem o_isE {xs : List Str} {c : Str} {x : Xc} : opt ((isE xs c (eE x)).map T.bl) δ = bO (isEO xs c x) fun b => .ok (.bl b) δ := by
  unfold isEO eE xT isE
  by_cases h : xs.contains x.n = true
  · rw [if_pos h]; dsimp only; rw [if_pos ⟨h, xT_len x⟩]; rfl
  · rw [if_neg h]; dsimp only; rw [if_neg fun z => h z.1]; rfl
theorem o_isEo {xs : List Str} {c : Str} {o : Option Xc} : opt ((isE xs c (eO eE o)).map T.bl) δ = bO (isEOo xs c o) fun b => .ok (.bl b) δ := by
  cases o with
  | none => rfl
  | some x => exact o_isE
theorem sRaise_eq {vs : List Nat} {x : Str} : sRaise vs x δ = .exc (x : Xc) (fgS vs δ) := rfl
end
end TV
set_option Elab.async false
set_option linter.all false
set_option maxRecDepth 100000
set_option maxHeartbeats 4000000
namespace TV
open PySem PySem.Spec L2
inductive Dy where
  | non | bl (b : Bool) | int (i : Int) | str (x : Str)
  | lst (xs : List Dy) | tup (xs : List Dy)
mutual
def eX : Dy → T
  | .non => .non
  | .bl b => .bl b
  | .int i => .int i
  | .str x => .str x
  | .lst xs => .nd .fz .lst (eXL xs)
  | .tup xs => .nd .fz .tup (eXL xs)
def eXL : List Dy → List T
  | [] => []
  | x :: xs => eX x :: eXL xs
end
theorem eXL_map : ∀ xs : List Dy, eXL xs = xs.map eX
  | [] => rfl
  | x :: xs => by rw [eXL, eXL_map xs]; rfl
theorem eX_lst {xs : List Dy} : eX (.lst xs) = eL .fz .lst eX xs := by unfold eL; rw [eX, eXL_map]
theorem eX_tup {xs : List Dy} : eX (.tup xs) = eL .fz .tup eX xs := by unfold eL; rw [eX, eXL_map]
theorem eX_noLn (d : Dy) : (eX d).noLn = true := by cases d <;> (first | (simp only [eX]; rfl) | (unfold eX; rfl))
theorem eX_frz (d : Dy) : (eX d).frz = eX d := by cases d <;> (unfold eX; rfl)
theorem eX_loan (d : Dy) : (eX d).loan = eX d := by cases d <;> (unfold eX; rfl)
theorem eX_root (d : Dy) : (eX d).rootFz = true := by cases d <;> (unfold eX; rfl)
instance : NoLnE eX := ⟨eX_noLn⟩
instance : FrzE eX eX := ⟨eX_frz⟩
instance : LoanE eX eX := ⟨eX_loan⟩
instance : RFzE eX := ⟨eX_root⟩
class ToX {α : Type} (e : α → T) (c : outParam (α → Dy)) : Prop where h : ∀ a, e a = eX (c a)
instance : ToX T.int Dy.int := ⟨fun _ => by rw [eX]⟩
instance : ToX T.bl Dy.bl := ⟨fun _ => by rw [eX]⟩
instance : ToX T.str Dy.str := ⟨fun _ => by rw [eX]⟩
instance : ToX eX id := ⟨fun _ => rfl⟩
section
variable {α β γ ε ρ : Type} {e : α → T} {δ : Sl} {f f' : Fg}
instance {c : α → Dy} [h : ToX e c] : ToX (eL .fz .lst e) (fun xs => Dy.lst (xs.map c)) := ⟨fun xs => by
  rw [eX_lst]; unfold eL; rw [List.map_map]; congr 1
  exact List.map_congr_left fun a _ => h.h a⟩
instance {e2 : β → T} {c : α → Dy} {c2 : β → Dy} [h : ToX e c] [h2 : ToX e2 c2] : ToX (eP2 .fz e e2) (fun p => Dy.tup [c p.1, c2 p.2]) := ⟨fun p => by
  rw [eX_tup]; unfold eL eP2; rw [h.h, h2.h]; rfl⟩
instance {e2 : β → T} {e3 : γ → T} {c : α → Dy} {c2 : β → Dy} {c3 : γ → Dy} [h : ToX e c] [h2 : ToX e2 c2] [h3 : ToX e3 c3] : ToX (eP3 .fz e e2 e3) (fun p => Dy.tup [c p.1, c2 p.2.1, c3 p.2.2]) := ⟨fun p => by
  rw [eX_tup]; unfold eL eP3; rw [h.h, h2.h, h3.h]; rfl⟩
instance {e2 : β → T} {e3 : γ → T} {e4 : ε → T} {c : α → Dy} {c2 : β → Dy} {c3 : γ → Dy} {c4 : ε → Dy} [h : ToX e c] [h2 : ToX e2 c2] [h3 : ToX e3 c3] [h4 : ToX e4 c4] : ToX (eP4 .fz e e2 e3 e4) (fun p => Dy.tup [c p.1, c2 p.2.1, c3 p.2.2.1, c4 p.2.2.2]) := ⟨fun p => by
  rw [eX_tup]; unfold eL eP4; rw [h.h, h2.h, h3.h, h4.h]; rfl⟩
def oX (c : α → Dy) : Option α → Dy
  | none => .non
  | some a => c a
instance {c : α → Dy} [h : ToX e c] : ToX (eO e) (oX c) := ⟨fun o => by
  cases o with
  | none => show T.non = eX .non; rw [eX]
  | some a => exact h.h a⟩
theorem eCX_eq {g : ES} : eCX g δ = (g δ).bind fun t δ => .ok (mkX t) δ := rfl
theorem eCXL_eq {g : ES} : eCXL g δ = (g δ).bind fun t δ => .ok (mkXL t) δ := rfl
theorem mkX_e {c : α → Dy} [h : ToX e c] {a : α} : mkX (e a) = eX (c a) := h.h a
theorem mkX_non : mkX .non = eX .non := by rw [eX]; rfl
theorem mkXL_e {c : α → Dy} [h : ToX e c] {xs : List α} : mkXL (eL f .lst e xs) = eL f .lst eX (xs.map c) := by
  show T.nd f .lst (xs.map e) = .nd f .lst ((xs.map c).map eX)
  rw [List.map_map]; congr 1
  exact List.map_congr_left fun a _ => h.h a
theorem mkXL_nil : mkXL (eL f .lst e ([] : List α)) = eL f .lst eX [] := rfl
class Nar (α : Type) where
  e : α → T
  p : T → Bool
  u : Dy → Option α
  h : ∀ d, p (eX d) = (u d).isSome ∧ ∀ a, u d = some a → eX d = e a
def narO [Nar α] (d : Dy) : O α := match Nar.u d with
  | some a => .ok a
  | none => .bad
theorem nar_eq [n : Nar α] {d : Dy} : narT n.p (eX d) δ = bO (narO d) fun a : α => .ok (n.e a) δ := by
  obtain ⟨h1, h2⟩ := n.h d
  unfold narT narO
  cases e : n.u d with
  | none => rw [h1, e]; rfl
  | some a => rw [h1, e, h2 a e]; rfl
theorem eNar_eq {p : T → Bool} {g : ES} : eNar p g δ = (g δ).bind fun t δ => narT p t δ := rfl
def isIntT : T → Bool
  | .int _ => true
  | _ => false
def isStrT : T → Bool
  | .str _ => true
  | _ => false
def isLstT : T → Bool
  | .nd .fz .lst _ => true
  | _ => false
instance : Nar Int where
  e := T.int
  p := isIntT
  u := fun d => match d with
    | .int i => some i
    | _ => none
  h := fun d => by cases d <;> (refine ⟨by unfold eX; rfl, fun a h => ?_⟩ <;> (first | (cases h; done) | (cases h; unfold eX; rfl)))
instance : Nar Str where
  e := T.str
  p := isStrT
  u := fun d => match d with
    | .str i => some i
    | _ => none
  h := fun d => by cases d <;> (refine ⟨by unfold eX; rfl, fun a h => ?_⟩ <;> (first | (cases h; done) | (cases h; unfold eX; rfl)))
instance : Nar (List Dy) where
  e := eL .fz .lst eX
  p := isLstT
  u := fun d => match d with
    | .lst xs => some xs
    | _ => none
  h := fun d => by cases d <;> (refine ⟨by unfold eX; rfl, fun a h => ?_⟩ <;> (first | (cases h; done) | (cases h; exact eX_lst)))
def allT (p : T → Bool) : T → Bool
  | .nd .fz .lst xs => xs.all p
  | _ => false
def unL (u : Dy → Option α) : List Dy → Option (List α)
  | [] => some []
  | x :: xs => match u x, unL u xs with
    | some a, some as => some (a :: as)
    | _, _ => none
theorem unL_cons {u : Dy → Option α} {x : Dy} {xs : List Dy} : unL u (x :: xs) = match u x, unL u xs with
    | some a, some as => some (a :: as)
    | _, _ => none := rfl
theorem unL_ok [n : Nar α] : ∀ xs : List Dy, (xs.map eX).all n.p = (unL n.u xs).isSome ∧ ∀ as, unL n.u xs = some as → xs.map eX = as.map n.e
  | [] => ⟨rfl, fun as h => by cases h; rfl⟩
  | x :: xs => by
    obtain ⟨a1, a2⟩ := unL_ok xs
    obtain ⟨h1, h2⟩ := n.h x
    rw [List.map_cons, List.all_cons, a1, h1, unL_cons]
    cases e1 : n.u x with
    | none => exact ⟨rfl, fun as h => by cases h⟩
    | some a =>
      cases e2 : unL n.u xs with
      | none => exact ⟨rfl, fun as h => by cases h⟩
      | some as =>
        refine ⟨rfl, fun bs h => ?_⟩
        cases h
        rw [List.map_cons, h2 a e1, a2 as e2]
instance [n : Nar α] : Nar (List α) where
  e := eL .fz .lst n.e
  p := allT n.p
  u := fun d => match d with
    | .lst xs => unL n.u xs
    | _ => none
  h := fun d => by
    cases d with
    | lst xs =>
      obtain ⟨a1, a2⟩ := unL_ok (n := n) xs
      refine ⟨?_, fun as h => ?_⟩
      · rw [eX_lst]; exact a1
      · rw [eX_lst]; unfold eL; rw [a2 as h]
    | _ => exact ⟨by unfold eX; rfl, fun a h => by cases h⟩
theorem nar_int {d : Dy} : narT isIntT (eX d) δ = bO (narO d) fun a : Int => .ok (T.int a) δ := nar_eq (α := Int)
theorem nar_str {d : Dy} : narT isStrT (eX d) δ = bO (narO d) fun a : Str => .ok (T.str a) δ := nar_eq (α := Str)
theorem nar_lst {d : Dy} : narT isLstT (eX d) δ = bO (narO d) fun a : List Dy => .ok (eL .fz .lst eX a) δ := nar_eq (α := List Dy)
theorem nar_LI {d : Dy} : narT (allT isIntT) (eX d) δ = bO (narO d) fun a : List Int => .ok (eL .fz .lst T.int a) δ := nar_eq (α := List Int)
theorem nar_LLI {d : Dy} : narT (allT (allT isIntT)) (eX d) δ = bO (narO d) fun a : List (List Int) => .ok (eL .fz .lst (eL .fz .lst T.int) a) δ := nar_eq (α := List (List Int))
def isX (n : String) : Dy → Bool
  | .non => false
  | .bl _ => n == "bool" || n == "int"
  | .int _ => n == "int"
  | .str _ => n == "str"
  | .lst _ => n == "list"
  | .tup _ => n == "tuple"
theorem isi_X_int {d : Dy} : opt ((gIsi "int" (eX d)).map T.bl) δ = .ok (.bl (isX "int" d)) δ := by cases d <;> (unfold eX; simp [gIsi, tyN, kt1, kt8, kt13, kt19, kt22, kt26, isX, opt])
theorem isi_X_bool {d : Dy} : opt ((gIsi "bool" (eX d)).map T.bl) δ = .ok (.bl (isX "bool" d)) δ := by cases d <;> (unfold eX; simp [gIsi, tyN, kt2, kt9, kt14, kt20, kt21, kt27, isX, opt])
theorem isi_X_list {d : Dy} : opt ((gIsi "list" (eX d)).map T.bl) δ = .ok (.bl (isX "list" d)) δ := by cases d <;> (unfold eX; simp [gIsi, tyN, kt3, kt6, kt12, kt17, kt23, kt28, isX, opt])
theorem isi_X_tuple {d : Dy} : opt ((gIsi "tuple" (eX d)).map T.bl) δ = .ok (.bl (isX "tuple" d)) δ := by cases d <;> (unfold eX; simp [gIsi, tyN, kt4, kt7, kt11, kt18, kt24, kt29, isX, opt])
theorem isi_X_str {d : Dy} : opt ((gIsi "str" (eX d)).map T.bl) δ = .ok (.bl (isX "str" d)) δ := by cases d <;> (unfold eX; simp [gIsi, tyN, kt5, kt10, kt15, kt16, kt25, kt30, isX, opt])
def lenX : Dy → O Int
  | .lst xs => .ok (xs.length : Int)
  | .tup xs => .ok (xs.length : Int)
  | .str z => lenS z
  | _ => .bad
theorem o_lenX {d : Dy} : opt (gLen (eX d)) δ = bO (lenX d) fun n => .ok (.int n) δ := by
  cases d with
  | lst xs => rw [eX_lst]; exact o_len
  | tup xs =>
    rw [eX_tup]
    show R.ok (T.int ((xs.map eX).length : Int)) δ = _; rw [List.length_map]; rfl
  | str z => rw [eX]; exact o_lenS
  | _ => unfold eX; rfl
def itX : Dy → O (List Dy)
  | .lst xs => .ok xs
  | .tup xs => .ok xs
  | _ => .bad
theorem it_X {d : Dy} {k : List T → R Sl ρ} : optK ((tupOf (eX d)).or (seqOf (eX d))) .bad k = bO (itX d) fun xs => k (xs.map eX) := by
  cases d with
  | lst xs => rw [eX_lst]; rfl
  | tup xs => rw [eX_tup]; rfl
  | _ => unfold eX; rfl
def ixX (d : Dy) (i : Int) : O Dy := match d with
  | .lst xs => ixO xs i
  | .tup xs => ixO xs i
  | _ => .bad
theorem o_ixX {d : Dy} {i : Int} : opt (gIxD (eX d) (.int i)) δ = bO (ixX d i) fun a => .ok (eX a) δ := by
  cases d with
  | lst xs => rw [eX_lst]; exact o_ix
  | tup xs =>
    rw [eX_tup]
    unfold ixX
    show opt (gIx (eL .fz .tup eX xs) (.int i)) δ = _
    unfold gIx gIxL gIxT gIxS eL ixO; dsimp only; rw [atI_map]; cases atI xs i <;> rfl
  | _ => unfold eX; rfl
def eqX (a b : Dy) : O Bool := if (eX a).okD 60 = true ∧ (eX b).okD 60 = true then .ok ((eX a).eqv (eX b)) else .bad
theorem o_eqX {a b : Dy} : opt (gEq (eX a) (eX b)) δ = bO (eqX a b) fun x => .ok (.bl x) δ := by
  unfold gEq eqX
  by_cases h : (eX a).okD 60 = true ∧ (eX b).okD 60 = true
  · rw [if_pos h, if_pos h]; rfl
  · rw [if_neg h, if_neg h]; rfl
theorem o_neX {a b : Dy} : opt (gNe (eX a) (eX b)) δ = bO (eqX a b) fun x => .ok (.bl (!x)) δ := by
  unfold gNe eqX
  by_cases h : (eX a).okD 60 = true ∧ (eX b).okD 60 = true
  · rw [if_pos h, if_pos h]; rfl
  · rw [if_neg h, if_neg h]; rfl
def inX (a : Dy) (xs : List Dy) : O Bool := if (eX a).okD 60 = true ∧ T.okDL 59 (xs.map eX) = true then .ok (xs.any fun z => (eX z).eqv (eX a)) else .bad
theorem o_inX {neg : Bool} {a : Dy} {xs : List Dy} : opt (gInD neg (eX a) (eL f .lst eX xs)) δ = bO (inX a xs) fun x => .ok (.bl (if neg = true then !x else x)) δ := by
  unfold gInD inX
  rw [itemsOf_eL]
  have e1 : (eL f .lst eX xs).okD 60 = T.okDL 59 (xs.map eX) := rfl
  show opt (if (eX a).okD 60 = true ∧ (eL f .lst eX xs).okD 60 = true then _ else _) δ = _
  rw [e1]
  by_cases h : (eX a).okD 60 = true ∧ T.okDL 59 (xs.map eX) = true
  · rw [if_pos h, if_pos h]
    unfold inD
    rw [List.any_map]; cases neg <;> rfl
  · rw [if_neg h, if_neg h]; rfl
def reprX (d : Dy) : O Str := if (eX d).okD 60 = true ∧ (eX d).toD.showable = true ∧ (eX d).toD.shown.length ≤ sizeLine then .ok (eX d).toD.shown else .bad
theorem o_reprX {d : Dy} : opt (gRepr (eX d)) δ = bO (reprX d) fun x => .ok (.str x) δ := by
  unfold gRepr reprT reprX
  by_cases h : (eX d).okD 60 = true
  · rw [if_pos h]
    by_cases h2 : (eX d).toD.showable = true ∧ (eX d).toD.shown.length ≤ sizeLine
    · rw [if_pos h2, if_pos ⟨h, h2⟩]; rfl
    · rw [if_neg h2, if_neg fun z => h2 z.2]; rfl
  · rw [if_neg h, if_neg fun z => h z.1]; rfl
def isNX : Dy → Bool
  | .non => true
  | _ => false
theorem isN_X {d : Dy} : opt (gIsN (eX d) .non) δ = .ok (.bl (isNX d)) δ := by cases d <;> (unfold eX; rfl)
theorem notN_X {d : Dy} : opt (gNotN (eX d) .non) δ = .ok (.bl (!isNX d)) δ := by cases d <;> (unfold eX; rfl)
theorem rootFz_X {d : Dy} : (eX d).rootFz = true := eX_root d
theorem noLn_mkX (k : Kd) (xs : List Dy) : (mkN k (xs.map eX)).noLn = true := by
  have h : T.noLnL (xs.map eX) = true := noLnL_map xs
  unfold mkN
  split
  · rfl
  · rw [T.noLn]; exact h
theorem frz_mkX (k : Kd) (xs : List Dy) : (mkN k (xs.map eX)).frz = .nd .fz k (xs.map eX) := by
  have h : T.frzL (xs.map eX) = xs.map eX := frzL_map xs
  unfold mkN
  split
  · rw [T.frz]
  · rw [T.frz, h]
theorem frz_mkTup (xs : List Dy) : (mkN .tup (xs.map eX)).frz = eX (.tup xs) := by rw [frz_mkX, eX_tup]; rfl
end
end TV
set_option Elab.async false
set_option linter.all false
set_option maxRecDepth 100000
set_option maxHeartbeats 4000000
namespace TV
open PySem PySem.Spec L2
section
variable {α β : Type} {e e' : α → T} {δ : Sl} {f f' : Fg}
instance : ToX eTD (fun xs => Dy.tup (xs.map Dy.int)) := ⟨fun xs => by
  rw [eX_tup]; unfold eTD eL; rw [List.map_map]
  congr 1⟩
instance {c : α → Dy} [h : ToX e c] : ToX (eL .fz .tup e) (fun xs => Dy.tup (xs.map c)) := ⟨fun xs => by
  rw [eX_tup]; unfold eL; rw [List.map_map]; congr 1
  exact List.map_congr_left fun a _ => h.h a⟩
theorem o_tupL {xs : List α} : opt (gTupOf (eL f .lst e xs)) δ = .ok (mkN .tup (xs.map e)) δ := rfl
theorem noLn_mkNL {k : Kd} [h : NoLnE e] {xs : List α} : (mkN k (xs.map e)).noLn = true := by
  unfold mkN
  split
  · rfl
  · rw [T.noLn]; exact noLnL_map xs
theorem frz_sc : ∀ {xs : List T}, xs.all T.sc = true → T.frzL xs = xs
  | [], _ => rfl
  | x :: xs, h => by
    rw [List.all_cons, Bool.and_eq_true] at h
    rw [T.frzL, frz_sc h.2]
    congr 1
    cases x <;> first | rfl | cases h.1
theorem frz_mkTL [h : FrzE e e'] {xs : List α} : (mkN .tup (xs.map e)).frz = eL .fz .tup e' xs := by
  unfold mkN eL
  split
  · rename_i hs
    have := frz_sc (xs := xs.map e) hs
    rw [frzL_map] at this
    rw [T.frz, this]
  · rw [T.frz, frzL_map]
theorem tupOf_eLt {xs : List α} : tupOf (eL f .tup e xs) = some (xs.map e) := rfl
theorem o_lent {xs : List α} : opt (gLen (eL f .tup e xs)) δ = .ok (.int (xs.length : Int)) δ := by
  show R.ok (T.int ((xs.map e).length : Int)) δ = _; rw [List.length_map]
theorem isi_eLt {n : String} {xs : List α} : opt ((gIsi n (eL f .tup e xs)).map T.bl) δ = opt ((kitB "tuple" n).map T.bl) δ := rfl
def isBX (d : Dy) (b : Bool) : Bool := match d with
  | .bl a => decide (a = b)
  | _ => false
theorem o_isBX {d : Dy} {b : Bool} : opt (gIsBX (eX d) (.bl b)) δ = .ok (.bl (isBX d b)) δ := by cases d <;> (unfold eX; rfl)
theorem o_notBX {d : Dy} {b : Bool} : opt (gNotBX (eX d) (.bl b)) δ = .ok (.bl (!isBX d b)) δ := by cases d <;> (unfold eX; rfl)
end
end TV
set_option Elab.async false
set_option linter.all false
set_option maxRecDepth 100000
set_option maxHeartbeats 4000000
namespace TV
open PySem PySem.Spec L2
section
variable {α β : Type} {e e' : α → T} {δ : Sl} {f f' : Fg}
theorem sPNar_eq {i : Nat} {p : T → Bool} {g : SS} : sPNar i p g δ = pnK i p (g δ) := rfl
theorem pnK_next {i : Nat} {p : T → Bool} : pnK i p (.ok .next δ) = narS i p δ := rfl
theorem pnK_ret {i : Nat} {p : T → Bool} {t : T} : pnK i p (.ok (.ret t) δ) = .ok (.ret t) δ := rfl
theorem pnK_brk {i : Nat} {p : T → Bool} : pnK i p (.ok .brk δ) = .ok .brk δ := rfl
theorem pnK_cont {i : Nat} {p : T → Bool} : pnK i p (.ok .cont δ) = .ok .cont δ := rfl
theorem pnK_exc {i : Nat} {p : T → Bool} {x : Xc} : pnK i p (.exc x δ) = .exc x δ := rfl
theorem pnK_bad {i : Nat} {p : T → Bool} : pnK i p .bad = .bad := rfl
theorem pnK_ite {i : Nat} {p : T → Bool} {c : Prop} [Decidable c] {a b : R Sl Flw} : pnK i p (if c then a else b) = if c then pnK i p a else pnK i p b := by split <;> rfl
theorem pnK_bO {i : Nat} {p : T → Bool} {o : O α} {k : α → R Sl Flw} : pnK i p (bO o k) = bO o fun a => pnK i p (k a) := by cases o <;> rfl
theorem pnK_kO {σ τ ρ : Type} {i : Nat} {p : T → Bool} {gs : σ → Sl} {er : ρ → T} {gr : ρ → Sl} {o : O (Fl τ σ ρ)} {k : τ → R Sl Flw} : pnK i p (kO gs er gr o k) = kO gs er gr o fun s => pnK i p (k s) := by
  unfold kO
  cases o with
  | ok v => cases v <;> rfl
  | exc x s => rfl
  | bad => rfl
theorem mkX_tupL {xs : List Int} : mkX (mkN .tup (xs.map T.int)) = eX (.tup (xs.map Dy.int)) := by
  have a : (mkN .tup (xs.map T.int)).frz = mkN .tup (xs.map T.int) := by
    have : scTup .tup (xs.map T.int) = true := by
      show (xs.map T.int).all T.sc = true
      rw [List.all_map]
      exact List.all_eq_true.mpr fun x _ => rfl
    unfold mkN
    rw [if_pos this, T.frz]
  show mkN .tup (xs.map T.int) = _
  rw [← a, frz_mkTL (e' := T.int)]
  exact mkX_e (e := eL .fz .tup T.int)
theorem o_reprXL {xs : List Dy} : opt (gRepr (eL f .lst eX xs)) δ = bO (reprX (.lst xs)) fun x => .ok (.str x) δ := by
  rw [← o_reprX (δ := δ), eX_lst]
  cases f <;> rfl
theorem mkTD {xs : List Int} : mkN .tup (xs.map T.int) = eTD xs := by
  have : scTup .tup (xs.map T.int) = true := by
    show (xs.map T.int).all T.sc = true
    rw [List.all_map]
    exact List.all_eq_true.mpr fun x _ => rfl
  unfold mkN
  rw [if_pos this]; rfl
instance : NoLnE eTD := ⟨fun _ => rfl⟩
instance : FrzE eTD eTD := ⟨fun _ => rfl⟩
def sameG (gs : GS) : List T → List T → Prop
  | [], [] => True
  | t :: ts, u :: us => (t.noLn = u.noLn ∧ ∀ δ, gs t δ = gs u δ) ∧ sameG gs ts us
  | _, _ => False
theorem forL_same {gs : GS} {b : SS} : ∀ {ts us : List T}, sameG gs ts us → forL gs b ts = forL gs b us
  | [], [], _ => rfl
  | t :: ts, u :: us, h => by
    obtain ⟨⟨h1, h2⟩, h3⟩ := h
    funext δ
    unfold forL
    rw [h1, h2 δ, forL_same h3]
theorem lcL_same {gs : GS} {ft : Sl → R Sl Bool} {fe : ES} {vs : List Nat} : ∀ {ts us : List T}, sameG gs ts us → lcL gs ft fe vs ts = lcL gs ft fe vs us
  | [], [], _ => rfl
  | t :: ts, u :: us, h => by
    obtain ⟨⟨h1, h2⟩, h3⟩ := h
    funext δ
    unfold lcL
    rw [h2 δ, lcL_same h3]
theorem gTp_mkN {gs : GSs} {n : Nat} {xs : List T} : gTp n gs (mkN .tup xs) δ = gTp n gs (.nd .fz .tup xs) δ := by
  unfold mkN
  split <;> rfl
theorem noLn_eX (d : Dy) : (eX d).noLn = true := NoLnE.h d
theorem enumX_same {gs : GSs} : ∀ (ks : List T) (xs : List Dy), (∀ k ∈ ks, k.noLn = true) → sameG (gTp 2 gs) (List.zipWith pairT ks (xs.map eX)) (List.zipWith (fun k x => T.nd .fz .tup [k, x]) ks (xs.map eX))
  | [], _, _ => by unfold sameG; simp
  | _ :: _, [], _ => by unfold sameG; simp
  | k :: ks, x :: xs, h => by
    rw [List.map_cons, List.zipWith_cons_cons, List.zipWith_cons_cons]
    refine ⟨⟨?_, fun δ => gTp_mkN⟩, enumX_same ks xs fun k hk => h k (List.mem_cons_of_mem _ hk)⟩
    have a := h k (List.mem_cons_self ..)
    have b := noLn_eX x
    show (mkN .tup [k, eX x]).noLn = _
    unfold mkN
    split
    · rfl
    · rw [T.noLn, T.noLn]
      unfold T.noLnL
      unfold T.noLnL
      unfold T.noLnL
      rw [a, b]; rfl
theorem enumX_map (xs : List Dy) : List.zipWith (fun k x => T.nd .fz .tup [k, x]) ((List.range (xs.map eX).length).map fun (k : Nat) => T.int (k : Int)) (xs.map eX) = (enumI xs).map (eP2 .fz T.int eX) := by
  unfold enumI
  rw [List.map_map, List.length_map]
  apply List.ext_getElem?
  intro i
  rw [List.getElem?_zipWith, List.getElem?_map, List.getElem?_map, List.getElem?_map, List.getElem?_zipIdx]
  by_cases h : i < xs.length
  · rw [List.getElem?_range h, List.getElem?_eq_getElem h]
    simp [eP2]
  · rw [List.getElem?_eq_none (l := xs) (by omega)]
    simp
theorem for_enumX {gs : GSs} {b : SS} {xs : List Dy} : forL (gTp 2 gs) b (enumT (xs.map eX)) = forL (gTp 2 gs) b ((enumI xs).map (eP2 .fz T.int eX)) := by
  rw [← enumX_map]
  exact forL_same (enumX_same _ _ fun k hk => by obtain ⟨j, _, rfl⟩ := List.mem_map.mp hk; rfl)
theorem lc_enumX {gs : GSs} {ft : Sl → R Sl Bool} {fe : ES} {vs : List Nat} {xs : List Dy} : lcL (gTp 2 gs) ft fe vs (enumT (xs.map eX)) = lcL (gTp 2 gs) ft fe vs ((enumI xs).map (eP2 .fz T.int eX)) := by
  rw [← enumX_map]
  exact lcL_same (enumX_same _ _ fun k hk => by obtain ⟨j, _, rfl⟩ := List.mem_map.mp hk; rfl)
end
end TV
set_option Elab.async false
set_option linter.all false
set_option maxRecDepth 100000
set_option maxHeartbeats 4000000
namespace TV
open PySem PySem.Spec L2
def strO (i : Int) : O Str := if i.natAbs.log2 < 1920 then .ok (toString i) else .bad
theorem o_strI {i : Int} {δ : Sl} : opt (gStrI (.int i)) δ = bO (strO i) fun z => .ok (.str z) δ := by
  unfold gStrI strO; dsimp only
  by_cases h : i.natAbs.log2 < 1920
  · rw [if_pos h, if_pos h]; rfl
  · rw [if_neg h, if_neg h]; rfl
end TV
set_option Elab.async false
set_option linter.all false
set_option maxRecDepth 100000
set_option maxHeartbeats 4000000
namespace TV
open PySem PySem.Spec L2
theorem okI_ok {i : Int} {δ : Sl} {k : Int → Sl → R Sl T} : okI (.ok (.int i) δ) k = k i δ := rfl
theorem selE_nil {ms : List Bool} {g : AS} {i : Int} {δ : Sl} : selE ms g [] i δ = .bad := rfl
theorem selE_cons {ms : List Bool} {g : AS} {m : Fn} {r : List Fn} {i : Int} {δ : Sl} : selE ms g (m :: r) i δ = if decide (i = 0) = true then eCallM ms m g δ else selE ms g r (i - 1) δ := rfl
end TV
namespace TV
open PySem PySem.Spec L2
def isI2T : T → Bool
  | .nd .fz .tup [.int _, .int _] => true
  | _ => false
def isI3T : T → Bool
  | .nd .fz .tup [.int _, .int _, .int _] => true
  | _ => false
def isI4T : T → Bool
  | .nd .fz .tup [.int _, .int _, .int _, .int _] => true
  | _ => false
instance : Nar (Int × Int) where
  e := eP2 .fz T.int T.int
  p := isI2T
  u := fun d => match d with
    | .tup [.int a, .int b] => some (a, b)
    | _ => none
  h := fun d => by
    constructor
    · cases d with
      | tup xs =>
        rw [eX_tup]; unfold eL
        rcases xs with _ | ⟨a, _ | ⟨b, _ | ⟨c, r⟩⟩⟩
        · rfl
        · cases a <;> (simp only [List.map_cons, List.map_nil]; unfold eX; rfl)
        · cases a <;> cases b <;> (simp only [List.map_cons, List.map_nil]; unfold eX; rfl)
        · cases a <;> cases b <;> (simp only [List.map_cons, List.map_nil]; unfold eX; rfl)
      | _ => unfold eX; rfl
    · intro a h
      split at h
      · cases h; rw [eX_tup]; unfold eL eP2; simp only [List.map_cons, List.map_nil]; unfold eX; rfl
      · cases h
instance : Nar (Int × Int × Int) where
  e := eP3 .fz T.int T.int T.int
  p := isI3T
  u := fun d => match d with
    | .tup [.int a, .int b, .int c] => some (a, b, c)
    | _ => none
  h := fun d => by
    constructor
    · cases d with
      | tup xs =>
        rw [eX_tup]; unfold eL
        rcases xs with _ | ⟨a, _ | ⟨b, _ | ⟨c, _ | ⟨e, r⟩⟩⟩⟩
        · rfl
        · cases a <;> (simp only [List.map_cons, List.map_nil]; unfold eX; rfl)
        · cases a <;> cases b <;> (simp only [List.map_cons, List.map_nil]; unfold eX; rfl)
        · cases a <;> cases b <;> cases c <;> (simp only [List.map_cons, List.map_nil]; unfold eX; rfl)
        · cases a <;> cases b <;> cases c <;> (simp only [List.map_cons, List.map_nil]; unfold eX; rfl)
      | _ => unfold eX; rfl
    · intro a h
      split at h
      · cases h; rw [eX_tup]; unfold eL eP3; simp only [List.map_cons, List.map_nil]; unfold eX; rfl
      · cases h
instance : Nar (Int × Int × Int × Int) where
  e := eP4 .fz T.int T.int T.int T.int
  p := isI4T
  u := fun d => match d with
    | .tup [.int a, .int b, .int c, .int e] => some (a, b, c, e)
    | _ => none
  h := fun d => by
    constructor
    · cases d with
      | tup xs =>
        rw [eX_tup]; unfold eL
        rcases xs with _ | ⟨a, _ | ⟨b, _ | ⟨c, _ | ⟨e, _ | ⟨f, r⟩⟩⟩⟩⟩
        · rfl
        · cases a <;> (simp only [List.map_cons, List.map_nil]; unfold eX; rfl)
        · cases a <;> cases b <;> (simp only [List.map_cons, List.map_nil]; unfold eX; rfl)
        · cases a <;> cases b <;> cases c <;> (simp only [List.map_cons, List.map_nil]; unfold eX; rfl)
        · cases a <;> cases b <;> cases c <;> cases e <;> (simp only [List.map_cons, List.map_nil]; unfold eX; rfl)
        · cases a <;> cases b <;> cases c <;> cases e <;> (simp only [List.map_cons, List.map_nil]; unfold eX; rfl)
      | _ => unfold eX; rfl
    · intro a h
      split at h
      · cases h; rw [eX_tup]; unfold eL eP4; simp only [List.map_cons, List.map_nil]; unfold eX; rfl
      · cases h
section
variable {δ : Sl}
theorem nar_LP3 {d : Dy} : narT (allT isI3T) (eX d) δ = bO (narO d) fun a : List (Int × Int × Int) => .ok (eL .fz .lst (eP3 .fz T.int T.int T.int) a) δ := nar_eq (α := List (Int × Int × Int))
theorem nar_LP4 {d : Dy} : narT (allT isI4T) (eX d) δ = bO (narO d) fun a : List (Int × Int × Int × Int) => .ok (eL .fz .lst (eP4 .fz T.int T.int T.int T.int) a) δ := nar_eq (α := List (Int × Int × Int × Int))
theorem nar_LLP2 {d : Dy} : narT (allT (allT isI2T)) (eX d) δ = bO (narO d) fun a : List (List (Int × Int)) => .ok (eL .fz .lst (eL .fz .lst (eP2 .fz T.int T.int)) a) δ := nar_eq (α := List (List (Int × Int)))
end
end TV
set_option Elab.async false
set_option linter.all false
set_option maxRecDepth 100000
set_option maxHeartbeats 4000000
namespace TV
open PySem PySem.Spec L2
section
variable {α β γ : Type}
def zip3 : List α → List β → List γ → List (α × β × γ)
  | x :: xs, y :: ys, z :: zs => (x, y, z) :: zip3 xs ys zs
  | _, _, _ => []
theorem zip3_map {f1 f2 f3 : Fg} {e : α → T} {e2 : β → T} {e3 : γ → T} {fl : Fg} [h : TupF3 e e2 e3 fl] {xs : List α} {ys : List β} {zs : List γ} :
    zipT3 [eL f1 .lst e xs, eL f2 .lst e2 ys, eL f3 .lst e3 zs] = some ((zip3 xs ys zs).map (eP3 fl e e2 e3)) := by
  show some (zip3L (xs.map e) (ys.map e2) (zs.map e3)) = _
  congr 1
  induction xs generalizing ys zs with
  | nil => cases ys <;> rfl
  | cons x xs ih =>
    cases ys with
    | nil => rfl
    | cons y ys =>
      cases zs with
      | nil => rfl
      | cons z zs =>
        simp only [List.map_cons, zip3L, zip3]
        rw [ih]
        congr 1
        unfold tripT mkN eP3
        obtain ⟨hs, hn⟩ := h.h x y z
        congr 1
        rw [hs]
        cases fl <;> simp_all [ofF]
end
end TV
set_option Elab.async false
set_option linter.all false
set_option maxRecDepth 100000
set_option maxHeartbeats 4000000
namespace TV
open PySem PySem.Spec L2
section
variable {α β : Type} {e : α → T} {f : Fg}
def extO (xs ys : List α) : O (List α) := if xs.length + ys.length ≤ sizeLine then .ok (xs ++ ys) else .bad
theorem k_ext [NoLnE e] {xs ys : List α} {k : List T → R Sl β} : optK (stExt (xs.map e) [eL f .lst e ys]) .bad k = bO (extO xs ys) fun zs => k (zs.map e) := by
  show optK (if (xs.map e).length + (ys.map e).length ≤ sizeLine ∧ T.noLnL (ys.map e) = true then some (xs.map e ++ ys.map e) else none) .bad k = _
  unfold extO
  have n : T.noLnL (ys.map e) = true := noLnL_map ys
  rw [List.length_map, List.length_map]
  by_cases h : xs.length + ys.length ≤ sizeLine
  · rw [if_pos ⟨h, n⟩, if_pos h, bO_ok, List.map_append]; rfl
  · rw [if_neg (fun z => h z.1), if_neg h]; rfl
end
end TV
set_option Elab.async false
set_option linter.all false
set_option maxRecDepth 100000
set_option maxHeartbeats 4000000
namespace TV
open PySem PySem.Spec L2
section
variable {β ρ : Type} {δ : Sl} {f : Fg}
theorem strsOf_map : ∀ ys : List Str, strsOf (ys.map T.str) = some ys
  | [] => rfl
  | y :: ys => by rw [List.map_cons]; unfold strsOf; rw [strsOf_map ys]; rfl
def joinO (a : Str) (ys : List Str) : O Str := if (ys.map (·.length)).sum + ys.length * a.length ≤ 16777216 then .ok (PySem.Txt.join a ys) else .bad
theorem o_join {a : Str} {ys : List Str} : opt (gJoin (.str a) [eL f .lst T.str ys]) δ = bO (joinO a ys) fun z => .ok (.str z) δ := by
  show opt ((strsOf (ys.map T.str)).bind (joinT a)) δ = _
  rw [strsOf_map]
  show opt (joinT a ys) δ = _
  unfold joinT joinO
  split <;> rfl
def splitO (a b : Str) : O (List Str) := if (b.length == 0) = false ∧ a.length + 2 ≤ sizeLine then .ok (PySem.Txt.split a b) else .bad
theorem o_split {a b : Str} : opt (gSplit (.str a) [.str b]) δ = bO (splitO a b) fun z => .ok (eL .ow .lst T.str z) δ := by
  unfold gSplit splitO
  dsimp only
  split <;> rfl
def cutSO (z : Str) (lo hi : Option Int) : O Str := if z.length ≤ sizeLine then .ok (cutS z lo hi) else .bad
theorem eSlT_eq {g : ES} {flo fhi : Sl → R Sl (Option Int)} : eSlT g flo fhi δ = (g δ).bind fun t δ => (flo δ).bind fun lo δ => (fhi δ).bind fun hi δ => opt (gSlT t lo hi) δ := rfl
theorem o_slT {z : Str} {lo hi : Option Int} : opt (gSlT (.str z) lo hi) δ = bO (cutSO z lo hi) fun y => .ok (.str y) δ := by
  unfold gSlT cutSO
  dsimp only
  split <;> rfl
def mulSO (z : Str) (n : Int) : O Str := if n < 2000000 ∧ -2000000 < n ∧ z.length ≤ 8 then .ok (repS z n) else .bad
theorem o_mulS {z : Str} {n : Int} : opt (gMulS (.str z) (.int n)) δ = bO (mulSO z n) fun y => .ok (.str y) δ := by
  unfold gMulS mulSO
  dsimp only
  split <;> rfl
theorem o_inS2 {neg : Bool} {a b : Str} : opt (gInS neg (.str a) (.str b)) δ = .ok (.bl (if neg = true then !inS a b else inS a b)) δ := rfl
def signs (z : Str) : List Str := z.cps.toList.map fun c => ⟨#[c]⟩
theorem signsT_eq {z : Str} : signsT z = (signs z).map T.str := by unfold signsT signs; rw [List.map_map]; rfl
def strK {σ α : Type} (t : T) (k : Str → R σ α) : R σ α := match t with
  | .str z => k z
  | _ => .bad
theorem strK_str {σ α : Type} {z : Str} {k : Str → R σ α} : strK (.str z) k = k z := rfl
theorem iStrS_eq {g : ES} : iStrS g δ = (g δ).bind fun t δ => strK t fun z => .ok (true, (signs z).map T.str) δ := by
  unfold iStrS strK
  congr 1; funext t δ
  cases t <;> first | rfl | (dsimp only; rw [signsT_eq])
theorem iEnumT_eq {g : ES} : iEnumT g δ = (g δ).bind fun t δ => strK t fun z => .ok (true, (enumI (signs z)).map (eP2 .fz T.int T.str)) δ := by
  unfold iEnumT strK
  congr 1; funext t δ
  cases t <;> first | rfl | (dsimp only; rw [signsT_eq, enum_map (fl := .fz)])
end
end TV
set_option Elab.async false
set_option linter.all false
set_option maxRecDepth 100000
set_option maxHeartbeats 4000000
namespace TV
open PySem PySem.Spec L2
section
variable {κ β : Type} [DecidableEq κ] {δ : Sl} {e : β → T}
def lookV (z : κ) : List (κ × β) → Option β
  | [] => none
  | p :: r => if p.1 = z then some p.2 else lookV z r
def lookO (z : κ) (kvs : List (κ × β)) : O β := match lookV z kvs with
  | some b => .ok b
  | none => .bad
def tabE (e : β → T) (kvs : List (κ × β)) : List (κ × T) := kvs.map fun p => (p.1, e p.2)
theorem lookF_tabE {z : κ} : ∀ kvs : List (κ × β), lookF z (tabE e kvs) = (lookV z kvs).map e
  | [] => rfl
  | p :: r => by
    show (if p.1 = z then some (e p.2) else lookF z (tabE e r)) = Option.map e (if p.1 = z then some p.2 else lookV z r)
    rw [lookF_tabE r]
    by_cases h : p.1 = z
    · rw [if_pos h, if_pos h]; rfl
    · rw [if_neg h, if_neg h]
end
section
variable {β : Type} {δ : Sl} {e : β → T}
theorem o_tabS {z : Str} {kvs : List (Str × β)} : opt (gTabS (tabE e kvs) (.str z)) δ = bO (lookO z kvs) fun b => .ok (e b) δ := by
  show opt (lookF z (tabE e kvs)) δ = _
  rw [lookF_tabE]
  unfold lookO
  cases lookV z kvs <;> rfl
theorem o_tabI {z : Int} {kvs : List (Int × β)} : opt (gTabI (tabE e kvs) (.int z)) δ = bO (lookO z kvs) fun b => .ok (e b) δ := by
  show opt (lookF z (tabE e kvs)) δ = _
  rw [lookF_tabE]
  unfold lookO
  cases lookV z kvs <;> rfl
theorem o_tabIn {z : Str} {kvs : List (Str × β)} {neg : Bool} : opt (gTabIn neg (tabE e kvs) (.str z)) δ = .ok (.bl (if neg = true then !(lookV z kvs).isSome else (lookV z kvs).isSome)) δ := by
  show R.ok (T.bl (if neg = true then !(lookF z (tabE e kvs)).isSome else (lookF z (tabE e kvs)).isSome)) δ = _
  rw [lookF_tabE]
  cases lookV z kvs <;> rfl
end
end TV
set_option Elab.async false
set_option linter.all false
set_option maxRecDepth 100000
set_option maxHeartbeats 4000000
namespace TV
open PySem PySem.Spec PyProof.Rows L2
section
variable {δ : Sl}
def lsDO (i j : Int) : O (List Int) := if rgOk i j = true ∧ (i - j).toNat ≤ 16777216 then .ok (rdI i (i - j).toNat) else .bad
theorem eLsRg3_eq {g : AS} : eLsRg3 g δ = (g δ).bind fun as δ => optK (valsOf as) .bad fun args => lsRd args δ := by
  unfold eLsRg3 optK
  cases h : g δ with
  | bad => rfl
  | exc z s => rfl
  | ok as δ' => dsimp only [R.bind]; cases valsOf as <;> rfl
theorem o_lsRd {i j : Int} : lsRd [.int i, .int j, .int (-1)] δ = bO (lsDO i j) fun xs => .ok (eL .ow .lst T.int xs) δ := by
  unfold lsRd rg3 lsDO
  dsimp only
  have hl : ∀ n, (rdT i n).length = n := fun n => rdT_len
  by_cases h : rgOk i j = true
  · rw [if_pos ⟨rfl, h⟩]
    dsimp only
    rw [hl]
    by_cases h2 : (i - j).toNat ≤ 16777216
    · rw [if_pos h2, if_pos ⟨h, h2⟩, rdT_map]; rfl
    · rw [if_neg h2, if_neg (fun z => h2 z.2)]; rfl
  · rw [if_neg (fun z => h z.2), if_neg (fun z => h z.1)]; rfl
end
end TV
set_option Elab.async false
set_option linter.all false
set_option maxRecDepth 100000
set_option maxHeartbeats 4000000
namespace TV
open PySem PySem.Spec PyProof.Rows L2
def intV : Sl1 → Option Int
  | .vis _ (.int I) => some I
  | _ => none
def intL (δ : Sl) (i : Nat) : Option Int := match δ[i]? with
  | some s => intV s
  | none => none
theorem intV_vis {p : Bool} {I : Int} : intV (.vis p (.int I)) = some I := rfl
theorem intL_eq {δ : Sl} {i : Nat} : intL δ i = match δ[i]? with
  | some s => intV s
  | none => none := rfl
def swX {α : Type} (xs : List α) (I J : Int) : Option (List α) := match ixN xs.length I, ixN xs.length J with
  | some m, some n => match xs[m]?, xs[n]? with
    | some t, some u => some ((xs.set m u).set n t)
    | _, _ => none
  | _, _ => none
def swO {α : Type} (xs : List α) (I J : Int) : O (List α) := match swX xs I J with
  | some ys => .ok ys
  | none => .bad
theorem sSwap_eq {δ : Sl} {k i j : Nat} : sSwap k i j δ = optK (ownL δ k) .bad fun px => optK (intL δ i) .bad fun I => optK (intL δ j) .bad fun J => optK (swX px.2 I J) .bad fun ys => .ok .next (δ.set k (.vis px.1 (.nd .ow .lst ys))) := by
  unfold sSwap swS intL
  cases h : ownL δ k with
  | none => rfl
  | some px =>
    obtain ⟨p, xs⟩ := px
    cases hi : δ[i]? with
    | none => rfl
    | some s =>
      cases s with
      | un => rfl
      | hid q t => rfl
      | vis q t =>
        cases t with
        | int I =>
          cases hj : δ[j]? with
          | none => rfl
          | some s2 =>
            cases s2 with
            | un => rfl
            | hid q t => rfl
            | vis q t =>
              cases t with
              | int J =>
                dsimp only [optK, intV, swX]
                cases ixN xs.length I with
                | none => rfl
                | some m =>
                  cases ixN xs.length J with
                  | none => rfl
                  | some n =>
                    dsimp only
                    cases xs[m]? with
                    | none => rfl
                    | some t =>
                      cases xs[n]? with
                      | none => rfl
                      | some u => rfl
              | _ => rfl
        | _ => rfl
theorem k_swap {α β : Type} {e : α → T} {xs : List α} {I J : Int} {k : List T → R Sl β} : optK (swX (xs.map e) I J) .bad k = bO (swO xs I J) fun ys => k (ys.map e) := by
  unfold swO swX
  rw [List.length_map]
  cases ixN xs.length I with
  | none => rfl
  | some m =>
    cases ixN xs.length J with
    | none => rfl
    | some n =>
      dsimp only
      rw [List.getElem?_map, List.getElem?_map]
      cases xs[m]? with
      | none => rfl
      | some t =>
        cases xs[n]? with
        | none => rfl
        | some u =>
          show k (((xs.map e).set m (e u)).set n (e t)) = k (((xs.set m u).set n t).map e)
          rw [List.map_set, List.map_set]
end TV
set_option Elab.async false
set_option linter.all false
set_option maxRecDepth 100000
set_option maxHeartbeats 4000000
namespace TV
open PySem PySem.Spec PyProof.Rows L2
theorem o_inRg {i n : Int} {δ : Sl} : opt (inRg (.int i) (.int n)) δ = .ok (.bl (decide (0 ≤ i ∧ i < n))) δ := rfl
end TV
set_option Elab.async false
set_option linter.all false
set_option maxRecDepth 100000
set_option maxHeartbeats 4000000
namespace TV
open PySem PySem.Spec PyProof.Rows L2
theorem nar_P3 {d : Dy} {δ : Sl} : narT isI3T (eX d) δ = bO (narO d) fun a : Int × Int × Int => .ok (eP3 .fz T.int T.int T.int a) δ := nar_eq (α := Int × Int × Int)
theorem pre_eq {h : Sl → Sl} {g : SS} {δ : Sl} : pre h g δ = g (h δ) := rfl
end TV
set_option Elab.async false
set_option linter.all false
set_option maxRecDepth 100000
set_option maxHeartbeats 4000000
namespace TV
open PySem PySem.Spec PyProof.Rows L2
def ltP2 (a b : Int × Int) : Bool := HT.lexLt [a.1, a.2] [b.1, b.2]
def ltP3 (a b : Int × Int × Int) : Bool := HT.lexLt [a.1, a.2.1, a.2.2] [b.1, b.2.1, b.2.2]
theorem o_ltP2 {f g : Fg} {a b : Int × Int} {δ : Sl} : opt (gLtT (eP2 f T.int T.int a) (eP2 g T.int T.int b)) δ = .ok (.bl (ltP2 a b)) δ := rfl
theorem o_ltP3 {f g : Fg} {a b : Int × Int × Int} {δ : Sl} : opt (gLtT (eP3 f T.int T.int T.int a) (eP3 g T.int T.int T.int b)) δ = .ok (.bl (ltP3 a b)) δ := rfl
end TV
set_option Elab.async false
set_option linter.all false
set_option maxRecDepth 100000
set_option maxHeartbeats 4000000
namespace TV
open PySem PySem.Spec PyProof.Rows L2
section
variable {α β κ : Type} {f g : Fg} {e : α → T} {δ : Sl}
class SclE (e : α → T) : Prop where h : ∀ a, scalT (e a) = true
instance : SclE T.int := ⟨fun _ => rfl⟩
instance : SclE T.bl := ⟨fun _ => rfl⟩
instance : SclE T.str := ⟨fun _ => rfl⟩
def dictO [DecidableEq κ] (xs : List (κ × α)) : O (List (κ × α)) := if (xs.map (·.1)).Nodup then .ok xs else .bad
theorem pairsK_map {ek : κ → List Key} {et : κ → T} [h2 : KeyT et ek] [h3 : SclE e] : ∀ xs : List (κ × α), pairsK (xs.map (eP2 g et e)) = some (xs.map fun p => (ek p.1, e p.2))
  | [] => rfl
  | p :: xs => by
    rw [List.map_cons, List.map_cons]
    show (pairK (eP2 g et e p)).bind _ = _
    have : pairK (eP2 g et e p) = some (ek p.1, e p.2) := by
      show (if scalT (e p.2) = true then (keyTT (et p.1)).map fun kk => (kk, e p.2) else none) = _
      rw [if_pos (h3.h _), h2.h]; rfl
    rw [this]
    show (pairsK (xs.map (eP2 g et e))).map _ = _
    rw [pairsK_map xs]; rfl
theorem nodup_mapI {ek : κ → List Key} [h : KeyE ek] : ∀ {l : List κ}, (l.map ek).Nodup ↔ l.Nodup
  | [] => by simp
  | x :: l => by
    rw [List.map_cons, List.nodup_cons, List.nodup_cons, nodup_mapI (l := l)]
    refine and_congr (not_congr ⟨fun z => ?_, fun z => List.mem_map.mpr ⟨x, z, rfl⟩⟩) Iff.rfl
    obtain ⟨y, hy, e⟩ := List.mem_map.mp z
    rw [← h.inj _ _ e]; exact hy
theorem o_dictOf [DecidableEq κ] {ek : κ → List Key} {et : κ → T} [h2 : KeyT et ek] [h : KeyE ek] [h3 : SclE e] {xs : List (κ × α)} : opt (gDictOf (eL f .lst (eP2 g et e) xs)) δ = bO (dictO xs) fun d => .ok (eD .ow ek e d) δ := by
  have a : gDictOf (eL f .lst (eP2 g et e) xs) = (pairsK (xs.map (eP2 g et e))).bind fun kvs => if (kvs.map (·.1)).Nodup then some (.nd .ow (.dT (kvs.map (·.1))) (kvs.map (·.2))) else none := rfl
  rw [a, pairsK_map]
  unfold dictO
  have b : (xs.map fun p => (ek p.1, e p.2)).map (·.1) = (xs.map (·.1)).map ek := by rw [List.map_map, List.map_map]; rfl
  have c : (xs.map fun p => (ek p.1, e p.2)).map (·.2) = xs.map fun p => e p.2 := by rw [List.map_map]; rfl
  show opt (if ((xs.map fun p => (ek p.1, e p.2)).map (·.1)).Nodup then some (T.nd .ow (.dT ((xs.map fun p => (ek p.1, e p.2)).map (·.1))) ((xs.map fun p => (ek p.1, e p.2)).map (·.2))) else none) δ = _
  rw [b, c]
  by_cases n : (xs.map (·.1)).Nodup
  · rw [if_pos n, if_pos ((nodup_mapI).mpr n)]
    show R.ok _ δ = R.ok _ δ
    rw [List.map_map]; rfl
  · rw [if_neg n, if_neg fun z => n ((nodup_mapI).mp z)]; rfl
end
end TV
set_option Elab.async false
set_option linter.all false
set_option maxRecDepth 100000
set_option maxHeartbeats 4000000
namespace TV
open PySem PySem.Spec PyProof.Rows L2
section
variable {α β κ : Type} {f g : Fg} {e : α → T} {δ : Sl}
def popKD [DecidableEq κ] : List (κ × α) → κ → List (κ × α)
  | [], _ => []
  | p :: d, k => if p.1 = k then d else p :: popKD d k
def popDO [DecidableEq κ] (need : Bool) (d : List (κ × α)) (k : κ) : O (List (κ × α)) := if (d.map (·.1)).Nodup ∧ (!need || (d.map (·.1)).contains k) = true then .ok (popKD d k) else .bad
theorem popDT_eD [DecidableEq κ] {ek : κ → List Key} [h : KeyE ek] {k : κ} : ∀ d : List (κ × α), popDT (d.map fun p => ek p.1) (d.map fun p => e p.2) (ek k) = eD .ow ek e (popKD d k)
  | [] => rfl
  | p :: d => by
    have ih := popDT_eD (ek := ek) (k := k) d
    unfold popDT at ih ⊢
    rw [List.map_cons, List.map_cons]
    unfold idxK popKD
    by_cases q : p.1 = k
    · rw [if_pos (by rw [q]), if_pos q]; rfl
    · rw [if_neg (fun z => q (h.inj _ _ z)), if_neg q]
      cases z : idxK (d.map fun p => ek p.1) (ek k) with
      | none =>
        rw [z] at ih
        dsimp only at ih
        unfold eD at ih
        injection ih with _ i1 i2
        injection i1 with i1
        show T.nd .ow (.dT (ek p.1 :: (d.map fun p => ek p.1))) (e p.2 :: (d.map fun p => e p.2)) = _
        rw [i1, i2]; rfl
      | some j =>
        rw [z] at ih
        dsimp only at ih
        unfold eD at ih
        injection ih with _ i1 i2
        injection i1 with i1
        show T.nd .ow (.dT (ek p.1 :: (d.map fun p => ek p.1).eraseIdx j)) (e p.2 :: (d.map fun p => e p.2).eraseIdx j) = _
        rw [i1, i2]; rfl
theorem idxK_eD [DecidableEq κ] {ek : κ → List Key} [h : KeyE ek] {k : κ} : ∀ d : List (κ × α), (idxK (d.map fun p => ek p.1) (ek k)).isSome = (d.map (·.1)).contains k
  | [] => rfl
  | p :: d => by
    rw [List.map_cons, List.map_cons, List.contains_cons]
    unfold idxK
    by_cases q : p.1 = k
    · rw [if_pos (by rw [q]), q]; simp
    · rw [if_neg (fun z => q (h.inj _ _ z)), Option.isSome_map, idxK_eD d]
      have : (k == p.1) = false := by simpa using fun z : k = p.1 => q z.symm
      rw [this, Bool.false_or]
def popDV (need : Bool) (r kt : T) : Option T := match r with
  | .nd .ow (.dT ks) xs => (keyTT kt).bind fun k => if ks.Nodup ∧ (!need || (idxK ks k).isSome) = true then some (popDT ks xs k) else none
  | _ => none
theorem popD_eq {need : Bool} {i : Nat} {kt : T} : popD need i kt δ = optK (visT δ i) .bad fun pr => optK (popDV need pr.2 kt) .bad fun r' => .ok .next (δ.set i (.vis pr.1 r')) := by
  unfold popD ownD visT
  cases δ[i]? with
  | none => rfl
  | some s =>
    cases s with
    | un => rfl
    | hid p u => rfl
    | vis p u =>
      cases u with
      | nd f k xs =>
        cases f with
        | ow =>
          cases k with
          | dT ks =>
            dsimp only [optK]
            unfold popDV
            dsimp only
            cases keyTT kt with
            | none => rfl
            | some k =>
              dsimp only [Option.bind_some]
              by_cases h : ks.Nodup ∧ (!need || (idxK ks k).isSome) = true
              · rw [if_pos h, if_pos h]
              · rw [if_neg h, if_neg h]
          | _ => rfl
        | _ => rfl
      | _ => rfl
theorem sPopD1_eq {i : Nat} {fk : ES} : sPopD1 i fk δ = optK (visT δ i) .bad (fun pr => if isDT pr.2 = true then (fk δ).bind fun kt δ => popD true i kt δ else .bad) := by
  rw [← ownD_vis]
  unfold sPopD1 optK
  cases ownD δ i <;> rfl
theorem sPopD2_eq {i : Nat} {fk fx : ES} : sPopD2 i fk fx δ = optK (visT δ i) .bad (fun pr => if isDT pr.2 = true then (fk δ).bind fun kt δ => (fx δ).bind fun _ δ => popD false i kt δ else .bad) := by
  rw [← ownD_vis]
  unfold sPopD2 optK
  cases ownD δ i <;> rfl
theorem k_popD [DecidableEq κ] {β : Type} {need : Bool} {ek : κ → List Key} {et : κ → T} [h : KeyE ek] [h2 : KeyT et ek] {d : List (κ × α)} {k : κ} {c : T → R Sl β} : optK (popDV need (eD .ow ek e d) (et k)) .bad c = bO (popDO need d k) fun d' => c (eD .ow ek e d') := by
  have e1 : popDV need (eD .ow ek e d) (et k) = if (d.map (·.1)).Nodup ∧ (!need || (d.map (·.1)).contains k) = true then some (eD .ow ek e (popKD d k)) else none := by
    show (keyTT (et k)).bind _ = _
    rw [h2.h]
    show (if (d.map fun p => ek p.1).Nodup ∧ (!need || (idxK (d.map fun p => ek p.1) (ek k)).isSome) = true then some (popDT _ _ (ek k)) else none) = _
    rw [popDT_eD, idxK_eD]
    by_cases z : (d.map (·.1)).Nodup ∧ (!need || (d.map (·.1)).contains k) = true
    · rw [if_pos z, if_pos ⟨(nodup_ek d).mpr z.1, z.2⟩]
    · rw [if_neg z, if_neg fun y => z ⟨(nodup_ek d).mp y.1, y.2⟩]
  rw [e1]
  unfold popDO
  by_cases z : (d.map (·.1)).Nodup ∧ (!need || (d.map (·.1)).contains k) = true
  · rw [if_pos z, if_pos z]; rfl
  · rw [if_neg z, if_neg z]; rfl
theorem o_dne {β γ : Type} {ek : κ → List Key} {ek' : γ → List Key} {e' : β → T} {d : List (κ × α)} : opt (gDNe (eD f ek e d) (eD g ek' e' ([] : List (γ × β)))) δ = .ok (.bl (!d.isEmpty)) δ := by
  cases d <;> rfl
class TupE (e : α → T) : Prop where h : ∀ a, isTupT (e a) = true
instance {γ : Type} {e1 : α → T} {e2 : γ → T} : TupE (eP2 f e1 e2) := ⟨fun _ => rfl⟩
instance {γ ε : Type} {e1 : α → T} {e2 : γ → T} {e3 : ε → T} : TupE (eP3 f e1 e2 e3) := ⟨fun _ => rfl⟩
def minTO [PLt α] (xs : List α) : O α := match xs with
  | [] => .bad
  | x :: r => .ok (r.foldl (fun a y => if PLt.lt y a = true then y else a) x)
theorem toDL_getD {xs : List α} {i : Nat} {a : α} (h : xs[i]? = some a) : (T.toDL (xs.map e)).getD i .none = (e a).toD := by
  rw [toDL_map, List.getD_eq_getElem?_getD, List.getElem?_map, List.getElem?_map, h]; rfl
theorem argBest_map [DecidableEq α] [PLt α] [h2 : OrdE e] {x : α} {r : List α} : ∀ k, k ≤ r.length →
    (x :: r)[PySem.argBest (fun i j => PySem.W.dataLt ((T.toDL ((x :: r).map e)).getD i .none) ((T.toDL ((x :: r).map e)).getD j .none)) k]? = some ((r.take k).foldl (fun a y => if PLt.lt y a = true then y else a) x)
  | 0, _ => rfl
  | k + 1, hk => by
    have ih := argBest_map (x := x) (r := r) k (by omega)
    have hx : r[k]? = some r[k] := List.getElem?_eq_getElem (by omega)
    have e2 : r.take (k + 1) = r.take k ++ [r[k]] := by rw [List.take_add_one, hx]; rfl
    have e3 : (x :: r)[k + 1]? = some r[k] := by rw [List.getElem?_cons_succ, hx]
    rw [e2, List.foldl_append, List.foldl_cons, List.foldl_nil]
    unfold PySem.argBest
    rw [toDL_getD ih, toDL_getD e3, h2.lt]
    by_cases q : PLt.lt r[k] ((r.take k).foldl (fun a y => if PLt.lt y a = true then y else a) x) = true
    · rw [if_pos q, if_pos q]; exact e3
    · rw [if_neg q, if_neg q]; exact ih
theorem o_minT [DecidableEq α] [PLt α] [h1 : OkDE 59 e] [h2 : OrdE e] [h3 : TupE e] {xs : List α} : opt (gMinT (eL f .lst e xs)) δ = bO (minTO xs) fun a => .ok (e a) δ := by
  cases xs with
  | nil =>
    show opt (if sortsT [] = true ∧ ([] : List T).all isTupT = true ∧ ([] : List T).isEmpty = false then ([] : List T)[argMinD (T.toDL [])]? else none) δ = _
    rw [if_neg (by rintro ⟨_, _, z⟩; cases z)]; rfl
  | cons x r =>
    have hs : sortsT ((x :: r).map e) = true := by
      unfold sortsT
      simp only [Bool.and_eq_true, Bool.or_eq_true, List.all_eq_true, List.mem_map, forall_exists_index, and_imp, forall_apply_eq_imp_iff₂]
      exact ⟨okDL_map _, fun a _ b _ => h2.al a b, .inl fun a _ => h3.h a⟩
    have ht : ((x :: r).map e).all isTupT = true := by
      rw [List.all_eq_true]
      intro y hy
      obtain ⟨a, _, rfl⟩ := List.mem_map.mp hy
      exact h3.h a
    show opt (if sortsT ((x :: r).map e) = true ∧ ((x :: r).map e).all isTupT = true ∧ ((x :: r).map e).isEmpty = false then ((x :: r).map e)[argMinD (T.toDL ((x :: r).map e))]? else none) δ = _
    rw [if_pos ⟨hs, ht, rfl⟩]
    have hl : (T.toDL ((x :: r).map e)).length - 1 = r.length := by rw [toDL_map]; simp
    have := argBest_map (e := e) (x := x) (r := r) r.length (Nat.le_refl _)
    rw [List.take_length] at this
    unfold argMinD
    rw [hl, List.getElem?_map, this]
    rfl
end
end TV
set_option Elab.async false
set_option linter.all false
set_option maxRecDepth 100000
set_option maxHeartbeats 4000000
namespace TV
open PySem PySem.Spec PyProof.Rows L2
section
end
end TV
set_option Elab.async false
set_option linter.all false
set_option maxRecDepth 100000
set_option maxHeartbeats 4000000
namespace TV
open PySem PySem.Spec PyProof.Rows L2
section
end
def reprD (d : PyData) : O Str := if d.showable = true ∧ d.shown.length ≤ sizeLine then .ok d.shown else .bad
theorem o_reprQ2 {α β : Type} {f : Fg} {e : α → T} {e2 : β → T} {δ : Sl} [h1 : OkDE 60 (eQ2 f e e2)] {p : α × β} : opt (gRepr (eQ2 f e e2 p)) δ = bO (reprD (eQ2 f e e2 p).toD) fun x => .ok (.str x) δ := by
  unfold gRepr reprT reprD
  rw [if_pos (h1.h p)]
  by_cases h : (eQ2 f e e2 p).toD.showable = true ∧ (eQ2 f e e2 p).toD.shown.length ≤ sizeLine
  · rw [if_pos h, if_pos h]; rfl
  · rw [if_neg h, if_neg h]; rfl
end TV
set_option Elab.async false
set_option linter.all false
set_option maxRecDepth 100000
set_option maxHeartbeats 4000000
namespace TV
open PySem PySem.Spec PyProof.Rows L2
noncomputable def sLendK (i j : Nat) (g : SS) (kt : T) : SS := fun δ => match kt with
  | .int k => (match δ[i]? with
    | some (.vis false (.nd .ow .lst xs)) => (match ixN xs.length k with
      | some m => (match xs[m]? with
        | some t => (match (δ.set i (.hid true tRaw))[j]? with
          | some s => if s.pin = false then endLd i j m xs (g ((δ.set i (.hid true tRaw)).set j (.vis true t))) else .bad
          | none => .bad)
        | none => .bad)
      | none => .bad)
    | _ => .bad)
  | _ => .bad
def isOLv : Bool × T → Bool
  | (false, .nd .ow .lst _) => true
  | _ => false
section
variable {α σ : Type} {δ : Sl}
theorem isOLv_eL {e : α → T} {xs : List α} : isOLv (false, eL .ow .lst e xs) = true := rfl
theorem slotI_vis {i : Nat} {β : Type} {c : R Sl β} : optK (slotI δ i) .bad (fun _ => c) = optK (visT δ i) .bad fun pr => if isOLv pr = true then c else .bad := by
  unfold slotI visT
  cases δ[i]? with
  | none => rfl
  | some s =>
    cases s with
    | un => rfl
    | hid p t => rfl
    | vis p t =>
      cases p with
      | true => cases t with
        | nd f k xs => cases f <;> cases k <;> rfl
        | _ => rfl
      | false => cases t with
        | nd f k xs => cases f <;> cases k <;> rfl
        | _ => rfl
theorem sLd_eq {i j : Nat} {f : ES} {g : SS} : sLd i j f g δ = optK (visT δ i) .bad fun pr => if isOLv pr = true then (f δ).bind fun kt δ => sLendK i j g kt δ else .bad := by
  rw [← slotI_vis]
  unfold sLd optK
  cases slotI δ i with
  | none => rfl
  | some x => rfl
end
end TV
set_option Elab.async false
set_option linter.all false
set_option maxRecDepth 100000
set_option maxHeartbeats 4000000
namespace TV
open PySem PySem.Spec PyProof.Rows L2
section
variable {δ : Sl}
theorem sPar_eq {i j : Nat} {g : AS} : sPar i j g δ = (g δ).bind fun as δ => parV as i j δ := rfl
theorem parV_two {i j : Nat} {t u : T} : parV [.val t, .val u] i j δ = (stoS false i t δ).bind fun _ δ => (stoS false j u δ).bind fun _ δ => .ok .next δ := rfl
end
end TV
set_option Elab.async false
set_option linter.all false
set_option maxRecDepth 100000
namespace TV
open PySem PySem.Spec L2
section
variable {s : Sl1} {δ : Sl}
theorem fg1_0 : fg1 0 (s :: δ) = (if s.pin = true then s else .un) :: δ := by
  show (match some s with
    | some s' => if s'.pin = true then s :: δ else (s :: δ).set 0 .un
    | none => s :: δ) = _
  by_cases h : s.pin = true
  · rw [if_pos h]
    show (if s.pin = true then s :: δ else _) = _
    rw [if_pos h]
  · rw [if_neg h]
    show (if s.pin = true then s :: δ else _) = _
    rw [if_neg h]; rfl
theorem fg1_S {n : Nat} : fg1 (n + 1) (s :: δ) = s :: fg1 n δ := by
  show (match δ[n]? with
    | some s' => if s'.pin = true then s :: δ else (s :: δ).set (n + 1) .un
    | none => s :: δ) = s :: (match δ[n]? with
    | some s' => if s'.pin = true then δ else δ.set n .un
    | none => δ)
  cases δ[n]? with
  | none => rfl
  | some s' =>
    by_cases h : s'.pin = true
    · show (if s'.pin = true then _ else _) = s :: (if s'.pin = true then _ else _)
      rw [if_pos h, if_pos h]
    · show (if s'.pin = true then _ else _) = s :: (if s'.pin = true then _ else _)
      rw [if_neg h, if_neg h]; rfl
end
end TV
set_option Elab.async false
set_option linter.all false
set_option maxRecDepth 100000
namespace TV
open PySem PySem.Spec L2
def divMO (a b : Int) : O Int := if 0 < b ∧ b.natAbs.log2 < 9000 ∨ b ≠ 0 ∧ b.natAbs < 1073741824 then .ok (a.fdiv b) else .bad
theorem o_divM {a b : Int} {δ : Sl} : opt (gDivM (.int a) (.int b)) δ = bO (divMO a b) fun x => .ok (.int x) δ := by
  unfold gDivM gII divMO; dsimp only
  by_cases h : 0 < b ∧ b.natAbs.log2 < 9000 ∨ b ≠ 0 ∧ b.natAbs < 1073741824
  · rw [if_pos h, if_pos (decide_eq_true h)]; rfl
  · rw [if_neg h, if_neg (by simpa using h)]; rfl
end TV
set_option Elab.async false
set_option linter.all false
set_option maxRecDepth 100000
set_option maxHeartbeats 4000000
namespace TV
open PySem PySem.Spec L2
section
def zqT (xs : List Int) (ys : List Dy) : List T := List.zipWith pairT (xs.map T.int) (ys.map eX)
theorem zipX_map {f1 f2 : Fg} {xs : List Int} {ys : List Dy} : zipT [eL f1 .lst T.int xs, eL f2 .lst eX ys] = some (zqT xs ys) := rfl
theorem zqT_fz : ∀ (xs : List Int) (ys : List Dy), List.zipWith (fun k x => T.nd .fz .tup [k, x]) (xs.map T.int) (ys.map eX) = (xs.zip ys).map (eP2 .fz T.int eX)
  | [], _ => by simp
  | _ :: _, [] => by simp
  | x :: xs, y :: ys => by
    rw [List.map_cons, List.map_cons, List.zipWith_cons_cons, List.zip_cons_cons, List.map_cons, zqT_fz xs ys]; rfl
theorem for_zipX {gs : GSs} {b : SS} {xs : List Int} {ys : List Dy} : forL (gTp 2 gs) b (zqT xs ys) = forL (gTp 2 gs) b ((xs.zip ys).map (eP2 .fz T.int eX)) := by
  rw [← zqT_fz]
  exact forL_same (enumX_same _ _ fun k hk => by obtain ⟨j, _, rfl⟩ := List.mem_map.mp hk; rfl)
theorem lc_zipX {gs : GSs} {ft : Sl → R Sl Bool} {fe : ES} {vs : List Nat} {xs : List Int} {ys : List Dy} : lcL (gTp 2 gs) ft fe vs (zqT xs ys) = lcL (gTp 2 gs) ft fe vs ((xs.zip ys).map (eP2 .fz T.int eX)) := by
  rw [← zqT_fz]
  exact lcL_same (enumX_same _ _ fun k hk => by obtain ⟨j, _, rfl⟩ := List.mem_map.mp hk; rfl)
end
end TV
set_option Elab.async false
set_option linter.all false
set_option maxRecDepth 100000
namespace TV
open PySem PySem.Spec L2
theorem o_sortedT3 {f : Fg} {p : Int × Int × Int} {δ : Sl} : opt (gSortedT (eP3 f T.int T.int T.int p)) δ = .ok (eL .ow .lst T.int (srtI [p.1, p.2.1, p.2.2])) δ := by
  have e : gSortedT (eP3 f T.int T.int T.int p) = gSorted (eL .fz .lst T.int [p.1, p.2.1, p.2.2]) := rfl
  rw [e]
  exact o_sorted
end TV
set_option Elab.async false
set_option linter.all false
set_option maxRecDepth 100000
namespace TV
open PySem PySem.Spec L2
variable {δ : Sl}
theorem eLcO_eq {f : ES} {gs : GS} {ft : Sl → R Sl Bool} {fe : ES} {vs : List Nat} : eLcO f gs ft fe vs δ = (f δ).bind fun t δ => ownK t fun xs => optK (saveL vs δ) .bad fun kd => endLc kd.2 kd.1 (lcL gs ft fe vs xs kd.2) := by
  unfold eLcO
  congr 1
  funext t δ
  congr 1
  funext xs
  cases saveL vs δ <;> rfl
end TV
set_option Elab.async false
set_option linter.all false
set_option maxRecDepth 100000
namespace TV
open PySem PySem.Spec L2
variable {δ : Sl} {α β : Type}
theorem sForOZ_eq {f : AS} {gs : GS} {body : SS} : sForOZ f gs body δ = (f δ).bind fun as δ => optK (valsOf as) .bad fun args => optK (zipO args) .bad fun p => forL gs body (List.zipWith pairT p.1 p.2) δ := by
  unfold sForOZ
  congr 1
  funext as δ
  cases valsOf as with
  | none => rfl
  | some args => dsimp only [optK]; cases zipO args <;> rfl
theorem zipO_eL {e : α → T} {e2 : β → T} [NoLnE e] {xs : List α} {ys : List β} : zipO [eL .ow .lst e xs, eL .fz .lst e2 ys] = some (xs.map e, ys.map e2) := by
  have h : (T.noLnL (xs.map e) && (notOw (eL .fz .lst e2 ys) && (eL .fz .lst e2 ys).noLn)) = true := by
    rw [noLnL_map]; rfl
  show (if (T.noLnL (xs.map e) && (notOw (eL .fz .lst e2 ys) && (eL .fz .lst e2 ys).noLn)) = true then (seqOf (eL .fz .lst e2 ys)).map fun ys => (xs.map e, ys) else none) = _
  rw [if_pos h]; rfl
theorem zipW_map {e : α → T} {e2 : β → T} {fl : Fg} [h : TupF2 e e2 fl] {xs : List α} {ys : List β} : List.zipWith pairT (xs.map e) (ys.map e2) = (xs.zip ys).map (eP2 fl e e2) := by
  have := zip_map (f1 := .fz) (f2 := .fz) (e := e) (e2 := e2) (xs := xs) (ys := ys)
  exact Option.some.inj this
end TV
set_option Elab.async false
set_option linter.all false
set_option maxRecDepth 100000
namespace TV
open PySem PySem.Spec L2
theorem gT_eq {vs : List Nat} {f : Sl → R Sl Bool} {δ : Sl} : gT vs f δ = (f (hdS vs δ)).bind fun b δ => .ok b (shS vs δ) := rfl
end TV
set_option Elab.async false
set_option linter.all false
set_option maxRecDepth 100000
namespace TV
open PySem PySem.Spec L2
instance : PLt Bool := ⟨fun a b => !a && b⟩
instance : OrdE T.bl := ⟨fun a b => by simp [T.toD, PySem.W.alike], fun a b => by
  show PySem.W.dataLt (.bool a) (.bool b) = (!a && b)
  show PyProof.Rows.lexLt PyProof.Rows.itemOrd [.inl (if a = true then 1 else 0)] [.inl (if b = true then 1 else 0)] = _
  rw [PySem.W.lex_one]
  cases a <;> cases b <;> rfl, fun a b => by
  rw [T.eqv_toD 60 60 _ _ rfl rfl]
  have : EqvE T.bl T.bl := inferInstance
  exact this.h a b⟩
instance : SrtE T.bl := ⟨.inr fun _ => rfl⟩
end TV
set_option Elab.async false
set_option linter.all false
set_option maxRecDepth 100000
set_option maxHeartbeats 4000000
namespace TV
open PySem PySem.Spec L2
section
variable {δ : Sl}
theorem nar_LP2 {d : Dy} : narT (allT isI2T) (eX d) δ = bO (narO d) fun a : List (Int × Int) => .ok (eL .fz .lst (eP2 .fz T.int T.int) a) δ := nar_eq (α := List (Int × Int))
theorem o_listOfP2 {α : Type} {f : Fg} {e : α → T} {p : α × α} : opt (gListOf (eP2 f e e p)) δ = .ok (eL .ow .lst e [p.1, p.2]) δ := rfl
theorem o_listOfP3 {α : Type} {f : Fg} {e : α → T} {p : α × α × α} : opt (gListOf (eP3 f e e e p)) δ = .ok (eL .ow .lst e [p.1, p.2.1, p.2.2]) δ := rfl
def catTK (x y : T) (δ : Sl) : R Sl T := (opt (gCatT x y) δ).bind fun t δ => if t.noLn = true then .ok t.frz δ else .bad
theorem eCatT_eq {fa fb : ES} : eCatT fa fb δ = (fa δ).bind fun x δ => (fb δ).bind fun y δ => catTK x y δ := by
  unfold eCatT eFr eBin catTK
  cases fa δ with
  | bad => rfl
  | exc x d => rfl
  | ok x d =>
    show (((fb d).bind fun y δ => opt (gCatT x y) δ).bind _) = _
    show _ = (fb d).bind _
    cases fb d <;> rfl
def catX (a b : Dy) : O Dy := match a, b with
  | .tup xs, .tup ys => if xs.length + ys.length ≤ sizeLine then .ok (.tup (xs ++ ys)) else .bad
  | _, _ => .bad
theorem o_catTX {a b : Dy} : catTK (eX a) (eX b) δ = bO (catX a b) fun c => .ok (eX c) δ := by
  cases a with
  | tup xs =>
    cases b with
    | tup ys =>
      unfold catTK catX gCatT
      rw [eX_tup, eX_tup]
      unfold eL
      dsimp only
      rw [List.length_map, List.length_map]
      by_cases h : xs.length + ys.length ≤ sizeLine
      · rw [if_pos h, if_pos h]
        rw [← List.map_append]
        cases xs with
        | nil =>
          show R.ok ((T.nd .fz .tup (ys.map eX)).frz) δ = R.ok (eX (.tup ys)) δ
          rw [eX_tup, T.frz]; rfl
        | cons x xs =>
          cases ys with
          | nil =>
            rw [List.append_nil]
            show R.ok ((T.nd .fz .tup ((x :: xs).map eX)).frz) δ = R.ok (eX (.tup (x :: xs))) δ
            rw [eX_tup, T.frz]; rfl
          | cons y ys =>
            show (if (mkN .tup ((x :: xs ++ y :: ys).map eX)).noLn = true then R.ok (mkN .tup ((x :: xs ++ y :: ys).map eX)).frz δ else .bad) = R.ok (eX (.tup (x :: xs ++ y :: ys))) δ
            rw [noLn_mkX, if_pos rfl, frz_mkTup]
      · rw [if_neg h, if_neg h]; rfl
    | _ => unfold catTK catX gCatT eX; rfl
  | _ => unfold catTK catX gCatT; unfold eX; rfl
end
end TV
set_option Elab.async false
set_option linter.all false
set_option maxRecDepth 100000
set_option maxHeartbeats 4000000
namespace TV
open PySem PySem.Spec L2
section
variable {δ : Sl} {α : Type}
theorem fzX_nil : fzX [] δ = δ := rfl
theorem fzX_cons {v : Nat} {vs : List Nat} : fzX (v :: vs) δ = fzX vs (fzX1 v δ) := rfl
theorem fzX1_0 {t : T} : fzX1 0 (.vis false t :: δ) = .vis false (fzXT t) :: δ := rfl
theorem fzX1_S {n : Nat} {s : Sl1} : fzX1 (n + 1) (s :: δ) = s :: fzX1 n δ := by
  unfold fzX1
  rw [List.getElem?_cons_succ]
  rcases e : δ[n]? with _ | _ | ⟨_ | _, _⟩ | _ <;> rfl
theorem fzXT_X {f : Fg} {xs : List Dy} : fzXT (eL f .lst eX xs) = eL .fz .lst eX xs := by
  have h : T.frzL (xs.map eX) = xs.map eX := frzL_map xs
  unfold fzXT eL
  cases f <;> rw [T.frz] <;> first | rw [h] | rfl
theorem map_frz_X {f : Fg} : ∀ xs : List (List Dy), T.frzL (xs.map (eL f .lst eX)) = (xs.map Dy.lst).map eX
  | [] => rfl
  | x :: xs => by
    rw [List.map_cons, T.frzL, map_frz_X xs, List.map_cons, List.map_cons, eX_lst]
    congr 1
    exact fzXT_X
theorem fzXT_LX {f f' : Fg} {xs : List (List Dy)} (h : f ≠ .fz) : fzXT (eL f .lst (eL f' .lst eX) xs) = eL .fz .lst eX (xs.map Dy.lst) := by
  have z := map_frz_X (f := f') xs
  show (T.nd f .lst (xs.map (eL f' .lst eX))).frz = _
  cases f with
  | fz => exact absurd rfl h
  | ow => rw [T.frz, z]; rfl
  | ln => rw [T.frz, z]; rfl
theorem fzXT_LXo {f' : Fg} {xs : List (List Dy)} : fzXT (eL .ow .lst (eL f' .lst eX) xs) = eL .fz .lst eX (xs.map Dy.lst) := fzXT_LX (by decide)
def fzP (p : Bool) (t : T) : T := match p with
  | true => t
  | false => fzXT t
def setXT (p : Bool) (xs : List T) (k : Int) (t : T) : Option T := (setT xs k t).map fun ys => fzP p (.nd .ow .lst ys)
theorem sPutX_eq {i : Nat} {f fi : ES} : sPutX i f fi δ = (f δ).bind fun t δ => if t.noLn = true then optK (ownL δ i) .bad (fun _ => (fi δ).bind fun kt δ => putX i t kt δ) else .bad := by
  unfold sPutX; congr 1; funext t δ
  by_cases h : t.noLn = true
  · rw [if_pos h, if_pos h]; cases ownL δ i <;> rfl
  · rw [if_neg h, if_neg h]
theorem putX_eq {i : Nat} {t : T} {k : Int} : putX i t (.int k) δ = optK (ownL δ i) .bad fun px => optK (setXT px.1 px.2 k t) .bad fun y => .ok .next (δ.set i (.vis px.1 y)) := by
  unfold putX
  rw [putS_eq]
  cases e : ownL δ i with
  | none => rfl
  | some px =>
    show (optK (setT px.2 k t) R.bad (fun xs' => R.ok Flw.next (δ.set i (.vis px.1 (.nd .ow .lst xs'))))).bind _ = optK (setXT px.1 px.2 k t) R.bad (fun y => R.ok Flw.next (δ.set i (.vis px.1 y)))
    unfold setXT
    cases setT px.2 k t with
    | none => rfl
    | some xs' =>
      show R.ok Flw.next (fzX1 i (δ.set i (.vis px.1 (.nd .ow .lst xs')))) = .ok .next (δ.set i (.vis px.1 (fzP px.1 (.nd .ow .lst xs'))))
      have hi : i < δ.length := (List.getElem?_eq_some_iff.mp (ownL_some e)).1
      unfold fzX1
      rw [List.getElem?_set_self hi]
      obtain ⟨p, q⟩ := px
      cases p with
      | true => rfl
      | false =>
        show R.ok Flw.next ((δ.set i _).set i _) = _
        rw [List.set_set]; rfl
theorem k_setX {β : Type} {f' : Fg} {xs : List (List Dy)} {d : Dy} {i : Int} {k : T → R Sl β} : optK (setXT false (xs.map (eL f' .lst eX)) i (eX d)) .bad k = bO (setO (xs.map Dy.lst) i d) fun ys => k (eL .fz .lst eX ys) := by
  unfold setXT setT setO
  rw [List.length_map, List.length_map]
  cases ixN xs.length i with
  | none => rfl
  | some j =>
    show k (fzXT (.nd .ow .lst ((xs.map (eL f' .lst eX)).set j (eX d)))) = k (eL .fz .lst eX ((xs.map Dy.lst).set j d))
    congr 1
    show (T.nd .ow .lst _).frz = _
    rw [T.frz]
    unfold eL
    congr 1
    have z : ∀ (ys : List T) (j : Nat), T.frzL (ys.set j (eX d)) = (T.frzL ys).set j (eX d) := by
      intro ys
      induction ys with
      | nil => intro j; rfl
      | cons y ys ih =>
        intro j
        cases j with
        | zero => rw [List.set_cons_zero, T.frzL, eX_frz, T.frzL, List.set_cons_zero]
        | succ j => rw [List.set_cons_succ, T.frzL, ih, T.frzL, List.set_cons_succ]
    have z2 := map_frz_X (f := f') xs
    unfold eL at z2
    rw [z, z2, List.map_set]
end
end TV
set_option Elab.async false
set_option linter.all false
set_option maxRecDepth 100000
set_option maxHeartbeats 4000000
namespace TV
open PySem PySem.Spec L2
section
variable {α β κ κ' : Type} {δ : Sl}
theorem sRaiseF_eq {y : Str} {vs : List Nat} {g : AS} : sRaiseF y vs g δ = (g δ).bind (rzF y vs) := rfl
theorem rzF_val {et : κ → T} {ek : κ → List Key} {et' : κ' → T} {ek' : κ' → List Key} [h : KeyT et ek] [h' : KeyT et' ek'] {y : Str} {vs : List Nat} {a : κ} {b : κ'} : rzF y vs [.val (et a), .val (et' b)] δ = .exc ⟨y, some (ek a, ek' b)⟩ (fgS vs δ) := by
  show (match keyTT (et a), keyTT (et' b) with
    | some p, some q => R.exc ⟨y, some (p, q)⟩ (fgS vs δ)
    | _, _ => .bad) = _
  rw [h.h, h'.h]
def k2O : List Key → O (Int × Int)
  | [.inl a, .inl b] => .ok (a, b)
  | _ => .bad
/-- a field of an error -/
def xf2 (o : Bool) (y : Str) (x : Xc) : O (Int × Int) := match x.f with
  | some (p, q) => if x.n = y then k2O (if o = true then p else q) else .bad
  | none => .bad
def xf2o (o : Bool) (y : Str) : Option Xc → O (Int × Int)
  | none => .bad
  | some x => xf2 o y x
theorem isK2_n {k : List Key} : isK2 (keyN k) = true ↔ ∃ a b, k = [.inl a, .inl b] := by
  match k with
  | [] => exact ⟨fun h => (by cases h), fun ⟨_, _, h⟩ => (by cases h)⟩
  | [.inl a] => exact ⟨fun h => (by cases h), fun ⟨_, _, h⟩ => (by cases h)⟩
  | [.inr a] => exact ⟨fun h => (by cases h), fun ⟨_, _, h⟩ => (by cases h)⟩
  | [.inl a, .inl b] => exact ⟨fun _ => ⟨a, b, rfl⟩, fun _ => rfl⟩
  | [.inl a, .inr b] => exact ⟨fun h => (by cases h), fun ⟨_, _, h⟩ => (by cases h)⟩
  | [.inr a, .inl b] => exact ⟨fun h => (by cases h), fun ⟨_, _, h⟩ => (by cases h)⟩
  | [.inr a, .inr b] => exact ⟨fun h => (by cases h), fun ⟨_, _, h⟩ => (by cases h)⟩
  | a :: b :: c :: r =>
    refine ⟨fun h => ?_, fun ⟨_, _, h⟩ => (by cases h)⟩
    cases a <;> cases b <;> cases h
theorem k2O_no {k : List Key} (h : ¬ isK2 (keyN k) = true) : k2O k = .bad := by
  unfold k2O
  split
  · exact absurd rfl h
  · rfl
theorem o_xSel {o : Bool} {y : Str} {x : Xc} : opt (xSel o y (eE x)) δ = bO (xf2 o y x) fun p => .ok (eP2 .fz T.int T.int p) δ := by
  obtain ⟨n, f⟩ := x
  cases f with
  | none => rfl
  | some pq =>
    obtain ⟨p, q⟩ := pq
    show opt (if n = y ∧ isK2 (if o = true then keyN p else keyN q) = true then some (if o = true then keyN p else keyN q) else none) δ = bO (if n = y then k2O (if o = true then p else q) else .bad) _
    have e : (if o = true then keyN p else keyN q) = keyN (if o = true then p else q) := by cases o <;> rfl
    rw [e]
    by_cases hn : n = y
    · by_cases hk : isK2 (keyN (if o = true then p else q)) = true
      · rw [if_pos ⟨hn, hk⟩, if_pos hn]
        obtain ⟨a, b, hab⟩ := isK2_n.mp hk
        rw [hab]; rfl
      · rw [if_neg fun z => hk z.2, if_pos hn, k2O_no hk]; rfl
    · rw [if_neg fun z => hn z.1, if_neg hn]; rfl
theorem o_xSelo {o : Bool} {y : Str} {x : Option Xc} : opt (xSel o y (eO eE x)) δ = bO (xf2o o y x) fun p => .ok (eP2 .fz T.int T.int p) δ := by
  cases x with
  | none => rfl
  | some x => exact o_xSel
theorem eXf_eq {o : Bool} {y : Str} {f : ES} : eXf o y f δ = (f δ).bind fun t δ => opt (xSel o y t) δ := rfl
end
end TV
set_option Elab.async false
set_option linter.all false
set_option maxRecDepth 100000
set_option maxHeartbeats 4000000
namespace TV
open PySem PySem.Spec L2
section
end
end TV
set_option Elab.async false
set_option linter.all false
set_option maxRecDepth 100000
set_option maxHeartbeats 4000000
namespace TV
open PySem PySem.Spec L2
theorem nar_P4 {d : Dy} {δ : Sl} : narT isI4T (eX d) δ = bO (narO d) fun a : Int × Int × Int × Int => .ok (eP4 .fz T.int T.int T.int T.int a) δ := nar_eq (α := Int × Int × Int × Int)
end TV
set_option Elab.async false
set_option linter.all false
set_option maxRecDepth 100000
set_option maxHeartbeats 4000000
namespace TV
open PySem PySem.Spec L2
section
variable {δ : Sl}
theorem eLenSet_eq {f : ES} : eLenSet f δ = (f δ).bind fun t δ => opt (gLenSet t) δ := rfl
def k2L (p : Int × Int) : List Int := [p.1, p.2]
/-- how many there are, each once -/
def lenSetO (xs : List (Int × Int)) : O Int := if xs.length * 5 < 127 * 3 then .ok ((dd (xs.map k2L)).length : Int) else .bad
theorem keysI_p2 {f : Fg} : ∀ xs : List (Int × Int), keysI (xs.map (eP2 f T.int T.int)) = some (xs.map k2L)
  | [] => rfl
  | x :: xs => by
    show ((keyTT (eP2 f T.int T.int x)).bind intsK).bind (fun k => (keysI (xs.map (eP2 f T.int T.int))).map fun ks => k :: ks) = _
    rw [keysI_p2 xs]; rfl
theorem o_lenSet {f g : Fg} {xs : List (Int × Int)} : opt (gLenSet (eL f .lst (eP2 g T.int T.int) xs)) δ = bO (lenSetO xs) fun i => .ok (.int i) δ := by
  show opt ((keysI (xs.map (eP2 g T.int T.int))).bind fun ks => if ks.length * 5 < 127 * 3 then some (.int (dd ks).length) else none) δ = _
  rw [keysI_p2]
  unfold lenSetO
  dsimp only [Option.bind]
  rw [List.length_map]
  by_cases h : xs.length * 5 < 127 * 3
  · rw [if_pos h, if_pos h]; rfl
  · rw [if_neg h, if_neg h]; rfl
theorem o_slP3 {f : Fg} {p : Int × Int × Int} : opt (gSl (eP3 f T.int T.int T.int p) none (some 2)) δ = .ok (eP2 .fz T.int T.int (p.1, p.2.1)) δ := rfl
end
end TV
set_option Elab.async false
set_option linter.all false
set_option maxRecDepth 100000
namespace TV
open PySem PySem.Spec L2
section
variable {α β γ σ σ' τ ρ : Type}
theorem szL : sizeLine = 16777216 := by unfold sizeLine; rfl
theorem z_top {m : Bool} {a : α} : O.top m (.ok a) = OF.ok a := rfl
theorem z_lift {d : Sl} {a : α} : OF.lift d (.ok a) = .ok a := rfl
theorem z_mut {a : α} : OF.mut (.ok a) = .ok a := rfl
theorem z_fin {s : τ} {k : τ → O ρ} : Fl.fin (.ok (.nx s : Fl τ σ ρ)) k = k s := rfl
theorem z_seq {s : τ} {k : τ → O (Fl τ' σ ρ)} : Fl.seq (.ok (.nx s : Fl τ σ ρ)) k = k s := rfl
theorem cMul_a {a b : Int} (h1 : -18446744073709551616 < a) (h2 : a < 18446744073709551616) : cMul a b = true := by unfold cMul; simp; omega
theorem mulO_a {a b : Int} (h1 : -18446744073709551616 < a) (h2 : a < 18446744073709551616) : mulO a b = .ok (a * b) := if_pos (cMul_a h1 h2)
theorem mulO_b {a b : Int} (h1 : -18446744073709551616 < b) (h2 : b < 18446744073709551616) : mulO a b = .ok (a * b) := if_pos (by unfold cMul; simp; omega)
theorem mulO_c {a b : Int} (h : cMul a b = true) : mulO a b = .ok (a * b) := if_pos h
theorem modO_ok {a b : Int} (h : 0 < b) : modO a b = .ok (a % b) := if_pos h
theorem log_small {b : Int} (h1 : 0 < b) (h2 : b < 18446744073709551616) : b.natAbs.log2 < 9000 := by
  have : b.natAbs < 2 ^ 64 := by omega
  have := (Nat.log2_lt (by omega)).mpr this
  omega
theorem divO_ok {a b : Int} (h : 0 < b) (h2 : b < 18446744073709551616) : divO a b = .ok (a / b) := if_pos ⟨h, log_small h h2⟩
theorem rgO_ok {a b : Int} (h1 : -4611686018427387904 ≤ a) (h2 : a < 4611686018427387904) (h3 : -4611686018427387904 ≤ b) (h4 : b < 4611686018427387904) : rgO a b = .ok (rgI a (b - a).toNat) := by
  unfold rgO; rw [if_pos]; unfold rgOk; simp; omega
theorem rgO_nat {n : Nat} {N : Int} (h : N = n) (h4 : n < 4611686018427387904) : rgO 0 N = .ok (rgI 0 n) := by
  subst h; rw [rgO_ok (by omega) (by omega) (by omega) (by omega)]; congr 2
theorem ixN_nat {n j : Nat} {K : Int} (h : K = (j : Int)) (hj : j < n) : ixN n K = some j := by subst h; unfold ixN; simp [hj]
theorem ixO_get {xs : List α} {i : Nat} {K : Int} {a : α} (hK : K = (i : Int)) (h : xs[i]? = some a) : ixO xs K = .ok a := by
  have hi := (List.getElem?_eq_some_iff.mp h).1
  unfold ixO atI; rw [ixN_nat hK hi]; simp [h]
theorem ixO_getD {xs : List α} {i : Nat} {K : Int} {d : α} (hK : K = (i : Int)) (h : i < xs.length) : ixO xs K = .ok (xs.getD i d) :=
  ixO_get hK (by rw [List.getD_eq_getElem?_getD, List.getElem?_eq_getElem h]; rfl)
theorem appO_ok {xs : List α} {a : α} (h : xs.length < 16777216) : appO xs a = .ok (xs ++ [a]) := if_pos (by rw [szL]; exact h)
theorem catO_ok {xs ys : List α} (h : xs.length + ys.length ≤ 16777216) : catO xs ys = .ok (xs ++ ys) := if_pos (by rw [szL]; exact h)
theorem repO_one {x : α} {k : Nat} {K : Int} (hK : K = k) (h : k ≤ 16777216) : repO [x] K = .ok (List.replicate k x) := by
  subst hK
  unfold repO
  rw [if_pos (by rw [szL]; simp; omega)]
  congr 1
  simp
theorem lcS_ok {ys : List α} (h : ys.length ≤ 16777216) : lcS (.ok ys) = .ok ys := by
  show szG ys = _; unfold szG; rw [if_pos (by rw [szL]; exact h)]
theorem mapO_ok {f : α → O β} (g : α → β) {xs : List α} (h : ∀ x ∈ xs, f x = .ok (g x)) : mapO f xs = .ok (xs.map g) := by
  induction xs with
  | nil => rfl
  | cons x xs ih => unfold mapO; rw [h x (by simp), ih fun y hy => h y (by simp [hy])]; rfl
theorem filO_ok {q : α → O Bool} {f : α → O β} (p : α → Bool) (g : α → β) {xs : List α} (h : ∀ x ∈ xs, q x = .ok (p x)) (h2 : ∀ x ∈ xs, p x = true → f x = .ok (g x)) : filO q f xs = .ok ((xs.filter p).map g) := by
  induction xs with
  | nil => rfl
  | cons x xs ih =>
    unfold filO; rw [h x (by simp), ih (fun y hy => h y (by simp [hy])) fun y hy => h2 y (by simp [hy])]
    dsimp only
    by_cases hp : p x = true
    · rw [if_pos hp, h2 x (by simp) hp, List.filter_cons_of_pos hp]; rfl
    · rw [if_neg hp, List.filter_cons_of_neg hp]
theorem lcMap_ok {f : α → O β} (g : α → β) {xs : List α} (hl : xs.length ≤ 16777216) (h : ∀ x ∈ xs, f x = .ok (g x)) : lcS (mapO f xs) = .ok (xs.map g) := by
  rw [mapO_ok g h, lcS_ok (by rw [List.length_map]; exact hl)]
theorem lcFil_ok {q : α → O Bool} {f : α → O β} (p : α → Bool) (g : α → β) {xs : List α} (hl : xs.length ≤ 16777216) (h : ∀ x ∈ xs, q x = .ok (p x)) (h2 : ∀ x ∈ xs, p x = true → f x = .ok (g x)) : lcS (filO q f xs) = .ok ((xs.filter p).map g) := by
  rw [filO_ok p g h h2, lcS_ok (by rw [List.length_map]; exact Nat.le_trans (List.length_filter_le _ _) hl)]
/-- all of a comprehension's bools -/
theorem lcAll_ok {f : α → O Bool} {xs : List α} (hl : xs.length ≤ 16777216) (h : ∀ x ∈ xs, f x = .ok true) : ∃ ys, lcS (mapO f xs) = .ok ys ∧ ys.all id = true :=
  ⟨_, lcMap_ok (fun _ => true) hl h, by simp⟩
theorem foldO_inv {p : σ → α → O σ} (P : Nat → σ → Prop) (xs : List α) (s : σ) (h0 : P 0 s) (h : ∀ i x s, xs[i]? = some x → P i s → ∃ s', p s x = .ok s' ∧ P (i + 1) s') : ∃ s', foldO p s xs = .ok s' ∧ P xs.length s' := by
  suffices H : ∀ (ys : List α) (k : Nat) (s : σ), (∀ i x, ys[i]? = some x → xs[k + i]? = some x) → P k s → ∃ s', foldO p s ys = .ok s' ∧ P (k + ys.length) s' by
    obtain ⟨s', a, b⟩ := H xs 0 s (fun i x e => by rw [Nat.zero_add]; exact e) h0
    exact ⟨s', a, by rwa [Nat.zero_add] at b⟩
  intro ys
  induction ys with
  | nil => intro k s _ hp; exact ⟨s, rfl, hp⟩
  | cons y ys ih =>
    intro k s e hp
    obtain ⟨s1, a, b⟩ := h k y s (by simpa using e 0 y rfl) hp
    obtain ⟨s2, c, d⟩ := ih (k + 1) s1 (fun i x ei => by have := e (i + 1) x (by simpa using ei); rwa [← Nat.add_assoc, Nat.add_right_comm] at this) b
    refine ⟨s2, ?_, by rw [List.length_cons, ← Nat.add_assoc, Nat.add_right_comm]; exact d⟩
    unfold foldO; rw [a]; exact c
theorem forO_inv {p : σ → α → O (Fl σ σ ρ)} (P : Nat → σ → Prop) (xs : List α) (s : σ) (h0 : P 0 s) (h : ∀ i x s, xs[i]? = some x → P i s → ∃ s', (p s x = .ok (.nx s') ∨ p s x = .ok (.ct s')) ∧ P (i + 1) s') : ∃ s', forO (σ' := σ') p s xs = .ok (.nx s') ∧ P xs.length s' := by
  suffices H : ∀ (ys : List α) (k : Nat) (s : σ), (∀ i x, ys[i]? = some x → xs[k + i]? = some x) → P k s → ∃ s', forO (σ' := σ') p s ys = .ok (.nx s') ∧ P (k + ys.length) s' by
    obtain ⟨s', a, b⟩ := H xs 0 s (fun i x e => by rw [Nat.zero_add]; exact e) h0
    exact ⟨s', a, by rwa [Nat.zero_add] at b⟩
  intro ys
  induction ys with
  | nil => intro k s _ hp; exact ⟨s, rfl, hp⟩
  | cons y ys ih =>
    intro k s e hp
    obtain ⟨s1, a, b⟩ := h k y s (by simpa using e 0 y rfl) hp
    obtain ⟨s2, c, d⟩ := ih (k + 1) s1 (fun i x ei => by have := e (i + 1) x (by simpa using ei); rwa [← Nat.add_assoc, Nat.add_right_comm] at this) b
    refine ⟨s2, ?_, by rw [List.length_cons, ← Nat.add_assoc, Nat.add_right_comm]; exact d⟩
    unfold forO
    rcases a with a | a <;> rw [a] <;> exact c
theorem forU {p : Unit → α → O (Fl Unit Unit ρ)} {xs : List α} (h : ∀ x ∈ xs, p () x = .ok (.nx ()) ∨ p () x = .ok (.ct ())) : forO (σ' := σ') p () xs = .ok (.nx ()) := by
  obtain ⟨s, e, _⟩ := forO_inv (σ' := σ') (p := p) (fun _ _ => True) xs () trivial fun i x s e _ => ⟨(), h x (List.mem_of_getElem? e), trivial⟩
  exact e
theorem rgI_get {a t : Int} {n i : Nat} (h : (rgI a n)[i]? = some t) : i < n ∧ t = a + (i : Int) := by
  unfold rgI at h
  rw [List.getElem?_map] at h
  by_cases hi : i < n
  · rw [List.getElem?_range hi] at h; simp at h; exact ⟨hi, h.symm⟩
  · rw [List.getElem?_eq_none (by simp; omega)] at h; simp at h
theorem rgI_get0 {t : Int} {n i : Nat} (h : (rgI 0 n)[i]? = some t) : i < n ∧ t = (i : Int) := by
  obtain ⟨a, b⟩ := rgI_get h
  exact ⟨a, by omega⟩
end
end TV
namespace TV
end TV
set_option Elab.async false
set_option linter.all false
set_option maxRecDepth 100000
namespace LW
structure PInv (n e : Nat) (F L : List Int) (st : Nat → List Int) : Prop where
  len : F.length = 2 * n
  le : e ≤ 2 * n
  cnt : ∃ m, e + L.length = 2 * m ∧ m ≤ n
  s0 : st 0 = []
  se : st e = L
  srt : L.Pairwise (· < ·)
  rng : ∀ x ∈ L, ∃ t : Nat, x = (t : Int) ∧ t < e
  turn : ∀ t : Nat, t < e → (st (t + 1) = st t ++ [(t : Int)] ∧ ((t : Int) ∈ L ∨ ∃ v : Nat, t < v ∧ F[t]? = some (v : Int))) ∨ (∃ o : Nat, o < t ∧ st t = st (t + 1) ++ [(o : Int)] ∧ F[t]? = some (o : Int) ∧ (t : Int) ∉ L)
  pair : ∀ t : Nat, t < e → (t : Int) ∉ L → ∃ v : Nat, v < e ∧ (v : Int) ∉ L ∧ v ≠ t ∧ F[t]? = some (v : Int) ∧ F[v]? = some (t : Int)
theorem PInv.push {n e : Nat} {F L : List Int} {st : Nat → List Int} (h : PInv n e F L st) (he : e < 2 * n) (hm : (e + L.length) / 2 < n) : ∃ st', PInv n (e + 1) F (L ++ [(e : Int)]) st' := by
  refine ⟨fun t => if t = e + 1 then L ++ [(e : Int)] else st t, h.len, by omega, ?_, ?_, ?_, ?_, ?_, ?_, ?_⟩
  · obtain ⟨m, e1, e2⟩ := h.cnt
    exact ⟨m + 1, by simp; omega, by omega⟩
  · simp [h.s0]
  · simp
  · rw [List.pairwise_append]
    refine ⟨h.srt, by simp, fun a ha b hb => ?_⟩
    obtain ⟨t, rfl, ht⟩ := h.rng a ha
    simp at hb; subst hb; omega
  · intro x hx
    rcases List.mem_append.mp hx with hx | hx
    · obtain ⟨t, rfl, ht⟩ := h.rng x hx; exact ⟨t, rfl, by omega⟩
    · simp at hx; exact ⟨e, hx, by omega⟩
  · intro t ht
    by_cases hte : t = e
    · subst hte
      refine .inl ⟨by simp [h.se], .inl (by simp)⟩
    · have h1 : t < e := by omega
      have z1 : ¬ t = e + 1 := by omega
      have z2 : ¬ t + 1 = e + 1 := by omega
      simp only [z1, z2, if_false]
      rcases h.turn t h1 with ⟨a, b⟩ | ⟨o, a, b, c, d⟩
      · refine .inl ⟨a, b.imp (fun z => List.mem_append_left _ z) id⟩
      · refine .inr ⟨o, a, b, c, fun z => ?_⟩
        rcases List.mem_append.mp z with z | z
        · exact d z
        · simp at z; omega
  · intro t ht hn
    have hte : t ≠ e := fun z => hn (by subst z; simp)
    have h1 : t < e := by omega
    obtain ⟨v, a, b, c, d, f⟩ := h.pair t h1 fun z => hn (List.mem_append_left _ z)
    refine ⟨v, by omega, fun z => ?_, c, d, f⟩
    rcases List.mem_append.mp z with z | z
    · exact b z
    · simp at z; omega
theorem PInv.start (n : Nat) : PInv n 0 (List.replicate (2 * n) 0) [] fun _ => [] :=
  ⟨by simp, by omega, ⟨0, rfl, by omega⟩, rfl, rfl, .nil, fun x hx => by simp at hx, fun t ht => by omega, fun t ht => by omega⟩
theorem PInv.done {n : Nat} {F L : List Int} {st : Nat → List Int} (h : PInv n (2 * n) F L st) : L = [] := by
  obtain ⟨m, e1, e2⟩ := h.cnt
  exact List.length_eq_zero_iff.mp (by omega)
end LW
set_option Elab.async false
set_option linter.all false
set_option maxRecDepth 100000
namespace LW
open PySem PySem.Spec L2 TV
section
variable {α β γ σ ρ : Type}
def rw1 (n : Nat) (f : Nat → α) : List α := (List.range n).map f
def tab (n m : Nat) (f : Nat → Nat → α) : List (List α) := rw1 n fun i => rw1 m (f i)
theorem rw1_len {n : Nat} {f : Nat → α} : (rw1 n f).length = n := by unfold rw1; simp
theorem rw1_get {n i : Nat} {f : Nat → α} (h : i < n) : (rw1 n f)[i]? = some (f i) := by unfold rw1; rw [List.getElem?_map, List.getElem?_range h]; rfl
theorem rw1_mem {n : Nat} {f : Nat → α} {x : α} (h : x ∈ rw1 n f) : ∃ i, i < n ∧ x = f i := by
  obtain ⟨i, hi, rfl⟩ := List.mem_map.mp h; exact ⟨i, List.mem_range.mp hi, rfl⟩
theorem rw1_got {n i : Nat} {f : Nat → α} {x : α} (h : (rw1 n f)[i]? = some x) : i < n ∧ x = f i := by
  have hi := (List.getElem?_eq_some_iff.mp h).1
  rw [rw1_len] at hi
  rw [rw1_get hi] at h; cases h; exact ⟨hi, rfl⟩
theorem rw1_congr {n : Nat} {f g : Nat → α} (h : ∀ i, i < n → f i = g i) : rw1 n f = rw1 n g := by
  unfold rw1; exact List.map_congr_left fun i hi => h i (List.mem_range.mp hi)
theorem tab_congr {n m : Nat} {f g : Nat → Nat → α} (h : ∀ i j, i < n → j < m → f i j = g i j) : tab n m f = tab n m g :=
  rw1_congr fun i hi => rw1_congr fun j hj => h i j hi hj
theorem rw1_of {n : Nat} {f : Nat → α} {xs : List α} (h1 : xs.length = n) (h2 : ∀ i, i < n → xs[i]? = some (f i)) : xs = rw1 n f := by
  apply List.ext_getElem?
  intro i
  by_cases h : i < n
  · rw [h2 i h, rw1_get h]
  · rw [List.getElem?_eq_none (by omega), List.getElem?_eq_none (by rw [rw1_len]; omega)]
theorem rw1_succ {n : Nat} {f : Nat → α} : rw1 (n + 1) f = rw1 n f ++ [f n] := by unfold rw1; rw [List.range_succ, List.map_append]; rfl
theorem ix_rw {n i : Nat} {K : Int} {f : Nat → α} (hK : K = (i : Int)) (h : i < n) : ixO (rw1 n f) K = .ok (f i) := ixO_get hK (rw1_get h)
theorem ix_rw0 {n : Nat} {f : Nat → α} (h : 0 < n) : ixO (rw1 n f) 0 = .ok (f 0) := ixO_get (i := 0) rfl (rw1_get h)
theorem ixO_neg {xs : List α} {k i : Nat} {K : Int} {a : α} (hK : K = -(k : Int)) (hk : 1 ≤ k) (hi : i + k = xs.length) (h : xs[i]? = some a) : ixO xs K = .ok a := by
  subst hK
  have e : ixN xs.length (-(k : Int)) = some i := by
    unfold ixN
    rw [if_neg (by omega), if_pos (by omega)]
    congr 1; omega
  unfold ixO atI
  rw [e]; simp [h]
theorem ixO_last {xs : List α} {a : α} : ixO (xs ++ [a]) (-1) = .ok a :=
  ixO_neg (k := 1) (i := xs.length) rfl (by decide) (by simp) (by simp)
theorem ix_rwl {n : Nat} {f : Nat → α} : ixO (rw1 (n + 1) f) (-1) = .ok (f n) :=
  ixO_neg (k := 1) (i := n) rfl (by decide) (by rw [rw1_len]) (rw1_get (by omega))
theorem rgI_rw {n : Nat} : rgI 0 n = rw1 n fun i => (i : Int) := by unfold rgI rw1; simp
theorem lsO_nat {n : Nat} {N : Int} (h : N = n) (h4 : n ≤ 16777216) : lsO 0 N = .ok (rw1 n fun i => (i : Int)) := by
  subst h
  unfold lsO
  rw [if_pos]
  · rw [show ((n : Int) - 0).toNat = n by omega, rgI_rw]
  · refine ⟨?_, by rw [szL]; omega⟩
    unfold rgOk; simp; omega
theorem rgO_rw {n : Nat} {N : Int} (h : N = n) (h4 : n ≤ 16777216) : rgO 0 N = .ok (rw1 n fun i => (i : Int)) := by
  rw [rgO_nat h (by omega), rgI_rw]
theorem repO_rw {x : α} {n : Nat} {N : Int} (h : N = n) (h4 : n ≤ 16777216) : repO [x] N = .ok (rw1 n fun _ => x) := by
  rw [repO_one h h4]; unfold rw1; rw [List.map_const', List.length_range]
theorem lc_rw {f : α → O β} {n : Nat} {x : Nat → α} (g : Nat → β) (hn : n ≤ 16777216) (h : ∀ i, i < n → f (x i) = .ok (g i)) : lcS (mapO f (rw1 n x)) = .ok (rw1 n g) := by
  have : ∀ m, m ≤ n → ∀ k, k + m = n → mapO f ((List.range' k m).map x) = .ok ((List.range' k m).map g) := by
    intro m
    induction m with
    | zero => intro _ k _; rfl
    | succ m ih =>
      intro hm k hk
      rw [List.range'_succ]
      simp only [List.map_cons]
      unfold mapO
      rw [h k (by omega), ih (by omega) (k + 1) (by omega)]
  have e := this n (Nat.le_refl n) 0 (by omega)
  unfold rw1
  rw [List.range_eq_range', e, lcS_ok (by simp; omega)]
theorem lcAll_rw {f : α → O Bool} {n : Nat} {x : Nat → α} (hn : n ≤ 16777216) (h : ∀ i, i < n → f (x i) = .ok true) : ∃ ys, lcS (mapO f (rw1 n x)) = .ok ys ∧ ys.all id = true :=
  ⟨_, lc_rw (fun _ => true) hn h, by unfold rw1; simp⟩
theorem zip_rw {n : Nat} {f : Nat → α} {g : Nat → β} : (rw1 n f).zip (rw1 n g) = rw1 n fun i => (f i, g i) := by
  unfold rw1; rw [List.zip_map']
theorem cut_tail {xs : List α} : cutI xs (some 1) none = xs.drop 1 := by
  unfold cutI HT.sIx
  cases xs with
  | nil => simp
  | cons a xs =>
    have : min 1 (xs.length + 1) = 1 := by omega
    simp [this]
theorem cut_rw1 {n : Nat} {f : Nat → α} : cutI (rw1 (n + 1) f) (some 1) none = rw1 n fun i => f (i + 1) := by
  rw [cut_tail]
  apply rw1_of (by rw [List.length_drop, rw1_len]; omega)
  intro i hi
  rw [List.getElem?_drop, rw1_get (by omega), Nat.add_comm]
theorem app_rw {n : Nat} {f : Nat → α} {a : α} (h : n < 16777216) (ha : a = f n) : appO (rw1 n f) a = .ok (rw1 (n + 1) f) := by
  rw [appO_ok (by rw [rw1_len]; exact h), rw1_succ, ha]
/-- a loop over a row, by what stands before each turn -/
theorem fold_rw {p : σ → α → O σ} {n : Nat} {x : Nat → α} (S : Nat → σ) (h : ∀ i, i < n → p (S i) (x i) = .ok (S (i + 1))) : foldO p (S 0) (rw1 n x) = .ok (S n) := by
  obtain ⟨s, e, hs⟩ := foldO_inv (p := p) (fun i s => s = S i) (rw1 n x) (S 0) rfl fun i y s hy hs => by
    obtain ⟨hi, rfl⟩ := rw1_got hy
    subst hs
    exact ⟨_, h i hi, rfl⟩
  rw [e, hs, rw1_len]
theorem for_rw {σ' : Type} {p : σ → α → O (Fl σ σ ρ)} {n : Nat} {x : Nat → α} (S : Nat → σ) (h : ∀ i, i < n → p (S i) (x i) = .ok (.nx (S (i + 1)))) : forO (σ' := σ') p (S 0) (rw1 n x) = .ok (.nx (S n)) := by
  obtain ⟨s, e, hs⟩ := forO_inv (σ' := σ') (p := p) (fun i s => s = S i) (rw1 n x) (S 0) rfl fun i y s hy hs => by
    obtain ⟨hi, rfl⟩ := rw1_got hy
    subst hs
    exact ⟨_, .inl (h i hi), rfl⟩
  rw [e, hs, rw1_len]
end
/-- the heights of a floor of size n: a corner sum table -/
structure HT (n : Nat) (h : Nat → Nat → Int) : Prop where
  r0 : ∀ j, j ≤ n → h 0 j = 0
  c0 : ∀ i, i ≤ n → h i 0 = 0
  rn : ∀ j, j ≤ n → h n j = j
  cn : ∀ i, i ≤ n → h i n = i
  dr : ∀ i j, i ≤ n → j < n → 0 ≤ h i (j + 1) - h i j ∧ h i (j + 1) - h i j ≤ 1
  dc : ∀ i j, i < n → j ≤ n → 0 ≤ h (i + 1) j - h i j ∧ h (i + 1) j - h i j ≤ 1
def cel (h : Nat → Nat → Int) (i j : Nat) : Int := h (i + 1) (j + 1) - h (i + 1) j - h i (j + 1) + h i j
def fl (n : Nat) (h : Nat → Nat → Int) : List (List Int) := tab n n (cel h)
def ht (n : Nat) (h : Nat → Nat → Int) : List (List Int) := tab (n + 1) (n + 1) h
theorem cel_le {n : Nat} {h : Nat → Nat → Int} (H : HT n h) {i j : Nat} (hi : i < n) (hj : j < n) : -1 ≤ cel h i j ∧ cel h i j ≤ 1 := by
  have a := H.dr i j (by omega) hj
  have b := H.dr (i + 1) j (by omega) hj
  unfold cel; omega
/-- how many of a row are less -/
def hc (r : List Int) (j : Nat) : Int := ((r.filter fun c => decide (c < (j : Int))).length : Int)
theorem hc_nil {j : Nat} : hc [] j = 0 := rfl
theorem hc_cons {a : Int} {r : List Int} {j : Nat} : hc (a :: r) j = (if a < (j : Int) then 1 else 0) + hc r j := by
  unfold hc; by_cases h : a < (j : Int) <;> simp [List.filter_cons, h]; omega
/-- a strictly rising row of columns below n -/
def Rise (n : Nat) (r : List Int) : Prop := r.Pairwise (· < ·) ∧ ∀ c ∈ r, 0 ≤ c ∧ c < n
theorem hc_zero {n : Nat} {r : List Int} (h : Rise n r) : hc r 0 = 0 := by
  unfold hc
  rw [List.filter_eq_nil_iff.mpr]; rfl
  intro c hcm
  have := h.2 c hcm
  simp; omega
theorem hc_full {n : Nat} {r : List Int} (h : Rise n r) : hc r n = r.length := by
  unfold hc
  rw [List.filter_eq_self.mpr]
  intro c hcm
  have := h.2 c hcm
  simp; omega
theorem hc_step {r : List Int} (h : r.Pairwise (· < ·)) (j : Nat) : hc r (j + 1) - hc r j = if (j : Int) ∈ r then 1 else 0 := by
  induction r with
  | nil => rfl
  | cons a r ih =>
    rw [hc_cons, hc_cons]
    have ih := ih h.tail
    have ha := (List.pairwise_cons.mp h).1
    by_cases hm : (j : Int) ∈ r
    · have := ha _ hm
      rw [if_pos hm] at ih
      rw [if_pos (show (j : Int) ∈ a :: r from List.mem_cons_of_mem _ hm), if_pos (by omega), if_pos this]; omega
    · rw [if_neg hm] at ih
      by_cases he : (j : Int) = a
      · rw [if_pos (show (j : Int) ∈ a :: r by rw [he]; simp), if_pos (by omega), if_neg (by omega)]; omega
      · rw [if_neg (show ¬ (j : Int) ∈ a :: r by simp [he, hm])]
        split <;> split <;> omega
/-- a shorter row between -/
def Betw : List Int → List Int → Prop
  | [], [_] => True
  | x :: q, a :: b :: r => a ≤ x ∧ x ≤ b ∧ Betw q (b :: r)
  | _, _ => False
theorem betw_hc {j : Nat} : ∀ (q r : List Int), Betw q r → hc q j ≤ hc r j
  | [], [a], _ => by rw [hc_nil, hc_cons, hc_nil]; split <;> omega
  | [], [], h => h.elim
  | [], _ :: _ :: _, h => h.elim
  | _ :: _, [], h => h.elim
  | _ :: _, [_], h => h.elim
  | x :: q, a :: b :: r, h => by
    have := betw_hc (j := j) q (b :: r) h.2.2
    have h1 := h.1
    rw [hc_cons, hc_cons (a := a)]
    split <;> split <;> omega
theorem betw_hc2 {j : Nat} : ∀ (q r : List Int), Betw q r → hc r.tail j ≤ hc q j
  | [], [a], _ => by simp [hc_nil]
  | [], [], h => h.elim
  | [], _ :: _ :: _, h => h.elim
  | _ :: _, [], h => h.elim
  | _ :: _, [_], h => h.elim
  | x :: q, a :: b :: r, h => by
    have := betw_hc2 (j := j) q (b :: r) h.2.2
    have h1 := h.2.1
    simp only [List.tail_cons] at this ⊢
    rw [hc_cons, hc_cons (a := x)]
    split <;> split <;> omega
theorem betw_step {j : Nat} {q r : List Int} (h : Betw q r) : 0 ≤ hc r j - hc q j ∧ hc r j - hc q j ≤ 1 := by
  have a := betw_hc (j := j) q r h
  have b := betw_hc2 (j := j) q r h
  cases r with
  | nil => cases q <;> exact h.elim
  | cons x r =>
    rw [hc_cons] at a ⊢
    simp only [List.tail_cons] at b
    split <;> split at a <;> omega
/-- a triangle of rows: each longer by one, each between the next -/
structure Tri (n : Nat) (R : Nat → List Int) : Prop where
  len : ∀ i, i ≤ n → (R i).length = i
  rise : ∀ i, i ≤ n → Rise n (R i)
  betw : ∀ i, i < n → Betw (R i) (R (i + 1))
  last : R n = rw1 n fun i => (i : Int)
theorem hc_all {n j : Nat} (h : j ≤ n) : hc (rw1 n fun i => (i : Int)) j = j := by
  induction n with
  | zero => have : j = 0 := by omega
            subst this; rfl
  | succ n ih =>
    have e : hc (rw1 (n + 1) fun i => (i : Int)) j = hc (rw1 n fun i => (i : Int)) j + if (n : Int) < (j : Int) then 1 else 0 := by
      rw [rw1_succ]; unfold hc; rw [List.filter_append, List.length_append]
      by_cases h : (n : Int) < (j : Int) <;> simp [h]
    rw [e]
    by_cases hj : j ≤ n
    · rw [ih hj, if_neg (by omega)]; omega
    · have : j = n + 1 := by omega
      subst this
      have hr : Rise n (rw1 n fun i => (i : Int)) := by
        refine ⟨?_, fun c hcm => ?_⟩
        · unfold rw1
          rw [List.pairwise_map]
          exact List.pairwise_lt_range.imp fun h => by omega
        · obtain ⟨i, hi, rfl⟩ := rw1_mem hcm; omega
      rw [if_pos (by omega)]
      have : ∀ m, n ≤ m → hc (rw1 n fun i => (i : Int)) m = n := by
        intro m hm
        unfold hc
        rw [List.filter_eq_self.mpr, rw1_len]
        intro c hcm
        obtain ⟨i, hi, rfl⟩ := rw1_mem hcm
        simp; omega
      rw [this (n + 1) (by omega)]; omega
theorem Tri.ht {n : Nat} {R : Nat → List Int} (T : Tri n R) : HT n fun i j => hc (R i) j := by
  refine ⟨fun j hj => ?_, fun i hi => hc_zero (T.rise i hi), fun j hj => ?_, fun i hi => ?_, fun i j hi hj => ?_, fun i j hi hj => betw_step (T.betw i hi)⟩
  · have := T.len 0 (by omega)
    show hc (R 0) j = 0
    rw [List.length_eq_zero_iff.mp this]; rfl
  · show hc (R n) j = j
    rw [T.last, hc_all hj]
  · show hc (R i) n = i
    rw [hc_full (T.rise i hi), T.len i hi]
  · show 0 ≤ hc (R i) (j + 1) - hc (R i) j ∧ _
    rw [hc_step (T.rise i hi).1]
    split <;> omega
end LW
set_option Elab.async false
set_option linter.all false
set_option maxRecDepth 100000
namespace LW
open PySem PySem.Spec L2 TV
def lo (h : Nat → Nat → Int) (i j : Nat) : Int := max (max (h (i - 1) j) (h i (j - 1))) (max (h (i + 1) j - 1) (h i (j + 1) - 1))
def hi (h : Nat → Nat → Int) (i j : Nat) : Int := min (min (h (i - 1) j + 1) (h i (j - 1) + 1)) (min (h (i + 1) j) (h i (j + 1)))
def Inn (n i j : Nat) : Prop := 0 < i ∧ i < n ∧ 0 < j ∧ j < n
instance {n i j : Nat} : Decidable (Inn n i j) := by unfold Inn; exact inferInstance
theorem lohi {n : Nat} {h : Nat → Nat → Int} (H : HT n h) {i j : Nat} (c : Inn n i j) : lo h i j ≤ h i j ∧ h i j ≤ hi h i j ∧ hi h i j ≤ lo h i j + 1 := by
  obtain ⟨c1, c2, c3, c4⟩ := c
  obtain ⟨a, rfl⟩ : ∃ a, i = a + 1 := ⟨i - 1, by omega⟩
  obtain ⟨b, rfl⟩ : ∃ b, j = b + 1 := ⟨j - 1, by omega⟩
  have h1 := H.dc a (b + 1) (by omega) (by omega)
  have h2 := H.dr (a + 1) b (by omega) (by omega)
  have h3 := H.dc (a + 1) (b + 1) (by omega) (by omega)
  have h4 := H.dr (a + 1) (b + 1) (by omega) (by omega)
  unfold lo hi
  simp only [Nat.add_sub_cancel]
  omega
def half (n r : Nat) (h : Nat → Nat → Int) (i j : Nat) : Int := if Inn n i j ∧ (i + j) % 2 = r then lo h i j + hi h i j - h i j else h i j
/-- alike on the table -/
def Eqv (n : Nat) (h g : Nat → Nat → Int) : Prop := ∀ i j, i ≤ n → j ≤ n → h i j = g i j
theorem Eqv.ht {n : Nat} {h g : Nat → Nat → Int} (e : Eqv n h g) : ht n h = ht n g :=
  tab_congr fun i j hi hj => e i j (by omega) (by omega)
def rnd (n r : Nat) (h : Nat → Nat → Int) : Nat → Nat → Int := half n (1 - r) (half n r h)
theorem Eqv.trans {n : Nat} {h g k : Nat → Nat → Int} (a : Eqv n h g) (b : Eqv n g k) : Eqv n h k := fun i j hi hj => (a i j hi hj).trans (b i j hi hj)
theorem Eqv.symm {n : Nat} {h g : Nat → Nat → Int} (a : Eqv n h g) : Eqv n g h := fun i j hi hj => (a i j hi hj).symm
theorem Eqv.rfl {n : Nat} {h : Nat → Nat → Int} : Eqv n h h := fun i j hi hj => Eq.refl _
/-- m rounds -/
def its (n r : Nat) (h : Nat → Nat → Int) : Nat → (Nat → Nat → Int)
  | 0 => h
  | m + 1 => rnd n r (its n r h m)
/-- the least number of rounds behind which it is there again -/
structure Per (n r : Nat) (h : Nat → Nat → Int) (m : Nat) : Prop where
  pos : 1 ≤ m
  eq : Eqv n (its n r h m) h
  least : ∀ k, 1 ≤ k → k < m → ¬ Eqv n (its n r h k) h
theorem Per.uniq {n r : Nat} {h : Nat → Nat → Int} {m k : Nat} (a : Per n r h m) (b : Per n r h k) : m = k := by
  rcases Nat.lt_trichotomy m k with h1 | h1 | h1
  · exact absurd a.eq (b.least m a.pos h1)
  · exact h1
  · exact absurd b.eq (a.least k b.pos h1)
theorem Per.of {n r r' : Nat} {h g : Nat → Nat → Int} {m : Nat} (a : Per n r h m) (e : ∀ k, Eqv n (its n r h k) h ↔ Eqv n (its n r' g k) g) : Per n r' g m :=
  ⟨a.pos, (e m).mp a.eq, fun k h1 h2 h3 => a.least k h1 h2 ((e k).mpr h3)⟩
end LW
set_option Elab.async false
set_option linter.all false
set_option maxRecDepth 100000
set_option maxHeartbeats 0
noncomputable section
namespace LW
open PySem PySem.Spec PyProof.Rows L2 TV
def u__law_mixed : Sl := [.un, .un, .un]
def b__law_mixed : SS := sSeq (postN (fgS [0, 1]) (sSet true 2 (eBin gMod (eBin gAdd (eBin gAdd (eBin gMul (eBin gMod (eAuto 0) (eC (.int 2147483647))) (eC (.int 48271))) (eBin gMul (eAuto 1) (eC (.int 69621)))) (eC (.int 1048583))) (eC (.int 2147483629))))) (sSeq (sSet true 2 (eBin gMod (eBin gMul (eAuto 2) (eAuto 2)) (eC (.int 2147483587)))) (postR (fgS [0, 1, 2]) (sRet (eBin gMod (eBin gMul (eAuto 2) (eBin gAdd (eAuto 2) (eC (.int 2)))) (eC (.int 2147483579))))))
def m__law_mixed : Fn := mkFn [false, false] 3 b__law_mixed
def u__law_cell : Sl := [.un, .un, .un, .un, .un]
def i1__law_cell : SS := postN (fgS [0]) (sIf (eB (eBin gLt (eAuto 1) (eBlt (one gLen) (aVal (eAuto 0) (aNil))))) (postN (fgS [0]) (sSet true 2 (eBin gIx (eAuto 0) (eAuto 1)))) (sNil))
def l2__law_cell : SS := postN (fgS [4]) (sSet false 3 (eBin gAdd (eBin gMul (eAuto 3) (eC (.int 2147483579))) (eCallF [0, 1, 2, 3, 4] [false, false] m__law_mixed (aArg (eAuto 2) (aArg (eBin gAdd (eBin gAdd (eBin gMul (eC (.int 7)) (eAuto 1)) (eBin gMul (eC (.int 100)) (eAuto 4))) (eBin gMul (eAuto 4) (eAuto 4))) (aNil))))))
def b__law_cell : SS := sSeq (sSet true 2 (eC (.int 0))) (sSeq (i1__law_cell) (sSeq (sIf (eB (eBin gGe (eAuto 2) (eBin gPow (eC (.int 10)) (eC (.int 18))))) (postR (fgS [0, 1, 2, 3, 4]) (sRet (eBin gMod (eBin gSub (eAuto 2) (eBin gPow (eC (.int 10)) (eC (.int 18)))) (eBin gMul (eBin gMul (eBin gMul (eBin gPow (eC (.int 10)) (eC (.int 60))) (eBin gPow (eC (.int 10)) (eC (.int 60)))) (eBin gPow (eC (.int 10)) (eC (.int 60)))) (eBin gPow (eC (.int 10)) (eC (.int 60))))))) (sNil)) (sSeq (sSet false 3 (eC (.int 0))) (sSeq (postN (fgS [1, 2]) (sFor (iRg rg1 (aVal (eC (.int 24)) (aNil))) (gN 4) (l2__law_cell))) (postR (fgS [0, 1, 2, 3, 4]) (sRet (eMv 3)))))))
def m__law_cell : Fn := mkFn [false, false] 5 b__law_cell
def u__law_take : Sl := [.un, .un, .un]
def b__law_take : SS := pre (shS [0]) (sSeq (sSet false 2 (eBin gMod (eBin gIx (eVar 0) (eC (.int 0))) (eAuto 1))) (sSeq (postN (fgS [1]) (sPut1 false 0 (eBin gDiv (eBin gIx (eVar 0) (eC (.int 0))) (eAuto 1)) (eC (.int 0)))) (postR (fgS [1, 2]) (postR (shS [0]) (sRet (eMv 2))))))
def m__law_take : Fn := mkFn [true, false] 3 b__law_take
def u__law_floor : Sl := [.un, .un, .un, .un, .un, .un, .un, .un, .un, .un]
def w4__law_floor : Sl → R Sl Bool := eB (eBin gGt (eBlt (one gLen) (aVal (eBin gIx (eVar 2) (eC (.int 0))) (aNil))) (eC (.int 1)))
def x1__law_floor : Sl → R Sl Bool := tfAnd (eB (eBin gNe (eVar 5) (eC (eL .ow .lst T.int [])))) (eB (eBin gEq (eBin gIx (eVar 5) (eUn gNeg (eC (.int 1)))) (eAuto 6)))
def i2__law_floor : SS := postN (fgS [6]) (sIf (x1__law_floor) (postN (fgS [6]) (sSet true 8 (eBin gAdd (eMv 6) (eC (.int 1))))) (sNil))
def l3__law_floor : SS := sSeq (sSet true 8 (eAuto 6)) (sSeq (i2__law_floor) (postN (fgS [7, 8]) (postN (shS [0]) (pre (hdS [0]) (sMeth 5 (aVal (eBin gAdd (eAuto 8) (eCallN [true, false] m__law_take (aRef 0 (aArg (eBin gAdd (eBin gSub (eAuto 7) (eAuto 8)) (eC (.int 1))) (aNil))))) (aNil)) stApp)))))
def l5__law_floor : SS := sSeq (sSet false 5 (eC (eL .ow .lst T.int []))) (sSeq (sFor (iArgs zipT (aArg (eBin gIx (eVar 2) (eC (.int 0))) (aArg (eSl (eBin gIx (eVar 2) (eC (.int 0))) (oSome (eC (.int 1))) (oNone)) (aNil)))) (gTp 2 (gCons (gN 6) (gCons (gN 7) (gNil)))) (l3__law_floor)) (postN (fgS [5]) (sMeth 2 (aVal (eC (.int 0)) (aVal (eFr (eMv 5)) (aNil))) stIns)))
def e6__law_floor : ES := eBin gSub (eBlt (one gInt1) (aVal (eBin (gInF false) (eAuto 9) (eVar 5)) (aNil))) (eBlt (one gInt1) (aVal (eBin (gInF false) (eAuto 9) (eAuto 4)) (aNil)))
def l7__law_floor : SS := sSeq (postN (fgS [4]) (sMeth 3 (aVal (eLc (iRg rg1 (aVal (eAuto 1) (aNil))) (gN 9) (tOk) (e6__law_floor) [9]) (aNil)) stApp)) (postN (fgS [5]) (sSet true 4 (eMv 5)))
def b__law_floor : SS := pre (shS [0]) (sSeq (sSet false 2 (eLst (aVal (eFr (eLsRg1 (eAuto 1))) (aNil)))) (sSeq (sWhile 1000 (w4__law_floor) (l5__law_floor)) (sSeq (sSet false 3 (eC (eL .ow .lst (eL .ow .lst T.int) []))) (sSeq (sSet true 4 (eC (eL .ow .lst T.int []))) (sSeq (postN (fgS [1, 2, 4]) (sForO 2 (gN 5) (l7__law_floor))) (postR (fgS [1, 2, 3, 4, 5, 6, 7, 8, 9]) (postR (shS [0]) (sRet (eMv 3)))))))))
def m__law_floor : Fn := mkFn [true, false] 10 b__law_floor
def u__law_heights : Sl := [.un, .un, .un, .un]
def e1__law_heights : ES := eBin gAdd (eBin gIx (eBin gIx (eVar 1) (eUn gNeg (eC (.int 1)))) (eAuto 3)) (eBlt (one gSum) (aVal (eSl (eAuto 2) (oNone) (oSome (eAuto 3))) (aNil)))
def l2__law_heights : SS := postN (fgS [2]) (sMeth 1 (aVal (eLc (iRg rg1 (aVal (eBin gAdd (eBlt (one gLen) (aVal (eAuto 0) (aNil))) (eC (.int 1))) (aNil))) (gN 3) (tOk) (e1__law_heights) [3]) (aNil)) stApp)
def b__law_heights : SS := sSeq (sSet false 1 (eLst (aVal (eBin gMul (eLst (aVal (eC (.int 0)) (aNil))) (eBin gAdd (eBlt (one gLen) (aVal (eAuto 0) (aNil))) (eC (.int 1)))) (aNil)))) (sSeq (postN (fgS [0]) (sFor (iAny2 (eAuto 0)) (gN 2) (l2__law_heights))) (postR (fgS [0, 1, 2, 3]) (sRet (eMv 1))))
def m__law_heights : Fn := mkFn [false] 4 b__law_heights
def u__law_can : Sl := [.un, .un, .un, .un, .un, .un, .un, .un]
def e1__law_can : ES := eBin (gInF false) (eBin gSub (eAuto 4) (eAuto 7)) (eTup (aVal (eC (.int 0)) (aVal (eC (.int 1)) (aNil))))
def e2__law_can : ES := eBin (gInF false) (eBin gSub (eAuto 7) (eAuto 4)) (eTup (aVal (eC (.int 0)) (aVal (eC (.int 1)) (aNil))))
def x3__law_can : ES := eAnd (eBlt (one gAll) (aVal (eLc (iAny2 (eAuto 5)) (gN 7) (tOk) (e1__law_can) [7]) (aNil))) (eBlt (one gAll) (aVal (eLc (iAny2 (eAuto 6)) (gN 7) (tOk) (e2__law_can) [7]) (aNil)))
def b__law_can : SS := sSeq (postN (fgS [3]) (sSet true 4 (eBin gAdd (eBin gIx (eBin gIx (eAuto 0) (eAuto 1)) (eAuto 2)) (eMv 3)))) (sSeq (sSet true 5 (eLst (aVal (eBin gIx (eBin gIx (eAuto 0) (eBin gSub (eAuto 1) (eC (.int 1)))) (eAuto 2)) (aVal (eBin gIx (eBin gIx (eAuto 0) (eAuto 1)) (eBin gSub (eAuto 2) (eC (.int 1)))) (aNil))))) (sSeq (postN (fgS [0, 1, 2]) (sSet true 6 (eLst (aVal (eBin gIx (eBin gIx (eAuto 0) (eBin gAdd (eAuto 1) (eC (.int 1)))) (eAuto 2)) (aVal (eBin gIx (eBin gIx (eAuto 0) (eAuto 1)) (eBin gAdd (eAuto 2) (eC (.int 1)))) (aNil)))))) (postR (fgS [0, 1, 2, 3, 4, 5, 6, 7]) (sRet (x3__law_can)))))
def m__law_can : Fn := mkFn [false, false, false, false] 8 b__law_can
def u__law_turns : Sl := [.un, .un, .un, .un, .un]
def t1__law_turns : Sl → R Sl Bool := eB (eCallM [false, false, false, false] m__law_can (aArg (eAuto 0) (aArg (eAuto 2) (aArg (eAuto 3) (aArg (eAuto 4) (aNil))))))
def e2__law_turns : ES := eTup (aVal (eAuto 2) (aVal (eAuto 3) (aVal (eMv 4) (aNil))))
def l3__law_turns : SS := postN (fgS [3]) (sSet false 1 (eBin gAdd (eAuto 1) (eLc (iAny2 (eTup (aVal (eBin gSub (eC (.int 0)) (eC (.int 1))) (aVal (eC (.int 1)) (aNil))))) (gN 4) (t1__law_turns) (e2__law_turns) [4])))
def l4__law_turns : SS := postN (fgS [2]) (sFor (iRg rg2 (aVal (eC (.int 1)) (aVal (eBin gSub (eBlt (one gLen) (aVal (eAuto 0) (aNil))) (eC (.int 1))) (aNil)))) (gN 3) (l3__law_turns))
def b__law_turns : SS := sSeq (sSet false 1 (eC (eL .ow .lst (eP3 .fz T.int T.int T.int) []))) (sSeq (postN (fgS [0]) (sFor (iRg rg2 (aVal (eC (.int 1)) (aVal (eBin gSub (eBlt (one gLen) (aVal (eAuto 0) (aNil))) (eC (.int 1))) (aNil)))) (gN 2) (l4__law_turns))) (postR (fgS [0, 1, 2, 3, 4]) (sRet (eMv 1))))
def m__law_turns : Fn := mkFn [false] 5 b__law_turns
def u_is_number : Sl := [.un]
def b_is_number : SS := postR (fgS [0]) (sRet (eAnd (eIsi "int" (eAuto 0)) (eNot (eIsi "bool" (eAuto 0)))))
def m_is_number : Fn := mkFn [false] 1 b_is_number
def u_is_from : Sl := [.un, .un, .un]
def b_is_from : SS := postR (fgS [0, 1, 2]) (sRet (eAnd (eCallF [0, 1, 2] [false] m_is_number (aArg (eAuto 0) (aNil))) (eChain gLe gLe (eAuto 1) (eAuto 0) (eAuto 2))))
def m_is_from : Fn := mkFn [false, false, false] 3 b_is_from
def u_is_size : Sl := [.un]
def b_is_size : SS := postR (fgS [0]) (sRet (eCallF [0] [false, false, false] m_is_from (aArg (eAuto 0) (aArg (eC (.int 1)) (aArg (eC (.int 12)) (aNil))))))
def m_is_size : Fn := mkFn [false] 1 b_is_size
def u_takes_turns : Sl := [.un, .un, .un]
def l1_takes_turns : SS := sSeq (postN (fgS [2]) (sSet true 1 (eBin gAdd (eAuto 1) (eMv 2)))) (sIf (tfNot (eB (eChain gLe gLe (eC (.int 0)) (eAuto 1) (eC (.int 1))))) (postR (fgS [0, 1, 2]) (sRet (eC (.bl false)))) (sNil))
def b_takes_turns : SS := sSeq (sSet true 1 (eC (.int 0))) (sSeq (postN (fgS [0]) (sFor (iAny2 (eMv 0)) (gN 2) (l1_takes_turns))) (postR (fgS [0, 1, 2]) (sRet (eBin gEq (eAuto 1) (eC (.int 1))))))
def m_takes_turns : Fn := mkFn [false] 3 b_takes_turns
def u_column_of : Sl := [.un, .un, .un]
def e1_column_of : ES := eBin gIx (eAuto 2) (eAuto 1)
def b_column_of : SS := postR (fgS [0, 1, 2]) (sRet (eLc (iAny2 (eAuto 0)) (gN 2) (tOk) (e1_column_of) [2]))
def m_column_of : Fn := mkFn [false, false] 3 b_column_of
def u_is_floor : Sl := [.un, .un, .un, .un]
def e1_is_floor : ES := eCallM [false, false, false] m_is_from (aArg (eAuto 3) (aArg (eUn gNeg (eC (.int 1))) (aArg (eC (.int 1)) (aNil))))
def x2_is_floor : Sl → R Sl Bool := tfOr (tfNot (eB (eIsi "list" (eAuto 1)))) (tfOr (eB (eBin gNe (eBlt (one gLen) (aVal (eAuto 1) (aNil))) (eBlt (one gLen) (aVal (eAuto 0) (aNil))))) (tfNot (eB (eBlt (one gAll) (aVal (eLc (iAny2 (eAuto 1)) (gN 3) (tOk) (e1_is_floor) [3]) (aNil))))))
def l3_is_floor : SS := postN (fgS [1]) (sIf (x2_is_floor) (postR (fgS [0, 1, 2, 3]) (sRet (eC (.bl false)))) (sNil))
def e4_is_floor : ES := eCallM [false] m_takes_turns (aArg (eAuto 1) (aNil))
def e5_is_floor : ES := eCallM [false] m_takes_turns (aArg (eCallM [false, false] m_column_of (aArg (eAuto 0) (aArg (eAuto 2) (aNil)))) (aNil))
def b_is_floor : SS := sSeq (sIf (tfOr (tfNot (eB (eIsi "list" (eAuto 0)))) (tfNot (eB (eCallF [0, 1, 2, 3] [false] m_is_size (aArg (eBlt (one gLen) (aVal (eAuto 0) (aNil))) (aNil)))))) (postR (fgS [0, 1, 2, 3]) (sRet (eC (.bl false)))) (sNil)) (sSeq (sFor (iAny2 (eAuto 0)) (gN 1) (l3_is_floor)) (sSeq (sIf (tfNot (eB (eBlt (one gAll) (aVal (eLc (iAny2 (eAuto 0)) (gN 1) (tOk) (e4_is_floor) [1]) (aNil))))) (postR (fgS [0, 1, 2, 3]) (sRet (eC (.bl false)))) (sNil)) (postR (fgS [0, 1, 2, 3]) (sRet (eBlt (one gAll) (aVal (eLc (iRg rg1 (aVal (eBlt (one gLen) (aVal (eAuto 0) (aNil))) (aNil))) (gN 2) (tOk) (e5_is_floor) [2]) (aNil)))))))
def m_is_floor : Fn := mkFn [false] 4 b_is_floor
def u_look_at_floor : Sl := [.un]
def b_look_at_floor : SS := postN (fgS [0]) (sIf (tfNot (eB (eCallF [0] [false] m_is_floor (aArg (eAuto 0) (aNil))))) ((fun _ => .bad)) (sNil))
def m_look_at_floor : Fn := mkFn [false] 1 b_look_at_floor
def u_heights_by : Sl := [.un, .un, .un, .un, .un, .un, .un]
def l1_heights_by : SS := sSeq (postN (fgS [5]) (sSet true 4 (eBin gAdd (eAuto 4) (eMv 5)))) (postN (fgS [6]) (sMeth 3 (aVal (eBin gAdd (eMv 6) (eAuto 4)) (aNil)) stApp))
def l2_heights_by : SS := sSeq (sSet false 3 (eLst (aVal (eC (.int 0)) (aNil)))) (sSeq (sSet true 4 (eC (.int 0))) (sSeq (postN (fgS [2, 4]) (sFor (iArgs zipT (aArg (eAuto 2) (aArg (eSl (eBin gIx (eVar 1) (eUn gNeg (eC (.int 1)))) (oSome (eC (.int 1))) (oNone)) (aNil)))) (gTp 2 (gCons (gN 5) (gCons (gN 6) (gNil)))) (l1_heights_by))) (postN (fgS [3]) (sMeth 1 (aVal (eMv 3) (aNil)) stApp))))
def b_heights_by : SS := sSeq (sSet false 1 (eLst (aVal (eBin gMul (eLst (aVal (eC (.int 0)) (aNil))) (eBin gAdd (eBlt (one gLen) (aVal (eAuto 0) (aNil))) (eC (.int 1)))) (aNil)))) (sSeq (postN (fgS [0]) (sFor (iAny2 (eMv 0)) (gN 2) (l2_heights_by))) (postR (fgS [0, 1, 2, 3, 4, 5, 6]) (sRet (eMv 1))))
def m_heights_by : Fn := mkFn [false] 7 b_heights_by
def u_can_rise : Sl := [.un, .un, .un, .un, .un, .un, .un]
def l1_can_rise : SS := postN (fgS [5]) (sIf (tfNot (eB (eChain gLe gLe (eC (.int 0)) (eBin gSub (eAuto 4) (eAuto 5)) (eC (.int 1))))) (postR (fgS [0, 1, 2, 3, 4, 5, 6]) (sRet (eC (.bl false)))) (sNil))
def l2_can_rise : SS := postN (fgS [6]) (sIf (tfNot (eB (eChain gLe gLe (eC (.int 0)) (eBin gSub (eAuto 6) (eAuto 4)) (eC (.int 1))))) (postR (fgS [0, 1, 2, 3, 4, 5, 6]) (sRet (eC (.bl false)))) (sNil))
def b_can_rise : SS := sSeq (postN (fgS [3]) (sSet true 4 (eBin gAdd (eBin gIx (eBin gIx (eAuto 0) (eAuto 1)) (eAuto 2)) (eMv 3)))) (sSeq (sFor (iAny2 (eTup (aVal (eBin gIx (eBin gIx (eAuto 0) (eBin gSub (eAuto 1) (eC (.int 1)))) (eAuto 2)) (aVal (eBin gIx (eBin gIx (eAuto 0) (eAuto 1)) (eBin gSub (eAuto 2) (eC (.int 1)))) (aNil))))) (gN 5) (l1_can_rise)) (sSeq (postN (fgS [0, 1, 2, 4]) (sFor (iAny2 (eTup (aVal (eBin gIx (eBin gIx (eAuto 0) (eBin gAdd (eAuto 1) (eC (.int 1)))) (eAuto 2)) (aVal (eBin gIx (eBin gIx (eAuto 0) (eAuto 1)) (eBin gAdd (eAuto 2) (eC (.int 1)))) (aNil))))) (gN 6) (l2_can_rise))) (postR (fgS [0, 1, 2, 3, 4, 5, 6]) (sRet (eC (.bl true))))))
def m_can_rise : Fn := mkFn [false, false, false, false] 7 b_can_rise
def u_can_turn : Sl := [.un, .un, .un, .un]
def b_can_turn : SS := postR (fgS [0, 1, 2, 3]) (sRet (eCallF [0, 1, 2, 3] [false, false, false, false] m_can_rise (aArg (eAuto 0) (aArg (eAuto 1) (aArg (eAuto 2) (aArg (eAuto 3) (aNil)))))))
def m_can_turn : Fn := mkFn [false, false, false, false] 4 b_can_turn
def u_turns_by : Sl := [.un, .un, .un, .un, .un]
def t1_turns_by : Sl → R Sl Bool := eB (eCallM [false, false, false, false] m_can_turn (aArg (eAuto 0) (aArg (eAuto 2) (aArg (eAuto 3) (aArg (eAuto 4) (aNil))))))
def e2_turns_by : ES := eTup (aVal (eAuto 2) (aVal (eAuto 3) (aVal (eMv 4) (aNil))))
def l3_turns_by : SS := postN (fgS [3]) (sSet false 1 (eBin gAdd (eAuto 1) (eLc (iAny2 (eTup (aVal (eUn gNeg (eC (.int 1))) (aVal (eC (.int 1)) (aNil))))) (gN 4) (t1_turns_by) (e2_turns_by) [4])))
def l4_turns_by : SS := postN (fgS [2]) (sFor (iRg rg2 (aVal (eC (.int 1)) (aVal (eBin gSub (eBlt (one gLen) (aVal (eAuto 0) (aNil))) (eC (.int 1))) (aNil)))) (gN 3) (l3_turns_by))
def b_turns_by : SS := sSeq (sSet false 1 (eC (eL .ow .lst (eP3 .fz T.int T.int T.int) []))) (sSeq (postN (fgS [0]) (sFor (iRg rg2 (aVal (eC (.int 1)) (aVal (eBin gSub (eBlt (one gLen) (aVal (eAuto 0) (aNil))) (eC (.int 1))) (aNil)))) (gN 2) (l4_turns_by))) (postR (fgS [0, 1, 2, 3, 4]) (sRet (eMv 1))))
def m_turns_by : Fn := mkFn [false] 5 b_turns_by
def u_turns_of : Sl := [.un]
def b_turns_of : SS := sSeq (sExpr (eCallF [0] [false] m_look_at_floor (aArg (eAuto 0) (aNil)))) (postR (fgS [0]) (sRet (eCallF [0] [false] m_turns_by (aArg (eCallF [0] [false] m_heights_by (aArg (eAuto 0) (aNil))) (aNil)))))
def m_turns_of : Fn := mkFn [false] 1 b_turns_of
def u__law_whole : Sl := [.un]
def b__law_whole : SS := postR (fgS [0]) (sRet (eAnd (eIsi "int" (eAuto 0)) (eNot (eIsi "bool" (eAuto 0)))))
def m__law_whole : Fn := mkFn [false] 1 b__law_whole
def u__law_good : Sl := [.un, .un, .un, .un, .un, .un, .un, .un]
def e1__law_good : ES := eBlt (one gListOf) (aVal (eMv 6) (aNil))
def e2__law_good : ES := eCallM [false] m__law_whole (aArg (eAuto 7) (aNil))
def l3__law_good : SS := postN (fgS [5]) (sIf (tfOr (tfNot (eB (eIsi "tuple" (eAuto 5)))) (tfNot (eB (eBlt (one gAll) (aVal (eLc (iAny2 (eAuto 5)) (gN 7) (tOk) (e2__law_good) [7]) (aNil)))))) (postR (fgS [0, 1, 2, 3, 4, 5, 6, 7]) (sRet (eC (.bl false)))) (sNil))
def e4__law_good : ES := eSl (eAuto 5) (oNone) (oSome (eC (.int 2)))
def l5__law_good : SS := sSeq (postN (fgS [3]) (sSet false 4 (eCallF [0, 1, 2, 3, 4, 5, 6, 7] [false] m_turns_of (aArg (eAuto 1) (aNil))))) (sSeq (sIf (tfOr (tfNot (eB (eIsi "list" (eVar 4)))) (tfOr (eB (eBin gNe (eVar 4) (eAuto 2))) (eB (eBin gNe (eAuto 1) (eAuto 0))))) (postR (fgS [0, 1, 2, 3, 4, 5, 6, 7]) (sRet (eC (.bl false)))) (sNil)) (sSeq (sForH 4 (gN 5) (l3__law_good)) (sSeq (sIf (eB (eBin gNe (eLenSet (eLc (iAny2 (eVar 4)) (gN 5) (tOk) (e4__law_good) [5])) (eBlt (one gLen) (aVal (eVar 4) (aNil))))) (postR (fgS [0, 1, 2, 3, 4, 5, 6, 7]) (sRet (eC (.bl false)))) (sNil)) (sSeq (sMeth 4 (aVal (eTup (aVal (eC (.int 0)) (aVal (eC (.int 0)) (aVal (eC (.int 1)) (aNil))))) (aNil)) stApp) (postN (fgS [4]) (sMeth 4 (aVal (eC (.int 0)) (aNil)) stPopAt))))))
def b__law_good : SS := sSeq (sSet true 1 (eLc (iAny2 (eAuto 0)) (gN 6) (tOk) (e1__law_good) [6])) (sSeq (sSet true 2 (eCallF [0, 1, 2, 3, 4, 5, 6, 7] [false] m__law_turns (aArg (eCallF [0, 1, 2, 3, 4, 5, 6, 7] [false] m__law_heights (aArg (eAuto 0) (aNil))) (aNil)))) (sSeq (postN (fgS [2]) (sFor (iRg rg1 (aVal (eC (.int 2)) (aNil))) (gN 3) (l5__law_good))) (postR (fgS [0, 1, 2, 3, 4, 5, 6, 7]) (sRet (eBin gEq (eAuto 1) (eAuto 0))))))
def m__law_good : Fn := mkFn [false] 8 b__law_good
def u_law : Sl := [.un, .un, .un, .un, .un]
def l1_law : SS := sSeq (postN (fgS [2]) (sSet false 3 (eLst (aVal (eCallF [0, 1, 2, 3, 4] [false, false] m__law_cell (aArg (eAuto 0) (aArg (eAuto 2) (aNil)))) (aNil))))) (postN (fgS [3]) (postN (shS [3]) (pre (hdS [3]) (sMeth 1 (aVal (eCallF [0, 1, 2, 3, 4] [true, false] m__law_floor (aRef 3 (aArg (eBin gAdd (eC (.int 1)) (eCallF [0, 1, 2, 3, 4] [true, false] m__law_take (aRef 3 (aArg (eC (.int 12)) (aNil))))) (aNil)))) (aNil)) stApp))))
def e2_law : ES := eCallM [false] m__law_good (aArg (eAuto 4) (aNil))
def b_law : SS := sSeq (sSet false 1 (eLst (aVal (eLst (aVal (eLst (aVal (eC (.int 1)) (aNil))) (aNil))) (aNil)))) (sSeq (postN (fgS [0]) (sFor (iRg rg1 (aVal (eC (.int 4)) (aNil))) (gN 2) (l1_law))) (postR (fgS [0, 1, 2, 3, 4]) (sRet (eBlt (one gAll) (aVal (eLc (iAny2 (eBin gAdd (eVar 1) (eSl (eVar 1) (oSome (eC (.int 1))) (oSome (eC (.int 2)))))) (gN 4) (tOk) (e2_law) [4]) (aNil))))))
def m_law : Fn := mkFn [false] 5 b_law
end LW
set_option Elab.async false
set_option linter.all false
set_option maxRecDepth 100000
set_option maxHeartbeats 0
namespace LW
open PySem PySem.Spec L2 TV
local macro_rules | `(tactic| simp_arith only [$ls,*]) => `(tactic| simp -implicitDefEqProofs only [$ls,*, getE0, getES, setE0, setES, pinE_un, pinE_vis, pinE_hid, eC, eVar_eq, eMv_eq, eAuto_eq, eBin, eUn, eBlt, eB, eNot, eAnd_eq, eOr_eq, tfAnd, tfOr, tfNot, blM_bl, iteAndT, iteOrT, iteAndB, iteOrB, eChain_eq, chK_eq, gLt, gLe, gGt, gGe, gCmp_int, valsOf_nil, valsOf_cons, omap_some, omap_none, obindS, bltS_eq, one_eq, two_eq, optK_some, optK_none, aNil, aVal, aArg, eLst, eTup, dispT_eq, len0, lenS1, size_eq, eCallM, masked_nil, masked_v, masked_r, callM_K, argsT_nil, argsT_v, argsT_r, hidT_eq, refsOf_nil, refsOf_v, refsOf_r, callK_ok, callK_bad, callK_e, emp_nil, emp_cons, outsTo0, outsTo1, setHid_eq, any_nil, any_cons, all_nil, all_cons, tn_v, tn_r, noFzL_nil, noFzL_cons, noLnL_nil, noLnL_cons, orF1, orT1, andT1, andF1, notT, notF, if_true, if_false, Bool.false_eq_true, id_eq, nd_map, ownT_eL, ownL_eq, sMeth_eq, k_app, k_ins, k_clear, k_pop, putS_eq, sPut1_eq, k_set, fzIfT, fzIfF, iAny2, or_none1, or_some1, iEnumS_eq, enum_map, iRg_eq, k_rg1, k_rg2, iArgs_eq, notOw_fz, notOw_ln, zip_map, gTp_eP2, gTp_eP3, gTp_eP4, gCons_eq, gNil_eq, gN_eq, turnL_eq, tnK_ok, gNext_ok, sFor_eq, endLc_k, eLc_eq, saveL_nil, saveL_cons, backL_nil, backL_cons, blank_nil, blank_cons, fgS_nil, fgS_cons, fg1_0, fg1_S, shS_nil, shS_cons, showS, hdS_nil, hdS_cons, hideS, outsL_nil, outsL_f, outsL_v, outsL_h, mkR_nextK, mkR_retK, mkR_brk, mkR_cont, mkR_bad, mkR_exc, mkR_bO, mkR_ite, mkR_kO, rP_top, bP_ok, bP_bad, bP_exc, bP_bind, bP_ite, bP_fin, ePopH_eq, k_last, bO_ok, bO_bad, bO_exc, bO_bind, bO_ite, bind_bO, bind_ok, bind_exc, bind_bad, bind_ite, kO_nx, kO_br, kO_ct, kO_rt, kO_bad, kO_exc, kO_bind, kO_ite, kO_seq, sSeq_eq, sqK_next, sqK_ret, sqK_brk, sqK_cont, sqK_bad, sqK_exc, sqK_bO, sqK_ite, sqK_kO, postN, nxK_next, nxK_ret, nxK_brk, nxK_cont, nxK_bad, nxK_exc, nxK_bO, nxK_ite, nxK_kO, postR, rtK_next, rtK_ret, rtK_bad, rtK_exc, rtK_bO, rtK_ite, pre_eq, sNil, sBreak, sCont, sExpr, sRet, sRetN, sIf, sSet, stoS, sAsg, sWhile, noLnE, noLn_non, noLn_ln, frzE, frz_non, loanE, loan_non, dgrE, dgr_non, noFzE, nrmE, nrm_non, nrm_ln, rootFz_int, rootFz_bl, rootFz_str, rootFz_non, rootFz_eL, rootFz_ln, rootFz_eP2, rootFz_eP3, rootFz_eP4, o_add, o_sub, o_mul, o_div, o_divM, o_mod, o_pow, o_neg, o_lt, o_le, o_gt, o_ge, o_eq, o_ne, o_eqS, o_neS, o_isN, o_notN, o_isN_e, o_notN_e, o_isN_non, o_notN_non, o_isB, o_notB, o_cat, o_catS, o_rep, o_ix, o_ixg, o_p2_0, o_p2_1, o_p3_0, o_p3_1, o_p3_2, o_p4_0, o_p4_1, o_p4_2, o_p4_3, seqOf_eL, seqOf_eLg, tupOf_eL, tupOf_eLg, itemsOf_eL, o_len, o_leng, o_lenS, o_listOf, o_listOfg, o_int_int, o_int_bl, o_abs, o_max2, o_min2, o_all, o_any, o_sum, o_maxL, o_minL, o_in, o_in_t2, o_in_t3, eSl, oNone, oSome, o_sl, eIsi, isi_int, isi_bl, isi_str, isi_eL, isi_eP2, isi_eP3, isi_eP4, kt1, kt2, kt3, kt4, kt5, kt6, kt7, kt8, kt9, kt10, kt11, kt12, kt13, kt14, kt15, kt16, kt17, kt18, kt19, kt20, kt21, kt22, kt23, kt24, kt25, kt26, kt27, kt28, kt29, kt30, opt_bl, eCallF, eCallN, exF_ok, exF_bad, exF_lift, exF_mut, exM_ok, exM_bad, exM_lift, exM_mut, eFr, endLc_kS, noLnS_un, noLnS_vis, noLnS_hid, tupOf_eP2, tupOf_eP3, tupOf_eP4, noLn_ln2, noLn_ln3, noLn_ln4, nrm_ln2, nrm_ln3, nrm_ln4, rootFz_ln2, rootFz_ln3, rootFz_ln4, dropLast_map, opt_some, eq_self, Nat.reduceAdd, Nat.reduceLeDiff, aRef, seqOf_owln, tupOf_owln, lsRg_eq, eLsRg1_eq, eLsRg2_eq, o_pickF, o_pickL, o_pickW, exM_bO, eCallD_eq, dK_rP, dK_ok, intsOf_nil, intsOf_cons, argsU_nil, argsU_v, three_eq, four_eq, o_max3, o_min4, sPut_eq, visT_eq, pVar_eq, pBin_eq, gII_add, gII_sub, k_set2, eSlS, nx_mut, nx_lift, sMethP_c, sMethP_0, k_app2i, k_pop2, k_clear2, o_inD, o_inD_t2, o_inD_t3, eBm_eq, tyOf_eL, tyOf_str, bmS_eq, o_index, o_sorted, o_repr, eCallE_eq, o_len_p2, o_len_p3, o_len_p4, sForO_eq, ownK_eL, sMethP2_c, sMethP2_0, k_app3i, k_pop3, k_clear3, rootFz_eQ2, o_q2_0, o_q2_1, isi_eQ2, noLn_lnq2, nrm_lnq2, rootFz_lnq2, o_len_q2, o_inS, o_dget, o_din, sPutD_eq, putD_eq, k_putD, eD_items, rootFz_eD, rootFz_lnD, noLn_lnD, nrm_lnD, eDGet2_eq, isDA_eD, isDT_eD, o_dget2, o_sortedD, gUl2, gUl3, gNext_nb, un2_nb, un3_nb, eOpt_eq, mkO_some, eUno_eq, uno_eO, rootFz_eO, eLn_eq, loan_lst0, k_popAt, eLcK_eq, keysF_eD, gT2_0, gT2_1, gT3_0, gT3_1, gT3_2, k_rg3, o_inSl, o_inSg, o_eqLS, o_neLS, o_p2v, o_p3v, zip_map1, zip_map2, mkO_non, eO_none, eBadE_eq, o_count, o_ixS, sMethP_e, sMethP2_e, k_app2e, k_app3e, o_eqLO, o_neLO, o_eqOL, o_neOL, o_tupTD, o_mulTD, eIsE_eq, o_isE, o_isEo, sRaise_eq, rootFz_eE, eCX_eq, eCXL_eq, mkX_e, mkX_non, mkXL_e, mkXL_nil, eNar_eq, nar_int, nar_str, nar_lst, nar_LI, nar_LLI, isi_X_int, isi_X_bool, isi_X_list, isi_X_tuple, isi_X_str, o_lenX, it_X, o_ixX, o_eqX, o_neX, o_inX, o_reprX, isN_X, notN_X, rootFz_X, frz_mkTup, o_tupL, noLn_mkNL, frz_mkTL, tupOf_eLt, o_lent, isi_eLt, o_isBX, o_notBX, sPNar_eq, pnK_next, pnK_ret, pnK_brk, pnK_cont, pnK_exc, pnK_bad, pnK_ite, pnK_bO, pnK_kO, narS, for_enumX, lc_enumX, mkX_tupL, o_reprXL, mkTD, o_strI, eSel, okI_ok, selE_nil, selE_cons, nar_LP3, nar_LP4, nar_LLP2, zip3_map, k_ext, o_join, o_split, eSlT_eq, o_slT, o_mulS, o_inS2, strK_str, iStrS_eq, iEnumT_eq, k_ext, o_tabS, o_tabI, o_tabIn, eLsRg3_eq, o_lsRd, sSwap_eq, intL_eq, intV_vis, k_swap, o_inRg, nar_P3, o_ltP2, o_ltP3, o_dictOf, sPopD1_eq, sPopD2_eq, popD_eq, k_popD, o_dne, o_minT, o_reprQ2, sLd_eq, isOLv_eL, sPar_eq, parV_two, zipX_map, for_zipX, lc_zipX, o_sortedT3, eLcO_eq, sForOZ_eq, zipO_eL, zipW_map, gT_eq, eCatT_eq, o_catTX, o_listOfP2, o_listOfP3, fzX_nil, fzX_cons, fzX1_0, fzX1_S, fzXT_X, fzXT_LXo, sPutX_eq, putX_eq, k_setX, nar_LP2, eIf, sRaiseF_eq, rzF_val, eXf_eq, o_xSel, o_xSelo, nar_P4, eLenSet_eq, o_lenSet, o_slP3])
local macro_rules | `(tactic| simp_arith) => `(tactic| simp only [getE0, getES, setE0, setES, pinE_un, pinE_vis, pinE_hid, eC, eVar_eq, eMv_eq, eAuto_eq, eBin, eUn, eBlt, eB, eNot, eAnd_eq, eOr_eq, tfAnd, tfOr, tfNot, blM_bl, iteAndT, iteOrT, iteAndB, iteOrB, eChain_eq, chK_eq, gLt, gLe, gGt, gGe, gCmp_int, valsOf_nil, valsOf_cons, omap_some, omap_none, obindS, bltS_eq, one_eq, two_eq, optK_some, optK_none, aNil, aVal, aArg, eLst, eTup, dispT_eq, len0, lenS1, size_eq, eCallM, masked_nil, masked_v, masked_r, callM_K, argsT_nil, argsT_v, argsT_r, hidT_eq, refsOf_nil, refsOf_v, refsOf_r, callK_ok, callK_bad, callK_e, emp_nil, emp_cons, outsTo0, outsTo1, setHid_eq, any_nil, any_cons, all_nil, all_cons, tn_v, tn_r, noFzL_nil, noFzL_cons, noLnL_nil, noLnL_cons, orF1, orT1, andT1, andF1, notT, notF, if_true, if_false, Bool.false_eq_true, id_eq, nd_map, ownT_eL, ownL_eq, sMeth_eq, k_app, k_ins, k_clear, k_pop, putS_eq, sPut1_eq, k_set, fzIfT, fzIfF, iAny2, or_none1, or_some1, iEnumS_eq, enum_map, iRg_eq, k_rg1, k_rg2, iArgs_eq, notOw_fz, notOw_ln, zip_map, gTp_eP2, gTp_eP3, gTp_eP4, gCons_eq, gNil_eq, gN_eq, turnL_eq, tnK_ok, gNext_ok, sFor_eq, endLc_k, eLc_eq, saveL_nil, saveL_cons, backL_nil, backL_cons, blank_nil, blank_cons, fgS_nil, fgS_cons, fg1_0, fg1_S, shS_nil, shS_cons, showS, hdS_nil, hdS_cons, hideS, outsL_nil, outsL_f, outsL_v, outsL_h, mkR_nextK, mkR_retK, mkR_brk, mkR_cont, mkR_bad, mkR_exc, mkR_bO, mkR_ite, mkR_kO, rP_top, bP_ok, bP_bad, bP_exc, bP_bind, bP_ite, bP_fin, ePopH_eq, k_last, bO_ok, bO_bad, bO_exc, bO_bind, bO_ite, bind_bO, bind_ok, bind_exc, bind_bad, bind_ite, kO_nx, kO_br, kO_ct, kO_rt, kO_bad, kO_exc, kO_bind, kO_ite, kO_seq, sSeq_eq, sqK_next, sqK_ret, sqK_brk, sqK_cont, sqK_bad, sqK_exc, sqK_bO, sqK_ite, sqK_kO, postN, nxK_next, nxK_ret, nxK_brk, nxK_cont, nxK_bad, nxK_exc, nxK_bO, nxK_ite, nxK_kO, postR, rtK_next, rtK_ret, rtK_bad, rtK_exc, rtK_bO, rtK_ite, pre_eq, sNil, sBreak, sCont, sExpr, sRet, sRetN, sIf, sSet, stoS, sAsg, sWhile, noLnE, noLn_non, noLn_ln, frzE, frz_non, loanE, loan_non, dgrE, dgr_non, noFzE, nrmE, nrm_non, nrm_ln, rootFz_int, rootFz_bl, rootFz_str, rootFz_non, rootFz_eL, rootFz_ln, rootFz_eP2, rootFz_eP3, rootFz_eP4, o_add, o_sub, o_mul, o_div, o_divM, o_mod, o_pow, o_neg, o_lt, o_le, o_gt, o_ge, o_eq, o_ne, o_eqS, o_neS, o_isN, o_notN, o_isN_e, o_notN_e, o_isN_non, o_notN_non, o_isB, o_notB, o_cat, o_catS, o_rep, o_ix, o_ixg, o_p2_0, o_p2_1, o_p3_0, o_p3_1, o_p3_2, o_p4_0, o_p4_1, o_p4_2, o_p4_3, seqOf_eL, seqOf_eLg, tupOf_eL, tupOf_eLg, itemsOf_eL, o_len, o_leng, o_lenS, o_listOf, o_listOfg, o_int_int, o_int_bl, o_abs, o_max2, o_min2, o_all, o_any, o_sum, o_maxL, o_minL, o_in, o_in_t2, o_in_t3, eSl, oNone, oSome, o_sl, eIsi, isi_int, isi_bl, isi_str, isi_eL, isi_eP2, isi_eP3, isi_eP4, kt1, kt2, kt3, kt4, kt5, kt6, kt7, kt8, kt9, kt10, kt11, kt12, kt13, kt14, kt15, kt16, kt17, kt18, kt19, kt20, kt21, kt22, kt23, kt24, kt25, kt26, kt27, kt28, kt29, kt30, opt_bl, eCallF, eCallN, exF_ok, exF_bad, exF_lift, exF_mut, exM_ok, exM_bad, exM_lift, exM_mut, eFr, endLc_kS, noLnS_un, noLnS_vis, noLnS_hid, tupOf_eP2, tupOf_eP3, tupOf_eP4, noLn_ln2, noLn_ln3, noLn_ln4, nrm_ln2, nrm_ln3, nrm_ln4, rootFz_ln2, rootFz_ln3, rootFz_ln4, dropLast_map, opt_some, eq_self, Nat.reduceAdd, Nat.reduceLeDiff, aRef, seqOf_owln, tupOf_owln, lsRg_eq, eLsRg1_eq, eLsRg2_eq, o_pickF, o_pickL, o_pickW, exM_bO, eCallD_eq, dK_rP, dK_ok, intsOf_nil, intsOf_cons, argsU_nil, argsU_v, three_eq, four_eq, o_max3, o_min4, sPut_eq, visT_eq, pVar_eq, pBin_eq, gII_add, gII_sub, k_set2, eSlS, nx_mut, nx_lift, sMethP_c, sMethP_0, k_app2i, k_pop2, k_clear2, o_inD, o_inD_t2, o_inD_t3, eBm_eq, tyOf_eL, tyOf_str, bmS_eq, o_index, o_sorted, o_repr, eCallE_eq, o_len_p2, o_len_p3, o_len_p4, sForO_eq, ownK_eL, sMethP2_c, sMethP2_0, k_app3i, k_pop3, k_clear3, rootFz_eQ2, o_q2_0, o_q2_1, isi_eQ2, noLn_lnq2, nrm_lnq2, rootFz_lnq2, o_len_q2, o_inS, o_dget, o_din, sPutD_eq, putD_eq, k_putD, eD_items, rootFz_eD, rootFz_lnD, noLn_lnD, nrm_lnD, eDGet2_eq, isDA_eD, isDT_eD, o_dget2, o_sortedD, gUl2, gUl3, gNext_nb, un2_nb, un3_nb, eOpt_eq, mkO_some, eUno_eq, uno_eO, rootFz_eO, eLn_eq, loan_lst0, k_popAt, eLcK_eq, keysF_eD, gT2_0, gT2_1, gT3_0, gT3_1, gT3_2, k_rg3, o_inSl, o_inSg, o_eqLS, o_neLS, o_p2v, o_p3v, zip_map1, zip_map2, mkO_non, eO_none, eBadE_eq, o_count, o_ixS, sMethP_e, sMethP2_e, k_app2e, k_app3e, o_eqLO, o_neLO, o_eqOL, o_neOL, o_tupTD, o_mulTD, eIsE_eq, o_isE, o_isEo, sRaise_eq, rootFz_eE, eCX_eq, eCXL_eq, mkX_e, mkX_non, mkXL_e, mkXL_nil, eNar_eq, nar_int, nar_str, nar_lst, nar_LI, nar_LLI, isi_X_int, isi_X_bool, isi_X_list, isi_X_tuple, isi_X_str, o_lenX, it_X, o_ixX, o_eqX, o_neX, o_inX, o_reprX, isN_X, notN_X, rootFz_X, frz_mkTup, o_tupL, noLn_mkNL, frz_mkTL, tupOf_eLt, o_lent, isi_eLt, o_isBX, o_notBX, sPNar_eq, pnK_next, pnK_ret, pnK_brk, pnK_cont, pnK_exc, pnK_bad, pnK_ite, pnK_bO, pnK_kO, narS, for_enumX, lc_enumX, mkX_tupL, o_reprXL, mkTD, o_strI, eSel, okI_ok, selE_nil, selE_cons, nar_LP3, nar_LP4, nar_LLP2, zip3_map, k_ext, o_join, o_split, eSlT_eq, o_slT, o_mulS, o_inS2, strK_str, iStrS_eq, iEnumT_eq, k_ext, o_tabS, o_tabI, o_tabIn, eLsRg3_eq, o_lsRd, sSwap_eq, intL_eq, intV_vis, k_swap, o_inRg, nar_P3, o_ltP2, o_ltP3, o_dictOf, sPopD1_eq, sPopD2_eq, popD_eq, k_popD, o_dne, o_minT, o_reprQ2, sLd_eq, isOLv_eL, sPar_eq, parV_two, zipX_map, for_zipX, lc_zipX, o_sortedT3, eLcO_eq, sForOZ_eq, zipO_eL, zipW_map, gT_eq, eCatT_eq, o_catTX, o_listOfP2, o_listOfP3, fzX_nil, fzX_cons, fzX1_0, fzX1_S, fzXT_X, fzXT_LXo, sPutX_eq, putX_eq, k_setX, nar_LP2, eIf, sRaiseF_eq, rzF_val, eXf_eq, o_xSel, o_xSelo, nar_P4, eLenSet_eq, o_lenSet, o_slP3])
def p__law_mixed (x0 : Int) (x1 : Int) : OF Int := O.top false (
  (modO x0 2147483647).bind fun v1 =>
  (mulO v1 48271).bind fun v2 =>
  (mulO x1 69621).bind fun v3 =>
  (modO ((v2 + v3) + 1048583) 2147483629).bind fun v4 =>
  (mulO v4 v4).bind fun v5 =>
  (modO v5 2147483587).bind fun v6 =>
  (mulO v6 (v6 + 2)).bind fun v7 =>
  (modO v7 2147483579).bind fun v8 =>
  O.ok v8)
theorem k__law_mixed (t0 : T) (t1 : T) : m__law_mixed [t0, t1] = mkR [false, false] (b__law_mixed [.vis false t0, .vis false t1, .un]) := rfl
theorem S__law_mixed (x0 : Int) (x1 : Int) : m__law_mixed [T.int x0, T.int x1] = rP T.int (fun _ => []) (p__law_mixed x0 x1) := by
  rw [k__law_mixed]
  simp_arith only [b__law_mixed, p__law_mixed, u__law_mixed]
def p_i1__law_cell (x0 : (List Int)) (x1 : Int) (x2 : Int) : O Int :=
  if (decide (x1 < (x0.length : Int))) = true then
  (ixO x0 x1).bind fun v1 =>
  O.ok v1
  else
  O.ok x2
theorem S_i1__law_cell (x0 : (List Int)) (x1 : Int) (x2 : Int) : i1__law_cell [.vis false (eL .fz .lsg T.int x0), .vis false (T.int x1), .vis false (T.int x2), .un, .un] = bO (p_i1__law_cell x0 x1 x2) fun s => .ok .next [.un, .vis false (T.int x1), .vis false (T.int s), .un, .un] := by
  simp_arith only [i1__law_cell, p_i1__law_cell, u__law_cell]
def p_l2__law_cell (x1 : Int) (x2 : Int) (s : Int) (a : Int) : O Int :=
  (mulO s 2147483579).bind fun v14 =>
  (mulO 7 x1).bind fun v15 =>
  (mulO 100 a).bind fun v16 =>
  (mulO a a).bind fun v17 =>
  ((p__law_mixed x2 ((v15 + v16) + v17)).lift u__law_cell).bind fun v18 =>
  O.ok (v14 + v18)
theorem T_l2__law_cell (x1 : Int) (x2 : Int) (s : Int) (a : Int) : turnL (gN 4) l2__law_cell (T.int a) [.un, .vis false (T.int x1), .vis false (T.int x2), .vis false (T.int s), .un] = bO (p_l2__law_cell x1 x2 s a) fun s => .ok .next [.un, .vis false (T.int x1), .vis false (T.int x2), .vis false (T.int s), .un] := by
  simp_arith only [l2__law_cell, p_l2__law_cell, S_i1__law_cell, u__law_cell, S__law_mixed]
theorem S_l2__law_cell (x1 : Int) (x2 : Int) (xs : List Int) (c0 : Int) : forL (gN 4) l2__law_cell (xs.map T.int) [.un, .vis false (T.int x1), .vis false (T.int x2), .vis false (T.int c0), .un] = bO (foldO (p_l2__law_cell x1 x2) c0 xs) fun s => .ok .next [.un, .vis false (T.int x1), .vis false (T.int x2), .vis false (T.int s), .un] :=
  forL_N (G := fun s : Int => [.un, .vis false (T.int x1), .vis false (T.int x2), .vis false (T.int s), .un]) (fun _ => noLnE _) (T_l2__law_cell x1 x2) xs c0
def p__law_cell (x0 : (List Int)) (x1 : Int) : OF Int := O.top false (
  (p_i1__law_cell x0 x1 0).bind fun v2 =>
  (powO 10 18).bind fun v3 =>
  if (decide (v3 ≤ v2)) = true then
  (powO 10 18).bind fun v4 =>
  (powO 10 60).bind fun v5 =>
  (powO 10 60).bind fun v6 =>
  (mulO v5 v6).bind fun v7 =>
  (powO 10 60).bind fun v8 =>
  (mulO v7 v8).bind fun v9 =>
  (powO 10 60).bind fun v10 =>
  (mulO v9 v10).bind fun v11 =>
  (modO (v2 - v4) v11).bind fun v12 =>
  O.ok v12
  else
  (rgO 0 24).bind fun v13 =>
  (foldO (p_l2__law_cell x1 v2) 0 v13).bind fun v19 =>
  O.ok v19)
theorem k__law_cell (t0 : T) (t1 : T) : m__law_cell [t0, t1] = mkR [false, false] (b__law_cell [.vis false t0, .vis false t1, .un, .un, .un]) := rfl
theorem S__law_cell (x0 : (List Int)) (x1 : Int) : m__law_cell [eL .fz .lsg T.int x0, T.int x1] = rP T.int (fun _ => []) (p__law_cell x0 x1) := by
  rw [k__law_cell]
  simp_arith only [b__law_cell, p__law_cell, S_i1__law_cell, S_l2__law_cell, u__law_cell, S__law_mixed]
def p__law_take (x0 : (List Int)) (x1 : Int) : OF (Int × (List Int)) := O.top true (
  (ixO x0 0).bind fun v1 =>
  (modO v1 x1).bind fun v2 =>
  (ixO x0 0).bind fun v3 =>
  (divO v3 x1).bind fun v4 =>
  (setO x0 0 v4).bind fun v5 =>
  O.ok (v2, v5))
theorem k__law_take (t0 : T) (t1 : T) : m__law_take [t0, t1] = mkR [true, false] (b__law_take [.hid true t0, .vis false t1, .un]) := rfl
theorem S__law_take (x0 : (List Int)) (x1 : Int) : m__law_take [eL .ow .lst T.int x0, T.int x1] = rP (fun r => T.int r.1) (fun r => [eL .ow .lst T.int r.2]) (p__law_take x0 x1) := by
  rw [k__law_take]
  simp_arith only [b__law_take, p__law_take, u__law_take]
theorem d1__law_floor (a0 : (List Int)) : mkN .lst [eL .fz .lst T.int a0] = eL .ow .lst (eL .fz .lst T.int) [a0] := rfl
def p_x1__law_floor (x5 : (List Int)) (x6 : Int) : O Bool :=
  if (!decide (x5 = ([] : List Int))) = true then
  (ixO x5 (-1)).bind fun v5 =>
  O.ok (decide (v5 = x6))
  else O.ok false
theorem S_x1__law_floor (x0 : (List Int)) (x1 : Int) (x2 : (List (List Int))) (x5 : (List Int)) (x6 : Int) (x7 : Int) (x8 : Int) : x1__law_floor [.vis true (eL .ow .lst T.int x0), .vis false (T.int x1), .vis false (eL .ow .lst (eL .fz .lst T.int) x2), .un, .un, .vis false (eL .ow .lst T.int x5), .vis false (T.int x6), .vis false (T.int x7), .vis false (T.int x8), .un] = bO (p_x1__law_floor x5 x6) fun r => .ok (r) [.vis true (eL .ow .lst T.int x0), .vis false (T.int x1), .vis false (eL .ow .lst (eL .fz .lst T.int) x2), .un, .un, .vis false (eL .ow .lst T.int x5), .vis false (T.int x6), .vis false (T.int x7), .vis false (T.int x8), .un] := by
  simp_arith only [x1__law_floor, p_x1__law_floor, d1__law_floor, u__law_floor]
def p_i2__law_floor (x5 : (List Int)) (x6 : Int) (x8 : Int) : O Int :=
  (p_x1__law_floor x5 x6).bind fun v6 =>
  if v6 = true then
  O.ok (x6 + 1)
  else
  O.ok x8
theorem S_i2__law_floor (x0 : (List Int)) (x1 : Int) (x2 : (List (List Int))) (x5 : (List Int)) (x6 : Int) (x7 : Int) (x8 : Int) : i2__law_floor [.vis true (eL .ow .lst T.int x0), .vis false (T.int x1), .vis false (eL .ow .lst (eL .fz .lst T.int) x2), .un, .un, .vis false (eL .ow .lst T.int x5), .vis false (T.int x6), .vis false (T.int x7), .vis false (T.int x8), .un] = bO (p_i2__law_floor x5 x6 x8) fun s => .ok .next [.vis true (eL .ow .lst T.int x0), .vis false (T.int x1), .vis false (eL .ow .lst (eL .fz .lst T.int) x2), .un, .un, .vis false (eL .ow .lst T.int x5), .un, .vis false (T.int x7), .vis false (T.int s), .un] := by
  simp_arith only [i2__law_floor, p_i2__law_floor, S_x1__law_floor, d1__law_floor, u__law_floor]
def p_l3__law_floor (s : ((List Int) × (List Int))) (a : (Int × Int)) : O ((List Int) × (List Int)) :=
  (p_i2__law_floor s.2 a.1 a.1).bind fun v7 =>
  (p__law_take s.1 ((a.2 - v7) + 1)).mut.bind fun v8 =>
  (appO s.2 (v7 + v8.1)).bind fun v9 =>
  O.ok (v8.2, v9)
theorem T_l3__law_floor (x1 : Int) (x2 : (List (List Int))) (s : ((List Int) × (List Int))) (a : (Int × Int)) : turnL (gTp 2 (gCons (gN 6) (gCons (gN 7) (gNil)))) l3__law_floor (eP2 .fz T.int T.int a) [.vis true (eL .ow .lst T.int s.1), .vis false (T.int x1), .vis false (eL .ow .lst (eL .fz .lst T.int) x2), .un, .un, .vis false (eL .ow .lst T.int s.2), .un, .un, .un, .un] = bO (p_l3__law_floor s a) fun s => .ok .next [.vis true (eL .ow .lst T.int s.1), .vis false (T.int x1), .vis false (eL .ow .lst (eL .fz .lst T.int) x2), .un, .un, .vis false (eL .ow .lst T.int s.2), .un, .un, .un, .un] := by
  simp_arith only [l3__law_floor, p_l3__law_floor, S_x1__law_floor, S_i2__law_floor, d1__law_floor, u__law_floor, S__law_take]
theorem S_l3__law_floor (x1 : Int) (x2 : (List (List Int))) (xs : List (Int × Int)) (c0 : (List Int)) (c1 : (List Int)) : forL (gTp 2 (gCons (gN 6) (gCons (gN 7) (gNil)))) l3__law_floor (xs.map (eP2 .fz T.int T.int)) [.vis true (eL .ow .lst T.int c0), .vis false (T.int x1), .vis false (eL .ow .lst (eL .fz .lst T.int) x2), .un, .un, .vis false (eL .ow .lst T.int c1), .un, .un, .un, .un] = bO (foldO (p_l3__law_floor) (c0, c1) xs) fun s => .ok .next [.vis true (eL .ow .lst T.int s.1), .vis false (T.int x1), .vis false (eL .ow .lst (eL .fz .lst T.int) x2), .un, .un, .vis false (eL .ow .lst T.int s.2), .un, .un, .un, .un] :=
  forL_N (G := fun s : ((List Int) × (List Int)) => [.vis true (eL .ow .lst T.int s.1), .vis false (T.int x1), .vis false (eL .ow .lst (eL .fz .lst T.int) x2), .un, .un, .vis false (eL .ow .lst T.int s.2), .un, .un, .un, .un]) (fun _ => noLnE _) (T_l3__law_floor x1 x2) xs (c0, c1)
def p_w4__law_floor (s : ((List Int) × (List (List Int)))) : O Bool :=
  (ixO s.2 0).bind fun v2 =>
  O.ok (decide (1 < (v2.length : Int)))
theorem T_w4__law_floor (x1 : Int) (s : ((List Int) × (List (List Int)))) : w4__law_floor [.vis true (eL .ow .lst T.int s.1), .vis false (T.int x1), .vis false (eL .ow .lst (eL .fz .lst T.int) s.2), .un, .un, .un, .un, .un, .un, .un] = bO (p_w4__law_floor s) fun b => .ok b [.vis true (eL .ow .lst T.int s.1), .vis false (T.int x1), .vis false (eL .ow .lst (eL .fz .lst T.int) s.2), .un, .un, .un, .un, .un, .un, .un] := by
  simp_arith only [w4__law_floor, p_w4__law_floor, S_x1__law_floor, S_i2__law_floor, S_l3__law_floor, d1__law_floor, u__law_floor, S__law_take]
def p_l5__law_floor (s : ((List Int) × (List (List Int)))) : O ((List Int) × (List (List Int))) :=
  (ixO s.2 0).bind fun v3 =>
  (ixO s.2 0).bind fun v4 =>
  (foldO p_l3__law_floor (s.1, ([] : List Int)) (v3.zip (cutI v4 (some 1) none))).bind fun v10 =>
  (insO s.2 0 v10.2).bind fun v11 =>
  O.ok (v10.1, v11)
theorem T_l5__law_floor (x1 : Int) (s : ((List Int) × (List (List Int)))) : l5__law_floor [.vis true (eL .ow .lst T.int s.1), .vis false (T.int x1), .vis false (eL .ow .lst (eL .fz .lst T.int) s.2), .un, .un, .un, .un, .un, .un, .un] = bO (p_l5__law_floor s) fun s => .ok .next [.vis true (eL .ow .lst T.int s.1), .vis false (T.int x1), .vis false (eL .ow .lst (eL .fz .lst T.int) s.2), .un, .un, .un, .un, .un, .un, .un] := by
  simp_arith only [l5__law_floor, p_l5__law_floor, S_x1__law_floor, S_i2__law_floor, S_l3__law_floor, d1__law_floor, u__law_floor, S__law_take]
theorem S_l5__law_floor (x1 : Int) (n : Nat) (c0 : (List Int)) (c1 : (List (List Int))) : whileL w4__law_floor l5__law_floor n [.vis true (eL .ow .lst T.int c0), .vis false (T.int x1), .vis false (eL .ow .lst (eL .fz .lst T.int) c1), .un, .un, .un, .un, .un, .un, .un] = bO (whileO (p_w4__law_floor) (p_l5__law_floor) n (c0, c1)) fun s => .ok .next [.vis true (eL .ow .lst T.int s.1), .vis false (T.int x1), .vis false (eL .ow .lst (eL .fz .lst T.int) s.2), .un, .un, .un, .un, .un, .un, .un] :=
  whileL_N (c := w4__law_floor) (body := l5__law_floor) (q := p_w4__law_floor) (p := p_l5__law_floor) (G := fun s : ((List Int) × (List (List Int))) => [.vis true (eL .ow .lst T.int s.1), .vis false (T.int x1), .vis false (eL .ow .lst (eL .fz .lst T.int) s.2), .un, .un, .un, .un, .un, .un, .un]) (T_w4__law_floor x1) (T_l5__law_floor x1) n (c0, c1)
def p_e6__law_floor (x4 : (List Int)) (x5 : (List Int)) (a : Int) : O Int :=
  O.ok ((b2I (decide (a ∈ x5))) - (b2I (decide (a ∈ x4))))
theorem S_e6__law_floor (x0 : (List Int)) (x1 : Int) (x3 : (List (List Int))) (x4 : (List Int)) (x5 : (List Int)) (xs : List Int) : lcL (gN 9) tOk e6__law_floor [9] (xs.map T.int) [.vis true (eL .ow .lst T.int x0), .vis false (T.int x1), .un, .vis false (eL .ow .lst (eL .ow .lst T.int) x3), .vis false (eL .fz .lst T.int x4), .vis false (eL .fz .lst T.int x5), .un, .un, .un, .un] = lcR T.int [.vis true (eL .ow .lst T.int x0), .vis false (T.int x1), .un, .vis false (eL .ow .lst (eL .ow .lst T.int) x3), .vis false (eL .fz .lst T.int x4), .vis false (eL .fz .lst T.int x5), .un, .un, .un, .un] (mapO (p_e6__law_floor x4 x5) xs) :=
  lcL_map' (G1 := fun a : Int => [.vis true (eL .ow .lst T.int x0), .vis false (T.int x1), .un, .vis false (eL .ow .lst (eL .ow .lst T.int) x3), .vis false (eL .fz .lst T.int x4), .vis false (eL .fz .lst T.int x5), .un, .un, .un, .vis false (T.int a)]) (G2 := fun (a : Int) _ => [.vis true (eL .ow .lst T.int x0), .vis false (T.int x1), .un, .vis false (eL .ow .lst (eL .ow .lst T.int) x3), .vis false (eL .fz .lst T.int x4), .vis false (eL .fz .lst T.int x5), .un, .un, .un, .vis false (T.int a)]) (fun a => by simp_arith) (fun a => by simp_arith only [e6__law_floor, p_e6__law_floor, S_x1__law_floor, S_i2__law_floor, S_l3__law_floor, S_l5__law_floor, d1__law_floor, u__law_floor, S__law_take]) (fun a b => by simp_arith) xs
def p_l7__law_floor (x1 : Int) (s : ((List (List Int)) × (List Int))) (a : (List Int)) : O ((List (List Int)) × (List Int)) :=
  (rgO 0 x1).bind fun v13 =>
  (lcS (mapO (p_e6__law_floor s.2 a) v13)).bind fun v14 =>
  (appO s.1 v14).bind fun v15 =>
  O.ok (v15, a)
theorem T_l7__law_floor (x0 : (List Int)) (x1 : Int) (s : ((List (List Int)) × (List Int))) (a : (List Int)) : turnL (gN 5) l7__law_floor (eL .fz .lst T.int a) [.vis true (eL .ow .lst T.int x0), .vis false (T.int x1), .un, .vis false (eL .ow .lst (eL .ow .lst T.int) s.1), .vis false (eL .fz .lst T.int s.2), .un, .un, .un, .un, .un] = bO (p_l7__law_floor x1 s a) fun s => .ok .next [.vis true (eL .ow .lst T.int x0), .vis false (T.int x1), .un, .vis false (eL .ow .lst (eL .ow .lst T.int) s.1), .vis false (eL .fz .lst T.int s.2), .un, .un, .un, .un, .un] := by
  simp_arith only [l7__law_floor, p_l7__law_floor, S_x1__law_floor, S_i2__law_floor, S_l3__law_floor, S_l5__law_floor, S_e6__law_floor, d1__law_floor, u__law_floor, S__law_take]
theorem S_l7__law_floor (x0 : (List Int)) (x1 : Int) (xs : List (List Int)) (c0 : (List (List Int))) (c1 : (List Int)) : forL (gN 5) l7__law_floor (xs.map (eL .fz .lst T.int)) [.vis true (eL .ow .lst T.int x0), .vis false (T.int x1), .un, .vis false (eL .ow .lst (eL .ow .lst T.int) c0), .vis false (eL .fz .lst T.int c1), .un, .un, .un, .un, .un] = bO (foldO (p_l7__law_floor x1) (c0, c1) xs) fun s => .ok .next [.vis true (eL .ow .lst T.int x0), .vis false (T.int x1), .un, .vis false (eL .ow .lst (eL .ow .lst T.int) s.1), .vis false (eL .fz .lst T.int s.2), .un, .un, .un, .un, .un] :=
  forL_N (G := fun s : ((List (List Int)) × (List Int)) => [.vis true (eL .ow .lst T.int x0), .vis false (T.int x1), .un, .vis false (eL .ow .lst (eL .ow .lst T.int) s.1), .vis false (eL .fz .lst T.int s.2), .un, .un, .un, .un, .un]) (fun _ => noLnE _) (T_l7__law_floor x0 x1) xs (c0, c1)
def p__law_floor (x0 : (List Int)) (x1 : Int) : OF ((List (List Int)) × (List Int)) := O.top true (
  (lsO 0 x1).bind fun v1 =>
  (whileO p_w4__law_floor p_l5__law_floor 1000 (x0, [v1])).bind fun v12 =>
  (foldO (p_l7__law_floor x1) (([] : List (List Int)), ([] : List Int)) v12.2).bind fun v16 =>
  O.ok (v16.1, v12.1))
theorem k__law_floor (t0 : T) (t1 : T) : m__law_floor [t0, t1] = mkR [true, false] (b__law_floor [.hid true t0, .vis false t1, .un, .un, .un, .un, .un, .un, .un, .un]) := rfl
theorem S__law_floor (x0 : (List Int)) (x1 : Int) : m__law_floor [eL .ow .lst T.int x0, T.int x1] = rP (fun r => eL .ow .lst (eL .ow .lst T.int) r.1) (fun r => [eL .ow .lst T.int r.2]) (p__law_floor x0 x1) := by
  rw [k__law_floor]
  simp_arith only [b__law_floor, p__law_floor, S_x1__law_floor, S_i2__law_floor, S_l3__law_floor, S_l5__law_floor, S_e6__law_floor, S_l7__law_floor, d1__law_floor, u__law_floor, S__law_take]
theorem d1__law_heights (a0 : Int) : mkN .lst [T.int a0] = eL .ow .lst T.int [a0] := rfl
theorem d2__law_heights (a0 : (List Int)) : mkN .lst [eL .ow .lst T.int a0] = eL .ow .lst (eL .ow .lst T.int) [a0] := rfl
def p_e1__law_heights (x1 : (List (List Int))) (x2 : (List Int)) (a : Int) : O Int :=
  (ixO x1 (-1)).bind fun v3 =>
  (ixO v3 a).bind fun v4 =>
  O.ok (v4 + ((cutI x2 none (some a)).sum))
theorem S_e1__law_heights (x0 : (List (List Int))) (x1 : (List (List Int))) (x2 : (List Int)) (xs : List Int) : lcL (gN 3) tOk e1__law_heights [3] (xs.map T.int) [.vis false (eL .fz .lst (eL .fz .lst T.int) x0), .vis false (eL .ow .lst (eL .ow .lst T.int) x1), .vis false (eL .fz .lst T.int x2), .un] = lcR T.int [.vis false (eL .fz .lst (eL .fz .lst T.int) x0), .vis false (eL .ow .lst (eL .ow .lst T.int) x1), .vis false (eL .fz .lst T.int x2), .un] (mapO (p_e1__law_heights x1 x2) xs) :=
  lcL_map' (G1 := fun a : Int => [.vis false (eL .fz .lst (eL .fz .lst T.int) x0), .vis false (eL .ow .lst (eL .ow .lst T.int) x1), .vis false (eL .fz .lst T.int x2), .vis false (T.int a)]) (G2 := fun (a : Int) _ => [.vis false (eL .fz .lst (eL .fz .lst T.int) x0), .vis false (eL .ow .lst (eL .ow .lst T.int) x1), .vis false (eL .fz .lst T.int x2), .vis false (T.int a)]) (fun a => by simp_arith) (fun a => by simp_arith only [e1__law_heights, p_e1__law_heights, d1__law_heights, d2__law_heights, u__law_heights]) (fun a b => by simp_arith) xs
def p_l2__law_heights (x0 : (List (List Int))) (s : (List (List Int))) (a : (List Int)) : O (List (List Int)) :=
  (rgO 0 ((x0.length : Int) + 1)).bind fun v2 =>
  (lcS (mapO (p_e1__law_heights s a) v2)).bind fun v5 =>
  (appO s v5).bind fun v6 =>
  O.ok v6
theorem T_l2__law_heights (x0 : (List (List Int))) (s : (List (List Int))) (a : (List Int)) : turnL (gN 2) l2__law_heights (eL .fz .lst T.int a) [.vis false (eL .fz .lst (eL .fz .lst T.int) x0), .vis false (eL .ow .lst (eL .ow .lst T.int) s), .un, .un] = bO (p_l2__law_heights x0 s a) fun s => .ok .next [.vis false (eL .fz .lst (eL .fz .lst T.int) x0), .vis false (eL .ow .lst (eL .ow .lst T.int) s), .un, .un] := by
  simp_arith only [l2__law_heights, p_l2__law_heights, S_e1__law_heights, d1__law_heights, d2__law_heights, u__law_heights]
theorem S_l2__law_heights (x0 : (List (List Int))) (xs : List (List Int)) (c0 : (List (List Int))) : forL (gN 2) l2__law_heights (xs.map (eL .fz .lst T.int)) [.vis false (eL .fz .lst (eL .fz .lst T.int) x0), .vis false (eL .ow .lst (eL .ow .lst T.int) c0), .un, .un] = bO (foldO (p_l2__law_heights x0) c0 xs) fun s => .ok .next [.vis false (eL .fz .lst (eL .fz .lst T.int) x0), .vis false (eL .ow .lst (eL .ow .lst T.int) s), .un, .un] :=
  forL_N (G := fun s : (List (List Int)) => [.vis false (eL .fz .lst (eL .fz .lst T.int) x0), .vis false (eL .ow .lst (eL .ow .lst T.int) s), .un, .un]) (fun _ => noLnE _) (T_l2__law_heights x0) xs c0
def p__law_heights (x0 : (List (List Int))) : OF (List (List Int)) := O.top false (
  (repO [0] ((x0.length : Int) + 1)).bind fun v1 =>
  (foldO (p_l2__law_heights x0) [v1] x0).bind fun v7 =>
  O.ok v7)
theorem k__law_heights (t0 : T) : m__law_heights [t0] = mkR [false] (b__law_heights [.vis false t0, .un, .un, .un]) := rfl
theorem S__law_heights (x0 : (List (List Int))) : m__law_heights [eL .fz .lst (eL .fz .lst T.int) x0] = rP (eL .ow .lst (eL .ow .lst T.int)) (fun _ => []) (p__law_heights x0) := by
  rw [k__law_heights]
  simp_arith only [b__law_heights, p__law_heights, S_e1__law_heights, S_l2__law_heights, d1__law_heights, d2__law_heights, u__law_heights]
theorem d1__law_can (a0 a1 : Int) : mkN .lst [T.int a0, T.int a1] = eL .ow .lst T.int [a0, a1] := rfl
theorem d2__law_can (a0 : Int) (a1 : Int) : mkN .tup [T.int a0, T.int a1] = eP2 .fz T.int T.int (a0, a1) := rfl
def p_e1__law_can (x4 : Int) (a : Int) : O Bool :=
  O.ok (decide (x4 - a ∈ [(0, 1).1, (0, 1).2]))
theorem S_e1__law_can (x4 : Int) (x5 : (List Int)) (x6 : (List Int)) (xs : List Int) : lcL (gN 7) tOk e1__law_can [7] (xs.map T.int) [.un, .un, .un, .un, .vis false (T.int x4), .vis false (eL .fz .lst T.int x5), .vis false (eL .fz .lst T.int x6), .un] = lcR T.bl [.un, .un, .un, .un, .vis false (T.int x4), .vis false (eL .fz .lst T.int x5), .vis false (eL .fz .lst T.int x6), .un] (mapO (p_e1__law_can x4) xs) :=
  lcL_map' (G1 := fun a : Int => [.un, .un, .un, .un, .vis false (T.int x4), .vis false (eL .fz .lst T.int x5), .vis false (eL .fz .lst T.int x6), .vis false (T.int a)]) (G2 := fun (a : Int) _ => [.un, .un, .un, .un, .vis false (T.int x4), .vis false (eL .fz .lst T.int x5), .vis false (eL .fz .lst T.int x6), .vis false (T.int a)]) (fun a => by simp_arith) (fun a => by simp_arith only [e1__law_can, p_e1__law_can, d1__law_can, d2__law_can, u__law_can]) (fun a b => by simp_arith) xs
def p_e2__law_can (x4 : Int) (a : Int) : O Bool :=
  O.ok (decide (a - x4 ∈ [(0, 1).1, (0, 1).2]))
theorem S_e2__law_can (x4 : Int) (x5 : (List Int)) (x6 : (List Int)) (xs : List Int) : lcL (gN 7) tOk e2__law_can [7] (xs.map T.int) [.un, .un, .un, .un, .vis false (T.int x4), .vis false (eL .fz .lst T.int x5), .vis false (eL .fz .lst T.int x6), .un] = lcR T.bl [.un, .un, .un, .un, .vis false (T.int x4), .vis false (eL .fz .lst T.int x5), .vis false (eL .fz .lst T.int x6), .un] (mapO (p_e2__law_can x4) xs) :=
  lcL_map' (G1 := fun a : Int => [.un, .un, .un, .un, .vis false (T.int x4), .vis false (eL .fz .lst T.int x5), .vis false (eL .fz .lst T.int x6), .vis false (T.int a)]) (G2 := fun (a : Int) _ => [.un, .un, .un, .un, .vis false (T.int x4), .vis false (eL .fz .lst T.int x5), .vis false (eL .fz .lst T.int x6), .vis false (T.int a)]) (fun a => by simp_arith) (fun a => by simp_arith only [e2__law_can, p_e2__law_can, S_e1__law_can, d1__law_can, d2__law_can, u__law_can]) (fun a b => by simp_arith) xs
def p_x3__law_can (x4 : Int) (x5 : (List Int)) (x6 : (List Int)) : O Bool :=
  (lcS (mapO (p_e1__law_can x4) x5)).bind fun v11 =>
  if (v11.all id) = true then
  (lcS (mapO (p_e2__law_can x4) x6)).bind fun v12 =>
  O.ok (v12.all id)
  else O.ok false
theorem S_x3__law_can (x4 : Int) (x5 : (List Int)) (x6 : (List Int)) : x3__law_can [.un, .un, .un, .un, .vis false (T.int x4), .vis false (eL .fz .lst T.int x5), .vis false (eL .fz .lst T.int x6), .un] = bO (p_x3__law_can x4 x5 x6) fun r => .ok (T.bl r) [.un, .un, .un, .un, .vis false (T.int x4), .vis false (eL .fz .lst T.int x5), .vis false (eL .fz .lst T.int x6), .un] := by
  simp_arith only [x3__law_can, p_x3__law_can, S_e1__law_can, S_e2__law_can, d1__law_can, d2__law_can, u__law_can]
def p__law_can (x0 : (List (List Int))) (x1 : Int) (x2 : Int) (x3 : Int) : OF Bool := O.top false (
  (ixO x0 x1).bind fun v1 =>
  (ixO v1 x2).bind fun v2 =>
  (ixO x0 (x1 - 1)).bind fun v3 =>
  (ixO v3 x2).bind fun v4 =>
  (ixO x0 x1).bind fun v5 =>
  (ixO v5 (x2 - 1)).bind fun v6 =>
  (ixO x0 (x1 + 1)).bind fun v7 =>
  (ixO v7 x2).bind fun v8 =>
  (ixO x0 x1).bind fun v9 =>
  (ixO v9 (x2 + 1)).bind fun v10 =>
  (p_x3__law_can (v2 + x3) [v4, v6] [v8, v10]).bind fun v13 =>
  O.ok v13)
theorem k__law_can (t0 : T) (t1 : T) (t2 : T) (t3 : T) : m__law_can [t0, t1, t2, t3] = mkR [false, false, false, false] (b__law_can [.vis false t0, .vis false t1, .vis false t2, .vis false t3, .un, .un, .un, .un]) := rfl
theorem S__law_can (x0 : (List (List Int))) (x1 : Int) (x2 : Int) (x3 : Int) : m__law_can [eL .fz .lst (eL .fz .lst T.int) x0, T.int x1, T.int x2, T.int x3] = rP T.bl (fun _ => []) (p__law_can x0 x1 x2 x3) := by
  rw [k__law_can]
  simp_arith only [b__law_can, p__law_can, S_e1__law_can, S_e2__law_can, S_x3__law_can, d1__law_can, d2__law_can, u__law_can]
theorem d1__law_turns (a0 : Int) (a1 : Int) : mkN .tup [T.int a0, T.int a1] = eP2 .fz T.int T.int (a0, a1) := rfl
def p_t1__law_turns (x0 : (List (List Int))) (x1 : (List (Int × Int × Int))) (x2 : Int) (x3 : Int) (a : Int) : O Bool :=
  ((p__law_can x0 x2 x3 a).lift [.vis false (eL .fz .lst (eL .fz .lst T.int) x0), .vis false (eL .fz .lst (eP3 .fz T.int T.int T.int) x1), .vis false (T.int x2), .vis false (T.int x3), .vis false (T.int a)]).bind fun v3 =>
  O.ok v3
theorem d2__law_turns (a0 : Int) (a1 : Int) (a2 : Int) : mkN .tup [T.int a0, T.int a1, T.int a2] = eP3 .fz T.int T.int T.int (a0, a1, a2) := rfl
def p_e2__law_turns (x2 : Int) (x3 : Int) (a : Int) : O (Int × Int × Int) :=
  O.ok (x2, x3, a)
theorem S_e2__law_turns (x0 : (List (List Int))) (x1 : (List (Int × Int × Int))) (x2 : Int) (x3 : Int) (xs : List Int) : lcL (gN 4) t1__law_turns e2__law_turns [4] (xs.map T.int) [.vis false (eL .fz .lst (eL .fz .lst T.int) x0), .vis false (eL .fz .lst (eP3 .fz T.int T.int T.int) x1), .vis false (T.int x2), .vis false (T.int x3), .un] = lcR (eP3 .fz T.int T.int T.int) [.vis false (eL .fz .lst (eL .fz .lst T.int) x0), .vis false (eL .fz .lst (eP3 .fz T.int T.int T.int) x1), .vis false (T.int x2), .vis false (T.int x3), .un] (filO (p_t1__law_turns x0 x1 x2 x3) (p_e2__law_turns x2 x3) xs) :=
  lcL_fil (G1 := fun a : Int => [.vis false (eL .fz .lst (eL .fz .lst T.int) x0), .vis false (eL .fz .lst (eP3 .fz T.int T.int T.int) x1), .vis false (T.int x2), .vis false (T.int x3), .vis false (T.int a)]) (G2 := fun (a : Int) _ => [.vis false (eL .fz .lst (eL .fz .lst T.int) x0), .vis false (eL .fz .lst (eP3 .fz T.int T.int T.int) x1), .vis false (T.int x2), .vis false (T.int x3), .un]) (fun a => by simp_arith) (fun a => by simp_arith only [t1__law_turns, p_t1__law_turns, d1__law_turns, d2__law_turns, u__law_turns, S__law_can]) (fun a => by simp_arith only [e2__law_turns, p_e2__law_turns, d1__law_turns, d2__law_turns, u__law_turns, S__law_can]) (fun a => by simp_arith) (fun a b => by simp_arith) xs
def p_l3__law_turns (x0 : (List (List Int))) (x2 : Int) (s : (List (Int × Int × Int))) (a : Int) : O (List (Int × Int × Int)) :=
  (lcS (filO (p_t1__law_turns x0 s x2 a) (p_e2__law_turns x2 a) [(0 - 1, 1).1, (0 - 1, 1).2])).bind fun v4 =>
  (catO s v4).bind fun v5 =>
  O.ok v5
theorem T_l3__law_turns (x0 : (List (List Int))) (x2 : Int) (s : (List (Int × Int × Int))) (a : Int) : turnL (gN 3) l3__law_turns (T.int a) [.vis false (eL .fz .lst (eL .fz .lst T.int) x0), .vis false (eL .ow .lst (eP3 .fz T.int T.int T.int) s), .vis false (T.int x2), .un, .un] = bO (p_l3__law_turns x0 x2 s a) fun s => .ok .next [.vis false (eL .fz .lst (eL .fz .lst T.int) x0), .vis false (eL .ow .lst (eP3 .fz T.int T.int T.int) s), .vis false (T.int x2), .un, .un] := by
  simp_arith only [l3__law_turns, p_l3__law_turns, S_e2__law_turns, d1__law_turns, d2__law_turns, u__law_turns, S__law_can]
theorem S_l3__law_turns (x0 : (List (List Int))) (x2 : Int) (xs : List Int) (c0 : (List (Int × Int × Int))) : forL (gN 3) l3__law_turns (xs.map T.int) [.vis false (eL .fz .lst (eL .fz .lst T.int) x0), .vis false (eL .ow .lst (eP3 .fz T.int T.int T.int) c0), .vis false (T.int x2), .un, .un] = bO (foldO (p_l3__law_turns x0 x2) c0 xs) fun s => .ok .next [.vis false (eL .fz .lst (eL .fz .lst T.int) x0), .vis false (eL .ow .lst (eP3 .fz T.int T.int T.int) s), .vis false (T.int x2), .un, .un] :=
  forL_N (G := fun s : (List (Int × Int × Int)) => [.vis false (eL .fz .lst (eL .fz .lst T.int) x0), .vis false (eL .ow .lst (eP3 .fz T.int T.int T.int) s), .vis false (T.int x2), .un, .un]) (fun _ => noLnE _) (T_l3__law_turns x0 x2) xs c0
def p_l4__law_turns (x0 : (List (List Int))) (s : (List (Int × Int × Int))) (a : Int) : O (List (Int × Int × Int)) :=
  (rgO 1 ((x0.length : Int) - 1)).bind fun v2 =>
  (foldO (p_l3__law_turns x0 a) s v2).bind fun v6 =>
  O.ok v6
theorem T_l4__law_turns (x0 : (List (List Int))) (s : (List (Int × Int × Int))) (a : Int) : turnL (gN 2) l4__law_turns (T.int a) [.vis false (eL .fz .lst (eL .fz .lst T.int) x0), .vis false (eL .ow .lst (eP3 .fz T.int T.int T.int) s), .un, .un, .un] = bO (p_l4__law_turns x0 s a) fun s => .ok .next [.vis false (eL .fz .lst (eL .fz .lst T.int) x0), .vis false (eL .ow .lst (eP3 .fz T.int T.int T.int) s), .un, .un, .un] := by
  simp_arith only [l4__law_turns, p_l4__law_turns, S_e2__law_turns, S_l3__law_turns, d1__law_turns, d2__law_turns, u__law_turns, S__law_can]
theorem S_l4__law_turns (x0 : (List (List Int))) (xs : List Int) (c0 : (List (Int × Int × Int))) : forL (gN 2) l4__law_turns (xs.map T.int) [.vis false (eL .fz .lst (eL .fz .lst T.int) x0), .vis false (eL .ow .lst (eP3 .fz T.int T.int T.int) c0), .un, .un, .un] = bO (foldO (p_l4__law_turns x0) c0 xs) fun s => .ok .next [.vis false (eL .fz .lst (eL .fz .lst T.int) x0), .vis false (eL .ow .lst (eP3 .fz T.int T.int T.int) s), .un, .un, .un] :=
  forL_N (G := fun s : (List (Int × Int × Int)) => [.vis false (eL .fz .lst (eL .fz .lst T.int) x0), .vis false (eL .ow .lst (eP3 .fz T.int T.int T.int) s), .un, .un, .un]) (fun _ => noLnE _) (T_l4__law_turns x0) xs c0
def p__law_turns (x0 : (List (List Int))) : OF (List (Int × Int × Int)) := O.top false (
  (rgO 1 ((x0.length : Int) - 1)).bind fun v1 =>
  (foldO (p_l4__law_turns x0) ([] : List (Int × Int × Int)) v1).bind fun v7 =>
  O.ok v7)
theorem k__law_turns (t0 : T) : m__law_turns [t0] = mkR [false] (b__law_turns [.vis false t0, .un, .un, .un, .un]) := rfl
theorem S__law_turns (x0 : (List (List Int))) : m__law_turns [eL .fz .lst (eL .fz .lst T.int) x0] = rP (eL .ow .lst (eP3 .fz T.int T.int T.int)) (fun _ => []) (p__law_turns x0) := by
  rw [k__law_turns]
  simp_arith only [b__law_turns, p__law_turns, S_e2__law_turns, S_l3__law_turns, S_l4__law_turns, d1__law_turns, d2__law_turns, u__law_turns, S__law_can]
def p_is_number (x0 : Int) : OF Bool := O.top false (
  O.ok true)
theorem k_is_number (t0 : T) : m_is_number [t0] = mkR [false] (b_is_number [.vis false t0]) := rfl
theorem S_is_number (x0 : Int) : m_is_number [T.int x0] = rP T.bl (fun _ => []) (p_is_number x0) := by
  rw [k_is_number]
  simp_arith only [b_is_number, p_is_number, u_is_number]
def p_is_from (x0 : Int) (x1 : Int) (x2 : Int) : OF Bool := O.top false (
  ((p_is_number x0).lift u_is_from).bind fun v1 =>
  O.ok (v1 && (decide (x1 ≤ x0) && decide (x0 ≤ x2))))
theorem k_is_from (t0 : T) (t1 : T) (t2 : T) : m_is_from [t0, t1, t2] = mkR [false, false, false] (b_is_from [.vis false t0, .vis false t1, .vis false t2]) := rfl
theorem S_is_from (x0 : Int) (x1 : Int) (x2 : Int) : m_is_from [T.int x0, T.int x1, T.int x2] = rP T.bl (fun _ => []) (p_is_from x0 x1 x2) := by
  rw [k_is_from]
  simp_arith only [b_is_from, p_is_from, u_is_from, S_is_number]
def p_is_size (x0 : Int) : OF Bool := O.top false (
  ((p_is_from x0 1 12).lift u_is_size).bind fun v1 =>
  O.ok v1)
theorem k_is_size (t0 : T) : m_is_size [t0] = mkR [false] (b_is_size [.vis false t0]) := rfl
theorem S_is_size (x0 : Int) : m_is_size [T.int x0] = rP T.bl (fun _ => []) (p_is_size x0) := by
  rw [k_is_size]
  simp_arith only [b_is_size, p_is_size, u_is_size, S_is_from]
def p_l1_takes_turns (s : Int) (a : Int) : O (Fl Int Int Bool) :=
  if (!(decide (0 ≤ s + a) && decide (s + a ≤ 1))) = true then
  O.ok (.rt false)
  else
  O.ok (.nx (s + a))
theorem T_l1_takes_turns (s : Int) (a : Int) : turnL (gN 2) l1_takes_turns (T.int a) [.un, .vis false (T.int s), .un] = kO (fun s => [.un, .vis false (T.int s), .un]) T.bl (fun _ => [.un, .un, .un]) (p_l1_takes_turns s a) fun s => .ok .next [.un, .vis false (T.int s), .un] := by
  simp_arith only [l1_takes_turns, p_l1_takes_turns, u_takes_turns]
theorem S_l1_takes_turns (xs : List Int) (c0 : Int) : forL (gN 2) l1_takes_turns (xs.map T.int) [.un, .vis false (T.int c0), .un] = kO (fun _ : Unit => ([] : Sl)) T.bl (fun _ => [.un, .un, .un]) (forO (p_l1_takes_turns) c0 xs) fun s => .ok .next [.un, .vis false (T.int s), .un] :=
  forL_M (G := fun s : Int => [.un, .vis false (T.int s), .un]) (fun _ => noLnE _) (T_l1_takes_turns) (fun _ : Unit => ([] : Sl)) xs c0
def p_takes_turns (x0 : (List Int)) : OF Bool := O.top false (
  Fl.fin (forO (σ' := Unit) p_l1_takes_turns 0 x0) fun v1 =>
  O.ok (decide (v1 = 1)))
theorem k_takes_turns (t0 : T) : m_takes_turns [t0] = mkR [false] (b_takes_turns [.vis false t0, .un, .un]) := rfl
theorem S_takes_turns (x0 : (List Int)) : m_takes_turns [eL .fz .lst T.int x0] = rP T.bl (fun _ => []) (p_takes_turns x0) := by
  rw [k_takes_turns]
  simp_arith only [b_takes_turns, p_takes_turns, S_l1_takes_turns, u_takes_turns]
def p_e1_column_of (x1 : Int) (a : (List Int)) : O Int :=
  (ixO a x1).bind fun v1 =>
  O.ok v1
theorem S_e1_column_of (x0 : (List (List Int))) (x1 : Int) (xs : List (List Int)) : lcL (gN 2) tOk e1_column_of [2] (xs.map (eL .fz .lst T.int)) [.vis false (eL .fz .lst (eL .fz .lst T.int) x0), .vis false (T.int x1), .un] = lcR T.int [.vis false (eL .fz .lst (eL .fz .lst T.int) x0), .vis false (T.int x1), .un] (mapO (p_e1_column_of x1) xs) :=
  lcL_map' (G1 := fun a : (List Int) => [.vis false (eL .fz .lst (eL .fz .lst T.int) x0), .vis false (T.int x1), .vis false (eL .fz .lst T.int a)]) (G2 := fun (a : (List Int)) _ => [.vis false (eL .fz .lst (eL .fz .lst T.int) x0), .vis false (T.int x1), .vis false (eL .fz .lst T.int a)]) (fun a => by simp_arith) (fun a => by simp_arith only [e1_column_of, p_e1_column_of, u_column_of]) (fun a b => by simp_arith) xs
def p_column_of (x0 : (List (List Int))) (x1 : Int) : OF (List Int) := O.top false (
  (lcS (mapO (p_e1_column_of x1) x0)).bind fun v2 =>
  O.ok v2)
theorem k_column_of (t0 : T) (t1 : T) : m_column_of [t0, t1] = mkR [false, false] (b_column_of [.vis false t0, .vis false t1, .un]) := rfl
theorem S_column_of (x0 : (List (List Int))) (x1 : Int) : m_column_of [eL .fz .lst (eL .fz .lst T.int) x0, T.int x1] = rP (eL .ow .lst T.int) (fun _ => []) (p_column_of x0 x1) := by
  rw [k_column_of]
  simp_arith only [b_column_of, p_column_of, S_e1_column_of, u_column_of]
def p_e1_is_floor (x0 : (List (List Int))) (x1 : (List Int)) (a : Int) : O Bool :=
  ((p_is_from a (-1) 1).lift [.vis false (eL .fz .lst (eL .fz .lst T.int) x0), .vis false (eL .fz .lst T.int x1), .un, .vis false (T.int a)]).bind fun v2 =>
  O.ok v2
theorem S_e1_is_floor (x0 : (List (List Int))) (x1 : (List Int)) (xs : List Int) : lcL (gN 3) tOk e1_is_floor [3] (xs.map T.int) [.vis false (eL .fz .lst (eL .fz .lst T.int) x0), .vis false (eL .fz .lst T.int x1), .un, .un] = lcR T.bl [.vis false (eL .fz .lst (eL .fz .lst T.int) x0), .vis false (eL .fz .lst T.int x1), .un, .un] (mapO (p_e1_is_floor x0 x1) xs) :=
  lcL_map' (G1 := fun a : Int => [.vis false (eL .fz .lst (eL .fz .lst T.int) x0), .vis false (eL .fz .lst T.int x1), .un, .vis false (T.int a)]) (G2 := fun (a : Int) _ => [.vis false (eL .fz .lst (eL .fz .lst T.int) x0), .vis false (eL .fz .lst T.int x1), .un, .vis false (T.int a)]) (fun a => by simp_arith) (fun a => by simp_arith only [e1_is_floor, p_e1_is_floor, u_is_floor, S_is_size, S_is_from]) (fun a b => by simp_arith) xs
def p_x2_is_floor (x0 : (List (List Int))) (x1 : (List Int)) : O Bool :=
  if (!decide ((x1.length : Int) = (x0.length : Int))) = true then
  O.ok true
  else (lcS (mapO (p_e1_is_floor x0 x1) x1)).bind fun v3 =>
  O.ok (!(v3.all id))
theorem S_x2_is_floor (x0 : (List (List Int))) (x1 : (List Int)) : x2_is_floor [.vis false (eL .fz .lst (eL .fz .lst T.int) x0), .vis false (eL .fz .lst T.int x1), .un, .un] = bO (p_x2_is_floor x0 x1) fun r => .ok (r) [.vis false (eL .fz .lst (eL .fz .lst T.int) x0), .vis false (eL .fz .lst T.int x1), .un, .un] := by
  simp_arith only [x2_is_floor, p_x2_is_floor, S_e1_is_floor, u_is_floor, S_is_size, S_is_from]
def p_l3_is_floor (x0 : (List (List Int))) (s : Unit) (a : (List Int)) : O (Fl Unit Unit Bool) :=
  (p_x2_is_floor x0 a).bind fun v4 =>
  if v4 = true then
  O.ok (.rt false)
  else
  O.ok (.nx ())
theorem T_l3_is_floor (x0 : (List (List Int))) (s : Unit) (a : (List Int)) : turnL (gN 1) l3_is_floor (eL .fz .lst T.int a) [.vis false (eL .fz .lst (eL .fz .lst T.int) x0), .un, .un, .un] = kO (fun s => [.vis false (eL .fz .lst (eL .fz .lst T.int) x0), .un, .un, .un]) T.bl (fun _ => [.un, .un, .un, .un]) (p_l3_is_floor x0 s a) fun s => .ok .next [.vis false (eL .fz .lst (eL .fz .lst T.int) x0), .un, .un, .un] := by
  simp_arith only [l3_is_floor, p_l3_is_floor, S_e1_is_floor, S_x2_is_floor, u_is_floor, S_is_size, S_is_from]
theorem S_l3_is_floor (x0 : (List (List Int))) (xs : List (List Int)) : forL (gN 1) l3_is_floor (xs.map (eL .fz .lst T.int)) [.vis false (eL .fz .lst (eL .fz .lst T.int) x0), .un, .un, .un] = kO (fun _ : Unit => ([] : Sl)) T.bl (fun _ => [.un, .un, .un, .un]) (forO (p_l3_is_floor x0) () xs) fun s => .ok .next [.vis false (eL .fz .lst (eL .fz .lst T.int) x0), .un, .un, .un] :=
  forL_M (G := fun s : Unit => [.vis false (eL .fz .lst (eL .fz .lst T.int) x0), .un, .un, .un]) (fun _ => noLnE _) (T_l3_is_floor x0) (fun _ : Unit => ([] : Sl)) xs ()
def p_e4_is_floor (x0 : (List (List Int))) (a : (List Int)) : O Bool :=
  ((p_takes_turns a).lift [.vis false (eL .fz .lst (eL .fz .lst T.int) x0), .vis false (eL .fz .lst T.int a), .un, .un]).bind fun v6 =>
  O.ok v6
theorem S_e4_is_floor (x0 : (List (List Int))) (xs : List (List Int)) : lcL (gN 1) tOk e4_is_floor [1] (xs.map (eL .fz .lst T.int)) [.vis false (eL .fz .lst (eL .fz .lst T.int) x0), .un, .un, .un] = lcR T.bl [.vis false (eL .fz .lst (eL .fz .lst T.int) x0), .un, .un, .un] (mapO (p_e4_is_floor x0) xs) :=
  lcL_map' (G1 := fun a : (List Int) => [.vis false (eL .fz .lst (eL .fz .lst T.int) x0), .vis false (eL .fz .lst T.int a), .un, .un]) (G2 := fun (a : (List Int)) _ => [.vis false (eL .fz .lst (eL .fz .lst T.int) x0), .vis false (eL .fz .lst T.int a), .un, .un]) (fun a => by simp_arith) (fun a => by simp_arith only [e4_is_floor, p_e4_is_floor, S_e1_is_floor, S_x2_is_floor, S_l3_is_floor, u_is_floor, S_is_size, S_is_from, S_takes_turns]) (fun a b => by simp_arith) xs
def p_e5_is_floor (x0 : (List (List Int))) (a : Int) : O Bool :=
  ((p_column_of x0 a).lift [.vis false (eL .fz .lst (eL .fz .lst T.int) x0), .un, .vis false (T.int a), .un]).bind fun v9 =>
  ((p_takes_turns v9).lift [.vis false (eL .fz .lst (eL .fz .lst T.int) x0), .un, .vis false (T.int a), .un]).bind fun v10 =>
  O.ok v10
theorem S_e5_is_floor (x0 : (List (List Int))) (xs : List Int) : lcL (gN 2) tOk e5_is_floor [2] (xs.map T.int) [.vis false (eL .fz .lst (eL .fz .lst T.int) x0), .un, .un, .un] = lcR T.bl [.vis false (eL .fz .lst (eL .fz .lst T.int) x0), .un, .un, .un] (mapO (p_e5_is_floor x0) xs) :=
  lcL_map' (G1 := fun a : Int => [.vis false (eL .fz .lst (eL .fz .lst T.int) x0), .un, .vis false (T.int a), .un]) (G2 := fun (a : Int) _ => [.vis false (eL .fz .lst (eL .fz .lst T.int) x0), .un, .vis false (T.int a), .un]) (fun a => by simp_arith) (fun a => by simp_arith only [e5_is_floor, p_e5_is_floor, S_e1_is_floor, S_x2_is_floor, S_l3_is_floor, S_e4_is_floor, u_is_floor, S_is_size, S_is_from, S_takes_turns, S_column_of]) (fun a b => by simp_arith) xs
def p_is_floor (x0 : (List (List Int))) : OF Bool := O.top false (
  ((p_is_size (x0.length : Int)).lift u_is_floor).bind fun v1 =>
  if (!v1) = true then
  O.ok false
  else
  Fl.fin (forO (σ' := Unit) (p_l3_is_floor x0) () x0) fun v5 =>
  (lcS (mapO (p_e4_is_floor x0) x0)).bind fun v7 =>
  if (!(v7.all id)) = true then
  O.ok false
  else
  (rgO 0 (x0.length : Int)).bind fun v8 =>
  (lcS (mapO (p_e5_is_floor x0) v8)).bind fun v11 =>
  O.ok (v11.all id))
theorem k_is_floor (t0 : T) : m_is_floor [t0] = mkR [false] (b_is_floor [.vis false t0, .un, .un, .un]) := rfl
theorem S_is_floor (x0 : (List (List Int))) : m_is_floor [eL .fz .lst (eL .fz .lst T.int) x0] = rP T.bl (fun _ => []) (p_is_floor x0) := by
  rw [k_is_floor]
  simp_arith only [b_is_floor, p_is_floor, S_e1_is_floor, S_x2_is_floor, S_l3_is_floor, S_e4_is_floor, S_e5_is_floor, u_is_floor, S_is_size, S_is_from, S_takes_turns, S_column_of]
def p_look_at_floor (x0 : (List (List Int))) : OF Unit := O.top false (
  ((p_is_floor x0).lift u_look_at_floor).bind fun v1 =>
  if (!v1) = true then
  O.bad
  else
  O.ok ())
theorem k_look_at_floor (t0 : T) : m_look_at_floor [t0] = mkR [false] (b_look_at_floor [.vis false t0]) := rfl
theorem S_look_at_floor (x0 : (List (List Int))) : m_look_at_floor [eL .fz .lst (eL .fz .lst T.int) x0] = rP (fun _ => T.non) (fun _ => []) (p_look_at_floor x0) := by
  rw [k_look_at_floor]
  simp_arith only [b_look_at_floor, p_look_at_floor, u_look_at_floor, S_is_floor]
theorem d1_heights_by (a0 : Int) : mkN .lst [T.int a0] = eL .ow .lst T.int [a0] := rfl
theorem d2_heights_by (a0 : (List Int)) : mkN .lst [eL .ow .lst T.int a0] = eL .ow .lst (eL .ow .lst T.int) [a0] := rfl
def p_l1_heights_by (s : ((List Int) × Int)) (a : (Int × Int)) : O ((List Int) × Int) :=
  (appO s.1 (a.2 + (s.2 + a.1))).bind fun v3 =>
  O.ok (v3, s.2 + a.1)
theorem T_l1_heights_by (x1 : (List (List Int))) (x2 : (List Int)) (s : ((List Int) × Int)) (a : (Int × Int)) : turnL (gTp 2 (gCons (gN 5) (gCons (gN 6) (gNil)))) l1_heights_by (eP2 .fz T.int T.int a) [.un, .vis false (eL .ow .lst (eL .ow .lst T.int) x1), .vis false (eL .fz .lst T.int x2), .vis false (eL .ow .lst T.int s.1), .vis false (T.int s.2), .un, .un] = bO (p_l1_heights_by s a) fun s => .ok .next [.un, .vis false (eL .ow .lst (eL .ow .lst T.int) x1), .vis false (eL .fz .lst T.int x2), .vis false (eL .ow .lst T.int s.1), .vis false (T.int s.2), .un, .un] := by
  simp_arith only [l1_heights_by, p_l1_heights_by, d1_heights_by, d2_heights_by, u_heights_by]
theorem S_l1_heights_by (x1 : (List (List Int))) (x2 : (List Int)) (xs : List (Int × Int)) (c0 : (List Int)) (c1 : Int) : forL (gTp 2 (gCons (gN 5) (gCons (gN 6) (gNil)))) l1_heights_by (xs.map (eP2 .fz T.int T.int)) [.un, .vis false (eL .ow .lst (eL .ow .lst T.int) x1), .vis false (eL .fz .lst T.int x2), .vis false (eL .ow .lst T.int c0), .vis false (T.int c1), .un, .un] = bO (foldO (p_l1_heights_by) (c0, c1) xs) fun s => .ok .next [.un, .vis false (eL .ow .lst (eL .ow .lst T.int) x1), .vis false (eL .fz .lst T.int x2), .vis false (eL .ow .lst T.int s.1), .vis false (T.int s.2), .un, .un] :=
  forL_N (G := fun s : ((List Int) × Int) => [.un, .vis false (eL .ow .lst (eL .ow .lst T.int) x1), .vis false (eL .fz .lst T.int x2), .vis false (eL .ow .lst T.int s.1), .vis false (T.int s.2), .un, .un]) (fun _ => noLnE _) (T_l1_heights_by x1 x2) xs (c0, c1)
def p_l2_heights_by (s : (List (List Int))) (a : (List Int)) : O (List (List Int)) :=
  (ixO s (-1)).bind fun v2 =>
  (foldO p_l1_heights_by ([0], 0) (a.zip (cutI v2 (some 1) none))).bind fun v4 =>
  (appO s v4.1).bind fun v5 =>
  O.ok v5
theorem T_l2_heights_by (s : (List (List Int))) (a : (List Int)) : turnL (gN 2) l2_heights_by (eL .fz .lst T.int a) [.un, .vis false (eL .ow .lst (eL .ow .lst T.int) s), .un, .un, .un, .un, .un] = bO (p_l2_heights_by s a) fun s => .ok .next [.un, .vis false (eL .ow .lst (eL .ow .lst T.int) s), .un, .un, .un, .un, .un] := by
  simp_arith only [l2_heights_by, p_l2_heights_by, S_l1_heights_by, d1_heights_by, d2_heights_by, u_heights_by]
theorem S_l2_heights_by (xs : List (List Int)) (c0 : (List (List Int))) : forL (gN 2) l2_heights_by (xs.map (eL .fz .lst T.int)) [.un, .vis false (eL .ow .lst (eL .ow .lst T.int) c0), .un, .un, .un, .un, .un] = bO (foldO (p_l2_heights_by) c0 xs) fun s => .ok .next [.un, .vis false (eL .ow .lst (eL .ow .lst T.int) s), .un, .un, .un, .un, .un] :=
  forL_N (G := fun s : (List (List Int)) => [.un, .vis false (eL .ow .lst (eL .ow .lst T.int) s), .un, .un, .un, .un, .un]) (fun _ => noLnE _) (T_l2_heights_by) xs c0
def p_heights_by (x0 : (List (List Int))) : OF (List (List Int)) := O.top false (
  (repO [0] ((x0.length : Int) + 1)).bind fun v1 =>
  (foldO p_l2_heights_by [v1] x0).bind fun v6 =>
  O.ok v6)
theorem k_heights_by (t0 : T) : m_heights_by [t0] = mkR [false] (b_heights_by [.vis false t0, .un, .un, .un, .un, .un, .un]) := rfl
theorem S_heights_by (x0 : (List (List Int))) : m_heights_by [eL .fz .lst (eL .fz .lst T.int) x0] = rP (eL .ow .lst (eL .ow .lst T.int)) (fun _ => []) (p_heights_by x0) := by
  rw [k_heights_by]
  simp_arith only [b_heights_by, p_heights_by, S_l1_heights_by, S_l2_heights_by, d1_heights_by, d2_heights_by, u_heights_by]
theorem d1_can_rise (a0 : Int) (a1 : Int) : mkN .tup [T.int a0, T.int a1] = eP2 .fz T.int T.int (a0, a1) := rfl
def p_l1_can_rise (x4 : Int) (s : Unit) (a : Int) : O (Fl Unit Unit Bool) :=
  if (!(decide (0 ≤ x4 - a) && decide (x4 - a ≤ 1))) = true then
  O.ok (.rt false)
  else
  O.ok (.nx ())
theorem T_l1_can_rise (x0 : (List (List Int))) (x1 : Int) (x2 : Int) (x4 : Int) (s : Unit) (a : Int) : turnL (gN 5) l1_can_rise (T.int a) [.vis false (eL .fz .lst (eL .fz .lst T.int) x0), .vis false (T.int x1), .vis false (T.int x2), .un, .vis false (T.int x4), .un, .un] = kO (fun s => [.vis false (eL .fz .lst (eL .fz .lst T.int) x0), .vis false (T.int x1), .vis false (T.int x2), .un, .vis false (T.int x4), .un, .un]) T.bl (fun _ => [.un, .un, .un, .un, .un, .un, .un]) (p_l1_can_rise x4 s a) fun s => .ok .next [.vis false (eL .fz .lst (eL .fz .lst T.int) x0), .vis false (T.int x1), .vis false (T.int x2), .un, .vis false (T.int x4), .un, .un] := by
  simp_arith only [l1_can_rise, p_l1_can_rise, d1_can_rise, u_can_rise]
theorem S_l1_can_rise (x0 : (List (List Int))) (x1 : Int) (x2 : Int) (x4 : Int) (xs : List Int) : forL (gN 5) l1_can_rise (xs.map T.int) [.vis false (eL .fz .lst (eL .fz .lst T.int) x0), .vis false (T.int x1), .vis false (T.int x2), .un, .vis false (T.int x4), .un, .un] = kO (fun _ : Unit => ([] : Sl)) T.bl (fun _ => [.un, .un, .un, .un, .un, .un, .un]) (forO (p_l1_can_rise x4) () xs) fun s => .ok .next [.vis false (eL .fz .lst (eL .fz .lst T.int) x0), .vis false (T.int x1), .vis false (T.int x2), .un, .vis false (T.int x4), .un, .un] :=
  forL_M (G := fun s : Unit => [.vis false (eL .fz .lst (eL .fz .lst T.int) x0), .vis false (T.int x1), .vis false (T.int x2), .un, .vis false (T.int x4), .un, .un]) (fun _ => noLnE _) (T_l1_can_rise x0 x1 x2 x4) (fun _ : Unit => ([] : Sl)) xs ()
def p_l2_can_rise (x4 : Int) (s : Unit) (a : Int) : O (Fl Unit Unit Bool) :=
  if (!(decide (0 ≤ a - x4) && decide (a - x4 ≤ 1))) = true then
  O.ok (.rt false)
  else
  O.ok (.nx ())
theorem T_l2_can_rise (x0 : (List (List Int))) (x1 : Int) (x2 : Int) (x4 : Int) (s : Unit) (a : Int) : turnL (gN 6) l2_can_rise (T.int a) [.vis false (eL .fz .lst (eL .fz .lst T.int) x0), .vis false (T.int x1), .vis false (T.int x2), .un, .vis false (T.int x4), .un, .un] = kO (fun s => [.vis false (eL .fz .lst (eL .fz .lst T.int) x0), .vis false (T.int x1), .vis false (T.int x2), .un, .vis false (T.int x4), .un, .un]) T.bl (fun _ => [.un, .un, .un, .un, .un, .un, .un]) (p_l2_can_rise x4 s a) fun s => .ok .next [.vis false (eL .fz .lst (eL .fz .lst T.int) x0), .vis false (T.int x1), .vis false (T.int x2), .un, .vis false (T.int x4), .un, .un] := by
  simp_arith only [l2_can_rise, p_l2_can_rise, S_l1_can_rise, d1_can_rise, u_can_rise]
theorem S_l2_can_rise (x0 : (List (List Int))) (x1 : Int) (x2 : Int) (x4 : Int) (xs : List Int) : forL (gN 6) l2_can_rise (xs.map T.int) [.vis false (eL .fz .lst (eL .fz .lst T.int) x0), .vis false (T.int x1), .vis false (T.int x2), .un, .vis false (T.int x4), .un, .un] = kO (fun _ : Unit => ([] : Sl)) T.bl (fun _ => [.un, .un, .un, .un, .un, .un, .un]) (forO (p_l2_can_rise x4) () xs) fun s => .ok .next [.vis false (eL .fz .lst (eL .fz .lst T.int) x0), .vis false (T.int x1), .vis false (T.int x2), .un, .vis false (T.int x4), .un, .un] :=
  forL_M (G := fun s : Unit => [.vis false (eL .fz .lst (eL .fz .lst T.int) x0), .vis false (T.int x1), .vis false (T.int x2), .un, .vis false (T.int x4), .un, .un]) (fun _ => noLnE _) (T_l2_can_rise x0 x1 x2 x4) (fun _ : Unit => ([] : Sl)) xs ()
def p_can_rise (x0 : (List (List Int))) (x1 : Int) (x2 : Int) (x3 : Int) : OF Bool := O.top false (
  (ixO x0 x1).bind fun v1 =>
  (ixO v1 x2).bind fun v2 =>
  (ixO x0 (x1 - 1)).bind fun v3 =>
  (ixO v3 x2).bind fun v4 =>
  (ixO x0 x1).bind fun v5 =>
  (ixO v5 (x2 - 1)).bind fun v6 =>
  Fl.fin (forO (σ' := Unit) (p_l1_can_rise (v2 + x3)) () [(v4, v6).1, (v4, v6).2]) fun v7 =>
  (ixO x0 (x1 + 1)).bind fun v8 =>
  (ixO v8 x2).bind fun v9 =>
  (ixO x0 x1).bind fun v10 =>
  (ixO v10 (x2 + 1)).bind fun v11 =>
  Fl.fin (forO (σ' := Unit) (p_l2_can_rise (v2 + x3)) () [(v9, v11).1, (v9, v11).2]) fun v12 =>
  O.ok true)
theorem k_can_rise (t0 : T) (t1 : T) (t2 : T) (t3 : T) : m_can_rise [t0, t1, t2, t3] = mkR [false, false, false, false] (b_can_rise [.vis false t0, .vis false t1, .vis false t2, .vis false t3, .un, .un, .un]) := rfl
theorem S_can_rise (x0 : (List (List Int))) (x1 : Int) (x2 : Int) (x3 : Int) : m_can_rise [eL .fz .lst (eL .fz .lst T.int) x0, T.int x1, T.int x2, T.int x3] = rP T.bl (fun _ => []) (p_can_rise x0 x1 x2 x3) := by
  rw [k_can_rise]
  simp_arith only [b_can_rise, p_can_rise, S_l1_can_rise, S_l2_can_rise, d1_can_rise, u_can_rise]
def p_can_turn (x0 : (List (List Int))) (x1 : Int) (x2 : Int) (x3 : Int) : OF Bool := O.top false (
  ((p_can_rise x0 x1 x2 x3).lift u_can_turn).bind fun v1 =>
  O.ok v1)
theorem k_can_turn (t0 : T) (t1 : T) (t2 : T) (t3 : T) : m_can_turn [t0, t1, t2, t3] = mkR [false, false, false, false] (b_can_turn [.vis false t0, .vis false t1, .vis false t2, .vis false t3]) := rfl
theorem S_can_turn (x0 : (List (List Int))) (x1 : Int) (x2 : Int) (x3 : Int) : m_can_turn [eL .fz .lst (eL .fz .lst T.int) x0, T.int x1, T.int x2, T.int x3] = rP T.bl (fun _ => []) (p_can_turn x0 x1 x2 x3) := by
  rw [k_can_turn]
  simp_arith only [b_can_turn, p_can_turn, u_can_turn, S_can_rise]
theorem d1_turns_by (a0 : Int) (a1 : Int) : mkN .tup [T.int a0, T.int a1] = eP2 .fz T.int T.int (a0, a1) := rfl
def p_t1_turns_by (x0 : (List (List Int))) (x1 : (List (Int × Int × Int))) (x2 : Int) (x3 : Int) (a : Int) : O Bool :=
  ((p_can_turn x0 x2 x3 a).lift [.vis false (eL .fz .lst (eL .fz .lst T.int) x0), .vis false (eL .fz .lst (eP3 .fz T.int T.int T.int) x1), .vis false (T.int x2), .vis false (T.int x3), .vis false (T.int a)]).bind fun v3 =>
  O.ok v3
theorem d2_turns_by (a0 : Int) (a1 : Int) (a2 : Int) : mkN .tup [T.int a0, T.int a1, T.int a2] = eP3 .fz T.int T.int T.int (a0, a1, a2) := rfl
def p_e2_turns_by (x2 : Int) (x3 : Int) (a : Int) : O (Int × Int × Int) :=
  O.ok (x2, x3, a)
theorem S_e2_turns_by (x0 : (List (List Int))) (x1 : (List (Int × Int × Int))) (x2 : Int) (x3 : Int) (xs : List Int) : lcL (gN 4) t1_turns_by e2_turns_by [4] (xs.map T.int) [.vis false (eL .fz .lst (eL .fz .lst T.int) x0), .vis false (eL .fz .lst (eP3 .fz T.int T.int T.int) x1), .vis false (T.int x2), .vis false (T.int x3), .un] = lcR (eP3 .fz T.int T.int T.int) [.vis false (eL .fz .lst (eL .fz .lst T.int) x0), .vis false (eL .fz .lst (eP3 .fz T.int T.int T.int) x1), .vis false (T.int x2), .vis false (T.int x3), .un] (filO (p_t1_turns_by x0 x1 x2 x3) (p_e2_turns_by x2 x3) xs) :=
  lcL_fil (G1 := fun a : Int => [.vis false (eL .fz .lst (eL .fz .lst T.int) x0), .vis false (eL .fz .lst (eP3 .fz T.int T.int T.int) x1), .vis false (T.int x2), .vis false (T.int x3), .vis false (T.int a)]) (G2 := fun (a : Int) _ => [.vis false (eL .fz .lst (eL .fz .lst T.int) x0), .vis false (eL .fz .lst (eP3 .fz T.int T.int T.int) x1), .vis false (T.int x2), .vis false (T.int x3), .un]) (fun a => by simp_arith) (fun a => by simp_arith only [t1_turns_by, p_t1_turns_by, d1_turns_by, d2_turns_by, u_turns_by, S_can_turn]) (fun a => by simp_arith only [e2_turns_by, p_e2_turns_by, d1_turns_by, d2_turns_by, u_turns_by, S_can_turn]) (fun a => by simp_arith) (fun a b => by simp_arith) xs
def p_l3_turns_by (x0 : (List (List Int))) (x2 : Int) (s : (List (Int × Int × Int))) (a : Int) : O (List (Int × Int × Int)) :=
  (lcS (filO (p_t1_turns_by x0 s x2 a) (p_e2_turns_by x2 a) [(-1, 1).1, (-1, 1).2])).bind fun v4 =>
  (catO s v4).bind fun v5 =>
  O.ok v5
theorem T_l3_turns_by (x0 : (List (List Int))) (x2 : Int) (s : (List (Int × Int × Int))) (a : Int) : turnL (gN 3) l3_turns_by (T.int a) [.vis false (eL .fz .lst (eL .fz .lst T.int) x0), .vis false (eL .ow .lst (eP3 .fz T.int T.int T.int) s), .vis false (T.int x2), .un, .un] = bO (p_l3_turns_by x0 x2 s a) fun s => .ok .next [.vis false (eL .fz .lst (eL .fz .lst T.int) x0), .vis false (eL .ow .lst (eP3 .fz T.int T.int T.int) s), .vis false (T.int x2), .un, .un] := by
  simp_arith only [l3_turns_by, p_l3_turns_by, S_e2_turns_by, d1_turns_by, d2_turns_by, u_turns_by, S_can_turn]
theorem S_l3_turns_by (x0 : (List (List Int))) (x2 : Int) (xs : List Int) (c0 : (List (Int × Int × Int))) : forL (gN 3) l3_turns_by (xs.map T.int) [.vis false (eL .fz .lst (eL .fz .lst T.int) x0), .vis false (eL .ow .lst (eP3 .fz T.int T.int T.int) c0), .vis false (T.int x2), .un, .un] = bO (foldO (p_l3_turns_by x0 x2) c0 xs) fun s => .ok .next [.vis false (eL .fz .lst (eL .fz .lst T.int) x0), .vis false (eL .ow .lst (eP3 .fz T.int T.int T.int) s), .vis false (T.int x2), .un, .un] :=
  forL_N (G := fun s : (List (Int × Int × Int)) => [.vis false (eL .fz .lst (eL .fz .lst T.int) x0), .vis false (eL .ow .lst (eP3 .fz T.int T.int T.int) s), .vis false (T.int x2), .un, .un]) (fun _ => noLnE _) (T_l3_turns_by x0 x2) xs c0
def p_l4_turns_by (x0 : (List (List Int))) (s : (List (Int × Int × Int))) (a : Int) : O (List (Int × Int × Int)) :=
  (rgO 1 ((x0.length : Int) - 1)).bind fun v2 =>
  (foldO (p_l3_turns_by x0 a) s v2).bind fun v6 =>
  O.ok v6
theorem T_l4_turns_by (x0 : (List (List Int))) (s : (List (Int × Int × Int))) (a : Int) : turnL (gN 2) l4_turns_by (T.int a) [.vis false (eL .fz .lst (eL .fz .lst T.int) x0), .vis false (eL .ow .lst (eP3 .fz T.int T.int T.int) s), .un, .un, .un] = bO (p_l4_turns_by x0 s a) fun s => .ok .next [.vis false (eL .fz .lst (eL .fz .lst T.int) x0), .vis false (eL .ow .lst (eP3 .fz T.int T.int T.int) s), .un, .un, .un] := by
  simp_arith only [l4_turns_by, p_l4_turns_by, S_e2_turns_by, S_l3_turns_by, d1_turns_by, d2_turns_by, u_turns_by, S_can_turn]
theorem S_l4_turns_by (x0 : (List (List Int))) (xs : List Int) (c0 : (List (Int × Int × Int))) : forL (gN 2) l4_turns_by (xs.map T.int) [.vis false (eL .fz .lst (eL .fz .lst T.int) x0), .vis false (eL .ow .lst (eP3 .fz T.int T.int T.int) c0), .un, .un, .un] = bO (foldO (p_l4_turns_by x0) c0 xs) fun s => .ok .next [.vis false (eL .fz .lst (eL .fz .lst T.int) x0), .vis false (eL .ow .lst (eP3 .fz T.int T.int T.int) s), .un, .un, .un] :=
  forL_N (G := fun s : (List (Int × Int × Int)) => [.vis false (eL .fz .lst (eL .fz .lst T.int) x0), .vis false (eL .ow .lst (eP3 .fz T.int T.int T.int) s), .un, .un, .un]) (fun _ => noLnE _) (T_l4_turns_by x0) xs c0
def p_turns_by (x0 : (List (List Int))) : OF (List (Int × Int × Int)) := O.top false (
  (rgO 1 ((x0.length : Int) - 1)).bind fun v1 =>
  (foldO (p_l4_turns_by x0) ([] : List (Int × Int × Int)) v1).bind fun v7 =>
  O.ok v7)
theorem k_turns_by (t0 : T) : m_turns_by [t0] = mkR [false] (b_turns_by [.vis false t0, .un, .un, .un, .un]) := rfl
theorem S_turns_by (x0 : (List (List Int))) : m_turns_by [eL .fz .lst (eL .fz .lst T.int) x0] = rP (eL .ow .lst (eP3 .fz T.int T.int T.int)) (fun _ => []) (p_turns_by x0) := by
  rw [k_turns_by]
  simp_arith only [b_turns_by, p_turns_by, S_e2_turns_by, S_l3_turns_by, S_l4_turns_by, d1_turns_by, d2_turns_by, u_turns_by, S_can_turn]
def p_turns_of (x0 : (List (List Int))) : OF (List (Int × Int × Int)) := O.top false (
  ((p_look_at_floor x0).lift u_turns_of).bind fun v1 =>
  ((p_heights_by x0).lift u_turns_of).bind fun v2 =>
  ((p_turns_by v2).lift u_turns_of).bind fun v3 =>
  O.ok v3)
theorem k_turns_of (t0 : T) : m_turns_of [t0] = mkR [false] (b_turns_of [.vis false t0]) := rfl
theorem S_turns_of (x0 : (List (List Int))) : m_turns_of [eL .fz .lst (eL .fz .lst T.int) x0] = rP (eL .ow .lst (eP3 .fz T.int T.int T.int)) (fun _ => []) (p_turns_of x0) := by
  rw [k_turns_of]
  simp_arith only [b_turns_of, p_turns_of, u_turns_of, S_look_at_floor, S_heights_by, S_turns_by]
def p__law_whole (x0 : Int) : OF Bool := O.top false (
  O.ok true)
theorem k__law_whole (t0 : T) : m__law_whole [t0] = mkR [false] (b__law_whole [.vis false t0]) := rfl
theorem S__law_whole (x0 : Int) : m__law_whole [T.int x0] = rP T.bl (fun _ => []) (p__law_whole x0) := by
  rw [k__law_whole]
  simp_arith only [b__law_whole, p__law_whole, u__law_whole]
def p_e1__law_good (a : (List Int)) : O (List Int) :=
  O.ok a
theorem S_e1__law_good (x0 : (List (List Int))) (xs : List (List Int)) : lcL (gN 6) tOk e1__law_good [6] (xs.map (eL .fz .lst T.int)) [.vis false (eL .fz .lst (eL .fz .lst T.int) x0), .un, .un, .un, .un, .un, .un, .un] = lcR (eL .ow .lst T.int) [.vis false (eL .fz .lst (eL .fz .lst T.int) x0), .un, .un, .un, .un, .un, .un, .un] (mapO (p_e1__law_good) xs) :=
  lcL_map' (G1 := fun a : (List Int) => [.vis false (eL .fz .lst (eL .fz .lst T.int) x0), .un, .un, .un, .un, .un, .vis false (eL .fz .lst T.int a), .un]) (G2 := fun (a : (List Int)) _ => [.vis false (eL .fz .lst (eL .fz .lst T.int) x0), .un, .un, .un, .un, .un, .un, .un]) (fun a => by simp_arith) (fun a => by simp_arith only [e1__law_good, p_e1__law_good, u__law_good]) (fun a b => by simp_arith) xs
def p_e2__law_good (x0 : (List (List Int))) (x1 : (List (List Int))) (x2 : (List (Int × Int × Int))) (x4 : (List (Int × Int × Int))) (x5 : (Int × Int × Int)) (a : Int) : O Bool :=
  ((p__law_whole a).lift [.vis false (eL .fz .lst (eL .fz .lst T.int) x0), .vis false (eL .fz .lst (eL .fz .lst T.int) x1), .vis false (eL .fz .lst (eP3 .fz T.int T.int T.int) x2), .un, .hid true (eL .ow .lst (eP3 .fz T.int T.int T.int) x4), .vis false (eP3 .fz T.int T.int T.int x5), .un, .vis false (T.int a)]).bind fun v6 =>
  O.ok v6
theorem S_e2__law_good (x0 : (List (List Int))) (x1 : (List (List Int))) (x2 : (List (Int × Int × Int))) (x4 : (List (Int × Int × Int))) (x5 : (Int × Int × Int)) (xs : List Int) : lcL (gN 7) tOk e2__law_good [7] (xs.map T.int) [.vis false (eL .fz .lst (eL .fz .lst T.int) x0), .vis false (eL .fz .lst (eL .fz .lst T.int) x1), .vis false (eL .fz .lst (eP3 .fz T.int T.int T.int) x2), .un, .hid true (eL .ow .lst (eP3 .fz T.int T.int T.int) x4), .vis false (eP3 .fz T.int T.int T.int x5), .un, .un] = lcR T.bl [.vis false (eL .fz .lst (eL .fz .lst T.int) x0), .vis false (eL .fz .lst (eL .fz .lst T.int) x1), .vis false (eL .fz .lst (eP3 .fz T.int T.int T.int) x2), .un, .hid true (eL .ow .lst (eP3 .fz T.int T.int T.int) x4), .vis false (eP3 .fz T.int T.int T.int x5), .un, .un] (mapO (p_e2__law_good x0 x1 x2 x4 x5) xs) :=
  lcL_map' (G1 := fun a : Int => [.vis false (eL .fz .lst (eL .fz .lst T.int) x0), .vis false (eL .fz .lst (eL .fz .lst T.int) x1), .vis false (eL .fz .lst (eP3 .fz T.int T.int T.int) x2), .un, .hid true (eL .ow .lst (eP3 .fz T.int T.int T.int) x4), .vis false (eP3 .fz T.int T.int T.int x5), .un, .vis false (T.int a)]) (G2 := fun (a : Int) _ => [.vis false (eL .fz .lst (eL .fz .lst T.int) x0), .vis false (eL .fz .lst (eL .fz .lst T.int) x1), .vis false (eL .fz .lst (eP3 .fz T.int T.int T.int) x2), .un, .hid true (eL .ow .lst (eP3 .fz T.int T.int T.int) x4), .vis false (eP3 .fz T.int T.int T.int x5), .un, .vis false (T.int a)]) (fun a => by simp_arith) (fun a => by simp_arith only [e2__law_good, p_e2__law_good, S_e1__law_good, u__law_good, S__law_heights, S__law_turns, S_turns_of, S__law_whole]) (fun a b => by simp_arith) xs
def p_l3__law_good (x0 : (List (List Int))) (x1 : (List (List Int))) (x2 : (List (Int × Int × Int))) (x4 : (List (Int × Int × Int))) (s : Unit) (a : (Int × Int × Int)) : O (Fl Unit Unit Bool) :=
  (lcS (mapO (p_e2__law_good x0 x1 x2 x4 a) [a.1, a.2.1, a.2.2])).bind fun v7 =>
  if (!(v7.all id)) = true then
  O.ok (.rt false)
  else
  O.ok (.nx ())
theorem T_l3__law_good (x0 : (List (List Int))) (x1 : (List (List Int))) (x2 : (List (Int × Int × Int))) (x4 : (List (Int × Int × Int))) (s : Unit) (a : (Int × Int × Int)) : turnL (gN 5) l3__law_good (eP3 .fz T.int T.int T.int a) [.vis false (eL .fz .lst (eL .fz .lst T.int) x0), .vis false (eL .fz .lst (eL .fz .lst T.int) x1), .vis false (eL .fz .lst (eP3 .fz T.int T.int T.int) x2), .un, .hid true (eL .ow .lst (eP3 .fz T.int T.int T.int) x4), .un, .un, .un] = kO (fun s => [.vis false (eL .fz .lst (eL .fz .lst T.int) x0), .vis false (eL .fz .lst (eL .fz .lst T.int) x1), .vis false (eL .fz .lst (eP3 .fz T.int T.int T.int) x2), .un, .hid true (eL .ow .lst (eP3 .fz T.int T.int T.int) x4), .un, .un, .un]) T.bl (fun _ => [.un, .un, .un, .un, .hid true (eL .ow .lst (eP3 .fz T.int T.int T.int) x4), .un, .un, .un]) (p_l3__law_good x0 x1 x2 x4 s a) fun s => .ok .next [.vis false (eL .fz .lst (eL .fz .lst T.int) x0), .vis false (eL .fz .lst (eL .fz .lst T.int) x1), .vis false (eL .fz .lst (eP3 .fz T.int T.int T.int) x2), .un, .hid true (eL .ow .lst (eP3 .fz T.int T.int T.int) x4), .un, .un, .un] := by
  simp_arith only [l3__law_good, p_l3__law_good, S_e1__law_good, S_e2__law_good, u__law_good, S__law_heights, S__law_turns, S_turns_of, S__law_whole]
theorem S_l3__law_good (x0 : (List (List Int))) (x1 : (List (List Int))) (x2 : (List (Int × Int × Int))) (x4 : (List (Int × Int × Int))) : sForH 4 (gN 5) l3__law_good [.vis false (eL .fz .lst (eL .fz .lst T.int) x0), .vis false (eL .fz .lst (eL .fz .lst T.int) x1), .vis false (eL .fz .lst (eP3 .fz T.int T.int T.int) x2), .un, .vis false (eL .ow .lst (eP3 .fz T.int T.int T.int) x4), .un, .un, .un] = kO (fun s : Unit => [.vis false (eL .fz .lst (eL .fz .lst T.int) x0), .vis false (eL .fz .lst (eL .fz .lst T.int) x1), .vis false (eL .fz .lst (eP3 .fz T.int T.int T.int) x2), .un, .un, .un, .un, .un]) T.bl (fun _ => [.un, .un, .un, .un, .un, .un, .un, .un]) (forO (p_l3__law_good x0 x1 x2 x4) () x4) fun s => .ok .next [.vis false (eL .fz .lst (eL .fz .lst T.int) x0), .vis false (eL .fz .lst (eL .fz .lst T.int) x1), .vis false (eL .fz .lst (eP3 .fz T.int T.int T.int) x2), .un, .vis false (eL .ow .lst (eP3 .fz T.int T.int T.int) x4), .un, .un, .un] :=
  forH_M (e := (eP3 .fz T.int T.int T.int)) (G := fun s : Unit => [.vis false (eL .fz .lst (eL .fz .lst T.int) x0), .vis false (eL .fz .lst (eL .fz .lst T.int) x1), .vis false (eL .fz .lst (eP3 .fz T.int T.int T.int) x2), .un, .hid true (eL .ow .lst (eP3 .fz T.int T.int T.int) x4), .un, .un, .un]) (Gv := fun s : Unit => [.vis false (eL .fz .lst (eL .fz .lst T.int) x0), .vis false (eL .fz .lst (eL .fz .lst T.int) x1), .vis false (eL .fz .lst (eP3 .fz T.int T.int T.int) x2), .un, .vis false (eL .ow .lst (eP3 .fz T.int T.int T.int) x4), .un, .un, .un]) (gr := (fun _ => [.un, .un, .un, .un, .hid true (eL .ow .lst (eP3 .fz T.int T.int T.int) x4), .un, .un, .un])) (gr' := (fun _ => [.un, .un, .un, .un, .un, .un, .un, .un])) (fun s : Unit => [.vis false (eL .fz .lst (eL .fz .lst T.int) x0), .vis false (eL .fz .lst (eL .fz .lst T.int) x1), .vis false (eL .fz .lst (eP3 .fz T.int T.int T.int) x2), .un, .un, .un, .un, .un]) x4 (fun _ => rfl) (fun _ => rfl) (T_l3__law_good x0 x1 x2 x4) (fun _ => rfl) (fun _ => rfl) (fun _ => rfl) (fun _ => rfl) ()
def p_e4__law_good (a : (Int × Int × Int)) : O (Int × Int) :=
  O.ok (a.1, a.2.1)
theorem S_e4__law_good (x0 : (List (List Int))) (x1 : (List (List Int))) (x2 : (List (Int × Int × Int))) (x4 : (List (Int × Int × Int))) (xs : List (Int × Int × Int)) : lcL (gN 5) tOk e4__law_good [5] (xs.map (eP3 .fz T.int T.int T.int)) [.vis false (eL .fz .lst (eL .fz .lst T.int) x0), .vis false (eL .fz .lst (eL .fz .lst T.int) x1), .vis false (eL .fz .lst (eP3 .fz T.int T.int T.int) x2), .un, .vis false (eL .ow .lst (eP3 .fz T.int T.int T.int) x4), .un, .un, .un] = lcR (eP2 .fz T.int T.int) [.vis false (eL .fz .lst (eL .fz .lst T.int) x0), .vis false (eL .fz .lst (eL .fz .lst T.int) x1), .vis false (eL .fz .lst (eP3 .fz T.int T.int T.int) x2), .un, .vis false (eL .ow .lst (eP3 .fz T.int T.int T.int) x4), .un, .un, .un] (mapO (p_e4__law_good) xs) :=
  lcL_map' (G1 := fun a : (Int × Int × Int) => [.vis false (eL .fz .lst (eL .fz .lst T.int) x0), .vis false (eL .fz .lst (eL .fz .lst T.int) x1), .vis false (eL .fz .lst (eP3 .fz T.int T.int T.int) x2), .un, .vis false (eL .ow .lst (eP3 .fz T.int T.int T.int) x4), .vis false (eP3 .fz T.int T.int T.int a), .un, .un]) (G2 := fun (a : (Int × Int × Int)) _ => [.vis false (eL .fz .lst (eL .fz .lst T.int) x0), .vis false (eL .fz .lst (eL .fz .lst T.int) x1), .vis false (eL .fz .lst (eP3 .fz T.int T.int T.int) x2), .un, .vis false (eL .ow .lst (eP3 .fz T.int T.int T.int) x4), .vis false (eP3 .fz T.int T.int T.int a), .un, .un]) (fun a => by simp_arith) (fun a => by simp_arith only [e4__law_good, p_e4__law_good, S_e1__law_good, S_e2__law_good, S_l3__law_good, u__law_good, S__law_heights, S__law_turns, S_turns_of, S__law_whole]) (fun a b => by simp_arith) xs
theorem d1__law_good (a0 : Int) (a1 : Int) (a2 : Int) : mkN .tup [T.int a0, T.int a1, T.int a2] = eP3 .fz T.int T.int T.int (a0, a1, a2) := rfl
def p_l5__law_good (x0 : (List (List Int))) (x1 : (List (List Int))) (x2 : (List (Int × Int × Int))) (s : Unit) (a : Int) : O (Fl Unit Unit Bool) :=
  ((p_turns_of x1).lift u__law_good).bind fun v5 =>
  if ((!decide (v5 = x2)) || (!decide (x1 = x0))) = true then
  O.ok (.rt false)
  else
  Fl.seq (forO (σ' := Unit) (p_l3__law_good x0 x1 x2 v5) () v5) fun v8 =>
  (lcS (mapO p_e4__law_good v5)).bind fun v9 =>
  (lenSetO v9).bind fun v10 =>
  if (!decide (v10 = (v5.length : Int))) = true then
  O.ok (.rt false)
  else
  (appO v5 (0, 0, 1)).bind fun v11 =>
  (popAtO v11 0).bind fun v12 =>
  O.ok (.nx ())
theorem T_l5__law_good (x0 : (List (List Int))) (x1 : (List (List Int))) (x2 : (List (Int × Int × Int))) (s : Unit) (a : Int) : turnL (gN 3) l5__law_good (T.int a) [.vis false (eL .fz .lst (eL .fz .lst T.int) x0), .vis false (eL .fz .lst (eL .fz .lst T.int) x1), .vis false (eL .fz .lst (eP3 .fz T.int T.int T.int) x2), .un, .un, .un, .un, .un] = kO (fun s => [.vis false (eL .fz .lst (eL .fz .lst T.int) x0), .vis false (eL .fz .lst (eL .fz .lst T.int) x1), .vis false (eL .fz .lst (eP3 .fz T.int T.int T.int) x2), .un, .un, .un, .un, .un]) T.bl (fun _ => [.un, .un, .un, .un, .un, .un, .un, .un]) (p_l5__law_good x0 x1 x2 s a) fun s => .ok .next [.vis false (eL .fz .lst (eL .fz .lst T.int) x0), .vis false (eL .fz .lst (eL .fz .lst T.int) x1), .vis false (eL .fz .lst (eP3 .fz T.int T.int T.int) x2), .un, .un, .un, .un, .un] := by
  simp_arith only [l5__law_good, p_l5__law_good, S_e1__law_good, S_e2__law_good, S_l3__law_good, S_e4__law_good, d1__law_good, u__law_good, S__law_heights, S__law_turns, S_turns_of, S__law_whole]
theorem S_l5__law_good (x0 : (List (List Int))) (x1 : (List (List Int))) (x2 : (List (Int × Int × Int))) (xs : List Int) : forL (gN 3) l5__law_good (xs.map T.int) [.vis false (eL .fz .lst (eL .fz .lst T.int) x0), .vis false (eL .fz .lst (eL .fz .lst T.int) x1), .vis false (eL .fz .lst (eP3 .fz T.int T.int T.int) x2), .un, .un, .un, .un, .un] = kO (fun _ : Unit => ([] : Sl)) T.bl (fun _ => [.un, .un, .un, .un, .un, .un, .un, .un]) (forO (p_l5__law_good x0 x1 x2) () xs) fun s => .ok .next [.vis false (eL .fz .lst (eL .fz .lst T.int) x0), .vis false (eL .fz .lst (eL .fz .lst T.int) x1), .vis false (eL .fz .lst (eP3 .fz T.int T.int T.int) x2), .un, .un, .un, .un, .un] :=
  forL_M (G := fun s : Unit => [.vis false (eL .fz .lst (eL .fz .lst T.int) x0), .vis false (eL .fz .lst (eL .fz .lst T.int) x1), .vis false (eL .fz .lst (eP3 .fz T.int T.int T.int) x2), .un, .un, .un, .un, .un]) (fun _ => noLnE _) (T_l5__law_good x0 x1 x2) (fun _ : Unit => ([] : Sl)) xs ()
def p__law_good (x0 : (List (List Int))) : OF Bool := O.top false (
  (lcS (mapO p_e1__law_good x0)).bind fun v1 =>
  ((p__law_heights x0).lift u__law_good).bind fun v2 =>
  ((p__law_turns v2).lift u__law_good).bind fun v3 =>
  (rgO 0 2).bind fun v4 =>
  Fl.fin (forO (σ' := Unit) (p_l5__law_good x0 v1 v3) () v4) fun v13 =>
  O.ok (decide (v1 = x0)))
theorem k__law_good (t0 : T) : m__law_good [t0] = mkR [false] (b__law_good [.vis false t0, .un, .un, .un, .un, .un, .un, .un]) := rfl
theorem S__law_good (x0 : (List (List Int))) : m__law_good [eL .fz .lst (eL .fz .lst T.int) x0] = rP T.bl (fun _ => []) (p__law_good x0) := by
  rw [k__law_good]
  simp_arith only [b__law_good, p__law_good, S_e1__law_good, S_e2__law_good, S_l3__law_good, S_e4__law_good, S_l5__law_good, d1__law_good, u__law_good, S__law_heights, S__law_turns, S_turns_of, S__law_whole]
theorem d1_law (a0 : Int) : mkN .lst [T.int a0] = eL .ow .lst T.int [a0] := rfl
theorem d2_law (a0 : (List Int)) : mkN .lst [eL .ow .lst T.int a0] = eL .ow .lst (eL .ow .lst T.int) [a0] := rfl
theorem d3_law (a0 : (List (List Int))) : mkN .lst [eL .ow .lst (eL .ow .lst T.int) a0] = eL .ow .lst (eL .ow .lst (eL .ow .lst T.int)) [a0] := rfl
def p_l1_law (x0 : (List Int)) (s : (List (List (List Int)))) (a : Int) : O (List (List (List Int))) :=
  ((p__law_cell x0 a).lift u_law).bind fun v2 =>
  (p__law_take [v2] 12).mut.bind fun v3 =>
  (p__law_floor v3.2 (1 + v3.1)).mut.bind fun v4 =>
  (appO s v4.1).bind fun v5 =>
  O.ok v5
theorem T_l1_law (x0 : (List Int)) (s : (List (List (List Int)))) (a : Int) : turnL (gN 2) l1_law (T.int a) [.vis false (eL .fz .lsg T.int x0), .vis false (eL .ow .lst (eL .ow .lst (eL .ow .lst T.int)) s), .un, .un, .un] = bO (p_l1_law x0 s a) fun s => .ok .next [.vis false (eL .fz .lsg T.int x0), .vis false (eL .ow .lst (eL .ow .lst (eL .ow .lst T.int)) s), .un, .un, .un] := by
  simp_arith only [l1_law, p_l1_law, d1_law, d2_law, d3_law, u_law, S__law_cell, S__law_take, S__law_floor]
theorem S_l1_law (x0 : (List Int)) (xs : List Int) (c0 : (List (List (List Int)))) : forL (gN 2) l1_law (xs.map T.int) [.vis false (eL .fz .lsg T.int x0), .vis false (eL .ow .lst (eL .ow .lst (eL .ow .lst T.int)) c0), .un, .un, .un] = bO (foldO (p_l1_law x0) c0 xs) fun s => .ok .next [.vis false (eL .fz .lsg T.int x0), .vis false (eL .ow .lst (eL .ow .lst (eL .ow .lst T.int)) s), .un, .un, .un] :=
  forL_N (G := fun s : (List (List (List Int))) => [.vis false (eL .fz .lsg T.int x0), .vis false (eL .ow .lst (eL .ow .lst (eL .ow .lst T.int)) s), .un, .un, .un]) (fun _ => noLnE _) (T_l1_law x0) xs c0
def p_e2_law (x1 : (List (List (List Int)))) (a : (List (List Int))) : O Bool :=
  ((p__law_good a).lift [.un, .vis false (eL .ow .lst (eL .ow .lst (eL .ow .lst T.int)) x1), .un, .un, .vis false (eL .ln .lst (eL .ln .lst T.int) a)]).bind fun v8 =>
  O.ok v8
theorem S_e2_law (x1 : (List (List (List Int)))) (xs : List (List (List Int))) : lcL (gN 4) tOk e2_law [4] (xs.map (eL .ln .lst (eL .ln .lst T.int))) [.un, .vis false (eL .ow .lst (eL .ow .lst (eL .ow .lst T.int)) x1), .un, .un, .un] = lcR T.bl [.un, .vis false (eL .ow .lst (eL .ow .lst (eL .ow .lst T.int)) x1), .un, .un, .un] (mapO (p_e2_law x1) xs) :=
  lcL_map' (G1 := fun a : (List (List Int)) => [.un, .vis false (eL .ow .lst (eL .ow .lst (eL .ow .lst T.int)) x1), .un, .un, .vis false (eL .ln .lst (eL .ln .lst T.int) a)]) (G2 := fun (a : (List (List Int))) _ => [.un, .vis false (eL .ow .lst (eL .ow .lst (eL .ow .lst T.int)) x1), .un, .un, .vis false (eL .ln .lst (eL .ln .lst T.int) a)]) (fun a => by simp_arith) (fun a => by simp_arith only [e2_law, p_e2_law, S_l1_law, d1_law, d2_law, d3_law, u_law, S__law_cell, S__law_take, S__law_floor, S__law_good]) (fun a b => by simp_arith) xs
def p_law (x0 : (List Int)) : OF Bool := O.top false (
  (rgO 0 4).bind fun v1 =>
  (foldO (p_l1_law x0) [[[1]]] v1).bind fun v6 =>
  (catO v6 (cutI v6 (some 1) (some 2))).bind fun v7 =>
  (lcS (mapO (p_e2_law v6) v7)).bind fun v9 =>
  O.ok (v9.all id))
theorem k_law (t0 : T) : m_law [t0] = mkR [false] (b_law [.vis false t0, .un, .un, .un, .un]) := rfl
theorem S_law (x0 : (List Int)) : m_law [eL .fz .lsg T.int x0] = rP T.bl (fun _ => []) (p_law x0) := by
  rw [k_law]
  simp_arith only [b_law, p_law, S_l1_law, S_e2_law, d1_law, d2_law, d3_law, u_law, S__law_cell, S__law_take, S__law_floor, S__law_good]
end LW
set_option Elab.async false
set_option linter.all false
set_option maxRecDepth 100000
set_option maxHeartbeats 4000000
namespace LW
open PySem PySem.Spec L2 TV
def mixI (c k : Int) : Int :=
  let n := (c % 2147483647 * 48271 + k * 69621 + 1048583) % 2147483629
  let n := n * n % 2147483587
  n * (n + 2) % 2147483579
theorem mixI_nn (c k : Int) : 0 ≤ mixI c k := Int.emod_nonneg _ (by decide)
theorem p_mixed (c k : Int) : p__law_mixed c k = .ok (mixI c k) := by
  unfold p__law_mixed mixI
  have hn : ∃ n : Int, n = (c % 2147483647 * 48271 + k * 69621 + 1048583) % 2147483629 ∧ 0 ≤ n ∧ n < 2147483629 := ⟨_, rfl, by omega, by omega⟩
  obtain ⟨n, e, h1, h2⟩ := hn
  have hm : ∃ m : Int, m = n * n % 2147483587 ∧ 0 ≤ m ∧ m < 2147483587 := ⟨_, rfl, by omega, by omega⟩
  obtain ⟨m, e2, h3, h4⟩ := hm
  rw [modO_ok (by decide), obind_ok, mulO_b (by decide) (by decide), obind_ok, mulO_b (by decide) (by decide), obind_ok, modO_ok (by decide), obind_ok, ← e, mulO_a (by omega) (by omega), obind_ok, modO_ok (by decide), obind_ok, ← e2, mulO_a (by omega) (by omega), obind_ok, modO_ok (by decide), obind_ok, e2, e]
  rfl
theorem c60a : cMul (10 ^ 60) (10 ^ 60) = true := by decide +kernel
theorem c60b : cMul (10 ^ 60 * 10 ^ 60) (10 ^ 60) = true := by decide +kernel
theorem c60c : cMul (10 ^ 60 * 10 ^ 60 * 10 ^ 60) (10 ^ 60) = true := by decide +kernel
theorem pow60 : powO 10 60 = .ok (10 ^ 60) := if_pos (by decide)
theorem pow18 : powO 10 18 = .ok (10 ^ 18) := if_pos (by decide)
/-- what a cell gives: some number that is not negative -/
theorem p_cell (ns : List Int) (h : ns.length ≤ 63) (k : Nat) : ∃ z : Int, 0 ≤ z ∧ p__law_cell ns (k : Int) = .ok z := by
  obtain ⟨c, hc⟩ : ∃ c, p_i1__law_cell ns (k : Int) 0 = .ok c := by
    unfold p_i1__law_cell
    by_cases hk : k < ns.length
    · rw [if_pos (by simp; exact hk), ixO_getD (d := 0) rfl hk, obind_ok]; exact ⟨_, rfl⟩
    · rw [if_neg (by simp; omega)]; exact ⟨_, rfl⟩
  unfold p__law_cell
  rw [hc, obind_ok, pow18, obind_ok]
  by_cases hb : (10 : Int) ^ 18 ≤ c
  · rw [if_pos (by simpa using hb), obind_ok, pow60, obind_ok, obind_ok, mulO_c c60a, obind_ok, obind_ok, mulO_c c60b, obind_ok, obind_ok, mulO_c c60c, obind_ok, modO_ok (by decide +kernel), obind_ok]
    exact ⟨_, Int.emod_nonneg _ (by decide +kernel), rfl⟩
  · rw [if_neg (by simpa using hb), rgO_nat (N := 24) (n := 24) rfl (by decide), obind_ok]
    obtain ⟨s, e, hs⟩ := foldO_inv (p := p_l2__law_cell (k : Int) c) (fun _ s => 0 ≤ s) (rgI 0 24) 0 (by decide) fun i x s hx hs => by
      obtain ⟨hi, rfl⟩ := rgI_get0 hx
      unfold p_l2__law_cell
      rw [mulO_b (by decide) (by decide), obind_ok, mulO_a (by decide) (by decide), obind_ok, mulO_a (by decide) (by decide), obind_ok, mulO_a (by omega) (by omega), obind_ok, p_mixed, z_lift, obind_ok]
      refine ⟨_, rfl, ?_⟩
      have := mixI_nn c (7 * (k : Int) + 100 * (i : Int) + (i : Int) * (i : Int))
      omega
    rw [e, obind_ok]
    exact ⟨s, hs, rfl⟩
theorem p_take (z n : Int) (h : 0 < n) (h2 : n < 18446744073709551616) : p__law_take [z] n = .ok (z % n, [z / n]) := by
  unfold p__law_take
  have e : ixO [z] 0 = .ok z := rfl
  have e2 : setO [z] 0 (z / n) = .ok [z / n] := rfl
  rw [e, obind_ok, modO_ok h, obind_ok, obind_ok, divO_ok h h2, obind_ok, e2, obind_ok]; rfl
theorem p_row_in (n : Nat) (hn : n ≤ 12) : ∀ (l : List Int) (a : Int) (p : Int) (acc : List Int), (a :: l).Pairwise (· < ·) → (∀ c ∈ a :: l, 0 ≤ c ∧ c < n) → acc.Pairwise (· < ·) → (∀ c ∈ acc, 0 ≤ c ∧ c ≤ a) → acc.length + l.length ≤ 12 →
    ∃ (p' : Int) (q : List Int), Betw q (a :: l) ∧ q.length = l.length ∧ (acc ++ q).Pairwise (· < ·) ∧ (∀ c ∈ acc ++ q, 0 ≤ c ∧ c < n) ∧ foldO p_l3__law_floor ([p], acc) ((a :: l).zip l) = .ok ([p'], acc ++ q)
  | [], a, p, acc, hp, hr, ha, hb, hl => ⟨p, [], trivial, rfl, by rwa [List.append_nil], fun c hcm => by
      rw [List.append_nil] at hcm
      have := hb c hcm; have := hr a (by simp); omega, by rw [List.append_nil]; rfl⟩
  | b :: l, a, p, acc, hp, hr, ha, hb, hl => by
    have hab : a < b := (List.pairwise_cons.mp hp).1 b (by simp)
    have ha0 := hr a (by simp)
    have hb0 := hr b (by simp)
    obtain ⟨w, ew, w1, w2, w3⟩ : ∃ w : Int, p_i2__law_floor acc a a = .ok w ∧ a ≤ w ∧ w ≤ b ∧ ∀ c ∈ acc, c < w := by
      unfold p_i2__law_floor p_x1__law_floor
      rcases List.eq_nil_or_concat acc with rfl | ⟨acc0, z, rfl⟩
      · rw [if_neg (by simp), obind_ok, if_neg (by decide)]
        exact ⟨a, rfl, by omega, by omega, fun c hcm => by cases hcm⟩
      · rw [List.concat_eq_append] at *
        have hz := (List.pairwise_append.mp ha).2.2
        have hza := hb z (by simp)
        rw [if_pos (by simp), ixO_last, obind_ok, obind_ok]
        by_cases he : z = a
        · rw [if_pos (by simpa using he)]
          refine ⟨a + 1, rfl, by omega, by omega, fun c hcm => ?_⟩
          have := hb c hcm; omega
        · rw [if_neg (by simpa using he)]
          refine ⟨a, rfl, by omega, by omega, fun c hcm => ?_⟩
          rcases List.mem_append.mp hcm with h | h
          · have := hz c h z (by simp); omega
          · rw [List.mem_singleton.mp h]; omega
    have hd0 : 0 ≤ p % (b - w + 1) := Int.emod_nonneg _ (by omega)
    have hd1 : p % (b - w + 1) < b - w + 1 := Int.emod_lt_of_pos _ (by omega)
    obtain ⟨x, hx⟩ : ∃ x, x = w + p % (b - w + 1) := ⟨_, rfl⟩
    obtain ⟨p', q, h1, h2, h3, h4, h5⟩ := p_row_in n hn l b (p / (b - w + 1)) (acc ++ [x]) hp.tail (fun c hcm => hr c (List.mem_cons_of_mem _ hcm)) (by
        rw [List.pairwise_append]
        refine ⟨ha, by simp, fun c hcm y hy => ?_⟩
        rw [List.mem_singleton.mp hy]
        have := w3 c hcm; omega) (fun c hcm => by
        rcases List.mem_append.mp hcm with h | h
        · have := hb c h; omega
        · rw [List.mem_singleton.mp h]; omega) (by simp at hl ⊢; omega)
    have hlen : acc.length < 16777216 := by simp at hl; omega
    refine ⟨p', x :: q, ⟨by omega, by omega, h1⟩, by simp [h2], by simpa using h3, by simpa using h4, ?_⟩
    rw [List.zip_cons_cons]
    unfold foldO
    have : p_l3__law_floor ([p], acc) (a, b) = .ok ([p / (b - w + 1)], acc ++ [x]) := by
      unfold p_l3__law_floor
      dsimp only
      rw [ew, obind_ok, p_take _ _ (by omega) (by omega), z_mut, obind_ok, appO_ok hlen, obind_ok, hx]
    rw [this, obind_ok, h5]
    simp
theorem p_row (n : Nat) (hn : n ≤ 12) (r : List Int) (p : Int) (hr : Rise n r) (hl : 2 ≤ r.length) (hl2 : r.length ≤ 12) : ∃ (p' : Int) (q : List Int), Betw q r ∧ q.length + 1 = r.length ∧ Rise n q ∧ foldO p_l3__law_floor ([p], ([] : List Int)) (r.zip (cutI r (some 1) none)) = .ok ([p'], q) := by
  cases r with
  | nil => simp at hl
  | cons a l =>
    obtain ⟨p', q, h1, h2, h3, h4, h5⟩ := p_row_in n hn l a p [] hr.1 hr.2 .nil (fun c hcm => by cases hcm) (by simp at hl2 ⊢; omega)
    refine ⟨p', q, h1, by simp [h2], ⟨h3, h4⟩, ?_⟩
    rw [cut_tail]; exact h5
/-- the rows from m on -/
structure TriM (n m : Nat) (R : Nat → List Int) : Prop where
  len : ∀ i, m ≤ i → i ≤ n → (R i).length = i
  rise : ∀ i, m ≤ i → i ≤ n → Rise n (R i)
  betw : ∀ i, m ≤ i → i < n → Betw (R i) (R (i + 1))
  last : R n = rw1 n fun i => (i : Int)
theorem p_tri (n : Nat) (hn : n ≤ 12) : ∀ (m : Nat) (fu : Nat) (p : Int) (R : Nat → List Int), m + 1 ≤ n → m < fu → TriM n (m + 1) R →
    ∃ (p' : Int) (R' : Nat → List Int), TriM n 1 R' ∧ whileO p_w4__law_floor p_l5__law_floor fu ([p], rw1 (n - m) fun i => R (m + 1 + i)) = .ok ([p'], rw1 n fun i => R' (1 + i))
  | 0, 0, p, R, h1, h2, h3 => by omega
  | 0, fu + 1, p, R, h1, h2, T => by
    refine ⟨p, R, T, ?_⟩
    unfold whileO p_w4__law_floor
    dsimp only
    rw [ix_rw0 (by omega), obind_ok, T.len 1 (by omega) (by omega), obind_ok, if_neg (by decide)]
    simp
  | m + 1, 0, p, R, h1, h2, h3 => by omega
  | m + 1, fu + 1, p, R, h1, h2, T => by
    have hl := T.len (m + 1 + 1) (by omega) (by omega)
    obtain ⟨p', q, b1, b2, b3, b4⟩ := p_row n hn (R (m + 1 + 1)) p (T.rise _ (by omega) (by omega)) (by omega) (by omega)
    have T' : TriM n (m + 1) (fun i => if i = m + 1 then q else R i) := by
      refine ⟨fun i a b => ?_, fun i a b => ?_, fun i a b => ?_, ?_⟩
      · by_cases hi : i = m + 1
        · simp only [hi, if_true]; omega
        · simp only [hi, if_false]; exact T.len i (by omega) b
      · by_cases hi : i = m + 1
        · simp only [hi, if_true]; exact b3
        · simp only [hi, if_false]; exact T.rise i (by omega) b
      · by_cases hi : i = m + 1
        · subst hi
          simp only [if_true, show ¬ (m + 1 + 1 = m + 1) by omega, if_false]; exact b1
        · simp only [hi, if_false, show ¬ (i + 1 = m + 1) by omega]; exact T.betw i (by omega) b
      · simp only [show ¬ (n = m + 1) by omega, if_false]; exact T.last
    obtain ⟨p2, R2, T2, e2⟩ := p_tri n hn m fu p' _ (by omega) (by omega) T'
    refine ⟨p2, R2, T2, ?_⟩
    rw [← e2]
    have hw : p_w4__law_floor ([p], rw1 (n - (m + 1)) fun i => R (m + 1 + 1 + i)) = .ok true := by
      unfold p_w4__law_floor
      dsimp only
      rw [ix_rw0 (by omega), obind_ok]
      congr 1
      rw [Nat.add_zero, hl]
      simp; omega
    have hb : p_l5__law_floor ([p], rw1 (n - (m + 1)) fun i => R (m + 1 + 1 + i)) = .ok ([p'], rw1 (n - m) fun i => if m + 1 + i = m + 1 then q else R (m + 1 + i)) := by
      unfold p_l5__law_floor
      dsimp only
      rw [ix_rw0 (by omega), obind_ok, obind_ok, Nat.add_zero, b4, obind_ok]
      have hi : insO (rw1 (n - (m + 1)) fun i => R (m + 1 + 1 + i)) 0 q = .ok (rw1 (n - m) fun i => if m + 1 + i = m + 1 then q else R (m + 1 + i)) := by
        unfold insO
        rw [if_pos ⟨by rw [rw1_len, szL]; omega, by decide, by decide⟩]
        congr 1
        apply rw1_of (by simp [rw1_len]; omega)
        intro i hi
        cases i with
        | zero => simp
        | succ i =>
          have : ¬ (m + 1 + (i + 1) = m + 1) := by omega
          simp only [this, if_false]
          show ([q] ++ List.drop 0 (rw1 (n - (m + 1)) fun i => R (m + 1 + 1 + i)))[i + 1]? = _
          rw [List.drop_zero, List.singleton_append, List.getElem?_cons_succ, rw1_get (by omega)]
          congr 2; omega
      rw [hi, obind_ok]
    rw [whileO.eq_def]
    dsimp only
    rw [hw, obind_ok, if_pos rfl, hb, obind_ok]
theorem b2I_ite (c : Prop) [Decidable c] : b2I (decide c) = if c then 1 else 0 := by unfold b2I; by_cases h : c <;> simp [h]
theorem p_floor (n : Nat) (h1 : 1 ≤ n) (hn : n ≤ 12) (pile N : Int) (hN : N = (n : Int)) : ∃ (h : Nat → Nat → Int) (p' : Int), HT n h ∧ p__law_floor [pile] N = .ok (fl n h, [p']) := by
  have T0 : TriM n (n - 1 + 1) (fun i => rw1 n fun i => (i : Int)) := by
    refine ⟨fun i a b => by rw [rw1_len]; omega, fun i a b => ⟨?_, fun c hcm => ?_⟩, fun i a b => by omega, rfl⟩
    · unfold rw1
      rw [List.pairwise_map]
      exact List.pairwise_lt_range.imp fun h => by omega
    · obtain ⟨i, hi, rfl⟩ := rw1_mem hcm; omega
  obtain ⟨p', R, T, e⟩ := p_tri n hn (n - 1) 1000 pile _ (by omega) (by omega) T0
  have e0 : (rw1 (n - (n - 1)) fun i => rw1 n fun i => (i : Int)) = [rw1 n fun i => (i : Int)] := by
    rw [show n - (n - 1) = 1 by omega]; rfl
  rw [e0] at e
  have hT : Tri n (fun i => if i = 0 then [] else R i) := by
    refine ⟨fun i a => ?_, fun i a => ?_, fun i a => ?_, ?_⟩
    · by_cases hi : i = 0
      · simp [hi]
      · simp only [hi, if_false]; exact T.len i (by omega) a
    · by_cases hi : i = 0
      · simp only [hi, if_true]; exact ⟨.nil, fun c hcm => by cases hcm⟩
      · simp only [hi, if_false]; exact T.rise i (by omega) a
    · by_cases hi : i = 0
      · subst hi
        simp only [if_true, show ¬ (0 + 1 = 0) by omega, if_false]
        have := T.len 1 (by omega) (by omega)
        obtain ⟨x, hx⟩ := List.length_eq_one_iff.mp this
        show Betw [] (R 1)
        rw [hx]; trivial
      · simp only [hi, if_false, show ¬ (i + 1 = 0) by omega]; exact T.betw i (by omega) a
    · simp only [show ¬ n = 0 by omega, if_false]; exact T.last
  generalize hR : (fun i => if i = 0 then [] else R i) = R0 at hT
  have eR : (rw1 n fun i => R (1 + i)) = rw1 n fun i => R0 (i + 1) := rw1_congr fun i hi => by
    rw [← hR]; simp only [show ¬ (i + 1 = 0) by omega, if_false]; rw [Nat.add_comm]
  refine ⟨fun i j => hc (R0 i) j, p', hT.ht, ?_⟩
  unfold p__law_floor
  rw [lsO_nat hN (by omega), obind_ok, e, obind_ok, eR]
  dsimp only
  have hf := fold_rw (p := p_l7__law_floor N) (n := n) (x := fun i => R0 (i + 1)) (fun i => (rw1 i (fun i => rw1 n fun j => cel (fun i j => hc (R0 i) j) i j), R0 i)) fun i hi => by
    unfold p_l7__law_floor
    dsimp only
    rw [rgO_rw hN (by omega), obind_ok, lc_rw (f := p_e6__law_floor (R0 i) (R0 (i + 1))) (fun j => cel (fun i j => hc (R0 i) j) i j) (by omega) (fun j hj => by
      unfold p_e6__law_floor cel
      have a := hc_step (hT.rise (i + 1) (by omega)).1 j
      have b := hc_step (hT.rise i (by omega)).1 j
      rw [b2I_ite, b2I_ite]
      show O.ok _ = O.ok (hc (R0 (i + 1)) (j + 1) - hc (R0 (i + 1)) j - hc (R0 i) (j + 1) + hc (R0 i) j)
      congr 1
      omega), obind_ok, app_rw (f := fun i => rw1 n fun j => cel (fun i j => hc (R0 i) j) i j) (by omega) rfl, obind_ok]
  have h0 : R0 0 = [] := by rw [← hR]; rfl
  rw [h0] at hf
  have hf' : foldO (p_l7__law_floor N) (([] : List (List Int)), ([] : List Int)) (rw1 n fun i => R0 (i + 1)) = _ := hf
  rw [hf', obind_ok]
  rfl
theorem p_from (i a b : Int) (h : a ≤ i ∧ i ≤ b) : p_is_from i a b = .ok true := by
  unfold p_is_from p_is_number
  rw [z_top, z_lift, obind_ok]; simp [h, z_top]
theorem p_size (N : Int) (h : 1 ≤ N ∧ N ≤ 12) : p_is_size N = .ok true := by
  unfold p_is_size; rw [p_from N 1 12 h, z_lift, obind_ok]; rfl
theorem p_takes (n : Nat) (c S : Nat → Int) (h0 : S 0 = 0) (hn : S n = 1) (hs : ∀ i, i < n → S (i + 1) = S i + c i ∧ 0 ≤ S (i + 1) ∧ S (i + 1) ≤ 1) : p_takes_turns (rw1 n c) = .ok true := by
  unfold p_takes_turns
  have e := for_rw (σ' := Unit) (p := p_l1_takes_turns) (n := n) (x := c) S fun i hi => by
    obtain ⟨a, b, d⟩ := hs i hi
    unfold p_l1_takes_turns
    rw [← a, if_neg (by simp [b, d])]
  rw [h0, hn] at e
  rw [e, z_fin]; rfl
theorem p_column (n m : Nat) (f : Nat → Nat → Int) (hn : n ≤ 16777216) (j : Nat) (hj : j < m) (J : Int) (hJ : J = (j : Int)) : p_column_of (tab n m f) J = .ok (rw1 n fun i => f i j) := by
  unfold p_column_of tab
  rw [lc_rw (fun i => f i j) hn fun i hi => by unfold p_e1_column_of; rw [ix_rw hJ hj, obind_ok], obind_ok]; rfl
theorem fl_len {n : Nat} {h : Nat → Nat → Int} : (fl n h).length = n := rw1_len
theorem p_isfloor (n : Nat) (h1 : 1 ≤ n) (hn : n ≤ 12) (h : Nat → Nat → Int) (H : HT n h) : p_is_floor (fl n h) = .ok true := by
  unfold p_is_floor
  have hsz : p_is_size ((fl n h).length : Int) = .ok true := by rw [fl_len]; exact p_size n (by omega)
  rw [hsz, z_lift, obind_ok, if_neg (by decide), forU, z_fin]
  · obtain ⟨ys, e, f⟩ := lcAll_rw (f := p_e4_is_floor (fl n h)) (n := n) (x := fun i => rw1 n (cel h i)) (by omega) fun i hi => by
      unfold p_e4_is_floor
      rw [p_takes n (cel h i) (fun j => h (i + 1) j - h i j) (by have := H.c0 i (by omega); have := H.c0 (i + 1) (by omega); omega) (by have := H.cn i (by omega); have := H.cn (i + 1) (by omega); omega) (fun j hj => by
        have := H.dc i (j + 1) (by omega) (by omega)
        unfold cel
        omega), z_lift, obind_ok]
    have e' : lcS (mapO (p_e4_is_floor (fl n h)) (fl n h)) = .ok ys := e
    rw [e', obind_ok, f, if_neg (by decide), fl_len, rgO_rw rfl (by omega), obind_ok]
    obtain ⟨ys, e, f⟩ := lcAll_rw (f := p_e5_is_floor (fl n h)) (n := n) (x := fun i => (i : Int)) (by omega) fun j hj => by
      unfold p_e5_is_floor
      have hc : p_column_of (fl n h) (j : Int) = _ := p_column n n (cel h) (by omega) j hj _ rfl
      rw [hc, z_lift, obind_ok, p_takes n (fun i => cel h i j) (fun i => h i (j + 1) - h i j) (by have := H.r0 j (by omega); have := H.r0 (j + 1) (by omega); omega) (by have := H.rn j (by omega); have := H.rn (j + 1) (by omega); omega) (fun i hi => by
        have := H.dr (i + 1) j (by omega) (by omega)
        unfold cel
        omega), z_lift, obind_ok]
    rw [e, obind_ok, f]; rfl
  · intro x hx
    obtain ⟨i, hi, rfl⟩ := rw1_mem hx
    refine .inl ?_
    unfold p_l3_is_floor p_x2_is_floor
    obtain ⟨ys, e, f⟩ := lcAll_rw (f := p_e1_is_floor (fl n h) (rw1 n (cel h i))) (n := n) (x := cel h i) (by omega) fun j hj => by
      unfold p_e1_is_floor
      have := cel_le H hi hj
      rw [p_from _ _ _ this, z_lift, obind_ok]
    rw [rw1_len, fl_len, if_neg (by simp), e, obind_ok, f, obind_ok, if_neg (by decide)]
theorem p_lookf (n : Nat) (h1 : 1 ≤ n) (hn : n ≤ 12) (h : Nat → Nat → Int) (H : HT n h) : p_look_at_floor (fl n h) = .ok () := by
  unfold p_look_at_floor
  rw [p_isfloor n h1 hn h H, z_lift, obind_ok, if_neg (by decide)]; rfl
theorem p_hby (n : Nat) (hn : n ≤ 12) (h : Nat → Nat → Int) (H : HT n h) : p_heights_by (fl n h) = .ok (ht n h) := by
  unfold p_heights_by
  rw [fl_len, repO_rw (n := n + 1) (by omega) (by omega), obind_ok]
  have e0 : (rw1 (n + 1) fun _ => (0 : Int)) = rw1 (n + 1) (h 0) := rw1_congr fun j hj => (H.r0 j (by omega)).symm
  rw [e0]
  have e := fold_rw (p := p_l2_heights_by) (n := n) (x := fun i => rw1 n (cel h i)) (fun i => rw1 (i + 1) fun i => rw1 (n + 1) (h i)) fun i hi => by
    unfold p_l2_heights_by
    rw [ix_rwl, obind_ok, cut_rw1, zip_rw]
    have e := fold_rw (p := p_l1_heights_by) (n := n) (x := fun j => (cel h i j, h i (j + 1))) (fun j => (rw1 (j + 1) (h (i + 1)), h (i + 1) j - h i j)) fun j hj => by
      unfold p_l1_heights_by
      dsimp only
      rw [app_rw (by omega) (by unfold cel; omega), obind_ok]
      congr 2
      unfold cel; omega
    have z1 : h (i + 1) 0 = 0 := H.c0 (i + 1) (by omega)
    have z2 : h i 0 = 0 := H.c0 i (by omega)
    have e' : foldO p_l1_heights_by ([0], 0) (rw1 n fun j => (cel h i j, h i (j + 1))) = .ok (rw1 (n + 1) (h (i + 1)), h (i + 1) n - h i n) := by
      have e3 : (([0], 0) : List Int × Int) = (rw1 (0 + 1) (h (i + 1)), h (i + 1) 0 - h i 0) := by rw [z1, z2]; unfold rw1; simp [z1]
      rw [e3]; exact e
    rw [e', obind_ok, app_rw (f := fun i => rw1 (n + 1) (h i)) (by omega) rfl, obind_ok]
  have e' : foldO p_l2_heights_by [rw1 (n + 1) (h 0)] (fl n h) = .ok (ht n h) := e
  rw [e', obind_ok]; rfl
theorem two_for {p : Unit → Int → O (Fl Unit Unit Bool)} {a b : Int} {A B : Bool} (h1 : p () a = if A = true then .ok (.nx ()) else .ok (.rt false)) (h2 : p () b = if B = true then .ok (.nx ()) else .ok (.rt false)) : forO (σ' := Unit) p () [a, b] = if (A && B) = true then .ok (.nx ()) else .ok (.rt false) := by
  unfold forO; rw [h1]
  cases A with
  | false => rfl
  | true =>
    rw [if_pos rfl]
    unfold forO
    dsimp only
    rw [h2]
    cases B <;> rfl
theorem not_ite {α : Type} {c : Bool} {a b : O α} : (if (!c) = true then a else b) = if c = true then b else a := by cases c <;> rfl
theorem fin_ite {c : Bool} {k : Unit → O Bool} : Fl.fin (if c = true then (.ok (.nx () : Fl Unit Unit Bool)) else .ok (.rt false)) k = if c = true then k () else .ok false := by cases c <;> rfl
theorem ht_ix {n : Nat} {h : Nat → Nat → Int} {i : Nat} {K : Int} (hK : K = (i : Int)) (hi : i ≤ n) : ixO (ht n h) K = .ok (rw1 (n + 1) (h i)) := ix_rw hK (by omega)
theorem p_canrise (n : Nat) (h : Nat → Nat → Int) (i j : Nat) (by' : Int) (c : Inn n i j) : p_can_rise (ht n h) (i : Int) (j : Int) by' = .ok (decide (lo h i j ≤ h i j + by') && decide (h i j + by' ≤ hi h i j)) := by
  obtain ⟨c1, c2, c3, c4⟩ := c
  unfold p_can_rise
  rw [ht_ix rfl (by omega), obind_ok, ix_rw rfl (by omega), obind_ok, ht_ix (i := i - 1) (by omega) (by omega), obind_ok, ix_rw rfl (by omega), obind_ok, obind_ok, ix_rw (i := j - 1) (by omega) (by omega), obind_ok]
  dsimp only
  rw [two_for (p := p_l1_can_rise (h i j + by')) (A := decide (0 ≤ h i j + by' - h (i - 1) j) && decide (h i j + by' - h (i - 1) j ≤ 1)) (B := decide (0 ≤ h i j + by' - h i (j - 1)) && decide (h i j + by' - h i (j - 1) ≤ 1)) (by unfold p_l1_can_rise; exact not_ite) (by unfold p_l1_can_rise; exact not_ite), fin_ite]
  rw [ht_ix (i := i + 1) (by omega) (by omega), obind_ok, ix_rw rfl (by omega), obind_ok, obind_ok, ix_rw (i := j + 1) (by omega) (by omega), obind_ok]
  rw [two_for (p := p_l2_can_rise (h i j + by')) (A := decide (0 ≤ h (i + 1) j - (h i j + by')) && decide (h (i + 1) j - (h i j + by') ≤ 1)) (B := decide (0 ≤ h i (j + 1) - (h i j + by')) && decide (h i (j + 1) - (h i j + by') ≤ 1)) (by unfold p_l2_can_rise; exact not_ite) (by unfold p_l2_can_rise; exact not_ite), fin_ite]
  have key : (decide (lo h i j ≤ h i j + by') && decide (h i j + by' ≤ hi h i j)) = ((decide (0 ≤ h i j + by' - h (i - 1) j) && decide (h i j + by' - h (i - 1) j ≤ 1) && (decide (0 ≤ h i j + by' - h i (j - 1)) && decide (h i j + by' - h i (j - 1) ≤ 1))) && (decide (0 ≤ h (i + 1) j - (h i j + by')) && decide (h (i + 1) j - (h i j + by') ≤ 1) && (decide (0 ≤ h i (j + 1) - (h i j + by')) && decide (h i (j + 1) - (h i j + by') ≤ 1)))) := by
    rw [Bool.eq_iff_iff]
    simp only [Bool.and_eq_true, decide_eq_true_eq]
    unfold lo hi
    omega
  rw [key]
  generalize (decide (0 ≤ h i j + by' - h (i - 1) j) && decide (h i j + by' - h (i - 1) j ≤ 1) && (decide (0 ≤ h i j + by' - h i (j - 1)) && decide (h i j + by' - h i (j - 1) ≤ 1))) = x
  generalize (decide (0 ≤ h (i + 1) j - (h i j + by')) && decide (h (i + 1) j - (h i j + by') ≤ 1) && (decide (0 ≤ h i (j + 1) - (h i j + by')) && decide (h i (j + 1) - (h i j + by') ≤ 1))) = y
  cases x <;> cases y <;> rfl
/-- the turns at a place -/
def tt (h : Nat → Nat → Int) (i j : Nat) : List (Int × Int × Int) := ([-1, 1].filter fun a => decide (lo h i j ≤ h i j + a) && decide (h i j + a ≤ hi h i j)).map fun a => ((i : Int), (j : Int), a)
theorem tt_len (h : Nat → Nat → Int) (i j : Nat) : (tt h i j).length ≤ 2 := by
  unfold tt; rw [List.length_map]; exact Nat.le_trans (List.length_filter_le _ _) (by simp)
def tts (n : Nat) (h : Nat → Nat → Int) : List (Int × Int × Int) := (List.range (n - 1)).flatMap fun i => (List.range (n - 1)).flatMap fun j => tt h (i + 1) (j + 1)
theorem rg1_rw {n : Nat} (h1 : 1 ≤ n) {N : Int} (hN : N = (n : Int)) (hn : n ≤ 12) : rgO 1 N = .ok (rw1 (n - 1) fun i => ((i + 1 : Nat) : Int)) := by
  rw [rgO_ok (by omega) (by omega) (by omega) (by omega)]
  unfold rgI rw1
  rw [show (N - 1).toNat = n - 1 by omega]
  congr 1
  apply List.map_congr_left
  intro i _; omega
theorem flat_take {β : Type} {m k : Nat} {F : Nat → List β} (hk : k < m) : (List.range (k + 1)).flatMap F = (List.range k).flatMap F ++ F k := by rw [List.range_succ, List.flatMap_append]; simp
theorem flat_len {β : Type} {F : Nat → List β} {B : Nat} (hF : ∀ k, (F k).length ≤ B) : ∀ m, ((List.range m).flatMap F).length ≤ m * B
  | 0 => by simp
  | m + 1 => by
    rw [flat_take (m := m + 1) (by omega), List.length_append, Nat.succ_mul]
    have := flat_len hF m; have := hF m; omega
theorem p_turnsby (n : Nat) (h1 : 1 ≤ n) (hn : n ≤ 12) (h : Nat → Nat → Int) : p_turns_by (ht n h) = .ok (tts n h) := by
  unfold p_turns_by
  have hlen : ((ht n h).length : Int) - 1 = (n : Int) := by rw [show (ht n h).length = n + 1 from rw1_len]; omega
  rw [hlen, rg1_rw h1 rfl hn, obind_ok]
  have e := fold_rw (p := p_l4_turns_by (ht n h)) (n := n - 1) (x := fun i => ((i + 1 : Nat) : Int)) (fun k => (List.range k).flatMap fun i => (List.range (n - 1)).flatMap fun j => tt h (i + 1) (j + 1)) fun i hi => by
    unfold p_l4_turns_by
    rw [hlen, rg1_rw h1 rfl hn, obind_ok]
    have hB := flat_len (F := fun i => (List.range (n - 1)).flatMap fun j => tt h (i + 1) (j + 1)) (B := 24) (fun k => Nat.le_trans (flat_len (B := 2) (fun j => tt_len h _ _) (n - 1)) (by omega)) i
    generalize hs0 : (List.range i).flatMap (fun i => (List.range (n - 1)).flatMap fun j => tt h (i + 1) (j + 1)) = s0 at hB
    rw [flat_take hi, hs0]
    have e := fold_rw (p := p_l3_turns_by (ht n h) ((i + 1 : Nat) : Int)) (n := n - 1) (x := fun j => ((j + 1 : Nat) : Int)) (fun k => s0 ++ (List.range k).flatMap fun j => tt h (i + 1) (j + 1)) fun j hj => by
      unfold p_l3_turns_by
      have hB2 := flat_len (F := fun j => tt h (i + 1) (j + 1)) (B := 2) (fun k => tt_len h _ _) j
      have hB3 := tt_len h (i + 1) (j + 1)
      generalize ht2 : (List.range j).flatMap (fun j => tt h (i + 1) (j + 1)) = s1 at hB2
      rw [lcFil_ok (q := p_t1_turns_by (ht n h) (s0 ++ s1) ((i + 1 : Nat) : Int) ((j + 1 : Nat) : Int)) (f := p_e2_turns_by ((i + 1 : Nat) : Int) ((j + 1 : Nat) : Int)) (fun a => decide (lo h (i + 1) (j + 1) ≤ h (i + 1) (j + 1) + a) && decide (h (i + 1) (j + 1) + a ≤ LW.hi h (i + 1) (j + 1))) (fun a => (((i + 1 : Nat) : Int), ((j + 1 : Nat) : Int), a)) (by simp) (fun a _ => by
        unfold p_t1_turns_by p_can_turn
        rw [p_canrise n h (i + 1) (j + 1) a ⟨by omega, by omega, by omega, by omega⟩, z_lift, obind_ok, z_top, z_lift, obind_ok]) (fun a _ _ => rfl), obind_ok]
      have ett : (([(-1, 1).1, (-1, 1).2] : List Int).filter fun a => decide (lo h (i + 1) (j + 1) ≤ h (i + 1) (j + 1) + a) && decide (h (i + 1) (j + 1) + a ≤ LW.hi h (i + 1) (j + 1))).map (fun a => (((i + 1 : Nat) : Int), ((j + 1 : Nat) : Int), a)) = tt h (i + 1) (j + 1) := rfl
      rw [ett, catO_ok (by rw [List.length_append]; omega), obind_ok, flat_take hj, ht2, List.append_assoc]
    rw [show s0 ++ (List.range 0).flatMap (fun j => tt h (i + 1) (j + 1)) = s0 by simp] at e
    rw [e, obind_ok]
  have e' : foldO (p_l4_turns_by (ht n h)) ([] : List (Int × Int × Int)) (rw1 (n - 1) fun i => ((i + 1 : Nat) : Int)) = .ok (tts n h) := e
  rw [e', obind_ok]; rfl
theorem p_turnsof (n : Nat) (h1 : 1 ≤ n) (hn : n ≤ 12) (h : Nat → Nat → Int) (H : HT n h) : p_turns_of (fl n h) = .ok (tts n h) := by
  unfold p_turns_of
  rw [p_lookf n h1 hn h H, z_lift, obind_ok, p_hby n hn h H, z_lift, obind_ok, p_turnsby n h1 hn h, z_lift, obind_ok]; rfl
theorem cut_to {n j : Nat} {f : Nat → Int} (hj : j ≤ n) (J : Int) (hJ : J = (j : Int)) : cutI (rw1 n f) none (some J) = rw1 j f := by
  subst hJ
  unfold cutI
  rw [rw1_len]
  have h1 : HT.sIx n 0 none = 0 := rfl
  rw [h1, HT.sIx_nat]
  apply rw1_of (by rw [List.length_take, List.length_drop, rw1_len]; omega)
  intro i hi
  rw [List.getElem?_take_of_lt (by omega), List.getElem?_drop, rw1_get (by omega), Nat.zero_add]
theorem rw1_sum {h : Nat → Nat → Int} {i : Nat} (h0 : h (i + 1) 0 = 0) (h1 : h i 0 = 0) : ∀ j, (rw1 j (cel h i)).sum = h (i + 1) j - h i j
  | 0 => by rw [h0, h1]; rfl
  | j + 1 => by
    rw [rw1_succ, List.sum_append, rw1_sum h0 h1 j]
    unfold cel
    simp; omega
theorem p_lheights (n : Nat) (hn : n ≤ 12) (h : Nat → Nat → Int) (H : HT n h) : p__law_heights (fl n h) = .ok (ht n h) := by
  unfold p__law_heights
  rw [fl_len, repO_rw (n := n + 1) (by omega) (by omega), obind_ok]
  have e0 : (rw1 (n + 1) fun _ => (0 : Int)) = rw1 (n + 1) (h 0) := rw1_congr fun j hj => (H.r0 j (by omega)).symm
  rw [e0]
  have e := fold_rw (p := p_l2__law_heights (fl n h)) (n := n) (x := fun i => rw1 n (cel h i)) (fun i => rw1 (i + 1) fun i => rw1 (n + 1) (h i)) fun i hi => by
    unfold p_l2__law_heights
    rw [fl_len, rgO_rw (n := n + 1) (by omega) (by omega), obind_ok, lc_rw (f := p_e1__law_heights (rw1 (i + 1) fun i => rw1 (n + 1) (h i)) (rw1 n (cel h i))) (h (i + 1)) (by omega) (fun j hj => by
      unfold p_e1__law_heights
      rw [ix_rwl, obind_ok, ix_rw rfl hj, obind_ok, cut_to (by omega) _ rfl, rw1_sum (H.c0 _ (by omega)) (H.c0 _ (by omega))]
      congr 1; omega), obind_ok, app_rw (f := fun i => rw1 (n + 1) (h i)) (by omega) rfl, obind_ok]
  have e' : foldO (p_l2__law_heights (fl n h)) [rw1 (n + 1) (h 0)] (fl n h) = .ok (ht n h) := e
  rw [e', obind_ok]; rfl
theorem lc_two {f : Int → O Bool} {a b : Int} {A B : Bool} (h1 : f a = .ok A) (h2 : f b = .ok B) : lcS (mapO f [a, b]) = .ok [A, B] := by
  unfold mapO; rw [h1]
  unfold mapO; rw [h2]
  unfold mapO
  exact lcS_ok (by simp)
theorem mem01 (x : Int) : decide (x ∈ [(0, 1).1, ((0, 1) : Int × Int).2]) = (decide (0 ≤ x) && decide (x ≤ 1)) := by
  rw [Bool.eq_iff_iff]
  simp only [decide_eq_true_eq, List.mem_cons, List.not_mem_nil, or_false, Bool.and_eq_true]
  omega
theorem p_lcan (n : Nat) (h : Nat → Nat → Int) (i j : Nat) (by' : Int) (c : Inn n i j) : p__law_can (ht n h) (i : Int) (j : Int) by' = .ok (decide (lo h i j ≤ h i j + by') && decide (h i j + by' ≤ hi h i j)) := by
  obtain ⟨c1, c2, c3, c4⟩ := c
  unfold p__law_can
  rw [ht_ix rfl (by omega), obind_ok, ix_rw rfl (by omega), obind_ok, ht_ix (i := i - 1) (by omega) (by omega), obind_ok, ix_rw rfl (by omega), obind_ok, obind_ok, ix_rw (i := j - 1) (by omega) (by omega), obind_ok]
  rw [ht_ix (i := i + 1) (by omega) (by omega), obind_ok, ix_rw rfl (by omega), obind_ok, obind_ok, ix_rw (i := j + 1) (by omega) (by omega), obind_ok]
  unfold p_x3__law_can
  rw [lc_two (f := p_e1__law_can (h i j + by')) (by unfold p_e1__law_can; rw [mem01]) (by unfold p_e1__law_can; rw [mem01]), obind_ok, lc_two (f := p_e2__law_can (h i j + by')) (by unfold p_e2__law_can; rw [mem01]) (by unfold p_e2__law_can; rw [mem01]), obind_ok]
  have key : (decide (lo h i j ≤ h i j + by') && decide (h i j + by' ≤ hi h i j)) = ((decide (0 ≤ h i j + by' - h (i - 1) j) && decide (h i j + by' - h (i - 1) j ≤ 1) && (decide (0 ≤ h i j + by' - h i (j - 1)) && decide (h i j + by' - h i (j - 1) ≤ 1))) && (decide (0 ≤ h (i + 1) j - (h i j + by')) && decide (h (i + 1) j - (h i j + by') ≤ 1) && (decide (0 ≤ h i (j + 1) - (h i j + by')) && decide (h i (j + 1) - (h i j + by') ≤ 1)))) := by
    rw [Bool.eq_iff_iff]
    simp only [Bool.and_eq_true, decide_eq_true_eq]
    unfold lo hi
    omega
  rw [key]
  simp only [List.all_cons, List.all_nil, id, Bool.and_true]
  generalize (decide (0 ≤ h i j + by' - h (i - 1) j) && decide (h i j + by' - h (i - 1) j ≤ 1) && (decide (0 ≤ h i j + by' - h i (j - 1)) && decide (h i j + by' - h i (j - 1) ≤ 1))) = x
  generalize (decide (0 ≤ h (i + 1) j - (h i j + by')) && decide (h (i + 1) j - (h i j + by') ≤ 1) && (decide (0 ≤ h i (j + 1) - (h i j + by')) && decide (h i (j + 1) - (h i j + by') ≤ 1))) = y
  cases x <;> cases y <;> rfl
theorem p_lturns (n : Nat) (h1 : 1 ≤ n) (hn : n ≤ 12) (h : Nat → Nat → Int) : p__law_turns (ht n h) = .ok (tts n h) := by
  unfold p__law_turns
  have hlen : ((ht n h).length : Int) - 1 = (n : Int) := by rw [show (ht n h).length = n + 1 from rw1_len]; omega
  rw [hlen, rg1_rw h1 rfl hn, obind_ok]
  have e := fold_rw (p := p_l4__law_turns (ht n h)) (n := n - 1) (x := fun i => ((i + 1 : Nat) : Int)) (fun k => (List.range k).flatMap fun i => (List.range (n - 1)).flatMap fun j => tt h (i + 1) (j + 1)) fun i hi => by
    unfold p_l4__law_turns
    rw [hlen, rg1_rw h1 rfl hn, obind_ok]
    have hB := flat_len (F := fun i => (List.range (n - 1)).flatMap fun j => tt h (i + 1) (j + 1)) (B := 24) (fun k => Nat.le_trans (flat_len (B := 2) (fun j => tt_len h _ _) (n - 1)) (by omega)) i
    generalize hs0 : (List.range i).flatMap (fun i => (List.range (n - 1)).flatMap fun j => tt h (i + 1) (j + 1)) = s0 at hB
    rw [flat_take hi, hs0]
    have e := fold_rw (p := p_l3__law_turns (ht n h) ((i + 1 : Nat) : Int)) (n := n - 1) (x := fun j => ((j + 1 : Nat) : Int)) (fun k => s0 ++ (List.range k).flatMap fun j => tt h (i + 1) (j + 1)) fun j hj => by
      unfold p_l3__law_turns
      have hB2 := flat_len (F := fun j => tt h (i + 1) (j + 1)) (B := 2) (fun k => tt_len h _ _) j
      have hB3 := tt_len h (i + 1) (j + 1)
      generalize ht2 : (List.range j).flatMap (fun j => tt h (i + 1) (j + 1)) = s1 at hB2
      rw [lcFil_ok (q := p_t1__law_turns (ht n h) (s0 ++ s1) ((i + 1 : Nat) : Int) ((j + 1 : Nat) : Int)) (f := p_e2__law_turns ((i + 1 : Nat) : Int) ((j + 1 : Nat) : Int)) (fun a => decide (lo h (i + 1) (j + 1) ≤ h (i + 1) (j + 1) + a) && decide (h (i + 1) (j + 1) + a ≤ LW.hi h (i + 1) (j + 1))) (fun a => (((i + 1 : Nat) : Int), ((j + 1 : Nat) : Int), a)) (by simp) (fun a _ => by
        unfold p_t1__law_turns
        rw [p_lcan n h (i + 1) (j + 1) a ⟨by omega, by omega, by omega, by omega⟩, z_lift, obind_ok]) (fun a _ _ => rfl), obind_ok]
      have ett : (([(0 - 1, 1).1, (0 - 1, 1).2] : List Int).filter fun a => decide (lo h (i + 1) (j + 1) ≤ h (i + 1) (j + 1) + a) && decide (h (i + 1) (j + 1) + a ≤ LW.hi h (i + 1) (j + 1))).map (fun a => (((i + 1 : Nat) : Int), ((j + 1 : Nat) : Int), a)) = tt h (i + 1) (j + 1) := rfl
      rw [ett, catO_ok (by rw [List.length_append]; omega), obind_ok, flat_take hj, ht2, List.append_assoc]
    rw [show s0 ++ (List.range 0).flatMap (fun j => tt h (i + 1) (j + 1)) = s0 by simp] at e
    rw [e, obind_ok]
  have e' : foldO (p_l4__law_turns (ht n h)) ([] : List (Int × Int × Int)) (rw1 (n - 1) fun i => ((i + 1 : Nat) : Int)) = .ok (tts n h) := e
  rw [e', obind_ok]; rfl
theorem tt_one {n : Nat} {h : Nat → Nat → Int} (H : HT n h) {i j : Nat} (c : Inn n i j) : (tt h i j).length ≤ 1 := by
  obtain ⟨a1, a2, a3⟩ := lohi H c
  unfold tt
  rw [List.length_map, List.filter_cons, List.filter_cons, List.filter_nil]
  by_cases c1 : (decide (lo h i j ≤ h i j + -1) && decide (h i j + -1 ≤ hi h i j)) = true
  · rw [if_pos c1]
    have c2 : ¬ ((decide (lo h i j ≤ h i j + 1) && decide (h i j + 1 ≤ hi h i j)) = true) := fun z => by
      rw [Bool.and_eq_true, decide_eq_true_eq, decide_eq_true_eq] at z c1
      omega
    rw [if_neg c2]
    exact Nat.le_refl _
  · rw [if_neg c1]
    split
    · exact Nat.le_refl _
    · exact Nat.zero_le _
/-- a place that can be turned: just one of the two steps in its row goes up -/
theorem tt_step {n : Nat} {h : Nat → Nat → Int} (H : HT n h) {i j : Nat} (c : Inn n i j) : ((tt h i j).length : Int) ≤ h i (j + 1) - h i (j - 1) ∧ ((tt h i j).length : Int) ≤ 2 - (h i (j + 1) - h i (j - 1)) := by
  have k := tt_one H c
  obtain ⟨c1, c2, c3, c4⟩ := c
  have d1 := H.dr i (j - 1) (by omega) (by omega)
  have d2 := H.dr i j (by omega) (by omega)
  rw [show j - 1 + 1 = j by omega] at d1
  by_cases z : (tt h i j).length = 0
  · rw [z]; omega
  · have one : (tt h i j).length = 1 := by omega
    have mem : ∃ x, x ∈ tt h i j := by
      cases e : tt h i j with
      | nil => rw [e] at z; exact absurd rfl z
      | cons x r => exact ⟨x, List.mem_cons_self⟩
    obtain ⟨x, hx⟩ := mem
    unfold tt at hx
    obtain ⟨a, ha, _⟩ := List.mem_map.mp hx
    obtain ⟨ha1, ha2⟩ := List.mem_filter.mp ha
    rw [Bool.and_eq_true, decide_eq_true_eq, decide_eq_true_eq] at ha2
    have e : h i (j + 1) - h i (j - 1) = 1 := by
      unfold lo hi at ha2
      rcases List.mem_cons.mp ha1 with rfl | ha1
      · omega
      · have := List.mem_singleton.mp ha1
        omega
    rw [one, e]; omega
theorem row_len {n : Nat} {h : Nat → Nat → Int} (H : HT n h) {i : Nat} (hi : 0 < i) (hin : i < n) : ∀ m, m + 1 ≤ n → ((((List.range m).flatMap fun j => tt h i (j + 1)).length : Nat) : Int) ≤ h i (m + 1) + h i m - h i 1 - h i 0 ∧
    ((((List.range m).flatMap fun j => tt h i (j + 1)).length : Nat) : Int) ≤ 2 * (m : Int) - (h i (m + 1) + h i m - h i 1 - h i 0)
  | 0, _ => by
    simp only [List.range_zero, List.flatMap_nil, List.length_nil]
    show ((0 : Nat) : Int) ≤ h i 1 + h i 0 - h i 1 - h i 0 ∧ ((0 : Nat) : Int) ≤ 2 * ((0 : Nat) : Int) - (h i 1 + h i 0 - h i 1 - h i 0)
    omega
  | m + 1, hm => by
    obtain ⟨a, b⟩ := row_len H hi hin m (by omega)
    obtain ⟨c, d⟩ := tt_step H (i := i) (j := m + 1) ⟨hi, hin, by omega, by omega⟩
    rw [show m + 1 - 1 = m by omega] at c d
    rw [List.range_succ, List.flatMap_append, List.length_append]
    simp only [List.flatMap_cons, List.flatMap_nil, List.append_nil]
    omega
theorem ht_up {n : Nat} {h : Nat → Nat → Int} (H : HT n h) {i : Nat} (hi : i ≤ n) : ∀ j, j ≤ n → 0 ≤ h i j ∧ h i j ≤ (j : Int)
  | 0, _ => by rw [H.c0 i hi]; omega
  | j + 1, hj => by
    have a := ht_up H hi j (by omega)
    have b := H.dr i j hi (by omega)
    omega
theorem row_min {n : Nat} {h : Nat → Nat → Int} (H : HT n h) {i : Nat} (hi : 0 < i) (hin : i < n) : ((List.range (n - 1)).flatMap fun j => tt h i (j + 1)).length ≤ 2 * min i (n - i) := by
  obtain ⟨a, b⟩ := row_len H hi hin (n - 1) (by omega)
  have e1 := H.cn i (by omega)
  have e2 := H.c0 i (by omega)
  have e3 := H.dr i (n - 1) (by omega) (by omega)
  have e4 := ht_up H (i := i) (by omega) 1 (by omega)
  rw [show n - 1 + 1 = n by omega] at a b e3
  omega
theorem len_flat_le {β : Type} {F : Nat → List β} {b : Nat → Nat} : ∀ {l : List Nat}, (∀ k ∈ l, (F k).length ≤ b k) → (l.flatMap F).length ≤ (l.map b).sum
  | [], _ => Nat.le_refl _
  | k :: l, h => by
    rw [List.flatMap_cons, List.length_append, List.map_cons, List.sum_cons]
    exact Nat.add_le_add (h k List.mem_cons_self) (len_flat_le fun j hj => h j (List.mem_cons_of_mem _ hj))
theorem few_turns : ∀ n, n ≤ 12 → ((List.range (n - 1)).map fun i => 2 * min (i + 1) (n - (i + 1))).sum ≤ 76 := by decide
theorem tts_len {n : Nat} (hn : n ≤ 12) {h : Nat → Nat → Int} (H : HT n h) : (tts n h).length ≤ 76 := by
  refine Nat.le_trans (len_flat_le (b := fun i => 2 * min (i + 1) (n - (i + 1))) fun k hk => ?_) (few_turns n hn)
  have := List.mem_range.mp hk
  exact row_min H (by omega) (by omega)
theorem tts_nd {n : Nat} {h : Nat → Nat → Int} (H : HT n h) : (((tts n h).map fun a => (a.1, a.2.1)).map k2L).Nodup := by
  rw [List.map_map]
  have at_ : ∀ {i j : Nat} {x : Int × Int × Int}, x ∈ tt h i j → x.1 = (i : Int) ∧ x.2.1 = (j : Int) := fun {i j x} hx => by
    unfold tt at hx
    obtain ⟨a, _, rfl⟩ := List.mem_map.mp hx
    exact ⟨rfl, rfl⟩
  have ne : ∀ {x y : Int × Int × Int}, ¬ (x.1 = y.1 ∧ x.2.1 = y.2.1) → (k2L ∘ fun a : Int × Int × Int => (a.1, a.2.1)) x ≠ (k2L ∘ fun a : Int × Int × Int => (a.1, a.2.1)) y := fun {x y} z e => z (by
    have e' : [x.1, x.2.1] = [y.1, y.2.1] := e
    simp only [List.cons.injEq, and_true] at e'
    exact e')
  refine List.pairwise_map.mpr ?_
  unfold tts
  refine List.pairwise_flatMap.mpr ⟨fun i hi => List.pairwise_flatMap.mpr ⟨fun j hj => ?_, ?_⟩, ?_⟩
  · have c : Inn n (i + 1) (j + 1) := by
      have := List.mem_range.mp hi
      have := List.mem_range.mp hj
      exact ⟨by omega, by omega, by omega, by omega⟩
    have k := tt_one H c
    cases e : tt h (i + 1) (j + 1) with
    | nil => exact List.Pairwise.nil
    | cons x r =>
      cases r with
      | nil => exact List.pairwise_singleton _ _
      | cons y r => rw [e] at k; simp at k
  · refine List.Pairwise.imp (R := fun a b => a ≠ b) (fun {a b} hab x hx y hy => ne fun z => ?_) List.nodup_range
    have e1 := (at_ hx).2
    have e2 := (at_ hy).2
    rw [z.2] at e1
    omega
  · refine List.Pairwise.imp (R := fun a b => a ≠ b) (fun {a b} hab x hx y hy => ne fun z => ?_) List.nodup_range
    obtain ⟨j, _, hx⟩ := List.mem_flatMap.mp hx
    obtain ⟨j', _, hy⟩ := List.mem_flatMap.mp hy
    have e1 := (at_ hx).1
    have e2 := (at_ hy).1
    rw [z.1] at e1
    omega
theorem dd_nodup : ∀ {l : List (List Int)}, l.Nodup → dd l = l
  | [], _ => rfl
  | k :: r, h => by
    obtain ⟨a, b⟩ := List.nodup_cons.mp h
    unfold dd
    rw [if_neg a, dd_nodup b]
theorem p_good (n : Nat) (h1 : 1 ≤ n) (hn : n ≤ 12) (h : Nat → Nat → Int) (H : HT n h) : p__law_good (fl n h) = .ok true := by
  have hl := tts_len hn H
  unfold p__law_good
  rw [lcMap_ok (f := p_e1__law_good) id (xs := fl n h) (by rw [fl_len]; omega) fun x _ => rfl, obind_ok, List.map_id, p_lheights n hn h H, z_lift, obind_ok, p_lturns n h1 hn h, z_lift, obind_ok, rgO_rw (N := 2) (n := 2) rfl (by decide), obind_ok, forU, z_fin]
  · simp; rfl
  · intro x hx
    refine .inl ?_
    unfold p_l5__law_good
    rw [p_turnsof n h1 hn h H, z_lift, obind_ok, if_neg (by simp), forU, z_seq]
    · rw [lcMap_ok (f := p_e4__law_good) (fun a => (a.1, a.2.1)) (by omega) fun a _ => rfl, obind_ok]
      unfold lenSetO
      rw [List.length_map, if_pos (by omega), obind_ok, dd_nodup (tts_nd H), List.length_map, List.length_map, if_neg (by simp), appO_ok (by omega), obind_ok]
      have ep : ∃ r, popAtO (tts n h ++ [(0, 0, 1)]) 0 = .ok r := by
        unfold popAtO
        rw [if_pos (by decide)]
        have es : seqIndex? 0 (tts n h ++ [(0, 0, 1)]).length = some 0 := by
          rw [List.length_append, List.length_singleton]
          unfold seqIndex?
          simp
        rw [es]
        dsimp only
        rw [if_pos (by rw [List.length_append, List.length_singleton]; omega)]
        exact ⟨_, rfl⟩
      obtain ⟨r, er⟩ := ep
      rw [er]; rfl
    · intro a _
      refine .inl ?_
      unfold p_l3__law_good
      rw [lcMap_ok (f := p_e2__law_good (fl n h) (fl n h) (tts n h) (tts n h) a) (fun _ => true) (xs := [a.1, a.2.1, a.2.2]) (by show 3 ≤ 16777216; decide) fun x _ => rfl, obind_ok]
      rfl
theorem cut_any2 {α : Type} {xs : List α} {lo hi : Option Int} : (cutI xs lo hi).length ≤ xs.length ∧ ∀ x ∈ cutI xs lo hi, x ∈ xs :=
  ⟨by unfold cutI; rw [List.length_take, List.length_drop]; omega, fun x hx => List.mem_of_mem_drop (List.mem_of_mem_take hx)⟩
theorem HT1 : HT 1 fun i j => ((min i j : Nat) : Int) := by
  refine ⟨fun j hj => ?_, fun i hi => ?_, fun j hj => ?_, fun i hi => ?_, fun i j hi hj => ?_, fun i j hi hj => ?_⟩ <;> (try dsimp only) <;> omega
theorem p_main (ns : List Int) (hl : ns.length ≤ 63) : p_law ns = .ok true := by
  unfold p_law
  rw [rgO_rw (N := 4) (n := 4) rfl (by decide), obind_ok]
  obtain ⟨s, e, hs, hg⟩ := foldO_inv (p := p_l1_law ns) (fun i s => s.length = i + 1 ∧ ∀ F ∈ s, ∃ (n : Nat) (h : Nat → Nat → Int), 1 ≤ n ∧ n ≤ 12 ∧ HT n h ∧ F = fl n h) (rw1 4 fun i => (i : Int)) [[[1]]] ⟨rfl, fun F hF => by
      rw [List.mem_singleton.mp hF]; exact ⟨1, _, by decide, by decide, HT1, rfl⟩⟩ fun i x s hx ⟨hs, hg⟩ => by
    obtain ⟨hi, rfl⟩ := rw1_got hx
    obtain ⟨z, _, e1⟩ := p_cell ns hl i
    unfold p_l1_law
    obtain ⟨h, p', H, e2⟩ := p_floor (1 + z % 12).toNat (by omega) (by omega) (z / 12) (1 + z % 12) (by omega)
    have e1' := e1
    simp only [e1, z_lift, z_mut, obind_ok]
    rw [p_take _ _ (by decide) (by decide), z_mut, obind_ok]
    dsimp only
    rw [e2, z_mut, obind_ok]
    dsimp only
    rw [appO_ok (by omega), obind_ok]
    refine ⟨_, rfl, by simp [hs], fun F hF => ?_⟩
    rcases List.mem_append.mp hF with hF | hF
    · exact hg F hF
    · rw [List.mem_singleton.mp hF]; exact ⟨_, h, by omega, by omega, H, rfl⟩
  rw [rw1_len] at hs
  obtain ⟨hc, hm⟩ := cut_any2 (xs := s) (lo := some 1) (hi := some 2)
  rw [e, obind_ok, catO_ok (by omega), obind_ok]
  obtain ⟨ys, e, f⟩ := lcAll_ok (f := p_e2_law s) (xs := s ++ cutI s (some 1) (some 2)) (by rw [List.length_append]; omega) fun F hF => by
    obtain ⟨n, h, h1, hn, H, rfl⟩ := hg F ((List.mem_append.mp hF).elim id (hm F))
    unfold p_e2_law
    rw [p_good n h1 hn h H, z_lift, obind_ok]
  rw [e, obind_ok, f]; rfl
theorem law_plain (ns : List Int) (h : ns.length ≤ 63) : ∃ outs, m_law [.nd .fz .lsg (ns.map T.int)] = .ok (.bl true) outs := by
  have e := S_law ns
  rw [p_main ns h] at e
  exact ⟨_, e⟩
end LW
set_option Elab.async false
set_option linter.all false
set_option maxRecDepth 100000
set_option maxHeartbeats 0
namespace LW
open PySem PySem.Spec PyProof.Rows L2 TV
def topS (i : Nat) : Stmt := PySem.Challenge.pw_bowfloor_k30_turns_that_can_be_done.main.body.getD i (.Pass ⟨0, 0, 0, 0⟩)
abbrev s__law_mixed : Stmt := topS 20
theorem sc__law_mixed : FnScope (["_law_cell_here", "_law_k", "_law_number"] : List Str) ["_law_cell_here", "_law_k"] (defScope s__law_mixed) := ⟨rfl, rfl, rfl, by decide +kernel, rfl, by decide +kernel, by decide +kernel⟩
theorem h__law_mixed {P : Program} {w : World} {K : PySem.W.Frag} {mg : Str → Option Value} {base : Heap} {f : Addr} {fd : FuncData} (Fu : L2.Fun K "_law_mixed" "_law_mixed" s__law_mixed f fd) (hm : mg "_law_mixed" = some (.ref f)) : Has P w K mg base 1 "_law_mixed" ["_law_cell_here", "_law_k"] [false, false] m__law_mixed :=
  have sc := sc__law_mixed
  has_ok (k := 0) (n := 3) (ms := [false, false]) (m := m__law_mixed) (g := b__law_mixed) Fu hm sc rfl rfl rfl (fun _ _ _ _ _ _ us hl => match us, hl with | [_, _], _ => rfl) fun cdv A outer s H E gd hr hp tk =>
    dss_cons (ds_postN ghost_fg (ds_set (fz := true) (i := 2) sc.nd (de_mod (de_add (de_add (de_mul (de_mod (de_auto (i := 0)) (de_int)) (de_int)) (de_mul (de_auto (i := 1)) (de_int))) (de_int)) (de_int)))) (dss_cons (ds_set (fz := true) (i := 2) sc.nd (de_mod (de_mul (de_auto (i := 2)) (de_auto (i := 2))) (de_int))) (dss_one (ds_postR ghost_fg (ds_ret (de_mod (de_mul (de_auto (i := 2)) (de_add (de_auto (i := 2)) (de_int))) (de_int))))))
abbrev s__law_cell : Stmt := topS 21
theorem sc__law_cell : FnScope (["_law_script", "_law_k", "_law_cell_here", "_law_found", "_law_j"] : List Str) ["_law_script", "_law_k"] (defScope s__law_cell) := ⟨rfl, rfl, rfl, by decide +kernel, rfl, by decide +kernel, by decide +kernel⟩
theorem h__law_cell {P : Program} {w : World} {K : PySem.W.Frag} {mg : Str → Option Value} {base : Heap} {f : Addr} {fd : FuncData} (Fu : L2.Fun K "_law_cell" "_law_cell" s__law_cell f fd) (hm : mg "_law_cell" = some (.ref f)) (z_len : mg "len" = none) (z_range : mg "range" = none) (c__law_mixed : Has P w K mg base 1 "_law_mixed" ["_law_cell_here", "_law_k"] [false, false] m__law_mixed) : Has P w K mg base 2 "_law_cell" ["_law_script", "_law_k"] [false, false] m__law_cell :=
  have sc := sc__law_cell
  has_ok (k := 1) (n := 5) (ms := [false, false]) (m := m__law_cell) (g := b__law_cell) Fu hm sc rfl rfl rfl (fun _ _ _ _ _ _ us hl => match us, hl with | [_, _], _ => rfl) fun cdv A outer s H E gd hr hp tk =>
    dss_cons (ds_set (fz := true) (i := 2) sc.nd (de_int)) (dss_cons (ds_postN ghost_fg (ds_if (dt_lt (de_auto (i := 1)) (de_len rfl z_len (da_val (de_auto (i := 0)) (da_nil)))) (dss_one (ds_postN ghost_fg (ds_set (fz := true) (i := 2) sc.nd (de_sub_ix (de_auto (i := 0)) (de_auto (i := 1)))))) (dss_nil))) (dss_cons (ds_if (dt_ge (de_auto (i := 2)) (de_pow (de_int) (de_int))) (dss_one (ds_postR ghost_fg (ds_ret (de_mod (de_sub (de_auto (i := 2)) (de_pow (de_int) (de_int))) (de_mul (de_mul (de_mul (de_pow (de_int) (de_int)) (de_pow (de_int) (de_int))) (de_pow (de_int) (de_int))) (de_pow (de_int) (de_int))))))) (dss_nil)) (dss_cons (ds_set (fz := false) (i := 3) sc.nd (de_int)) (dss_cons (ds_postN ghost_fg (ds_for (ws := [4]) hp rfl (di_range1 rfl z_range (da_val (de_int) (da_nil))) (dg_name (i := 4) sc.nd) (dss_one (ds_postN ghost_fg (ds_set (fz := false) (i := 3) sc.nd (de_add (de_mul (de_auto (i := 3)) (de_int)) (de_callF (de_fn c__law_mixed tk gd hr (by decide) rfl (da_arg (de_auto (i := 2)) (da_arg (de_add (de_add (de_mul (de_int) (de_auto (i := 1))) (de_mul (de_int) (de_auto (i := 4)))) (de_mul (de_auto (i := 4)) (de_auto (i := 4)))) (da_nil))))))))))) (dss_one (ds_postR ghost_fg (ds_ret (de_mv (i := 3)))))))))
abbrev s__law_take : Stmt := topS 22
theorem sc__law_take : FnScope (["_law_pile", "_law_size", "_law_digit"] : List Str) ["_law_pile", "_law_size"] (defScope s__law_take) := ⟨rfl, rfl, rfl, by decide +kernel, rfl, by decide +kernel, by decide +kernel⟩
theorem h__law_take {P : Program} {w : World} {K : PySem.W.Frag} {mg : Str → Option Value} {base : Heap} {f : Addr} {fd : FuncData} (Fu : L2.Fun K "_law_take" "_law_take" s__law_take f fd) (hm : mg "_law_take" = some (.ref f)) : Has P w K mg base 1 "_law_take" ["_law_pile", "_law_size"] [true, false] m__law_take :=
  have sc := sc__law_take
  has_ok (k := 0) (n := 3) (ms := [true, false]) (m := m__law_take) (g := b__law_take) Fu hm sc rfl rfl rfl (fun _ _ _ _ _ _ us hl => match us, hl with | [_, _], _ => rfl) fun cdv A outer s H E gd hr hp tk =>
    dss_pre ghost_sh (dss_cons (ds_set (fz := false) (i := 2) sc.nd (de_mod (de_sub_ix (de_var (i := 0)) (de_int)) (de_auto (i := 1)))) (dss_cons (ds_postN ghost_fg (ds_put1 (fz := false) (i := 0) (de_div (de_sub_ix (de_var (i := 0)) (de_int)) (de_auto (i := 1))) (de_int))) (dss_one (ds_postR ghost_fg (ds_postR ghost_sh (ds_ret (de_mv (i := 2))))))))
abbrev s__law_floor : Stmt := topS 23
theorem sc__law_floor : FnScope (["_law_pile", "_law_n", "_law_rows", "_law_found", "_law_above", "_law_row", "_law_one", "_law_other", "_law_least", "_law_k"] : List Str) ["_law_pile", "_law_n"] (defScope s__law_floor) := ⟨rfl, rfl, rfl, by decide +kernel, rfl, by decide +kernel, by decide +kernel⟩
theorem h__law_floor {P : Program} {w : World} {K : PySem.W.Frag} {mg : Str → Option Value} {base : Heap} {f : Addr} {fd : FuncData} (Fu : L2.Fun K "_law_floor" "_law_floor" s__law_floor f fd) (hm : mg "_law_floor" = some (.ref f)) (z_int : mg "int" = none) (z_len : mg "len" = none) (z_list : mg "list" = none) (z_range : mg "range" = none) (z_zip : mg "zip" = none) (c__law_take : Has P w K mg base 1 "_law_take" ["_law_pile", "_law_size"] [true, false] m__law_take) : Has P w K mg base 2 "_law_floor" ["_law_pile", "_law_n"] [true, false] m__law_floor :=
  have sc := sc__law_floor
  has_ok (k := 1) (n := 10) (ms := [true, false]) (m := m__law_floor) (g := b__law_floor) Fu hm sc rfl rfl rfl (fun _ _ _ _ _ _ us hl => match us, hl with | [_, _], _ => rfl) fun cdv A outer s H E gd hr hp tk =>
    dss_pre ghost_sh (dss_cons (ds_set (fz := false) (i := 2) sc.nd (de_lst (da_val (de_fr (de_lsRg1 rfl rfl z_list rfl z_range (de_auto (i := 1)))) (da_nil)))) (dss_cons (ds_while (n := 1000) hp (dt_gt (de_len rfl z_len (da_val (de_sub_ix (de_var (i := 2)) (de_int)) (da_nil))) (de_int)) (dss_cons (ds_set (fz := false) (i := 5) sc.nd (de_emp)) (dss_cons (ds_for (ws := [6, 7]) hp rfl (di_zip rfl z_zip (da_arg (de_sub_ix (de_var (i := 2)) (de_int)) (da_arg (de_sl (de_sub_ix (de_var (i := 2)) (de_int)) (do_some (de_int)) (do_none)) (da_nil)))) (dg_tup rfl (dgs_cons (dg_name (i := 6) sc.nd) (dgs_cons (dg_name (i := 7) sc.nd) (dgs_nil)))) (dss_cons (ds_set (fz := true) (i := 8) sc.nd (de_auto (i := 6))) (dss_cons (ds_postN ghost_fg (ds_if (dt_bop (dw_and (dt_ne hr (de_var (i := 5)) (de_emp)) (dw_and1 (dt_eq hr (de_sub_ix (de_var (i := 5)) (de_neg (de_int))) (de_auto (i := 6)))))) (dss_one (ds_postN ghost_fg (ds_set (fz := true) (i := 8) sc.nd (de_add (de_mv (i := 6)) (de_int))))) (dss_nil))) (dss_one (ds_postN ghost_fg (ds_postN ghost_sh (ds_pre ghost_hd (ds_meth (i := 5) PySem.F.slot_list_append PySem.F.type_list_append mt_append mv_app stApp_nl (da_val (de_add (de_auto (i := 8)) (de_callN (de_fn c__law_take tk gd hr (by decide) rfl (da_ref (i := 0) (da_arg (de_add (de_sub (de_auto (i := 7)) (de_auto (i := 8))) (de_int)) (da_nil)))))) (da_nil)))))))))) (dss_one (ds_postN ghost_fg (ds_meth (i := 2) PySem.F.slot_list_insert PySem.F.type_list_insert mt_insert mv_ins stIns_nl (da_val (de_int) (da_val (de_fr (de_mv (i := 5))) (da_nil))))))))) (dss_cons (ds_set (fz := false) (i := 3) sc.nd (de_emp)) (dss_cons (ds_set (fz := true) (i := 4) sc.nd (de_emp)) (dss_cons (ds_postN ghost_fg (ds_forO (i := 2) (ws := [5]) hp rfl (dg_name (i := 5) sc.nd) (dss_cons (ds_postN ghost_fg (ds_meth (i := 3) PySem.F.slot_list_append PySem.F.type_list_append mt_append mv_app stApp_nl (da_val (de_lc (own := [("_law_k", 9)]) rfl sc.nd (blkOk_by (by rfl)) (di_range1 rfl z_range (da_val (de_auto (i := 1)) (da_nil))) (fun _ _ _ _ _ => dg_name (i := 9) sc.nd) (fun _ _ _ _ _ => dts_nil) (fun _ _ _ _ _ => de_sub (de_int1 rfl z_int (da_val (de_inF (de_auto (i := 9)) (de_var (i := 5))) (da_nil))) (de_int1 rfl z_int (da_val (de_inF (de_auto (i := 9)) (de_auto (i := 4))) (da_nil))))) (da_nil)))) (dss_one (ds_postN ghost_fg (ds_set (fz := true) (i := 4) sc.nd (de_mv (i := 5)))))))) (dss_one (ds_postR ghost_fg (ds_postR ghost_sh (ds_ret (de_mv (i := 3)))))))))))
abbrev s__law_heights : Stmt := topS 24
theorem sc__law_heights : FnScope (["_law_floor_here", "_law_found", "_law_row", "_law_j"] : List Str) ["_law_floor_here"] (defScope s__law_heights) := ⟨rfl, rfl, rfl, by decide +kernel, rfl, by decide +kernel, by decide +kernel⟩
theorem h__law_heights {P : Program} {w : World} {K : PySem.W.Frag} {mg : Str → Option Value} {base : Heap} {f : Addr} {fd : FuncData} (Fu : L2.Fun K "_law_heights" "_law_heights" s__law_heights f fd) (hm : mg "_law_heights" = some (.ref f)) (z_len : mg "len" = none) (z_range : mg "range" = none) (z_sum : mg "sum" = none) : Has P w K mg base 1 "_law_heights" ["_law_floor_here"] [false] m__law_heights :=
  have sc := sc__law_heights
  has_ok (k := 0) (n := 4) (ms := [false]) (m := m__law_heights) (g := b__law_heights) Fu hm sc rfl rfl rfl (fun _ _ _ _ _ _ us hl => match us, hl with | [_], _ => rfl) fun cdv A outer s H E gd hr hp tk =>
    dss_cons (ds_set (fz := false) (i := 1) sc.nd (de_lst (da_val (de_mul (de_lst (da_val (de_int) (da_nil))) (de_add (de_len rfl z_len (da_val (de_auto (i := 0)) (da_nil))) (de_int))) (da_nil)))) (dss_cons (ds_postN ghost_fg (ds_for (ws := [2]) hp rfl (di_any2 (de_auto (i := 0))) (dg_name (i := 2) sc.nd) (dss_one (ds_postN ghost_fg (ds_meth (i := 1) PySem.F.slot_list_append PySem.F.type_list_append mt_append mv_app stApp_nl (da_val (de_lc (own := [("_law_j", 3)]) rfl sc.nd (blkOk_by (by rfl)) (di_range1 rfl z_range (da_val (de_add (de_len rfl z_len (da_val (de_auto (i := 0)) (da_nil))) (de_int)) (da_nil))) (fun _ _ _ _ _ => dg_name (i := 3) sc.nd) (fun _ _ _ _ _ => dts_nil) (fun _ _ _ _ _ => de_add (de_sub_ix (de_sub_ix (de_var (i := 1)) (de_neg (de_int))) (de_auto (i := 3))) (de_sum rfl rfl z_sum (da_val (de_sl (de_auto (i := 2)) (do_none) (do_some (de_auto (i := 3)))) (da_nil))))) (da_nil))))))) (dss_one (ds_postR ghost_fg (ds_ret (de_mv (i := 1))))))
abbrev s__law_can : Stmt := topS 26
theorem sc__law_can : FnScope (["_law_heights_here", "_law_i", "_law_j", "_law_by", "_law_one", "_law_ahead", "_law_behind", "_law_other"] : List Str) ["_law_heights_here", "_law_i", "_law_j", "_law_by"] (defScope s__law_can) := ⟨rfl, rfl, rfl, by decide +kernel, rfl, by decide +kernel, by decide +kernel⟩
theorem h__law_can {P : Program} {w : World} {K : PySem.W.Frag} {mg : Str → Option Value} {base : Heap} {f : Addr} {fd : FuncData} (Fu : L2.Fun K "_law_can" "_law_can" s__law_can f fd) (hm : mg "_law_can" = some (.ref f)) (z_all : mg "all" = none) : Has P w K mg base 1 "_law_can" ["_law_heights_here", "_law_i", "_law_j", "_law_by"] [false, false, false, false] m__law_can :=
  have sc := sc__law_can
  has_ok (k := 0) (n := 8) (ms := [false, false, false, false]) (m := m__law_can) (g := b__law_can) Fu hm sc rfl rfl rfl (fun _ _ _ _ _ _ us hl => match us, hl with | [_, _, _, _], _ => rfl) fun cdv A outer s H E gd hr hp tk =>
    dss_cons (ds_postN ghost_fg (ds_set (fz := true) (i := 4) sc.nd (de_add (de_sub_ix (de_sub_ix (de_auto (i := 0)) (de_auto (i := 1))) (de_auto (i := 2))) (de_mv (i := 3))))) (dss_cons (ds_set (fz := true) (i := 5) sc.nd (de_lst (da_val (de_sub_ix (de_sub_ix (de_auto (i := 0)) (de_sub (de_auto (i := 1)) (de_int))) (de_auto (i := 2))) (da_val (de_sub_ix (de_sub_ix (de_auto (i := 0)) (de_auto (i := 1))) (de_sub (de_auto (i := 2)) (de_int))) (da_nil))))) (dss_cons (ds_postN ghost_fg (ds_set (fz := true) (i := 6) sc.nd (de_lst (da_val (de_sub_ix (de_sub_ix (de_auto (i := 0)) (de_add (de_auto (i := 1)) (de_int))) (de_auto (i := 2))) (da_val (de_sub_ix (de_sub_ix (de_auto (i := 0)) (de_auto (i := 1))) (de_add (de_auto (i := 2)) (de_int))) (da_nil)))))) (dss_one (ds_postR ghost_fg (ds_ret (de_and (de_all rfl rfl z_all (da_val (de_lc (own := [("_law_other", 7)]) rfl sc.nd (blkOk_by (by rfl)) (di_any2 (de_auto (i := 5))) (fun _ _ _ _ _ => dg_name (i := 7) sc.nd) (fun _ _ _ _ _ => dts_nil) (fun _ _ _ _ _ => de_inF (de_sub (de_auto (i := 4)) (de_auto (i := 7))) (de_tup (da_val (de_int) (da_val (de_int) (da_nil)))))) (da_nil))) (de_one (de_all rfl rfl z_all (da_val (de_lc (own := [("_law_other", 7)]) rfl sc.nd (blkOk_by (by rfl)) (di_any2 (de_auto (i := 6))) (fun _ _ _ _ _ => dg_name (i := 7) sc.nd) (fun _ _ _ _ _ => dts_nil) (fun _ _ _ _ _ => de_inF (de_sub (de_auto (i := 7)) (de_auto (i := 4))) (de_tup (da_val (de_int) (da_val (de_int) (da_nil)))))) (da_nil))))))))))
abbrev s__law_turns : Stmt := topS 27
theorem sc__law_turns : FnScope (["_law_heights_here", "_law_found", "_law_i", "_law_j", "_law_by"] : List Str) ["_law_heights_here"] (defScope s__law_turns) := ⟨rfl, rfl, rfl, by decide +kernel, rfl, by decide +kernel, by decide +kernel⟩
theorem h__law_turns {P : Program} {w : World} {K : PySem.W.Frag} {mg : Str → Option Value} {base : Heap} {f : Addr} {fd : FuncData} (Fu : L2.Fun K "_law_turns" "_law_turns" s__law_turns f fd) (hm : mg "_law_turns" = some (.ref f)) (z_len : mg "len" = none) (z_range : mg "range" = none) (c__law_can : Has P w K mg base 1 "_law_can" ["_law_heights_here", "_law_i", "_law_j", "_law_by"] [false, false, false, false] m__law_can) : Has P w K mg base 2 "_law_turns" ["_law_heights_here"] [false] m__law_turns :=
  have sc := sc__law_turns
  has_ok (k := 1) (n := 5) (ms := [false]) (m := m__law_turns) (g := b__law_turns) Fu hm sc rfl rfl rfl (fun _ _ _ _ _ _ us hl => match us, hl with | [_], _ => rfl) fun cdv A outer s H E gd hr hp tk =>
    dss_cons (ds_set (fz := false) (i := 1) sc.nd (de_emp)) (dss_cons (ds_postN ghost_fg (ds_for (ws := [2]) hp rfl (di_range2 rfl z_range (da_val (de_int) (da_val (de_sub (de_len rfl z_len (da_val (de_auto (i := 0)) (da_nil))) (de_int)) (da_nil)))) (dg_name (i := 2) sc.nd) (dss_one (ds_postN ghost_fg (ds_for (ws := [3]) hp rfl (di_range2 rfl z_range (da_val (de_int) (da_val (de_sub (de_len rfl z_len (da_val (de_auto (i := 0)) (da_nil))) (de_int)) (da_nil)))) (dg_name (i := 3) sc.nd) (dss_one (ds_postN ghost_fg (ds_set (fz := false) (i := 1) sc.nd (de_add (de_auto (i := 1)) (de_lc (own := [("_law_by", 4)]) rfl sc.nd (blkOk_by (by rfl)) (di_any2 (de_tup (da_val (de_sub (de_int) (de_int)) (da_val (de_int) (da_nil))))) (fun _ _ _ _ _ => dg_name (i := 4) sc.nd) (fun _ _ _ _ _ => dts_one (dt_val (de_fn c__law_can takes0 gd hr (by decide) rfl (da_arg (de_auto (i := 0)) (da_arg (de_auto (i := 2)) (da_arg (de_auto (i := 3)) (da_arg (de_auto (i := 4)) (da_nil)))))))) (fun _ _ _ _ _ => de_tup (da_val (de_auto (i := 2)) (da_val (de_auto (i := 3)) (da_val (de_mv (i := 4)) (da_nil))))))))))))))) (dss_one (ds_postR ghost_fg (ds_ret (de_mv (i := 1))))))
abbrev s_is_number : Stmt := topS 5
theorem sc_is_number : FnScope (["thing"] : List Str) ["thing"] (defScope s_is_number) := ⟨rfl, rfl, rfl, by decide +kernel, rfl, by decide +kernel, by decide +kernel⟩
theorem h_is_number {P : Program} {w : World} {K : PySem.W.Frag} {mg : Str → Option Value} {base : Heap} {f : Addr} {fd : FuncData} (Fu : L2.Fun K "is_number" "is_number" s_is_number f fd) (hm : mg "is_number" = some (.ref f)) (z_bool : mg "bool" = none) (z_int : mg "int" = none) (z_isinstance : mg "isinstance" = none) : Has P w K mg base 1 "is_number" ["thing"] [false] m_is_number :=
  have sc := sc_is_number
  has_ok (k := 0) (n := 1) (ms := [false]) (m := m_is_number) (g := b_is_number) Fu hm sc rfl rfl rfl (fun _ _ _ _ _ _ us hl => match us, hl with | [_], _ => rfl) fun cdv A outer s H E gd hr hp tk =>
    dss_one (ds_postR ghost_fg (ds_ret (de_and (de_isi rfl z_isinstance (de_auto (i := 0)) rfl z_int boot_ty_int) (de_one (de_not (de_isi rfl z_isinstance (de_auto (i := 0)) rfl z_bool boot_ty_bool))))))
abbrev s_is_from : Stmt := topS 6
theorem sc_is_from : FnScope (["thing", "least", "most"] : List Str) ["thing", "least", "most"] (defScope s_is_from) := ⟨rfl, rfl, rfl, by decide +kernel, rfl, by decide +kernel, by decide +kernel⟩
theorem h_is_from {P : Program} {w : World} {K : PySem.W.Frag} {mg : Str → Option Value} {base : Heap} {f : Addr} {fd : FuncData} (Fu : L2.Fun K "is_from" "is_from" s_is_from f fd) (hm : mg "is_from" = some (.ref f)) (c_is_number : Has P w K mg base 1 "is_number" ["thing"] [false] m_is_number) : Has P w K mg base 2 "is_from" ["thing", "least", "most"] [false, false, false] m_is_from :=
  have sc := sc_is_from
  has_ok (k := 1) (n := 3) (ms := [false, false, false]) (m := m_is_from) (g := b_is_from) Fu hm sc rfl rfl rfl (fun _ _ _ _ _ _ us hl => match us, hl with | [_, _, _], _ => rfl) fun cdv A outer s H E gd hr hp tk =>
    dss_one (ds_postR ghost_fg (ds_ret (de_and (de_callF (de_fn c_is_number tk gd hr (by decide) rfl (da_arg (de_auto (i := 0)) (da_nil)))) (de_one (de_leLe (de_auto (i := 1)) (de_auto (i := 0)) (de_auto (i := 2)))))))
abbrev s_is_size : Stmt := topS 7
theorem sc_is_size : FnScope (["thing"] : List Str) ["thing"] (defScope s_is_size) := ⟨rfl, rfl, rfl, by decide +kernel, rfl, by decide +kernel, by decide +kernel⟩
theorem h_is_size {P : Program} {w : World} {K : PySem.W.Frag} {mg : Str → Option Value} {base : Heap} {f : Addr} {fd : FuncData} (Fu : L2.Fun K "is_size" "is_size" s_is_size f fd) (hm : mg "is_size" = some (.ref f)) {u_MOST_SIZE : Tok} (v_MOST_SIZE : mg "MOST_SIZE" = some (.int 12 u_MOST_SIZE)) (c_is_from : Has P w K mg base 2 "is_from" ["thing", "least", "most"] [false, false, false] m_is_from) : Has P w K mg base 3 "is_size" ["thing"] [false] m_is_size :=
  have sc := sc_is_size
  has_ok (k := 2) (n := 1) (ms := [false]) (m := m_is_size) (g := b_is_size) Fu hm sc rfl rfl rfl (fun _ _ _ _ _ _ us hl => match us, hl with | [_], _ => rfl) fun cdv A outer s H E gd hr hp tk =>
    dss_one (ds_postR ghost_fg (ds_ret (de_callF (de_fn c_is_from tk gd hr (by decide) rfl (da_arg (de_auto (i := 0)) (da_arg (de_int) (da_arg (de_glob (v := .int 12) rfl v_MOST_SIZE ⟨_, rfl⟩ (fun _ _ => .int _)) (da_nil))))))))
abbrev s_takes_turns : Stmt := topS 8
theorem sc_takes_turns : FnScope (["row", "total", "number"] : List Str) ["row"] (defScope s_takes_turns) := ⟨rfl, rfl, rfl, by decide +kernel, rfl, by decide +kernel, by decide +kernel⟩
theorem h_takes_turns {P : Program} {w : World} {K : PySem.W.Frag} {mg : Str → Option Value} {base : Heap} {f : Addr} {fd : FuncData} (Fu : L2.Fun K "takes_turns" "takes_turns" s_takes_turns f fd) (hm : mg "takes_turns" = some (.ref f)) : Has P w K mg base 1 "takes_turns" ["row"] [false] m_takes_turns :=
  have sc := sc_takes_turns
  has_ok (k := 0) (n := 3) (ms := [false]) (m := m_takes_turns) (g := b_takes_turns) Fu hm sc rfl rfl rfl (fun _ _ _ _ _ _ us hl => match us, hl with | [_], _ => rfl) fun cdv A outer s H E gd hr hp tk =>
    dss_cons (ds_set (fz := true) (i := 1) sc.nd (de_int)) (dss_cons (ds_postN ghost_fg (ds_for (ws := [2]) hp rfl (di_any2 (de_mv (i := 0))) (dg_name (i := 2) sc.nd) (dss_cons (ds_postN ghost_fg (ds_set (fz := true) (i := 1) sc.nd (de_add (de_auto (i := 1)) (de_mv (i := 2))))) (dss_one (ds_if (dt_not (dt_leLe (de_int) (de_auto (i := 1)) (de_int))) (dss_one (ds_postR ghost_fg (ds_ret (de_bl)))) (dss_nil)))))) (dss_one (ds_postR ghost_fg (ds_ret (de_eq hr (de_auto (i := 1)) (de_int))))))
abbrev s_column_of : Stmt := topS 9
theorem sc_column_of : FnScope (["floor", "column", "row"] : List Str) ["floor", "column"] (defScope s_column_of) := ⟨rfl, rfl, rfl, by decide +kernel, rfl, by decide +kernel, by decide +kernel⟩
theorem h_column_of {P : Program} {w : World} {K : PySem.W.Frag} {mg : Str → Option Value} {base : Heap} {f : Addr} {fd : FuncData} (Fu : L2.Fun K "column_of" "column_of" s_column_of f fd) (hm : mg "column_of" = some (.ref f)) : Has P w K mg base 1 "column_of" ["floor", "column"] [false, false] m_column_of :=
  have sc := sc_column_of
  has_ok (k := 0) (n := 3) (ms := [false, false]) (m := m_column_of) (g := b_column_of) Fu hm sc rfl rfl rfl (fun _ _ _ _ _ _ us hl => match us, hl with | [_, _], _ => rfl) fun cdv A outer s H E gd hr hp tk =>
    dss_one (ds_postR ghost_fg (ds_ret (de_lc (own := [("row", 2)]) rfl sc.nd (blkOk_by (by rfl)) (di_any2 (de_auto (i := 0))) (fun _ _ _ _ _ => dg_name (i := 2) sc.nd) (fun _ _ _ _ _ => dts_nil) (fun _ _ _ _ _ => de_sub_ix (de_auto (i := 2)) (de_auto (i := 1))))))
abbrev s_is_floor : Stmt := topS 10
theorem sc_is_floor : FnScope (["thing", "row", "column", "part"] : List Str) ["thing"] (defScope s_is_floor) := ⟨rfl, rfl, rfl, by decide +kernel, rfl, by decide +kernel, by decide +kernel⟩
theorem h_is_floor {P : Program} {w : World} {K : PySem.W.Frag} {mg : Str → Option Value} {base : Heap} {f : Addr} {fd : FuncData} (Fu : L2.Fun K "is_floor" "is_floor" s_is_floor f fd) (hm : mg "is_floor" = some (.ref f)) (z_all : mg "all" = none) (z_isinstance : mg "isinstance" = none) (z_len : mg "len" = none) (z_list : mg "list" = none) (z_range : mg "range" = none) (c_is_size : Has P w K mg base 3 "is_size" ["thing"] [false] m_is_size) (c_is_from : Has P w K mg base 2 "is_from" ["thing", "least", "most"] [false, false, false] m_is_from) (c_takes_turns : Has P w K mg base 1 "takes_turns" ["row"] [false] m_takes_turns) (c_column_of : Has P w K mg base 1 "column_of" ["floor", "column"] [false, false] m_column_of) : Has P w K mg base 4 "is_floor" ["thing"] [false] m_is_floor :=
  have sc := sc_is_floor
  has_ok (k := 3) (n := 4) (ms := [false]) (m := m_is_floor) (g := b_is_floor) Fu hm sc rfl rfl rfl (fun _ _ _ _ _ _ us hl => match us, hl with | [_], _ => rfl) fun cdv A outer s H E gd hr hp tk =>
    dss_cons (ds_if (dt_bop (dw_or (dt_not (dt_val (de_isi rfl z_isinstance (de_auto (i := 0)) rfl z_list boot_ty_list))) (dw_or1 (dt_not (dt_val (de_callF (de_fn c_is_size tk gd hr (by decide) rfl (da_arg (de_len rfl z_len (da_val (de_auto (i := 0)) (da_nil))) (da_nil))))))))) (dss_one (ds_postR ghost_fg (ds_ret (de_bl)))) (dss_nil)) (dss_cons (ds_for (ws := [1]) hp rfl (di_any2 (de_auto (i := 0))) (dg_name (i := 1) sc.nd) (dss_one (ds_postN ghost_fg (ds_if (dt_bop (dw_or (dt_not (dt_val (de_isi rfl z_isinstance (de_auto (i := 1)) rfl z_list boot_ty_list))) (dw_or (dt_ne hr (de_len rfl z_len (da_val (de_auto (i := 1)) (da_nil))) (de_len rfl z_len (da_val (de_auto (i := 0)) (da_nil)))) (dw_or1 (dt_not (dt_val (de_all rfl rfl z_all (da_val (de_lc (own := [("part", 3)]) rfl sc.nd (blkOk_by (by rfl)) (di_any2 (de_auto (i := 1))) (fun _ _ _ _ _ => dg_name (i := 3) sc.nd) (fun _ _ _ _ _ => dts_nil) (fun _ _ _ _ _ => de_fn c_is_from takes0 gd hr (by decide) rfl (da_arg (de_auto (i := 3)) (da_arg (de_neg (de_int)) (da_arg (de_int) (da_nil)))))) (da_nil))))))))) (dss_one (ds_postR ghost_fg (ds_ret (de_bl)))) (dss_nil))))) (dss_cons (ds_if (dt_not (dt_val (de_all rfl rfl z_all (da_val (de_lc (own := [("row", 1)]) rfl sc.nd (blkOk_by (by rfl)) (di_any2 (de_auto (i := 0))) (fun _ _ _ _ _ => dg_name (i := 1) sc.nd) (fun _ _ _ _ _ => dts_nil) (fun _ _ _ _ _ => de_fn c_takes_turns takes0 gd hr (by decide) rfl (da_arg (de_auto (i := 1)) (da_nil)))) (da_nil))))) (dss_one (ds_postR ghost_fg (ds_ret (de_bl)))) (dss_nil)) (dss_one (ds_postR ghost_fg (ds_ret (de_all rfl rfl z_all (da_val (de_lc (own := [("column", 2)]) rfl sc.nd (blkOk_by (by rfl)) (di_range1 rfl z_range (da_val (de_len rfl z_len (da_val (de_auto (i := 0)) (da_nil))) (da_nil))) (fun _ _ _ _ _ => dg_name (i := 2) sc.nd) (fun _ _ _ _ _ => dts_nil) (fun _ _ _ _ _ => de_fn c_takes_turns takes0 gd hr (by decide) rfl (da_arg (de_fn c_column_of takes0 gd hr (by decide) rfl (da_arg (de_auto (i := 0)) (da_arg (de_auto (i := 2)) (da_nil)))) (da_nil)))) (da_nil))))))))
abbrev s_look_at_floor : Stmt := topS 11
theorem sc_look_at_floor : FnScope (["thing"] : List Str) ["thing"] (defScope s_look_at_floor) := ⟨rfl, rfl, rfl, by decide +kernel, rfl, by decide +kernel, by decide +kernel⟩
theorem h_look_at_floor {P : Program} {w : World} {K : PySem.W.Frag} {mg : Str → Option Value} {base : Heap} {f : Addr} {fd : FuncData} (Fu : L2.Fun K "look_at_floor" "look_at_floor" s_look_at_floor f fd) (hm : mg "look_at_floor" = some (.ref f)) (c_is_floor : Has P w K mg base 4 "is_floor" ["thing"] [false] m_is_floor) : Has P w K mg base 5 "look_at_floor" ["thing"] [false] m_look_at_floor :=
  have sc := sc_look_at_floor
  has_ok (k := 4) (n := 1) (ms := [false]) (m := m_look_at_floor) (g := b_look_at_floor) Fu hm sc rfl rfl rfl (fun _ _ _ _ _ _ us hl => match us, hl with | [_], _ => rfl) fun cdv A outer s H E gd hr hp tk =>
    dss_one (ds_postN ghost_fg (ds_if (dt_not (dt_val (de_callF (de_fn c_is_floor tk gd hr (by decide) rfl (da_arg (de_auto (i := 0)) (da_nil)))))) (dss_one (ds_never)) (dss_nil)))
abbrev s_heights_by : Stmt := topS 13
theorem sc_heights_by : FnScope (["floor", "found", "row", "longer", "total", "number", "above"] : List Str) ["floor"] (defScope s_heights_by) := ⟨rfl, rfl, rfl, by decide +kernel, rfl, by decide +kernel, by decide +kernel⟩
theorem h_heights_by {P : Program} {w : World} {K : PySem.W.Frag} {mg : Str → Option Value} {base : Heap} {f : Addr} {fd : FuncData} (Fu : L2.Fun K "heights_by" "heights_by" s_heights_by f fd) (hm : mg "heights_by" = some (.ref f)) (z_len : mg "len" = none) (z_zip : mg "zip" = none) : Has P w K mg base 1 "heights_by" ["floor"] [false] m_heights_by :=
  have sc := sc_heights_by
  has_ok (k := 0) (n := 7) (ms := [false]) (m := m_heights_by) (g := b_heights_by) Fu hm sc rfl rfl rfl (fun _ _ _ _ _ _ us hl => match us, hl with | [_], _ => rfl) fun cdv A outer s H E gd hr hp tk =>
    dss_cons (ds_set (fz := false) (i := 1) sc.nd (de_lst (da_val (de_mul (de_lst (da_val (de_int) (da_nil))) (de_add (de_len rfl z_len (da_val (de_auto (i := 0)) (da_nil))) (de_int))) (da_nil)))) (dss_cons (ds_postN ghost_fg (ds_for (ws := [2]) hp rfl (di_any2 (de_mv (i := 0))) (dg_name (i := 2) sc.nd) (dss_cons (ds_set (fz := false) (i := 3) sc.nd (de_lst (da_val (de_int) (da_nil)))) (dss_cons (ds_set (fz := true) (i := 4) sc.nd (de_int)) (dss_cons (ds_postN ghost_fg (ds_for (ws := [5, 6]) hp rfl (di_zip rfl z_zip (da_arg (de_auto (i := 2)) (da_arg (de_sl (de_sub_ix (de_var (i := 1)) (de_neg (de_int))) (do_some (de_int)) (do_none)) (da_nil)))) (dg_tup rfl (dgs_cons (dg_name (i := 5) sc.nd) (dgs_cons (dg_name (i := 6) sc.nd) (dgs_nil)))) (dss_cons (ds_postN ghost_fg (ds_set (fz := true) (i := 4) sc.nd (de_add (de_auto (i := 4)) (de_mv (i := 5))))) (dss_one (ds_postN ghost_fg (ds_meth (i := 3) PySem.F.slot_list_append PySem.F.type_list_append mt_append mv_app stApp_nl (da_val (de_add (de_mv (i := 6)) (de_auto (i := 4))) (da_nil)))))))) (dss_one (ds_postN ghost_fg (ds_meth (i := 1) PySem.F.slot_list_append PySem.F.type_list_append mt_append mv_app stApp_nl (da_val (de_mv (i := 3)) (da_nil)))))))))) (dss_one (ds_postR ghost_fg (ds_ret (de_mv (i := 1))))))
abbrev s_can_rise : Stmt := topS 14
theorem sc_can_rise : FnScope (["heights", "i", "j", "by", "new", "ahead", "behind"] : List Str) ["heights", "i", "j", "by"] (defScope s_can_rise) := ⟨rfl, rfl, rfl, by decide +kernel, rfl, by decide +kernel, by decide +kernel⟩
theorem h_can_rise {P : Program} {w : World} {K : PySem.W.Frag} {mg : Str → Option Value} {base : Heap} {f : Addr} {fd : FuncData} (Fu : L2.Fun K "can_rise" "can_rise" s_can_rise f fd) (hm : mg "can_rise" = some (.ref f)) : Has P w K mg base 1 "can_rise" ["heights", "i", "j", "by"] [false, false, false, false] m_can_rise :=
  have sc := sc_can_rise
  has_ok (k := 0) (n := 7) (ms := [false, false, false, false]) (m := m_can_rise) (g := b_can_rise) Fu hm sc rfl rfl rfl (fun _ _ _ _ _ _ us hl => match us, hl with | [_, _, _, _], _ => rfl) fun cdv A outer s H E gd hr hp tk =>
    dss_cons (ds_postN ghost_fg (ds_set (fz := true) (i := 4) sc.nd (de_add (de_sub_ix (de_sub_ix (de_auto (i := 0)) (de_auto (i := 1))) (de_auto (i := 2))) (de_mv (i := 3))))) (dss_cons (ds_for (ws := [5]) hp rfl (di_any2 (de_tup (da_val (de_sub_ix (de_sub_ix (de_auto (i := 0)) (de_sub (de_auto (i := 1)) (de_int))) (de_auto (i := 2))) (da_val (de_sub_ix (de_sub_ix (de_auto (i := 0)) (de_auto (i := 1))) (de_sub (de_auto (i := 2)) (de_int))) (da_nil))))) (dg_name (i := 5) sc.nd) (dss_one (ds_postN ghost_fg (ds_if (dt_not (dt_leLe (de_int) (de_sub (de_auto (i := 4)) (de_auto (i := 5))) (de_int))) (dss_one (ds_postR ghost_fg (ds_ret (de_bl)))) (dss_nil))))) (dss_cons (ds_postN ghost_fg (ds_for (ws := [6]) hp rfl (di_any2 (de_tup (da_val (de_sub_ix (de_sub_ix (de_auto (i := 0)) (de_add (de_auto (i := 1)) (de_int))) (de_auto (i := 2))) (da_val (de_sub_ix (de_sub_ix (de_auto (i := 0)) (de_auto (i := 1))) (de_add (de_auto (i := 2)) (de_int))) (da_nil))))) (dg_name (i := 6) sc.nd) (dss_one (ds_postN ghost_fg (ds_if (dt_not (dt_leLe (de_int) (de_sub (de_auto (i := 6)) (de_auto (i := 4))) (de_int))) (dss_one (ds_postR ghost_fg (ds_ret (de_bl)))) (dss_nil)))))) (dss_one (ds_postR ghost_fg (ds_ret (de_bl))))))
abbrev s_can_turn : Stmt := topS 16
theorem sc_can_turn : FnScope (["heights", "i", "j", "by"] : List Str) ["heights", "i", "j", "by"] (defScope s_can_turn) := ⟨rfl, rfl, rfl, by decide +kernel, rfl, by decide +kernel, by decide +kernel⟩
theorem h_can_turn {P : Program} {w : World} {K : PySem.W.Frag} {mg : Str → Option Value} {base : Heap} {f : Addr} {fd : FuncData} (Fu : L2.Fun K "can_turn" "can_turn" s_can_turn f fd) (hm : mg "can_turn" = some (.ref f)) (c_can_rise : Has P w K mg base 1 "can_rise" ["heights", "i", "j", "by"] [false, false, false, false] m_can_rise) : Has P w K mg base 2 "can_turn" ["heights", "i", "j", "by"] [false, false, false, false] m_can_turn :=
  have sc := sc_can_turn
  has_ok (k := 1) (n := 4) (ms := [false, false, false, false]) (m := m_can_turn) (g := b_can_turn) Fu hm sc rfl rfl rfl (fun _ _ _ _ _ _ us hl => match us, hl with | [_, _, _, _], _ => rfl) fun cdv A outer s H E gd hr hp tk =>
    dss_one (ds_postR ghost_fg (ds_ret (de_callF (de_fn c_can_rise tk gd hr (by decide) rfl (da_arg (de_auto (i := 0)) (da_arg (de_auto (i := 1)) (da_arg (de_auto (i := 2)) (da_arg (de_auto (i := 3)) (da_nil)))))))))
abbrev s_turns_by : Stmt := topS 17
theorem sc_turns_by : FnScope (["heights", "found", "i", "j", "by"] : List Str) ["heights"] (defScope s_turns_by) := ⟨rfl, rfl, rfl, by decide +kernel, rfl, by decide +kernel, by decide +kernel⟩
theorem h_turns_by {P : Program} {w : World} {K : PySem.W.Frag} {mg : Str → Option Value} {base : Heap} {f : Addr} {fd : FuncData} (Fu : L2.Fun K "turns_by" "turns_by" s_turns_by f fd) (hm : mg "turns_by" = some (.ref f)) (z_len : mg "len" = none) (z_range : mg "range" = none) (c_can_turn : Has P w K mg base 2 "can_turn" ["heights", "i", "j", "by"] [false, false, false, false] m_can_turn) : Has P w K mg base 3 "turns_by" ["heights"] [false] m_turns_by :=
  have sc := sc_turns_by
  has_ok (k := 2) (n := 5) (ms := [false]) (m := m_turns_by) (g := b_turns_by) Fu hm sc rfl rfl rfl (fun _ _ _ _ _ _ us hl => match us, hl with | [_], _ => rfl) fun cdv A outer s H E gd hr hp tk =>
    dss_cons (ds_set (fz := false) (i := 1) sc.nd (de_emp)) (dss_cons (ds_postN ghost_fg (ds_for (ws := [2]) hp rfl (di_range2 rfl z_range (da_val (de_int) (da_val (de_sub (de_len rfl z_len (da_val (de_auto (i := 0)) (da_nil))) (de_int)) (da_nil)))) (dg_name (i := 2) sc.nd) (dss_one (ds_postN ghost_fg (ds_for (ws := [3]) hp rfl (di_range2 rfl z_range (da_val (de_int) (da_val (de_sub (de_len rfl z_len (da_val (de_auto (i := 0)) (da_nil))) (de_int)) (da_nil)))) (dg_name (i := 3) sc.nd) (dss_one (ds_postN ghost_fg (ds_set (fz := false) (i := 1) sc.nd (de_add (de_auto (i := 1)) (de_lc (own := [("by", 4)]) rfl sc.nd (blkOk_by (by rfl)) (di_any2 (de_tup (da_val (de_neg (de_int)) (da_val (de_int) (da_nil))))) (fun _ _ _ _ _ => dg_name (i := 4) sc.nd) (fun _ _ _ _ _ => dts_one (dt_val (de_fn c_can_turn takes0 gd hr (by decide) rfl (da_arg (de_auto (i := 0)) (da_arg (de_auto (i := 2)) (da_arg (de_auto (i := 3)) (da_arg (de_auto (i := 4)) (da_nil)))))))) (fun _ _ _ _ _ => de_tup (da_val (de_auto (i := 2)) (da_val (de_auto (i := 3)) (da_val (de_mv (i := 4)) (da_nil))))))))))))))) (dss_one (ds_postR ghost_fg (ds_ret (de_mv (i := 1))))))
abbrev s_turns_of : Stmt := topS 18
theorem sc_turns_of : FnScope (["floor"] : List Str) ["floor"] (defScope s_turns_of) := ⟨rfl, rfl, rfl, by decide +kernel, rfl, by decide +kernel, by decide +kernel⟩
theorem h_turns_of {P : Program} {w : World} {K : PySem.W.Frag} {mg : Str → Option Value} {base : Heap} {f : Addr} {fd : FuncData} (Fu : L2.Fun K "turns_of" "turns_of" s_turns_of f fd) (hm : mg "turns_of" = some (.ref f)) (c_look_at_floor : Has P w K mg base 5 "look_at_floor" ["thing"] [false] m_look_at_floor) (c_heights_by : Has P w K mg base 1 "heights_by" ["floor"] [false] m_heights_by) (c_turns_by : Has P w K mg base 3 "turns_by" ["heights"] [false] m_turns_by) : Has P w K mg base 6 "turns_of" ["floor"] [false] m_turns_of :=
  have sc := sc_turns_of
  has_ok (k := 5) (n := 1) (ms := [false]) (m := m_turns_of) (g := b_turns_of) Fu hm sc rfl rfl rfl (fun _ _ _ _ _ _ us hl => match us, hl with | [_], _ => rfl) fun cdv A outer s H E gd hr hp tk =>
    dss_cons (ds_expr (de_callF (de_fn c_look_at_floor tk gd hr (by decide) rfl (da_arg (de_auto (i := 0)) (da_nil))))) (dss_one (ds_postR ghost_fg (ds_ret (de_callF (de_fn c_turns_by tk gd hr (by decide) rfl (da_arg (de_callF (de_fn c_heights_by tk gd hr (by decide) rfl (da_arg (de_auto (i := 0)) (da_nil)))) (da_nil)))))))
abbrev s__law_whole : Stmt := topS 25
theorem sc__law_whole : FnScope (["_law_thing"] : List Str) ["_law_thing"] (defScope s__law_whole) := ⟨rfl, rfl, rfl, by decide +kernel, rfl, by decide +kernel, by decide +kernel⟩
theorem h__law_whole {P : Program} {w : World} {K : PySem.W.Frag} {mg : Str → Option Value} {base : Heap} {f : Addr} {fd : FuncData} (Fu : L2.Fun K "_law_whole" "_law_whole" s__law_whole f fd) (hm : mg "_law_whole" = some (.ref f)) (z_bool : mg "bool" = none) (z_int : mg "int" = none) (z_isinstance : mg "isinstance" = none) : Has P w K mg base 1 "_law_whole" ["_law_thing"] [false] m__law_whole :=
  have sc := sc__law_whole
  has_ok (k := 0) (n := 1) (ms := [false]) (m := m__law_whole) (g := b__law_whole) Fu hm sc rfl rfl rfl (fun _ _ _ _ _ _ us hl => match us, hl with | [_], _ => rfl) fun cdv A outer s H E gd hr hp tk =>
    dss_one (ds_postR ghost_fg (ds_ret (de_and (de_isi rfl z_isinstance (de_auto (i := 0)) rfl z_int boot_ty_int) (de_one (de_not (de_isi rfl z_isinstance (de_auto (i := 0)) rfl z_bool boot_ty_bool))))))
abbrev s__law_good : Stmt := topS 28
theorem sc__law_good : FnScope (["_law_floor_here", "_law_handed", "_law_due", "_law_turn", "_law_found", "_law_one", "_law_row", "_law_part"] : List Str) ["_law_floor_here"] (defScope s__law_good) := ⟨rfl, rfl, rfl, by decide +kernel, rfl, by decide +kernel, by decide +kernel⟩
theorem h__law_good {P : Program} {w : World} {K : PySem.W.Frag} {mg : Str → Option Value} {base : Heap} {f : Addr} {fd : FuncData} (Fu : L2.Fun K "_law_good" "_law_good" s__law_good f fd) (hm : mg "_law_good" = some (.ref f)) (z_all : mg "all" = none) (z_isinstance : mg "isinstance" = none) (z_len : mg "len" = none) (z_list : mg "list" = none) (z_range : mg "range" = none) (z_set : mg "set" = none) (z_tuple : mg "tuple" = none) (c__law_heights : Has P w K mg base 1 "_law_heights" ["_law_floor_here"] [false] m__law_heights) (c__law_turns : Has P w K mg base 2 "_law_turns" ["_law_heights_here"] [false] m__law_turns) (c_turns_of : Has P w K mg base 6 "turns_of" ["floor"] [false] m_turns_of) (c__law_whole : Has P w K mg base 1 "_law_whole" ["_law_thing"] [false] m__law_whole) : Has P w K mg base 7 "_law_good" ["_law_floor_here"] [false] m__law_good :=
  have sc := sc__law_good
  has_ok (k := 6) (n := 8) (ms := [false]) (m := m__law_good) (g := b__law_good) Fu hm sc rfl rfl rfl (fun _ _ _ _ _ _ us hl => match us, hl with | [_], _ => rfl) fun cdv A outer s H E gd hr hp tk =>
    dss_cons (ds_setLc (fz := true) (i := 1) (own := [("_law_row", 6)]) rfl sc.nd (blkOk_by (by rfl)) (sw_true rfl rfl rfl rfl) (di_any2 (de_auto (i := 0))) (fun _ _ _ _ _ => dg_name (i := 6) sc.nd) (fun _ _ _ _ _ => dts_nil) (fun _ _ _ _ _ => de_list rfl z_list (da_val (de_mv (i := 6)) (da_nil)))) (dss_cons (ds_set (fz := true) (i := 2) sc.nd (de_callF (de_fn c__law_turns tk gd hr (by decide) rfl (da_arg (de_callF (de_fn c__law_heights tk gd hr (by decide) rfl (da_arg (de_auto (i := 0)) (da_nil)))) (da_nil))))) (dss_cons (ds_postN ghost_fg (ds_for (ws := [3]) hp rfl (di_range1 rfl z_range (da_val (de_int) (da_nil))) (dg_name (i := 3) sc.nd) (dss_cons (ds_postN ghost_fg (ds_set (fz := false) (i := 4) sc.nd (de_callF (de_fn c_turns_of tk gd hr (by decide) rfl (da_arg (de_auto (i := 1)) (da_nil)))))) (dss_cons (ds_if (dt_bop (dw_or (dt_not (dt_val (de_isi rfl z_isinstance (de_var (i := 4)) rfl z_list boot_ty_list))) (dw_or (dt_ne hr (de_var (i := 4)) (de_auto (i := 2))) (dw_or1 (dt_ne hr (de_auto (i := 1)) (de_auto (i := 0))))))) (dss_one (ds_postR ghost_fg (ds_ret (de_bl)))) (dss_nil)) (dss_cons (ds_forH (i := 4) (ws := [5]) hp rfl (dg_name (i := 5) sc.nd) (dss_one (ds_postN ghost_fg (ds_if (dt_bop (dw_or (dt_not (dt_val (de_isi rfl z_isinstance (de_auto (i := 5)) rfl z_tuple boot_ty_tuple))) (dw_or1 (dt_not (dt_val (de_all rfl rfl z_all (da_val (de_lc (own := [("_law_part", 7)]) rfl sc.nd (blkOk_by (by rfl)) (di_any2 (de_auto (i := 5))) (fun _ _ _ _ _ => dg_name (i := 7) sc.nd) (fun _ _ _ _ _ => dts_nil) (fun _ _ _ _ _ => de_fn c__law_whole takes0 gd hr (by decide) rfl (da_arg (de_auto (i := 7)) (da_nil)))) (da_nil)))))))) (dss_one (ds_postR ghost_fg (ds_ret (de_bl)))) (dss_nil))))) (dss_cons (ds_if (dt_ne hr (de_lenSet rfl hr rfl z_len rfl z_set (de_lc (own := [("_law_one", 5)]) rfl sc.nd (blkOk_by (by rfl)) (di_any2 (de_var (i := 4))) (fun _ _ _ _ _ => dg_name (i := 5) sc.nd) (fun _ _ _ _ _ => dts_nil) (fun _ _ _ _ _ => de_sl (de_auto (i := 5)) (do_none) (do_some (de_int))))) (de_len rfl z_len (da_val (de_var (i := 4)) (da_nil)))) (dss_one (ds_postR ghost_fg (ds_ret (de_bl)))) (dss_nil)) (dss_cons (ds_meth (i := 4) PySem.F.slot_list_append PySem.F.type_list_append mt_append mv_app stApp_nl (da_val (de_tup (da_val (de_int) (da_val (de_int) (da_val (de_int) (da_nil))))) (da_nil))) (dss_one (ds_postN ghost_fg (ds_meth (i := 4) PySem.F.slot_list_pop PySem.F.type_list_pop mt_popAt mv_popAt stPopAt_nl (da_val (de_int) (da_nil)))))))))))) (dss_one (ds_postR ghost_fg (ds_ret (de_eq hr (de_auto (i := 1)) (de_auto (i := 0))))))))
abbrev s_law : Stmt := topS 29
theorem sc_law : FnScope (["_law_script", "_law_some", "_law_k", "_law_pile", "_law_floor_here"] : List Str) ["_law_script"] (defScope s_law) := ⟨rfl, rfl, rfl, by decide +kernel, rfl, by decide +kernel, by decide +kernel⟩
theorem h_law {P : Program} {w : World} {K : PySem.W.Frag} {mg : Str → Option Value} {base : Heap} {f : Addr} {fd : FuncData} (Fu : L2.Fun K "law" "law" s_law f fd) (z_all : mg "all" = none) (z_range : mg "range" = none) (c__law_cell : Has P w K mg base 2 "_law_cell" ["_law_script", "_law_k"] [false, false] m__law_cell) (c__law_take : Has P w K mg base 1 "_law_take" ["_law_pile", "_law_size"] [true, false] m__law_take) (c__law_floor : Has P w K mg base 2 "_law_floor" ["_law_pile", "_law_n"] [true, false] m__law_floor) (c__law_good : Has P w K mg base 7 "_law_good" ["_law_floor_here"] [false] m__law_good) : FnG P w K mg base 8 f fd ["_law_script"] (spOf K mg [false] m_law) :=
  have sc := sc_law
  fn_okM (k := 7) (n := 5) (ms := [false]) (m := m_law) (g := b_law) Fu sc rfl rfl rfl fun cdv A outer s H E gd hr hp tk =>
    dss_cons (ds_set (fz := false) (i := 1) sc.nd (de_lst (da_val (de_lst (da_val (de_lst (da_val (de_int) (da_nil))) (da_nil))) (da_nil)))) (dss_cons (ds_postN ghost_fg (ds_for (ws := [2]) hp rfl (di_range1 rfl z_range (da_val (de_int) (da_nil))) (dg_name (i := 2) sc.nd) (dss_cons (ds_postN ghost_fg (ds_set (fz := false) (i := 3) sc.nd (de_lst (da_val (de_callF (de_fn c__law_cell tk gd hr (by decide) rfl (da_arg (de_auto (i := 0)) (da_arg (de_auto (i := 2)) (da_nil))))) (da_nil))))) (dss_one (ds_postN ghost_fg (ds_postN ghost_sh (ds_pre ghost_hd (ds_meth (i := 1) PySem.F.slot_list_append PySem.F.type_list_append mt_append mv_app stApp_nl (da_val (de_callF (de_fn c__law_floor tk gd hr (by decide) rfl (da_ref (i := 3) (da_arg (de_add (de_int) (de_callF (de_fn c__law_take tk gd hr (by decide) rfl (da_ref (i := 3) (da_arg (de_int) (da_nil)))))) (da_nil))))) (da_nil)))))))))) (dss_one (ds_postR ghost_fg (ds_ret (de_all rfl rfl z_all (da_val (de_lc (own := [("_law_floor_here", 4)]) rfl sc.nd (blkOk_by (by rfl)) (di_any2 (de_add (de_var (i := 1)) (de_sl (de_var (i := 1)) (do_some (de_int)) (do_some (de_int))))) (fun _ _ _ _ _ => dg_name (i := 4) sc.nd) (fun _ _ _ _ _ => dts_nil) (fun _ _ _ _ _ => de_fn c__law_good takes0 gd hr (by decide) rfl (da_arg (de_auto (i := 4)) (da_nil)))) (da_nil)))))))
end LW
set_option Elab.async false
set_option linter.all false
set_option maxRecDepth 100000
set_option maxHeartbeats 0
namespace LW
open PySem PySem.Spec PyProof.Rows L2 TV
theorem all_mk {l : PySem.W.OpenLaw} {w : World} {K : PySem.W.Frag} {h : Heap} {mg : Str → Option Value} {fa f__law_mixed f__law_cell f__law_take f__law_floor f__law_heights f__law_can f__law_turns f_is_number f_is_from f_is_size f_takes_turns f_column_of f_is_floor f_look_at_floor f_heights_by f_can_rise f_can_turn f_turns_by f_turns_of f__law_whole f__law_good f_law : Addr} (X : K.In h) (G : h.Ns mainGlobals mg) (hfa : mg "law" = some (.ref fa))
    {od__law_mixed an__law_mixed : Option Addr} {sl__law_mixed : Array (Option Value)} {oc__law_mixed kV__law_mixed dc__law_mixed pm__law_mixed cd__law_mixed ct__law_mixed : Value}
    (a__law_mixed : PySem.W.nsIn K mainGlobals "_law_mixed" = some (some (.ref f__law_mixed))) (l__law_mixed : K.lookup f__law_mixed = some ⟨oc__law_mixed, od__law_mixed, .func (PySem.W.fnOf "_law_mixed" "_law_mixed" (defArgs s__law_mixed) (defBody s__law_mixed) (defScope s__law_mixed) .none kV__law_mixed dc__law_mixed pm__law_mixed an__law_mixed cd__law_mixed ct__law_mixed), sl__law_mixed⟩) (c__law_mixed : PySem.W.codeIn K cd__law_mixed "_law_mixed" = true) (k__law_mixed : PySem.W.keepIn K (.ref f__law_mixed) = true)
    {od__law_cell an__law_cell : Option Addr} {sl__law_cell : Array (Option Value)} {oc__law_cell kV__law_cell dc__law_cell pm__law_cell cd__law_cell ct__law_cell : Value}
    (a__law_cell : PySem.W.nsIn K mainGlobals "_law_cell" = some (some (.ref f__law_cell))) (l__law_cell : K.lookup f__law_cell = some ⟨oc__law_cell, od__law_cell, .func (PySem.W.fnOf "_law_cell" "_law_cell" (defArgs s__law_cell) (defBody s__law_cell) (defScope s__law_cell) .none kV__law_cell dc__law_cell pm__law_cell an__law_cell cd__law_cell ct__law_cell), sl__law_cell⟩) (c__law_cell : PySem.W.codeIn K cd__law_cell "_law_cell" = true) (k__law_cell : PySem.W.keepIn K (.ref f__law_cell) = true)
    {od__law_take an__law_take : Option Addr} {sl__law_take : Array (Option Value)} {oc__law_take kV__law_take dc__law_take pm__law_take cd__law_take ct__law_take : Value}
    (a__law_take : PySem.W.nsIn K mainGlobals "_law_take" = some (some (.ref f__law_take))) (l__law_take : K.lookup f__law_take = some ⟨oc__law_take, od__law_take, .func (PySem.W.fnOf "_law_take" "_law_take" (defArgs s__law_take) (defBody s__law_take) (defScope s__law_take) .none kV__law_take dc__law_take pm__law_take an__law_take cd__law_take ct__law_take), sl__law_take⟩) (c__law_take : PySem.W.codeIn K cd__law_take "_law_take" = true) (k__law_take : PySem.W.keepIn K (.ref f__law_take) = true)
    {od__law_floor an__law_floor : Option Addr} {sl__law_floor : Array (Option Value)} {oc__law_floor kV__law_floor dc__law_floor pm__law_floor cd__law_floor ct__law_floor : Value}
    (a__law_floor : PySem.W.nsIn K mainGlobals "_law_floor" = some (some (.ref f__law_floor))) (l__law_floor : K.lookup f__law_floor = some ⟨oc__law_floor, od__law_floor, .func (PySem.W.fnOf "_law_floor" "_law_floor" (defArgs s__law_floor) (defBody s__law_floor) (defScope s__law_floor) .none kV__law_floor dc__law_floor pm__law_floor an__law_floor cd__law_floor ct__law_floor), sl__law_floor⟩) (c__law_floor : PySem.W.codeIn K cd__law_floor "_law_floor" = true) (k__law_floor : PySem.W.keepIn K (.ref f__law_floor) = true)
    {od__law_heights an__law_heights : Option Addr} {sl__law_heights : Array (Option Value)} {oc__law_heights kV__law_heights dc__law_heights pm__law_heights cd__law_heights ct__law_heights : Value}
    (a__law_heights : PySem.W.nsIn K mainGlobals "_law_heights" = some (some (.ref f__law_heights))) (l__law_heights : K.lookup f__law_heights = some ⟨oc__law_heights, od__law_heights, .func (PySem.W.fnOf "_law_heights" "_law_heights" (defArgs s__law_heights) (defBody s__law_heights) (defScope s__law_heights) .none kV__law_heights dc__law_heights pm__law_heights an__law_heights cd__law_heights ct__law_heights), sl__law_heights⟩) (c__law_heights : PySem.W.codeIn K cd__law_heights "_law_heights" = true) (k__law_heights : PySem.W.keepIn K (.ref f__law_heights) = true)
    {od__law_can an__law_can : Option Addr} {sl__law_can : Array (Option Value)} {oc__law_can kV__law_can dc__law_can pm__law_can cd__law_can ct__law_can : Value}
    (a__law_can : PySem.W.nsIn K mainGlobals "_law_can" = some (some (.ref f__law_can))) (l__law_can : K.lookup f__law_can = some ⟨oc__law_can, od__law_can, .func (PySem.W.fnOf "_law_can" "_law_can" (defArgs s__law_can) (defBody s__law_can) (defScope s__law_can) .none kV__law_can dc__law_can pm__law_can an__law_can cd__law_can ct__law_can), sl__law_can⟩) (c__law_can : PySem.W.codeIn K cd__law_can "_law_can" = true) (k__law_can : PySem.W.keepIn K (.ref f__law_can) = true)
    {od__law_turns an__law_turns : Option Addr} {sl__law_turns : Array (Option Value)} {oc__law_turns kV__law_turns dc__law_turns pm__law_turns cd__law_turns ct__law_turns : Value}
    (a__law_turns : PySem.W.nsIn K mainGlobals "_law_turns" = some (some (.ref f__law_turns))) (l__law_turns : K.lookup f__law_turns = some ⟨oc__law_turns, od__law_turns, .func (PySem.W.fnOf "_law_turns" "_law_turns" (defArgs s__law_turns) (defBody s__law_turns) (defScope s__law_turns) .none kV__law_turns dc__law_turns pm__law_turns an__law_turns cd__law_turns ct__law_turns), sl__law_turns⟩) (c__law_turns : PySem.W.codeIn K cd__law_turns "_law_turns" = true) (k__law_turns : PySem.W.keepIn K (.ref f__law_turns) = true)
    {od_is_number an_is_number : Option Addr} {sl_is_number : Array (Option Value)} {oc_is_number kV_is_number dc_is_number pm_is_number cd_is_number ct_is_number : Value}
    (a_is_number : PySem.W.nsIn K mainGlobals "is_number" = some (some (.ref f_is_number))) (l_is_number : K.lookup f_is_number = some ⟨oc_is_number, od_is_number, .func (PySem.W.fnOf "is_number" "is_number" (defArgs s_is_number) (defBody s_is_number) (defScope s_is_number) .none kV_is_number dc_is_number pm_is_number an_is_number cd_is_number ct_is_number), sl_is_number⟩) (c_is_number : PySem.W.codeIn K cd_is_number "is_number" = true) (k_is_number : PySem.W.keepIn K (.ref f_is_number) = true)
    {od_is_from an_is_from : Option Addr} {sl_is_from : Array (Option Value)} {oc_is_from kV_is_from dc_is_from pm_is_from cd_is_from ct_is_from : Value}
    (a_is_from : PySem.W.nsIn K mainGlobals "is_from" = some (some (.ref f_is_from))) (l_is_from : K.lookup f_is_from = some ⟨oc_is_from, od_is_from, .func (PySem.W.fnOf "is_from" "is_from" (defArgs s_is_from) (defBody s_is_from) (defScope s_is_from) .none kV_is_from dc_is_from pm_is_from an_is_from cd_is_from ct_is_from), sl_is_from⟩) (c_is_from : PySem.W.codeIn K cd_is_from "is_from" = true) (k_is_from : PySem.W.keepIn K (.ref f_is_from) = true)
    {od_is_size an_is_size : Option Addr} {sl_is_size : Array (Option Value)} {oc_is_size kV_is_size dc_is_size pm_is_size cd_is_size ct_is_size : Value}
    (a_is_size : PySem.W.nsIn K mainGlobals "is_size" = some (some (.ref f_is_size))) (l_is_size : K.lookup f_is_size = some ⟨oc_is_size, od_is_size, .func (PySem.W.fnOf "is_size" "is_size" (defArgs s_is_size) (defBody s_is_size) (defScope s_is_size) .none kV_is_size dc_is_size pm_is_size an_is_size cd_is_size ct_is_size), sl_is_size⟩) (c_is_size : PySem.W.codeIn K cd_is_size "is_size" = true) (k_is_size : PySem.W.keepIn K (.ref f_is_size) = true)
    {od_takes_turns an_takes_turns : Option Addr} {sl_takes_turns : Array (Option Value)} {oc_takes_turns kV_takes_turns dc_takes_turns pm_takes_turns cd_takes_turns ct_takes_turns : Value}
    (a_takes_turns : PySem.W.nsIn K mainGlobals "takes_turns" = some (some (.ref f_takes_turns))) (l_takes_turns : K.lookup f_takes_turns = some ⟨oc_takes_turns, od_takes_turns, .func (PySem.W.fnOf "takes_turns" "takes_turns" (defArgs s_takes_turns) (defBody s_takes_turns) (defScope s_takes_turns) .none kV_takes_turns dc_takes_turns pm_takes_turns an_takes_turns cd_takes_turns ct_takes_turns), sl_takes_turns⟩) (c_takes_turns : PySem.W.codeIn K cd_takes_turns "takes_turns" = true) (k_takes_turns : PySem.W.keepIn K (.ref f_takes_turns) = true)
    {od_column_of an_column_of : Option Addr} {sl_column_of : Array (Option Value)} {oc_column_of kV_column_of dc_column_of pm_column_of cd_column_of ct_column_of : Value}
    (a_column_of : PySem.W.nsIn K mainGlobals "column_of" = some (some (.ref f_column_of))) (l_column_of : K.lookup f_column_of = some ⟨oc_column_of, od_column_of, .func (PySem.W.fnOf "column_of" "column_of" (defArgs s_column_of) (defBody s_column_of) (defScope s_column_of) .none kV_column_of dc_column_of pm_column_of an_column_of cd_column_of ct_column_of), sl_column_of⟩) (c_column_of : PySem.W.codeIn K cd_column_of "column_of" = true) (k_column_of : PySem.W.keepIn K (.ref f_column_of) = true)
    {od_is_floor an_is_floor : Option Addr} {sl_is_floor : Array (Option Value)} {oc_is_floor kV_is_floor dc_is_floor pm_is_floor cd_is_floor ct_is_floor : Value}
    (a_is_floor : PySem.W.nsIn K mainGlobals "is_floor" = some (some (.ref f_is_floor))) (l_is_floor : K.lookup f_is_floor = some ⟨oc_is_floor, od_is_floor, .func (PySem.W.fnOf "is_floor" "is_floor" (defArgs s_is_floor) (defBody s_is_floor) (defScope s_is_floor) .none kV_is_floor dc_is_floor pm_is_floor an_is_floor cd_is_floor ct_is_floor), sl_is_floor⟩) (c_is_floor : PySem.W.codeIn K cd_is_floor "is_floor" = true) (k_is_floor : PySem.W.keepIn K (.ref f_is_floor) = true)
    {od_look_at_floor an_look_at_floor : Option Addr} {sl_look_at_floor : Array (Option Value)} {oc_look_at_floor kV_look_at_floor dc_look_at_floor pm_look_at_floor cd_look_at_floor ct_look_at_floor : Value}
    (a_look_at_floor : PySem.W.nsIn K mainGlobals "look_at_floor" = some (some (.ref f_look_at_floor))) (l_look_at_floor : K.lookup f_look_at_floor = some ⟨oc_look_at_floor, od_look_at_floor, .func (PySem.W.fnOf "look_at_floor" "look_at_floor" (defArgs s_look_at_floor) (defBody s_look_at_floor) (defScope s_look_at_floor) .none kV_look_at_floor dc_look_at_floor pm_look_at_floor an_look_at_floor cd_look_at_floor ct_look_at_floor), sl_look_at_floor⟩) (c_look_at_floor : PySem.W.codeIn K cd_look_at_floor "look_at_floor" = true) (k_look_at_floor : PySem.W.keepIn K (.ref f_look_at_floor) = true)
    {od_heights_by an_heights_by : Option Addr} {sl_heights_by : Array (Option Value)} {oc_heights_by kV_heights_by dc_heights_by pm_heights_by cd_heights_by ct_heights_by : Value}
    (a_heights_by : PySem.W.nsIn K mainGlobals "heights_by" = some (some (.ref f_heights_by))) (l_heights_by : K.lookup f_heights_by = some ⟨oc_heights_by, od_heights_by, .func (PySem.W.fnOf "heights_by" "heights_by" (defArgs s_heights_by) (defBody s_heights_by) (defScope s_heights_by) .none kV_heights_by dc_heights_by pm_heights_by an_heights_by cd_heights_by ct_heights_by), sl_heights_by⟩) (c_heights_by : PySem.W.codeIn K cd_heights_by "heights_by" = true) (k_heights_by : PySem.W.keepIn K (.ref f_heights_by) = true)
    {od_can_rise an_can_rise : Option Addr} {sl_can_rise : Array (Option Value)} {oc_can_rise kV_can_rise dc_can_rise pm_can_rise cd_can_rise ct_can_rise : Value}
    (a_can_rise : PySem.W.nsIn K mainGlobals "can_rise" = some (some (.ref f_can_rise))) (l_can_rise : K.lookup f_can_rise = some ⟨oc_can_rise, od_can_rise, .func (PySem.W.fnOf "can_rise" "can_rise" (defArgs s_can_rise) (defBody s_can_rise) (defScope s_can_rise) .none kV_can_rise dc_can_rise pm_can_rise an_can_rise cd_can_rise ct_can_rise), sl_can_rise⟩) (c_can_rise : PySem.W.codeIn K cd_can_rise "can_rise" = true) (k_can_rise : PySem.W.keepIn K (.ref f_can_rise) = true)
    {od_can_turn an_can_turn : Option Addr} {sl_can_turn : Array (Option Value)} {oc_can_turn kV_can_turn dc_can_turn pm_can_turn cd_can_turn ct_can_turn : Value}
    (a_can_turn : PySem.W.nsIn K mainGlobals "can_turn" = some (some (.ref f_can_turn))) (l_can_turn : K.lookup f_can_turn = some ⟨oc_can_turn, od_can_turn, .func (PySem.W.fnOf "can_turn" "can_turn" (defArgs s_can_turn) (defBody s_can_turn) (defScope s_can_turn) .none kV_can_turn dc_can_turn pm_can_turn an_can_turn cd_can_turn ct_can_turn), sl_can_turn⟩) (c_can_turn : PySem.W.codeIn K cd_can_turn "can_turn" = true) (k_can_turn : PySem.W.keepIn K (.ref f_can_turn) = true)
    {od_turns_by an_turns_by : Option Addr} {sl_turns_by : Array (Option Value)} {oc_turns_by kV_turns_by dc_turns_by pm_turns_by cd_turns_by ct_turns_by : Value}
    (a_turns_by : PySem.W.nsIn K mainGlobals "turns_by" = some (some (.ref f_turns_by))) (l_turns_by : K.lookup f_turns_by = some ⟨oc_turns_by, od_turns_by, .func (PySem.W.fnOf "turns_by" "turns_by" (defArgs s_turns_by) (defBody s_turns_by) (defScope s_turns_by) .none kV_turns_by dc_turns_by pm_turns_by an_turns_by cd_turns_by ct_turns_by), sl_turns_by⟩) (c_turns_by : PySem.W.codeIn K cd_turns_by "turns_by" = true) (k_turns_by : PySem.W.keepIn K (.ref f_turns_by) = true)
    {od_turns_of an_turns_of : Option Addr} {sl_turns_of : Array (Option Value)} {oc_turns_of kV_turns_of dc_turns_of pm_turns_of cd_turns_of ct_turns_of : Value}
    (a_turns_of : PySem.W.nsIn K mainGlobals "turns_of" = some (some (.ref f_turns_of))) (l_turns_of : K.lookup f_turns_of = some ⟨oc_turns_of, od_turns_of, .func (PySem.W.fnOf "turns_of" "turns_of" (defArgs s_turns_of) (defBody s_turns_of) (defScope s_turns_of) .none kV_turns_of dc_turns_of pm_turns_of an_turns_of cd_turns_of ct_turns_of), sl_turns_of⟩) (c_turns_of : PySem.W.codeIn K cd_turns_of "turns_of" = true) (k_turns_of : PySem.W.keepIn K (.ref f_turns_of) = true)
    {od__law_whole an__law_whole : Option Addr} {sl__law_whole : Array (Option Value)} {oc__law_whole kV__law_whole dc__law_whole pm__law_whole cd__law_whole ct__law_whole : Value}
    (a__law_whole : PySem.W.nsIn K mainGlobals "_law_whole" = some (some (.ref f__law_whole))) (l__law_whole : K.lookup f__law_whole = some ⟨oc__law_whole, od__law_whole, .func (PySem.W.fnOf "_law_whole" "_law_whole" (defArgs s__law_whole) (defBody s__law_whole) (defScope s__law_whole) .none kV__law_whole dc__law_whole pm__law_whole an__law_whole cd__law_whole ct__law_whole), sl__law_whole⟩) (c__law_whole : PySem.W.codeIn K cd__law_whole "_law_whole" = true) (k__law_whole : PySem.W.keepIn K (.ref f__law_whole) = true)
    {od__law_good an__law_good : Option Addr} {sl__law_good : Array (Option Value)} {oc__law_good kV__law_good dc__law_good pm__law_good cd__law_good ct__law_good : Value}
    (a__law_good : PySem.W.nsIn K mainGlobals "_law_good" = some (some (.ref f__law_good))) (l__law_good : K.lookup f__law_good = some ⟨oc__law_good, od__law_good, .func (PySem.W.fnOf "_law_good" "_law_good" (defArgs s__law_good) (defBody s__law_good) (defScope s__law_good) .none kV__law_good dc__law_good pm__law_good an__law_good cd__law_good ct__law_good), sl__law_good⟩) (c__law_good : PySem.W.codeIn K cd__law_good "_law_good" = true) (k__law_good : PySem.W.keepIn K (.ref f__law_good) = true)
    {od_law an_law : Option Addr} {sl_law : Array (Option Value)} {oc_law kV_law dc_law pm_law cd_law ct_law : Value}
    (a_law : PySem.W.nsIn K mainGlobals "law" = some (some (.ref f_law))) (l_law : K.lookup f_law = some ⟨oc_law, od_law, .func (PySem.W.fnOf "law" "law" (defArgs s_law) (defBody s_law) (defScope s_law) .none kV_law dc_law pm_law an_law cd_law ct_law), sl_law⟩) (c_law : PySem.W.codeIn K cd_law "law" = true) (k_law : PySem.W.keepIn K (.ref f_law) = true)
    (z_all : PySem.W.nsIn K mainGlobals "all" = some none)
    (z_bool : PySem.W.nsIn K mainGlobals "bool" = some none)
    (z_int : PySem.W.nsIn K mainGlobals "int" = some none)
    (z_isinstance : PySem.W.nsIn K mainGlobals "isinstance" = some none)
    (z_len : PySem.W.nsIn K mainGlobals "len" = some none)
    (z_list : PySem.W.nsIn K mainGlobals "list" = some none)
    (z_range : PySem.W.nsIn K mainGlobals "range" = some none)
    (z_set : PySem.W.nsIn K mainGlobals "set" = some none)
    (z_sum : PySem.W.nsIn K mainGlobals "sum" = some none)
    (z_tuple : PySem.W.nsIn K mainGlobals "tuple" = some none)
    (z_zip : PySem.W.nsIn K mainGlobals "zip" = some none)
    {u_MOST_SIZE : Tok} (v_MOST_SIZE : PySem.W.nsIn K mainGlobals "MOST_SIZE" = some (some (.int 12 u_MOST_SIZE)))
    : ∃ fd : FuncData, (∀ (s : Shared) (v : Value), BindsTo s fd ⟨[v], []⟩ [("_law_script", v)]) ∧ ∀ base : Heap, K.In base → base.Ns mainGlobals mg → FnG l.prog w K mg base 8 fa fd ["_law_script"] (spTrue K) := by
  have e := hfa.symm.trans (PySem.W.mg_of X G a_law)
  cases e
  have n_all := PySem.W.mg_none_of X G z_all
  have n_bool := PySem.W.mg_none_of X G z_bool
  have n_int := PySem.W.mg_none_of X G z_int
  have n_isinstance := PySem.W.mg_none_of X G z_isinstance
  have n_len := PySem.W.mg_none_of X G z_len
  have n_list := PySem.W.mg_none_of X G z_list
  have n_range := PySem.W.mg_none_of X G z_range
  have n_set := PySem.W.mg_none_of X G z_set
  have n_sum := PySem.W.mg_none_of X G z_sum
  have n_tuple := PySem.W.mg_none_of X G z_tuple
  have n_zip := PySem.W.mg_none_of X G z_zip
  have w_MOST_SIZE := PySem.W.mg_of X G v_MOST_SIZE
  refine ⟨PySem.W.fnOf "law" "law" (defArgs s_law) (defBody s_law) (defScope s_law) .none kV_law dc_law pm_law an_law cd_law ct_law, fun s v => .of_eq rfl, fun base _ _ => ?_⟩
  have t__law_mixed := h__law_mixed (P := l.prog) (w := w) (base := base) (fun_mk (st := s__law_mixed) l__law_mixed c__law_mixed k__law_mixed) (PySem.W.mg_of X G a__law_mixed)
  have t__law_cell := h__law_cell (P := l.prog) (w := w) (base := base) (fun_mk (st := s__law_cell) l__law_cell c__law_cell k__law_cell) (PySem.W.mg_of X G a__law_cell) n_len n_range t__law_mixed
  have t__law_take := h__law_take (P := l.prog) (w := w) (base := base) (fun_mk (st := s__law_take) l__law_take c__law_take k__law_take) (PySem.W.mg_of X G a__law_take)
  have t__law_floor := h__law_floor (P := l.prog) (w := w) (base := base) (fun_mk (st := s__law_floor) l__law_floor c__law_floor k__law_floor) (PySem.W.mg_of X G a__law_floor) n_int n_len n_list n_range n_zip t__law_take
  have t__law_heights := h__law_heights (P := l.prog) (w := w) (base := base) (fun_mk (st := s__law_heights) l__law_heights c__law_heights k__law_heights) (PySem.W.mg_of X G a__law_heights) n_len n_range n_sum
  have t__law_can := h__law_can (P := l.prog) (w := w) (base := base) (fun_mk (st := s__law_can) l__law_can c__law_can k__law_can) (PySem.W.mg_of X G a__law_can) n_all
  have t__law_turns := h__law_turns (P := l.prog) (w := w) (base := base) (fun_mk (st := s__law_turns) l__law_turns c__law_turns k__law_turns) (PySem.W.mg_of X G a__law_turns) n_len n_range t__law_can
  have t_is_number := h_is_number (P := l.prog) (w := w) (base := base) (fun_mk (st := s_is_number) l_is_number c_is_number k_is_number) (PySem.W.mg_of X G a_is_number) n_bool n_int n_isinstance
  have t_is_from := h_is_from (P := l.prog) (w := w) (base := base) (fun_mk (st := s_is_from) l_is_from c_is_from k_is_from) (PySem.W.mg_of X G a_is_from) t_is_number
  have t_is_size := h_is_size (P := l.prog) (w := w) (base := base) (fun_mk (st := s_is_size) l_is_size c_is_size k_is_size) (PySem.W.mg_of X G a_is_size) w_MOST_SIZE t_is_from
  have t_takes_turns := h_takes_turns (P := l.prog) (w := w) (base := base) (fun_mk (st := s_takes_turns) l_takes_turns c_takes_turns k_takes_turns) (PySem.W.mg_of X G a_takes_turns)
  have t_column_of := h_column_of (P := l.prog) (w := w) (base := base) (fun_mk (st := s_column_of) l_column_of c_column_of k_column_of) (PySem.W.mg_of X G a_column_of)
  have t_is_floor := h_is_floor (P := l.prog) (w := w) (base := base) (fun_mk (st := s_is_floor) l_is_floor c_is_floor k_is_floor) (PySem.W.mg_of X G a_is_floor) n_all n_isinstance n_len n_list n_range t_is_size t_is_from t_takes_turns t_column_of
  have t_look_at_floor := h_look_at_floor (P := l.prog) (w := w) (base := base) (fun_mk (st := s_look_at_floor) l_look_at_floor c_look_at_floor k_look_at_floor) (PySem.W.mg_of X G a_look_at_floor) t_is_floor
  have t_heights_by := h_heights_by (P := l.prog) (w := w) (base := base) (fun_mk (st := s_heights_by) l_heights_by c_heights_by k_heights_by) (PySem.W.mg_of X G a_heights_by) n_len n_zip
  have t_can_rise := h_can_rise (P := l.prog) (w := w) (base := base) (fun_mk (st := s_can_rise) l_can_rise c_can_rise k_can_rise) (PySem.W.mg_of X G a_can_rise)
  have t_can_turn := h_can_turn (P := l.prog) (w := w) (base := base) (fun_mk (st := s_can_turn) l_can_turn c_can_turn k_can_turn) (PySem.W.mg_of X G a_can_turn) t_can_rise
  have t_turns_by := h_turns_by (P := l.prog) (w := w) (base := base) (fun_mk (st := s_turns_by) l_turns_by c_turns_by k_turns_by) (PySem.W.mg_of X G a_turns_by) n_len n_range t_can_turn
  have t_turns_of := h_turns_of (P := l.prog) (w := w) (base := base) (fun_mk (st := s_turns_of) l_turns_of c_turns_of k_turns_of) (PySem.W.mg_of X G a_turns_of) t_look_at_floor t_heights_by t_turns_by
  have t__law_whole := h__law_whole (P := l.prog) (w := w) (base := base) (fun_mk (st := s__law_whole) l__law_whole c__law_whole k__law_whole) (PySem.W.mg_of X G a__law_whole) n_bool n_int n_isinstance
  have t__law_good := h__law_good (P := l.prog) (w := w) (base := base) (fun_mk (st := s__law_good) l__law_good c__law_good k__law_good) (PySem.W.mg_of X G a__law_good) n_all n_isinstance n_len n_list n_range n_set n_tuple t__law_heights t__law_turns t_turns_of t__law_whole
  exact law_ok (h_law (fun_mk (st := s_law) l_law c_law k_law) n_all n_range t__law_cell t__law_take t__law_floor t__law_good) rfl law_plain
end LW
open PySem PySem.W PyProof.Rows in
set_option maxRecDepth 100000 in
set_option maxHeartbeats 0 in
theorem PySem.Challenge.cw_bowfloor_k30_turns_that_can_be_done_holds : PySem.Challenge.rw_bowfloor_k30_turns_that_can_be_done.Holds := by
  w_on; o_law; k_head; (case hw => w_witness2)
  k_fill
  refine TV.walk_tree (k := 8) (x := "_law_script") rfl rfl ⟨rfl, by decide, by decide⟩ (fun w h Y => PySem.W.kIn_of Y) ?F
  case F =>
    intro w mg fa h KX G hmg
    refine' LW.all_mk KX G hmg ?a__law_mixed ?l__law_mixed ?c__law_mixed ?k__law_mixed ?a__law_cell ?l__law_cell ?c__law_cell ?k__law_cell ?a__law_take ?l__law_take ?c__law_take ?k__law_take ?a__law_floor ?l__law_floor ?c__law_floor ?k__law_floor ?a__law_heights ?l__law_heights ?c__law_heights ?k__law_heights ?a__law_can ?l__law_can ?c__law_can ?k__law_can ?a__law_turns ?l__law_turns ?c__law_turns ?k__law_turns ?a_is_number ?l_is_number ?c_is_number ?k_is_number ?a_is_from ?l_is_from ?c_is_from ?k_is_from ?a_is_size ?l_is_size ?c_is_size ?k_is_size ?a_takes_turns ?l_takes_turns ?c_takes_turns ?k_takes_turns ?a_column_of ?l_column_of ?c_column_of ?k_column_of ?a_is_floor ?l_is_floor ?c_is_floor ?k_is_floor ?a_look_at_floor ?l_look_at_floor ?c_look_at_floor ?k_look_at_floor ?a_heights_by ?l_heights_by ?c_heights_by ?k_heights_by ?a_can_rise ?l_can_rise ?c_can_rise ?k_can_rise ?a_can_turn ?l_can_turn ?c_can_turn ?k_can_turn ?a_turns_by ?l_turns_by ?c_turns_by ?k_turns_by ?a_turns_of ?l_turns_of ?c_turns_of ?k_turns_of ?a__law_whole ?l__law_whole ?c__law_whole ?k__law_whole ?a__law_good ?l__law_good ?c__law_good ?k__law_good ?a_law ?l_law ?c_law ?k_law ?z_all ?z_bool ?z_int ?z_isinstance ?z_len ?z_list ?z_range ?z_set ?z_sum ?z_tuple ?z_zip ?v_MOST_SIZE
    (case a__law_mixed => k_is)
    (case l__law_mixed => k_is)
    (case c__law_mixed => k_is)
    (case k__law_mixed => k_is)
    (case a__law_cell => k_is)
    (case l__law_cell => k_is)
    (case c__law_cell => k_is)
    (case k__law_cell => k_is)
    (case a__law_take => k_is)
    (case l__law_take => k_is)
    (case c__law_take => k_is)
    (case k__law_take => k_is)
    (case a__law_floor => k_is)
    (case l__law_floor => k_is)
    (case c__law_floor => k_is)
    (case k__law_floor => k_is)
    (case a__law_heights => k_is)
    (case l__law_heights => k_is)
    (case c__law_heights => k_is)
    (case k__law_heights => k_is)
    (case a__law_can => k_is)
    (case l__law_can => k_is)
    (case c__law_can => k_is)
    (case k__law_can => k_is)
    (case a__law_turns => k_is)
    (case l__law_turns => k_is)
    (case c__law_turns => k_is)
    (case k__law_turns => k_is)
    (case a_is_number => k_is)
    (case l_is_number => k_is)
    (case c_is_number => k_is)
    (case k_is_number => k_is)
    (case a_is_from => k_is)
    (case l_is_from => k_is)
    (case c_is_from => k_is)
    (case k_is_from => k_is)
    (case a_is_size => k_is)
    (case l_is_size => k_is)
    (case c_is_size => k_is)
    (case k_is_size => k_is)
    (case a_takes_turns => k_is)
    (case l_takes_turns => k_is)
    (case c_takes_turns => k_is)
    (case k_takes_turns => k_is)
    (case a_column_of => k_is)
    (case l_column_of => k_is)
    (case c_column_of => k_is)
    (case k_column_of => k_is)
    (case a_is_floor => k_is)
    (case l_is_floor => k_is)
    (case c_is_floor => k_is)
    (case k_is_floor => k_is)
    (case a_look_at_floor => k_is)
    (case l_look_at_floor => k_is)
    (case c_look_at_floor => k_is)
    (case k_look_at_floor => k_is)
    (case a_heights_by => k_is)
    (case l_heights_by => k_is)
    (case c_heights_by => k_is)
    (case k_heights_by => k_is)
    (case a_can_rise => k_is)
    (case l_can_rise => k_is)
    (case c_can_rise => k_is)
    (case k_can_rise => k_is)
    (case a_can_turn => k_is)
    (case l_can_turn => k_is)
    (case c_can_turn => k_is)
    (case k_can_turn => k_is)
    (case a_turns_by => k_is)
    (case l_turns_by => k_is)
    (case c_turns_by => k_is)
    (case k_turns_by => k_is)
    (case a_turns_of => k_is)
    (case l_turns_of => k_is)
    (case c_turns_of => k_is)
    (case k_turns_of => k_is)
    (case a__law_whole => k_is)
    (case l__law_whole => k_is)
    (case c__law_whole => k_is)
    (case k__law_whole => k_is)
    (case a__law_good => k_is)
    (case l__law_good => k_is)
    (case c__law_good => k_is)
    (case k__law_good => k_is)
    (case a_law => k_is)
    (case l_law => k_is)
    (case c_law => k_is)
    (case k_law => k_is)
    (case z_all => k_is)
    (case z_bool => k_is)
    (case z_int => k_is)
    (case z_isinstance => k_is)
    (case z_len => k_is)
    (case z_list => k_is)
    (case z_range => k_is)
    (case z_set => k_is)
    (case z_sum => k_is)
    (case z_tuple => k_is)
    (case z_zip => k_is)
    (case v_MOST_SIZE => k_is)
