import PyProof.Rows.All
import Wide.All
import OpenK.AllK
import Wide.FinOn
import HandS.ForMost
import HandS.Wide
import HandS.IsInst
import HandS.DictComp
import HandS.SortInts
import HandS.TupAny
import HandS.Conv
import HandS.Strs
import HandS.Walk
import HandS.SetFor
import HandS.SetKeys
import HandS.More
import HandS.Star
import HandS.Codes
import KE.SortData
import HandS.Set
import HandS.SetBool
import KE.DataMinMax
import HandS.SortKw
import KE.KDictWalk
import HandS.ListItems
import HandS.DictTup
import HandS.Small
import KE.GoesEnum
import KE.KExcSuper
import HandS.ExcInit
import HandS.Nested
import HandS.ExcField
import HandS.ExcOwn
import HandS.ExcIs
import KE.KExcIs
import HandS.WordsExc
import PyProof.InstNe
import HandS.IterNext
import HandS.OwnIter
import KE.KCallOwn
import HandS.Property
import HandS.RaiseMore
import HandS.Text
import PyProof.StrOps2
import PyProof.StrBlock2
import HandS.MakeKwOnly
import HandS.ClsMeth
import KE.KExcInit
import HandS.Flow
import HandS.HeadHook3
import HandS.IterVal
import HandS.Comp
import HandS.OwnEq
import HandS.Records
import HandS.Style
import OpenK.KOps
import KE.DataFind
import HandS.ExcValue
import PyProof.DictStraight
import HandS.TupSets
import PyProof.ReprRoads
import HandS.Ends
import KE.KParD
import HandS.FStr
import HandS.Words
import KE.KDictList
import PySem.Challenge.RW_silentswaps_k80_least_covers
set_option Elab.async false
set_option maxRecDepth 100000

set_option maxHeartbeats 4000000
set_option maxHeartbeats 4000000
/-! Rd: what the proofs of this repo share. Frames (Kp), data in the heap (Dt), defs as callers use them (Use), readings as rules from back to front (r_..), the tactic rows walk_at "s" (one step), walk_at "S" (many). -/
namespace Rd
open PySem PySem.Spec L2

/-! ### frames -/
def Kp (ex : List Addr) (H H' : Hp) : Prop := ∀ b o, H b = some o → b ∉ ex → H' b = some o
theorem Kp.refl (ex : List Addr) (H : Hp) : Kp ex H H := fun _ _ e _ => e
theorem Kp.trans {ex : List Addr} {H H1 H2 : Hp} (a : Kp ex H H1) (b : Kp ex H1 H2) : Kp ex H H2 := fun c o e n => b c o (a c o e n) n
theorem Kp.mono {ex ex' : List Addr} {H H' : Hp} (a : Kp ex H H') (s : ∀ b ∈ ex, b ∈ ex') : Kp ex' H H' := fun c o e n => a c o e fun m => n (s c m)
theorem Kp.nil {ex : List Addr} {H H' : Hp} (a : Kp [] H H') : Kp ex H H' := a.mono fun _ m => nomatch m
theorem Kp.drop {l : Addr} {ex : List Addr} {H H' : Hp} (a : Kp (l :: ex) H H') (n : H l = none) : Kp ex H H' := fun c o e m => by
  refine a c o e fun z => ?_
  rcases List.mem_cons.mp z with q | q
  · subst q
    rw [n] at e
    cases e
  · exact m q
theorem Kp.free {ex : List Addr} {H H' : Hp} {q : Addr} (a : Kp ex H H') (n : H' q = none) (m : q ∉ ex) : H q = none := by
  cases e : H q with
  | none => rfl
  | some o =>
    rw [a q o e m] at n
    cases n
theorem Kp.new {ex : List Addr} {H : Hp} {p : Addr} {o : HO} (n : H p = none) : Kp ex H (upd H p o) := fun b u e _ => by
  rw [upd_ne (ne_of_none e n)]
  exact e
theorem Kp.put {ex : List Addr} {H : Hp} {p : Addr} {o : HO} (m : p ∈ ex) : Kp ex H (upd H p o) := fun b u e n => by
  rw [upd_ne fun (z : b = p) => n (z ▸ m)]
  exact e
theorem Kp.get {ex : List Addr} {H H' : Hp} {b : Addr} {o : HO} (a : Kp ex H H') (e : H b = some o) (n : b ∉ ex) : H' b = some o := a b o e n
theorem Kp.sql {K : PySem.W.Frag} {H H' : Hp} {a : Addr} {xs : List V} (k : Kp [] H H') (h : SqL K H a xs) : SqL K H' a xs :=
  Same.seq (fun b o e => k b o e (by simp)) h
theorem not_nil {b : Addr} : b ∉ ([] : List Addr) := fun m => nomatch m
theorem not_one {b p : Addr} (h : b ≠ p) : b ∉ [p] := fun m => h (List.mem_singleton.mp m)
theorem not_two {b p q : Addr} (h : b ≠ p) (h' : b ≠ q) : b ∉ [p, q] := fun m => by
  rcases List.mem_cons.mp m with e | e
  · exact h e
  · exact h' (List.mem_singleton.mp e)
theorem ne_none {H : Hp} {a b : Addr} {o : HO} (h : H a = some o) (h' : H b = none) : b ≠ a := fun e => ne_of_none h h' e.symm

/-! ### data -/
mutual
inductive Dt (ex : List Addr) (H : Hp) : V → PyData → Prop
  | non : Dt ex H .non .none
  | bl (b : Bool) : Dt ex H (.bl b) (.bool b)
  | int (i : Int) : Dt ex H (.int i) (.int i)
  | str (x : Str) : Dt ex H (.str x) (.str x)
  | lst {a : Addr} {xs : List V} {ds : List PyData} : a ∉ ex → H a = some (.lst xs) → DtAll ex H xs ds → Dt ex H (.ref a) (.list ds)
  | tup {a : Addr} {xs : List V} {ds : List PyData} : a ∉ ex → H a = some (.tup xs) → DtAll ex H xs ds → Dt ex H (.ref a) (.tuple ds)
inductive DtAll (ex : List Addr) (H : Hp) : List V → List PyData → Prop
  | nil : DtAll ex H [] []
  | cons {v : V} {vs : List V} {d : PyData} {ds : List PyData} : Dt ex H v d → DtAll ex H vs ds → DtAll ex H (v :: vs) (d :: ds)
end
mutual
theorem Dt.mono' {ex ex' : List Addr} {H H' : Hp} (k : Kp ex H H') (s : ∀ b ∈ ex', b ∈ ex) : ∀ (d : PyData) (v : V), Dt ex H v d → Dt ex' H' v d
  | .none, _, h => by cases h; exact .non
  | .bool b, _, h => by cases h; exact .bl b
  | .int i, _, h => by cases h; exact .int i
  | .str x, _, h => by cases h; exact .str x
  | .list ds, _, h => by
    cases h with
    | lst n e al => exact .lst (fun m => n (s _ m)) (k _ _ e n) (DtAll.mono' k s ds _ al)
  | .tuple ds, _, h => by
    cases h with
    | tup n e al => exact .tup (fun m => n (s _ m)) (k _ _ e n) (DtAll.mono' k s ds _ al)
  | .dict _, _, h => by cases h
theorem DtAll.mono' {ex ex' : List Addr} {H H' : Hp} (k : Kp ex H H') (s : ∀ b ∈ ex', b ∈ ex) : ∀ (ds : List PyData) (vs : List V), DtAll ex H vs ds → DtAll ex' H' vs ds
  | [], _, h => by cases h; exact .nil
  | d :: ds, _, h => by
    cases h with
    | cons h1 h2 => exact .cons (Dt.mono' k s d _ h1) (DtAll.mono' k s ds _ h2)
end
theorem Dt.mono {ex : List Addr} {H H' : Hp} {v : V} {d : PyData} (h : Dt ex H v d) (k : Kp ex H H') : Dt ex H' v d := Dt.mono' k (fun _ m => m) d v h
theorem DtAll.mono {ex : List Addr} {H H' : Hp} {vs : List V} {ds : List PyData} (h : DtAll ex H vs ds) (k : Kp ex H H') : DtAll ex H' vs ds := DtAll.mono' k (fun _ m => m) ds vs h
theorem Dt.less {ex ex' : List Addr} {H : Hp} {v : V} {d : PyData} (h : Dt ex H v d) (s : ∀ b ∈ ex', b ∈ ex) : Dt ex' H v d := Dt.mono' (Kp.refl ex H) s d v h
theorem DtAll.less {ex ex' : List Addr} {H : Hp} {vs : List V} {ds : List PyData} (h : DtAll ex H vs ds) (s : ∀ b ∈ ex', b ∈ ex) : DtAll ex' H vs ds := DtAll.mono' (Kp.refl ex H) s ds vs h
mutual
theorem Dt.more' {ex : List Addr} {H : Hp} {l : Addr} (n : H l = none) : ∀ (d : PyData) (v : V), Dt ex H v d → Dt (l :: ex) H v d
  | .none, _, h => by cases h; exact .non
  | .bool b, _, h => by cases h; exact .bl b
  | .int i, _, h => by cases h; exact .int i
  | .str x, _, h => by cases h; exact .str x
  | .list ds, _, h => by
    cases h with
    | lst m e al => exact .lst (fun z => (List.mem_cons.mp z).elim (ne_of_none e n) m) e (DtAll.more' n ds _ al)
  | .tuple ds, _, h => by
    cases h with
    | tup m e al => exact .tup (fun z => (List.mem_cons.mp z).elim (ne_of_none e n) m) e (DtAll.more' n ds _ al)
  | .dict _, _, h => by cases h
theorem DtAll.more' {ex : List Addr} {H : Hp} {l : Addr} (n : H l = none) : ∀ (ds : List PyData) (vs : List V), DtAll ex H vs ds → DtAll (l :: ex) H vs ds
  | [], _, h => by cases h; exact .nil
  | d :: ds, _, h => by
    cases h with
    | cons h1 h2 => exact .cons (Dt.more' n d _ h1) (DtAll.more' n ds _ h2)
end
/-- an address that is new to the heap is none of the data's -/
theorem Dt.more {ex : List Addr} {H : Hp} {v : V} {d : PyData} {l : Addr} (h : Dt ex H v d) (n : H l = none) : Dt (l :: ex) H v d := Dt.more' n d v h
theorem DtAll.more {ex : List Addr} {H : Hp} {vs : List V} {ds : List PyData} {l : Addr} (h : DtAll ex H vs ds) (n : H l = none) : DtAll (l :: ex) H vs ds := DtAll.more' n ds vs h
mutual
theorem Dt.dp' {K : PySem.W.Frag} {ex : List Addr} {H : Hp} : ∀ (d : PyData) (v : V), Dt ex H v d → Dp K H v d
  | .none, _, h => by cases h; exact .non
  | .bool b, _, h => by cases h; exact .bl b
  | .int i, _, h => by cases h; exact .int i
  | .str x, _, h => by cases h; exact .str x
  | .list ds, _, h => by
    cases h with
    | lst n e al => exact .lst (SqL.of e) (DtAll.dp' ds _ al)
  | .tuple ds, _, h => by
    cases h with
    | tup n e al => exact .tup (SqT.of e) (DtAll.dp' ds _ al)
  | .dict _, _, h => by cases h
theorem DtAll.dp' {K : PySem.W.Frag} {ex : List Addr} {H : Hp} : ∀ (ds : List PyData) (vs : List V), DtAll ex H vs ds → DpAll K H vs ds
  | [], _, h => by cases h; exact .nil
  | d :: ds, _, h => by
    cases h with
    | cons h1 h2 => exact .cons (Dt.dp' d _ h1) (DtAll.dp' ds _ h2)
end
theorem Dt.dp {K : PySem.W.Frag} {ex : List Addr} {H : Hp} {v : V} {d : PyData} (h : Dt ex H v d) : Dp K H v d := Dt.dp' d v h
theorem Dt.list {ex : List Addr} {H : Hp} {v : V} {ds : List PyData} (h : Dt ex H v (.list ds)) : ∃ a xs, v = .ref a ∧ a ∉ ex ∧ H a = some (.lst xs) ∧ DtAll ex H xs ds := by
  cases h with
  | lst n e al => exact ⟨_, _, rfl, n, e, al⟩
theorem Dt.tuple {ex : List Addr} {H : Hp} {v : V} {ds : List PyData} (h : Dt ex H v (.tuple ds)) : ∃ a xs, v = .ref a ∧ a ∉ ex ∧ H a = some (.tup xs) ∧ DtAll ex H xs ds := by
  cases h with
  | tup n e al => exact ⟨_, _, rfl, n, e, al⟩
theorem DtAll.length {ex : List Addr} {H : Hp} : ∀ {vs : List V} {ds : List PyData}, DtAll ex H vs ds → vs.length = ds.length
  | [], _, h => by cases h; rfl
  | _ :: _, _, h => by
    cases h with
    | cons _ h2 => exact congrArg (· + 1) (DtAll.length h2)
theorem DtAll.at {ex : List Addr} {H : Hp} : ∀ {vs : List V} {ds : List PyData} {i : Nat} {v : V}, DtAll ex H vs ds → vs[i]? = some v → ∃ d, ds[i]? = some d ∧ Dt ex H v d
  | [], _, i, v, h, e => by simp at e
  | _ :: _, _, 0, v, h, e => by
    cases h with
    | cons h1 _ =>
      cases e
      exact ⟨_, rfl, h1⟩
  | _ :: _, _, i + 1, v, h, e => by
    cases h with
    | cons _ h2 => exact DtAll.at (i := i) h2 e
theorem DtAll.append {ex : List Addr} {H : Hp} : ∀ {vs ws : List V} {ds es : List PyData}, DtAll ex H vs ds → DtAll ex H ws es → DtAll ex H (vs ++ ws) (ds ++ es)
  | [], _, _, _, h, g => by cases h; exact g
  | _ :: _, _, _, _, h, g => by
    cases h with
    | cons h1 h2 => exact .cons h1 (DtAll.append h2 g)
theorem DtAll.snoc {ex : List Addr} {H : Hp} {vs : List V} {ds : List PyData} {v : V} {d : PyData} (h : DtAll ex H vs ds) (g : Dt ex H v d) : DtAll ex H (vs ++ [v]) (ds ++ [d]) := h.append (.cons g .nil)
theorem DtAll.strs {ex : List Addr} {H : Hp} : ∀ {vs : List V} {ws : List Str}, DtAll ex H vs (ws.map PyData.str) → vs = ws.map V.str
  | [], [], _ => rfl
  | [], _ :: _, h => by cases h
  | _ :: _, [], h => by cases h
  | v :: vs, w :: ws, h => by
    cases h with
    | cons h1 h2 =>
      cases h1
      rw [DtAll.strs h2]
      rfl
theorem DtAll.of_strs {ex : List Addr} {H : Hp} : ∀ (ws : List Str), DtAll ex H (ws.map V.str) (ws.map PyData.str)
  | [] => .nil
  | w :: ws => .cons (.str w) (DtAll.of_strs ws)
theorem DtAll.ints {ex : List Addr} {H : Hp} : ∀ {vs : List V} {ns : List Int}, DtAll ex H vs (ns.map PyData.int) → vs = ns.map V.int
  | [], [], _ => rfl
  | [], _ :: _, h => by cases h
  | _ :: _, [], h => by cases h
  | v :: vs, w :: ws, h => by
    cases h with
    | cons h1 h2 =>
      cases h1
      rw [DtAll.ints h2]
      rfl
theorem DtAll.of_ints {ex : List Addr} {H : Hp} : ∀ (ns : List Int), DtAll ex H (ns.map V.int) (ns.map PyData.int)
  | [] => .nil
  | n :: ns => .cons (.int n) (DtAll.of_ints ns)
/-- a pair of a text and a number -/
theorem Dt.pair {ex : List Addr} {H : Hp} {v : V} {x : Str} {n : Int} (h : Dt ex H v (.tuple [.str x, .int n])) : ∃ a, v = .ref a ∧ a ∉ ex ∧ H a = some (.tup [.str x, .int n]) := by
  obtain ⟨a, xs, rfl, m, e, al⟩ := h.tuple
  cases al with
  | cons h1 h2 =>
    cases h2 with
    | cons h3 h4 =>
      cases h4
      cases h1
      cases h3
      exact ⟨a, rfl, m, e⟩

/-! ### a def as its callers use it -/
def Use (P : Program) (w : World) (K : PySem.W.Frag) (mg : Str → Option Value) (base : Heap) (n : Nat) (x : Str) (ps : List Str) (sp : Sp) : Prop :=
  ∃ f fd, FnOk P w K mg base CX0 n f fd ps sp ∧ mg x = some (.ref f) ∧ PySem.W.keepIn K (.ref f) = true ∧ Binds K fd ps []
def tUse (sp : Sp) (t : TA) : TE := fun σ H Q => t σ H fun vs H1 => sp vs H1 Q E0
theorem tUse_eq (sp : Sp) (t : TA) : tCall sp [] E0 t = tUse sp t := by
  funext σ H Q
  show (t σ H fun vs H1 => sp (vs ++ []) H1 Q E0) = (t σ H fun vs H1 => sp vs H1 Q E0)
  simp only [List.append_nil]
theorem pe_use {X : Cx} {n : Nat} {x : Str} {ps : List Str} {sp : Sp} {e : Expr} {es : List Expr} {t : TA} {p pos : Pos} (U : Use X.prog X.w X.K X.mg X.base n x ps sp) (hr : Room n X.A) (hg : Gl X x) (ha : PA X (e :: es) t)
    (hdb : (x == ("__debug__" : Str)) = false := by decide) (he : starEach (e :: es) X.env = (false, eval e X.env) :: starEach es X.env := by rfl) (hpl : (backTo pos (starEach es X.env)).any (·.1) = false := by rfl) :
    PE X (.Call (.Name x p) (e :: es) [] pos) (tUse sp t) := by
  obtain ⟨f, fd, F, hm, hk, hb⟩ := U
  rw [← tUse_eq]
  exact pe_call F hr hg hm hk hb .nil pass0 ha hdb he hpl
theorem pe_use0 {X : Cx} {n : Nat} {x : Str} {ps : List Str} {sp : Sp} {p pos : Pos} (U : Use X.prog X.w X.K X.mg X.base n x ps sp) (hr : Room n X.A) (hg : Gl X x)
    (hdb : (x == ("__debug__" : Str)) = false := by decide) : PE X (.Call (.Name x p) [] [] pos) (tUse sp tNil) := by
  obtain ⟨f, fd, F, hm, hk, hb⟩ := U
  rw [← tUse_eq]
  exact pe_call0 F hr hg hm hk hb .nil pass0 hdb
/-- not A as a value, A a test of any kind -/
theorem pe_notP {X : Cx} {a : Expr} {t : TE} {pos : Pos} (h : PE X a t) : PE X (.UnaryOp .Not a pos) (tNotV t) := pe_not h

/-! ### readings, from back to front -/
section
variable {σ : St} {H : Hp} {Q : VK} {QB : Bool → Hp → Prop} {QA : List V → Hp → Prop} {v x y : V} {i : Nat} {ta tb tc te tv td ty : TE} {t u c : TT} {tr : TA} {r : R2} {g : TG} {gs : TGs}
  {nx bk ct : St → Hp → Prop} {rt : VK} {t1 t2 : TS} {K : PySem.W.Frag} {b : Bool}
theorem r_var (h : σ[i]? = some (some v)) (q : Q v H) : tVar i σ H Q := ⟨v, h, q⟩
theorem r_c (q : Q v H) : tC v σ H Q := q
theorem r_op (q : ta σ H fun x H1 => tb σ H1 fun y H2 => r x y H2 Q) : tOp r ta tb σ H Q := q
theorem r_un {f : V → Hp → VK → Prop} (q : ta σ H fun x H1 => f x H1 Q) : tUn f ta σ H Q := q
def kB (QB : Bool → Hp → Prop) : VK := fun x H => ∃ k, x = .bl k ∧ QB k H
theorem r_kB (q : QB b H) : kB QB (.bl b) H := ⟨b, rfl, q⟩
theorem r_test (q : te σ H (kB QB)) : tTest te σ H QB := q
theorem r_tB (q : te σ H (kB QB)) : tB te σ H QB := q
def kAnd (u : TT) (σ : St) (QB : Bool → Hp → Prop) : Bool → Hp → Prop := fun c H => if c = true then u σ H QB else QB false H
def kOr (u : TT) (σ : St) (QB : Bool → Hp → Prop) : Bool → Hp → Prop := fun c H => if c = true then QB true H else u σ H QB
theorem r_and (q : t σ H (kAnd u σ QB)) : tAnd t u σ H QB := q
theorem r_or (q : t σ H (kOr u σ QB)) : tOr t u σ H QB := q
theorem r_not (q : t σ H fun c H1 => QB (!c) H1) : tNot t σ H QB := q
theorem r_kAnd (h1 : b = true → u σ H QB) (h2 : b = false → QB false H) : kAnd u σ QB b H := by
  unfold kAnd
  cases b
  · exact h2 rfl
  · exact h1 rfl
theorem r_kOr (h1 : b = true → QB true H) (h2 : b = false → u σ H QB) : kOr u σ QB b H := by
  unfold kOr
  cases b
  · exact h2 rfl
  · exact h1 rfl
theorem r_kAnd1 (h : b = true) (q : u σ H QB) : kAnd u σ QB b H := by
  subst h
  exact q
theorem r_kAnd0 (h : b = false) (q : QB false H) : kAnd u σ QB b H := by
  subst h
  exact q
theorem r_kOr1 (h : b = true) (q : QB true H) : kOr u σ QB b H := by
  subst h
  exact q
theorem r_kOr0 (h : b = false) (q : u σ H QB) : kOr u σ QB b H := by
  subst h
  exact q
def kAndV (tb : TE) (σ : St) (Q : VK) : VK := fun x H1 => ∃ c, x = .bl c ∧ if c = true then tb σ H1 Q else Q (.bl false) H1
def kOrV (tb : TE) (σ : St) (Q : VK) : VK := fun x H1 => ∃ c, x = .bl c ∧ if c = true then Q (.bl true) H1 else tb σ H1 Q
theorem r_andV (q : ta σ H (kAndV tb σ Q)) : tAndV ta tb σ H Q := q
theorem r_orV (q : ta σ H (kOrV tb σ Q)) : tOrV ta tb σ H Q := q
theorem r_kAndV (h1 : b = true → tb σ H Q) (h2 : b = false → Q (.bl false) H) : kAndV tb σ Q (.bl b) H := by
  refine ⟨b, rfl, ?_⟩
  cases b
  · exact h2 rfl
  · exact h1 rfl
theorem r_kOrV (h1 : b = true → Q (.bl true) H) (h2 : b = false → tb σ H Q) : kOrV tb σ Q (.bl b) H := by
  refine ⟨b, rfl, ?_⟩
  cases b
  · exact h2 rfl
  · exact h1 rfl
def kNotV (Q : VK) : VK := fun x H1 => ∃ c, x = .bl c ∧ Q (.bl (!c)) H1
theorem r_notV (q : ta σ H (kNotV Q)) : tNotV ta σ H Q := q
theorem r_kNotV (q : Q (.bl (!b)) H) : kNotV Q (.bl b) H := ⟨b, rfl, q⟩
def kIf (ta tb : TE) (σ : St) (Q : VK) : Bool → Hp → Prop := fun c H => if c = true then ta σ H Q else tb σ H Q
theorem r_if (q : t σ H (kIf ta tb σ Q)) : tIf t ta tb σ H Q := q
theorem r_kIf (h1 : b = true → ta σ H Q) (h2 : b = false → tb σ H Q) : kIf ta tb σ Q b H := by
  unfold kIf
  cases b
  · exact h2 rfl
  · exact h1 rfl
theorem r_kIf1 (h : b = true) (q : ta σ H Q) : kIf ta tb σ Q b H := by
  subst h
  exact q
theorem r_kIf0 (h : b = false) (q : tb σ H Q) : kIf ta tb σ Q b H := by
  subst h
  exact q
theorem r_nilA (q : QA [] H) : tNil σ H QA := q
theorem r_consA (q : ta σ H fun x H1 => tr σ H1 fun xs H2 => QA (x :: xs) H2) : tCons ta tr σ H QA := q
theorem r_use {sp : Sp} (q : tr σ H fun vs H1 => sp vs H1 Q E0) : tUse sp tr σ H Q := q
theorem r_cb {f : List V → Hp → VK → Prop} (q : tr σ H fun vs H1 => f vs H1 Q) : tCB f tr σ H Q := q
/-! operators on numbers -/
theorem r_I0 {f : Int → Int → V} {m n : Int} (q : Q (f m n) H) : rI0 f (.int m) (.int n) H Q := ⟨m, n, rfl, rfl, q⟩
theorem r_I {C : Int → Int → Prop} {f : Int → Int → V} {m n : Int} (h : C m n) (q : Q (f m n) H) : rI C f (.int m) (.int n) H Q := ⟨m, n, rfl, rfl, h, q⟩
theorem r_U {f : Int → V} {m : Int} (q : Q (f m) H) : rU f (.int m) H Q := ⟨m, rfl, q⟩
theorem r_eq (h : scal x y = true) (q : Q (.bl (decide (x = y))) H) : rEq x y H Q := ⟨h, q⟩
theorem r_ne (h : scal x y = true) (q : Q (.bl (!decide (x = y))) H) : rNe x y H Q := ⟨h, q⟩
theorem r_eqI {m n : Int} (q : Q (.bl (decide (m = n))) H) : rEq (.int m) (.int n) H Q := by
  refine ⟨rfl, ?_⟩
  have e : decide (V.int m = V.int n) = decide (m = n) := by
    by_cases h : m = n
    · subst h
      simp
    · rw [decide_eq_false h, decide_eq_false fun z => h (V.int.inj z)]
  rw [e]
  exact q
theorem r_neI {m n : Int} (q : Q (.bl (!decide (m = n))) H) : rNe (.int m) (.int n) H Q := by
  refine ⟨rfl, ?_⟩
  have e : decide (V.int m = V.int n) = decide (m = n) := by
    by_cases h : m = n
    · subst h
      simp
    · rw [decide_eq_false h, decide_eq_false fun z => h (V.int.inj z)]
  rw [e]
  exact q
/-! statements -/
theorem r_seq (q : t1 ⟨t2 ⟨nx, rt, bk, ct⟩, rt, bk, ct⟩ σ H) : tSeq t1 t2 ⟨nx, rt, bk, ct⟩ σ H := q
theorem r_next (q : nx σ H) : tNext ⟨nx, rt, bk, ct⟩ σ H := q
theorem r_brk (q : bk σ H) : tBreak ⟨nx, rt, bk, ct⟩ σ H := q
theorem r_cont (q : ct σ H) : tCont ⟨nx, rt, bk, ct⟩ σ H := q
theorem r_asg (q : te σ H fun x H1 => g x σ H1 nx) : tAsg te g ⟨nx, rt, bk, ct⟩ σ H := q
theorem r_drop (q : te σ H fun _ H1 => nx σ H1) : tDrop te ⟨nx, rt, bk, ct⟩ σ H := q
theorem r_ret (q : te σ H rt) : tRet te ⟨nx, rt, bk, ct⟩ σ H := q
theorem r_retN (q : rt .non H) : tRetN ⟨nx, rt, bk, ct⟩ σ H := q
def kIfS (t1 t2 : TS) (D : Ends) (σ : St) : Bool → Hp → Prop := fun b H => if b = true then t1 D σ H else t2 D σ H
theorem r_ifS (q : c σ H (kIfS t1 t2 ⟨nx, rt, bk, ct⟩ σ)) : tIfS c t1 t2 ⟨nx, rt, bk, ct⟩ σ H := q
theorem r_kIfS {D : Ends} (h1 : b = true → t1 D σ H) (h2 : b = false → t2 D σ H) : kIfS t1 t2 D σ b H := by
  unfold kIfS
  cases b
  · exact h2 rfl
  · exact h1 rfl
theorem r_kIfS1 {D : Ends} (h : b = true) (q : t1 D σ H) : kIfS t1 t2 D σ b H := by
  subst h
  exact q
theorem r_kIfS0 {D : Ends} (h : b = false) (q : t2 D σ H) : kIfS t1 t2 D σ b H := by
  subst h
  exact q
theorem r_name {QS : St → Hp → Prop} (q : QS (σ.set i (some v)) H) : gName i v σ H QS := q
theorem r_par {j : Nat} (q : tr σ H fun vs H1 => ∃ v w, vs = [v, w] ∧ nx ((σ.set i (some v)).set j (some w)) H1) : tPar i j tr ⟨nx, rt, bk, ct⟩ σ H := q
/-! displays, dicts -/
def kLst (Q : VK) : List V → Hp → Prop := fun xs H1 => xs.length ≤ sizeLine ∧ ∀ p, H1 p = none → Q (.ref p) (upd H1 p (.lst xs))
def kTup (Q : VK) : List V → Hp → Prop := fun xs H1 => xs.length ≤ sizeLine ∧ ∀ p, H1 p = none → Q (.ref p) (upd H1 p (.tup xs))
theorem r_lst (q : tr σ H (kLst Q)) : tLst tr σ H Q := q
theorem r_tup (q : tr σ H (kTup Q)) : tTup tr σ H Q := q
theorem r_kLst {xs : List V} (h : xs.length ≤ sizeLine) (q : ∀ p H', H p = none → Kp [] H H' → H' p = some (.lst xs) → Q (.ref p) H') : kLst Q xs H :=
  ⟨h, fun p n => q p _ n (Kp.new n) upd_same⟩
theorem r_kTup {xs : List V} (h : xs.length ≤ sizeLine) (q : ∀ p H', H p = none → Kp [] H H' → H' p = some (.tup xs) → Q (.ref p) H') : kTup Q xs H :=
  ⟨h, fun p n => q p _ n (Kp.new n) upd_same⟩
def kDG (Q : VK) : V → V → Hp → Prop := fun x y H2 => ∃ a v, x = .ref a ∧ DGet H2 a y (some v) ∧ Q v H2
theorem r_dget (q : td σ H fun x H1 => ty σ H1 fun y H2 => kDG Q x y H2) : tDGet td ty σ H Q := q
theorem r_kDGs {a : Addr} {kvs : List (Key × V)} {z : Str} (e : H a = some (.dK kvs)) (h : valV kvs (Sum.inr z) = some v) (q : Q v H) : kDG Q (.ref a) (.str z) H :=
  ⟨a, v, rfl, .inl ⟨kvs, Sum.inr z, .inl e, rfl, h.symm⟩, q⟩
theorem r_kDGi {a : Addr} {kvs : List (Key × V)} {z : Int} (e : H a = some (.dK kvs)) (h : valV kvs (Sum.inl z) = some v) (q : Q v H) : kDG Q (.ref a) (.int z) H :=
  ⟨a, v, rfl, .inl ⟨kvs, Sum.inl z, .inl e, rfl, h.symm⟩, q⟩
def kDP (nx : St → Hp → Prop) (σ : St) : V → V → V → Hp → Prop := fun v x y H3 => ∃ a H4, x = .ref a ∧ DPut H3 a y v H4 ∧ nx σ H4
theorem r_dput (q : tv σ H fun v H1 => td σ H1 fun x H2 => ty σ H2 fun y H3 => kDP nx σ v x y H3) : sDPut td ty tv ⟨nx, rt, bk, ct⟩ σ H := q
theorem r_kDPs {a : Addr} {kvs : List (Key × V)} {z : Str} (e : H a = some (.dK kvs)) (h : kvs.length < sizeLine) (q : nx σ (upd H a (.dK (putK kvs (Sum.inr z) v)))) : kDP nx σ v (.ref a) (.str z) H :=
  ⟨a, _, rfl, .inl ⟨kvs, Sum.inr z, e, rfl, h, rfl⟩, q⟩
end

section
variable {σ : St} {H : Hp} {Q : VK} {QA : List V → Hp → Prop} {v x y : V} {K : PySem.W.Frag} {xs : List V} {p : Addr}
/-! built-ins -/
abbrev R1 := List V → Hp → VK → Prop
def cInt : R1 := fun xs H Q => (∃ i, xs = [.int i] ∧ Q (.int i) H) ∨ ∃ k, xs = [.bl k] ∧ Q (.int (if k then 1 else 0)) H
def cAbs : R1 := fun xs H Q => ∃ i, xs = [.int i] ∧ Q (.int (if i < 0 then -i else i)) H
def cMax2 : R1 := fun xs H Q => ∃ i j, xs = [.int i, .int j] ∧ Q (.int (if j > i then j else i)) H
def cMin2 : R1 := fun xs H Q => ∃ i j, xs = [.int i, .int j] ∧ Q (.int (if j < i then j else i)) H
def cStrI : R1 := fun xs H Q => ∃ i, xs = [.int i] ∧ i.natAbs.log2 < 1920 ∧ Q (.str (toString i)) H
def cLen (K : PySem.W.Frag) : R1 := fun xs H Q => ∃ p ys, xs = [.ref p] ∧ (SqL K H p ys ∨ SqT K H p ys) ∧ Q (.int (ys.length : Nat)) H
def cLenS : R1 := fun xs H Q => ∃ z, xs = [.str z] ∧ z.length ≤ sizeLine ∧ Q (.int (z.length : Nat)) H
def cList (K : PySem.W.Frag) : R1 := fun xs H Q => ∃ p ys, xs = [.ref p] ∧ (SqL K H p ys ∨ SqT K H p ys) ∧ ∀ l, H l = none → Q (.ref l) (upd H l (.lst ys))
def cTuple (K : PySem.W.Frag) : R1 := fun xs H Q => ∃ p ys, xs = [.ref p] ∧ ((SqL K H p ys ∧ ∀ l, H l = none → Q (.ref l) (upd H l (.tup ys))) ∨ (SqT K H p ys ∧ Q (.ref p) H))
section
variable {X : Cx}
theorem cr_int : CallR X (.type "int") cInt := call_int1
theorem cr_abs : CallR X (.builtin "abs") cAbs := call_abs
theorem cr_max2 (hc : X.calm = true) : CallR X (.builtin "max") cMax2 := call_max2 hc
theorem cr_min2 (hc : X.calm = true) : CallR X (.builtin "min") cMin2 := call_min2 hc
theorem cr_strI : CallR X (.type "str") cStrI := call_str_int
theorem cr_len : CallR X (.builtin "len") (cLen X.K) := call_len_seq
theorem cr_lenS : CallR X (.builtin "len") cLenS := call_len_str
theorem cr_list : CallR X (.type "list") (cList X.K) := call_list_of
theorem cr_tuple : CallR X (.type "tuple") (cTuple X.K) := call_tuple_of
end
theorem r_intB {b : Bool} (q : Q (.int (if b = true then 1 else 0)) H) : cInt [.bl b] H Q := .inr ⟨b, rfl, q⟩
theorem r_int {n : Int} (q : Q (.int n) H) : cInt [.int n] H Q := .inl ⟨n, rfl, q⟩
theorem r_abs {n : Int} (q : Q (.int (if n < 0 then -n else n)) H) : cAbs [.int n] H Q := ⟨n, rfl, q⟩
theorem r_max2 {m n : Int} (q : Q (.int (if n > m then n else m)) H) : cMax2 [.int m, .int n] H Q := ⟨m, n, rfl, q⟩
theorem r_min2 {m n : Int} (q : Q (.int (if n < m then n else m)) H) : cMin2 [.int m, .int n] H Q := ⟨m, n, rfl, q⟩
theorem r_strI {n : Int} (h : n.natAbs.log2 < 1920) (q : Q (.str (toString n)) H) : cStrI [.int n] H Q := ⟨n, rfl, h, q⟩
theorem r_lenL (h : SqL K H p xs) (q : Q (.int (xs.length : Nat)) H) : cLen K [.ref p] H Q := ⟨p, xs, rfl, .inl h, q⟩
theorem r_lenT (h : SqT K H p xs) (q : Q (.int (xs.length : Nat)) H) : cLen K [.ref p] H Q := ⟨p, xs, rfl, .inr h, q⟩
theorem r_lenS {z : Str} (h : z.length ≤ sizeLine) (q : Q (.int (z.length : Nat)) H) : cLenS [.str z] H Q := ⟨z, rfl, h, q⟩
theorem r_listL (h : SqL K H p xs) (q : ∀ l H', H l = none → Kp [] H H' → H' l = some (.lst xs) → Q (.ref l) H') : cList K [.ref p] H Q := ⟨p, xs, rfl, .inl h, fun l n => q l _ n (Kp.new n) upd_same⟩
theorem r_listT (h : SqT K H p xs) (q : ∀ l H', H l = none → Kp [] H H' → H' l = some (.lst xs) → Q (.ref l) H') : cList K [.ref p] H Q := ⟨p, xs, rfl, .inr h, fun l n => q l _ n (Kp.new n) upd_same⟩
theorem r_tupleL (h : SqL K H p xs) (q : ∀ l H', H l = none → Kp [] H H' → H' l = some (.tup xs) → Q (.ref l) H') : cTuple K [.ref p] H Q := ⟨p, xs, rfl, .inl ⟨h, fun l n => q l _ n (Kp.new n) upd_same⟩⟩
theorem r_tupleT (h : SqT K H p xs) (q : Q (.ref p) H) : cTuple K [.ref p] H Q := ⟨p, xs, rfl, .inr ⟨h, q⟩⟩
theorem r_ixL {i : Int} (h : SqL K H p xs) (e : atI xs i = some v) (q : Q v H) : rIxL K (.ref p) (.int i) H Q := ⟨p, xs, i, v, rfl, rfl, h, e, q⟩
theorem r_ixT {i : Int} (h : SqT K H p xs) (e : atI xs i = some v) (q : Q v H) : rIxT K (.ref p) (.int i) H Q := ⟨p, xs, i, v, rfl, rfl, h, e, q⟩
theorem r_ixS {z : Str} {i : Int} {c : Nat} (h : z.length ≤ sizeLine) (e : atI z.cps.toList i = some c) (q : Q (.str ⟨#[c]⟩) H) : rIxS (.str z) (.int i) H Q := ⟨z, i, c, rfl, rfl, h, e, q⟩
/-- an item at a number that lies within -/
theorem atI_in {α : Type} {l : List α} {i : Int} (h0 : 0 ≤ i) (h1 : i < (l.length : Int)) : ∃ v, atI l i = some v ∧ v ∈ l ∧ l[i.toNat]? = some v := by
  have hk : i.toNat < l.length := by omega
  have e : l[i.toNat]? = some l[i.toNat] := List.getElem?_eq_getElem hk
  have ei : i = ((i.toNat : Nat) : Int) := by omega
  have q : atI l ((i.toNat : Nat) : Int) = some l[i.toNat] := atI_nat e
  rw [← ei] at q
  exact ⟨l[i.toNat], q, List.getElem_mem hk, e⟩
/-! a display of a dict -/
def kDisp (Q : VK) (p : Addr) : List (V × V) → Hp → Prop := fun ps H2 => H2 p = some (.dK []) ∧ ∃ kvs : List (Key × V), ps = kvs.map (fun kv => (kV kv.1, kv.2)) ∧ kvs.length ≤ 15 ∧ Q (.ref p) (upd H2 p (.dK (mergeK [] kvs)))
theorem r_disp {trs : List (TE × TE)} (q : ∀ p H1, H p = none → Kp [] H H1 → H1 p = some (.dK []) → tPairs trs σ H1 (kDisp Q p)) : tDisp trs σ H Q := fun p n => q p _ n (Kp.new n) upd_same
theorem r_pnil {R : List (V × V) → Hp → Prop} (q : R [] H) : tPairs [] σ H R := q
theorem r_pcons {R : List (V × V) → Hp → Prop} {tk tv : TE} {r : List (TE × TE)} (q : tk σ H fun x H1 => tv σ H1 fun y H2 => tPairs r σ H2 fun ps H3 => R ((x, y) :: ps) H3) : tPairs ((tk, tv) :: r) σ H R := q
theorem r_kDisp {p : Addr} {kvs : List (Key × V)} (e : H p = some (.dK [])) (h : kvs.length ≤ 15) (q : ∀ H', Kp [p] H H' → H' p = some (.dK (mergeK [] kvs)) → Q (.ref p) H') : kDisp Q p (kvs.map fun kv => (kV kv.1, kv.2)) H :=
  ⟨e, kvs, rfl, h, q _ (Kp.put (by simp)) upd_same⟩
end

theorem sql_kp {K : PySem.W.Frag} {ex : List Addr} {H H' : Hp} {a : Addr} {xs : List V} (h : SqL K H a xs) (k : Kp ex H H') (m : a ∉ ex) : SqL K H' a xs := by
  rcases h with (h | ⟨o, h⟩) | h
  · exact .inl (.inl (k _ _ h m))
  · exact .inl (.inr ⟨o, k _ _ h m⟩)
  · exact .inr h
/-- a list stays where only the object o at p changes, which is no list -/
theorem sql_but {K : PySem.W.Frag} {H H' : Hp} {a p : Addr} {xs : List V} {o : HO} (h : SqL K H a xs) (k : Kp [p] H H') (e : H p = some o) (d : ∀ ys, o ≠ .lst ys) (d' : ∀ ob u, o ≠ .frz ob u) : SqL K H' a xs := by
  rcases h with (h | ⟨ob, h⟩) | h
  · exact .inl (.inl (k _ _ h (not_one (ne_of h e fun z => d _ z.symm))))
  · exact .inl (.inr ⟨ob, k _ _ h (not_one (ne_of h e fun z => d' _ _ z.symm))⟩)
  · exact .inr h
theorem sqt_kp {K : PySem.W.Frag} {ex : List Addr} {H H' : Hp} {a : Addr} {xs : List V} (h : SqT K H a xs) (k : Kp ex H H') (m : a ∉ ex) : SqT K H' a xs := by
  rcases h with (h | ⟨o, h⟩) | h
  · exact .inl (.inl (k _ _ h m))
  · exact .inl (.inr ⟨o, k _ _ h m⟩)
  · exact .inr h
section
variable {σ : St} {H : Hp} {Q : VK} {QA : List V → Hp → Prop} {v x y : V} {K : PySem.W.Frag} {xs : List V} {p : Addr} {te tk tv : TE} {tr : TA} {g : TG} {tb : TS} {tt : TT} {wi : TI} {nx bk ct : St → Hp → Prop} {rt : VK}
  {J : It} {n : Nat} {G : Hp → Prop} {Y : Nat → Hp → V → Hp → Prop} {vs : List Nat}
/-! what is walked -/
def cRng1 (R : It → Hp → Prop) : List V → Hp → Prop := fun ws H1 => ∃ j : Int, ws = [.int j] ∧ -(2 ^ 62) ≤ j ∧ j < 2 ^ 62 ∧ R (Itr 0 j.toNat) H1
def cRng2 (R : It → Hp → Prop) : List V → Hp → Prop := fun ws H1 => ∃ i j : Int, ws = [.int i, .int j] ∧ (-(2 ^ 62) ≤ i ∧ i < 2 ^ 62 ∧ -(2 ^ 62) ≤ j ∧ j < 2 ^ 62) ∧ R (Itr i (j - i).toNat) H1
def cWL (K : PySem.W.Frag) (R : It → Hp → Prop) : V → Hp → Prop := fun x H1 => ∃ a, x = .ref a ∧ (∃ xs, SqL K H1 a xs) ∧ R (Itl K a) H1
def cWT (K : PySem.W.Frag) (R : It → Hp → Prop) : V → Hp → Prop := fun x H1 => ∃ a, x = .ref a ∧ (∃ xs, SqT K H1 a xs) ∧ R (Itt K a) H1
def cWS (R : It → Hp → Prop) : V → Hp → Prop := fun v H1 => ∃ x, v = .str x ∧ R (Its x) H1
def cEnum (K : PySem.W.Frag) (R : It → Hp → Prop) : List V → Hp → Prop := fun ws H1 => ∃ a xs, ws = [.ref a] ∧ SqL K H1 a xs ∧ R (Ite K a) H1
def cZip (K : PySem.W.Frag) (R : It → Hp → Prop) : List V → Hp → Prop := fun ws H1 => ∃ a b xs ys, ws = [.ref a, .ref b] ∧ SqL K H1 a xs ∧ SqL K H1 b ys ∧ R (Itz K a b) H1
variable {R : It → Hp → Prop}
theorem r_rng1 (q : tr σ H (cRng1 R)) : iRng1 tr σ H R := q
theorem r_rng2 (q : tr σ H (cRng2 R)) : iRng2 tr σ H R := q
theorem r_wl (q : te σ H (cWL K R)) : iList K te σ H R := q
theorem r_wt (q : te σ H (cWT K R)) : iTup K te σ H R := q
theorem r_ws (q : te σ H (cWS R)) : iStr te σ H R := q
theorem r_enum (q : tr σ H (cEnum K R)) : iEnum K tr σ H R := q
theorem r_zip (q : tr σ H (cZip K R)) : iZip K tr σ H R := q
theorem r_cRng1 {j : Int} (h : -(2 ^ 62) ≤ j ∧ j < 2 ^ 62) (q : R (Itr 0 j.toNat) H) : cRng1 R [.int j] H := ⟨j, rfl, h.1, h.2, q⟩
theorem r_cRng2 {i j : Int} (h : -(2 ^ 62) ≤ i ∧ i < 2 ^ 62 ∧ -(2 ^ 62) ≤ j ∧ j < 2 ^ 62) (q : R (Itr i (j - i).toNat) H) : cRng2 R [.int i, .int j] H := ⟨i, j, rfl, h, q⟩
theorem r_cWL (h : SqL K H p xs) (q : R (Itl K p) H) : cWL K R (.ref p) H := ⟨p, rfl, ⟨xs, h⟩, q⟩
theorem r_cWT (h : SqT K H p xs) (q : R (Itt K p) H) : cWT K R (.ref p) H := ⟨p, rfl, ⟨xs, h⟩, q⟩
theorem r_cWS {z : Str} (q : R (Its z) H) : cWS R (.str z) H := ⟨z, rfl, q⟩
theorem r_cEnum (h : SqL K H p xs) (q : R (Ite K p) H) : cEnum K R [.ref p] H := ⟨p, xs, rfl, h, q⟩
theorem r_cZip {p' : Addr} {ys : List V} (h : SqL K H p xs) (h' : SqL K H p' ys) (q : R (Itz K p p') H) : cZip K R [.ref p, .ref p'] H := ⟨p, p', xs, ys, rfl, h, h', q⟩
/-! for -/
def kFor (g : TG) (tb : TS) (D : Ends) (σ : St) : It → Hp → Prop := fun J H1 => ∃ W : Nat → Nat → St → Hp → Prop, (∃ m, W 0 m σ H1) ∧ ∀ i m σ H, W i m σ H →
  (J.stop i H ∧ D.nx σ H) ∨ (J.go i H ∧ ∃ N : St → Hp → Prop, (∀ σ' H', N σ' H' → ∃ m', m' < m ∧ W (i + 1) m' σ' H') ∧ ∀ x H', J.yld i H x H' → g x σ H' fun σ2 H2 => tb { D with nx := N, ct := N, bk := D.nx } σ2 H2)
theorem r_for (q : wi σ H (kFor g tb ⟨nx, rt, bk, ct⟩ σ)) : tFor wi g tb ⟨nx, rt, bk, ct⟩ σ H := q
theorem r_kFor (w : Walk J n G Y) (Pv : Nat → St → Hp → Prop) (h0 : Pv 0 σ H) (hG : ∀ i σ H, i ≤ n → Pv i σ H → G H)
    (hs : ∀ i x σ H H', i < n → Pv i σ H → Y i H x H' → g x σ H' fun σ2 H2 => tb ⟨Pv (i + 1), rt, nx, Pv (i + 1)⟩ σ2 H2) (hd : ∀ σ H, Pv n σ H → nx σ H) : kFor g tb ⟨nx, rt, bk, ct⟩ σ J H :=
  for_it w (D := ⟨nx, rt, bk, ct⟩) Pv h0 hG hs hd
theorem r_kForR {m : Nat} (Pv : Nat → St → Hp → Prop) (h0 : Pv 0 σ H)
    (hs : ∀ (i : Nat) σ H, i < m → Pv i σ H → g (.int (i : Int)) σ H fun σ2 H2 => tb ⟨Pv (i + 1), rt, nx, Pv (i + 1)⟩ σ2 H2) (hd : ∀ σ H, Pv m σ H → nx σ H) : kFor g tb ⟨nx, rt, bk, ct⟩ σ (Itr 0 m) H := by
  refine r_kFor walk_range Pv h0 (fun _ _ _ _ _ => trivial) (fun i x σ H H' hi hp y => ?_) hd
  obtain ⟨rfl, rfl⟩ := y
  have e : V.int ((0 : Int) + (i : Int)) = V.int (i : Int) := congrArg V.int (by omega)
  show g (V.int ((0 : Int) + (i : Int))) σ _ _
  rw [e]
  exact hs i σ _ hi hp
theorem r_kForL (Pv : Nat → St → Hp → Prop) (h0 : Pv 0 σ H) (hl : ∀ i σ H, i ≤ xs.length → Pv i σ H → SqL K H p xs)
    (hs : ∀ (i : Nat) x σ H, xs[i]? = some x → Pv i σ H → g x σ H fun σ2 H2 => tb ⟨Pv (i + 1), rt, nx, Pv (i + 1)⟩ σ2 H2) (hd : ∀ σ H, Pv xs.length σ H → nx σ H) : kFor g tb ⟨nx, rt, bk, ct⟩ σ (Itl K p) H := by
  refine r_kFor walk_list Pv h0 hl (fun i x σ H H' hi hp y => ?_) hd
  obtain ⟨rfl, e⟩ := y
  exact hs i x σ _ e hp
theorem r_kForT (Pv : Nat → St → Hp → Prop) (h0 : Pv 0 σ H) (hl : ∀ i σ H, i ≤ xs.length → Pv i σ H → SqT K H p xs)
    (hs : ∀ (i : Nat) x σ H, xs[i]? = some x → Pv i σ H → g x σ H fun σ2 H2 => tb ⟨Pv (i + 1), rt, nx, Pv (i + 1)⟩ σ2 H2) (hd : ∀ σ H, Pv xs.length σ H → nx σ H) : kFor g tb ⟨nx, rt, bk, ct⟩ σ (Itt K p) H := by
  refine r_kFor walk_tup Pv h0 hl (fun i x σ H H' hi hp y => ?_) hd
  obtain ⟨rfl, e⟩ := y
  exact hs i x σ _ e hp
/-! [e for ..]: Pv by the new list's place, the turn, what is made so far, the heap -/
def kN (Pv : List V → Hp → Prop) (D : Addr) : Hp → Prop := fun H' => ∃ acc, H' D = some (.lst acc) ∧ Pv acc H'
def kApp (D : Addr) (N : Hp → Prop) : VK := fun y H4 => ∃ acc, H4 D = some (.lst acc) ∧ acc.length < sizeLine ∧ N (upd H4 D (.lst (acc ++ [y])))
def kKeep (te : TE) (σ : St) (D : Addr) (N : Hp → Prop) : Bool → Hp → Prop := fun b H3 => if b = true then te σ H3 (kApp D N) else N H3
def kTurn (tt : TT) (te : TE) (σ0 : St) (vs : List Nat) (D : Addr) (N : Hp → Prop) : St → Hp → Prop := fun σ2 H2 => wipe σ2 vs = σ0 ∧ tt σ2 H2 (kKeep te σ2 D N)
def kLc (g : TG) (tt : TT) (te : TE) (vs : List Nat) (σ : St) (Q : VK) : It → Hp → Prop := fun J H1 => ∀ D, H1 D = none → ∃ W : Nat → Nat → Hp → Prop, (∃ m, W 0 m (upd H1 D (.lst []))) ∧ ∀ i m H, W i m H →
  (J.stop i H ∧ Q (.ref D) H) ∨ (J.go i H ∧ ∃ Nx : Hp → Prop, (∀ H', Nx H' → ∃ m', m' < m ∧ W (i + 1) m' H') ∧ ∀ x H', J.yld i H x H' → g x (wipe σ vs) H' fun σ2 H2 => wipe σ2 vs = wipe σ vs ∧ tt σ2 H2 fun b H3 =>
    if b = true then te σ2 H3 fun y H4 => ∃ acc, H4 D = some (.lst acc) ∧ acc.length < sizeLine ∧ Nx (upd H4 D (.lst (acc ++ [y]))) else Nx H3)
theorem r_lc (q : wi σ H (kLc g tt te vs σ Q)) : tLc wi g tt te vs σ H Q := q
theorem r_kTurn {σ0 : St} {D : Addr} {N : Hp → Prop} (h : wipe σ vs = σ0) (q : tt σ H (kKeep te σ D N)) : kTurn tt te σ0 vs D N σ H := ⟨h, q⟩
theorem r_yes {QB : Bool → Hp → Prop} (q : QB true H) : tYes σ H QB := q
theorem r_kKeep1 {D : Addr} {N : Hp → Prop} {b : Bool} (h : b = true) (q : te σ H (kApp D N)) : kKeep te σ D N b H := by
  subst h
  exact q
theorem r_kKeep0 {D : Addr} {acc : List V} {Pv : List V → Hp → Prop} {b : Bool} (h : b = false) (e : H D = some (.lst acc)) (q : Pv acc H) : kKeep te σ D (kN Pv D) b H := by
  subst h
  exact ⟨acc, e, q⟩
theorem r_kKeep {D : Addr} {N : Hp → Prop} {b : Bool} (h1 : b = true → te σ H (kApp D N)) (h0 : b = false → N H) : kKeep te σ D N b H := by
  cases b
  · exact h0 rfl
  · exact h1 rfl
theorem r_kApp {D : Addr} {acc : List V} {Pv : List V → Hp → Prop} (e : H D = some (.lst acc)) (h : acc.length < sizeLine) (q : ∀ H5, Kp [D] H H5 → H5 D = some (.lst (acc ++ [y])) → Pv (acc ++ [y]) H5) : kApp D (kN Pv D) y H :=
  ⟨acc, e, h, acc ++ [y], upd_same, q _ (Kp.put (by simp)) upd_same⟩
theorem r_kLc (w : Walk J n G Y) (Pv : Addr → Nat → List V → Hp → Prop) (h0 : ∀ D H', H D = none → Kp [] H H' → H' D = some (.lst []) → Pv D 0 [] H') (hG : ∀ D i acc H', i ≤ n → Pv D i acc H' → G H')
    (hs : ∀ D i acc x H' H'', H D = none → i < n → H' D = some (.lst acc) → Pv D i acc H' → Y i H' x H'' → g x (wipe σ vs) H'' (kTurn tt te (wipe σ vs) vs D (kN (Pv D (i + 1)) D)))
    (hd : ∀ D acc H', H D = none → H' D = some (.lst acc) → Pv D n acc H' → Q (.ref D) H') : kLc g tt te vs σ Q J H := by
  intro D hD
  exact lc_it w (fun i => kN (Pv D i) D) ⟨[], upd_same, h0 D _ hD (Kp.new hD) upd_same⟩ (fun i H' hi ⟨acc, _, p⟩ => hG D i acc H' hi p) (fun i x H' H'' hi ⟨acc, e, p⟩ y => hs D i acc x H' H'' hD hi e p y) (fun H' ⟨acc, e, p⟩ => hd D acc H' hD e p)
theorem r_kLcL (Pv : Addr → Nat → List V → Hp → Prop) (h0 : ∀ D H', H D = none → Kp [] H H' → H' D = some (.lst []) → Pv D 0 [] H') (hG : ∀ D i acc H', i ≤ xs.length → Pv D i acc H' → SqL K H' p xs)
    (hs : ∀ D (i : Nat) acc x H', H D = none → xs[i]? = some x → H' D = some (.lst acc) → Pv D i acc H' → g x (wipe σ vs) H' (kTurn tt te (wipe σ vs) vs D (kN (Pv D (i + 1)) D)))
    (hd : ∀ D acc H', H D = none → H' D = some (.lst acc) → Pv D xs.length acc H' → Q (.ref D) H') : kLc g tt te vs σ Q (Itl K p) H := by
  refine r_kLc walk_list Pv h0 hG (fun D i acc x H' H'' hD hi e hp y => ?_) hd
  obtain ⟨rfl, e'⟩ := y
  exact hs D i acc x _ hD e' e hp
theorem r_kLcT (Pv : Addr → Nat → List V → Hp → Prop) (h0 : ∀ D H', H D = none → Kp [] H H' → H' D = some (.lst []) → Pv D 0 [] H') (hG : ∀ D i acc H', i ≤ xs.length → Pv D i acc H' → SqT K H' p xs)
    (hs : ∀ D (i : Nat) acc x H', H D = none → xs[i]? = some x → H' D = some (.lst acc) → Pv D i acc H' → g x (wipe σ vs) H' (kTurn tt te (wipe σ vs) vs D (kN (Pv D (i + 1)) D)))
    (hd : ∀ D acc H', H D = none → H' D = some (.lst acc) → Pv D xs.length acc H' → Q (.ref D) H') : kLc g tt te vs σ Q (Itt K p) H := by
  refine r_kLc walk_tup Pv h0 hG (fun D i acc x H' H'' hD hi e hp y => ?_) hd
  obtain ⟨rfl, e'⟩ := y
  exact hs D i acc x _ hD e' e hp
theorem r_kLcR {m : Nat} (Pv : Addr → Nat → List V → Hp → Prop) (h0 : ∀ D H', H D = none → Kp [] H H' → H' D = some (.lst []) → Pv D 0 [] H')
    (hs : ∀ D (i : Nat) acc H', H D = none → i < m → H' D = some (.lst acc) → Pv D i acc H' → g (.int (i : Int)) (wipe σ vs) H' (kTurn tt te (wipe σ vs) vs D (kN (Pv D (i + 1)) D)))
    (hd : ∀ D acc H', H D = none → H' D = some (.lst acc) → Pv D m acc H' → Q (.ref D) H') : kLc g tt te vs σ Q (Itr 0 m) H := by
  refine r_kLc walk_range Pv h0 (fun _ _ _ _ _ _ => trivial) (fun D i acc x H' H'' hD hi e hp y => ?_) hd
  obtain ⟨rfl, rfl⟩ := y
  have e : V.int ((0 : Int) + (i : Int)) = V.int (i : Int) := congrArg V.int (by omega)
  show g (V.int ((0 : Int) + (i : Int))) (wipe σ vs) _ _
  rw [e]
  exact hs D i acc _ hD hi (by assumption) hp
theorem r_kLcS {z : Str} (Pv : Addr → Nat → List V → Hp → Prop) (h0 : ∀ D H', H D = none → Kp [] H H' → H' D = some (.lst []) → Pv D 0 [] H')
    (hs : ∀ D (i : Nat) acc c H', H D = none → z.cps.toList[i]? = some c → H' D = some (.lst acc) → Pv D i acc H' → g (.str ⟨#[c]⟩) (wipe σ vs) H' (kTurn tt te (wipe σ vs) vs D (kN (Pv D (i + 1)) D)))
    (hd : ∀ D acc H', H D = none → H' D = some (.lst acc) → Pv D z.cps.toList.length acc H' → Q (.ref D) H') : kLc g tt te vs σ Q (Its z) H := by
  refine r_kLc walk_str Pv h0 (fun _ _ _ _ _ _ => trivial) (fun D i acc x H' H'' hD hi e hp y => ?_) (fun D acc H' a b c => hd D acc H' a b (by simpa using c))
  obtain ⟨rfl, c, e', rfl⟩ := y
  exact hs D i acc c _ hD (by simpa using e') e hp
/-! {k: v for ..} -/
def kND (Pv : List (Key × V) → Hp → Prop) (D : Addr) : Hp → Prop := fun H' => ∃ kvs, H' D = some (.dK kvs) ∧ Pv kvs H'
def kPut (D : Addr) (N : Hp → Prop) (y : V) : VK := fun z H5 => ∃ kvs k, y = kV k ∧ H5 D = some (.dK kvs) ∧ kvs.length < sizeLine ∧ N (upd H5 D (.dK (putK kvs k z)))
def kKeepD (tk tv : TE) (σ : St) (D : Addr) (N : Hp → Prop) : Bool → Hp → Prop := fun b H3 => if b = true then tk σ H3 (fun y H4 => tv σ H4 (kPut D N y)) else N H3
def kTurnD (tt : TT) (tk tv : TE) (σ0 : St) (vs : List Nat) (D : Addr) (N : Hp → Prop) : St → Hp → Prop := fun σ2 H2 => wipe σ2 vs = σ0 ∧ tt σ2 H2 (kKeepD tk tv σ2 D N)
def kDc (g : TG) (tt : TT) (tk tv : TE) (vs : List Nat) (σ : St) (Q : VK) : It → Hp → Prop := fun J H1 => ∀ D, H1 D = none → ∃ W : Nat → Nat → Hp → Prop, (∃ m, W 0 m (upd H1 D (.dK []))) ∧ ∀ i m H, W i m H →
  (J.stop i H ∧ Q (.ref D) H) ∨ (J.go i H ∧ ∃ Nx : Hp → Prop, (∀ H', Nx H' → ∃ m', m' < m ∧ W (i + 1) m' H') ∧ ∀ x H', J.yld i H x H' → g x (wipe σ vs) H' fun σ2 H2 => wipe σ2 vs = wipe σ vs ∧ tt σ2 H2 fun b H3 =>
    if b = true then tk σ2 H3 fun y H4 => tv σ2 H4 fun z H5 => ∃ kvs k, y = kV k ∧ H5 D = some (.dK kvs) ∧ kvs.length < sizeLine ∧ Nx (upd H5 D (.dK (putK kvs k z))) else Nx H3)
theorem r_dc (q : wi σ H (kDc g tt tk tv vs σ Q)) : tDc wi g tt tk tv vs σ H Q := q
theorem r_kTurnD {σ0 : St} {D : Addr} {N : Hp → Prop} (h : wipe σ vs = σ0) (q : tt σ H (kKeepD tk tv σ D N)) : kTurnD tt tk tv σ0 vs D N σ H := ⟨h, q⟩
theorem r_kKeepD1 {D : Addr} {N : Hp → Prop} {b : Bool} (h : b = true) (q : tk σ H (fun y H4 => tv σ H4 (kPut D N y))) : kKeepD tk tv σ D N b H := by
  subst h
  exact q
theorem r_kPut {D : Addr} {kvs : List (Key × V)} {k : Key} {Pv : List (Key × V) → Hp → Prop} (ey : x = kV k) (e : H D = some (.dK kvs)) (h : kvs.length < sizeLine) (q : ∀ H5, Kp [D] H H5 → H5 D = some (.dK (putK kvs k y)) → Pv (putK kvs k y) H5) : kPut D (kND Pv D) x y H :=
  ⟨kvs, k, ey, e, h, _, upd_same, q _ (Kp.put (by simp)) upd_same⟩
theorem r_kDc (w : Walk J n G Y) (Pv : Addr → Nat → List (Key × V) → Hp → Prop) (h0 : ∀ D H', H D = none → Kp [] H H' → H' D = some (.dK []) → Pv D 0 [] H') (hG : ∀ D i acc H', i ≤ n → Pv D i acc H' → G H')
    (hs : ∀ D i acc x H' H'', H D = none → i < n → H' D = some (.dK acc) → Pv D i acc H' → Y i H' x H'' → g x (wipe σ vs) H'' (kTurnD tt tk tv (wipe σ vs) vs D (kND (Pv D (i + 1)) D)))
    (hd : ∀ D acc H', H D = none → H' D = some (.dK acc) → Pv D n acc H' → Q (.ref D) H') : kDc g tt tk tv vs σ Q J H := by
  intro D hD
  refine ⟨fun i m H' => m = n - i ∧ i ≤ n ∧ kND (Pv D i) D H', ⟨n, by simp, Nat.zero_le _, [], upd_same, h0 D _ hD (Kp.new hD) upd_same⟩, ?_⟩
  rintro i m H' ⟨rfl, hi, acc, e, p⟩
  have q := hG D i acc H' hi p
  by_cases hlt : i < n
  · exact .inr ⟨w.goes i H' hlt q, kND (Pv D (i + 1)) D, fun H2 p' => ⟨n - (i + 1), by omega, rfl, hlt, p'⟩, fun x H2 y => hs D i acc x H' H2 hD hlt e p (w.yields i H' x H2 hlt q y)⟩
  · have e' : i = n := by omega
    subst e'
    exact .inl ⟨w.stops H' q, hd D acc H' hD e p⟩
/-! targets that are tuples -/
theorem r_gtup {K : PySem.W.Frag} {m : Nat} {t : TGs} {QS : St → Hp → Prop} {a : Addr} (h : SqT K H a xs) (hl : xs.length = m) (q : t xs σ H QS) : gTup K m t (.ref a) σ H QS := ⟨a, xs, rfl, h, hl, q⟩
theorem r_gnil {QS : St → Hp → Prop} (q : QS σ H) : gNil [] σ H QS := ⟨rfl, q⟩
theorem r_gcons {t : TG} {u : TGs} {QS : St → Hp → Prop} (q : t x σ H fun σ' H' => u xs σ' H' QS) : gCons t u (x :: xs) σ H QS := ⟨x, xs, rfl, q⟩
/-! methods of lists -/
def kBM (K : PySem.W.Frag) (T : String) (r : V → List V → Hp → VK → Prop) (tr : TA) (σ : St) (Q : VK) : VK := fun x H1 => tyV K T x H1 ∧ tr σ H1 fun xs H2 => r x xs H2 Q
theorem r_bm {T : String} {r : V → List V → Hp → VK → Prop} (q : te σ H (kBM K T r tr σ Q)) : tBM K T r te tr σ H Q := q
theorem r_kBMl {r : V → List V → Hp → VK → Prop} (h : SqL K H p xs) (q : tr σ H fun ys H2 => r (.ref p) ys H2 Q) : kBM K "list" r tr σ Q (.ref p) H := ⟨.inl ⟨rfl, _, h⟩, q⟩
def kBM0 (K : PySem.W.Frag) (T : String) (r : V → List V → Hp → VK → Prop) (Q : VK) : VK := fun x H1 => tyV K T x H1 ∧ r x [] H1 Q
theorem r_bm0 {T : String} {r : V → List V → Hp → VK → Prop} (q : te σ H (kBM0 K T r Q)) : tBM0 K T r te σ H Q := q
theorem r_kBM0l {r : V → List V → Hp → VK → Prop} (h : SqL K H p xs) (q : r (.ref p) [] H Q) : kBM0 K "list" r Q (.ref p) H := ⟨.inl ⟨rfl, _, h⟩, q⟩
theorem r_append (e : H p = some (.lst xs)) (h : xs.length < sizeLine) (q : ∀ H', Kp [p] H H' → H' p = some (.lst (xs ++ [x])) → Q .non H') : rAppend (.ref p) [x] H Q := ⟨p, xs, x, rfl, rfl, e, h, q _ (Kp.put (by simp)) upd_same⟩
/-! texts -/
def rAddT : R2 := fun x y H Q => ∃ i j, x = .str i ∧ y = .str j ∧ i.length + j.length ≤ sizeLine ∧ Q (.str (i ++ j)) H
theorem op_addT {X : Cx} : OpR X (binaryOp .Add) rAddT := op_add_str
theorem r_addT {a b : Str} (h : a.length + b.length ≤ sizeLine) (q : Q (.str (a ++ b)) H) : rAddT (.str a) (.str b) H Q := ⟨a, b, rfl, rfl, h, q⟩
theorem r_eqS {a b : Str} (q : Q (.bl (decide (a = b))) H) : rEq (.str a) (.str b) H Q := by
  refine ⟨rfl, ?_⟩
  have e : decide (V.str a = V.str b) = decide (a = b) := by
    by_cases h : a = b
    · subst h
      simp
    · rw [decide_eq_false h, decide_eq_false fun z => h (V.str.inj z)]
  rw [e]
  exact q
theorem r_neS {a b : Str} (q : Q (.bl (!decide (a = b))) H) : rNe (.str a) (.str b) H Q := by
  refine ⟨rfl, ?_⟩
  have e : decide (V.str a = V.str b) = decide (a = b) := by
    by_cases h : a = b
    · subst h
      simp
    · rw [decide_eq_false h, decide_eq_false fun z => h (V.str.inj z)]
  rw [e]
  exact q
/-! in, not in, of texts in a list -/
theorem eqV_str (a b : Str) : eqV (.str a) (.str b) = decide (a = b) := by
  show (a == b) = decide (a = b)
  by_cases h : a = b
  · subst h
    simp
  · rw [decide_eq_false h]
    exact beq_eq_false_iff_ne.mpr h
theorem inV_strs (x : Str) : ∀ ws : List Str, inV (.str x) (ws.map V.str) = decide (x ∈ ws)
  | [] => by simp [inV]
  | w :: ws => by
    have ih := inV_strs x ws
    unfold inV at ih
    unfold inV
    rw [List.map_cons, List.any_cons, ih, eqV_str]
    by_cases h : x = w
    · subst h
      simp
    · have h' : ¬ w = x := fun e => h e.symm
      simp [h, h']
theorem flat_strs (ws : List Str) : (ws.map V.str).all flatV = true := by
  rw [List.all_eq_true]
  intro v hv
  obtain ⟨w, _, rfl⟩ := List.mem_map.mp hv
  rfl
theorem r_inL {z : Str} {ws : List Str} (h : SqL K H p (ws.map V.str)) (q : Q (.bl (decide (z ∈ ws))) H) : rIn K false (.str z) (.ref p) H Q := by
  refine ⟨p, _, rfl, .inl h, rfl, flat_strs ws, ?_⟩
  show Q (.bl (inV (.str z) (ws.map V.str))) H
  rw [inV_strs]
  exact q
theorem r_notInL {z : Str} {ws : List Str} (h : SqL K H p (ws.map V.str)) (q : Q (.bl (!decide (z ∈ ws))) H) : rIn K true (.str z) (.ref p) H Q := by
  refine ⟨p, _, rfl, .inl h, rfl, flat_strs ws, ?_⟩
  show Q (.bl (!inV (.str z) (ws.map V.str))) H
  rw [inV_strs]
  exact q
end

/-! the layer's rules with K named: within a comprehension's block it could not be found otherwise -/
section
variable {X : Cx} {K : PySem.W.Frag} (hK : X.K = K)
include hK
theorem K_in : OpR X (compareOp .In) (rIn K false) := by
  subst hK
  exact op_in_seq
theorem K_notIn : OpR X (compareOp .NotIn) (rIn K true) := by
  subst hK
  exact op_notIn_seq
theorem K_eqD (hu : X.A.units + 64 < cLine) : OpR X (compareOp .Eq) (rEqD K) := by
  subst hK
  exact op_eqD hu
theorem K_neD (hu : X.A.units + 64 < cLine) : OpR X (compareOp .NotEq) (rNeD K) := by
  subst hK
  exact op_neD hu
theorem K_len : CallR X (.builtin "len") (cLen K) := by
  subst hK
  exact cr_len
theorem K_list : CallR X (.type "list") (cList K) := by
  subst hK
  exact cr_list
theorem K_tuple : CallR X (.type "tuple") (cTuple K) := by
  subst hK
  exact cr_tuple
theorem K_ixL : IxR X (rIxL K) := by
  subst hK
  exact ix_list
theorem K_ixT : IxR X (rIxT K) := by
  subst hK
  exact ix_tup
theorem K_sum (hc : X.calm = true) : CallR X (.builtin "sum") (rSum K) := by
  subst hK
  exact cr_sum hc
theorem K_max (hc : X.calm = true) : CallR X (.builtin "max") (rMax K) := by
  subst hK
  exact cr_max hc
theorem K_min (hc : X.calm = true) : CallR X (.builtin "min") (rMin K) := by
  subst hK
  exact cr_min hc
theorem K_any (hc : X.calm = true) : CallR X (.builtin "any") (rAny K) := by
  subst hK
  exact cr_any hc
theorem K_all (hc : X.calm = true) : CallR X (.builtin "all") (rAll K) := by
  subst hK
  exact cr_all hc
theorem K_sortedI : CallR X (.builtin "sorted") (rSortedI K) := by
  subst hK
  exact cr_sortedI
theorem K_sortedS : CallR X (.builtin "sorted") (rSortedS K) := by
  subst hK
  exact cr_sortedS
theorem K_isi : CallR X (.builtin "isinstance") (rIsi K) := by
  subst hK
  exact call_isi
theorem K_isiT : CallR X (.builtin "isinstance") (rIsiT K) := by
  subst hK
  exact call_isiT
theorem K_slL : SlR X (rSlL K) := by
  subst hK
  exact sl_list
theorem K_slT : SlR X (rSlT K) := by
  subst hK
  exact sl_tup
theorem K_catT : OpR X (binaryOp .Add) (rCatA K) := by
  subst hK
  exact op_catA
theorem K_index : MtR X "list.index" (rIndex K) := by
  subst hK
  exact mt_index
theorem K_pil {tg l : Expr} {tl : TE} (hl : PE X l tl) : PI X tg l (iList K tl) := by
  subst hK
  exact pi_list hl
theorem K_pit {tg l : Expr} {tl : TE} (hl : PE X l tl) : PI X tg l (iTup K tl) := by
  subst hK
  exact pi_tup hl
theorem K_enum {e : Expr} {ta : TA} {p pos tpos : Pos} {elts : List Expr} {kk : Nat} (hg : Gl X "enumerate") (hm : X.mg "enumerate" = none) (ha : PA X [e] ta) (hs : starEach [e] X.env = [(false, eval e X.env)] := by rfl) :
    PI X (.Tuple elts kk tpos) (.Call (.Name "enumerate" p) [e] [] pos) (iEnum K ta) := by
  subst hK
  exact pi_enum hg hm ha hs
theorem K_zip {e e2 : Expr} {ta : TA} {p pos tpos : Pos} {elts : List Expr} {kk : Nat} (hg : Gl X "zip") (hm : X.mg "zip" = none) (ha : PA X [e, e2] ta) (hs : starEach [e, e2] X.env = (false, eval e X.env) :: starEach [e2] X.env := by rfl) (hpl : (backTo pos (starEach [e2] X.env)).any (·.1) = false := by rfl) :
    PI X (.Tuple elts kk tpos) (.Call (.Name "zip" p) [e, e2] [] pos) (iZip K ta) := by
  subst hK
  exact pi_zip hg hm ha hs hpl
theorem K_bm {o e : Expr} {es : List Expr} {T : String} {name : Str} {id : String} {r : V → List V → Hp → VK → Prop} {to : TE} {t : TA} {apos cpos : Pos} (pa : PlainAttrs T) (slot : Slot T name id) (hty : typeOf (.builtin id) = pure (.type "method_descriptor")) (hm : MtR X id r) (ho : PE X o to) (ha : PA X (e :: es) t) (hbase : attributeBase o name X.env (eval o X.env) = eval o X.env := by rfl) (hfew : ((backTo cpos (starEach (e :: es) X.env)).all (fun x => !x.1) && (backToKw cpos (keywordEach [] X.env)).all (fun x => x.1.isSome) && decide ((e :: es).length + ([] : List Keyword).length + (if ([] : List Keyword).isEmpty then 0 else 1) < 30)) = true := by rfl) (hline : (apos.endLine == cpos.line) = true := by rfl) (hs : starEach (e :: es) X.env = (false, eval e X.env) :: starEach es X.env := by rfl) (hplain : (backTo cpos (starEach es X.env)).any (·.1) = false := by rfl) : PE X (.Call (.Attribute o name apos) (e :: es) [] cpos) (tBM K T r to t) := by
  subst hK
  exact pe_bm pa slot hty hm ho ha hbase hfew hline hs hplain
theorem K_bm0 {o : Expr} {T : String} {name : Str} {id : String} {r : V → List V → Hp → VK → Prop} {to : TE} {apos cpos : Pos} (pa : PlainAttrs T) (slot : Slot T name id) (hty : typeOf (.builtin id) = pure (.type "method_descriptor")) (hm : MtR X id r) (ho : PE X o to) (hbase : attributeBase o name X.env (eval o X.env) = eval o X.env := by rfl) (hline : (apos.endLine == cpos.line) = true := by rfl) : PE X (.Call (.Attribute o name apos) [] [] cpos) (tBM0 K T r to) := by
  subst hK
  exact pe_bm0 pa slot hty hm ho hbase hline
theorem K_gtup {es : List Expr} {k : Nat} {t : TGs} {n : Nat} {pos : Pos} (hc : X.calm = true) (h : PGs X es t) (hn : (assignEach es X.env).length = n := by rfl) (hst : (assignEach es X.env).findIdx? (·.1) = none := by rfl) : PG X (.Tuple es k pos) (gTup K n t) := by
  subst hK
  exact pg_tup hc h hn hst
theorem K_fld {e : Expr} {f : Str} {pos : Pos} {ta : TE} (he : PE X e ta) (hb : attributeBase e f X.env (eval e X.env) = eval e X.env) : PE X (.Attribute e f pos) (tFld K ta f) := by
  subst hK
  exact pe_fld he hb
theorem K_join {o e : Expr} {to te : TE} {apos pos : Pos} (ho : PE X o to) (he : PE X e te) (hs : starEach [e] X.env = [(false, eval e X.env)] := by rfl) (hbase : attributeBase o "join" X.env (eval o X.env) = eval o X.env := by rfl) (hline : (apos.endLine == pos.line) = true := by rfl) : PE X (.Call (.Attribute o "join" apos) [e] [] pos) (tM1 (fun x xs H Q => ∃ a p, ∃ ys : List Str, x = .str a ∧ xs = [.ref p] ∧ (SqL K H p (ys.map V.str) ∨ SqT K H p (ys.map V.str)) ∧ (ys.map (·.length)).sum + ys.length * a.length ≤ 16777216 ∧ Q (.str (Txt.join a ys)) H) to te) := by
  subst hK
  exact pe_join ho he hs hbase hline
end

/-! cuts: what stands behind is read once -/
section
variable {X : Cx}
def tCutS (t u : TS) : TS := fun D σ H => ∃ M : St → Hp → Prop, t { D with nx := M } σ H ∧ ∀ σ' H', M σ' H' → u D σ' H'
theorem pss_cutS {st : Stmt} {more : List Stmt} {t u : TS} (a : PS X st t) (b : PSs X more u) : PSs X (st :: more) (tCutS t u) := by
  constructor
  intro pins s σ H D I ⟨M, hm, hu⟩
  refine wpAny_execs_cons (thn (a.run pins s σ H { D with nx := M } I hm) fun f s1 w => ?_)
  match f, w with
  | .next, ⟨σ', H', I', w'⟩ => exact b.run pins s1 σ' H' D I' (hu σ' H' w')
  | .ret _, w => exact w
  | .brk, w => exact w
  | .cont, w => exact w
theorem r_cutS {t u : TS} {nx bk ct : St → Hp → Prop} {rt : VK} {σ : St} {H : Hp} (M : St → Hp → Prop) (h : t ⟨M, rt, bk, ct⟩ σ H) (q : ∀ σ' H', M σ' H' → u ⟨nx, rt, bk, ct⟩ σ' H') : tCutS t u ⟨nx, rt, bk, ct⟩ σ H := ⟨M, h, q⟩
def tCutT (t : TT) : TT := fun σ H Q => ∃ M : Bool → Hp → Prop, t σ H M ∧ ∀ b H', M b H' → Q b H'
theorem pt_cutT {e : Expr} {t : TT} (a : PT X e t) : PT X e (tCutT t) := by
  constructor
  intro pins s σ H Q I ⟨M, hm, hq⟩
  exact wpAny_mono (a.run pins s σ H M I hm) (fun b s' ⟨H', I', w⟩ => ⟨H', I', hq b H' w⟩) fun _ _ z => z
theorem r_cutT {t : TT} {σ : St} {H : Hp} {QB : Bool → Hp → Prop} (M : Bool → Hp → Prop) (h : t σ H M) (q : ∀ b H', M b H' → QB b H') : tCutT t σ H QB := ⟨M, h, q⟩
def tCutE (t : TE) : TE := fun σ H Q => ∃ M : VK, t σ H M ∧ ∀ x H', M x H' → Q x H'
theorem pe_cutE {e : Expr} {t : TE} (a : PE X e t) : PE X e (tCutE t) := by
  constructor
  intro pins s σ H Q I ⟨M, hm, hq⟩
  exact wpAny_mono (a.run pins s σ H M I hm) (fun u s' ⟨v, H', I', r, w⟩ => ⟨v, H', I', r, hq v H' w⟩) fun _ _ z => z
theorem r_cutE {t : TE} {σ : St} {H : Hp} {Q : VK} (M : VK) (h : t σ H M) (q : ∀ x H', M x H' → Q x H') : tCutE t σ H Q := ⟨M, h, q⟩
end

/-! lists by turns -/
theorem take_more {α : Type} : ∀ {l : List α} {i : Nat} {x : α}, l[i]? = some x → l.take (i + 1) = l.take i ++ [x]
  | [], i, x, h => by simp at h
  | a :: l, 0, x, h => by
    cases h
    rfl
  | a :: l, i + 1, x, h => by
    have ih := take_more (l := l) (i := i) (x := x) h
    rw [List.take_succ_cons, ih]
    rfl
theorem take_map {α β : Type} {l : List α} {i : Nat} {x : α} (f : α → β) (h : l[i]? = some x) : (l.take (i + 1)).map f = (l.take i).map f ++ [f x] := by
  rw [take_more h, List.map_append]
  rfl
theorem take_filter {α : Type} {l : List α} {i : Nat} {x : α} (f : α → Bool) (h : l[i]? = some x) : (l.take (i + 1)).filter f = (l.take i).filter f ++ (if f x = true then [x] else []) := by
  rw [take_more h, List.filter_append]
  cases e : f x <;> simp [e]
theorem map_at {α β : Type} {l : List α} {i : Nat} {y : β} {f : α → β} (h : (l.map f)[i]? = some y) : ∃ x, l[i]? = some x ∧ y = f x := by
  rw [List.getElem?_map] at h
  cases e : l[i]? with
  | none =>
    rw [e] at h
    cases h
  | some x =>
    rw [e] at h
    exact ⟨x, rfl, (Option.some.inj h).symm⟩
theorem lt_at {α : Type} {l : List α} {i : Nat} {x : α} (h : l[i]? = some x) : i < l.length := (List.getElem?_eq_some_iff.mp h).1
theorem mem_at {α : Type} {l : List α} {i : Nat} {x : α} (h : l[i]? = some x) : x ∈ l := List.mem_of_getElem? h
theorem Kp.trans' {a : Addr} {H H1 H2 : Hp} (k : Kp [] H H1) (k2 : Kp [a] H1 H2) (n : H a = none) : Kp [] H H2 := (k.nil.trans k2).drop n
/-- a word's heap behind a new list at D has grown by a change of D -/
theorem Kp.step {D : Addr} {ex : List Addr} {H H1 H2 : Hp} (a : Kp ex H H1) (n : H D = none) (b : Kp [D] H1 H2) : Kp ex H H2 :=
  Kp.drop (l := D) ((a.mono fun _ m => List.mem_cons_of_mem _ m).trans (b.mono fun x m => by rw [List.mem_singleton.mp m]; exact List.mem_cons_self)) n

/-! a walk over a list or a tuple -/
def iSeq (K : PySem.W.Frag) (tl : TE) : TI := fun σ H R => tl σ H fun x H1 => ∃ a, x = .ref a ∧ (((∃ xs, SqL K H1 a xs) ∧ R (Itl K a) H1) ∨ ((∃ xs, SqT K H1 a xs) ∧ R (Itt K a) H1))
theorem K_pis {X : Cx} {K : PySem.W.Frag} (hK : X.K = K) {tg l : Expr} {tl : TE} (hl : PE X l tl) : PI X tg l (iSeq K tl) := by
  subst hK
  constructor
  intro pins s σ H R I h
  refine thn (hl.run pins s σ H _ I h) fun v s1 w => ?_
  obtain ⟨_, H1, I1, rv, a, rfl, w⟩ := w
  cases rv
  have fresh : ∀ b ∈ [s1.heap.objs.size], FpOk X pins H1 b := fun b m => (List.mem_singleton.mp m) ▸ I1.fpOk (Nat.le_refl _) (I1.hok.fresh (Nat.le_refl _))
  rcases w with ⟨⟨xs, hs⟩, w⟩ | ⟨⟨xs, hs⟩, w⟩
  · obtain ⟨_, _, pl, _⟩ := I1.list hs
    exact wpAny_pyIter_list pl.isList ⟨_, [s1.heap.objs.size], _, _, H1, rfl, I1.kept (t' := s1.toks) fun _ _ => Heap.get?_push_of_some _, turn_list a _, ⟨_, Heap.get?_push_size _ rfl, rfl, rfl⟩, fresh, w⟩
  · obtain ⟨_, _, pl, _⟩ := I1.tuple hs
    exact wpAny_pyIter_tuple pl ⟨_, [s1.heap.objs.size], _, _, H1, rfl, I1.kept (t' := s1.toks) fun _ _ => Heap.get?_push_of_some _, turn_tuple a _, ⟨_, Heap.get?_push_size _ rfl, rfl, rfl⟩, fresh, w⟩
def cWQ (K : PySem.W.Frag) (R : It → Hp → Prop) : V → Hp → Prop := fun x H1 => ∃ a, x = .ref a ∧ (((∃ xs, SqL K H1 a xs) ∧ R (Itl K a) H1) ∨ ((∃ xs, SqT K H1 a xs) ∧ R (Itt K a) H1))
section
variable {σ : St} {H : Hp} {Q : VK} {K : PySem.W.Frag} {te : TE} {R : It → Hp → Prop} {p : Addr} {xs : List V} {x : V}
theorem r_wq (q : te σ H (cWQ K R)) : iSeq K te σ H R := q
theorem r_cWQl (h : SqL K H p xs) (q : R (Itl K p) H) : cWQ K R (.ref p) H := ⟨p, rfl, .inl ⟨⟨xs, h⟩, q⟩⟩
theorem r_cWQt (h : SqT K H p xs) (q : R (Itt K p) H) : cWQ K R (.ref p) H := ⟨p, rfl, .inr ⟨⟨xs, h⟩, q⟩⟩
/-- a list or a tuple -/
def Sq (K : PySem.W.Frag) (H : Hp) (p : Addr) (xs : List V) : Prop := SqL K H p xs ∨ SqT K H p xs
theorem Sq.kp {ex : List Addr} {H' : Hp} (h : Sq K H p xs) (k : Kp ex H H') (m : p ∉ ex) : Sq K H' p xs := h.elim (fun z => .inl (sql_kp z k m)) fun z => .inr (sqt_kp z k m)
theorem r_lenQ (h : Sq K H p xs) (q : Q (.int (xs.length : Nat)) H) : cLen K [.ref p] H Q := ⟨p, xs, rfl, h, q⟩
theorem r_listQ (h : Sq K H p xs) (q : ∀ l H', H l = none → Kp [] H H' → H' l = some (.lst xs) → Q (.ref l) H') : cList K [.ref p] H Q := ⟨p, xs, rfl, h, fun l n => q l _ n (Kp.new n) upd_same⟩
/-! isinstance -/
theorem r_isiTy {T n : String} {b : Bool} (h : TyX K H x (.type T)) (e : kitB T n = some b) (q : Q (.bl b) H) : rIsi K [x, .ty n] H Q := ⟨x, .ty n, _, _, b, rfl, .ty n, h, kit_ty e, q⟩
/-! [e for ..] over a list or a tuple -/
theorem r_kLcQ {g : TG} {tt : TT} {vs : List Nat} (Pv : Addr → Nat → List V → Hp → Prop) (hq : Sq K H p xs) (h0 : ∀ D H', H D = none → Kp [] H H' → H' D = some (.lst []) → Pv D 0 [] H') (hG : ∀ D i acc H', i ≤ xs.length → Pv D i acc H' → Kp [] H H')
    (hs : ∀ D (i : Nat) acc x H', H D = none → xs[i]? = some x → H' D = some (.lst acc) → Pv D i acc H' → g x (wipe σ vs) H' (kTurn tt te (wipe σ vs) vs D (kN (Pv D (i + 1)) D)))
    (hd : ∀ D acc H', H D = none → H' D = some (.lst acc) → Pv D xs.length acc H' → Q (.ref D) H') : cWQ K (kLc g tt te vs σ Q) (.ref p) H := by
  rcases hq with h | h
  · exact r_cWQl h (r_kLcL Pv h0 (fun D i acc H' hi p => sql_kp h (hG D i acc H' hi p) not_nil) hs hd)
  · exact r_cWQt h (r_kLcT Pv h0 (fun D i acc H' hi p => sqt_kp h (hG D i acc H' hi p) not_nil) hs hd)
end

/-! list.index of a number -/
theorem eqV_int (a b : Int) : eqV (.int a) (.int b) = (a == b) := rfl
theorem flat_ints (ns : List Int) : (ns.map V.int).all flatV = true := by
  rw [List.all_eq_true]
  intro v hv
  obtain ⟨w, _, rfl⟩ := List.mem_map.mp hv
  rfl
theorem lt_idx {n : Int} : ∀ {l : List Int} {m : Nat} {z : Int}, m < l.idxOf n → l[m]? = some z → z ≠ n
  | [], m, z, _, e => by simp at e
  | x :: l, m, z, h, e => by
    rw [List.idxOf_cons] at h
    by_cases c : x = n
    · subst c
      simp at h
    · have c' : (x == n) = false := beq_eq_false_iff_ne.mpr c
      rw [c'] at h
      cases m with
      | zero =>
        cases e
        exact c
      | succ m =>
        exact lt_idx (l := l) (m := m) (Nat.lt_of_succ_lt_succ h) e
theorem r_indexI {K : PySem.W.Frag} {H : Hp} {Q : VK} {p : Addr} {ns : List Int} {n : Int} (h : SqL K H p (ns.map V.int)) (m : n ∈ ns) (q : Q (.int (ns.idxOf n : Nat)) H) : rIndex K (.ref p) [.int n] H Q := by
  have hi := List.idxOf_lt_length_of_mem m
  have e : ns[ns.idxOf n]? = some n := by rw [List.getElem?_eq_getElem hi, List.getElem_idxOf]
  refine ⟨p, _, .int n, ns.idxOf n, .int n, rfl, rfl, h, rfl, flat_ints ns, ?_, beq_self_eq_true n, fun j z' hj hz => ?_, q⟩
  · rw [List.getElem?_map, e]
    rfl
  · obtain ⟨z, hz', rfl⟩ := map_at hz
    exact beq_eq_false_iff_ne.mpr (lt_idx hj hz')
/-! == of data -/
def Shp (n : Nat) (d : PyData) : Prop := d.canLay0 = true ∧ d.depth ≤ n
theorem Shp.ok {n : Nat} {d : PyData} (h : Shp n d) (hn : n ≤ 64) : SeqAt.shaped d = true := Bool.and_eq_true_iff.mpr ⟨h.1, decide_eq_true (Nat.le_trans h.2 hn)⟩
theorem Shp.all {n : Nat} : ∀ {l : List PyData}, (∀ d ∈ l, Shp n d) → PyData.canLayAll0 l = true ∧ PyData.depthAll l ≤ n
  | [], _ => ⟨rfl, Nat.zero_le _⟩
  | d :: l, h => by
    have h1 := h d List.mem_cons_self
    have h2 := Shp.all (l := l) fun x hx => h x (List.mem_cons_of_mem _ hx)
    exact ⟨Bool.and_eq_true_iff.mpr ⟨h1.1, h2.1⟩, Nat.max_le.mpr ⟨h1.2, h2.2⟩⟩
theorem Shp.list {n : Nat} {l : List PyData} (h : ∀ d ∈ l, Shp n d) : Shp (n + 1) (.list l) := ⟨(Shp.all h).1, Nat.succ_le_succ (Shp.all h).2⟩
theorem Shp.tuple {n : Nat} {l : List PyData} (h : ∀ d ∈ l, Shp n d) : Shp (n + 1) (.tuple l) := ⟨(Shp.all h).1, Nat.succ_le_succ (Shp.all h).2⟩
theorem Shp.int (i : Int) (n : Nat) : Shp n (.int i) := ⟨rfl, Nat.zero_le _⟩
theorem Shp.bool (b : Bool) (n : Nat) : Shp n (.bool b) := ⟨rfl, Nat.zero_le _⟩
theorem Shp.none (n : Nat) : Shp n .none := ⟨rfl, Nat.zero_le _⟩
theorem Shp.str {x : Str} (h : PyData.strOk x = true) (n : Nat) : Shp n (.str x) := ⟨h, Nat.zero_le _⟩
theorem strOk_of {x : Str} {m : Nat} (h : ∀ c ∈ x.cps.toList, c ≤ m) (hm : m < 0x110000) : PyData.strOk x = true := by
  unfold PyData.strOk
  rw [← Array.all_toList, List.all_eq_true]
  intro c hc
  have := h c hc
  exact decide_eq_true (by omega)
section
variable {H : Hp} {Q : VK} {K : PySem.W.Frag} {x y : V} {d e : PyData} {ex ex' : List Addr} {n : Nat}
theorem r_eqD (hx : Dt ex H x d) (hy : Dt ex' H y e) (sx : Shp n d) (sy : Shp n e) (hn : n ≤ 64) (q : Q (.bl (PyData.eqv d e)) H) : rEqD K x y H Q := ⟨d, e, hx.dp, hy.dp, sx.ok hn, sy.ok hn, q⟩
theorem r_neD (hx : Dt ex H x d) (hy : Dt ex' H y e) (sx : Shp n d) (sy : Shp n e) (hn : n ≤ 64) (q : Q (.bl (!PyData.eqv d e)) H) : rNeD K x y H Q := ⟨d, e, hx.dp, hy.dp, sx.ok hn, sy.ok hn, q⟩
theorem r_eqD1 (hx : Dt ex H x d) (hy : Dt ex' H y d) (sx : Shp n d) (hn : n ≤ 64) (q : Q (.bl true) H) : rEqD K x y H Q := by
  refine r_eqD hx hy sx sx hn ?_
  rw [SeqAt.eqv_refl d sx.1]
  exact q
theorem r_neD0 (hx : Dt ex H x d) (hy : Dt ex' H y d) (sx : Shp n d) (hn : n ≤ 64) (q : Q (.bl false) H) : rNeD K x y H Q := by
  refine r_neD hx hy sx sx hn ?_
  rw [SeqAt.eqv_refl d sx.1]
  exact q
end
end Rd

set_option maxHeartbeats 4000000
/-! SetI: set(xs) of a list of numbers -/
namespace Rd
open PySem PySem.Spec PyProof.Rows L2
/-- a set as it is new in the world w -/
def nset (w : World) : Obj := { cls := .type "set", dict := none, data := .set #[] 0 (.fresh 0 0 (!w.params.followText "set-order")) }
def grown (w : World) (s : Shared) : Shared := { s with heap := s.heap.push (nset w) }
section
variable {P : Program} {w : World} {A : Around} {E : Value → Shared → Prop} {s : Shared}
theorem nset_at (h : Heap) : (h.push (nset w)).get? h.objs.size = some (nset w) := Heap.get?_push_size _ rfl
/-- what stands behind the call -/
def Laid (w : World) (s : Shared) (ns : List Int) (u : Shared) : Prop := ∃ (g : Heap) (k c : Nat), u = { s with heap := g, toks := k } ∧ SetR w g s.heap.objs.size (fun j => decide (j ∈ ns)) c ∧ c ≤ ns.length ∧ ∀ b o, s.heap.get? b = some o → g.get? b = some o
theorem set_loop {l : Addr} {items : Array Value} {ns : List Int} {R : Result → Shared → Prop} (hh : A.handled = none) (hl : s.heap.IsList l items) (hit : IntsAre items.toList ns) (hb : ns.length + 1 < scanBound) (hR : ∀ u, Laid w s ns u → R (.ok (.ret .none)) u) :
    codeAny (model P w) A (.builtin "set.update.loop" ⟨[.ref s.heap.objs.size, .ref (grown w s).heap.objs.size], []⟩) R { grown w s with heap := (grown w s).heap.push { cls := .type "list_iterator", data := .fields #[.ref l, .int 0 0] } } := by
  have hsz : items.size = ns.length := by
    have z := IntsAre.length hit
    rwa [Array.length_toList] at z
  have at0 := nset_at (w := w) s.heap
  have hl1 : (grown w s).heap.IsList l items := hl.push _
  have below : l < s.heap.objs.size := by
    obtain ⟨o, e, _⟩ := hl
    exact Heap.lt_size e
  have size1 : (grown w s).heap.objs.size = s.heap.objs.size + 1 := Heap.size_push ..
  have apart : l ≠ (grown w s).heap.objs.size := fun e => by
    rw [size1] at e
    exact absurd (e ▸ below) (Nat.not_lt.mpr (Nat.le_succ _))
  have notin : s.heap.objs.size ∉ [(grown w s).heap.objs.size, l] := by
    intro m
    rcases List.mem_cons.mp m with e | e
    · rw [size1] at e
      exact Nat.ne_of_lt (Nat.lt_succ_self _) e
    · exact Nat.ne_of_gt below (List.mem_singleton.mp e)
  have none1 : A.in1.handled = none := by simp [hh]
  have vals : ∀ (i : Nat) (v : Value), items[i]? = some v → ∃ k t, ns[i]? = some k ∧ v = .int k t := fun i v hv => by
    have hi : i < ns.length := hsz ▸ (Array.getElem?_eq_some_iff.mp hv).1
    obtain ⟨t, e⟩ := IntsAre.int_at hit i v ((Array.getElem?_toList ..).trans hv)
    exact ⟨ns[i], t, List.getElem?_eq_getElem hi, by rw [e, List.getD_eq_getElem?_getD, List.getElem?_eq_getElem hi] <;> rfl⟩
  refine set_update_ints (Walks.toS (Walks.list none1 _ l apart items)) s.heap.objs.size notin ns hsz hb vals (items.size - 0) 0 _ (Nat.sub_zero _) (Nat.zero_le _) ⟨⟨_, Heap.get?_push_size _ rfl, rfl, rfl⟩, hl1.push _⟩ ?_ ?_
  · exact ⟨0, Nat.le_refl 0, setR_new_at (Heap.get?_push_of_some _ at0)⟩
  · intro u c hm hc hS
    obtain ⟨g, g2, d, k, os⟩ := u
    obtain rfl : g2 = s.gens := hm.gens
    obtain rfl : d = s.drawn := hm.drawn
    obtain rfl : os = s.os := hm.os
    refine hR _ ⟨g, k, c, rfl, hS, hsz ▸ hc, fun b o e => ?_⟩
    have lt := Heap.lt_size e
    refine hm.heap b o (fun m => ?_) (Heap.get?_push_of_some _ (Heap.get?_push_of_some _ e))
    rcases List.mem_cons.mp m with z | z
    · exact Nat.ne_of_lt lt z
    · have z' := List.mem_singleton.mp z
      rw [size1] at z'
      exact Nat.ne_of_lt (Nat.lt_succ_of_lt lt) z'
set_option maxHeartbeats 8000000 in
theorem set_of_list {l : Addr} {items : Array Value} {ns : List Int} {Q : Value → Shared → Prop} (hh : A.handled = none) (hl : s.heap.IsList l items) (hit : IntsAre items.toList ns) (hb : ns.length + 1 < scanBound) (q : ∀ u, Laid w s ns u → Q (.ref s.heap.objs.size) u) :
    wpAny (model P w) A (call (.type "set") [.ref l]) Q E s := by
  obtain ⟨cc, mtl, mro⟩ := F.called_set.mro
  have fmade := F.called_set.made
  have fsub := F.called_set.sub
  refine wpAny_call (codeAny_of_tree (show wpAny _ _ (callAny (.type "set") _) _ _ _ from ?_))
  refine wpAny_pure ⟨Code.quiet_builtin _ (by decide +kernel), codeAny_builtin F.entry_type_call ?_⟩
  rw [Around.under_plain (weight_type_call_type "set" [.ref l] []) rfl]
  have fnot := F.called_set.notType
  have fcan := F.called_set.canCreate
  have fcall := F.typeCall_set_1 (.ref l)
  repeat any_goals first | assumption | wp_step
  refine codeAny_mono (code_set_led1 (.ref l) (E := E) (Q₁ := fun ob u => ob = .ref s.heap.objs.size ∧ u = grown w s) ⟨rfl, rfl⟩) fun r u hr => ?_
  match r, hr with
  | .error _, hr => exact hr
  | .ok .next, hr => exact hr.elim
  | .ok .brk, hr => exact hr.elim
  | .ok .cont, hr => exact hr.elim
  | .ok (.ret ob), ⟨e1, e2⟩ =>
    subst e1 e2
    have ty : Shared.TypeIs (grown w s) (.ref s.heap.objs.size) "set" := ⟨_, nset_at _, rfl⟩
    have flook := F.called_set.init.lookup
    have fbind := F.called_set.init.bind (.ref s.heap.objs.size)
    repeat any_goals first | assumption | wp_step
    refine codeAny_mono (codeAny_call_builtin (R := wants (fun r u => r = Value.none ∧ Laid w s ns u) E) F.called_set.init.plain F.entry_set_init (check_set_init_1 ty ?_)) fun r u hr => ?_
    · obtain ⟨ol, hol, hcl, nl, hdl⟩ := id hl
      obtain ⟨ocls, odict, odata, oslots⟩ := ol
      obtain rfl : ocls = _ := hcl
      obtain rfl : odata = _ := hdl
      have here := Heap.get?_push_of_some (nset w) hol
      have sub1 := F.sub_list_set
      have sub2 := F.sub_list_frozenset
      have nodict : (Value.type "list" == Value.type "dict") = false := by decide
      unfold Builtin.«set.__init__» noKeywords Builtin.Frozenset.updateFrom
      generalize hp : pyIter = it
      unfold grown
      wp_walk
      subst hp
      refine wpAny_pyIter_list (hl.push _) (wpAny_bind (wpAny_runValue ?_))
      refine set_loop (by simp [hh]) hl hit hb fun u hu => ?_
      refine wpAny_pure (show wpAny _ _ (ret Value.none) _ _ _ from wpAny_pure ⟨rfl, hu⟩)
    · match r, hr with
      | .error _, hr => exact hr
      | .ok .next, hr => exact hr.elim
      | .ok .brk, hr => exact hr.elim
      | .ok .cont, hr => exact hr.elim
      | .ok (.ret r), ⟨e1, hu⟩ =>
        subst e1
        repeat any_goals first | assumption | wp_step
        exact q _ hu
end
/-- set(xs), xs a list of numbers -/
def cSetI (K : PySem.W.Frag) (w : World) : R1 := fun xs H Q => ∃ (l : Addr) (ns : List Int), xs = [.ref l] ∧ SqL K H l (ns.map V.int) ∧ ns.length ≤ 1000 ∧
  ∀ (p : Addr) (c : Nat), H p = none → c ≤ ns.length → Q (.ref p) (upd H p (SetO w p (fun j => decide (j ∈ ns)) c))
theorem K_setI {X : Cx} {K : PySem.W.Frag} {w : World} (hK : X.K = K) (hw : X.w = w) (hc : X.calm = true) : CallR X (.type "set") (cSetI K w) := by
  subst hK hw
  intro pins s σ H xs us Q I r h
  obtain ⟨l, ns, rfl, hq, hb, q⟩ := h
  obtain ⟨u, rfl, ru⟩ := r.one
  cases ru
  obtain ⟨its, rv, pl, hz⟩ := I.list hq
  refine set_of_list (I.ok.hd hc) pl.isList (ns := ns) (by simpa using ints_of_vals rv) (Nat.lt_of_le_of_lt (Nat.succ_le_succ hb) (by decide)) fun u hu => ?_
  obtain ⟨g, k, c, rfl, hS, hc', hk⟩ := hu
  exact ⟨.ref _, _, I.laid (t' := k) (o := SetO X.w s.heap.objs.size (fun j => decide (j ∈ ns)) c) hk (Nat.le_refl _) (setO_new hS), rfl, q _ c (I.hok.fresh (Nat.le_refl _)) hc'⟩
end Rd

set_option maxHeartbeats 4000000
/-! SetS: set(xs) of a list of texts, and its length. -/
namespace Rd
open PySem PySem.Spec PyProof.Rows L2
instance memKey (a : Key) (l : List Key) : Decidable (a ∈ l) := @List.instDecidableMemOfLawfulBEq Key instBEqOfDecidableEq inferInstance a l
/-- the different ones among the first i -/
def disK (val : Nat → Key) : Nat → List Key
  | 0 => []
  | i + 1 => if val i ∈ disK val i then disK val i else disK val i ++ [val i]
theorem disK_le (val : Nat → Key) : ∀ i, (disK val i).length ≤ i
  | 0 => Nat.le_refl _
  | i + 1 => by
    have := disK_le val i
    unfold disK
    split
    · omega
    · rw [List.length_append]
      show _ + 1 ≤ _
      omega
section
variable {P : Program} {w : World} {A : Around} {E : Value → Shared → Prop} {R : Result → Shared → Prop} {I : Addr} {fp wr : List Addr} {G : Array GenState → Array GenState → Prop} {n : Nat} {Pv : Nat → Value → Prop} {St : Nat → Shared → Prop}
theorem set_update_keys (W : WalksS P w A.in1 I fp wr G n Pv St) (S : Addr) (hSf : S ∉ fp) (val : Nat → Key) (hval : ∀ i v, Pv i v → RelV (kV (val i)) v) (hb : n + 1 < scanBound) :
    ∀ (k i : Nat) (s : Shared), n - i = k → i ≤ n → St i s →
      s.heap.SetOf (mixKind P w) S (fun x => decide (x ∈ disK val i)) (disK val i).length →
      (∀ s', Moved (S :: wr) G s s' → s'.heap.SetOf (mixKind P w) S (fun x => decide (x ∈ disK val n)) (disK val n).length → R (.ok (.ret .none)) s') →
      codeAny (model P w) A (.builtin "set.update.loop" ⟨[.ref S, .ref I], []⟩) R s := by
  have hSw : S ∉ wr := fun h => hSf (W.sub _ h)
  have hsub : ∀ b ∈ wr, b ∈ S :: wr := fun b hb => List.mem_cons_of_mem _ hb
  intro k
  induction k with
  | zero =>
    intro i s hk hi hst hS hR
    have hin : i = n := by omega
    subst hin
    refine codeAny_builtin F.entry_set_update_loop ?_
    rw [Around.under_plainId F.plain_set_update_loop _]
    show wpAny _ A.in1 (pyNext (.ref I) >>= _) _ _ s
    refine wpAny_bind (W.done s _ _ hst fun s' hm => ?_)
    show wpAny _ A.in1 (ret Value.none) _ _ s'
    exact wpAny_pure (hR s' (hm.mono hsub) (by
      obtain ⟨o, es, ep, t, ho, rest⟩ := hS
      exact ⟨o, es, ep, t, hm.heap S _ hSw ho, rest⟩))
  | succ k ih =>
    intro i s hk hi hst hS hR
    have hlt : i < n := by omega
    refine codeAny_builtin F.entry_set_update_loop ?_
    rw [Around.under_plainId F.plain_set_update_loop _]
    show wpAny _ A.in1 (pyNext (.ref I) >>= _) _ _ s
    refine wpAny_bind (W.item i s _ _ hlt hst fun v s' hP hst' hm => ?_)
    have rv := hval i v hP
    have hS' : s'.heap.SetOf (mixKind P w) S (fun x => decide (x ∈ disK val i)) (disK val i).length := by
      obtain ⟨o, es, ep, tb, ho, rest⟩ := hS
      exact ⟨o, es, ep, tb, hm.heap S _ hSw ho, rest⟩
    show wpAny _ A.in1 (holding [v] (setAdd S v) >>= _) _ _ s'
    refine wpAny_bind (wpAny_holding ?_)
    unfold setAdd
    refine wpAny_holding ?_
    refine wpAny_bind ((mixKind P w).pyHash (k := val i) (kV_is rv) ?_)
    have hroom : (disK val i).length + 1 < scanBound := by have := disK_le val i; omega
    refine wpAny_setAddHashed_of (knd := mixKind P w) (s := { s' with toks := s'.toks + 1 }) (kV_is rv) (key_scan rv) hS' hroom fun h' hsb hS2 => ?_
    have hSi : h'.SetOf (mixKind P w) S (fun x => decide (x ∈ disK val (i + 1))) (disK val (i + 1)).length := by
      have hf : (fun x : Key => (decide (x ∈ disK val i) || decide (x = val i))) = fun x => decide (x ∈ disK val (i + 1)) := by
        refine funext fun x => ?_
        show _ = decide (x ∈ (if val i ∈ disK val i then disK val i else disK val i ++ [val i]))
        by_cases c : val i ∈ disK val i
        · rw [if_pos c]
          by_cases e : x = val i
          · rw [e, decide_eq_true c]; rfl
          · rw [decide_eq_false e, Bool.or_false]
        · rw [if_neg c]
          by_cases e : x = val i
          · rw [decide_eq_true e, decide_eq_true (List.mem_append_right _ (by rw [e]; exact List.mem_singleton_self _)), Bool.or_true]
          · rw [decide_eq_false e, Bool.or_false]
            by_cases m : x ∈ disK val i
            · rw [decide_eq_true m, decide_eq_true (List.mem_append_left _ m)]
            · rw [decide_eq_false m, decide_eq_false fun z => (List.mem_append.mp z).elim m fun z => e (List.mem_singleton.mp z)]
      have hl : (if decide (val i ∈ disK val i) = true then (disK val i).length else (disK val i).length + 1) = (disK val (i + 1)).length := by
        by_cases c : val i ∈ disK val i
        · rw [if_pos (decide_eq_true c)]
          show _ = (if _ then _ else _ : List Key).length
          rw [if_pos c]
        · rw [if_neg (by rw [decide_eq_false c]; decide)]
          show _ = (if _ then _ else _ : List Key).length
          rw [if_neg c, List.length_append]
          rfl
      rw [← hf, ← hl]
      exact hS2
    refine wpAny_pure ⟨plainId_quiet F.plain_set_update_loop _, ih (i + 1) _ (by omega) hlt (W.frame _ s' _ _ hst' (Nat.le_succ _) fun b hb o e => ?_) hSi fun s'' hm'' hS'' => ?_⟩
    · rw [hsb.2 b (fun h : b = S => hSf (by rw [← h]; exact hb))]; exact e
    · refine hR s'' (Moved.trans W.gtrans ((hm.mono hsub).then_heap (Nat.le_succ _) fun b o hb e => ?_) hm'') hS''
      rw [hsb.2 b (fun h : b = S => hb (by rw [h]; exact List.mem_cons_self))]; exact e
end
def valK (ks : List Key) (i : Nat) : Key := ks.getD i (Sum.inl 0)
theorem valsK_at : ∀ {vs : List V} {us : List Value} {i : Nat} {u : Value}, Vals vs us → us[i]? = some u → ∃ v, vs[i]? = some v ∧ RelV v u
  | _, _, i, u, .nil, h => by simp at h
  | _, _, 0, u, .cons r t, h => by
    cases (show some _ = some u from h)
    exact ⟨_, rfl, r⟩
  | _ :: vs, _ :: us, i + 1, u, .cons _ t, h => by
    obtain ⟨v, hv, rv⟩ := valsK_at (vs := vs) (us := us) (i := i) (u := u) t (by simpa using h)
    exact ⟨v, by simpa using hv, rv⟩
section
variable {P : Program} {w : World} {A : Around} {E : Value → Shared → Prop} {s : Shared}
/-- what stands behind the call -/
def LaidK (P : Program) (w : World) (s : Shared) (ns : List Key) (u : Shared) : Prop := ∃ (g : Heap) (k : Nat), u = { s with heap := g, toks := k } ∧ g.SetOf (mixKind P w) s.heap.objs.size (fun j => decide (j ∈ disK (valK ns) ns.length)) (disK (valK ns) ns.length).length ∧ ∀ b o, s.heap.get? b = some o → g.get? b = some o
theorem set_loopK {l : Addr} {items : Array Value} {ns : List Key} {R : Result → Shared → Prop} (hh : A.handled = none) (hl : s.heap.IsList l items) (hit : Vals (ns.map kV) items.toList) (hb : ns.length + 1 < scanBound) (hR : ∀ u, LaidK P w s ns u → R (.ok (.ret .none)) u) :
    codeAny (model P w) A (.builtin "set.update.loop" ⟨[.ref s.heap.objs.size, .ref (grown w s).heap.objs.size], []⟩) R { grown w s with heap := (grown w s).heap.push { cls := .type "list_iterator", data := .fields #[.ref l, .int 0 0] } } := by
  have hsz : items.size = ns.length := by
    have z := hit.length
    rw [List.length_map, Array.length_toList] at z
    exact z.symm
  have at0 := nset_at (w := w) s.heap
  have hl1 : (grown w s).heap.IsList l items := hl.push _
  have below : l < s.heap.objs.size := by
    obtain ⟨o, e, _⟩ := hl
    exact Heap.lt_size e
  have size1 : (grown w s).heap.objs.size = s.heap.objs.size + 1 := Heap.size_push ..
  have apart : l ≠ (grown w s).heap.objs.size := fun e => by
    rw [size1] at e
    exact absurd (e ▸ below) (Nat.not_lt.mpr (Nat.le_succ _))
  have notin : s.heap.objs.size ∉ [(grown w s).heap.objs.size, l] := by
    intro m
    rcases List.mem_cons.mp m with e | e
    · rw [size1] at e
      exact Nat.ne_of_lt (Nat.lt_succ_self _) e
    · exact Nat.ne_of_gt below (List.mem_singleton.mp e)
  have none1 : A.in1.handled = none := by simp [hh]
  have vals : ∀ (i : Nat) (v : Value), items[i]? = some v → RelV (kV (valK ns i)) v := fun i v hv => by
    have hi : i < ns.length := hsz ▸ (Array.getElem?_eq_some_iff.mp hv).1
    obtain ⟨x, hx, rx⟩ := valsK_at hit ((Array.getElem?_toList ..).trans hv)
    obtain ⟨k, hk, rfl⟩ := map_at hx
    unfold valK
    rw [List.getD_eq_getElem?_getD, hk]
    exact rx
  refine set_update_keys (Walks.toS (Walks.list none1 _ l apart items)) s.heap.objs.size notin (valK ns) vals (by rw [hsz]; exact hb) (items.size - 0) 0 _ (Nat.sub_zero _) (Nat.zero_le _) ⟨⟨_, Heap.get?_push_size _ rfl, rfl, rfl⟩, hl1.push _⟩ ?_ ?_
  · exact ⟨_, #[], 0, _, Heap.get?_push_of_some _ at0, ⟨rfl, rfl, rfl⟩, rfl, (fun e he => by simp at he), (fun k => by simp [disK]), (by decide), (by rfl), rfl⟩
  · intro u hm hS
    obtain ⟨g, g2, d, k, os⟩ := u
    obtain rfl : g2 = s.gens := hm.gens
    obtain rfl : d = s.drawn := hm.drawn
    obtain rfl : os = s.os := hm.os
    rw [hsz] at hS
    refine hR _ ⟨g, k, rfl, hS, fun b o e => ?_⟩
    have lt := Heap.lt_size e
    refine hm.heap b o (fun m => ?_) (Heap.get?_push_of_some _ (Heap.get?_push_of_some _ e))
    rcases List.mem_cons.mp m with z | z
    · exact Nat.ne_of_lt lt z
    · have z' := List.mem_singleton.mp z
      rw [size1] at z'
      exact Nat.ne_of_lt (Nat.lt_succ_of_lt lt) z'
set_option maxHeartbeats 8000000 in
theorem set_of_listK {l : Addr} {items : Array Value} {ns : List Key} {Q : Value → Shared → Prop} (hh : A.handled = none) (hl : s.heap.IsList l items) (hit : Vals (ns.map kV) items.toList) (hb : ns.length + 1 < scanBound) (q : ∀ u, LaidK P w s ns u → Q (.ref s.heap.objs.size) u) :
    wpAny (model P w) A (call (.type "set") [.ref l]) Q E s := by
  obtain ⟨cc, mtl, mro⟩ := F.called_set.mro
  have fmade := F.called_set.made
  have fsub := F.called_set.sub
  refine wpAny_call (codeAny_of_tree (show wpAny _ _ (callAny (.type "set") _) _ _ _ from ?_))
  refine wpAny_pure ⟨Code.quiet_builtin _ (by decide +kernel), codeAny_builtin F.entry_type_call ?_⟩
  rw [Around.under_plain (weight_type_call_type "set" [.ref l] []) rfl]
  have fnot := F.called_set.notType
  have fcan := F.called_set.canCreate
  have fcall := F.typeCall_set_1 (.ref l)
  repeat any_goals first | assumption | wp_step
  refine codeAny_mono (code_set_led1 (.ref l) (E := E) (Q₁ := fun ob u => ob = .ref s.heap.objs.size ∧ u = grown w s) ⟨rfl, rfl⟩) fun r u hr => ?_
  match r, hr with
  | .error _, hr => exact hr
  | .ok .next, hr => exact hr.elim
  | .ok .brk, hr => exact hr.elim
  | .ok .cont, hr => exact hr.elim
  | .ok (.ret ob), ⟨e1, e2⟩ =>
    subst e1 e2
    have ty : Shared.TypeIs (grown w s) (.ref s.heap.objs.size) "set" := ⟨_, nset_at _, rfl⟩
    have flook := F.called_set.init.lookup
    have fbind := F.called_set.init.bind (.ref s.heap.objs.size)
    repeat any_goals first | assumption | wp_step
    refine codeAny_mono (codeAny_call_builtin (R := wants (fun r u => r = Value.none ∧ LaidK P w s ns u) E) F.called_set.init.plain F.entry_set_init (check_set_init_1 ty ?_)) fun r u hr => ?_
    · obtain ⟨ol, hol, hcl, nl, hdl⟩ := id hl
      obtain ⟨ocls, odict, odata, oslots⟩ := ol
      obtain rfl : ocls = _ := hcl
      obtain rfl : odata = _ := hdl
      have here := Heap.get?_push_of_some (nset w) hol
      have sub1 := F.sub_list_set
      have sub2 := F.sub_list_frozenset
      have nodict : (Value.type "list" == Value.type "dict") = false := by decide
      unfold Builtin.«set.__init__» noKeywords Builtin.Frozenset.updateFrom
      generalize hp : pyIter = it
      unfold grown
      wp_walk
      subst hp
      refine wpAny_pyIter_list (hl.push _) (wpAny_bind (wpAny_runValue ?_))
      refine set_loopK (by simp [hh]) hl hit hb fun u hu => ?_
      refine wpAny_pure (show wpAny _ _ (ret Value.none) _ _ _ from wpAny_pure ⟨rfl, hu⟩)
    · match r, hr with
      | .error _, hr => exact hr
      | .ok .next, hr => exact hr.elim
      | .ok .brk, hr => exact hr.elim
      | .ok .cont, hr => exact hr.elim
      | .ok (.ret r), ⟨e1, hu⟩ =>
        subst e1
        repeat any_goals first | assumption | wp_step
        exact q _ hu
end
/-- set(xs), xs a list of numbers and texts -/
def cSetK (P : Program) (K : PySem.W.Frag) (w : World) : R1 := fun xs H Q => ∃ (l : Addr) (ks : List Key), xs = [.ref l] ∧ SqL K H l (ks.map kV) ∧ ks.length ≤ 3000 ∧
  ∀ (p : Addr), H p = none → Q (.ref p) (upd H p (SetK P w p (fun j => decide (j ∈ disK (valK ks) ks.length)) (disK (valK ks) ks.length).length))
theorem K_setK {X : Cx} {P : Program} {K : PySem.W.Frag} {w : World} (hP : X.prog = P) (hK : X.K = K) (hw : X.w = w) (hc : X.calm = true) : CallR X (.type "set") (cSetK P K w) := by
  subst hP hK hw
  intro pins s σ H xs us Q I r h
  obtain ⟨l, ks, rfl, hq, hb, q⟩ := h
  obtain ⟨u, rfl, ru⟩ := r.one
  cases ru
  obtain ⟨its, rv, pl, hz⟩ := I.list hq
  refine set_of_listK (I.ok.hd hc) pl.isList (ns := ks) (by simpa using rv) (Nat.lt_of_le_of_lt (Nat.succ_le_succ hb) (by decide)) fun u hu => ?_
  obtain ⟨g, k, rfl, hS, hk⟩ := hu
  exact ⟨.ref _, _, I.laid (t' := k) (o := SetK X.prog X.w s.heap.objs.size (fun j => decide (j ∈ disK (valK ks) ks.length)) (disK (valK ks) ks.length).length) hk (Nat.le_refl _) (setK_new hS), rfl, q _ (I.hok.fresh (Nat.le_refl _))⟩
def rLenSetK (P : Program) (w : World) : R1 := fun xs H Q => ∃ (a : Addr) (S : Key → Bool) (n : Nat), xs = [.ref a] ∧ H a = some (SetK P w a S n) ∧ n ≤ 1000000 ∧ Q (.int (n : Nat)) H
theorem K_lenSetK {X : Cx} {P : Program} {w : World} (hP : X.prog = P) (hw : X.w = w) : CallR X (.builtin "len") (rLenSetK P w) := by
  subst hP hw
  intro pins s σ H xs us Q I r h
  obtain ⟨a, S, n, rfl, ha, hn1, q⟩ := h
  obtain ⟨u, rfl, ru⟩ := r.one
  cases ru
  obtain ⟨o, es, ep, t, ho, hex, hd, hel, hmem, hb, hf, hn⟩ := setK_get I ha
  exact call_len_set ho hex hd hf (by omega) ⟨.int (n : Nat), H, I.tok _, ⟨_, by rw [hn]⟩, q⟩
/-- how many there are tells whether they all differ -/
theorem disK_nodup (val : Nat → Key) : ∀ i, (disK val i).length = i ↔ ((List.range i).map val).Nodup
  | 0 => by simp [disK]
  | i + 1 => by
    have ih := disK_nodup val i
    have hle := disK_le val i
    have mem : ∀ i x, x ∈ disK val i ↔ x ∈ (List.range i).map val := by
      intro i
      induction i with
      | zero => simp [disK]
      | succ i ihm =>
        intro x
        rw [List.range_succ, List.map_append, List.mem_append]
        show x ∈ (if val i ∈ disK val i then disK val i else disK val i ++ [val i]) ↔ _
        split
        · rename_i c
          rw [ihm]
          constructor
          · exact Or.inl
          · rintro (h | h)
            · exact h
            · rw [List.mem_singleton.mp h]
              exact (ihm _).mp c
        · rw [List.mem_append, ihm]
          rfl
    rw [List.range_succ, List.map_append, List.nodup_append]
    show (if val i ∈ disK val i then disK val i else disK val i ++ [val i]).length = i + 1 ↔ _
    by_cases c : val i ∈ disK val i
    · rw [if_pos c]
      refine ⟨fun h => by omega, fun h => ?_⟩
      exact absurd rfl (h.2.2 (val i) ((mem i _).mp c) (val i) (List.mem_singleton_self _))
    · rw [if_neg c, List.length_append]
      refine ⟨fun h => ⟨ih.mp (by simpa using h), by simp, fun x hx y hy e => ?_⟩, fun h => by rw [ih.mpr h.1]; rfl⟩
      rw [show y = val i from List.mem_singleton.mp hy] at e
      exact c ((mem i _).mpr (e ▸ hx))
end Rd

set_option maxHeartbeats 4000000
/-! Ob: objects of own classes (fields, methods, making), their `in`, len, ==; isinstance of data; text in text; walks over a list or a tuple. -/
namespace Rd
open PySem PySem.Spec L2 StX

def UseM (P : Program) (w : World) (K : PySem.W.Frag) (mg : Str → Option Value) (base : Heap) (n : Nat) (C : Addr) (m : Str) (sp : Sp) : Prop := ∃ f, FnR P w K mg base CX0 n f sp ∧ Meth K C m f
def UseC (P : Program) (w : World) (K : PySem.W.Frag) (mg : Str → Option Value) (base : Heap) (n : Nat) (x : Str) (C : Addr) (sp : Sp) : Prop := ∃ f, FnR P w K mg base CX0 n f sp ∧ Mk K C f ∧ mg x = some (.ref C)
theorem fnr {P : Program} {w : World} {K : PySem.W.Frag} {mg : Str → Option Value} {base : Heap} {n : Nat} {f : Addr} {fd : FuncData} {ps : List Str} {sp : Sp} (F : FnOk P w K mg base CX0 n f fd ps sp) (b : Binds K fd ps []) : FnR P w K mg base CX0 n f sp :=
  (F.raw b .nil).imp fun vs H Q E h => by
    rw [List.append_nil]
    exact h

section
variable {σ : St} {H : Hp} {Q : VK} {QB : Bool → Hp → Prop} {v x y : V} {ta tb tc tv : TE} {tr : TA} {K : PySem.W.Frag} {C a dx : Addr} {fs : List (Str × V)} {f m : Str} {nx bk ct : St → Hp → Prop} {rt : VK} {sp : Sp} {r r' : R2} {b : Bool}
/-! fields -/
def kFld (K : PySem.W.Frag) (f : Str) (Q : VK) : VK := fun x H1 => ∃ a C dx fs v, x = .ref a ∧ H1 a = some (.ins C dx fs) ∧ Cls K C ∧ NoAttr K C f ∧ fs.lookup f = some v ∧ Q v H1
theorem r_fld (q : ta σ H (kFld K f Q)) : tFld K ta f σ H Q := q
theorem r_kFld (e : H a = some (.ins C dx fs)) (c : Cls K C) (n : NoAttr K C f) (l : fs.lookup f = some v) (q : Q v H) : kFld K f Q (.ref a) H := ⟨a, C, dx, fs, v, rfl, e, c, n, l, q⟩
def kSF (K : PySem.W.Frag) (f : Str) (y : V) (nx : St → Hp → Prop) (σ : St) : VK := fun x H2 => ∃ a C dx fs, x = .ref a ∧ H2 a = some (.ins C dx fs) ∧ Cls K C ∧ NoAttr K C f ∧ fs.length < 1000 ∧ nx σ (upd H2 a (.ins C dx (putF f y fs)))
theorem r_sfld (q : tv σ H fun y H1 => ta σ H1 (kSF K f y nx σ)) : sFld K ta tv f ⟨nx, rt, bk, ct⟩ σ H := q
theorem r_kSF (e : H a = some (.ins C dx fs)) (c : Cls K C) (n : NoAttr K C f) (l : fs.length < 1000) (q : ∀ H', Kp [a] H H' → H' a = some (.ins C dx (putF f y fs)) → nx σ H') : kSF K f y nx σ (.ref a) H :=
  ⟨a, C, dx, fs, rfl, e, c, n, l, q _ (Kp.put (by simp)) upd_same⟩
/-! methods, making -/
def kMeth (C : Addr) (m : Str) (sp : Sp) (t : TA) (σ : St) (Q : VK) : VK := fun x H1 => ∃ a dx fs, x = .ref a ∧ H1 a = some (.ins C dx fs) ∧ fs.lookup m = none ∧ t σ H1 fun vs H2 => sp (x :: vs) H2 Q E0
theorem r_methR (q : ta σ H (kMeth C m sp tr σ Q)) : tMethR C m sp E0 ta tr σ H Q := q
theorem r_kMeth (e : H a = some (.ins C dx fs)) (l : fs.lookup m = none) (q : tr σ H fun vs H2 => sp (.ref a :: vs) H2 Q E0) : kMeth C m sp tr σ Q (.ref a) H := ⟨a, dx, fs, rfl, e, l, q⟩
def kMade (x : Addr) (Q : VK) : VK := fun v H2 => v = .non ∧ Q (.ref x) H2
theorem r_kMade {p : Addr} (q : Q (.ref p) H) : kMade p Q .non H := ⟨rfl, q⟩
def kMake (C : Addr) (sp : Sp) (Q : VK) : List V → Hp → Prop := fun vs H1 => ∀ x dx, H1 x = none → H1 dx = none → dx ≠ x → sp (.ref x :: vs) (upd (upd H1 dx (.own x)) x (.ins C dx [])) (kMade x Q) E0
theorem r_makeR (q : tr σ H (kMake C sp Q)) : tMakeR C sp E0 tr σ H Q := q
theorem r_kMake {vs : List V} (q : ∀ a dx H', H a = none → Kp [] H H' → H' a = some (.ins C dx []) → sp (.ref a :: vs) H' (kMade a Q) E0) : kMake C sp Q vs H := fun a dx n n' d =>
  q a dx _ n ((Kp.new n').trans (Kp.new (by rw [upd_ne d.symm]; exact n))) upd_same
/-! a op b op c -/
def kCh (r' : R2) (y : V) (tc : TE) (σ : St) (Q : VK) : VK := fun z H3 => ∃ k, z = .bl k ∧ (if k = true then tc σ H3 fun w' H4 => r' y w' H4 Q else Q (.bl false) H3)
theorem r_chain (q : ta σ H fun x H1 => tb σ H1 fun y H2 => r x y H2 (kCh r' y tc σ Q)) : tChain r r' ta tb tc σ H Q := q
theorem r_kCh (h1 : b = true → tc σ H fun w' H4 => r' y w' H4 Q) (h2 : b = false → Q (.bl false) H) : kCh r' y tc σ Q (.bl b) H := by
  refine ⟨b, rfl, ?_⟩
  cases b
  · exact h2 rfl
  · exact h1 rfl
/-! text in text -/
def rInS : R2 := fun x y H Q => ∃ i j, x = .str i ∧ y = .str j ∧ Q (.bl (!(Builtin.Str.occurrences j i 0 j.length 1).isEmpty)) H
def rNinS : R2 := fun x y H Q => ∃ i j, x = .str i ∧ y = .str j ∧ Q (.bl (!(!(Builtin.Str.occurrences j i 0 j.length 1).isEmpty))) H
theorem op_inS {X : Cx} : OpR X (compareOp .In) rInS := op_in_str
theorem op_ninS {X : Cx} : OpR X (compareOp .NotIn) rNinS := op_notin_str
theorem r_inC {c : Nat} {z : Str} (q : Q (.bl (decide (c ∈ z.cps.toList))) H) : rInS (.str ⟨#[c]⟩) (.str z) H Q := by
  refine ⟨_, _, rfl, rfl, ?_⟩
  have e := StrLaws.found_one z c
  rw [show (!(Builtin.Str.occurrences z ⟨#[c]⟩ 0 z.length 1).isEmpty) = decide (c ∈ z.cps.toList) from e]
  exact q
theorem r_ninC {c : Nat} {z : Str} (q : Q (.bl (!decide (c ∈ z.cps.toList))) H) : rNinS (.str ⟨#[c]⟩) (.str z) H Q := by
  refine ⟨_, _, rfl, rfl, ?_⟩
  have e := StrLaws.found_one z c
  rw [show (!(Builtin.Str.occurrences z ⟨#[c]⟩ 0 z.length 1).isEmpty) = decide (c ∈ z.cps.toList) from e]
  exact q
/-! in a tuple of texts; all of truth values -/
theorem r_inT {z : Str} {ws : List Str} {p : Addr} (h : SqT K H p (ws.map V.str)) (q : Q (.bl (decide (z ∈ ws))) H) : rIn K false (.str z) (.ref p) H Q := by
  refine ⟨p, _, rfl, .inr h, rfl, flat_strs ws, ?_⟩
  show Q (.bl (inV (.str z) (ws.map V.str))) H
  rw [inV_strs]
  exact q
theorem r_ninT {z : Str} {ws : List Str} {p : Addr} (h : SqT K H p (ws.map V.str)) (q : Q (.bl (!decide (z ∈ ws))) H) : rIn K true (.str z) (.ref p) H Q := by
  refine ⟨p, _, rfl, .inr h, rfl, flat_strs ws, ?_⟩
  show Q (.bl (!inV (.str z) (ws.map V.str))) H
  rw [inV_strs]
  exact q
theorem r_all {bs : List Bool} {p : Addr} (h : SqL K H p (bs.map V.bl)) (q : Q (.bl (bs.all id)) H) : rAll K [.ref p] H Q := ⟨p, bs, rfl, h, q⟩
theorem r_any {bs : List Bool} {p : Addr} (h : SqL K H p (bs.map V.bl)) (q : Q (.bl (bs.any id)) H) : rAny K [.ref p] H Q := ⟨p, bs, rfl, h, q⟩
/-! two tuples, one behind the other -/
theorem r_catT {a b : Addr} {xs ys : List V} (ha : SqT K H a xs) (hb : SqT K H b ys) (hz : xs.length + ys.length ≤ sizeLine) (hy : ys ≠ []) (hx : xs = [] → Q (.ref b) H) (q : xs ≠ [] → ∀ p H', H p = none → Kp [] H H' → H' p = some (.tup (xs ++ ys)) → Q (.ref p) H') : rCatA K (.ref a) (.ref b) H Q :=
  ⟨a, b, xs, ys, rfl, rfl, ha, hb, hz, hx, fun _ e => absurd e hy, fun hx _ p n => q hx p _ n (Kp.new n) upd_same⟩
/-- the sum of two tuples, the second one not empty: some tuple -/
theorem r_catT' {a b : Addr} {xs ys : List V} (ha : SqT K H a xs) (hb : H b = some (.tup ys)) (hz : xs.length + ys.length ≤ sizeLine) (hy : ys ≠ []) (q : ∀ p H', Kp [] H H' → H' p = some (.tup (xs ++ ys)) → (p = b ∨ H p = none) → Q (.ref p) H') : rCatA K (.ref a) (.ref b) H Q := by
  refine r_catT ha (SqT.of hb) hz hy (fun e => ?_) fun _ p H' n k e => q p H' k e (.inr n)
  subst e
  exact q b H (Kp.refl _ _) hb (.inl rfl)
end

/-! `in`, len by own defs -/
def kOwnB (neg : Bool) (Q : VK) : VK := fun z H' => ∃ b, z = .bl b ∧ Q (.bl (b != neg)) H'
def rInOwn (C : Addr) (sp : Sp) (neg : Bool) : R2 := fun x y H Q => ∃ a dx fs, y = .ref a ∧ H a = some (.ins C dx fs) ∧ sp [.ref a, x] H (kOwnB neg Q) E0
def kOwnI (Q : VK) : VK := fun z H' => ∃ n : Int, z = .int n ∧ 0 ≤ n ∧ n < 2 ^ 63 ∧ Q (.int n) H'
def cLenOwn (C : Addr) (sp : Sp) : R1 := fun xs H Q => ∃ a dx fs, xs = [.ref a] ∧ H a = some (.ins C dx fs) ∧ sp [.ref a] H (kOwnI Q) E0
/-- x == y, both of the class at C -/
def rEqOwn (C : Addr) (sp : Sp) : R2 := fun x y H Q => ∃ a dx fs b dy gs, x = .ref a ∧ y = .ref b ∧ H a = some (.ins C dx fs) ∧ H b = some (.ins C dy gs) ∧ sp [.ref a, .ref b] H (fun z H' => ∃ c, z = .bl c ∧ Q (.bl c) H') E0
section
variable {X : Cx} {n : Nat} {C f : Addr} {sp : Sp}
theorem op_inOwn (hm : Meth X.K C "__contains__" f) (F : FnR X.prog X.w X.K X.mg X.base CX0 n f sp) (hr : Room n X.A) : OpR X (compareOp .In) (rInOwn C sp false) := by
  intro pins s σ H x y v u Q I rx ry h
  obtain ⟨a, dx, fs, rfl, ea, q⟩ := h
  cases (show u = Value.ref a from ry)
  obtain ⟨mA, O, _⟩ := ins_get I.hok ea
  obtain ⟨od, J, _⟩ := O.look
  obtain ⟨m, hF⟩ := I.fr
  refine PySem.W.in_K hF I.ok.mod.kin J hm.at_ hm.fn (wpAny_mono (wpAny_call (run_fnR (us := [.ref a, v]) (vs := [.ref a, x]) F hr pass0 I (.cons rfl (.cons rx .nil)) q)) (fun r s' z => ?_) fun _ _ x => x)
  obtain ⟨z', H', I', rz, b, rfl, qz⟩ := z
  cases (show r = Value.bool b from rz)
  refine wpAny_truthy_bool ⟨.bl b, H', I', rfl, ?_⟩
  have e : (b != false) = b := by cases b <;> rfl
  rw [e] at qz
  exact qz
theorem op_ninOwn (hm : Meth X.K C "__contains__" f) (F : FnR X.prog X.w X.K X.mg X.base CX0 n f sp) (hr : Room n X.A) : OpR X (compareOp .NotIn) (rInOwn C sp true) := by
  intro pins s σ H x y v u Q I rx ry h
  obtain ⟨a, dx, fs, rfl, ea, q⟩ := h
  cases (show u = Value.ref a from ry)
  obtain ⟨mA, O, _⟩ := ins_get I.hok ea
  obtain ⟨od, J, _⟩ := O.look
  obtain ⟨m, hF⟩ := I.fr
  refine PySem.W.notIn_K hF I.ok.mod.kin J hm.at_ hm.fn (wpAny_mono (wpAny_call (run_fnR (us := [.ref a, v]) (vs := [.ref a, x]) F hr pass0 I (.cons rfl (.cons rx .nil)) q)) (fun r s' z => ?_) fun _ _ x => x)
  obtain ⟨z', H', I', rz, b, rfl, qz⟩ := z
  cases (show r = Value.bool b from rz)
  refine wpAny_truthy_bool ⟨.bl (!b), H', I', rfl, ?_⟩
  have e : (b != true) = !b := by cases b <;> rfl
  rw [e] at qz
  exact qz
theorem cr_lenOwn (hm : Meth X.K C "__len__" f) (F : FnR X.prog X.w X.K X.mg X.base CX0 n f sp) (hr : Room (n + 1) X.A) : CallR X (.builtin "len") (cLenOwn C sp) := by
  intro pins s σ H xs us Q I r h
  obtain ⟨a, dx, fs, rfl, ea, q⟩ := h
  obtain ⟨u, rfl, ru⟩ := r.one
  cases (show u = Value.ref a from ru)
  obtain ⟨mA, O, _⟩ := ins_get I.hok ea
  obtain ⟨od, J, _⟩ := O.look
  obtain ⟨m, hF⟩ := I.fr
  refine PySem.W.len_K hF I.ok.mod.kin J hm.at_ hm.fn (wpAny_call (codeAny_mono (F X.A.in1 X.stack s H [.ref a] [.ref a] _ E0 hr.in1 I.env0.in1 (.cons rfl .nil) q) fun r s' z => ?_))
  cases r with
  | error e => exact False.elim z
  | ok fl =>
    cases fl with
    | ret u =>
      obtain ⟨z', H', I', rz, k, rfl, k0, k1, qz⟩ := I.after z
      obtain ⟨t, e⟩ := (show ∃ t, u = Value.int k t from rz)
      cases e
      exact ⟨⟨k0, k1⟩, .int k, H', I'.tok _, ⟨_, rfl⟩, qz⟩
    | next => exact False.elim z
    | brk => exact False.elim z
    | cont => exact False.elim z
theorem op_eqOwn (hm : Meth X.K C "__eq__" f) (F : FnR X.prog X.w X.K X.mg X.base CX0 n f sp) (hr : Room n X.A) : OpR X (compareOp .Eq) (rEqOwn C sp) := by
  intro pins s σ H x y v u Q I rx ry h
  obtain ⟨a, dx, fs, b, dy, gs, rfl, rfl, ea, eb, q⟩ := h
  cases (show v = Value.ref a from rx)
  cases (show u = Value.ref b from ry)
  obtain ⟨mA, O, _⟩ := ins_get I.hok ea
  obtain ⟨od, J, _⟩ := O.look
  obtain ⟨mB, O', _⟩ := ins_get I.hok eb
  obtain ⟨od', J', _⟩ := O'.look
  obtain ⟨m, hF⟩ := I.fr
  have nf : PySem.W.notFirst X.K C (.ref C) = true := by
    unfold PySem.W.notFirst
    simp
  refine PySem.W.cmp_K (op := .Eq) (tb := .ref C) hr.units0 hF I.ok.mod.kin J J'.type nf hm.at_ hm.fn ?_
  refine wpAny_mono (wpAny_call (run_fnR (us := [.ref a, .ref b]) (vs := [.ref a, .ref b]) F hr pass0 I (.cons rfl (.cons rfl .nil)) q)) (fun r s' z => ?_) fun _ _ x => x
  obtain ⟨z', H', I', rz, c, rfl, qz⟩ := z
  cases (show r = Value.bool c from rz)
  exact ⟨.bl c, H', I', rfl, qz⟩
end
section
variable {H : Hp} {Q : VK} {C a dx : Addr} {fs : List (Str × V)} {sp : Sp} {x : V} {neg b : Bool}
theorem r_inOwn (e : H a = some (.ins C dx fs)) (q : sp [.ref a, x] H (kOwnB neg Q) E0) : rInOwn C sp neg x (.ref a) H Q := ⟨a, dx, fs, rfl, e, q⟩
theorem r_kOwnB (q : Q (.bl (b != neg)) H) : kOwnB neg Q (.bl b) H := ⟨b, rfl, q⟩
end

/-! data of any kind: its type -/
def tyD : PyData → String
  | .none => "NoneType"
  | .bool _ => "bool"
  | .int _ => "int"
  | .str _ => "str"
  | .list _ => "list"
  | .tuple _ => "tuple"
  | .dict _ => "dict"
theorem Dt.tyx {K : PySem.W.Frag} {ex : List Addr} {H : Hp} {v : V} {d : PyData} (h : Dt ex H v d) : TyX K H v (.type (tyD d)) := by
  cases h with
  | non => exact .base .non
  | bl b => exact .base (.bl b)
  | int i => exact .base (.int i)
  | str x => exact .base (.str x)
  | lst _ e _ => exact .base (.lst e)
  | tup _ e _ => exact .base (.tup e)
def isStr : PyData → Bool
  | .str _ => true
  | _ => false
def isTup : PyData → Bool
  | .tuple _ => true
  | _ => false
def isLst : PyData → Bool
  | .list _ => true
  | _ => false
def isInt : PyData → Bool
  | .int _ => true
  | .bool _ => true
  | _ => false
def isBool : PyData → Bool
  | .bool _ => true
  | _ => false
theorem kit_D {n : String} {f : PyData → Bool} {d : PyData} (b0 b1 b2 b3 b4 b5 b6 : Bool) (h0 : kitB "NoneType" n = some b0) (h1 : kitB "bool" n = some b1) (h2 : kitB "int" n = some b2) (h3 : kitB "str" n = some b3) (h4 : kitB "list" n = some b4) (h5 : kitB "tuple" n = some b5) (h6 : kitB "dict" n = some b6)
    (e0 : f .none = b0) (e1 : ∀ b, f (.bool b) = b1) (e2 : ∀ b, f (.int b) = b2) (e3 : ∀ b, f (.str b) = b3) (e4 : ∀ b, f (.list b) = b4) (e5 : ∀ b, f (.tuple b) = b5) (e6 : ∀ b, f (.dict b) = b6) : kitB (tyD d) n = some (f d) := by
  cases d with
  | none => rw [e0]; exact h0
  | bool b => rw [e1]; exact h1
  | int b => rw [e2]; exact h2
  | str b => rw [e3]; exact h3
  | list b => rw [e4]; exact h4
  | tuple b => rw [e5]; exact h5
  | dict b => rw [e6]; exact h6
theorem kit_str (d : PyData) : kitB (tyD d) "str" = some (isStr d) :=
  kit_D false false false true false false false (by decide +kernel) (by decide +kernel) (by decide +kernel) (by decide +kernel) (by decide +kernel) (by decide +kernel) (by decide +kernel) rfl (fun _ => rfl) (fun _ => rfl) (fun _ => rfl) (fun _ => rfl) (fun _ => rfl) (fun _ => rfl)
theorem kit_tup (d : PyData) : kitB (tyD d) "tuple" = some (isTup d) :=
  kit_D false false false false false true false (by decide +kernel) (by decide +kernel) (by decide +kernel) (by decide +kernel) (by decide +kernel) (by decide +kernel) (by decide +kernel) rfl (fun _ => rfl) (fun _ => rfl) (fun _ => rfl) (fun _ => rfl) (fun _ => rfl) (fun _ => rfl)
theorem kit_lst (d : PyData) : kitB (tyD d) "list" = some (isLst d) :=
  kit_D false false false false true false false (by decide +kernel) (by decide +kernel) (by decide +kernel) (by decide +kernel) (by decide +kernel) (by decide +kernel) (by decide +kernel) rfl (fun _ => rfl) (fun _ => rfl) (fun _ => rfl) (fun _ => rfl) (fun _ => rfl) (fun _ => rfl)
theorem kit_int (d : PyData) : kitB (tyD d) "int" = some (isInt d) :=
  kit_D false true true false false false false (by decide +kernel) (by decide +kernel) (by decide +kernel) (by decide +kernel) (by decide +kernel) (by decide +kernel) (by decide +kernel) rfl (fun _ => rfl) (fun _ => rfl) (fun _ => rfl) (fun _ => rfl) (fun _ => rfl) (fun _ => rfl)
theorem kit_bool (d : PyData) : kitB (tyD d) "bool" = some (isBool d) :=
  kit_D false true false false false false false (by decide +kernel) (by decide +kernel) (by decide +kernel) (by decide +kernel) (by decide +kernel) (by decide +kernel) (by decide +kernel) rfl (fun _ => rfl) (fun _ => rfl) (fun _ => rfl) (fun _ => rfl) (fun _ => rfl) (fun _ => rfl)
section
variable {K : PySem.W.Frag} {ex : List Addr} {H : Hp} {Q : VK} {x : V} {d : PyData} {tp : Addr}
theorem r_isiStr (h : Dt ex H x d) (q : Q (.bl (isStr d)) H) : rIsi K [x, .ty "str"] H Q := r_isiTy h.tyx (kit_str d) q
theorem r_isiTup (h : Dt ex H x d) (q : Q (.bl (isTup d)) H) : rIsi K [x, .ty "tuple"] H Q := r_isiTy h.tyx (kit_tup d) q
theorem r_isiLst (h : Dt ex H x d) (q : Q (.bl (isLst d)) H) : rIsi K [x, .ty "list"] H Q := r_isiTy h.tyx (kit_lst d) q
theorem r_isiInt (h : Dt ex H x d) (q : Q (.bl (isInt d)) H) : rIsi K [x, .ty "int"] H Q := r_isiTy h.tyx (kit_int d) q
theorem r_isiBool (h : Dt ex H x d) (q : Q (.bl (isBool d)) H) : rIsi K [x, .ty "bool"] H Q := r_isiTy h.tyx (kit_bool d) q
theorem r_isiLT (h : Dt ex H x d) (e : H tp = some (.tup [.ty "list", .ty "tuple"])) (q : Q (.bl (isLst d || isTup d)) H) : rIsiT K [x, .ref tp] H Q := by
  refine ⟨x, tp, _, _, _, _, rfl, e, .cons (.ty "list") (.cons (.ty "tuple") .nil), h.tyx, ?_, q⟩
  refine kitAny_cons (kit_ty (kit_lst d)) (fun c => ?_) fun c => by rw [c]; rfl
  rw [c]
  refine kitAny_cons (kit_ty (kit_tup d)) (fun c => ?_) fun c => by rw [c]; rfl
  rw [c]
  rfl
end
mutual
theorem Dt.skip' {ex : List Addr} {H : Hp} {a : Addr} {o : HO} (e : H a = some o) (n1 : ∀ xs, o ≠ .lst xs) (n2 : ∀ xs, o ≠ .tup xs) : ∀ (d : PyData) (v : V), Dt ex H v d → Dt (a :: ex) H v d
  | .none, _, h => by cases h; exact .non
  | .bool b, _, h => by cases h; exact .bl b
  | .int i, _, h => by cases h; exact .int i
  | .str x, _, h => by cases h; exact .str x
  | .list ds, _, h => by
    cases h with
    | lst m e' al => exact .lst (fun z => (List.mem_cons.mp z).elim (fun q => n1 _ (Option.some.inj ((q ▸ e).symm.trans e'))) m) e' (DtAll.skip' e n1 n2 ds _ al)
  | .tuple ds, _, h => by
    cases h with
    | tup m e' al => exact .tup (fun z => (List.mem_cons.mp z).elim (fun q => n2 _ (Option.some.inj ((q ▸ e).symm.trans e'))) m) e' (DtAll.skip' e n1 n2 ds _ al)
  | .dict _, _, h => by cases h
theorem DtAll.skip' {ex : List Addr} {H : Hp} {a : Addr} {o : HO} (e : H a = some o) (n1 : ∀ xs, o ≠ .lst xs) (n2 : ∀ xs, o ≠ .tup xs) : ∀ (ds : List PyData) (vs : List V), DtAll ex H vs ds → DtAll (a :: ex) H vs ds
  | [], _, h => by cases h; exact .nil
  | d :: ds, _, h => by
    cases h with
    | cons h1 h2 => exact .cons (Dt.skip' e n1 n2 d _ h1) (DtAll.skip' e n1 n2 ds _ h2)
end
/-- nothing of the data lies where an object of another kind stands -/
theorem Dt.skip {ex : List Addr} {H : Hp} {a : Addr} {o : HO} {v : V} {d : PyData} (h : Dt ex H v d) (e : H a = some o) (n1 : ∀ xs, o ≠ .lst xs) (n2 : ∀ xs, o ≠ .tup xs) : Dt (a :: ex) H v d := Dt.skip' e n1 n2 d v h
theorem DtAll.skip {ex : List Addr} {H : Hp} {a : Addr} {o : HO} {vs : List V} {ds : List PyData} (h : DtAll ex H vs ds) (e : H a = some o) (n1 : ∀ xs, o ≠ .lst xs) (n2 : ∀ xs, o ≠ .tup xs) : DtAll (a :: ex) H vs ds := DtAll.skip' e n1 n2 ds vs h

theorem pe_globE {X : Cx} {x : Str} {v : V} {pos : Pos} (h : ∃ u, X.mg x = some u ∧ RelV v u) (hg : Gl X x) (hd : (x == ("__debug__" : Str)) = false := by decide) : PE X (.Name x pos) (tC v) := by
  obtain ⟨u, hm, r⟩ := h
  exact pe_glob hg hm r hd
/-! for over a list or a tuple -/
section
variable {σ : St} {H : Hp} {K : PySem.W.Frag} {xs : List V} {p : Addr} {g : TG} {tb : TS} {nx bk ct : St → Hp → Prop} {rt : VK}
theorem r_kForQ (Pv : Nat → St → Hp → Prop) (hq : Sq K H p xs) (h0 : Pv 0 σ H) (hl : ∀ i σ H', i ≤ xs.length → Pv i σ H' → ∃ ex, p ∉ ex ∧ Kp ex H H')
    (hs : ∀ (i : Nat) x σ H, xs[i]? = some x → Pv i σ H → g x σ H fun σ2 H2 => tb ⟨Pv (i + 1), rt, nx, Pv (i + 1)⟩ σ2 H2) (hd : ∀ σ H, Pv xs.length σ H → nx σ H) : cWQ K (kFor g tb ⟨nx, rt, bk, ct⟩ σ) (.ref p) H := by
  rcases hq with h | h
  · exact r_cWQl h (r_kForL Pv h0 (fun i σ H' hi q => let ⟨_, m, k⟩ := hl i σ H' hi q; sql_kp h k m) hs hd)
  · exact r_cWQt h (r_kForT Pv h0 (fun i σ H' hi q => let ⟨_, m, k⟩ := hl i σ H' hi q; sqt_kp h k m) hs hd)
end
/-! displays of data -/
def ED (te : TE) (σ : St) (H : Hp) (d : PyData) : Prop := ∀ Q : VK, (∀ x H', Kp [] H H' → Dt [] H' x d → Q x H') → te σ H Q
def AD (tr : TA) (σ : St) (H : Hp) (ds : List PyData) : Prop := ∀ QA : List V → Hp → Prop, (∀ xs H', Kp [] H H' → DtAll [] H' xs ds → QA xs H') → tr σ H QA
section
variable {σ : St} {H : Hp} {Q : VK} {d : PyData} {ds : List PyData} {te : TE} {tr : TA} {v : V} {i : Nat}
theorem r_ED (h : ED te σ H d) (q : ∀ x H', Kp [] H H' → Dt [] H' x d → Q x H') : te σ H Q := h Q q
theorem ED_c (h : Dt [] H v d) : ED (tC v) σ H d := fun _ q => q v H (Kp.refl _ _) h
theorem ED_var (e : σ[i]? = some (some v)) (h : Dt [] H v d) : ED (tVar i) σ H d := fun _ q => ⟨v, e, q v H (Kp.refl _ _) h⟩
theorem AD_nil : AD tNil σ H [] := fun _ q => q [] H (Kp.refl _ _) .nil
theorem AD_cons (h : ED te σ H d) (hr : ∀ H1, Kp [] H H1 → AD tr σ H1 ds) : AD (tCons te tr) σ H (d :: ds) := fun _ q =>
  h _ fun x H1 k1 h1 => hr H1 k1 _ fun xs H2 k2 h2 => q (x :: xs) H2 (k1.trans k2) (.cons (h1.mono k2) h2)
theorem ED_tup (h : AD tr σ H ds) (hl : ds.length ≤ sizeLine) : ED (tTup tr) σ H (.tuple ds) := fun _ q =>
  h _ fun xs H1 k1 h1 => ⟨h1.length ▸ hl, fun p n => q (.ref p) _ (k1.trans (Kp.new n)) (.tup not_nil upd_same (h1.mono (Kp.new n)))⟩
theorem ED_lst (h : AD tr σ H ds) (hl : ds.length ≤ sizeLine) : ED (tLst tr) σ H (.list ds) := fun _ q =>
  h _ fun xs H1 k1 h1 => ⟨h1.length ▸ hl, fun p n => q (.ref p) _ (k1.trans (Kp.new n)) (.lst not_nil upd_same (h1.mono (Kp.new n)))⟩
theorem r_neB {a b : Bool} (q : Q (.bl (!decide (a = b))) H) : rNe (.bl a) (.bl b) H Q := by
  refine ⟨rfl, ?_⟩
  have e : decide (V.bl a = V.bl b) = decide (a = b) := by cases a <;> cases b <;> rfl
  rw [e]
  exact q
theorem r_eqB {a b : Bool} (q : Q (.bl (decide (a = b))) H) : rEq (.bl a) (.bl b) H Q := by
  refine ⟨rfl, ?_⟩
  have e : decide (V.bl a = V.bl b) = decide (a = b) := by cases a <;> cases b <;> rfl
  rw [e]
  exact q
theorem idx_in {i : Int} {n : Nat} (h0 : 0 ≤ i) (h1 : i < n) : seqIndex? i n = some i.toNat := by
  unfold seqIndex?
  have e : ¬ i < 0 := by omega
  simp [e, h0, h1]
theorem r_popAt {l : Addr} {xs : List V} {i : Int} {y : V} (e : H l = some (.lst xs)) (h0 : 0 ≤ i) (h1 : i < (xs.length : Int)) (h2 : xs.length < 2 ^ 62) (hy : xs[i.toNat]? = some y) (q : ∀ H', Kp [l] H H' → H' l = some (.lst (xs.eraseIdx i.toNat)) → Q y H') : rPopAt (.ref l) [.int i] H Q :=
  ⟨l, xs, i, i.toNat, y, rfl, rfl, e, by omega, by omega, idx_in h0 h1, hy, q _ (Kp.put (by simp)) upd_same⟩
theorem r_cat {l b : Addr} {xs zs : List V} (e : H l = some (.lst xs)) (e' : H b = some (.lst zs)) (hz : xs.length + zs.length ≤ sizeLine) (q : ∀ p H', H p = none → Kp [] H H' → H' p = some (.lst (xs ++ zs)) → Q (.ref p) H') : rCat (.ref l) (.ref b) H Q :=
  ⟨l, b, xs, zs, rfl, rfl, e, e', hz, fun p n => q p _ n (Kp.new n) upd_same⟩
end
end Rd

set_option maxHeartbeats 4000000
/-! SetTx: sets that can be walked; sets of texts: added to, their length, sorted. -/
namespace Rd
open PySem PySem.Spec PyProof.Rows L2
open PySem.W (EachIs AllAlike Sortable alike dataLe)
section
variable {P : Program} {w : World} {A : Around} {E : Value → Shared → Prop} {s : Shared} {a : Addr}
/-- a set whose table can be walked -/
def Wlk (w : World) (h : Heap) (a : Addr) (es : Array (Int × Value)) : Prop := ∃ o ep t, h.get? a = some o ∧ o.ExactSet ∧ o.data = .set es ep t ∧ es.size < scanBound ∧ t.fits es.size = true ∧ Ris t.place.toList ∧ (w.params.followText "set-order" = true ∨ t.led = true)
theorem each_perm {β : Type} {R : Value → β → Prop} {us vs : List Value} (p : us.Perm vs) : ∀ {bs : List β}, EachIs R vs bs → ∃ cs, EachIs R us cs ∧ cs.Perm bs := by
  induction p with
  | nil =>
    intro bs h
    exact ⟨bs, h, .refl _⟩
  | cons x _ ih =>
    intro bs h
    cases h with
    | cons r t =>
      obtain ⟨cs, e, q⟩ := ih t
      exact ⟨_ :: cs, .cons r e, q.cons _⟩
  | swap x y l =>
    intro bs h
    cases h with
    | cons r t =>
      cases t with
      | cons r2 t2 => exact ⟨_, .cons r2 (.cons r t2), .swap _ _ _⟩
  | trans _ _ ih1 ih2 =>
    intro bs h
    obtain ⟨cs, e, q⟩ := ih2 h
    obtain ⟨ds, e2, q2⟩ := ih1 e
    exact ⟨ds, e2, q2.trans q⟩
/-- sorted(a set), its items read as data of one kind -/
theorem sorted_wlk {β : Type} {enc : β → PyData} {R : Value → β → Prop} {es : Array (Int × Value)} {bs : List β} {Q : Value → Shared → Prop} (W : Wlk w s.heap a es) (hh : A.handled = none) (e : EachIs R (es.toList.map (·.2)) bs)
    (rd : ∀ h' v b, (∀ c o, s.heap.get? c = some o → h'.get? c = some o) → R v b → b ∈ bs → Reads h' v (enc b) [])
    (hal : ∀ b ∈ bs, ∀ b' ∈ bs, alike (enc b) (enc b') = true) (hk : (∀ b ∈ bs, ∃ x r, enc b = .tuple (x :: r)) ∨ (∀ b ∈ bs, enc b ≠ .none ∧ ∀ xs, enc b ≠ .tuple xs)) (hu : ∀ b ∈ bs, A.units + 8 + (enc b).depth < cLine)
    (hQ : ∀ s' p (out : List Value) (c : Nat) (cs : List β), (∀ b o, s.heap.get? b = some o → s'.heap.get? b = some o) → s'.gens = s.gens → s'.os = s.os → s.heap.objs.size ≤ p → s'.heap.get? p = some (seqObj "list" out.toArray c) → cs.Perm bs →
      EachIs R out (cs.mergeSort (dataLe false enc)) → Q (.ref p) s') :
    wpAny (model P w) A (call (.builtin "sorted") [.ref a]) Q E s := by
  obtain ⟨o, ep, t, ho, hex, hd, hb, hf, hr, hl⟩ := W
  refine Calls.call_function_entry kind_sorted plain_sorted entry_sorted (args_sorted1 _) ?_
  unfold Builtin.«sorted»
  refine wpAny_bind (m := checkCount "sorted" 1 1 _) (wpAny_pure ?_)
  refine wpAny_bind (collect_set (A := A.in1) hh ⟨o, ho, hex.1, hd⟩ hf hb hr hl fun s1 vs k1 hz g1 o1 pm => ?_)
  obtain ⟨cs, ec, pc⟩ := each_perm pm e
  have hvl : vs.length ≤ sizeLine := by
    rw [pm.length_eq, List.length_map, Array.length_toList]
    exact Nat.le_of_lt (Nat.lt_of_lt_of_le hb (by decide))
  refine wpAny_bind (wpAny_newList ?_ (by first | exact hvl | simpa using hvl))
  have new : (s1.heap.push (seqObj "list" vs.toArray 0)).get? s1.heap.objs.size = some (seqObj "list" vs.toArray 0) := Heap.get?_push_size _ rfl
  have er : EachIs (fun v b => ∃ as, Reads (s1.heap.push (seqObj "list" vs.toArray 0)) v (enc b) as ∧ s1.heap.objs.size ∉ as) vs cs := (PySem.W.each_mem ec).mono fun v b ⟨r, m⟩ => ⟨[], rd _ v b (fun c u z => Heap.get?_push_of_some _ (k1 c u z)) r (pc.mem_iff.mp m), nofun⟩
  refine wpAny_bind (wpAny_holding (PySem.W.list_sort_data (s := { s1 with heap := s1.heap.push (seqObj "list" vs.toArray 0) }) new ec er (fun d hd d' hd' => ?_) ?_ (by rw [← ec.length]; exact hvl) (fun b m => ?_) fun out h1 h2 => ?_))
  · obtain ⟨b, mb, rfl⟩ := List.mem_map.mp hd
    obtain ⟨b', mb', rfl⟩ := List.mem_map.mp hd'
    exact hal b (pc.mem_iff.mp mb) b' (pc.mem_iff.mp mb')
  · refine hk.imp (fun z d hd => ?_) (fun z d hd => ?_)
    all_goals
      obtain ⟨b, mb, rfl⟩ := List.mem_map.mp hd
      exact z b (pc.mem_iff.mp mb)
  · have := hu b (pc.mem_iff.mp m)
    have h1 : A.in1.units ≤ A.units + 1 := by first | exact Nat.le_refl _ | simp
    omega
  · obtain ⟨c, hc⟩ := sortedHeap_at (vs := vs) (out := out.toArray) new
    refine wpAny_pure ⟨_, rfl, hQ _ s1.heap.objs.size out c cs (fun b u z => ?_) g1 o1 hz hc pc h2⟩
    have q := k1 b u z
    have hlt := Heap.lt_size q
    show (sortedHeap (s1.heap.push (seqObj "list" vs.toArray 0)) s1.heap.objs.size vs out.toArray).get? b = some u
    rw [sortedHeap_old (Nat.ne_of_lt hlt) (by rw [size_push']; exact Nat.lt_succ_of_lt hlt)]
    exact Heap.get?_push_of_some _ q
end

/-! ### sets of texts -/
def kyS (e : Int × Value) : Str := match e.2 with
  | .str k _ => k
  | _ => Str.empty
def GoodS (w : World) (e : Int × Value) : Prop := ∃ k tk, e.2 = Value.str k tk ∧ e.1 = hashStr w k
/-- the set at a has just these texts -/
def SetTx (w : World) (h : Heap) (a : Addr) (ks : List Str) : Prop := ∃ es : Array (Int × Value), Wlk w h a es ∧ (∀ e ∈ es.toList, GoodS w e) ∧ (es.toList.map kyS).Perm ks ∧ ks.Nodup
def addK (ks : List Str) (k : Str) : List Str := if k ∈ ks then ks else ks ++ [k]
section
variable {P : Program} {w : World} {A : Around} {E : Value → Shared → Prop} {s : Shared} {a : Addr} {ks : List Str}
theorem SetTx.size {h : Heap} {es : Array (Int × Value)} (p : (es.toList.map kyS).Perm ks) : es.size = ks.length := by
  rw [← p.length_eq, List.length_map, Array.length_toList]
theorem SetTx.at {h h' : Heap} (R : SetTx w h a ks) (k : ∀ o, h.get? a = some o → h'.get? a = some o) : SetTx w h' a ks := by
  obtain ⟨es, ⟨o, ep, t, ho, r⟩, q⟩ := R
  exact ⟨es, ⟨o, ep, t, k o ho, r⟩, q⟩
theorem goodS_elems {l : List (Int × Value)} (g : ∀ e ∈ l, GoodS w e) : ElemsOf (strKind P w) l := fun e he => by
  obtain ⟨k, tk, h1, h2⟩ := g e he
  exact ⟨⟨k, by rw [h1]; exact strKind_is P w k tk, h2⟩, by rw [h1] <;> rfl⟩
theorem goodS_is {e : Int × Value} (g : GoodS w e) (k : Str) : (strKind P w).is k e.2 = true ↔ kyS e = k := by
  obtain ⟨k0, tk, h1, _⟩ := g
  unfold kyS
  rw [h1]
  constructor
  · intro h
    obtain ⟨tk', e'⟩ := Value.isStrOf_shape (x := k) (v := .str k0 tk) h
    cases e'
    rfl
  · intro h
    have h : k0 = k := h
    rw [h]
    exact strKind_is P w k tk
theorem tx_tail {g : Bool → Sem Unit} (hg : ∀ (b : Bool) (s₁ : Shared) (Q' : Unit → Shared → Prop), Q' () s₁ → wpAny (model P w) A (g b) Q' E s₁)
    {o : Obj} {es : Array (Int × Value)} {ep : Nat} {t : SetTable} (ho : s.heap.get? a = some o) (hex : o.ExactSet) (hd : o.data = .set es ep t)
    {es1 : Array (Int × Value)} {t2 : SetTable} (g1 : ∀ e ∈ es1.toList, GoodS w e) (p1 : (es1.toList.map kyS).Perm ks) (nd : ks.Nodup)
    (hb1 : es1.size < scanBound) (hf2 : t2.fits es1.size = true) (hr : Ris t2.place.toList) (hl : w.params.followText "set-order" = true ∨ t2.led = true) {wasDummy : Bool} {R : Option Bool → Shared → Prop}
    (hR : ∀ h', Heap.SameBut a s.heap h' → SetTx w h' a ks → R (some true) { s with heap := h' }) :
    wpAny (model P w) A (do
        storeSet a es1 t2
        if (!wasDummy && t2.tooFull) = true then do
            g (relayAll t2 es1 (SetTable.grown es1.size)).2.2
            storeSet a (relayAll t2 es1 (SetTable.grown es1.size)).1 (relayAll t2 es1 (SetTable.grown es1.size)).2.1
            pure (some true)
          else pure (some true)) R E s := by
  refine wpAny_bind (wpAny_storeSet_of ho hd ?_ (fits_of_scanBound hb1))
  have ho1 := store_at (es' := es1) (t' := t2) ho hd
  have sb1 := Heap.SameBut.update s.heap a (Obj.putSet es1 t2)
  split
  · have pm := relayAll_perm t2 es1 (SetTable.grown es1.size)
    have hf3 := relayAll_fits t2 es1 (SetTable.grown es1.size)
    have hr3 := relayAll_ris t2 es1 (SetTable.grown es1.size)
    have hl3 := relayAll_led t2 es1 (SetTable.grown es1.size)
    generalize relayAll t2 es1 (SetTable.grown es1.size) = Z at pm hf3 hr3 hl3 ⊢
    obtain ⟨es2, t3, gave⟩ := Z
    dsimp only at pm hf3 hr3 hl3 ⊢
    have hsz : es2.size = es1.size := by rw [← Array.length_toList, pm.length_eq, Array.length_toList]
    have hb2 : es2.size < scanBound := hsz ▸ hb1
    refine wpAny_bind (hg _ _ _ (wpAny_bind (wpAny_storeSet_of ho1 rfl ?_ (fits_of_scanBound hb2))))
    have ho2 := store_at (es' := es2) (t' := t3) ho1 rfl
    exact wpAny_pure (hR _ (sb1.trans (Heap.SameBut.update _ a _)) ⟨es2, ⟨_, _, t3, ho2, hex, rfl, hb2, hf3, hr3, hl.imp id fun z => hl3.trans z⟩, fun e he => g1 e (pm.mem_iff.mp he), (pm.map kyS).trans p1, nd⟩)
  · exact wpAny_pure (hR _ sb1 ⟨es1, ⟨_, _, t2, ho1, hex, rfl, hb1, hf2, hr, hl⟩, g1, p1, nd⟩)
theorem tx_hashed {k : Str} {tk : Tok} {Q : Bool → Shared → Prop} (R : SetTx w s.heap a ks) (room : ks.length + 1 < scanBound)
    (hQ : ∀ b h', Heap.SameBut a s.heap h' → SetTx w h' a (addK ks k) → Q b { s with heap := h' }) :
    wpAny (model P w) A (setAddHashed a (.str k tk) ((strKind P w).hash k)) Q E s := by
  obtain ⟨es, ⟨o, ep, t, ho, hex, hd, hb, hf, hr, hl⟩, g, pk0, nd⟩ := R
  have hkey : (strKind P w).is k (.str k tk) = true := strKind_is P w k tk
  have hsc : (Value.str k tk).scannable = true := rfl
  have hel : ElemsOf (strKind P w) es.toList := goodS_elems g
  unfold setAddHashed setAddHashedIn
  refine wpAny_holding (wpAny_bind (wpAny_setState_of ho hd hf ?_))
  dsimp only
  rw [byScan_of hsc hb hel]
  simp only [↓reduceIte]
  unfold setAddByScan
  refine wpAny_bind (wpAny_bind (wpAny_rule (wpAny_bind (wpAny_setScan_of hkey ho hd hf hel ?_))))
  cases hfi : List.findIdx? (fun e => (strKind P w).is k e.2) es.toList with
  | some j =>
    dsimp only
    obtain ⟨hj, pj, _⟩ := List.findIdx?_eq_some_iff_getElem.mp hfi
    have hm : k ∈ ks := pk0.mem_iff.mp (List.mem_map.mpr ⟨es.toList[j], List.getElem_mem hj, (goodS_is (g _ (List.getElem_mem hj)) k).1 pj⟩)
    refine wpAny_pure (wpAny_pure (hQ _ s.heap (Heap.SameBut.refl a s.heap) ?_))
    unfold addK
    rw [if_pos hm]
    exact ⟨es, ⟨o, ep, t, ho, hex, hd, hb, hf, hr, hl⟩, g, pk0, nd⟩
  | none =>
    dsimp only
    have hnk : k ∉ ks := fun z => by
      obtain ⟨e, he, q⟩ := List.mem_map.mp (pk0.mem_iff.mpr z)
      have c := List.findIdx?_eq_none_iff.mp hfi e he
      rw [(goodS_is (P := P) (g e he) k).2 q] at c
      cases c
    have hgw : ∀ (b : Bool) {s₁ : Shared} {Q' : Unit → Shared → Prop}, Q' () s₁ → wpAny (model P w) A (match b with | true => rule "set.scan.the-table-gave-way" | false => pure ()) Q' E s₁ :=
      fun b s₁ Q' q => by cases b <;> first | exact wpAny_pure q | exact wpAny_rule q
    have pm := layNew_perm t es ((strKind P w).hash k) (.str k tk)
    have hf1 := layNew_fits t es ((strKind P w).hash k) (.str k tk)
    have hr1 := layNew_ris t es ((strKind P w).hash k) (.str k tk) hr
    have hl1 := layNew_led t es ((strKind P w).hash k) (.str k tk)
    generalize layNew t es ((strKind P w).hash k) (.str k tk) = Z at pm hf1 hr1 hl1 ⊢
    obtain ⟨es1, t1, wasDummy, gave⟩ := Z
    dsimp only at pm hf1 hr1 hl1 ⊢
    rw [Array.toList_push] at pm
    have g1 : ∀ e ∈ es1.toList, GoodS w e := fun e he => by
      rcases List.mem_append.mp (pm.mem_iff.mp he) with z | z
      · exact g e z
      · rw [List.mem_singleton.mp z]
        exact ⟨k, tk, rfl, rfl⟩
    have ea : addK ks k = ks ++ [k] := if_neg hnk
    have p1 : (es1.toList.map kyS).Perm (addK ks k) := by
      rw [ea]
      refine (pm.map kyS).trans ?_
      rw [List.map_append]
      exact pk0.append_right [k]
    have nd1 : (addK ks k).Nodup := by
      rw [ea]
      exact List.nodup_append.mpr ⟨nd, by simp, fun x hx y hy e => hnk (by rw [← List.mem_singleton.mp hy, ← e]; exact hx)⟩
    have hb1 : es1.size < scanBound := by
      rw [SetTx.size (h := s.heap) p1, ea, List.length_append]
      exact room
    have hled : w.params.followText "set-order" = true ∨ t1.led = true := hl.imp id fun z => hl1.trans z
    refine wpAny_bind (hgw _ ?_)
    split
    · refine wpAny_bind ?_
      rw [hashByValue_scannable 8 hsc]
      refine wpAny_pure ?_
      refine tx_tail ?_ ho hex hd g1 p1 nd1 hb1 ?_ ?_ ?_ ?_
      · intro b s₁ Q' q
        cases b <;> first | exact wpAny_pure q | exact wpAny_rule q
      · first | (split <;> first | exact hf1 | exact SetTable.fits_plain_off hf1) | exact hf1
      · first | (split <;> exact hr1) | exact hr1
      · first | (split <;> exact hled) | exact hled
      · intro h' sb r
        dsimp only
        exact wpAny_pure (hQ _ h' sb r)
    · refine wpAny_bind (wpAny_pure ?_)
      simp only [↓reduceIte]
      refine tx_tail ?_ ho hex hd g1 p1 nd1 hb1 hf1 hr1 hled ?_
      · intro b s₁ Q' q
        cases b <;> first | exact wpAny_pure q | exact wpAny_rule q
      · intro h' sb r
        dsimp only
        exact wpAny_pure (hQ _ h' sb r)
theorem SetTx.typeIs (R : SetTx w s.heap a ks) : s.TypeIs (.ref a) "set" := by
  obtain ⟨es, ⟨o, ep, t, ho, hex, _⟩, _⟩ := R
  exact ⟨o, ho, hex.1⟩
theorem tx_add {k : Str} {tk : Tok} {Q : Value → Shared → Prop} (R : SetTx w s.heap a ks) (room : ks.length + 1 < scanBound)
    (hQ : ∀ h', Heap.SameBut a s.heap h' → SetTx w h' a (addK ks k) → Q .none { s with heap := h', toks := s.toks + 1 }) :
    wpAny (model P w) A (call (.builtin "set.add") [.ref a, .str k tk]) Q E s := by
  refine wpAny_call_entry F.slot_set_add R.typeIs F.entry_set_add ?_ (F.args_set_add_2 _ _)
  unfold Builtin.«set.add» Builtin.Frozenset.oneOther
  simp only [List.isEmpty_nil, bind_assoc]
  unfold Builtin.Frozenset.addrOf setAdd
  refine wpAny_bind (wpAny_pure ?_)
  try dsimp only
  refine wpAny_bind (wpAny_pure ?_)
  try dsimp only
  refine wpAny_bind (wpAny_holding (wpAny_bind ((strKind P w).pyHash (strKind_is P w k tk) ?_)))
  refine tx_hashed (s := { s with toks := s.toks + 1 }) R room fun b h' sb r => ?_
  show wpAny _ _ (ret Value.none) _ _ _
  exact wpAny_pure ⟨_, rfl, hQ h' sb r⟩
theorem tx_fresh {h : Heap} (w : World) : SetTx w (h.push { cls := .type "set", dict := none, data := .set #[] 0 (.fresh 0 0 (!w.params.followText "set-order")) }) h.objs.size [] := by
  refine ⟨#[], ⟨_, 0, _, Heap.get?_push_size _ rfl, ⟨rfl, rfl, rfl⟩, rfl, by decide, rfl, List.Pairwise.nil, ?_⟩, fun e he => by simp at he, .refl _, List.nodup_nil⟩
  show _ ∨ (!w.params.followText "set-order") = true
  cases w.params.followText "set-order"
  · exact .inr rfl
  · exact .inl rfl
end
/-! as tracked things -/
def TxO (w : World) (a : Addr) (ks : List Str) : HO := .ext fun h => SetTx w h a ks
section
variable {X : Cx}
theorem txO_new {w : World} {P : Program} {H : Hp} {h : Heap} {a : Addr} {ks : List Str} (R : SetTx w h a ks) : ObjOk P w H h a (TxO w a ks) := by
  have ⟨es, ⟨o, ep, t, ho, _⟩, _⟩ := R
  exact ⟨R, ⟨o, ho⟩, fun h1 h2 p k => SetTx.at p k⟩
theorem txO_get {pins : List (Addr × Obj)} {σ : L2.St} {H : Hp} {s : Shared} {a : Addr} {ks : List Str} (I : Inv X pins σ H s) (ha : H a = some (TxO X.w a ks)) : SetTx X.w s.heap a ks := (I.hok a _ ha).1
/-- the set comprehension's step -/
theorem addTx_ok {pins : List (Addr × Obj)} {σ : L2.St} {H : Hp} {s : Shared} {D : Addr} {ks : List Str} {y : Str} {v : Value} {E : Value → Shared → Prop} {Q : Value → Shared → Prop} (I : Inv X pins σ H s) (hD : H D = some (TxO X.w D ks)) (hz : ks.length + 1 < scanBound) (r : RelV (.str y) v)
    (h : ∀ s', Inv X pins σ (upd H D (TxO X.w D (addK ks y))) s' → Q .none s') : wpAny (model X.prog X.w) X.A (call (.builtin "set.add") [.ref D, v]) Q E s := by
  obtain ⟨tk, rfl⟩ := r
  refine tx_add (txO_get I hD) hz fun h' sb new => h _ ?_
  have he : ∃ u, h'.get? D = some u := by
    obtain ⟨es, ⟨o, ep, t, ho, _⟩, _⟩ := new
    exact ⟨o, ho⟩
  exact I.write (e := D) (t' := s.toks + 1) (by rw [hD]; trivial) (.inl rfl) (fun b u hb hu => (sb.2 b hb).trans hu) he (txO_new new)
/-- len(a set of texts) -/
def rLenTx (w : World) : R1 := fun xs H Q => ∃ (a : Addr) (ks : List Str), xs = [.ref a] ∧ H a = some (TxO w a ks) ∧ Q (.int (ks.length : Nat)) H
theorem K_lenTx {w : World} (hw : X.w = w) : CallR X (.builtin "len") (rLenTx w) := by
  subst hw
  intro pins s σ H xs us Q I r h
  obtain ⟨a, ks, rfl, ha, q⟩ := h
  obtain ⟨u, rfl, ru⟩ := r.one
  cases ru
  obtain ⟨es, ⟨o, ep, t, ho, hex, hd, hb, hf, _⟩, _, pm, _⟩ := txO_get I ha
  have h2 : scanBound ≤ 2 ^ 40 := by decide
  exact call_len_set ho hex hd hf (by omega) ⟨.int (ks.length : Nat), H, I.tok _, ⟨_, by rw [SetTx.size (h := s.heap) pm]⟩, q⟩
/-- sorted(a set of texts) -/
def srtT (ks : List Str) : List Str := ks.mergeSort (dataLe false PyData.str)
theorem srtT_perm (ks : List Str) : (srtT ks).Perm ks := List.mergeSort_perm _ _
def rSortTx (w : World) : R1 := fun xs H Q => ∃ (a : Addr) (ks : List Str), xs = [.ref a] ∧ H a = some (TxO w a ks) ∧ ∀ (cs : List Str) p, cs.Perm ks → ks.Nodup → H p = none → Q (.ref p) (upd H p (.lst ((srtT cs).map V.str)))
theorem K_sortTx {w : World} (hw : X.w = w) (hc : X.calm = true) (hu : X.A.units + 64 < cLine) : CallR X (.builtin "sorted") (rSortTx w) := by
  subst hw
  intro pins s σ H xs us Q I r h
  obtain ⟨a, ks, rfl, ha, q⟩ := h
  rw [Vals.ref1 r]
  obtain ⟨es, W, g, pm, nd⟩ := txO_get I ha
  have each : ∀ l : List (Int × Value), (∀ e ∈ l, GoodS X.w e) → EachIs (fun u k => RelV (.str k) u) (l.map (·.2)) (l.map kyS) := by
    intro l
    induction l with
    | nil => exact fun _ => .nil
    | cons e l ih =>
      intro g
      refine .cons ?_ (ih fun e' m => g e' (List.mem_cons_of_mem _ m))
      obtain ⟨k, tk, e1, _⟩ := g e List.mem_cons_self
      refine ⟨tk, ?_⟩
      show e.2 = Value.str (kyS e) tk
      unfold kyS
      rw [e1]
  refine sorted_wlk (enc := PyData.str) W (I.ok.hd hc) (each _ g) (fun h' v b _ r _ => ?_) (fun _ _ _ _ => rfl) (.inr fun b _ => ⟨nofun, nofun⟩) (fun b _ => ?_) fun s' p out c cs k g1 o1 hp hg pc ho => ?_
  · obtain ⟨tk, rfl⟩ := r
    exact .str _ _
  · show X.A.units + 8 + 0 < cLine
    omega
  have hlen : ((srtT cs).map V.str).length ≤ sizeLine := by
    rw [List.length_map, (srtT_perm cs).length_eq, (pc.trans pm).length_eq, ← SetTx.size (h := s.heap) pm]
    obtain ⟨_, _, _, _, _, _, hb, _⟩ := W
    exact Nat.le_of_lt (Nat.lt_of_lt_of_le hb (by decide))
  have hv : Vals ((srtT cs).map V.str) out := by
    have go : ∀ {us : List Value} {bs : List Str}, EachIs (fun u k => RelV (.str k) u) us bs → Vals (bs.map V.str) us := by
      intro us bs h
      induction h with
      | nil => exact .nil
      | cons r _ ih => exact .cons r ih
    exact go ho
  have hn : H p = none := I.hok.fresh hp
  have J : Inv X pins σ (upd H p (.lst ((srtT cs).map V.str))) { s with heap := s'.heap, gens := s'.gens, drawn := s'.drawn, toks := s'.toks } :=
    I.call (ch := []) (Un.laid k hp hn) (I.hok.laid k hp ⟨hlen, out, c, hv, hg⟩) (by rw [g1]; exact I.bare) (fun _ z => nomatch z)
  have e : s' = { s with heap := s'.heap, gens := s'.gens, drawn := s'.drawn, toks := s'.toks } := by
    cases s'
    cases s
    cases o1
    rfl
  rw [e]
  exact ⟨.ref p, _, J, rfl, q cs p (pc.trans pm) nd hn⟩
end
end Rd

set_option maxHeartbeats 4000000
/-! DatS: sorted of data, < of data, max(ints, default=d). -/
namespace Rd
open PySem PySem.Spec L2 StX
open PySem.W (AllAlike Sortable dataLe dataLt alike EachIs)
/-- the sorted data -/
def srtD (ds : List PyData) : List PyData := ds.mergeSort (dataLe false id)
theorem srtD_perm (ds : List PyData) : (srtD ds).Perm ds := List.mergeSort_perm _ _
theorem srtD_pw (ds : List PyData) : (srtD ds).Pairwise fun a b => dataLt b a = false := by
  have h := PySem.W.sort_pairwise (PySem.W.sortLe_total (PyProof.Rows.listOrd PyProof.Rows.itemOrd) false fun b : PyData => PySem.W.keyToks (id b)) ds
  refine List.Pairwise.imp (fun {a b} z => ?_) h
  have z' : (!dataLt (id b) (id a)) = true := z
  simpa using z'
def rSortedD (K : PySem.W.Frag) : List V → Hp → VK → Prop := fun vs H Q => ∃ (a : Addr) (bs : List (V × PyData)), vs = [.ref a] ∧ SqL K H a (bs.map Prod.fst) ∧ (∀ b ∈ bs, Dp K H b.1 b.2) ∧ AllAlike (bs.map Prod.snd) ∧ Sortable (bs.map Prod.snd) ∧ bs.length ≤ sizeLine ∧ (∀ b ∈ bs, b.2.depth ≤ 60) ∧
  ∀ p, H p = none → Q (.ref p) (upd H p (.lst ((bs.mergeSort (dataLe false Prod.snd)).map Prod.fst)))
theorem each_pairs {K : PySem.W.Frag} {R : Value → V × PyData → Prop} : ∀ {bs : List (V × PyData)} {us : List Value}, Vals (bs.map Prod.fst) us → (∀ b ∈ bs, ∀ u, RelV b.1 u → R u b) → EachIs R us bs
  | [], _, h, _ => by
    cases h
    exact .nil
  | b :: bs, _, h, g => by
    cases h with
    | cons r t => exact .cons (g b List.mem_cons_self _ r) (each_pairs (K := K) t fun b' m => g b' (List.mem_cons_of_mem _ m))
theorem each_vals : ∀ {us : List Value} {bs : List (V × PyData)}, EachIs (fun u b => RelV b.1 u) us bs → Vals (bs.map Prod.fst) us
  | _, _, .nil => .nil
  | _, _, .cons h t => .cons h (each_vals t)
section
variable {X : Cx}
theorem cr_sortedD (hu : X.A.units + 64 < cLine) : CallR X (.builtin "sorted") (rSortedD X.K) := by
  intro pins s σ H vs us Q I r h
  obtain ⟨a, bs, rfl, hs, hd, hal, hk, hl, hdep, q⟩ := h
  obtain ⟨its, rv, hp, _⟩ := I.list hs
  rw [Vals.ref1 r]
  refine PySem.W.sorted_data (R := fun u b => RelV b.1 u) (enc := Prod.snd) hp.isList (each_pairs (K := X.K) rv fun b _ u z => z) (each_pairs (K := X.K) rv fun b m u z => Dp.reads I b.2 b.1 u (hd b m) z) hal hk hl (fun b m => by
    have := hdep b m
    omega) fun out h1 h2 => ?_
  obtain ⟨ep, he'⟩ := PyProof.Rows.sortedAll_at s.heap its (List.toArray out)
  have hlen : ((bs.mergeSort (dataLe false Prod.snd)).map Prod.fst).length ≤ sizeLine := by
    rw [List.length_map, List.length_mergeSort]
    exact hl
  exact ⟨.ref _, upd H (s.heap.objs.size + 1) (.lst ((bs.mergeSort (dataLe false Prod.snd)).map Prod.fst)), I.laid (t' := s.toks) (fun _ _ => PyProof.Rows.sortedAll_old) (Nat.le_succ _) ⟨hlen, _, ep, by exact each_vals h2, he'⟩, rfl, q _ (I.hok.fresh (Nat.le_succ _))⟩
theorem K_sortedD {K : PySem.W.Frag} (hK : X.K = K) (hu : X.A.units + 64 < cLine) : CallR X (.builtin "sorted") (rSortedD K) := by
  subst hK
  exact cr_sortedD hu
def rLtD (K : PySem.W.Frag) : R2 := fun x y H Q => ∃ d e, Dp K H x d ∧ Dp K H y e ∧ alike d e = true ∧ d ≠ .none ∧ d.depth ≤ 60 ∧ Q (.bl (dataLt d e)) H
theorem op_ltD (hu : X.A.units + 64 < cLine) : OpR X (compareOp .Lt) (rLtD X.K) := by
  intro pins s σ H x y v u Q I rx ry h
  obtain ⟨d, e, hd, he, al, hn, dep, q⟩ := h
  obtain ⟨as, r1⟩ := Dp.reads I d x v hd rx
  obtain ⟨bs, r2⟩ := Dp.reads I e y u he ry
  exact PySem.W.rcLt_alike d e X.A s v u as bs r1 r2 al hn (by have := Nat.min_le_left d.depth e.depth; omega) _ _ _ _ ⟨.bl (dataLt d e), H, I, rfl, q⟩
theorem K_ltD {K : PySem.W.Frag} (hK : X.K = K) (hu : X.A.units + 64 < cLine) : OpR X (compareOp .Lt) (rLtD K) := by
  subst hK
  exact op_ltD hu
/-- max(ints, default=d) -/
def rMaxDf (K : PySem.W.Frag) : List V → List V → Hp → VK → Prop := fun vs zs H Q => ∃ (a : Addr) (ns : List Int) (d : Int), vs = [V.ref a] ∧ zs = [V.int d] ∧ SqL K H a (ns.map V.int) ∧ (ns = [] → Q (.int d) H) ∧ ∀ n r, ns = n :: r → Q (.int (r.foldl max n)) H
theorem reads_ints {h : Heap} : ∀ {ns : List Int} {us : List Value}, Vals (ns.map V.int) us → ∃ as, ReadsAll h us (ns.map PyData.int) as
  | [], _, r => by
    cases r
    exact ⟨_, .nil⟩
  | n :: ns, _, r => by
    cases r with
    | cons r1 r2 =>
      obtain ⟨t, rfl⟩ := r1
      obtain ⟨as, q⟩ := reads_ints (h := h) r2
      exact ⟨_, .cons (.int _ _) q⟩
theorem depth_ints : ∀ ns : List Int, PyData.depthAll (ns.map PyData.int) = 0
  | [] => rfl
  | n :: ns => by
    show max (PyData.int n).depth (PyData.depthAll (ns.map PyData.int)) = 0
    rw [depth_ints ns]
    rfl
theorem cr_maxDf (hu : X.A.units + 64 < cLine) (hc : X.calm = true) : CallRK X (.builtin "max") [Str.ofString "default"] (rMaxDf X.K) := by
  intro pins s σ H xs zs us ws Q I r1 r2 h
  obtain ⟨a, ns, d, rfl, rfl, hs, q0, q⟩ := h
  obtain ⟨its, rv, hp, _⟩ := I.list hs
  rw [Vals.ref1 r1]
  obtain ⟨wd, rfl, rd⟩ := r2.one
  obtain ⟨as, hr⟩ := reads_ints (h := s.heap) rv
  refine PySem.W.max_list_default (l := a) (vs := its.toArray) (xs := ns.map PyData.int) (as := as) (I.ok.hd hc) hp.isList hr ?_ (by rw [depth_ints]; omega) (fun e h' tk hk => ?_) fun y ys i v h' tk bs e _ rd' hk => ?_
  · refine ⟨fun x m y m' => ?_, fun x m => ?_⟩
    · obtain ⟨x', _, rfl⟩ := List.mem_map.mp m
      obtain ⟨y', _, rfl⟩ := List.mem_map.mp m'
      rfl
    · obtain ⟨x', _, rfl⟩ := List.mem_map.mp m
      exact fun z => nomatch z
  · exact ⟨.int d, H, I.kept hk, rd, q0 (List.map_eq_nil_iff.mp e)⟩
  · cases ns with
    | nil => cases e
    | cons n ns =>
      cases e
      rw [PySem.W.maxD_ints] at rd'
      cases rd' with
      | int _ t => exact ⟨.int _, H, I.kept hk, ⟨t, rfl⟩, q n ns rfl⟩
theorem K_maxDf {K : PySem.W.Frag} (hK : X.K = K) (hu : X.A.units + 64 < cLine) (hc : X.calm = true) : CallRK X (.builtin "max") [Str.ofString "default"] (rMaxDf K) := by
  subst hK
  exact cr_maxDf hu hc
end
section
variable {K : PySem.W.Frag} {H : Hp} {Q : VK} {p : Addr} {xs : List V} {ds : List PyData} {ex ex' : List Addr} {x y : V} {d e : PyData} {σ : St} {ns : List Int} {i : Int}
theorem zip_fst : ∀ {xs : List V} {ds : List PyData}, DtAll ex H xs ds → (xs.zip ds).map Prod.fst = xs ∧ (xs.zip ds).map Prod.snd = ds ∧ ∀ b ∈ xs.zip ds, Dt ex H b.1 b.2
  | _, _, h => by
    match h with
    | .nil => exact ⟨rfl, rfl, fun b m => nomatch m⟩
    | .cons h0 h1 =>
      obtain ⟨e1, e2, e3⟩ := zip_fst h1
      refine ⟨?_, ?_, fun b m => ?_⟩
      · rw [List.zip_cons_cons, List.map_cons, e1]
      · rw [List.zip_cons_cons, List.map_cons, e2]
      · rw [List.zip_cons_cons] at m
        rcases List.mem_cons.mp m with rfl | m
        · exact h0
        · exact e3 b m
theorem dtAll_of {bs : List (V × PyData)} (h : ∀ b ∈ bs, Dt ex H b.1 b.2) : DtAll ex H (bs.map Prod.fst) (bs.map Prod.snd) := by
  induction bs with
  | nil => exact .nil
  | cons b bs ih => exact .cons (h b List.mem_cons_self) (ih fun b' m => h b' (List.mem_cons_of_mem _ m))
theorem r_sortedD (hq : SqL K H p xs) (hd : DtAll ex H xs ds) (hal : AllAlike ds) (hk : Sortable ds) (hl : ds.length ≤ sizeLine) (hdep : ∀ d ∈ ds, d.depth ≤ 60)
    (q : ∀ l ys H', H l = none → Kp [] H H' → H' l = some (.lst ys) → DtAll ex H ys (srtD ds) → Q (.ref l) H') : rSortedD K [.ref p] H Q := by
  obtain ⟨e1, e2, e3⟩ := zip_fst hd
  have hlen : (xs.zip ds).length = ds.length := by
    rw [← e2, List.length_map]
    rw [e2]
  refine ⟨p, xs.zip ds, rfl, by rw [e1]; exact hq, fun b m => (e3 b m).dp, by rw [e2]; exact hal, by rw [e2]; exact hk, by rw [hlen]; exact hl, fun b m => hdep _ (by rw [← e2]; exact List.mem_map.mpr ⟨b, m, rfl⟩), fun l n => ?_⟩
  refine q l _ _ n (Kp.new n) upd_same ?_
  have es : ((xs.zip ds).mergeSort (dataLe false Prod.snd)).map Prod.snd = srtD ds := by
    have := PySem.W.sort_maps (r := dataLe false Prod.snd) (s := dataLe false id) Prod.snd (l := xs.zip ds) (fun a _ b _ => rfl)
    rw [this, e2]
    rfl
  rw [← es]
  exact dtAll_of fun b m => e3 b ((List.mergeSort_perm _ _).mem_iff.mp m)
theorem r_ltD (hx : Dt ex H x d) (hy : Dt ex' H y e) (al : alike d e = true) (hn : d ≠ .none) (dep : d.depth ≤ 60) (q : Q (.bl (dataLt d e)) H) : rLtD K x y H Q := ⟨d, e, hx.dp, hy.dp, al, hn, dep, q⟩
def kKw1 (r : List V → List V → Hp → VK → Prop) (tk : TA) (σ : St) (Q : VK) : List V → Hp → Prop := fun vs H1 => tk σ H1 fun zs H2 => r vs zs H2 Q
def kKw2 (r : List V → List V → Hp → VK → Prop) (vs : List V) (Q : VK) : List V → Hp → Prop := fun zs H2 => r vs zs H2 Q
theorem r_ckw {r : List V → List V → Hp → VK → Prop} {t tk : TA} (q : t σ H (kKw1 r tk σ Q)) : tCKw r t tk σ H Q := q
theorem r_kKw1 {r : List V → List V → Hp → VK → Prop} {tk : TA} {vs : List V} (q : tk σ H (kKw2 r vs Q)) : kKw1 r tk σ Q vs H := q
theorem r_kKw2 {r : List V → List V → Hp → VK → Prop} {vs zs : List V} (q : r vs zs H Q) : kKw2 r vs Q zs H := q
theorem r_maxDf (hs : SqL K H p (ns.map V.int)) (q0 : ns = [] → Q (.int i) H) (q : ∀ n r, ns = n :: r → Q (.int (r.foldl max n)) H) : rMaxDf K [.ref p] [.int i] H Q := ⟨p, ns, i, rfl, rfl, hs, q0, q⟩
end
end Rd

set_option maxHeartbeats 4000000
/-! Cm: d.items() as a view, sorted(d.items()) of a dict from texts to numbers; dict(pairs); d[k] as a target; x(*y) where an object is made. -/
namespace Rd
open PySem PySem.Spec L2 StX PyProof.Rows
open PySem.W (AllAlike Sortable dataLe dataLt alike EachIs)
/-! ### a dict from texts to numbers, its pairs -/
def ndK (nds : List (Str × Int)) : List (Key × V) := nds.map fun q => (Sum.inr q.1, V.int q.2)
def ndD (q : Str × Int) : PyData := .tuple [.str q.1, .int q.2]
def srtN (nds : List (Str × Int)) : List (Str × Int) := nds.mergeSort (dataLe false ndD)
theorem srtN_perm (nds : List (Str × Int)) : (srtN nds).Perm nds := List.mergeSort_perm _ _
theorem ndD_alike (a b : Str × Int) : alike (ndD a) (ndD b) = true := rfl
theorem ndD_sortable {β : Type} (f : β → Str × Int) (bs : List β) : Sortable (bs.map fun b => ndD (f b)) := Sortable.tuples fun b => ⟨_, _, rfl⟩
theorem ndD_all {β : Type} (f : β → Str × Int) (bs : List β) : AllAlike (bs.map fun b => ndD (f b)) := AllAlike.of fun a b => ndD_alike (f a) (f b)
theorem srtD_nds (nds : List (Str × Int)) : srtD (nds.map ndD) = (srtN nds).map ndD :=
  (PySem.W.sort_maps (r := dataLe false ndD) (s := dataLe false id) ndD (l := nds) (fun _ _ _ _ => rfl)).symm
def rItemsK : V → List V → Hp → VK → Prop := fun x xs H Q => ∃ (a : Addr) (kvs : List (Key × V)), x = .ref a ∧ xs = [] ∧ H a = some (.dK kvs) ∧ ∀ p, H p = none → Q (.ref p) (upd H p (DX.itemsO p a))
def rSortN : List V → Hp → VK → Prop := fun vs H Q => ∃ (p a : Addr) (nds : List (Str × Int)), vs = [.ref p] ∧ H p = some (DX.itemsO p a) ∧ H a = some (.dK (ndK nds)) ∧
  ∀ (H' : Hp) (l : Addr) (ts : List Addr), (∀ b o, H b = some o → H' b = some o) → H l = none → H' l = some (.lst (ts.map V.ref)) → (∀ t ∈ ts, H t = none) → Paired (fun t q => H' t = some (.tup [.str q.1, .int q.2])) ts (srtN nds) → Q (.ref l) H'
theorem paired_maps {α β γ : Type} {R : β → γ → Prop} {f : α → β} {g : α → γ} : ∀ {l : List α}, (∀ x ∈ l, R (f x) (g x)) → Paired R (l.map f) (l.map g)
  | [], _ => .nil
  | x :: l, h => .cons (h x List.mem_cons_self) (paired_maps (l := l) fun y m => h y (List.mem_cons_of_mem _ m))
theorem each_of_maps {α : Type} {R : Value → α → Prop} {f : α → Value} : ∀ {l : List α}, (∀ x ∈ l, R (f x) x) → EachIs R (l.map f) l
  | [], _ => .nil
  | x :: l, h => .cons (h x List.mem_cons_self) (each_of_maps (l := l) fun y m => h y (List.mem_cons_of_mem _ m))
theorem vals_of_maps {α : Type} (f : α → V) (g : α → Value) (h : ∀ x, RelV (f x) (g x)) : ∀ l : List α, Vals (l.map f) (l.map g)
  | [] => .nil
  | x :: l => .cons (h x) (vals_of_maps f g h l)
theorem each_maps_of {α : Type} {f : α → Value} : ∀ {us : List Value} {l : List α}, EachIs (fun u x => u = f x) us l → us = l.map f
  | _, _, .nil => rfl
  | _, _, .cons h t => by rw [h, each_maps_of t]; rfl
section
variable {X : Cx}
theorem mt_itemsK : MtR X "dict.items" rItemsK := by
  intro pins s σ H x xs v us Q I rx rxs h
  obtain ⟨a, kvs, rfl, rfl, ha, q⟩ := h
  cases rx
  cases rxs
  obtain ⟨hz, hs0, vs, kv, hdo⟩ := I.hok a _ ha
  obtain ⟨es, ep, raw, _, _⟩ := Heap.DictOf.raw hdo
  refine DT.callItems (es := es) (ep := ep) hs0 raw ?_
  have hf : H s.heap.objs.size = none := I.hok.fresh (Nat.le_refl _)
  exact ⟨.ref s.heap.objs.size, upd H s.heap.objs.size (DX.itemsO s.heap.objs.size a), I.laid (t' := s.toks) (fun b u e => Heap.get?_push_of_some _ e) (Nat.le_refl _) (DX.itemsO_ok (Heap.get?_push_size _ rfl)), rfl, q _ hf⟩
theorem cr_sortN (hc : X.calm = true) (hu : X.A.units + 64 < cLine) : CallR X (.builtin "sorted") rSortN := by
  intro pins s σ H xs us Q I r h
  obtain ⟨p, a, nds, rfl, hp, ha, q⟩ := h
  obtain rfl := Vals.ref1 r
  have view : s.heap.IsItemsView p a := (show ObjOk X.prog X.w H s.heap p (DX.itemsO p a) from I.hok p _ hp).1
  obtain ⟨hz, hs0, vs, kv, hdo⟩ := I.hok a _ ha
  obtain ⟨es, ep, raw, hes, hat⟩ := Heap.DictOf.raw hdo
  have l0 : (ndK nds).length = nds.length := List.length_map _
  have l1 : (ndK nds).length = vs.length := Paired.length kv
  have hh : X.A.handled = none := I.ok.hd hc
  refine DT.sortedI (es := es) (ep := ep) hh view raw (by omega) fun h' tk as hk hlt hl hG => ?_
  have lak : as.length = nds.length := by omega
  have nd : as.Nodup := List.Pairwise.imp (fun h => Nat.ne_of_lt h) hG.rise
  -- the pairs that were made
  have pr : ∀ (j : Nat) (b : Addr), as[j]? = some b → ∃ (e : Str × Int) (t u : Tok), nds[j]? = some e ∧ h'.get? b = some { cls := .type "tuple", data := .seq #[Value.str e.1 t, Value.int e.2 u] } := by
    intro j b hj
    obtain ⟨en, he, hg⟩ := hG.pairs j b hj
    have hj' : j < es.size := (Array.getElem?_eq_some_iff.mp he).1
    have hjn : j < nds.length := by omega
    have hv : vs[j]? = some vs[j] := List.getElem?_eq_getElem (by omega)
    obtain ⟨k1, k2⟩ := hat j hj' vs[j].1 vs[j].2 hv
    have een : es[j] = en := by
      rw [Array.getElem?_eq_getElem hj'] at he
      exact Option.some.inj he
    rw [een] at k1 k2
    have hnk : (ndK nds)[j]? = some (Sum.inr nds[j].1, V.int nds[j].2) := by
      unfold ndK
      rw [List.getElem?_map, List.getElem?_eq_getElem hjn]
      rfl
    obtain ⟨v', hv', r1, r2⟩ := LiI.paired_get kv hnk
    have ev : v' = vs[j] := Option.some.inj (hv'.symm.trans hv)
    rw [ev] at r1 r2
    rw [← r1] at k1
    obtain ⟨t, et⟩ : ∃ t, en.key = Value.str nds[j].1 t := relV_key (k := Sum.inr nds[j].1) k1
    obtain ⟨u, eu⟩ := (show ∃ u, vs[j].2 = Value.int nds[j].2 u from r2)
    refine ⟨nds[j], t, u, List.getElem?_eq_getElem hjn, ?_⟩
    rw [hg, et, k2, eu]
  -- the heap of the sort
  have hob : (h'.push { cls := .type "list", data := .seq (as.map Value.ref).toArray }).get? h'.objs.size = some (seqObj "list" (as.map Value.ref).toArray 0) := Heap.get?_push_size _ rfl
  have kb : ∀ b o, s.heap.get? b = some o → (h'.push { cls := .type "list", data := .seq (as.map Value.ref).toArray }).get? b = some o := fun b o e => Heap.get?_push_of_some _ (hk b o e)
  have ne0 : ∀ b o, h'.get? b = some o → b ≠ h'.objs.size := fun b o e => Nat.ne_of_lt (Heap.lt_size e)
  generalize hh2 : h'.push { cls := .type "list", data := .seq (as.map Value.ref).toArray } = h2 at hob kb ⊢
  have ka : ∀ b o, h'.get? b = some o → h2.get? b = some o := fun b o e => by rw [← hh2]; exact Heap.get?_push_of_some _ e
  have zf : (as.zip nds).map (fun z => Value.ref z.1) = as.map Value.ref := by
    have : (as.zip nds).map (fun z => Value.ref z.1) = ((as.zip nds).map Prod.fst).map Value.ref := (List.map_map ..).symm
    rw [this, List.map_fst_zip (by omega)]
  have zat : ∀ z ∈ as.zip nds, ∃ (j : Nat) (t u : Tok), as[j]? = some z.1 ∧ nds[j]? = some z.2 ∧ h'.get? z.1 = some { cls := .type "tuple", data := .seq #[Value.str z.2.1 t, Value.int z.2.2 u] } := by
    intro z hz'
    obtain ⟨j, hj⟩ := List.mem_iff_getElem?.mp hz'
    obtain ⟨j1, j2⟩ := List.getElem?_zip_eq_some.mp hj
    obtain ⟨e, t, u, he, hg⟩ := pr j z.1 j1
    have ee : e = z.2 := Option.some.inj (he.symm.trans j2)
    rw [ee] at hg
    exact ⟨j, t, u, j1, j2, hg⟩
  refine PySem.W.list_sort_data (s := { s with heap := h2, toks := tk }) (vs := as.map Value.ref) (bs := as.zip nds) (R := fun v z => v = Value.ref z.1) (enc := fun z => ndD z.2) hob ?_ ?_ (ndD_all Prod.snd _) (ndD_sortable Prod.snd _) (by rw [List.length_zip]; omega) (fun b _ => ?_) fun out o1 o2 => ?_
  · rw [← zf]
    exact each_of_maps fun z _ => rfl
  · rw [← zf]
    refine each_of_maps fun z hz' => ?_
    obtain ⟨j, t, u, j1, j2, hg⟩ := zat z hz'
    exact ⟨_, .tuple (ka _ _ hg) rfl rfl (.cons (.str _ _) (.cons (.int _ _) .nil)), fun m => nomatch m⟩
  · show X.A.in1.units + 1 + 1 < cLine
    have : X.A.in1.units = X.A.units + 1 := rfl
    omega
  · show EP X pins σ Q (.ref h'.objs.size) { s with heap := sortedHeap h2 h'.objs.size (as.map Value.ref) (List.toArray out), toks := tk }
    have eout : out = ((as.zip nds).mergeSort (dataLe false fun z => ndD z.2)).map fun z => Value.ref z.1 := each_maps_of o2
    generalize hzs : (as.zip nds).mergeSort (dataLe false fun z => ndD z.2) = zs at eout
    have pz : zs.Perm (as.zip nds) := hzs ▸ List.mergeSort_perm _ _
    have ez : zs.map Prod.snd = srtN nds := by
      rw [← hzs]
      have := PySem.W.sort_maps (r := dataLe false fun z : Addr × Str × Int => ndD z.2) (s := dataLe false ndD) Prod.snd (l := as.zip nds) (fun _ _ _ _ => rfl)
      rw [this, List.map_snd_zip (by omega)]
      rfl
    have kF : ∀ b o, b ≠ h'.objs.size → h2.get? b = some o → (sortedHeap h2 h'.objs.size (as.map Value.ref) (List.toArray out)).get? b = some o := fun b o hb e => (PyProof.Rows.sortedHeap_old hb (Heap.lt_size e)).trans e
    have kS : ∀ b o, s.heap.get? b = some o → (sortedHeap h2 h'.objs.size (as.map Value.ref) (List.toArray out)).get? b = some o := fun b o e => kF b o (ne0 _ _ (hk b o e)) (kb b o e)
    obtain ⟨eF, heF⟩ := PyProof.Rows.sortedHeap_at (vs := as.map Value.ref) (out := List.toArray out) hob
    have I1 : Inv X pins σ H { s with heap := sortedHeap h2 h'.objs.size (as.map Value.ref) (List.toArray out), toks := tk } := I.kept (t' := tk) kS
    have hn0 : H h'.objs.size = none := I.hok.fresh (Nat.le_of_lt hlt)
    have lz : zs.length = nds.length := by
      have := congrArg List.length ez
      rw [List.length_map] at this
      rw [this, (srtN_perm nds).length_eq]
    have hlen : (zs.map fun z => V.ref z.1).length ≤ sizeLine := by
      rw [List.length_map]
      omega
    have rv : Vals (zs.map fun z => V.ref z.1) out := by
      rw [eout]
      exact vals_of_maps (fun z : Addr × Str × Int => V.ref z.1) (fun z => Value.ref z.1) (fun _ => rfl) zs
    have I2 : Inv X pins σ (upd H h'.objs.size (.lst (zs.map fun z => V.ref z.1))) { s with heap := sortedHeap h2 h'.objs.size (as.map Value.ref) (List.toArray out), toks := tk } :=
      I1.take (h' := sortedHeap h2 h'.objs.size (as.map Value.ref) (List.toArray out)) (t' := tk) (fun b ob _ e => e) (I.fpOk (Nat.le_of_lt hlt) hn0) ⟨hlen, out, eF, rv, heF⟩
    obtain ⟨H2, I3, g, qt⟩ := DX.takeT (P := fun b ws => ∃ (j : Nat) (e : Str × Int), as[j]? = some b ∧ nds[j]? = some e ∧ ws = [.str e.1, .int e.2]) I as _ I2 nd fun b hb => by
      obtain ⟨j, hj⟩ := List.mem_iff_getElem?.mp hb
      obtain ⟨e, t, u, he, hg⟩ := pr j b hj
      have hbl : s.heap.objs.size ≤ b := Nat.le_of_lt (hG.above b hb)
      refine ⟨hbl, ?_, [.str e.1, .int e.2], ⟨j, e, hj, he, rfl⟩, fun H3 => ⟨(by show 2 ≤ sizeLine; decide), [Value.str e.1 t, Value.int e.2 u], .cons ⟨_, rfl⟩ (.cons ⟨_, rfl⟩ .nil), ⟨_, kF _ _ (ne0 _ _ hg) (ka _ _ hg), rfl, 0, rfl⟩⟩⟩
      rw [upd_ne (ne0 _ _ hg)]
      exact I.hok.fresh hbl
    have gr : ∀ b o, H b = some o → H2 b = some o := fun b o e => g b o (by rw [upd_ne (ne_of_none e hn0)]; exact e)
    refine ⟨.ref h'.objs.size, H2, I3, rfl, q H2 h'.objs.size (zs.map Prod.fst) gr hn0 ?_ (fun t ht => ?_) ?_⟩
    · have := g _ _ (upd_same (H := H) (a := h'.objs.size) (o := .lst (zs.map fun z => V.ref z.1)))
      rw [this, List.map_map]
      rfl
    · obtain ⟨z, hz', rfl⟩ := List.mem_map.mp ht
      obtain ⟨j, t, u, j1, j2, hg⟩ := zat z (pz.mem_iff.mp hz')
      exact I.hok.fresh (Nat.le_of_lt (hG.above _ (List.mem_of_getElem? j1)))
    · rw [← ez]
      refine paired_maps fun z hz' => ?_
      obtain ⟨i, _, _, i1, i2, _⟩ := zat z (pz.mem_iff.mp hz')
      obtain ⟨ws, ⟨j, e, j1, j2, ev⟩, hH⟩ := qt z.1 (List.mem_of_getElem? i1)
      have eij : i = j := (List.getElem?_inj (List.getElem?_eq_some_iff.mp i1).1 nd).mp (i1.trans j1.symm)
      subst eij
      have ee : e = z.2 := Option.some.inj (j2.symm.trans i2)
      rw [ev, ee] at hH
      exact hH
end
end Rd

set_option maxHeartbeats 4000000
/-! EnT: enumerate(tuple); for over enumerate of a list or a tuple. -/
namespace PySem
theorem enum_new1 {v : Value} {o : Obj} {Hh : Heap → Prop} (B : Begins v o Hh) : Meets (Builtin.«enumerate.__new__» ⟨[.type "enumerate", v], []⟩) (fun _ R s => Hh s.heap ∧
    R (.ok (.ret (.ref (s.heap.push o).objs.size))) { s with heap := (s.heap.push o).push { cls := .type "enumerate", data := .fields #[.none, .bool false, .ref s.heap.objs.size, rawInt 0, .none, .none] } }) :=
  .of_wp fun prog w A R s hB => by
    obtain ⟨hp, g, d, tk, os⟩ := s
    obtain ⟨h1, hB⟩ := hB
    have esub := sub_enumerate
    have start : ∀ {A' : Around} {E : Value → Shared → Prop} {Q : Value → Shared → Prop}, Q (.ref hp.objs.size) ⟨hp.push o, g, d, tk, os⟩ → wpAny (model prog w) A' (pyIter v) Q E ⟨hp, g, d, tk, os⟩ := fun z => B.iter prog w _ _ ⟨hp, g, d, tk, os⟩ _ h1 z
    wp_walk using start
    refine wpAny_stack_any fun st => wpAny_pure ?_
    split
    · rename_i c _ _ _ _ _
      cases (c == Value.type "enumerate") <;> (wp_walk using start; exact ⟨_, rfl, hB⟩)
    · wp_walk using start
      exact ⟨_, rfl, hB⟩
section
variable {prog : Program} {w : World} {A : Around} {E : Value → Shared → Prop} {s : Shared}
theorem enum_starts {v : Value} {o : Obj} {Hh : Heap → Prop} {Q : Value → Shared → Prop} (B : Begins v o Hh) (h1 : Hh s.heap)
    (q : ∀ h', IsEnum h' (s.heap.objs.size + 1) s.heap.objs.size 0 .none → h'.get? s.heap.objs.size = some o → (∀ b u, s.heap.get? b = some u → h'.get? b = some u) → Q (.ref (s.heap.objs.size + 1)) { s with heap := h' }) :
    wpAny (model prog w) A (call (.type "enumerate") [v]) Q E s := by
  refine callType_new F.called_enumerate (by decide) (F.typeCall_enumerate_1 _) (F.newCall_enumerate_1 _) (fun obj => F.args_object_init_2 obj _) F.entry_enumerate_new (enum_new1 B) ⟨h1, ?_⟩
  have hz : (s.heap.push o).objs.size = s.heap.objs.size + 1 := Heap.size_push _ _
  have he := Heap.get?_push_size (s.heap.push o) (o := { cls := .type "enumerate", data := .fields #[.none, .bool false, .ref s.heap.objs.size, rawInt 0, .none, .none] }) rfl
  show _ ∧ _
  rw [hz] at he ⊢
  exact ⟨⟨_, he, rfl⟩, q _ he (Heap.get?_push_of_some _ (Heap.get?_push_size _ B.free)) fun b u x => Heap.get?_push_of_some _ (Heap.get?_push_of_some _ x)⟩
end
end PySem
namespace Rd
open PySem PySem.Spec PyProof.Rows L2
/-- the tuple at a, each item in a new pair with its place -/
def Iet (K : PySem.W.Frag) (a : Addr) : It :=
  ⟨fun i H => ∃ (xs : List V) (x : V), SqT K H a xs ∧ xs[i]? = some x, fun i H v H' => ∃ T x, v = .ref T ∧ H T = none ∧ H' = upd H T (.tup [.int (i : Nat), x]) ∧ ∀ xs, SqT K H a xs → xs[i]? = some x, fun i H => ∃ xs : List V, SqT K H a xs ∧ xs.length ≤ i⟩
theorem turn_et {P : Program} {w : World} {K : PySem.W.Frag} {elts : List Expr} {kk : Nat} {tpos : Pos} (a e it : Addr) (ha : a ≠ it) (hae : e ≠ a) :
    Turn P w K (.Tuple elts kk tpos) (Iet K a) [e, it] e (fun i h => (∃ old, IsEnum h e it ((i : Nat) : Int) old) ∧ h.IsTupleIter it a i ∧ e ≠ it) := by
  have two : ∀ {b : Addr}, b ∈ [e, it] → b = e ∨ b = it := fun {b} hb => by simpa using hb
  refine ⟨by simp, fun i h st b hb => ?_, fun i h h' st k => ?_, ?_, ?_, fun A i s Q E st q => ?_⟩
  · obtain ⟨⟨old, he⟩, ⟨o, ho, hc, hd⟩, _⟩ := st
    rcases two hb with rfl | rfl
    · exact ⟨_, he, fun v z => nomatch z⟩
    · exact ⟨o, ho, fun v z => by rw [hd] at z; cases z⟩
  · obtain ⟨⟨old, he⟩, hi, hne⟩ := st
    exact ⟨⟨old, k e (by simp) _ he⟩, hi.at fun o z => k it (by simp) o z, hne⟩
  · intro X hP hw hK hc i pins s σ H E I hf st hg
    subst hP hw hK
    obtain ⟨⟨old, he⟩, hit, hne⟩ := st
    obtain ⟨xs, x, hq, hx⟩ := hg
    obtain ⟨its, rv, p, _⟩ := I.tuple hq
    obtain ⟨u, hu, ru⟩ := rv.get hx
    have big : e < s.heap.objs.size ∧ it < s.heap.objs.size := ⟨Heap.lt_size he, by obtain ⟨_, z, _⟩ := hit; exact Heap.lt_size z⟩
    have hi : i < its.toArray.size := by
      have := (List.getElem?_eq_some_iff.mp hu).1
      simpa using this
    refine wpAny_pyNext_enum_itemC (Draws.tuple (A := X.A.in1) (I.ok.hd hc) it a ha its.toArray) he ⟨hit, p⟩ hi hne (by simp [hne, hae]) fun y h1 tk hy ho hst hT hsz hk => ?_
    have ey : y = u := by
      have hy : its.toArray[i]? = some y := hy
      rw [List.getElem?_toArray, hu] at hy
      exact (Option.some.inj hy).symm
    subst ey
    refine ⟨_, rfl, wpAny_letOwnedTupleGo_enum (s := { s with heap := h1, toks := tk + 1 }) ho fun h2 he2 sb => ?_⟩
    have hT2 := (sb.2 _ (Nat.ne_of_gt big.1)).trans hT
    have new : ObjOk X.prog X.w (upd H s.heap.objs.size (.tup [.int (i : Nat), x])) h2 s.heap.objs.size (.tup [.int (i : Nat), x]) := ⟨by show 2 ≤ sizeLine; decide, [.int i tk, y], .cons ⟨_, rfl⟩ (.cons ru .nil), ⟨_, hT2, rfl, _, rfl⟩⟩
    have I1 : Inv X pins σ (upd H s.heap.objs.size (.tup [.int (i : Nat), x])) { s with heap := h2, toks := tk + 1 } :=
      I.turnedNew (ch := [e, it]) (fun b ob hb z => (sb.2 b (fun w => hb (by simp [w]))).trans (hk b ob (fun w => hb (by simp [w])) (fun w => hb (by simp [w])) z)) hf (Nat.le_refl _) new
    refine ⟨.ref s.heap.objs.size, _, I1, rfl, ⟨_, x, rfl, I.hok.fresh (Nat.le_refl _), rfl, fun ys hy => ?_⟩, ⟨⟨y, ?_⟩, hst.1.at fun o z => (sb.2 it (Ne.symm hne)).trans z, hne⟩, fun b hb => ?_⟩
    · rw [I.tuple_inj hy hq]
      exact hx
    · have e1 : ((i + 1 : Nat) : Int) = (i : Int) + 1 := by omega
      rw [e1]
      exact he2
    · have hb' : b < s.heap.objs.size := (two hb).elim (fun z => z ▸ big.1) fun z => z ▸ big.2
      rw [upd_ne (Nat.ne_of_lt hb')]
      exact (hf b hb).1
  · intro X hP hw hK hc i pins s σ H E I hf st hg
    subst hP hw hK
    obtain ⟨⟨old, he⟩, hit, hne⟩ := st
    obtain ⟨xs, hq, hx⟩ := hg
    obtain ⟨its, rv, p, _⟩ := I.tuple hq
    have hl := rv.length
    have D : Draws X.prog X.w X.A.in1 it [it, a] i (fun _ _ => True) (fun j h => j = i ∧ h.IsTupleIter it a i ∧ h.IsTuple a its.toArray) :=
      ⟨fun _ _ st => let ⟨o, ho, _⟩ := st.2.1; ⟨o, ho⟩, fun _ _ _ st hk => ⟨st.1, st.2.1.at fun o z => hk it (by simp) o z, st.2.2.at fun o z => hk a (by simp) o z⟩, fun j _ _ _ hj st _ => absurd st.1 (Nat.ne_of_lt hj),
        fun s Q E st hE => wpAny_nextOf_tuple_end (A := X.A.in1) (I.ok.hd hc) st.2.1 st.2.2 (by simp; omega) hE⟩
    obtain ⟨f0, f1, f2, f3, f4, f5⟩ := hf it (by simp)
    exact wpAny_pyNext_enum_endD D he ⟨rfl, hit, p⟩ fun h' eb => ⟨rfl, I.turned (t' := s.toks) (fun b o hb z => eb b o hb z) f0 f1 f3 f4 f5⟩
  · obtain ⟨⟨_, he⟩, _⟩ := st
    exact wpAny_pyIter_enum he q
def iEnumQ (K : PySem.W.Frag) (ta : TA) : TI := fun σ H R => ta σ H fun vs H1 => ∃ a, vs = [.ref a] ∧ (((∃ xs, SqL K H1 a xs) ∧ R (Ite K a) H1) ∨ ((∃ xs, SqT K H1 a xs) ∧ R (Iet K a) H1))
theorem K_enumQ {X : Cx} {K : PySem.W.Frag} (hK : X.K = K) {e : Expr} {ta : TA} {p pos tpos : Pos} {elts : List Expr} {kk : Nat} (hg : Gl X "enumerate") (hm : X.mg "enumerate" = none) (ha : PA X [e] ta) (hs : starEach [e] X.env = [(false, eval e X.env)] := by rfl) :
    PI X (.Tuple elts kk tpos) (.Call (.Name "enumerate" p) [e] [] pos) (iEnumQ K ta) := by
  subst hK
  constructor
  intro pins s σ H R I h
  refine Call_ (ld_blt I hg hm boot_enumerate (PyProof.Rows.callWith_type1 (thn (ha.run pos pins s σ H _ I h) fun us s1 ⟨vs, H1, I1, r1, q1⟩ => ?_) hs rfl))
  obtain ⟨a, rfl, q1⟩ := q1
  obtain ⟨u, rfl, ru⟩ := r1.one
  cases (show u = Value.ref a from ru)
  have fresh : ∀ b ∈ [s1.heap.objs.size + 1, s1.heap.objs.size], FpOk X pins H1 b := fun b m => by
    have le : s1.heap.objs.size ≤ b := by
      rcases List.mem_cons.mp m with z | z
      · omega
      · rw [List.mem_singleton.mp z]
        exact Nat.le_refl _
    exact I1.fpOk le (I1.hok.fresh le)
  rcases q1 with ⟨⟨xs, hq⟩, q⟩ | ⟨⟨xs, hq⟩, q⟩
  · obtain ⟨its, rv, pl, _⟩ := I1.list hq
    exact call_enumerate_list pl.isList fun h' he hit _ hk => wpAny_pyIter_enum he ⟨_, _, _, _, H1, rfl, I1.kept (t' := s1.toks) hk, turn_enum a _ _, ⟨⟨.none, he⟩, hit, Nat.succ_ne_self _⟩, fresh, q⟩
  · obtain ⟨its, rv, pl, _⟩ := I1.tuple hq
    have la : a < s1.heap.objs.size := by
      obtain ⟨o, ho, _⟩ := pl
      exact Heap.lt_size ho
    exact enum_starts (begins_tuple a its.toArray) pl fun h' he ho hk => wpAny_pyIter_enum he ⟨_, _, _, _, H1, rfl, I1.kept (t' := s1.toks) hk, turn_et a _ _ (Nat.ne_of_lt la) (Nat.ne_of_gt (Nat.lt_succ_of_lt la)), ⟨⟨.none, he⟩, ⟨_, ho, rfl, rfl⟩, Nat.succ_ne_self _⟩, fresh, q⟩
def cEnumQ (K : PySem.W.Frag) (R : It → Hp → Prop) : List V → Hp → Prop := fun vs H1 => ∃ a, vs = [.ref a] ∧ (((∃ xs, SqL K H1 a xs) ∧ R (Ite K a) H1) ∨ ((∃ xs, SqT K H1 a xs) ∧ R (Iet K a) H1))
section
variable {σ : L2.St} {H : Hp} {K : PySem.W.Frag} {tr : TA} {R : It → Hp → Prop} {xs : List V} {p a : Addr} {g : TG} {tb : TS} {nx bk ct : L2.St → Hp → Prop} {rt : VK}
theorem r_enumQ (q : tr σ H (cEnumQ K R)) : iEnumQ K tr σ H R := q
theorem walk_et : Walk (Iet K a) xs.length (fun H => SqT K H a xs) (YPair (fun i => some (.int (i : Nat))) (fun i => xs[i]?)) := by
  refine ⟨fun i _ hi q => ⟨xs, xs[i], q, List.getElem?_eq_getElem hi⟩, fun _ q => ⟨xs, q, Nat.le_refl _⟩, fun i H v H' _ q ⟨T, x, h1, h2, h3, h4⟩ => ⟨T, .int (i : Nat), x, h1, h2, h3, rfl, h4 xs q⟩⟩
theorem r_kForE (Pv : Nat → L2.St → Hp → Prop) (hq : Sq K H p xs) (h0 : Pv 0 σ H) (hl : ∀ i σ H', i ≤ xs.length → Pv i σ H' → ∃ ex, p ∉ ex ∧ Kp ex H H')
    (hs : ∀ (i : Nat) x t σ H H', xs[i]? = some x → Pv i σ H → H t = none → Kp [] H H' → H' t = some (.tup [.int (i : Int), x]) → g (.ref t) σ H' fun σ2 H2 => tb ⟨Pv (i + 1), rt, nx, Pv (i + 1)⟩ σ2 H2) (hd : ∀ σ H, Pv xs.length σ H → nx σ H) :
    cEnumQ K (kFor g tb ⟨nx, rt, bk, ct⟩ σ) [.ref p] H := by
  have step : ∀ (i : Nat) x σ H H', i < xs.length → Pv i σ H → YPair (fun i => some (.int (i : Nat))) (fun i => xs[i]?) i H x H' → g x σ H' fun σ2 H2 => tb ⟨Pv (i + 1), rt, nx, Pv (i + 1)⟩ σ2 H2 := by
    rintro i x σ H H' hi hp ⟨t, u, v, rfl, nt, rfl, hu, hx⟩
    cases hu
    exact hs i v t σ H _ hx hp nt (Kp.new nt) upd_same
  rcases hq with h | h
  · exact ⟨p, rfl, .inl ⟨⟨xs, h⟩, r_kFor walk_enum Pv h0 (fun i σ H' hi q => let ⟨_, m, k⟩ := hl i σ H' hi q; sql_kp h k m) step hd⟩⟩
  · exact ⟨p, rfl, .inr ⟨⟨xs, h⟩, r_kFor walk_et Pv h0 (fun i σ H' hi q => let ⟨_, m, k⟩ := hl i σ H' hi q; sqt_kp h k m) step hd⟩⟩
end
end Rd

set_option maxHeartbeats 4000000
/-! Sup: defs with the cell __class__; super().__init__(text) of an exception over ValueError, as a body's first statement. -/
namespace Rd
open PySem PySem.Spec L2 NdefX

/-! ### a body at its own code -/
structure QS (X : Cx) (c : Code) (ss : List Stmt) (t : TS) : Prop where
  run : ∀ (pins : List (Addr × Obj)) (s : Shared) (σ : St) (H : Hp) (D : Ends), Inv X pins σ H s → t D σ H → _root_.PySem.wpAt (model X.prog X.w) X.A c (execs ss X.env) (SP X pins D) X.xe s
theorem qs_of {X : Cx} {c : Code} {ss : List Stmt} {t : TS} (h : PSs X ss t) : QS X c ss t := ⟨fun pins s σ H D I q => wpAt_of_wpAny (h.run pins s σ H D I q)⟩

/-! ### a def of the text with the cell __class__ -/
theorem cells_written {P : Program} {w : World} {K : PySem.W.Frag} {mg : Str → Option Value} {base : Heap} {A : Around} {outer : List Env} {s : Shared} {H : Hp} {cc : Addr} {u : Value} {cl : Value} {cld : Option Addr} {csl : Array (Option Value)}
    (e0 : Env0 P w K mg base A outer s H) (cell : K.lookup cc = some ⟨cl, cld, .cell (some u), csl⟩) : CellsAt [("__class__", cc)] ["__class__"] [none] s.heap H := by
  have hb := e0.bs _ _ (e0.mod.kin _ _ cell)
  have hc : s.heap.IsCell cc (some u) := ⟨_, hb.1, rfl⟩
  have look : ∀ {y : Str} {c : Addr}, ([("__class__", cc)] : List (Str × Addr)).lookup y = some c → y = "__class__" ∧ c = cc := fun {y c} h => by
    rw [List.lookup_cons] at h
    by_cases e : (y == ("__class__" : Str)) = true
    · rw [e] at h
      exact ⟨beq_iff_eq.mp e, (Option.some.inj h).symm⟩
    · rw [Bool.eq_false_iff.mpr e] at h
      cases h
  refine ⟨rfl, fun y c h => ?_, fun x y c h1 h2 => (look h1).1.trans (look h2).1.symm, fun i y h => ?_⟩
  · obtain ⟨_, rfl⟩ := look h
    exact ⟨hb.2, _, hc⟩
  · match i, h with
    | 0, h =>
      cases h
      exact ⟨cc, by rw [List.lookup_cons]; simp, fun v hv => nomatch hv⟩
    | i + 1, h => cases h
theorem fn_sup {CX : CXT} {P : Program} {w : World} {K : PySem.W.Frag} {mg : Str → Option Value} {base : Heap} {k : Nat} {f cc cda : Addr} {name qual : Str} {params : Arguments} {body : List Stmt} {scope : Scope} {dV kV doc pm ct oc cl u : Value} {an od cld : Option Addr}
    {osl csl : Array (Option Value)} {N ps : List Str} {sp : Sp} (lk : K.lookup f = some ⟨oc, od, .func (PySem.W.ksFn name qual params body scope dV kV doc pm an (.ref cda) ct cc), osl⟩) (hcd : PySem.W.codeIn K (.ref cda) qual = true)
    (cell : K.lookup cc = some ⟨cl, cld, .cell (some u), csl⟩) (S : NScope N ps ["__class__"] scope)
    (len : ∀ vs H Q E, sp vs H Q E → vs.length = ps.length)
    (hbody : ∀ (A : Around) (outer : List Env) (s : Shared) (H : Hp) (vs : List V) (Q : VK) (E : XK), Room k (A.deeper (envF ⟨name, qual, params, body, scope, [("__class__", cc)], cda⟩ f s.heap.objs.size)) → sp vs H Q E →
      ∃ t, QS (ncx CX P w K mg base N ⟨name, qual, params, body, scope, [("__class__", cc)], cda⟩ f A outer s H E) (.func body (envF ⟨name, qual, params, body, scope, [("__class__", cc)], cda⟩ f s.heap.objs.size)) body t ∧
        t { nx := fun _ H' => Q .non H', rt := Q } (startF N vs [none]) H) : FnOk P w K mg base CX (k + 1) f (PySem.W.ksFn name qual params body scope dV kV doc pm an (.ref cda) ct cc) ps sp := by
  refine ⟨len, fun A outer s H args us vs Q E hr e0 hb r hsp => ?_⟩
  have hl := len _ _ _ _ hsp
  have KX : K.In s.heap := e0.mod.kin.keeps fun b o e => (e0.bs b o e).1
  have lim : s.heap.NoLimit := e0.mod.nolimit.keeps fun b o e => (e0.bs b o e).1
  refine codeAny_call_function hr.depth (KX _ _ lk) rfl S.co S.gen rfl (PySem.W.codeRec_of KX hcd) (hb _ _ _ _ ?_)
  refine (wpAny_newFunctionEnv S.nocell (fun ⟨n, _⟩ hy => S.par n (List.of_mem_zip hy).1) (fun h₁ hns hsb => ⟨lim.fresh _ hsb, ?_⟩) S.kind)
  show codeAny _ _ (.func body (envF ⟨name, qual, params, body, scope, [("__class__", cc)], cda⟩ f s.heap.objs.size)) _ _
  refine ks_codeAny_funcAt ?_
  have kp : ∀ b o, s.heap.get? b = some o → h₁.get? b = some o := fun b o e => hsb.extBut b o (Nat.ne_of_lt (Heap.lt_size e)) (Heap.get?_push_of_some _ e)
  obtain ⟨t, ht, hq⟩ := hbody A outer s H vs Q E (hr.deeper _) hsp
  have I : Inv (ncx CX P w K mg base N ⟨name, qual, params, body, scope, [("__class__", cc)], cda⟩ f A outer s H E) [] (startF N vs [none]) H { s with heap := h₁, toks := s.toks + (ps.zip us).length } := inv_startN S hr.hd e0 hl r (cells_written e0 cell) hns kp
  refine ks_wpAt_mono (ht.run [] _ (startF N vs [none]) H _ I hq) (fun fl s' hs => ?_) fun e s' hs => hs
  have fin : ∀ {σ' : L2.St} {H' : Hp} {v : V} {u : Value}, Inv (ncx CX P w K mg base N ⟨name, qual, params, body, scope, [("__class__", cc)], cda⟩ f A outer s H E) [] σ' H' s' → RelV v u → Q v H' → CE outer P w H s Q u s' := fun {σ' H' v u} J rv q => ⟨v, H', J.os, J.bare, J.base, J.hok, rv, q⟩
  match fl, hs with
  | .ret u, ⟨v, σ', H', J, rv, q⟩ => exact fin J rv q
  | .next, ⟨σ', H', J, q⟩ => exact fin (v := V.non) (u := Value.none) J rfl q
  | .brk, ⟨_, _, _, q⟩ => exact False.elim q
  | .cont, ⟨_, _, _, q⟩ => exact False.elim q

/-! ### the wrapper's call -/
section
variable {prog : Program} {w : World} {A : Around} {E : Value → Shared → Prop} {h : Heap} {g : Array GenState} {d : Drawn} {t : Nat} {os : OsState}
variable {nm q : Str} {C N : Addr} {bs bm bmB : List Value} {hdct : Bool} {sn : List Str} {sub : List Value} {ab : Bool} {col : Option Bool} {dd : Option Addr} {k0 k1 k2 k3 k5 : Option Value} {B newId initId : String}
theorem mw_call (F : ExcBaseFacts B newId initId bmB) {u e t0 : Addr} {rest : List Value} {Q : Value → Shared → Prop}
    (hC : h.get? C = some (excClassObj nm q C N bs bm hdct sn sub ab col dd k0 k1 k2 k3 k5 newId)) (he : h.get? e = some (HandSPX.excO C t0)) (hu : h.get? u = some (W.kxs_mw initId e)) (hrest : rest.length ≤ sizeLine)
    (hq : ∀ h' t1, (∀ b o, b ≠ e → h.get? b = some o → h'.get? b = some o) → h'.get? e = some (HandSPX.excO C t1) → Q .none ⟨h', g, d, t, os⟩) : wpAny (model prog w) A (call (.ref u) rest) Q E ⟨h, g, d, t, os⟩ := by
  refine wpAny_call (codeAny_of_tree ?_)
  show wpAny _ A.in1 (callAny (.ref u) ⟨rest, []⟩) _ _ _
  unfold callAny
  refine wpAny_bind (wpAny_load hu ?_)
  simp only [show (Value.type "method-wrapper" == Value.type "method" || Value.type "method-wrapper" == Value.type "builtin_function_or_method" || Value.type "method-wrapper" == Value.type "method-wrapper") = true by decide, if_true]
  refine W.KFB.if_so (by decide) (wpAny_bind (W.check_bound_init F.toExcCallFacts hC he rfl (wpAny_bind (wpAny_pure (wpAny_pure ⟨plainId_quiet F.init.plain _, codeAny_builtin F.initEntry ?_⟩)))))
  rw [Around.under_plainId F.init.plain _]
  wp_walk
  refine hq _ h.objs.size (fun b o hb ho => ?_) ?_
  · rw [Heap.get?_update_other _ _ (Ne.symm hb)]
    exact Heap.get?_push_of_some _ ho
  · rw [Heap.get?_update_self _ (Heap.get?_push_of_some _ he) rfl]
    rfl
end

/-! ### super().__init__(text) -/
/-- what is asked of an exception's class at C (straight or farther over ValueError), whose __init__ has the code object at cda -/
structure SupC (P : Program) (K : PySem.W.Frag) (mg : Str → Option Value) (C cda : Addr) : Prop where
  oex : OexC K C
  up : PySem.W.ks_superIn K C C "__init__" = some (some (.builtin "ValueError.__init__"))
  sub : PySem.W.subIn K (.ref C) (.type "ValueError") = some true
  own : PySem.W.mroIn K C (.ref C) = some true
  opq : PySem.W.nsIn K cStatics "thirdparty.any" = some none
  zs : mg "super" = none
  file : ∃ ccl cdd vs ccs fl tf, K.lookup cda = some ⟨ccl, cdd, .fields vs, ccs⟩ ∧ vs[2]? = some (.str fl tf) ∧ (P.main.file == fl) = true
  top : (P.main.scope.names.lookup ("super" : Str)).isSome = false
def tSupI (C : Addr) (t : TS) : TS := fun D σ H => ∃ a, σ[0]? = some (some (.ref a)) ∧ H a = some (exo a C none) ∧ t D σ H
theorem qs_sup {CX : CXT} {P : Program} {w : World} {K : PySem.W.Frag} {mg : Str → Option Value} {base : Heap} {f cc cda C : Addr} {name qual : Str} {params : Arguments} {body body' : List Stmt} {scope : Scope} {dV kV doc pm ct oc cl : Value} {an od cld : Option Addr}
    {osl csl : Array (Option Value)} {N : List Str} {A : Around} {outer : List Env} {s0 : Shared} {H0 : Hp} {E : XK} {ar : Arg} {p0 p1 p2 p3 p4 p5 : Pos} {m : Str} {j : Nat} {pl : Sem Bool} {rest : List Stmt} {t : TS}
    (lk : K.lookup f = some ⟨oc, od, .func (PySem.W.ksFn name qual params body scope dV kV doc pm an (.ref cda) ct cc), osl⟩) (cell : K.lookup cc = some ⟨cl, cld, .cell (some (.ref C)), csl⟩) (Z : SupC P K mg C cda)
    (hks : scope.names.lookup ("super" : Str) = some .globalImplicit) (hkc : scope.names.lookup ("__class__" : Str) = some .free) (hp : (params.posonlyargs ++ params.args).head? = some ar) (hN : N[0]? = some ar.arg)
    (hka : scope.names.lookup ar.arg = some .local) (hk : scope.kind = .function)
    (hi : interactive (envF ⟨name, qual, params, body, scope, [("__class__", cc)], cda⟩ f s0.heap.objs.size) = false)
    (hs : swapsWith (.Call (.Attribute (.Call (.Name "super" p0) [] [] p1) "__init__" p2) [.Constant (.str m) j p3] [] p4) none p5.line (envF ⟨name, qual, params, body, scope, [("__class__", cc)], cda⟩ f s0.heap.objs.size) = pure false)
    (he : eval (.Call (.Attribute (.Call (.Name "super" p0) [] [] p1) "__init__" p2) [.Constant (.str m) j p3] [] p4) (envF ⟨name, qual, params, body, scope, [("__class__", cc)], cda⟩ f s0.heap.objs.size) = (do
      let ov ← attributeBase (.Call (.Name "super" p0) [] [] p1) "__init__" (envF ⟨name, qual, params, body, scope, [("__class__", cc)], cda⟩ f s0.heap.objs.size) (eval (.Call (.Name "super" p0) [] [] p1) (envF ⟨name, qual, params, body, scope, [("__class__", cc)], cda⟩ f s0.heap.objs.size))
      standAt p2.atName
      let (fx, first) ← holding [ov] (getMethod ov "__init__" pl)
      callWith p4 fx first (backTo p4 (starEach [.Constant (.str m) j p3] (envF ⟨name, qual, params, body, scope, [("__class__", cc)], cda⟩ f s0.heap.objs.size))) []))
    (hst : starEach [.Constant (.str m) j p3] (envF ⟨name, qual, params, body, scope, [("__class__", cc)], cda⟩ f s0.heap.objs.size) = [(false, eval (.Constant (.str m) j p3) (envF ⟨name, qual, params, body, scope, [("__class__", cc)], cda⟩ f s0.heap.objs.size))])
    (hr : QS (ncx CX P w K mg base N ⟨name, qual, params, body, scope, [("__class__", cc)], cda⟩ f A outer s0 H0 E) (.func body' (envF ⟨name, qual, params, body, scope, [("__class__", cc)], cda⟩ f s0.heap.objs.size)) rest t) :
    QS (ncx CX P w K mg base N ⟨name, qual, params, body, scope, [("__class__", cc)], cda⟩ f A outer s0 H0 E) (.func body' (envF ⟨name, qual, params, body, scope, [("__class__", cc)], cda⟩ f s0.heap.objs.size))
      (.Expr (.Call (.Attribute (.Call (.Name "super" p0) [] [] p1) "__init__" p2) [.Constant (.str m) j p3] [] p4) p5 :: rest) (tSupI C t) := by
  constructor
  intro pins s σ H D I ⟨a, hσ, ha, q⟩
  have KX := I.kIn
  obtain ⟨t1, ho⟩ := exo_at I.hok ha
  obtain ⟨ccl, cdd, vs, ccs, fl, tf, hcode, hvs, hfile⟩ := Z.file
  obtain ⟨nm, qq, N', bs, bm, sn, sub, ab, col, dd, k0, k1, k2, k3, k5, hC, hbm⟩ := Z.oex.cls
  refine ks_wpAt_execs_cons (ks_wpAt_Expr_any (ks_wpAt_MethodCall (pl := pl) ?_ he) hi hs)
  obtain ⟨hh, g, d, tk, os⟩ := s
  have hD1 := KX _ _ hC
  refine ks_wpAt_super_base hks hkc (by decide) rfl (KX _ _ lk) rfl hp rfl (KX _ _ hcode) rfl hvs hfile Z.top ?_
  obtain ⟨mb, hbn, hbv⟩ := I.ok.mod.blt
  have hbo : bootBuiltins "super" = some (.type "super") := by first | rfl | decide +kernel
  refine W.ks_loadName_global hk hks (Calls.loadGlobal_builtin (I.mod.glob.keeps I.bk) Z.zs (hbn.keeps I.bk) ((hbv ("super" : Str) (by decide +kernel)).trans hbo) ⟨rfl, ?_⟩)
  refine wpAny_loadName_free hk hkc rfl ⟨_, KX _ _ cell, rfl⟩ ?_
  obtain ⟨ml, hns, hl⟩ := I.loc
  obtain ⟨u, ru, lku⟩ := hl 0 ar.arg (.ref a) hN hσ (.inl hka)
  have hm : ml ar.arg = some u := by
    rcases lku with ⟨_, z⟩ | ⟨z, _⟩
    · exact z
    · rcases z with z | z
      · exact absurd (hka.symm.trans z) (by decide)
      · exact absurd (hka.symm.trans z) (by decide)
  obtain rfl : u = Value.ref a := ru
  refine wpAny_loadName_local hk hka hns hm ?_
  refine ks_wpAny_isType_cls hD1 rfl ⟨rfl, ?_⟩
  refine ks_wpAny_call_super hD1 rfl ho rfl (fun c z => nomatch z) (W.looks_mroIn KX Z.own) fun h' e1 kp => ?_
  have I1 : Inv _ pins σ H ⟨h', g, d, tk, os⟩ := I.kept (t' := tk) kp
  have KX1 := I1.kIn
  have ho1 := kp _ _ ho
  have J : W.InstAt h' a (HandSPX.excO C t1) C none := ⟨ho1, rfl, rfl, trivial⟩
  have up := Z.up
  cases hc : W.clsIn K C with
  | none =>
    unfold W.ks_superIn at up
    rw [hc] at up
    cases up
  | some cd =>
    unfold W.ks_superIn at up
    rw [hc] at up
    refine W.kxs_getMethod W.kxs_ValueError e1 (W.looks_opaque KX1 Z.opq) (l₀ := cd.mro) (fun A Q E s k z => wpAny_bind ((W.looks_clsIn KX1 hc) A _ E s k (wpAny_pure z))) rfl KX1 up (J.type.andThen (W.looks_subIn KX1 Z.sub)) (W.ks_ne KX1 J hc) (by decide) ?_
    have k2 : ∀ b o, h'.get? b = some o → (h'.push (W.kxs_mw "ValueError.__init__" a)).get? b = some o := fun b o e => Heap.get?_push_of_some _ e
    have I2 : Inv _ pins σ H ⟨h'.push (W.kxs_mw "ValueError.__init__" a), g, d, tk + 1, os⟩ := I1.kept (t' := tk + 1) k2
    have hu : (h'.push (W.kxs_mw "ValueError.__init__" a)).get? h'.objs.size = some (W.kxs_mw "ValueError.__init__" a) := Heap.get?_push_size _ rfl
    have hst' : starEach [.Constant (.str m) j p3] (ncx CX P w K mg base N ⟨name, qual, params, body, scope, [("__class__", cc)], cda⟩ f A outer s0 H0 E).env = [(false, eval (.Constant (.str m) j p3) (ncx CX P w K mg base N ⟨name, qual, params, body, scope, [("__class__", cc)], cda⟩ f A outer s0 H0 E).env)] := hst
    rw [hst']
    refine W.kxs_callWith (i := "ValueError.__init__") (x := a) rfl (Calls.evalArgs_plain (Calls.spliced_cons (Calls.Constant_str (pos := p3) (k := j) (Calls.spliced_nil ⟨hu, ?_⟩))))
    refine mw_call F.excBase_ValueError (I2.kIn _ _ hC) (k2 _ _ ho1) hu (by show 1 ≤ sizeLine; decide) fun h3 t2 k3 e3 => ?_
    have J3 := (I2.tok (tk + 1 + 1)).write (t' := tk + 1 + 1) (x := a) (e := a) (o := exo a C none) (by rw [ha]; exact True.intro) (.inl rfl) k3 ⟨_, e3⟩ (exo_ok e3)
    have eu : upd H a (exo a C none) = H := by
      funext b
      by_cases hb : b = a
      · rw [hb, upd_same, ha]
      · rw [upd_ne hb]
    rw [eu] at J3
    exact hr.run pins _ σ H D J3 q

/-- such a def of the text, its class at C -/
structure SFun (P : Program) (K : PySem.W.Frag) (mg : Str → Option Value) (qual : Str) (st : Stmt) (C f : Addr) (fd : FuncData) : Prop where
  ex : ∃ (oc kV doc pm ct cl : Value) (od an cld : Option Addr) (cda cc : Addr) (osl csl : Array (Option Value)), fd = PySem.W.ksFn "__init__" qual (defArgs st) (defBody st) (defScope st) .none kV doc pm an (.ref cda) ct cc ∧
    K.lookup f = some ⟨oc, od, .func (PySem.W.ksFn "__init__" qual (defArgs st) (defBody st) (defScope st) .none kV doc pm an (.ref cda) ct cc), osl⟩ ∧ PySem.W.codeIn K (.ref cda) qual = true ∧ K.lookup cc = some ⟨cl, cld, .cell (some (.ref C)), csl⟩ ∧ SupC P K mg C cda
/-- __init__(self, fld) of an exception: super().__init__(text); self.fld = fld -/
def sp_exc1 (fld : Str) (C : Addr) : Sp := fun vs H Q _ => ∃ (a : Addr) (v : V), vs = [.ref a, v] ∧ H a = some (exo a C none) ∧ ∀ dx, H dx = none → dx ≠ a → Q .non (upd (upd H dx (exd dx [(fld, v)])) a (exo a C (some dx)))
theorem r_sup {C : Addr} {t : TS} {D : Ends} {σ : St} {H : Hp} {a : Addr} (e : σ[0]? = some (some (.ref a))) (ha : H a = some (exo a C none)) (q : t D σ H) : tSupI C t D σ H := ⟨a, e, ha, q⟩
theorem r_ost {K : PySem.W.Frag} {fld : Str} {i j : Nat} {D : Ends} {σ : St} {H : Hp} {a C : Addr} {v : V} (e : σ[i]? = some (some (.ref a))) (e' : σ[j]? = some (some v)) (T : OexC K C) (n : PySem.W.findIn K (.ref C) fld = some none) (ha : H a = some (exo a C none))
    (q : ∀ dx, H dx = none → dx ≠ a → D.nx σ (upd (upd H dx (exd dx [(fld, v)])) a (exo a C (some dx)))) : tOst K fld (tVar i) (tVar j) D σ H :=
  ⟨v, e', .ref a, e, a, C, rfl, T, n, .inl ⟨ha, q⟩⟩

/-! ### such an exception as its users see it -/
structure Exc1 (P : Program) (w : World) (K : PySem.W.Frag) (mg : Str → Option Value) (base : Heap) (k : Nat) (x fld : Str) (C : Addr) : Prop where
  oex : OexC K C
  made : ∃ fI fd ps, PySem.W.findIn K (.ref C) "__init__" = some (some (.ref fI)) ∧ PySem.W.typeIn K (.ref fI) = some (.type "function") ∧ FnOk P w K mg base CX0 k fI fd ps (sp_exc1 fld C) ∧ Binds K fd ps []
  gC : mg x = some (.ref C)
  xf : XfC K C
  nof : PySem.W.findIn K (.ref C) fld = some none
  te : PySem.W.exmOne K (.ref C) (.ref C) = some true
def kMkO (C : Addr) (fld : Str) (Q : XK) : List V → Hp → Prop := fun vs H1 => vs.length ≤ 1000 ∧ ∀ a, H1 a = none → sp_exc1 fld C (.ref a :: (vs ++ [])) (upd H1 a (exo a C none))
  (fun v H2 => v = .non ∧ ∃ (d : Addr) (fs : List (Str × V)), H2 a = some (exo a C (some d)) ∧ H2 d = some (exd d fs) ∧ H1 d = none ∧ Q (.ref C) (some d) (upd (del H2 a) d (.xd fs))) (fun _ _ _ => False)
theorem r_kMkO {C : Addr} {fld : Str} {Q : XK} {v : V} {H : Hp} (q : ∀ d H', H d = none → Kp [] H H' → H' d = some (.xd [(fld, v)]) → Q (.ref C) (some d) H') : kMkO C fld Q [v] H := by
  refine ⟨by show 1 ≤ 1000; decide, fun a ha => ⟨a, v, rfl, upd_same, fun dx hdx ne => ⟨rfl, dx, [(fld, v)], upd_same, by rw [upd_ne ne, upd_same], ?_, ?_⟩⟩⟩
  · rw [upd_ne ne] at hdx
    exact hdx
  · have n1 : H dx = none := by
      rw [upd_ne ne] at hdx
      exact hdx
    have eq : upd (del (upd (upd (upd H a (exo a C none)) dx (exd dx [(fld, v)])) a (exo a C (some dx))) a) dx (.xd [(fld, v)]) = upd H dx (.xd [(fld, v)]) := by
      funext b
      by_cases hb : b = dx
      · rw [hb, upd_same, upd_same]
      · rw [upd_ne hb, upd_ne hb]
        by_cases hba : b = a
        · rw [hba, del_same, ha]
        · rw [del_ne hba, upd_ne hba, upd_ne hb, upd_ne hba]
    rw [eq]
    exact q dx _ n1 (Kp.new n1) upd_same
/-- raise X(e) -/
def tRaise1 (C : Addr) (fld : Str) (W : WX) (ta : TA) : TS := fun _ σ H => ta σ H (kMkO C fld fun cls d H' => W cls d σ H')
section
variable {X : Cx} {x fld : Str} {C : Addr} {k : Nat} {e : Expr} {ta : TA} {p pos pos2 : Pos} {W : WX}
theorem ps_raise1 (T : Exc1 X.prog X.w X.K X.mg X.base k x fld C) (hr : Room (k + 1) X.A) (hc : X.calm = true) (tk : Takes X W) (hg : Gl X x) (ha : PA X [e] ta) (hdb : (x == ("__debug__" : Str)) = false := by decide)
    (hst : starEach (e :: []) X.env = (false, eval e X.env) :: starEach [] X.env := by rfl) (hpl : (backTo pos (starEach [] X.env)).any (·.1) = false := by rfl) :
    PS X (.Raise (some (.Call (.Name x p) [e] [] pos)) none pos2) (tRaise1 C fld W ta) := by
  obtain ⟨fI, fd, ps, iC, tI, F1, hb⟩ := T.made
  exact ps_raise hc tk (pmk_oex (dvs := []) T.oex iC tI F1 hr hb .nil pass0 hg T.gC ha hdb hst hpl)
end
theorem r_raise1 {C : Addr} {fld : Str} {W : WX} {ta : TA} {D : Ends} {σ : St} {H : Hp} (q : ta σ H (kMkO C fld fun cls d H' => W cls d σ H')) : tRaise1 C fld W ta D σ H := q

/-! ### an object made where an exception of its __init__ is wished for -/
def kMakeS (C : Addr) (sp : Sp) (E : XK) (Q : VK) : List V → Hp → Prop := fun vs H1 => ∀ x dx, H1 x = none → H1 dx = none → dx ≠ x → sp (.ref x :: vs) (upd (upd H1 dx (.own x)) x (.ins C dx [])) (kMade x Q) E
def tMakeS (C : Addr) (sp : Sp) (E : St → XK) (t : TA) : TE := fun σ H Q => t σ H (kMakeS C sp (E σ) Q)
theorem r_makeS {C : Addr} {sp : Sp} {E : St → XK} {t : TA} {σ : St} {H : Hp} {Q : VK} (q : t σ H (kMakeS C sp (E σ) Q)) : tMakeS C sp E t σ H Q := q
theorem r_kMakeS {C : Addr} {sp : Sp} {E : XK} {H : Hp} {Q : VK} {vs : List V} (q : ∀ a dx H', H a = none → Kp [] H H' → H' a = some (.ins C dx []) → sp (.ref a :: vs) H' (kMade a Q) E) : kMakeS C sp E Q vs H := fun a dx n n' d =>
  q a dx _ n ((Kp.new n').trans (Kp.new (by rw [upd_ne d.symm]; exact n))) upd_same
section
variable {X : Cx} {CX : CXT} {k : Nat} {f C : Addr} {sp : Sp} {E : St → XK} {x : Str} {e : Expr} {es : List Expr} {t : TA} {p pos : Pos}
theorem pe_makeS (mk : Mk X.K C f) (F : FnR X.prog X.w X.K X.mg X.base CX k f sp) (hr : Room (k + 1) X.A) (hg : Gl X x) (hm : X.mg x = some (.ref C)) (hx : ∀ σ, PassesAt CX X σ (E σ)) (ha : PA X (e :: es) t) (hdb : (x == ("__debug__" : Str)) = false := by decide)
    (hst : starEach (e :: es) X.env = (false, eval e X.env) :: starEach es X.env := by rfl) (hpl : (backTo pos (starEach es X.env)).any (·.1) = false := by rfl) : PE X (.Call (.Name x p) (e :: es) [] pos) (tMakeS C sp E t) := by
  constructor
  intro pins s σ H Q I h
  refine wpAny_Call_Name_kw (ld_glob I hg hm (PySem.W.callWith_K (h₀ := X.base) I.ok.mod.kin mk.kp (thn (ha.run pos pins s σ H _ I h) fun us s1 ⟨vs, H1, I1, r, q⟩ => ⟨I1.kIn, ?_⟩) hst hpl) hdb)
  have old : H1 (s1.heap.objs.size + 1) = none ∧ H1 s1.heap.objs.size = none := ⟨I1.hok.fresh (Nat.le_succ _), I1.hok.fresh (Nat.le_refl _)⟩
  have J := Inv.made (C := C) I1
  have r2 : Vals (V.ref (s1.heap.objs.size + 1) :: vs) (Value.ref (s1.heap.objs.size + 1) :: us) := .cons rfl r
  have go := F _ X.stack _ _ (Value.ref (s1.heap.objs.size + 1) :: us) _ _ (E σ) (hr.make C us []) (J.env0.make C us []) r2 (q _ _ old.1 old.2 (Nat.ne_of_lt (Nat.lt_succ_self _)))
  refine wpAny_call (make_map (f := f) I1.kIn mk.makes mk.init (beq_iff_eq.mp mk.fn) (codeAny_mono go fun z s' hz => ?_))
  match z, hz with
  | .error u, hz => exact hx σ pins _ _ u s' J hz
  | .ok (.ret u), hz =>
    obtain ⟨v, H', I3, rv, ev, q3⟩ := J.after hz
    subst ev
    exact ⟨rv, V.ref (s1.heap.objs.size + 1), H', I3, rfl, q3⟩
  | .ok .next, hz => exact hz.elim
  | .ok .brk, hz => exact hz.elim
  | .ok .cont, hz => exact hz.elim
end

/-! ### isinstance(e, c), e.f of the exception that a suite holds, which has a dict -/
def rIsX (K : PySem.W.Frag) (C a : Addr) (cls : Value) (d : Option Addr) : R1 := fun xs H Q => cls = .ref C ∧ ∃ (dd : Addr) (fs : List (Str × V)) (c : V) (cv : Value) (b : Bool), d = some dd ∧ H dd = some (.xd fs) ∧ xs = [.ref a, c] ∧ ClsV c cv ∧ PySem.W.kitOne K (.ref C) cv = some b ∧ Q (.bl b) H
theorem call_isX {X : Cx} {a C : Addr} {oe : Obj} {cls : Value} {d : Option Addr} {pn : List (Addr × Obj)} (T : ExcC X.K C) (hz : Zc cls d oe) (hf : ∃ vs, oe.data = .fields vs) : CallR (X.suite a ((a, oe) :: pn)) (.builtin "isinstance") (rIsX X.K C a cls d) := by
  rintro pins s σ H xs us Q I r ⟨rfl, dd, fs, c, cv, b, rfl, ed, rfl, k, e, q⟩
  obtain ⟨u1, u2, rfl, r1, r2⟩ := vals2 r
  cases (show u1 = Value.ref a from r1)
  have e2 := k.eq r2
  subst e2
  obtain ⟨hget, _⟩ := I.pin (a, oe) (List.mem_append_left _ List.mem_cons_self)
  obtain ⟨vs, hv⟩ := hf
  have hx : ObjOk X.prog X.w H s.heap dd (.xd fs) := I.hok dd _ ed
  obtain ⟨mA, hns, _⟩ := hx
  obtain ⟨od, ho, _⟩ := lookIn_ns hns
  have J : PySem.W.InstAt s.heap a oe C (some od) := ⟨hget, hz.1, by unfold PySem.W.notCls; rw [hv] <;> rfl, by rw [hz.2]; exact ho⟩
  obtain ⟨cd, hc, _⟩ := PySem.W.any_some T.hd
  exact PySem.W.kia_one (PySem.W.kitx_exc (by rw [hc]; rfl) T.hg T.hk T.hs T.ha T.hn T.ht T.hm) I.kIn J e (fun z => nomatch z) fun tk => ⟨.bl b, H, I.kept (t' := tk) fun _ _ z => z, rfl, q⟩
theorem r_isX {K : PySem.W.Frag} {C a dd : Addr} {fs : List (Str × V)} {H : Hp} {Q : VK} {c : V} {cv : Value} {b : Bool} (ed : H dd = some (.xd fs)) (k : ClsV c cv) (e : PySem.W.kitOne K (.ref C) cv = some b) (q : Q (.bl b) H) : rIsX K C a (.ref C) (some dd) [.ref a, c] H Q :=
  ⟨rfl, dd, fs, c, cv, b, rfl, ed, rfl, k, e, q⟩
def kXf (a : Addr) (cls : Value) (d : Option Addr) (C : Addr) (f : Str) (Q : VK) : VK := fun x H1 => x = .ref a ∧ cls = .ref C ∧ ∃ (dd : Addr) (fs : List (Str × V)) (v : V), d = some dd ∧ H1 dd = some (.xd fs) ∧ fs.lookup f = some v ∧ Q v H1
theorem r_xf {a C : Addr} {cls : Value} {d : Option Addr} {f : Str} {te : TE} {σ : St} {H : Hp} {Q : VK} (q : te σ H (kXf a cls d C f Q)) : tXf a cls d C f te σ H Q := q
theorem r_kXf {a C dd : Addr} {f : Str} {H : Hp} {Q : VK} {fs : List (Str × V)} {v : V} (ed : H dd = some (.xd fs)) (l : fs.lookup f = some v) (q : Q v H) : kXf a (.ref C) (some dd) C f Q (.ref a) H := ⟨rfl, rfl, dd, fs, v, rfl, ed, l, q⟩
def UseCX (P : Program) (w : World) (K : PySem.W.Frag) (mg : Str → Option Value) (base : Heap) (n : Nat) (x : Str) (C : Addr) (sp : Sp) : Prop := ∃ f, FnR P w K mg base (L2.CX P w) n f sp ∧ Mk K C f ∧ mg x = some (.ref C)
theorem fnrX {P : Program} {w : World} {K : PySem.W.Frag} {mg : Str → Option Value} {base : Heap} {n : Nat} {f : Addr} {fd : FuncData} {ps : List Str} {sp : Sp} (F : FnOk P w K mg base (L2.CX P w) n f fd ps sp) (b : Binds K fd ps []) : FnR P w K mg base (L2.CX P w) n f sp :=
  (F.raw b .nil).imp fun vs H Q E h => by
    rw [List.append_nil]
    exact h
end Rd

set_option maxHeartbeats 4000000
/-! OwnNe: a != b by an own __eq__. -/
namespace PySem.W
open PySem PySem.Spec PySem.Calls PyProof.Rows
section
variable {prog : Program} {w : World} {A : Around} {E : Value → Shared → Prop} {s : Shared} {K : Frag} {x C : Addr} {ox : Obj} {od : Option Obj} {name : Str} {id B : String}
theorem ifBoundB_K {M : Model} {args : List Value} {Q : Option Value → Shared → Prop} (X : K.In s.heap) (I : InstAt s.heap x ox C od) (hs : findIn K (.ref C) name = some (some (.builtin id))) (S : Slot B name id)
    (h : wpAny M A (call (.builtin id) (.ref x :: args)) (fun v => Q (some v)) E s) : wpAny M A (callSpecialIfBound? (.ref x) name args) Q E s := by
  simp only [callSpecialIfBound?, bindSpecialIfBound?]
  refine wpAny_holding (wpAny_bind (wpAny_bind (wpAny_bind (I.type.here ((looks_findIn X hs).here ?_)))))
  simp only [S.bind]
  refine wpAny_bind (wpAny_askSetting (wpAny_ite ?_))
  have fin : wpAny M A (call (.builtin id) ([.ref x] ++ args) >>= fun v => pure (some v)) Q E s := wpAny_bind (wpAny_mono h (fun v s' h' => wpAny_pure h') fun _ _ h' => h')
  split
  · exact wpAny_bind (wpAny_pure (wpAny_pure fin))
  · exact wpAny_tryCatch (wpAny_bind (wpAny_pure (wpAny_pure fin)))
theorem check_ne {rest : List Value} {Q : Unit → Shared → Prop} (X : K.In s.heap) (I : InstAt s.heap x ox C od) (hm : mroIn K C (.type "object") = some true) (ha : argsOk "object.__ne__" ⟨.ref x :: rest, []⟩) (hq : Q () s) :
    wpAny (model prog w) A (checkBuiltinCall "object.__ne__" ⟨.ref x :: rest, []⟩) Q E s := by
  simp only [checkBuiltinCall, F.cmpKind_ne, F.cmpSplit_ne]
  refine wpAny_bind ?_
  have L : Looks (model prog w) s.heap (isInstance (.ref x) (.type "object")) true := Looks.andThen I.type (looks_mroIn (M := model prog w) X hm)
  refine wpAny_mono (L.here (Q := fun b s' => b = true ∧ s' = s) ⟨rfl, rfl⟩) (fun b s' h => ?_) fun _ _ z => z
  obtain ⟨rfl, rfl⟩ := h
  refine KFB.if_not rfl ?_
  cases hsig : Manifest.signature? "object.__ne__" with
  | none => exact wpAny_pure hq
  | some sig =>
    simp only [argsOk, hsig] at ha
    have h2 : Bind.checkArgs "object.__ne__" sig ⟨.ref x :: rest, []⟩ = pure () := ha
    show wpAny _ A (Bind.checkArgs "object.__ne__" sig ⟨.ref x :: rest, []⟩) Q E _
    rw [h2]
    exact wpAny_pure hq
theorem objNe_K {b : Value} {f : Addr} (X : K.In s.heap) (I : InstAt s.heap x ox C od) (he : findIn K (.ref C) "__eq__" = some (some (.ref f))) (hf : isFn K (.ref f) = true) (hu : A.units < cLine) {Q : Fin → Shared → Prop}
    (hcall : wpAny (model prog w) A (call (.ref f) [.ref x, b]) (fun v s' => ∃ c, v = .bool c ∧ Q (.done (.ret (.bool (!c)))) s') E s) :
    wpAny (model prog w) A (Builtin.«object.__ne__» ⟨[.ref x, b], []⟩) Q E s := by
  unfold Builtin.«object.__ne__»
  repeat (first
    | with_reducible refine wpAny_cRoomFor hu ?_
    | (refine wpAny_bind (m := callSpecialIfBound? (.ref x) (Str.ofString "__eq__") [b])
        (ifBound_K X I he hf (wpAny_mono hcall (fun r s' hr => by
          obtain ⟨c, rfl, hq⟩ := hr
          repeat (first | exact hq | exact wpAny_pure hq | exact wpAny_truthy_bool hq | (refine wpAny_bind (m := truthy (.bool _)) (wpAny_truthy_bool ?_)) | wp_step)) fun _ _ e => e)))
    | wp_step)
theorem ne_K {b tb : Value} {f : Addr} {h₀ : Heap} {L : Addr} {m : Str → Option Value} {Q : Value → Shared → Prop} (hu : A.units + 1 < cLine) (F : Fr h₀ L s.heap m) (X₀ : K.In h₀) (I : InstAt s.heap x ox C od) (hb : Looks (model prog w) s.heap (typeOf b) tb) (hn : notFirst K C tb = true)
    (hne : findIn K (.ref C) "__ne__" = some (some (.builtin "object.__ne__"))) (he : findIn K (.ref C) "__eq__" = some (some (.ref f))) (hf : isFn K (.ref f) = true) (hm : mroIn K C (.type "object") = some true)
    (h : wpAny (model prog w) A.in1 (call (.ref f) [.ref x, b]) (fun v s' => ∃ c, v = .bool c ∧ Q (.bool (!c)) s') E s) : wpAny (model prog w) A (richCompare .NotEq (.ref x) b) Q E s := by
  have X := X₀.keeps F.keep
  have one : wpAny (model prog w) A (tryCompare (.ref x) "__ne__" b) (fun r s' => ∃ v, r = some v ∧ Q v s') E s := by
    simp only [tryCompare]
    refine wpAny_bind (ifBoundB_K X I hne PySem.F.cmp_object.ne (wpAny_call (codeAny_call_builtin PySem.F.cmp_object.ne.plain PySem.F.cmpEntry_ne
      (check_ne X I hm (PySem.F.cmpArgs_ne _ _) (objNe_K (A := A.in1) X I he hf hu (wpAny_mono h (fun v s' hv => ?_) fun _ _ e => e))))))
    obtain ⟨c, rfl, hq⟩ := hv
    exact ⟨c, rfl, wpAny_pure ⟨_, rfl, hq⟩⟩
  unfold richCompare
  simp only [oneThing_ref]
  refine wpAny_holding (wpAny_bind (wpAny_cRoomFor (Nat.lt_of_succ_lt hu) ?_))
  rw [cmpInfo_NotEq]
  refine wpAny_bind (I.type.here (wpAny_bind (hb.here ?_)))
  split
  · rename_i q
    have e : subIn K tb (.ref C) = some false := by
      rcases Bool.or_eq_true_iff.mp hn with e | e
      · rw [beq_iff_eq.mp e] at q; simp at q
      · exact beq_iff_eq.mp e
    refine wpAny_bind ((looks_subIn X e).here ?_)
    simp only [Bool.false_eq_true, if_false]
    refine wpAny_bind (wpAny_mono one (fun r s' z => ?_) fun _ _ e => e)
    obtain ⟨v, rfl, hq⟩ := z
    exact wpAny_pure hq
  · refine wpAny_bind (wpAny_pure ?_)
    simp only [Bool.false_eq_true, if_false]
    refine wpAny_bind (wpAny_mono one (fun r s' z => ?_) fun _ _ e => e)
    obtain ⟨v, rfl, hq⟩ := z
    exact wpAny_pure hq
end
end PySem.W

set_option maxHeartbeats 4000000
/-! TupIt: iter(t) of a tuple: the iterator as an object of the heap. -/
namespace Rd
open PySem PySem.Spec L2 StX PyProof.Rows
def tiObj (t : Addr) : Obj := { cls := .type "tuple_iterator", data := .fields #[.ref t, .int 0 0] }
/-- at it an iterator over the tuple at t, i turns done -/
def TiO (t it : Addr) (i : Nat) : HO := .ext fun h => h.IsTupleIter it t i
section
variable {prog : Program} {w : World} {A : Around} {E : Value → Shared → Prop} {s : Shared} {t it : Addr}
theorem call_iter_tup {items : Array Value} {Q : Value → Shared → Prop} (hl : s.heap.IsTuple t items) (h : Q (.ref s.heap.objs.size) { s with heap := s.heap.push (tiObj t) }) : wpAny (model prog w) A (call (.builtin "iter") [.ref t]) Q E s := by
  refine Calls.call_function_entry (by decide +kernel) (by decide +kernel) PySem.W.kdk_entry_iter (PySem.W.kdk_args_iter _) ?_
  unfold Builtin.«iter»
  refine wpAny_bind (m := someArgs "iter" 1 2 _) (wpAny_of_eq (a := [Value.ref t]) (by first | rfl | kernel_rfl!) ?_)
  show wpAny _ _ (pyIter (.ref t) >>= _) _ _ _
  refine wpAny_bind (wpAny_pyIter_tuple hl ?_)
  exact wpAny_pure ⟨_, rfl, h⟩
theorem tiO_ok {P : Program} {H : Hp} {h : Heap} {i : Nat} (e : h.IsTupleIter it t i) : ObjOk P w H h it (TiO t it i) := ⟨e, ⟨_, e.choose_spec.1⟩, fun h1 h2 q k => Heap.IsTupleIter.at q fun o e => k o e⟩
variable {X : Cx} {pins : List (Addr × Obj)} {σ : L2.St} {H : Hp}
theorem tiO_get {i : Nat} (I : Inv X pins σ H s) (e : H it = some (TiO t it i)) : s.heap.IsTupleIter it t i := (I.hok it _ e).1
def rIterT (K : PySem.W.Frag) : List V → Hp → VK → Prop := fun xs H Q => ∃ (t : Addr) (zs : List V), xs = [.ref t] ∧ SqT K H t zs ∧ ∀ it, H it = none → Q (.ref it) (upd H it (TiO t it 0))
theorem call_iterT : CallR X (.builtin "iter") (rIterT X.K) := by
  intro pins s σ H xs us Q I r h
  obtain ⟨t, zs, rfl, hq, q⟩ := h
  obtain rfl := Vals.ref1 r
  obtain ⟨its, rv, pl, hz⟩ := I.tuple hq
  refine call_iter_tup pl ?_
  exact ⟨.ref s.heap.objs.size, _, I.laid (t' := s.toks) (fun b u e => Heap.get?_push_of_some _ e) (Nat.le_refl _) (tiO_ok ⟨_, Heap.get?_push_size _ rfl, rfl, rfl⟩), rfl, q _ (I.hok.fresh (Nat.le_refl _))⟩
theorem r_iterT {K : PySem.W.Frag} {Q : VK} {zs : List V} (h : SqT K H t zs) (q : ∀ it H', H it = none → Kp [] H H' → H' it = some (TiO t it 0) → Q (.ref it) H') : rIterT K [.ref t] H Q := ⟨t, zs, rfl, h, fun it n => q it _ n (Kp.new n) upd_same⟩
theorem K_iterT {K : PySem.W.Frag} (hK : X.K = K) : CallR X (.builtin "iter") (rIterT K) := by
  subst hK
  exact call_iterT
/-- an iterator that has ended -/
def TiE (it : Addr) : HO := .ext fun h => ∃ o, h.get? it = some o
theorem tiE_ok {P : Program} {H : Hp} {h : Heap} (e : ∃ o, h.get? it = some o) : ObjOk P w H h it (TiE it) := ⟨e, e, fun h1 h2 q k => let ⟨o, e⟩ := q; ⟨o, k o e⟩⟩
theorem ti_end {i : Nat} {items : Array Value} {Q : Option Value → Shared → Prop} (hh : A.handled = none) (hit : s.heap.IsTupleIter it t i) (ht : s.heap.IsTuple t items) (hx : items[i]? = none)
    (hQ : ∀ h', (∃ o, h'.get? it = some o) → Heap.ExtBut it s.heap h' → Q none { s with heap := h' }) : wpAny (model prog w) A (pyNext (.ref it)) Q E s := by
  obtain ⟨o, ho, hc, hd⟩ := id hit
  obtain ⟨ol, hol, _, nl, hdl⟩ := ht
  unfold pyNext
  refine wpAny_bind (wpAny_attempt (wpAny_callSpecial?_slot (name := Str.ofString "__next__") hit.typeIs PySem.F.slot_tuple_iterator_next
    (wpAny_call_entry PySem.F.slot_tuple_iterator_next hit.typeIs PySem.F.entry_tuple_iterator_next ?_ (PySem.F.args_tuple_iterator_next_1 _))))
  show wpAny _ _ (field (.ref it) 0 >>= _) _ _ s
  refine wpAny_bind (wpAny_field ho hd (x := .ref t) rfl ?_)
  show wpAny _ _ (if (Value.ref t == Value.none) = true then _ else _) _ _ s
  rw [if_neg (show ¬ ((Value.ref t == Value.none) = true) from Bool.false_ne_true)]
  show wpAny _ _ (field (.ref it) 1 >>= _) _ _ s
  refine wpAny_bind (wpAny_field ho hd (x := .int i 0) rfl ?_)
  show wpAny _ _ (seqItems? (.ref t) >>= _) _ _ s
  refine wpAny_bind (wpAny_seqItems hol hdl ?_)
  simp only [Int.toNat_natCast, hx]
  refine wpAny_bind (wpAny_rule (wpAny_bind (wpAny_setField ho hd (by simp) ?_)))
  show wpAny _ _ (newExc (.type "StopIteration") [] >>= _) _ _ _
  refine wpAny_bind ?_
  simp only [newExc, newTuple]
  refine wpAny_bind (wpAny_newObj_type ?_ (by size_fits))
  refine wpAny_bind (m := firstArgMember _ _) (wpAny_of_eq (a := Value.none) (by first | rfl | (simp only [firstArgMember]; rfl)) ?_)
  refine wpAny_newObj_type ?_ (by size_fits)
  simp only [raiseNew]
  refine wpAny_bind (wpAny_handled ?_)
  first | rw [show A.in1.handled = none from hh] | rw [hh]
  refine wpAny_bind (wpAny_pure (wpAny_throw ?_))
  refine wpAny_bind (wpAny_isInstance (T := "StopIteration") (b := true) ⟨_, Heap.get?_push_size _ rfl, rfl⟩ isSubtype_stop ?_)
  refine wpAny_pure (hQ _ ⟨_, Heap.get?_push_of_some _ (Heap.get?_push_of_some _ (Heap.get?_update_self _ ho (Obj.isFreed_of_fields (Obj.data_mapFields hd _))))⟩ (((Heap.SameBut.update ..).extBut.push _).push _))
/-- the iterator's items go into a list -/
theorem ti_fill {xs : List V} {q : Addr} {A1 : Around} {Rs : Result → Shared → Prop} (hc : X.calm = true) (hA : A1.handled = none) (t1 : t ≠ it) (t2 : t ≠ q) : ∀ (m i : Nat) (H : Hp) (s : Shared), xs.length - i = m → i ≤ xs.length → Inv X pins σ H s → H it = some (TiO t it i) → SqT X.K H t xs → H q = some (.lst (xs.take i)) →
    (∀ H' s', Inv X pins σ H' s' → Kp [it, q] H H' → H' q = some (.lst xs) → Rs (.ok (.ret .none)) s') → codeAny (model X.prog X.w) A1 (.builtin "list.extend.loop" ⟨[.ref q, .ref it, .none], []⟩) Rs s := by
  intro m
  induction m with
  | zero =>
    intro i H s hm hi I ei ht eq hR
    have hin : i = xs.length := by omega
    subst hin
    obtain ⟨its, rv, p, hz⟩ := I.tuple ht
    have hl := rv.length
    refine codeAny_builtin PySem.F.entry_extend_loop ?_
    rw [Around.under_plainId PySem.F.plain_extend_loop _]
    show wpAny _ A1.in1 (pyNext (.ref it) >>= _) _ _ s
    refine wpAny_bind (ti_end hA (tiO_get I ei) (show s.heap.IsTuple t its.toArray from p) (by simp; omega) fun h' eo eb => ?_)
    have mu : Mut (H it) := by rw [ei]; exact True.intro
    have I1 : L2.Inv X pins σ (upd H it (TiE it)) { s with heap := h' } := I.write (x := it) (e := it) (t' := s.toks) mu (.inl rfl) (fun b o nb z => eb b o nb z) eo (tiE_ok eo)
    have qi : q ≠ it := fun e => by
      rw [e, ei] at eq
      cases eq
    refine wpAny_pure (hR _ _ I1 (Kp.put List.mem_cons_self) ?_)
    rw [upd_ne qi, eq, List.take_length]
  | succ m ih =>
    intro i H s hm hi I ei ht eq hR
    obtain ⟨its, rv, p, hz⟩ := I.tuple ht
    have hl := rv.length
    have hix : i < xs.length := by omega
    obtain ⟨u, hu, ru⟩ := rv.get (List.getElem?_eq_getElem hix)
    have qi : q ≠ it := fun e => by
      rw [e, ei] at eq
      cases eq
    refine codeAny_builtin PySem.F.entry_extend_loop ?_
    rw [Around.under_plainId PySem.F.plain_extend_loop _]
    show wpAny _ A1.in1 (pyNext (.ref it) >>= _) _ _ s
    refine wpAny_bind (wpAny_pyNext_tuple_item (tiO_get I ei) (show s.heap.IsTuple t its.toArray from p) (x := u) (by simpa using hu) fun h' st' sb => ?_)
    have mu : Mut (H it) := by rw [ei]; exact True.intro
    have I1 : L2.Inv X pins σ (upd H it (TiO t it (i + 1))) { s with heap := h' } := I.write (x := it) (e := it) (t' := s.toks) mu (.inl rfl) (fun b o nb z => (sb.2 b nb).trans z) ⟨_, st'.choose_spec.1⟩ (tiO_ok st')
    have eq1 : upd H it (TiO t it (i + 1)) q = some (.lst (xs.take i)) := by rw [upd_ne qi, eq]
    obtain ⟨z, its2, k, r2, hl2, e⟩ := I1.lstM eq1
    show wpAny _ A1.in1 (updateSeq q (·.push u) >>= _) _ _ _
    refine wpAny_bind (wpAny_updateSeq e rfl (wpAny_pure ⟨plainId_quiet PySem.F.plain_extend_loop _, ?_⟩) (by rw [List.size_toArray]; omega) (by show (its2.toArray.push u).size ≤ sizeLine + 1; rw [Array.size_push, List.size_toArray]; omega))
    have I2 := I1.lset (f := (·.push u)) (its := its2) (its' := its2 ++ [u]) (ys := xs.take i ++ [xs[i]]) (t' := s.toks) eq1 e (by simp) (r2.append (.cons ru .nil)) (by rw [List.length_append, List.length_take, List.length_singleton]; omega)
    have hI : it ≠ q := qi.symm
    refine ih (i + 1) _ _ (by omega) hix I2 ?_ ?_ ?_ fun H' s' I' k' e' => hR H' s' I' ?_ e'
    · rw [upd_ne hI, upd_same]
    · exact sqt_kp (sqt_kp ht (Kp.put (ex := [it]) List.mem_cons_self) (not_one t1)) (Kp.put (ex := [q]) List.mem_cons_self) (not_one t2)
    · rw [upd_same, ← List.take_succ_eq_append_getElem hix]
    · exact ((Kp.put List.mem_cons_self).trans (Kp.put (List.mem_cons_of_mem _ List.mem_cons_self))).trans k'
end
end Rd

set_option maxHeartbeats 4000000
/-! OwnList: list(o), o's own __iter__ returns an iterator over a tuple, with an own __len__. -/
namespace Rd
open PySem PySem.Spec L2 PyProof.Rows
section
variable {X : Cx} {pins : List (Addr × Obj)} {σ : L2.St} {H : Hp} {s : Shared} {a C dx f : Addr} {fs : List (Str × V)} {sp : Sp} {n : Nat} {E : Value → Shared → Prop} {A1 : Around}
theorem ol_hint {R : Hp → Prop} {Q : Bool → Shared → Prop} (sb : Sub X n A1.in1) (hm : Meth X.K C "__len__" f) (F : FnR X.prog X.w X.K X.mg X.base CX0 n f sp) (I : Inv X pins σ H s) (ea : H a = some (.ins C dx fs))
    (q : sp [.ref a] H (fun v H' => ∃ k : Int, v = .int k ∧ 0 ≤ k ∧ k < 1000 ∧ R H') E0) (hQ : ∀ b H' s', Inv X pins σ H' s' → R H' → Q b s') :
    wpAny (model X.prog X.w) A1 (Builtin.List.listLengthHint (.ref a)) Q E s := by
  obtain ⟨mA, J, _⟩ := ins_get I.hok ea
  obtain ⟨od, J, _⟩ := J.look
  obtain ⟨m, hF⟩ := I.fr
  unfold Builtin.List.listLengthHint
  refine wpAny_bind (wpAny_bind (J.type.here ((PySem.W.looks_findIn I.kIn hm.at_).here ?_)))
  refine PySem.W.KFB.if_not rfl ?_
  refine PySem.W.KFB.if_so rfl ?_
  refine wpAny_bind (wpAny_rule ?_)
  refine wpAny_bind (wpAny_attempt ?_)
  have e0 : Env0 X.prog X.w X.K X.mg X.base A1.in1 X.stack s H := by
    have e := I.env0
    exact ⟨by rw [sb.fr]; exact e.frames, e.mod, e.bs, e.bsz, e.funs, e.frf, e.hok, e.bare⟩
  refine PySem.W.len_K hF I.ok.mod.kin J hm.at_ hm.fn (wpAny_call (codeAny_mono (F A1.in1 X.stack s H [.ref a] [.ref a] _ E0 sb.room e0 (.cons rfl .nil) q) fun r s' z => ?_))
  cases r with
  | error e => exact False.elim z
  | ok fl =>
    cases fl with
    | ret u =>
      obtain ⟨z', H', I', rz, k, rfl, k0, k1, qz⟩ := I.after z
      obtain ⟨t, e⟩ := (show ∃ t, u = Value.int k t from rz)
      cases e
      refine ⟨⟨k0, by omega⟩, ?_⟩
      refine wpAny_bind (wpAny_pure ?_)
      refine PySem.W.KFB.if_not (decide_eq_false (by have : 1000 < sizeLine := by decide
                                                     omega)) ?_
      exact wpAny_pure (hQ _ H' _ (I'.tok _) qz)
    | next => exact False.elim z
    | brk => exact False.elim z
    | cont => exact False.elim z
/-- list(o): __iter__ gives an iterator over the tuple of xs, __len__ a number -/
def rListOwn (K : PySem.W.Frag) (C : Addr) (spI spL : Sp) : List V → Hp → VK → Prop := fun vs H Q => ∃ a dx fs t xs, vs = [.ref a] ∧ H a = some (.ins C dx fs) ∧ SqT K H t xs ∧
  ∀ q, H q = none → spI [.ref a] (upd H q (.lst [])) (fun v H1 => ∃ it, v = .ref it ∧ t ≠ it ∧ H1 it = some (TiO t it 0) ∧ Kp [] (upd H q (.lst [])) H1 ∧
    spL [.ref a] H1 (fun v H2 => ∃ k : Int, v = .int k ∧ 0 ≤ k ∧ k < 1000 ∧ Kp [] H1 H2 ∧ ∀ H3, Kp [it, q] H2 H3 → H3 q = some (.lst xs) → Q (.ref q) H3) E0) E0
theorem next_ti {it t : Addr} {i : Nat} {M : Model} {Q : Value → Shared → Prop} (h : s.heap.IsTupleIter it t i) (q : Q (.ref it) s) : PySem.W.OwitIt M A1 Q E (.ref it) s := by
  unfold PySem.W.OwitIt
  exact wpAny_specialOf h.typeIs PySem.F.slot_tuple_iterator_next.lookup q
variable {fi fl : Addr} {spI spL : Sp}
theorem call_listOwnT (hc : X.calm = true) (it_ : PySem.W.findIn X.K (.ref C) "__iter__" = some (some (.ref fi))) (itF : PySem.W.isFn X.K (.ref fi) = true) (FI : FnR X.prog X.w X.K X.mg X.base CX0 n fi spI)
    (hl : Meth X.K C "__len__" fl) (FL : FnR X.prog X.w X.K X.mg X.base CX0 n fl spL) (hr : Room (n + 3) X.A) : CallR X (.type "list") (rListOwn X.K C spI spL) := by
  intro pins s σ H xs us Q I rv h
  obtain ⟨a, dx, fs, t, xs, rfl, ha, ht, hq⟩ := h
  obtain ⟨u, rfl, ru⟩ := rv.one
  cases ru
  have sb : Sub X (n + 1) X.A.in1.in1 := (Sub.in1 (Sub.in1 (⟨hr, rfl⟩ : Sub X (n + 3) X.A)))
  have sb3 : Sub X n X.A.in1.in1.in1 := Sub.in1 sb
  refine callType_codes (Q₁ := fun obj s₁ => obj = .ref s.heap.objs.size ∧ s₁ = { s with heap := s.heap.push { cls := .type "list", data := .seq #[] } }) PySem.F.called_list (PySem.F.typeCall_list_1 _) PySem.F.entry_list_init
    (code_list_new _ ⟨rfl, rfl⟩) fun obj s₁ h₁ => ?_
  obtain ⟨rfl, rfl⟩ := h₁
  have hS : (s.heap.push { cls := .type "list", data := .seq #[] }).get? s.heap.objs.size = some { cls := .type "list", data := .seq #[] } := Heap.get?_push_size _ rfl
  refine ⟨⟨_, hS, rfl⟩, PySem.F.args_list_init_2 _ _, ?_⟩
  have fr : H s.heap.objs.size = none := I.hok.fresh (Nat.le_refl _)
  have hsp := hq _ fr
  have I1 : Inv X pins σ (upd H s.heap.objs.size (.lst [])) { s with heap := s.heap.push { cls := .type "list", data := .seq #[] } } := I.lnew (its := []) (t' := s.toks) .nil (Nat.zero_le _)
  show wpAny _ _ (do let old ← Builtin.List.listItems (.ref s.heap.objs.size); Builtin.List.listUpdate (.ref s.heap.objs.size) (fun _ => #[]); letGo old.toList.reverse; Builtin.List.listExtendWith (.ref s.heap.objs.size) (.ref a) .none) _ _ _
  refine wpAny_bind ?_
  unfold Builtin.List.listItems
  refine wpAny_bind (wpAny_seqItems hS rfl (wpAny_pure ?_))
  show wpAny _ _ (updateSeq s.heap.objs.size (fun _ => #[]) >>= fun _ => letGo (#[] : Array Value).toList.reverse >>= fun _ => Builtin.List.listExtendWith (.ref s.heap.objs.size) (.ref a) .none) _ _ _
  refine wpAny_bind (wpAny_updateSeq hS rfl ?_)
  have I2 := I1.lset (f := fun _ => #[]) (its := []) (its' := []) (ys := []) (t' := s.toks) upd_same hS rfl .nil (Nat.zero_le _)
  rw [upd_upd] at I2
  refine wpAny_bind (wpAny_letGo ?_)
  have ha2 : upd H s.heap.objs.size (.lst []) a = some (.ins C dx fs) := by rw [upd_ne (ne_of_none ha fr)]; exact ha
  have hne : s.heap.objs.size ≠ a := fun e => by rw [← e, fr] at ha; cases ha
  obtain ⟨mA, J, _⟩ := ins_get I2.hok ha2
  obtain ⟨od, J, _⟩ := J.look
  obtain ⟨m0, hF⟩ := I2.fr
  unfold Builtin.List.listExtendWith
  refine wpAny_bind (J.type.here ?_)
  have h1 : Builtin.List.listSameRef (.ref s.heap.objs.size) (.ref a) = false := by simp [Builtin.List.listSameRef, hne]
  have h2 : (Value.ref C == Value.type "list") = false := rfl
  have h3 : (Value.ref C == Value.type "tuple") = false := rfl
  simp only [h1, h2, h3, Bool.or_false, Bool.false_eq_true, if_false]
  refine wpAny_bind (PySem.W.owit_iter hF I2.ok.mod.kin J it_ itF ?_)
  have e := I2.env0
  refine wpAny_call (codeAny_mono (FI X.A.in1.in1 X.stack _ _ [.ref a] [.ref a] _ E0 (sb.room.mono (Nat.le_succ n)) ⟨by rw [sb.fr]; exact e.frames, e.mod, e.bs, e.bsz, e.funs, e.frf, e.hok, e.bare⟩ (.cons rfl .nil) hsp) fun r s' z => ?_)
  cases r with
  | error e => exact False.elim z
  | ok fo =>
    cases fo with
    | next => exact False.elim z
    | brk => exact False.elim z
    | cont => exact False.elim z
    | ret u =>
      obtain ⟨v, H1, I3, rv, it, rfl, ti, eit, k1, hsp2⟩ := I2.after z
      cases (show u = Value.ref it from rv)
      refine next_ti (tiO_get I3 eit) ?_
      refine wpAny_bind (wpAny_holding (ol_hint (E := _) (R := fun H2 => Kp [] H1 H2 ∧ ∀ H3, Kp [it, s.heap.objs.size] H2 H3 → H3 s.heap.objs.size = some (.lst xs) → Q (.ref s.heap.objs.size) H3) sb3 hl FL I3 (k1 _ _ ha2 not_nil) hsp2 fun b H2 s2 I4 hR => ?_))
      obtain ⟨k2, qq⟩ := hR
      have hq1 : (upd H s.heap.objs.size (.lst [])) s.heap.objs.size = some (.lst []) := upd_same
      have hq2 := k2 _ _ (k1 _ _ hq1 not_nil) not_nil
      have eit2 := k2 _ _ eit not_nil
      have tq : t ≠ s.heap.objs.size := fun e => by
        obtain ⟨its, rv, p, _⟩ := I.tuple ht
        obtain ⟨o, ho, _⟩ := p
        rw [e] at ho
        exact absurd ho (by rw [PyProof.Rows.new_of_ge (Nat.le_refl _)]; simp)
      have ht2 : SqT X.K H2 t xs := sqt_kp (sqt_kp (sqt_kp ht (Kp.new fr) not_nil) k1 not_nil) k2 not_nil
      refine wpAny_ite_split (fun _ => ?_) (fun _ => wpAny_pure ⟨plainId_quiet PySem.F.plain_extend_loop _, ti_fill (A1 := X.A.in1) hc (show X.A.in1.handled = none from I4.ok.hd hc) ti tq _ 0 H2 s2 rfl (Nat.zero_le _) I4 eit2 ht2 hq2 fun H3 s3 I5 k3 e3 => ⟨rfl, .ref s.heap.objs.size, H3, I5, rfl, qq H3 k3 e3⟩⟩)
      obtain ⟨z, its, k, r3, hl3, e3⟩ := I4.lstM hq2
      cases r3
      refine wpAny_bind (wpAny_rule ?_)
      refine wpAny_bind ?_
      show wpAny _ _ (updateSeq s.heap.objs.size (·.push .none) >>= fun _ => updateSeq s.heap.objs.size (·.pop)) _ _ _
      refine wpAny_bind (wpAny_updateSeq e3 rfl ?_)
      have J2 := I4.lset (f := (·.push Value.none)) (its' := [Value.none]) (ys := [.non]) (t' := s2.toks) hq2 e3 (by simp) (.cons rfl .nil) (by rw [List.length_singleton, sizeLine_eq]; decide)
      obtain ⟨z4, its4, k4, r4, hl4, e4⟩ := J2.lstM upd_same
      obtain ⟨u4, rfl, ru4⟩ := r4.one
      have J3 := J2.lset (f := (·.pop)) (its := [u4]) (its' := []) (ys := []) (t' := s2.toks) upd_same e4 (by rfl) .nil (Nat.zero_le _)
      rw [upd_upd] at J3
      have hH : upd H2 s.heap.objs.size (.lst []) = H2 := by
        funext b
        by_cases hb : b = s.heap.objs.size
        · rw [hb, upd_same, hq2]
        · rw [upd_ne hb]
      rw [hH] at J3
      refine wpAny_updateSeq e4 rfl ?_ (by show 1 ≤ sizeLine; rw [sizeLine_eq]; decide) (by show 0 ≤ sizeLine + 1; exact Nat.zero_le _)
      exact wpAny_pure ⟨plainId_quiet PySem.F.plain_extend_loop _, ti_fill (A1 := X.A.in1) hc (show X.A.in1.handled = none from I4.ok.hd hc) ti tq _ 0 H2 _ rfl (Nat.zero_le _) J3 eit2 ht2 hq2 fun H3 s3 I5 k3 e3 => ⟨rfl, .ref s.heap.objs.size, H3, I5, rfl, qq H3 k3 e3⟩⟩
end
end Rd

set_option maxHeartbeats 4000000
/-! OwnEq: != by an own __eq__; == of an own object and data; list(o) with K named. -/
namespace Rd
open PySem PySem.Spec L2
/-- x != y, both of the class at C -/
def rNeOwn (C : Addr) (sp : Sp) : R2 := fun x y H Q => ∃ a dx fs b dy gs, x = .ref a ∧ y = .ref b ∧ H a = some (.ins C dx fs) ∧ H b = some (.ins C dy gs) ∧ sp [.ref a, .ref b] H (fun z H' => ∃ c, z = .bl c ∧ Q (.bl (!c)) H') E0
/-- x == y, x of the class at C, y of another type -/
def rEqOth (K : PySem.W.Frag) (C : Addr) (sp : Sp) : R2 := fun x y H Q => ∃ a dx fs t, x = .ref a ∧ H a = some (.ins C dx fs) ∧ TyX K H y t ∧ PySem.W.notFirst K C t = true ∧ sp [.ref a, y] H (fun z H' => ∃ c, z = .bl c ∧ Q (.bl c) H') E0
section
variable {X : Cx} {n : Nat} {C f : Addr} {sp : Sp}
theorem op_neOwn (hm : Meth X.K C "__eq__" f) (F : FnR X.prog X.w X.K X.mg X.base CX0 n f sp) (hr : Room n X.A) (hne : PySem.W.findIn X.K (.ref C) "__ne__" = some (some (.builtin "object.__ne__"))) (ho : PySem.W.mroIn X.K C (.type "object") = some true)
    (hr1 : Room (n + 1) X.A) : OpR X (compareOp .NotEq) (rNeOwn C sp) := by
  intro pins s σ H x y v u Q I rx ry h
  obtain ⟨a, dx, fs, b, dy, gs, rfl, rfl, ea, eb, q⟩ := h
  cases (show v = Value.ref a from rx)
  cases (show u = Value.ref b from ry)
  obtain ⟨mA, O, _⟩ := ins_get I.hok ea
  obtain ⟨od, J, _⟩ := O.look
  obtain ⟨mB, O', _⟩ := ins_get I.hok eb
  obtain ⟨od', J', _⟩ := O'.look
  obtain ⟨m, hF⟩ := I.fr
  have nf : PySem.W.notFirst X.K C (.ref C) = true := by
    unfold PySem.W.notFirst
    simp
  refine PySem.W.ne_K (tb := .ref C) (by have := hr1.units; have := hr.units; omega) hF I.ok.mod.kin J J'.type nf hne hm.at_ hm.fn ho ?_
  refine wpAny_call (codeAny_mono (F X.A.in1 X.stack s H [.ref a, .ref b] [.ref a, .ref b] _ E0 hr1.in1 I.env0.in1 (.cons rfl (.cons rfl .nil)) q) fun r s' z => ?_)
  cases r with
  | error e => exact False.elim z
  | ok fl =>
    cases fl with
    | ret u =>
      obtain ⟨z', H', I', rz, c, rfl, qz⟩ := I.after z
      cases (show u = Value.bool c from rz)
      exact ⟨c, rfl, .bl (!c), H', I'.tok _, rfl, qz⟩
    | next => exact False.elim z
    | brk => exact False.elim z
    | cont => exact False.elim z
theorem op_eqOth (hm : Meth X.K C "__eq__" f) (F : FnR X.prog X.w X.K X.mg X.base CX0 n f sp) (hr : Room n X.A) : OpR X (compareOp .Eq) (rEqOth X.K C sp) := by
  intro pins s σ H x y v u Q I rx ry h
  obtain ⟨a, dx, fs, t, rfl, ea, ty, nf, q⟩ := h
  cases (show v = Value.ref a from rx)
  obtain ⟨mA, O, _⟩ := ins_get I.hok ea
  obtain ⟨od, J, _⟩ := O.look
  obtain ⟨P, Z, p, hx⟩ := kit_of I ry ty
  obtain ⟨m, hF⟩ := I.fr
  refine PySem.W.cmp_K (op := .Eq) (tb := t) hr.units0 hF I.ok.mod.kin J (Z.ty _ _ I.kIn p) nf hm.at_ hm.fn ?_
  refine wpAny_mono (wpAny_call (run_fnR (us := [.ref a, u]) (vs := [.ref a, y]) F hr pass0 I (.cons rfl (.cons ry .nil)) q)) (fun r s' z => ?_) fun _ _ x => x
  obtain ⟨z', H', I', rz, c, rfl, qz⟩ := z
  cases (show r = Value.bool c from rz)
  exact ⟨.bl c, H', I', rfl, qz⟩
theorem K_eqOth {K : PySem.W.Frag} (hK : X.K = K) (hm : Meth K C "__eq__" f) (F : FnR X.prog X.w K X.mg X.base CX0 n f sp) (hr : Room n X.A) : OpR X (compareOp .Eq) (rEqOth K C sp) := by
  subst hK
  exact op_eqOth hm F hr
theorem K_listOwn {K : PySem.W.Frag} {fi fl : Addr} {spI spL : Sp} (hK : X.K = K) (hc : X.calm = true) (hi : Meth K C "__iter__" fi) (FI : FnR X.prog X.w K X.mg X.base CX0 n fi spI)
    (hl : Meth K C "__len__" fl) (FL : FnR X.prog X.w K X.mg X.base CX0 n fl spL) (hr : Room (n + 3) X.A) : CallR X (.type "list") (rListOwn K C spI spL) := by
  subst hK
  exact call_listOwnT hc hi.at_ hi.fn FI hl FL hr
end
section
variable {H : Hp} {Q : VK} {C a b dx dy t : Addr} {fs gs : List (Str × V)} {sp spI spL : Sp} {y : V} {xs : List V} {K : PySem.W.Frag} {ty : Value} {c : Bool}
def kNeg (Q : VK) : VK := fun z H' => ∃ c, z = .bl c ∧ Q (.bl (!c)) H'
def kYes (Q : VK) : VK := fun z H' => ∃ c, z = .bl c ∧ Q (.bl c) H'
theorem r_neOwn (e : H a = some (.ins C dx fs)) (e' : H b = some (.ins C dy gs)) (q : sp [.ref a, .ref b] H (kNeg Q) E0) : rNeOwn C sp (.ref a) (.ref b) H Q := ⟨a, dx, fs, b, dy, gs, rfl, rfl, e, e', q⟩
theorem r_eqOwn (e : H a = some (.ins C dx fs)) (e' : H b = some (.ins C dy gs)) (q : sp [.ref a, .ref b] H (kYes Q) E0) : rEqOwn C sp (.ref a) (.ref b) H Q := ⟨a, dx, fs, b, dy, gs, rfl, rfl, e, e', q⟩
theorem r_eqOth (e : H a = some (.ins C dx fs)) (h : TyX K H y ty) (n : PySem.W.notFirst K C ty = true) (q : sp [.ref a, y] H (kYes Q) E0) : rEqOth K C sp (.ref a) y H Q := ⟨a, dx, fs, ty, rfl, e, h, n, q⟩
theorem r_kNeg (q : Q (.bl (!c)) H) : kNeg Q (.bl c) H := ⟨c, rfl, q⟩
theorem r_kYes (q : Q (.bl c) H) : kYes Q (.bl c) H := ⟨c, rfl, q⟩
/-- list(o) -/
def kLoI (spL : Sp) (a t : Addr) (xs : List V) (q : Addr) (H0 : Hp) (Q : VK) : VK := fun v H1 => ∃ it, v = .ref it ∧ t ≠ it ∧ H1 it = some (TiO t it 0) ∧ Kp [] H0 H1 ∧
    spL [.ref a] H1 (fun v H2 => ∃ k : Int, v = .int k ∧ 0 ≤ k ∧ k < 1000 ∧ Kp [] H1 H2 ∧ ∀ H3, Kp [it, q] H2 H3 → H3 q = some (.lst xs) → Q (.ref q) H3) E0
def kLoL (it q : Addr) (xs : List V) (H1 : Hp) (Q : VK) : VK := fun v H2 => ∃ k : Int, v = .int k ∧ 0 ≤ k ∧ k < 1000 ∧ Kp [] H1 H2 ∧ ∀ H3, Kp [it, q] H2 H3 → H3 q = some (.lst xs) → Q (.ref q) H3
theorem r_listOwn (e : H a = some (.ins C dx fs)) (ht : SqT K H t xs) (q : ∀ q H0, H q = none → Kp [] H H0 → H0 q = some (.lst []) → spI [.ref a] H0 (kLoI spL a t xs q H0 Q) E0) : rListOwn K C spI spL [.ref a] H Q := ⟨a, dx, fs, t, xs, rfl, e, ht, fun p n => q p _ n (Kp.new n) upd_same⟩
theorem r_kLoI {H0 : Hp} {it q : Addr} (n : t ≠ it) (e : H it = some (TiO t it 0)) (k : Kp [] H0 H) (h : spL [.ref a] H (kLoL it q xs H Q) E0) : kLoI spL a t xs q H0 Q (.ref it) H := ⟨it, rfl, n, e, k, h⟩
theorem r_kLoL {H1 : Hp} {it q : Addr} {k : Int} (k0 : 0 ≤ k) (k1 : k < 1000) (kk : Kp [] H1 H) (h : ∀ H3, Kp [it, q] H H3 → H3 q = some (.lst xs) → Q (.ref q) H3) : kLoL it q xs H1 Q (.int k) H := ⟨k, rfl, k0, k1, kk, h⟩
end
end Rd

set_option maxHeartbeats 4000000
/-! Fam: objects of some classes with a common base: ==, properties, str; super().m(..) of an own class. -/
namespace Rd
open PySem PySem.Spec L2 NdefX PyProof.Rows
/-! ### x == y by the base's __eq__ -/
def rEqFam (K : PySem.W.Frag) (S : Addr → Prop) (sp : Sp) : R2 := fun x y H Q => ∃ a C dx fs t, x = .ref a ∧ H a = some (.ins C dx fs) ∧ S C ∧ TyX K H y t ∧ PySem.W.notFirst K C t = true ∧ sp [.ref a, y] H (kYes Q) E0
def cStrFam (S : Addr → Prop) (sp : Sp) : R1 := fun xs H Q => ∃ a C dx fs, xs = [.ref a] ∧ H a = some (.ins C dx fs) ∧ S C ∧ sp [.ref a] H (fun z H' => ∃ y, z = .str y ∧ Q (.str y) H') E0
def kPropF (S : Addr → Prop) (sp : Sp) (Q : VK) : VK := fun x H1 => ∃ a C dx fs, x = .ref a ∧ H1 a = some (.ins C dx fs) ∧ S C ∧ sp [.ref a] H1 Q E0
def tPropF (S : Addr → Prop) (sp : Sp) (ta : TE) : TE := fun σ H Q => ta σ H (kPropF S sp Q)
section
variable {X : Cx} {n : Nat} {f p g : Addr} {sp : Sp} {S : Addr → Prop} {K : PySem.W.Frag}
theorem K_eqFam (hK : X.K = K) (hm : ∀ C, S C → Meth K C "__eq__" f) (F : FnR X.prog X.w K X.mg X.base CX0 n f sp) (hr : Room n X.A) : OpR X (compareOp .Eq) (rEqFam K S sp) := by
  subst hK
  intro pins s σ H x y v u Q I rx ry h
  obtain ⟨a, C, dx, fs, t, rfl, ea, hS, ty, nf, q⟩ := h
  exact op_eqOth (hm C hS) F hr pins s σ H _ y v u Q I rx ry ⟨a, dx, fs, t, rfl, ea, ty, nf, q⟩
theorem cr_strFam (hm : ∀ C, S C → Meth X.K C "__str__" f) (F : FnR X.prog X.w X.K X.mg X.base CX0 n f sp) (hr : Room (n + 2) X.A) : CallR X (.type "str") (cStrFam S sp) := by
  intro pins s σ H xs us Q I r h
  obtain ⟨a, C, dx, fs, rfl, ea, hS, q⟩ := h
  obtain ⟨u, rfl, ru⟩ := r.one
  cases (show u = Value.ref a from ru)
  obtain ⟨mA, O, _⟩ := ins_get I.hok ea
  obtain ⟨od, J, _⟩ := O.look
  have M := hm C hS
  refine PySem.W.kso_call hr.in1.in1.units0 I.kIn J M.at_ M.fn (wpAny_call (codeAny_mono (F X.A.in1.in1 X.stack s H [.ref a] [.ref a] _ E0 hr.in1.in1 I.env0.in1.in1 (.cons rfl .nil) q) fun r s' z => ?_))
  cases r with
  | error e => exact False.elim z
  | ok fl =>
    cases fl with
    | ret u =>
      obtain ⟨z', H', I', rz, y, rfl, qz⟩ := I.after z
      obtain ⟨t, e⟩ := (show ∃ t, u = Value.str y t from rz)
      subst e
      exact ⟨.str y, H', I', ⟨_, rfl⟩, qz⟩
    | next => exact False.elim z
    | brk => exact False.elim z
    | cont => exact False.elim z
theorem pe_propF {fd : FuncData} {ps : List Str} {e : Expr} {pos : Pos} {ta : TE} {nm : Str} (he : PE X e ta) (hc : ∀ C, S C → Cls X.K C ∧ PropOf X.K C nm p g) (F : FnOk X.prog X.w X.K X.mg X.base CX0 n g fd ps sp) (hr : Room (n + 1) X.A) (hb : Binds X.K fd ps [])
    (hab : attributeBase e nm X.env (eval e X.env) = eval e X.env := by rfl) : PE X (.Attribute e nm pos) (tPropF S sp ta) := by
  refine ⟨fun pins s σ H Q I h => ?_⟩
  refine attr_of hab (thn (he.run pins s σ H _ I h) fun u s1 ⟨x, H1, I1, rx, a, C, dx, fs, ex, ea, hS, q⟩ => ?_)
  subst ex
  obtain rfl : u = Value.ref a := rx
  obtain ⟨c, hp⟩ := hc C hS
  exact getprop_ok (dvs := []) I1 ea c hp F hr hb .nil pass0 q
end
section
variable {H : Hp} {Q : VK} {S : Addr → Prop} {sp : Sp} {K : PySem.W.Frag} {a C dx : Addr} {fs : List (Str × V)} {y : V} {t : Value} {σ : L2.St} {ta : TE}
theorem r_eqFam (e : H a = some (.ins C dx fs)) (hS : S C) (ty : TyX K H y t) (nf : PySem.W.notFirst K C t = true) (q : sp [.ref a, y] H (kYes Q) E0) : rEqFam K S sp (.ref a) y H Q := ⟨a, C, dx, fs, t, rfl, e, hS, ty, nf, q⟩
def kStr (Q : VK) : VK := fun z H' => ∃ y, z = .str y ∧ Q (.str y) H'
theorem r_kStr {y : Str} (q : Q (.str y) H) : kStr Q (.str y) H := ⟨y, rfl, q⟩
theorem r_strFam (e : H a = some (.ins C dx fs)) (hS : S C) (q : sp [.ref a] H (kStr Q) E0) : cStrFam S sp [.ref a] H Q := ⟨a, C, dx, fs, rfl, e, hS, q⟩
theorem r_propF (q : ta σ H (kPropF S sp Q)) : tPropF S sp ta σ H Q := q
theorem r_kPropF (e : H a = some (.ins C dx fs)) (hS : S C) (q : sp [.ref a] H Q E0) : kPropF S sp Q (.ref a) H := ⟨a, C, dx, fs, rfl, e, hS, q⟩
end
/-! ### a body at its own code: plain statements, then super().m(..) -/
structure PEat (X : Cx) (c : Code) (e : Expr) (te : TE) : Prop where
  run : ∀ (pins : List (Addr × Obj)) (s : Shared) (σ : L2.St) (H : Hp) (Q : VK), Inv X pins σ H s → te σ H Q → _root_.PySem.wpAt (model X.prog X.w) X.A c (eval e X.env) (EP X pins σ Q) X.xe s
section
variable {X : Cx} {c : Code} {st : Stmt} {rest : List Stmt} {t u : TS} {e : Expr} {te : TE} {pos : Pos}
theorem qs_cons (a : PS X st t) (b : QS X c rest u) : QS X c (st :: rest) (tSeq t u) := by
  constructor
  intro pins s σ H D I h
  refine _root_.PySem.ks_wpAt_execs_cons (wpAt_of_wpAny (thn (a.run pins s σ H _ I h) fun f s1 w => ?_))
  match f, w with
  | .next, ⟨σ', H', I', w'⟩ => exact b.run pins s1 σ' H' D I' w'
  | .ret _, w => exact w
  | .brk, w => exact w
  | .cont, w => exact w
def tDrp (te : TE) (u : TS) : TS := fun D σ H => te σ H fun _ H1 => u D σ H1
theorem qs_expr (a : PEat X c e te) (b : QS X c rest u) (hi : interactive X.env = false := by rfl) (hs : swapsWith e none pos.line X.env = pure false := by rfl) : QS X c (.Expr e pos :: rest) (tDrp te u) := by
  constructor
  intro pins s σ H D I h
  refine _root_.PySem.ks_wpAt_execs_cons (_root_.PySem.ks_wpAt_Expr_any (_root_.PySem.ks_wpAt_mono (a.run pins s σ H _ I h) (fun v s1 w => ?_) fun _ _ z => z) hi hs)
  obtain ⟨x, H1, I1, r1, q⟩ := w
  exact b.run pins s1 σ H1 D I1 q
theorem r_drp {nx bk ct : L2.St → Hp → Prop} {rt : VK} {σ : L2.St} {H : Hp} (q : te σ H fun _ H1 => u ⟨nx, rt, bk, ct⟩ σ H1) : tDrp te u ⟨nx, rt, bk, ct⟩ σ H := q
end
/-! ### super().m(e, ..) of an own class -/
/-- what is asked of the class at C, in a method of which (its code object at cda) super().name is called: the def at g -/
structure SupO (P : Program) (K : PySem.W.Frag) (mg : Str → Option Value) (C cda : Addr) (name : Str) (g : Addr) : Prop where
  cls : (PySem.W.clsIn K C).isSome = true
  up : PySem.W.ks_superIn K C C name = some (some (.ref g))
  ty : PySem.W.typeIn K (.ref g) = some (.type "function")
  fn : PySem.W.fnIn K g = true
  own : PySem.W.mroIn K C (.ref C) = some true
  opq : PySem.W.nsIn K cStatics "thirdparty.any" = some none
  zs : mg "super" = none
  file : ∃ ccl cdd vs ccs fl tf, K.lookup cda = some ⟨ccl, cdd, .fields vs, ccs⟩ ∧ vs[2]? = some (.str fl tf) ∧ (P.main.file == fl) = true
  top : (P.main.scope.names.lookup ("super" : Str)).isSome = false
def kSupO (sp : Sp) (a : Addr) (Q : VK) : List V → Hp → Prop := fun vs H1 => sp (.ref a :: vs) H1 Q E0
def tSupO (C : Addr) (sp : Sp) (ta : TA) : TE := fun σ H Q => ∃ a dx fs, σ[0]? = some (some (.ref a)) ∧ H a = some (.ins C dx fs) ∧ ta σ H (kSupO sp a Q)
theorem pe_sup {CX : CXT} {P : Program} {w : World} {K : PySem.W.Frag} {mg : Str → Option Value} {base : Heap} {f g cc cda C : Addr} {name qual m : Str} {params : Arguments} {body body' : List Stmt} {scope : Scope} {dV kV doc pm ct oc cl : Value} {an od cld : Option Addr}
    {osl csl : Array (Option Value)} {N : List Str} {A : Around} {outer : List Env} {s0 : Shared} {H0 : Hp} {E : XK} {ar : Arg} {p0 p1 p2 p4 : Pos} {pl : Sem Bool} {e1 : Expr} {es : List Expr} {ta : TA} {sp : Sp} {k : Nat}
    (lk : K.lookup f = some ⟨oc, od, .func (PySem.W.ksFn name qual params body scope dV kV doc pm an (.ref cda) ct cc), osl⟩) (cell : K.lookup cc = some ⟨cl, cld, .cell (some (.ref C)), csl⟩) (Z : SupO P K mg C cda m g)
    (F : FnR P w K mg base CX0 k g sp) (hr : Room k (ncx CX P w K mg base N ⟨name, qual, params, body, scope, [("__class__", cc)], cda⟩ f A outer s0 H0 E).A)
    (hat : (m == ("__class__" : Str)) = false)
    (hks : scope.names.lookup ("super" : Str) = some .globalImplicit) (hkc : scope.names.lookup ("__class__" : Str) = some .free) (hp : (params.posonlyargs ++ params.args).head? = some ar) (hN : N[0]? = some ar.arg)
    (hka : Loc scope ar.arg) (hk : scope.kind = .function)
    (ha : PA (ncx CX P w K mg base N ⟨name, qual, params, body, scope, [("__class__", cc)], cda⟩ f A outer s0 H0 E) (e1 :: es) ta)
    (he : eval (.Call (.Attribute (.Call (.Name "super" p0) [] [] p1) m p2) (e1 :: es) [] p4) (envF ⟨name, qual, params, body, scope, [("__class__", cc)], cda⟩ f s0.heap.objs.size) = (do
      let ov ← attributeBase (.Call (.Name "super" p0) [] [] p1) m (envF ⟨name, qual, params, body, scope, [("__class__", cc)], cda⟩ f s0.heap.objs.size) (eval (.Call (.Name "super" p0) [] [] p1) (envF ⟨name, qual, params, body, scope, [("__class__", cc)], cda⟩ f s0.heap.objs.size))
      standAt p2.atName
      let (fx, first) ← holding [ov] (getMethod ov m pl)
      callWith p4 fx first (backTo p4 (starEach (e1 :: es) (envF ⟨name, qual, params, body, scope, [("__class__", cc)], cda⟩ f s0.heap.objs.size))) []))
    (hst : starEach (e1 :: es) (envF ⟨name, qual, params, body, scope, [("__class__", cc)], cda⟩ f s0.heap.objs.size) = (false, eval e1 (envF ⟨name, qual, params, body, scope, [("__class__", cc)], cda⟩ f s0.heap.objs.size)) :: starEach es (envF ⟨name, qual, params, body, scope, [("__class__", cc)], cda⟩ f s0.heap.objs.size))
    (hpl : (backTo p4 (starEach es (envF ⟨name, qual, params, body, scope, [("__class__", cc)], cda⟩ f s0.heap.objs.size))).any (·.1) = false) :
    PEat (ncx CX P w K mg base N ⟨name, qual, params, body, scope, [("__class__", cc)], cda⟩ f A outer s0 H0 E) (.func body' (envF ⟨name, qual, params, body, scope, [("__class__", cc)], cda⟩ f s0.heap.objs.size))
      (.Call (.Attribute (.Call (.Name "super" p0) [] [] p1) m p2) (e1 :: es) [] p4) (tSupO C sp ta) := by
  constructor
  intro pins s σ H Q I ⟨a, dx, fs, hσ, hia, q⟩
  have KX := I.kIn
  obtain ⟨mA, O, _⟩ := ins_get I.hok hia
  obtain ⟨odx, J, _⟩ := O.look
  obtain ⟨ccl, cdd, vs, ccs, fl, tf, hcode, hvs, hfile⟩ := Z.file
  refine ks_wpAt_MethodCall (pl := pl) ?_ he
  obtain ⟨hh, gg, d, tk, os⟩ := s
  obtain ⟨cd, hcd⟩ := Option.isSome_iff_exists.mp Z.cls
  obtain ⟨oD, hD1, hD2⟩ : ∃ oD, hh.get? C = some oD ∧ oD.data = .cls cd := by
    unfold PySem.W.clsIn at hcd
    split at hcd
    · rename_i c d cd' sl ho
      cases hcd
      exact ⟨_, KX _ _ ho, rfl⟩
    · cases hcd
  refine ks_wpAt_super_base hks hkc hat rfl (KX _ _ lk) rfl hp rfl (KX _ _ hcode) rfl hvs hfile Z.top ?_
  obtain ⟨mb, hbn, hbv⟩ := I.ok.mod.blt
  have hbo : bootBuiltins "super" = some (.type "super") := by first | rfl | decide +kernel
  refine PySem.W.ks_loadName_global hk hks (Calls.loadGlobal_builtin (I.mod.glob.keeps I.bk) Z.zs (hbn.keeps I.bk) ((hbv ("super" : Str) (by decide +kernel)).trans hbo) ⟨rfl, ?_⟩)
  refine wpAny_loadName_free hk hkc rfl ⟨_, KX _ _ cell, rfl⟩ ?_
  obtain ⟨ml, hns, hl⟩ := I.loc
  obtain ⟨u, ru, lku⟩ := hl 0 ar.arg (.ref a) hN hσ (hka.elim .inl fun z => .inr (.inl z))
  obtain rfl : u = Value.ref a := ru
  refine wpAny_mono (Q := fun u s' => u = Value.ref a ∧ s' = ⟨hh, gg, d, tk, os⟩) (E := fun _ _ => False) ?_ (fun u s' z => ?_) fun _ _ z => z.elim
  · rcases lku with ⟨hkx, hm⟩ | ⟨hkx, cx, hcx, hcell⟩
    · exact wpAny_loadName_local hk hkx hns hm ⟨rfl, rfl⟩
    · rcases hkx with hkx | hkx
      · exact wpAny_loadName_cell hk hkx hcx hcell ⟨rfl, rfl⟩
      · rcases hka with z | z
        · exact absurd (z.symm.trans hkx) (by decide)
        · exact absurd (z.symm.trans hkx) (by decide)
  obtain ⟨rfl, rfl⟩ := z
  refine ks_wpAny_isType_cls hD1 hD2 ⟨rfl, ?_⟩
  refine ks_wpAny_call_super hD1 hD2 J.at_ J.cls (fun c z => ?_) (PySem.W.looks_mroIn KX Z.own) fun h' e1' kp => ?_
  · have := J.no
    unfold PySem.W.notCls at this
    rw [z] at this
    exact Bool.noConfusion this
  have I1 : Inv _ pins σ H ⟨h', gg, d, tk, os⟩ := I.kept (t' := tk) kp
  have KX1 := I1.kIn
  obtain ⟨mA1, O1, _⟩ := ins_get I1.hok hia
  obtain ⟨odx1, J1, _⟩ := O1.look
  obtain ⟨of, hof, hofc⟩ : ∃ of, h'.get? g = some of ∧ of.cls = .type "function" := by
    have ht' : (K.lookup g).map (·.cls) = some (.type "function") := Z.ty
    cases z : K.lookup g with
    | none => rw [z] at ht'; cases ht'
    | some of => rw [z] at ht'; exact ⟨of, KX1 _ _ z, Option.some.inj ht'⟩
  have up := Z.up
  unfold PySem.W.ks_superIn at up
  rw [hcd] at up
  refine ks_wpAny_getMethod_super e1' (PySem.W.looks_opaque KX1 Z.opq) (l₀ := cd.mro) (fun A Q E s k z => wpAny_bind ((PySem.W.looks_clsIn KX1 hcd) A _ E s k (wpAny_pure z))) rfl KX1 up hof hofc (PySem.W.ks_ne KX1 J1 hcd) hat ?_
  have k2 : ∀ b o, h'.get? b = some o → (h'.push (PySem.W.methodObj (.ref g) (.ref a))).get? b = some o := fun b o e => Heap.get?_push_of_some _ e
  have I2 : Inv _ pins σ H ⟨h'.push (PySem.W.methodObj (.ref g) (.ref a)), gg, d, tk + 1, os⟩ := I1.kept (t' := tk + 1) k2
  have hq : (h'.push (PySem.W.methodObj (.ref g) (.ref a))).get? h'.objs.size = some (PySem.W.methodObj (.ref g) (.ref a)) := Heap.get?_push_size _ rfl
  have fp : ∀ b ∈ [h'.objs.size], FpOk (ncx CX P w K mg base N ⟨name, qual, params, body, scope, [("__class__", cc)], cda⟩ f A outer s0 H0 E) pins H b := fun b mb' => by
    rw [List.mem_singleton.mp mb']
    exact I1.fpOk (Nat.le_refl _) (I1.hok.fresh (Nat.le_refl _))
  have I3 := I2.pinned fp fun b mb' => by
    rw [List.mem_singleton.mp mb']
    exact ⟨_, hq, fun v z => by cases z⟩
  have hst' : starEach (e1 :: es) (ncx CX P w K mg base N ⟨name, qual, params, body, scope, [("__class__", cc)], cda⟩ f A outer s0 H0 E).env = (false, eval e1 (envF ⟨name, qual, params, body, scope, [("__class__", cc)], cda⟩ f s0.heap.objs.size)) :: starEach es (envF ⟨name, qual, params, body, scope, [("__class__", cc)], cda⟩ f s0.heap.objs.size) := hst
  have go := ha.run p4 _ _ σ H _ I3 q
  rw [hst'] at go
  rw [hst']
  refine PySem.W.callWith_of (P := PySem.W.MethP K h'.objs.size g (.ref a)) (by show ((false || (backTo p4 (starEach es _)).any (·.1)) || false) = false; rw [hpl]; rfl) (PySem.W.keeps_M Z.fn) (Calls.evalArgs_plain (thn go fun us s3 w3 => ?_))
  obtain ⟨vs3, H1, I4, r, q2⟩ := w3
  have pin := (I4.pin (h'.objs.size, PySem.W.methodObj (.ref g) (.ref a)) (List.mem_append_right _ (List.mem_append_right _ (mem_pinsAt List.mem_cons_self hq)))).1
  refine ⟨⟨pin, I4.kIn⟩, ?_⟩
  have I5 := I4.unpinned
  exact wpAny_call (ks_codeAny_call_bound pin (run_fnR (us := .ref a :: us) (vs := .ref a :: vs3) F hr pass0 I5 (.cons rfl r) q2))
theorem r_supO {C a dx : Addr} {fs : List (Str × V)} {sp : Sp} {ta : TA} {σ : L2.St} {H : Hp} {Q : VK} (e : σ[0]? = some (some (.ref a))) (ha : H a = some (.ins C dx fs)) (q : ta σ H (kSupO sp a Q)) : tSupO C sp ta σ H Q := ⟨a, dx, fs, e, ha, q⟩
end Rd

set_option maxHeartbeats 4000000
/-! StrO: texts: slices, text * number, enumerate(text), min and max of two, str(x) of a number or a text, "".join. -/
namespace Rd
open PySem PySem.Spec PyProof.Rows L2
section
variable {H : Hp} {Q : VK} {X : Cx}
theorem r_slS {z : Str} {lo hi : Option Int} (h : z.length ≤ sizeLine) (q : Q (.str (cutS z lo hi)) H) : rSlS (.str z) lo hi H Q := ⟨z, rfl, h, q⟩
/-! text * number -/
def rMulS : R2 := fun x y H Q => ∃ z n, x = .str z ∧ y = .int n ∧ MulOk z n ∧ Q (.str (Txt.mul z n)) H
theorem op_mulS : OpR X (binaryOp .Mult) rMulS := by
  intro pins s σ H x y v u Q I rx ry h
  obtain ⟨z, n, rfl, rfl, ok, q⟩ := h
  obtain ⟨t, rfl⟩ := rx
  obtain ⟨t', rfl⟩ := ry
  exact SB.mul ok fun t' k => ⟨.str _, H, I.tok k, ⟨_, rfl⟩, q⟩
/-! str(x) of a number or a text -/
def strD : PyData → Str
  | .int i => toString i
  | .str x => x
  | _ => Str.empty
def strDOk : PyData → Prop
  | .int i => i.natAbs.log2 < 1920
  | .str _ => True
  | _ => False
def cStrIS : R1 := fun xs H Q => ∃ x d ex, xs = [x] ∧ Dt ex H x d ∧ strDOk d ∧ Q (.str (strD d)) H
theorem cr_strIS : CallR X (.type "str") cStrIS := by
  intro pins s σ H xs us Q I r h
  obtain ⟨x, d, ex, rfl, hd, ok, q⟩ := h
  cases hd with
  | int i => exact call_str_int pins s σ H _ us Q I r ⟨i, rfl, ok, q⟩
  | str z => exact SkE.call_str_str pins s σ H _ us Q I r ⟨z, rfl, q⟩
  | non => exact ok.elim
  | bl b => exact ok.elim
  | lst _ _ _ => exact ok.elim
  | tup _ _ _ => exact ok.elim
theorem r_strIS {x : V} {d : PyData} {ex : List Addr} (h : Dt ex H x d) (ok : strDOk d) (q : Q (.str (strD d)) H) : cStrIS [x] H Q := ⟨x, d, ex, rfl, h, ok, q⟩
/-! min, max of two texts -/
def slt (a b : Str) : Bool := decide (a.cps.toList < b.cps.toList)
def minS (a b : Str) : Str := if slt b a = true then b else a
def maxS (a b : Str) : Str := if slt a b = true then b else a
def cMin2S : R1 := fun xs H Q => ∃ a b, xs = [.str a, .str b] ∧ Q (.str (minS a b)) H
def cMax2S : R1 := fun xs H Q => ∃ a b, xs = [.str a, .str b] ∧ Q (.str (maxS a b)) H
def strsV (a b : Str) : Nat → Str := fun i => if i = 0 then a else b
theorem cmpOf_strs {prog : Program} {w : World} {A : Around} {a b : Str} {t u : Tok} : CmpOf prog w A .Lt (fun i v => (#[Value.str a t, Value.str b u] : Array Value)[i]? = some v) (fun i j => slt (strsV a b i) (strsV a b j)) := by
  intro i j vi vj s Q E hi hj hQ
  have at2 : ∀ {i : Nat} {v : Value}, (#[Value.str a t, Value.str b u] : Array Value)[i]? = some v → ∃ k, v = Value.str (strsV a b i) k := fun {i v} h => by
    match i, h with
    | 0, h => cases h; exact ⟨_, rfl⟩
    | 1, h => cases h; exact ⟨_, rfl⟩
    | i + 2, h => simp at h
  obtain ⟨k, rfl⟩ := at2 hi
  obtain ⟨k', rfl⟩ := at2 hj
  exact PySem.P.lt_str hQ
theorem cmpOf_strsG {prog : Program} {w : World} {A : Around} {a b : Str} {t u : Tok} : CmpOf prog w A .Gt (fun i v => (#[Value.str a t, Value.str b u] : Array Value)[i]? = some v) (fun i j => slt (strsV a b j) (strsV a b i)) := by
  intro i j vi vj s Q E hi hj hQ
  have at2 : ∀ {i : Nat} {v : Value}, (#[Value.str a t, Value.str b u] : Array Value)[i]? = some v → ∃ k, v = Value.str (strsV a b i) k := fun {i v} h => by
    match i, h with
    | 0, h => cases h; exact ⟨_, rfl⟩
    | 1, h => cases h; exact ⟨_, rfl⟩
    | i + 2, h => simp at h
  obtain ⟨k, rfl⟩ := at2 hi
  obtain ⟨k', rfl⟩ := at2 hj
  exact (show wpAny (model prog w) A (compareOp .Gt (.str (strsV a b i) k) (.str (strsV a b j) k')) Q E s from PySem.P.gt_str hQ)
theorem cr_min2S (hc : X.calm = true) : CallR X (.builtin "min") cMin2S := by
  intro pins s σ H xs us Q I r h
  obtain ⟨a, b, rfl, q⟩ := h
  obtain ⟨u, w', rfl, ⟨t, rfl⟩, ⟨t', rfl⟩⟩ := vals2 r
  have hh := I.ok.hd hc
  have hT : (s.heap.push { cls := .type "tuple", data := .seq #[.str a t, .str b t'] }).IsTuple s.heap.objs.size #[.str a t, .str b t'] := ⟨_, Heap.get?_push_size _ rfl, rfl, 0, rfl⟩
  refine call_min_two (wpAny_pyIter_tuple hT ?_)
  have hsz : (s.heap.push { cls := .type "tuple", data := .seq #[.str a t, .str b t'] }).objs.size = s.heap.objs.size + 1 := Heap.size_push ..
  refine ⟨_, [_, s.heap.objs.size], [_], _, _, _, _, rfl, Walks.tuple (A := X.A.in1) hh _ s.heap.objs.size (by rw [hsz]; exact Nat.ne_of_lt (Nat.lt_succ_self _)) #[.str a t, .str b t'],
    ⟨⟨_, Heap.get?_push_size _ rfl, rfl, rfl⟩, hT.push _⟩, fun d hd => ?_, by simp, cmpOf_strs, fun v h' tk hP hk => ?_⟩
  · show d < ((s.heap.push _).push _).objs.size
    rw [Heap.size_push, hsz]
    rcases List.mem_cons.mp hd with rfl | hd
    · rw [hsz]; exact Nat.lt_succ_self _
    · rcases List.mem_cons.mp hd with rfl | hd
      · exact Nat.lt_succ_of_lt (Nat.lt_succ_self _)
      · cases hd
  · refine ⟨.str (minS a b), H, I.kept fun c o e => hk c o (fun m => ?_) (Heap.get?_push_of_some _ (Heap.get?_push_of_some _ e)), ?_, q⟩
    · have := Heap.lt_size e
      rw [List.mem_singleton.mp m, hsz] at this
      exact absurd this (Nat.not_lt.mpr (Nat.le_succ _))
    · have e : argBest (fun i j => slt (strsV a b i) (strsV a b j)) (#[Value.str a t, Value.str b t'].size - 1) = if slt b a = true then 1 else 0 := rfl
      rw [e] at hP
      unfold minS
      cases c : slt b a
      · rw [c] at hP
        cases hP
        exact ⟨_, rfl⟩
      · rw [c] at hP
        cases hP
        exact ⟨_, rfl⟩
theorem cr_max2S (hc : X.calm = true) : CallR X (.builtin "max") cMax2S := by
  intro pins s σ H xs us Q I r h
  obtain ⟨a, b, rfl, q⟩ := h
  obtain ⟨u, w', rfl, ⟨t, rfl⟩, ⟨t', rfl⟩⟩ := vals2 r
  have hh := I.ok.hd hc
  have hT : (s.heap.push { cls := .type "tuple", data := .seq #[.str a t, .str b t'] }).IsTuple s.heap.objs.size #[.str a t, .str b t'] := ⟨_, Heap.get?_push_size _ rfl, rfl, 0, rfl⟩
  refine call_max_two (wpAny_pyIter_tuple hT ?_)
  have hsz : (s.heap.push { cls := .type "tuple", data := .seq #[.str a t, .str b t'] }).objs.size = s.heap.objs.size + 1 := Heap.size_push ..
  refine ⟨_, [_, s.heap.objs.size], [_], _, _, _, _, rfl, Walks.tuple (A := X.A.in1) hh _ s.heap.objs.size (by rw [hsz]; exact Nat.ne_of_lt (Nat.lt_succ_self _)) #[.str a t, .str b t'],
    ⟨⟨_, Heap.get?_push_size _ rfl, rfl, rfl⟩, hT.push _⟩, fun d hd => ?_, by simp, cmpOf_strsG, fun v h' tk hP hk => ?_⟩
  · show d < ((s.heap.push _).push _).objs.size
    rw [Heap.size_push, hsz]
    rcases List.mem_cons.mp hd with rfl | hd
    · rw [hsz]; exact Nat.lt_succ_self _
    · rcases List.mem_cons.mp hd with rfl | hd
      · exact Nat.lt_succ_of_lt (Nat.lt_succ_self _)
      · cases hd
  · refine ⟨.str (maxS a b), H, I.kept fun c o e => hk c o (fun m => ?_) (Heap.get?_push_of_some _ (Heap.get?_push_of_some _ e)), ?_, q⟩
    · have := Heap.lt_size e
      rw [List.mem_singleton.mp m, hsz] at this
      exact absurd this (Nat.not_lt.mpr (Nat.le_succ _))
    · have e : argBest (fun i j => slt (strsV a b j) (strsV a b i)) (#[Value.str a t, Value.str b t'].size - 1) = if slt a b = true then 1 else 0 := rfl
      rw [e] at hP
      unfold maxS
      cases c : slt a b
      · rw [c] at hP
        cases hP
        exact ⟨_, rfl⟩
      · rw [c] at hP
        cases hP
        exact ⟨_, rfl⟩
theorem r_min2S {a b : Str} (q : Q (.str (minS a b)) H) : cMin2S [.str a, .str b] H Q := ⟨a, b, rfl, q⟩
theorem r_max2S {a b : Str} (q : Q (.str (maxS a b)) H) : cMax2S [.str a, .str b] H Q := ⟨a, b, rfl, q⟩
end
/-! enumerate(text) -/
/-- a text, each sign in a new pair with its place -/
def Ies (x : Str) : It :=
  ⟨fun i _ => i < x.cps.size, fun i H v H' => ∃ T c, v = .ref T ∧ H T = none ∧ H' = upd H T (.tup [.int (i : Nat), .str ⟨#[c]⟩]) ∧ x.cps[i]? = some c, fun i _ => x.cps.size ≤ i⟩
theorem turn_es {P : Program} {w : World} {K : PySem.W.Frag} {elts : List Expr} {kk : Nat} {tpos : Pos} (x : Str) (t : Tok) (e it : Addr) (ty : String) (hty : ty = "str_ascii_iterator" ∨ ty = "str_iterator") :
    Turn P w K (.Tuple elts kk tpos) (Ies x) [e, it] e (fun i h => (∃ old, IsEnum h e it ((i : Nat) : Int) old) ∧ h.IsStrIter it ty x t i ∧ e ≠ it) := by
  have two : ∀ {b : Addr}, b ∈ [e, it] → b = e ∨ b = it := fun {b} hb => by simpa using hb
  have dr : ∀ {A : Around}, A.handled = none → Draws P w A it [it] x.cps.size (fun i v => ∃ c u, x.cps[i]? = some c ∧ v = .str ⟨#[c]⟩ u) (fun i h => h.IsStrIter it ty x t i) := fun {A} hh => by
    rcases hty with z | z
    · rw [z]; exact Draws.strAscii hh it x t
    · rw [z]; exact Draws.strWide hh it x t
  refine ⟨by simp, fun i h st b hb => ?_, fun i h h' st k => ?_, ?_, ?_, fun A i s Q E st q => ?_⟩
  · obtain ⟨⟨old, he⟩, ⟨o, ho, hc, hd⟩, _⟩ := st
    rcases two hb with rfl | rfl
    · exact ⟨_, he, fun v z => nomatch z⟩
    · exact ⟨o, ho, fun v z => by rw [hd] at z; cases z⟩
  · obtain ⟨⟨old, he⟩, hi, hne⟩ := st
    exact ⟨⟨old, k e (by simp) _ he⟩, (let ⟨o, ho, r⟩ := hi; ⟨o, k it (by simp) o ho, r⟩), hne⟩
  · intro X hP hw hK hc i pins s σ H E I hf st hg
    subst hP hw hK
    obtain ⟨⟨old, he⟩, hit, hne⟩ := st
    have big : e < s.heap.objs.size ∧ it < s.heap.objs.size := ⟨Heap.lt_size he, by obtain ⟨_, z, _⟩ := hit; exact Heap.lt_size z⟩
    refine wpAny_pyNext_enum_itemC (dr (A := X.A.in1) (I.ok.hd hc)) he hit hg hne (by simp [hne]) fun y h1 tk hy ho hst hT hsz hk => ?_
    obtain ⟨c, k, hcx, rfl⟩ := hy
    refine ⟨_, rfl, wpAny_letOwnedTupleGo_enum (s := { s with heap := h1, toks := tk + 1 }) ho fun h2 he2 sb => ?_⟩
    have hT2 := (sb.2 _ (Nat.ne_of_gt big.1)).trans hT
    have new : ObjOk X.prog X.w (upd H s.heap.objs.size (.tup [.int (i : Nat), .str ⟨#[c]⟩])) h2 s.heap.objs.size (.tup [.int (i : Nat), .str ⟨#[c]⟩]) := ⟨by show 2 ≤ sizeLine; decide, [.int i tk, .str ⟨#[c]⟩ k], .cons ⟨_, rfl⟩ (.cons ⟨_, rfl⟩ .nil), ⟨_, hT2, rfl, _, rfl⟩⟩
    have I1 : Inv X pins σ (upd H s.heap.objs.size (.tup [.int (i : Nat), .str ⟨#[c]⟩])) { s with heap := h2, toks := tk + 1 } :=
      I.turnedNew (ch := [e, it]) (fun b ob hb z => (sb.2 b (fun w => hb (by simp [w]))).trans (hk b ob (fun w => hb (by simp [w])) (fun w => hb (by simp [w])) z)) hf (Nat.le_refl _) new
    refine ⟨.ref s.heap.objs.size, _, I1, rfl, ⟨_, c, rfl, I.hok.fresh (Nat.le_refl _), rfl, hcx⟩, ⟨⟨.str ⟨#[c]⟩ k, ?_⟩, (let ⟨o, ho, r⟩ := hst; ⟨o, (sb.2 it (Ne.symm hne)).trans ho, r⟩), hne⟩, fun b hb => ?_⟩
    · have e1 : ((i + 1 : Nat) : Int) = (i : Int) + 1 := by omega
      rw [e1]
      exact he2
    · have hb' : b < s.heap.objs.size := (two hb).elim (fun z => z ▸ big.1) fun z => z ▸ big.2
      rw [upd_ne (Nat.ne_of_lt hb')]
      exact (hf b hb).1
  · intro X hP hw hK hc i pins s σ H E I hf st hg
    subst hP hw hK
    obtain ⟨⟨old, he⟩, hit, hne⟩ := st
    have D := dr (A := X.A.in1) (I.ok.hd hc)
    have D' : Draws X.prog X.w X.A.in1 it [it] i (fun _ _ => True) (fun j h => j = i ∧ h.IsStrIter it ty x t i) :=
      ⟨fun _ _ st => let ⟨o, ho, _⟩ := st.2; ⟨o, ho⟩, fun _ _ _ st hk => ⟨st.1, let ⟨o, ho, r⟩ := st.2; ⟨o, hk it (by simp) o ho, r⟩⟩, fun j _ _ _ hj st _ => absurd st.1 (Nat.ne_of_lt hj),
        fun s Q E st hE => by
          have hn : x.cps[i]? = none := Array.getElem?_eq_none hg
          rcases hty with z | z
          · rw [z] at st
            exact wpAny_nextOf_ascii_end (A := X.A.in1) (I.ok.hd hc) st.2 hn hE
          · rw [z] at st
            exact wpAny_nextOf_wide_end (A := X.A.in1) (I.ok.hd hc) st.2 hn hE⟩
    obtain ⟨f0, f1, f2, f3, f4, f5⟩ := hf it (by simp)
    exact wpAny_pyNext_enum_endD D' he ⟨rfl, hit⟩ fun h' eb => ⟨rfl, I.turned (t' := s.toks) (fun b o hb z => eb b o hb z) f0 f1 f3 f4 f5⟩
  · obtain ⟨⟨_, he⟩, _⟩ := st
    exact wpAny_pyIter_enum he q
def cEnumS (R : It → Hp → Prop) : List V → Hp → Prop := fun vs H1 => ∃ x, vs = [.str x] ∧ R (Ies x) H1
def iEnumS (ta : TA) : TI := fun σ H R => ta σ H (cEnumS R)
theorem K_enumS {X : Cx} {K : PySem.W.Frag} (hK : X.K = K) {e : Expr} {ta : TA} {p pos tpos : Pos} {elts : List Expr} {kk : Nat} (hg : Gl X "enumerate") (hm : X.mg "enumerate" = none) (ha : PA X [e] ta) (hs : starEach [e] X.env = [(false, eval e X.env)] := by rfl) :
    PI X (.Tuple elts kk tpos) (.Call (.Name "enumerate" p) [e] [] pos) (iEnumS ta) := by
  subst hK
  constructor
  intro pins s σ H R I h
  refine Call_ (ld_blt I hg hm boot_enumerate (PyProof.Rows.callWith_type1 (thn (ha.run pos pins s σ H _ I h) fun us s1 ⟨vs, H1, I1, r1, q1⟩ => ?_) hs rfl))
  obtain ⟨x, rfl, q⟩ := q1
  obtain ⟨u, rfl, ru⟩ := r1.one
  obtain ⟨t, rfl⟩ := (show ∃ t, u = Value.str x t from ru)
  have fresh : ∀ b ∈ [s1.heap.objs.size + 1, s1.heap.objs.size], FpOk X pins H1 b := fun b m => by
    have le : s1.heap.objs.size ≤ b := by
      rcases List.mem_cons.mp m with z | z
      · omega
      · rw [List.mem_singleton.mp z]
        exact Nat.le_refl _
    exact I1.fpOk le (I1.hok.fresh le)
  have hty : strIterType x = "str_ascii_iterator" ∨ strIterType x = "str_iterator" := by
    unfold strIterType
    split
    · exact .inl rfl
    · exact .inr rfl
  exact call_enumerate_str fun h' he hit _ hk => wpAny_pyIter_enum he ⟨_, _, _, _, H1, rfl, I1.kept (t' := s1.toks) hk, turn_es x t _ _ _ hty, ⟨⟨.none, he⟩, hit, Nat.succ_ne_self _⟩, fresh, q⟩
section
variable {σ : L2.St} {H : Hp} {tr : TA} {R : It → Hp → Prop} {z : Str}
theorem r_enumS (q : tr σ H (cEnumS R)) : iEnumS tr σ H R := q
theorem r_cEnumS (q : R (Ies z) H) : cEnumS R [.str z] H := ⟨z, rfl, q⟩
theorem walk_es : Walk (Ies z) z.cps.size (fun _ => True) (YPair (fun i => some (.int (i : Nat))) (fun i => z.cps[i]?.map fun c => .str ⟨#[c]⟩)) := by
  refine ⟨fun i _ hi _ => hi, fun _ _ => Nat.le_refl _, fun i H v H' _ _ ⟨T, c, h1, h2, h3, h4⟩ => ⟨T, .int (i : Nat), .str ⟨#[c]⟩, h1, h2, h3, rfl, ?_⟩⟩
  show z.cps[i]?.map (fun c => V.str ⟨#[c]⟩) = some (V.str ⟨#[c]⟩)
  rw [h4]
  rfl
end
end Rd

set_option maxHeartbeats 4000000
/-! Fam2: families of classes: their defs as users see them; C(k = v, ..); defs with super() of an own class. -/
namespace Rd
open PySem PySem.Spec L2 NdefX PyProof.Rows
def FamS (l : List Addr) : Addr → Prop := fun C => C ∈ l
theorem FamS.hd {C : Addr} {l : List Addr} : FamS (C :: l) C := List.mem_cons_self
theorem FamS.tl {C D : Addr} {l : List Addr} (h : FamS l C) : FamS (D :: l) C := List.mem_cons_of_mem _ h
theorem fam_nil {p : Addr → Prop} : ∀ C, FamS [] C → p C := fun _ h => nomatch h
theorem fam_cons {p : Addr → Prop} {D : Addr} {l : List Addr} (h : p D) (t : ∀ C, FamS l C → p C) : ∀ C, FamS (D :: l) C → p C := fun C m => by
  rcases List.mem_cons.mp m with e | m
  · exact e ▸ h
  · exact t C m
def UseMF (P : Program) (w : World) (K : PySem.W.Frag) (mg : Str → Option Value) (base : Heap) (n : Nat) (S : Addr → Prop) (m : Str) (sp : Sp) : Prop := ∃ f, FnR P w K mg base CX0 n f sp ∧ ∀ C, S C → Meth K C m f
def UseP (P : Program) (w : World) (K : PySem.W.Frag) (mg : Str → Option Value) (base : Heap) (n : Nat) (S : Addr → Prop) (m : Str) (ps : List Str) (sp : Sp) : Prop := ∃ p g fd, FnOk P w K mg base CX0 n g fd ps sp ∧ Binds K fd ps [] ∧ ∀ C, S C → Cls K C ∧ PropOf K C m p g
/-- a class by its __init__, whose arguments may come by name -/
def UseCK (P : Program) (w : World) (K : PySem.W.Frag) (mg : Str → Option Value) (base : Heap) (n : Nat) (x : Str) (C : Addr) (ps : List Str) (sp : Sp) : Prop := ∃ f fd, FnOk P w K mg base (L2.CX P w) n f fd ps sp ∧ Mk K C f ∧ mg x = some (.ref C) ∧ Binds K fd ps [] ∧
  (∀ (s : Shared) (us ws : List Value), (us ++ ws).length = ps.length → us.length = 1 → BindsTo s fd ⟨us, (ps.drop 1).zip ws⟩ (ps.zip (us ++ ws))) ∧
  ∀ (s : Shared) (us ws : List Value), (us ++ ws).length = ps.length → us.length = 1 → BindsTo s fd ⟨us, (ps.drop 1).reverse.zip ws⟩ (ps.zip (us ++ ws.reverse))
theorem UseCK.x {P : Program} {w : World} {K : PySem.W.Frag} {mg : Str → Option Value} {base : Heap} {n : Nat} {x : Str} {C : Addr} {ps : List Str} {sp : Sp} (U : UseCK P w K mg base n x C ps sp) : UseCX P w K mg base n x C sp := by
  obtain ⟨f, fd, F, M, g, b, _, _⟩ := U
  exact ⟨f, fnrX F b, M, g⟩
theorem passAtL {X : Cx} (σ : L2.St) : PassesAt (L2.CX X.prog X.w) X σ E0 := fun pins H s e s' I c => passL pins σ H s e s' I c
/-! ### C(k = v, ..) -/
def kMakeK (C : Addr) (m : Nat) (sp : Sp) (gV : List V → List V) (E : XK) (Q : VK) : List V → Hp → Prop := fun zs H2 => zs.length = m ∧ ∀ x dx, H2 x = none → H2 dx = none → dx ≠ x → sp (.ref x :: gV zs) (upd (upd H2 dx (.own x)) x (.ins C dx [])) (kMade x Q) E
def tMakeKS (C : Addr) (m : Nat) (sp : Sp) (gV : List V → List V) (E : L2.St → XK) (tk : TA) : TE := fun σ H Q => tk σ H (kMakeK C m sp gV (E σ) Q)
section
variable {X : Cx} {k n : Nat} {C : Addr} {ps ks : List Str} {sp : Sp} {E : L2.St → XK} {x : Str} {p pos : Pos} {kws : List Keyword} {tk : TA}
theorem pe_makeKO {f : Addr} {fd : FuncData} {g : List Value → List Value} {gV : List V → List V} (F : FnOk X.prog X.w X.K X.mg X.base (L2.CX X.prog X.w) k f fd ps sp) (M : Mk X.K C f) (hr : Room (k + 1) X.A) (hg : Gl X x) (hm : X.mg x = some (.ref C))
    (hb : ∀ (s : Shared) (us ws : List Value), us.length = 1 → ws.length = ks.length → BindsTo s fd ⟨us, ks.zip ws⟩ (ps.zip (us ++ g ws))) (hrel : ∀ {zs : List V} {ws : List Value}, Vals zs ws → Vals (gV zs) (g ws)) (hx : ∀ σ, PassesAt (L2.CX X.prog X.w) X σ (E σ)) (hkw : PK X kws tk)
    (hall : (backToKw pos (keywordEach kws X.env)).all (·.1.isSome) = true := by rfl) (hks : (backToKw pos (keywordEach kws X.env)).filterMap (·.1) = ks := by rfl) (hdb : (x == ("__debug__" : Str)) = false := by decide)
    (hpl : ((backTo pos (starEach [] X.env)).any (·.1) || (backToKw pos (keywordEach kws X.env)).any (·.1.isNone)) = false := by rfl) :
    PE X (.Call (.Name x p) [] kws pos) (tMakeKS C ks.length sp gV E tk) := by
  refine ⟨fun pins s σ H Q I h => ?_⟩
  refine wpAny_Call_Name_kw (ld_glob I hg hm ?_ hdb)
  refine PySem.W.callWith_KW0 (h₀ := X.base) I.ok.mod.kin M.kp hall ?_ hpl
  refine thn (hkw.run pos pins s σ H _ I h) fun ws s ⟨zs, H, I, rz, l2, h⟩ => ⟨I.kIn, ?_⟩
  rw [hks]
  have hq := h (s.heap.objs.size + 1) s.heap.objs.size (I.hok.fresh (Nat.le_succ _)) (I.hok.fresh (Nat.le_refl _)) (Nat.ne_of_lt (Nat.lt_succ_self _))
  have I2 := Inv.made (C := C) I
  have r2 : Vals (V.ref (s.heap.objs.size + 1) :: gV zs) (Value.ref (s.heap.objs.size + 1) :: g ws) := .cons rfl (hrel rz)
  refine wpAny_call (make_map (f := f) I.kIn M.makes M.init (beq_iff_eq.mp M.fn) (codeAny_mono (F.run _ X.stack _ _ ⟨[Value.ref (s.heap.objs.size + 1)], ks.zip ws⟩ (Value.ref (s.heap.objs.size + 1) :: g ws) _ _ (E σ) (hr.make C [] (ks.zip ws))
    (I2.env0.make C [] (ks.zip ws)) (hb _ [Value.ref (s.heap.objs.size + 1)] ws rfl (rz.length.symm.trans l2)) r2 hq) fun r s' hq' => ?_))
  cases r with
  | error e => exact hx σ pins _ _ e s' I2 hq'
  | ok fl =>
    cases fl with
    | ret u =>
      obtain ⟨v, H', I3, rv, ev, q3⟩ := I2.after hq'
      subst ev
      exact ⟨rv, ⟨V.ref (s.heap.objs.size + 1), H', I3, rfl, q3⟩⟩
    | next => exact False.elim hq'
    | brk => exact False.elim hq'
    | cont => exact False.elim hq'
/-- all arguments by name, in the def's order -/
theorem pe_makeKS (U : UseCK X.prog X.w X.K X.mg X.base k x C ps sp) (hr : Room (k + 1) X.A) (hg : Gl X x) (hp : ps.length = ks.length + 1) (hps : ps.drop 1 = ks) (hx : ∀ σ, PassesAt (L2.CX X.prog X.w) X σ (E σ)) (hkw : PK X kws tk)
    (hall : (backToKw pos (keywordEach kws X.env)).all (·.1.isSome) = true := by rfl) (hks : (backToKw pos (keywordEach kws X.env)).filterMap (·.1) = ks := by rfl) (hdb : (x == ("__debug__" : Str)) = false := by decide)
    (hpl : ((backTo pos (starEach [] X.env)).any (·.1) || (backToKw pos (keywordEach kws X.env)).any (·.1.isNone)) = false := by rfl) :
    PE X (.Call (.Name x p) [] kws pos) (tMakeKS C ks.length sp id E tk) := by
  obtain ⟨f, fd, F, M, hm, _, hb, _⟩ := U
  refine pe_makeKO (g := id) F M hr hg hm (fun s us ws l1 l2 => ?_) (fun r => r) hx hkw hall hks hdb hpl
  have := hb s us ws (by rw [List.length_append, l1, l2, hp, Nat.add_comm]) l1
  rw [hps] at this
  exact this
/-- all arguments by name, in the other order -/
theorem pe_makeKR (U : UseCK X.prog X.w X.K X.mg X.base k x C ps sp) (hr : Room (k + 1) X.A) (hg : Gl X x) (hp : ps.length = ks.length + 1) (hps : (ps.drop 1).reverse = ks) (hx : ∀ σ, PassesAt (L2.CX X.prog X.w) X σ (E σ)) (hkw : PK X kws tk)
    (hall : (backToKw pos (keywordEach kws X.env)).all (·.1.isSome) = true := by rfl) (hks : (backToKw pos (keywordEach kws X.env)).filterMap (·.1) = ks := by rfl) (hdb : (x == ("__debug__" : Str)) = false := by decide)
    (hpl : ((backTo pos (starEach [] X.env)).any (·.1) || (backToKw pos (keywordEach kws X.env)).any (·.1.isNone)) = false := by rfl) :
    PE X (.Call (.Name x p) [] kws pos) (tMakeKS C ks.length sp List.reverse E tk) := by
  obtain ⟨f, fd, F, M, hm, _, _, hb⟩ := U
  have vrev : ∀ {zs : List V} {ws : List Value}, Vals zs ws → Vals zs.reverse ws.reverse := fun r => by
    induction r with
    | nil => exact .nil
    | cons a _ ih =>
      rw [List.reverse_cons, List.reverse_cons]
      exact ih.append (.cons a .nil)
  refine pe_makeKO (g := List.reverse) F M hr hg hm (fun s us ws l1 l2 => ?_) vrev hx hkw hall hks hdb hpl
  have := hb s us ws (by rw [List.length_append, l1, l2, hp, Nat.add_comm]) l1
  rw [hps] at this
  exact this
end
section
variable {C : Addr} {m : Nat} {sp : Sp} {gV : List V → List V} {E : L2.St → XK} {tk : TA} {σ : L2.St} {H : Hp} {Q : VK} {zs : List V} {Ex : XK}
theorem r_makeKS (q : tk σ H (kMakeK C m sp gV (E σ) Q)) : tMakeKS C m sp gV E tk σ H Q := q
theorem r_kMakeK (h : zs.length = m) (q : ∀ a dx H', H a = none → Kp [] H H' → H' a = some (.ins C dx []) → sp (.ref a :: gV zs) H' (kMade a Q) Ex) : kMakeK C m sp gV Ex Q zs H := ⟨h, fun a dx n n' d =>
  q a dx _ n ((Kp.new n').trans (Kp.new (by rw [upd_ne d.symm]; exact n))) upd_same⟩
end
/-! ### a def of the text in a class over an own class, which calls super().m -/
structure SFunO (P : Program) (K : PySem.W.Frag) (mg : Str → Option Value) (name qual : Str) (st : Stmt) (C f : Addr) (fd : FuncData) (m : Str) (g : Addr) : Prop where
  ex : ∃ (oc kV doc pm ct cl : Value) (od an cld : Option Addr) (cda cc : Addr) (osl csl : Array (Option Value)), fd = PySem.W.ksFn name qual (defArgs st) (defBody st) (defScope st) .none kV doc pm an (.ref cda) ct cc ∧
    K.lookup f = some ⟨oc, od, .func (PySem.W.ksFn name qual (defArgs st) (defBody st) (defScope st) .none kV doc pm an (.ref cda) ct cc), osl⟩ ∧ PySem.W.codeIn K (.ref cda) qual = true ∧ K.lookup cc = some ⟨cl, cld, .cell (some (.ref C)), csl⟩ ∧ SupO P K mg C cda m g
theorem nf_self {K : PySem.W.Frag} {C : Addr} : PySem.W.notFirst K C (.ref C) = true := by
  unfold PySem.W.notFirst
  simp
end Rd

set_option maxHeartbeats 4000000
/-! Sl: slices of lists and tuples as rules. -/
namespace Rd
open PySem L2 StX
section
variable {σ : St} {H : Hp} {Q : VK} {te : TE} {tl th : TO} {K : PySem.W.Frag} {p : Addr} {xs : List V} {r : V → Option Int → Option Int → Hp → VK → Prop} {R : Option Int → Hp → Prop} {x : V} {l u : Option Int}
def kS1 (r : V → Option Int → Option Int → Hp → VK → Prop) (tl th : TO) (σ : St) (Q : VK) : VK := fun x H1 => tl σ H1 fun l H2 => th σ H2 fun u H3 => r x l u H3 Q
def kS2 (r : V → Option Int → Option Int → Hp → VK → Prop) (th : TO) (σ : St) (Q : VK) (x : V) : Option Int → Hp → Prop := fun l H2 => th σ H2 fun u H3 => r x l u H3 Q
def kS3 (r : V → Option Int → Option Int → Hp → VK → Prop) (Q : VK) (x : V) (l : Option Int) : Option Int → Hp → Prop := fun u H3 => r x l u H3 Q
def kPart (R : Option Int → Hp → Prop) : VK := fun x H1 => ∃ i, x = .int i ∧ R (some i) H1
theorem r_sl (q : te σ H (kS1 r tl th σ Q)) : tSl r te tl th σ H Q := q
theorem r_kS1 (q : tl σ H (kS2 r th σ Q x)) : kS1 r tl th σ Q x H := q
theorem r_kS2 (q : th σ H (kS3 r Q x l)) : kS2 r th σ Q x l H := q
theorem r_kS3 (q : r x l u H Q) : kS3 r Q x l u H := q
theorem r_noPart (q : R none H) : tNoPart σ H R := q
theorem r_part (q : te σ H (kPart R)) : tPart te σ H R := q
theorem r_kPart {i : Int} (q : R (some i) H) : kPart R (.int i) H := ⟨i, rfl, q⟩
theorem r_slL (h : SqL K H p xs) (q : ∀ b H', H b = none → Kp [] H H' → H' b = some (.lst (cutV xs l u)) → Q (.ref b) H') : rSlL K (.ref p) l u H Q := ⟨p, xs, rfl, h, fun b n => q b _ n (Kp.new n) upd_same⟩
theorem r_slT (h : SqT K H p xs) (hw : ¬ (HT.sIx xs.length 0 l = 0 ∧ HT.sIx xs.length xs.length u = xs.length)) (q : ∀ b H', H b = none → Kp [] H H' → H' b = some (.tup (cutV xs l u)) → Q (.ref b) H') : rSlT K (.ref p) l u H Q := ⟨p, xs, rfl, h, hw, fun b n => q b _ n (Kp.new n) upd_same⟩
theorem cut_to (n : Nat) : cutV xs none (some (n : Int)) = xs.take n := by
  unfold cutV
  rw [HT.sIx_nat, HT.sIx_none, List.drop_zero, Nat.sub_zero]
  by_cases h : n ≤ xs.length
  · rw [Nat.min_eq_left h]
  · rw [Nat.min_eq_right (by omega), List.take_length, List.take_of_length_le (by omega)]
theorem cut_from (n : Nat) : cutV xs (some (n : Int)) none = xs.drop n := by
  unfold cutV
  rw [HT.sIx_nat, HT.sIx_none]
  by_cases h : n ≤ xs.length
  · rw [Nat.min_eq_left h, List.take_of_length_le (by rw [List.length_drop]; omega)]
  · rw [Nat.min_eq_right (by omega), List.drop_length, List.take_nil, List.drop_eq_nil_of_le (show xs.length ≤ n by omega)]
theorem cut_last : cutV xs none (some (-1)) = xs.take (xs.length - 1) := by
  have e : HT.sIx xs.length xs.length (some (-1)) = xs.length - 1 := by
    show (if (-1 : Int) < 0 then ((-1 : Int) + (xs.length : Int)).toNat else min ((-1 : Int).toNat) xs.length) = xs.length - 1
    rw [if_pos (by decide)]
    omega
  unfold cutV
  rw [e, HT.sIx_none, List.drop_zero, Nat.sub_zero]
theorem atI_last {α : Type} {l : List α} {v : α} (h : l[l.length - 1]? = some v) : atI l (-1) = some v := by
  have hl : l.length - 1 < l.length := (List.getElem?_eq_some_iff.mp h).1
  have e : ixN l.length (-1) = some (l.length - 1) := by
    unfold ixN
    rw [if_neg (by omega), if_pos (by omega)]
    have : ((-1 : Int) + (l.length : Int)).toNat = l.length - 1 := by omega
    rw [this]
  unfold atI
  rw [e]
  exact h
end
end Rd

set_option maxHeartbeats 4000000
/-! Tx: more readings as rules: o[i] = v, "".join, isinstance of an own class. -/
namespace Rd
open PySem PySem.Spec L2 StX
section
variable {σ : L2.St} {H : Hp} {Q : VK} {QS : L2.St → Hp → Prop} {to ti te : TE} {t : TSet} {v x : V} {r : V → List V → Hp → VK → Prop} {K : PySem.W.Frag} {z : Str} {p : Addr}
theorem r_gsub (q : to σ H fun o H1 => ti σ H1 fun i H2 => t o i v H2 fun H3 => QS σ H3) : gSub to ti t v σ H QS := q
theorem r_setL {N : Hp → Prop} {xs : List V} {k : Int} {j : Nat} (e : H p = some (.lst xs)) (h : ixN xs.length k = some j) (q : ∀ H', Kp [p] H H' → H' p = some (.lst (xs.set j v)) → N H') : rSetL (.ref p) (.int k) v H N :=
  ⟨p, xs, k, j, rfl, rfl, e, h, q _ (Kp.put (by simp)) upd_same⟩
theorem r_kAndV1 {tb : TE} {b : Bool} (h : b = true) (q : tb σ H Q) : kAndV tb σ Q (.bl b) H := by
  subst h
  exact ⟨true, rfl, q⟩
theorem r_kAndV0 {tb : TE} {b : Bool} (h : b = false) (q : Q (.bl false) H) : kAndV tb σ Q (.bl b) H := by
  subst h
  exact ⟨false, rfl, q⟩
def kM1 (r : V → List V → Hp → VK → Prop) (te : TE) (σ : L2.St) (Q : VK) : VK := fun x H1 => (∃ a, x = .str a) ∧ te σ H1 fun y H2 => r x [y] H2 Q
theorem r_m1 (q : to σ H (kM1 r te σ Q)) : tM1 r to te σ H Q := q
theorem r_kM1 (q : te σ H fun y H2 => r (.str z) [y] H2 Q) : kM1 r te σ Q (.str z) H := ⟨⟨z, rfl⟩, q⟩
def rJoinS (K : PySem.W.Frag) : V → List V → Hp → VK → Prop := fun x xs H Q => ∃ a p, ∃ ys : List Str, x = .str a ∧ xs = [.ref p] ∧ (SqL K H p (ys.map V.str) ∨ SqT K H p (ys.map V.str)) ∧ (ys.map (·.length)).sum + ys.length * a.length ≤ 16777216 ∧ Q (.str (Txt.join a ys)) H
theorem r_joinL {ys : List Str} (h : SqL K H p (ys.map V.str)) (hz : (ys.map (·.length)).sum + ys.length * z.length ≤ 16777216) (q : Q (.str (Txt.join z ys)) H) : rJoinS K (.str z) [.ref p] H Q := ⟨z, p, ys, rfl, rfl, .inl h, hz, q⟩
theorem sum_le {ys : List Str} {m : Nat} (h : ∀ y ∈ ys, y.length ≤ m) : (ys.map (·.length)).sum ≤ ys.length * m := by
  induction ys with
  | nil => exact Nat.zero_le _
  | cons y ys ih =>
    have h1 := h y List.mem_cons_self
    have h2 := ih fun z hz => h z (List.mem_cons_of_mem _ hz)
    rw [List.map_cons, List.sum_cons, List.length_cons, Nat.succ_mul]
    omega
theorem str_length (z : Str) : z.length = z.cps.toList.length := (Array.length_toList).symm
theorem str_append (a b : Str) : (a ++ b).cps = a.cps ++ b.cps := rfl
theorem str_append_length (a b : Str) : (a ++ b).length = a.length + b.length := Array.size_append
end
end Rd

set_option maxHeartbeats 4000000
/-! StatM: C.m(e, ..), m a staticmethod of the class at C. -/
namespace Rd
open PySem PySem.Spec L2 PyProof.Rows
/-- C.m is a staticmethod: its record at p, its def at g -/
structure SMet (K : PySem.W.Frag) (C : Addr) (mc : Value) (m : Str) (p g : Addr) : Prop where
  at_ : PySem.W.findCls K (.ref C) mc m = some (.get (.builtin "staticmethod.__get__") (.ref p) .none (.ref C))
  rc : ∃ rest, PySem.W.recIn K p "staticmethod" = some (.ref g :: rest)
  kp : PySem.W.keepIn K (.ref g) = true
def kSMeth (C : Addr) (sp : Sp) (E : XK) (t : TA) (σ : L2.St) (Q : VK) : VK := fun x H1 => x = .ref C ∧ t σ H1 fun vs H2 => sp vs H2 Q E
def tSMeth (C : Addr) (sp : Sp) (E : L2.St → XK) (ta : TE) (t : TA) : TE := fun σ H Q => ta σ H (kSMeth C sp (E σ) t σ Q)
def UseSM (P : Program) (w : World) (K : PySem.W.Frag) (mg : Str → Option Value) (base : Heap) (n : Nat) (C : Addr) (m : Str) (sp : Sp) : Prop := ∃ mc p g, FnR P w K mg base (L2.CX P w) n g sp ∧ ClX.CRead K C mc ∧ SMet K C mc m p g
section
variable {X : Cx} {k : Nat} {C p g : Addr} {mc : Value} {sp : Sp} {E : L2.St → XK} {o e : Expr} {es : List Expr} {m : Str} {pos apos : Pos} {ta : TE} {t : TA} {pl : Sem Bool}
theorem run_fnAt {CX : CXT} {f : Addr} {pins : List (Addr × Obj)} {σ : L2.St} {H : Hp} {s : Shared} {Q : VK} {E : XK} {us : List Value} {vs : List V} (F : FnR X.prog X.w X.K X.mg X.base CX k f sp) (hr : Room k X.A) (hx : PassesAt CX X σ E) (I : Inv X pins σ H s)
    (r : Vals vs us) (h : sp vs H Q E) : wpAny (model X.prog X.w) X.A (call (.ref f) us) (EP X pins σ Q) X.xe s := by
  refine wpAny_call (codeAny_mono (F X.A X.stack s H us vs Q E hr I.env0 r h) fun z s' hz => ?_)
  match z, hz with
  | .error u, hz => exact hx pins _ _ u s' I hz
  | .ok (.ret u), hz =>
    obtain ⟨v, H', I3, rv, q3⟩ := I.after hz
    exact ⟨v, H', I3, rv, q3⟩
  | .ok .next, hz => exact hz.elim
  | .ok .brk, hz => exact hz.elim
  | .ok .cont, hz => exact hz.elim
theorem pe_smeth (he : PE X o ta) (r : ClX.CRead X.K C mc) (c : SMet X.K C mc m p g) (F : FnR X.prog X.w X.K X.mg X.base (L2.CX X.prog X.w) k g sp) (hr : Room k X.A) (hx : ∀ σ, PassesAt (L2.CX X.prog X.w) X σ (E σ)) (ha : PA X (e :: es) t)
    (hst : starEach (e :: es) X.env = (false, eval e X.env) :: starEach es X.env := by rfl) (hpl : (backTo pos (starEach es X.env)).any (·.1) = false := by rfl)
    (ht : eval (.Call (.Attribute o m apos) (e :: es) [] pos) X.env = (do
      let ov ← eval o X.env
      standAt apos.atName
      let (f, first) ← holding [ov] (getMethod ov m pl)
      callWith pos f first (backTo pos (starEach (e :: es) X.env)) (backToKw pos (keywordEach [] X.env))) := by rfl) :
    PE X (.Call (.Attribute o m apos) (e :: es) [] pos) (tSMeth C sp E ta t) := by
  refine ⟨fun pins s σ H Q I h => ?_⟩
  refine PySem.W.methodCall_KW (pl := pl) (thn (he.run pins s σ H _ I h) fun u s1 ⟨x, H1, I1, rx, ex, q⟩ => ?_) ht
  subst ex
  obtain rfl : u = Value.ref C := rx
  obtain ⟨rest, hp⟩ := c.rc
  refine PySem.W.method_cls I1.kIn r.ga (PySem.W.cls_bind I1.kIn r.rd c.at_ ?_)
  refine wpAny_call (PySem.W.sm_get (s := { s1 with toks := s1.toks + 1 }) I1.kIn hp (PySem.W.handed_on rfl ?_))
  have I2 := I1.tok (s1.toks + 1)
  refine PySem.W.callWith_K (h₀ := X.base) I2.ok.mod.kin c.kp (thn (ha.run pos pins _ σ H1 _ I2 q) fun us s3 ⟨vs, H2, I3, rv, q2⟩ => ⟨I3.kIn, ?_⟩) hst hpl
  exact run_fnAt F hr (hx σ) I3 rv q2
end
section
variable {C : Addr} {sp : Sp} {E : L2.St → XK} {Ex : XK} {ta : TE} {t : TA} {σ : L2.St} {H : Hp} {Q : VK}
theorem r_smeth (q : ta σ H (kSMeth C sp (E σ) t σ Q)) : tSMeth C sp E ta t σ H Q := q
theorem r_kSMeth (q : t σ H fun vs H2 => sp vs H2 Q Ex) : kSMeth C sp Ex t σ Q (.ref C) H := ⟨rfl, q⟩
end
end Rd

set_option maxHeartbeats 4000000
/-! ExcB: own exception classes over ValueError, LookupError, RuntimeError, as values: made by position and by name, their fields, isinstance. -/
namespace Rd
open PySem PySem.Spec L2 NdefX PyProof.Rows
/-! ### the bases -/
structure ExcBase (B newId initId : String) (t : List Value) : Prop where
  facts : ExcBaseFacts B newId initId t
  kx : PySem.W.KxsFacts B initId
  pass : ∀ self, refuseLoop self "__setattr__" t = pure ()
  obj : t.contains (.type "object") = true
  ne : t.isEmpty = false
theorem base_VE : ExcBase "ValueError" "ValueError.__new__" "ValueError.__init__" [.type "ValueError", .type "Exception", .type "BaseException", .type "object"] := ⟨F.excBase_ValueError, PySem.W.kxs_ValueError, fun s => F.store_ValueError.passes s, by decide +kernel, rfl⟩
theorem base_LE : ExcBase "LookupError" "LookupError.__new__" "LookupError.__init__" [.type "LookupError", .type "Exception", .type "BaseException", .type "object"] := ⟨F.excBase_LookupError, PySem.W.kxs_LookupError, fun s => F.store_LookupError.passes s, by decide +kernel, rfl⟩
theorem base_RE : ExcBase "RuntimeError" "RuntimeError.__new__" "RuntimeError.__init__" [.type "RuntimeError", .type "Exception", .type "BaseException", .type "object"] := ⟨F.excBase_RuntimeError, PySem.W.kxs_RuntimeError, fun s => F.store_RuntimeError.passes s, by decide +kernel, rfl⟩
/-- own classes, then the base's mro -/
def refsT (t : List Value) : List Value → Bool
  | .ref _ :: r => refsT t r
  | l => l == t
theorem refsT_cases (t : List Value) : ∀ l : List Value, refsT t l = true → (∃ c r, l = .ref c :: r ∧ refsT t r = true) ∨ l = t
  | [], e => .inr (beq_iff_eq.mp e)
  | .ref c :: r, e => .inl ⟨c, r, rfl, e⟩
  | .none :: _, e => .inr (beq_iff_eq.mp e)
  | .ellipsis :: _, e => .inr (beq_iff_eq.mp e)
  | .notImplemented :: _, e => .inr (beq_iff_eq.mp e)
  | .bool _ :: _, e => .inr (beq_iff_eq.mp e)
  | .int _ _ :: _, e => .inr (beq_iff_eq.mp e)
  | .float _ _ :: _, e => .inr (beq_iff_eq.mp e)
  | .str _ _ :: _, e => .inr (beq_iff_eq.mp e)
  | .bytes _ _ :: _, e => .inr (beq_iff_eq.mp e)
  | .type _ :: _, e => .inr (beq_iff_eq.mp e)
  | .builtin _ :: _, e => .inr (beq_iff_eq.mp e)
section
variable {B newId initId : String} {t : List Value} (Z : ExcBase B newId initId t)
include Z
theorem refsT_pass (self : Value) : ∀ l : List Value, refsT t l = true → refuseLoop self "__setattr__" l = pure () := by
  intro l
  induction l with
  | nil =>
    intro e
    have e' : ([] : List Value) = t := beq_iff_eq.mp e
    have := Z.ne
    rw [← e'] at this
    cases this
  | cons a r ih =>
    intro e
    rcases refsT_cases t (a :: r) e with ⟨c, r', q, h⟩ | q
    · obtain ⟨rfl, rfl⟩ := List.cons.inj q
      rw [refuseLoop_ref]
      exact ih h
    · rw [q]
      exact Z.pass self
theorem refsT_contains (X : String) : ∀ l : List Value, refsT t l = true → l.contains (.type X) = t.contains (.type X) := by
  intro l
  induction l with
  | nil =>
    intro e
    have e' : ([] : List Value) = t := beq_iff_eq.mp e
    rw [e']
  | cons a r ih =>
    intro e
    rcases refsT_cases t (a :: r) e with ⟨c, r', q, h⟩ | q
    · obtain ⟨rfl, rfl⟩ := List.cons.inj q
      rw [List.contains_cons, ih h]
      rfl
    · rw [q]
theorem refsT_ne {l : List Value} (e : refsT t l = true) : l.isEmpty = false := by
  cases l with
  | nil =>
    have e' : ([] : List Value) = t := beq_iff_eq.mp e
    have := Z.ne
    rw [← e'] at this
    cases this
  | cons _ _ => rfl
end
end Rd
namespace PySem
namespace HandSPX
open Builtin Builtin.ObjectAttr Rd
section
variable {prog : Program} {w : World} {A : Around} {E : Value → Shared → Prop} {R : Result → Shared → Prop} {hp : Heap} {g : Array GenState} {d : Drawn} {t : Nat} {os : OsState}
theorem exc_osaT {B newId initId : String} {tl : List Value} (Z : ExcBase B newId initId tl) {K : W.Frag} {name : Str} {tk : Tok} {v : Value} {x C : Addr} {fv : Array Value} {cd : ClassData}
    (X : K.In hp) (hx : hp.get? x = some { cls := .ref C, data := .fields fv }) (hcd : W.clsIn K C = some cd) (hm : refsT tl cd.mro = true) (hh : cd.hasDict = true) (ha : W.findIn K (.ref C) name = some none)
    (hq : ∀ h' tk' dx, (∀ b o, b ≠ x → hp.get? b = some o → h'.get? b = some o) → hp.objs.size ≤ dx → dx ≠ x → h'.get? x = some { cls := .ref C, dict := some dx, data := .fields fv } →
      h'.Ns1 dx (fun y => if y = name then some v else none) → R (.ok (.ret .none)) ⟨h', g, d, tk', os⟩) :
    codeAny (model prog w) A (.call (.builtin "object.__setattr__") ⟨[.ref x, .str name tk, v], []⟩) R ⟨hp, g, d, t, os⟩ := by
  have I : W.InstAt hp x { cls := .ref C, data := .fields fv } C none := ⟨hx, rfl, rfl, trivial⟩
  have SF := F.store_object
  have ne := refsT_ne Z hm
  have hob : cd.mro.contains (.type "object") = true := (refsT_contains Z "object" _ hm).trans Z.obj
  have hxs : x ≠ hp.objs.size := Nat.ne_of_lt (Heap.lt_size hx)
  have sub : W.Looks (model prog w) hp (isInstance (.ref x) (.type "object")) true := I.type.andThen (W.looks_mroIn X (by unfold W.mroIn; rw [hcd, Option.bind_some, if_neg (by rw [ne]; decide), hob]))
  refine codeAny_call_builtin SF.slot.plain SF.entry (@W.check_slot (model prog w) _ _ ⟨hp, g, d, t, os⟩ "object.__setattr__" "object" "__setattr__" (.ref x) [.str name tk, v] [] _ SF.kind SF.split sub (SF.args (.ref x) (.str name tk) v) ?_)
  have hmr : W.Looks (model prog w) hp (mroOf (.ref C)) cd.mro := (W.looks_clsIn X hcd).andThen .now
  have L3 : W.Looks (model prog w) hp (storeTaker? none) none := .now
  have hcls : W.Looks (model prog w) hp (classData C) cd := W.looks_clsIn X hcd
  rw [W.osa_eq, refuse_eq]
  refine wpAny_bind (wpAny_bind (I.type.at (wpAny_bind (hmr.at ?_))))
  rw [refsT_pass Z _ _ hm]
  refine wpAny_pure (wpAny_bind (I.type.at (wpAny_bind ((W.looks_findIn X ha).at (wpAny_bind (L3.at ?_))))))
  show wpAny _ _ (storeInOwnDict (.ref x) (.ref C) (.str name tk) name v false) _ _ _
  obtain ⟨nm, bs, mro, ns, qn, hd, sn, sb, ab, col, del⟩ := cd
  dsimp only at hh
  subst hh
  unfold storeInOwnDict ownDictForStores
  repeat (first | with_reducible refine store_in_new ?_ ?_ | with_reducible refine wpAny_loadPart_at hx ?_ | with_reducible refine hcls.at ?_ | wp_step)
  · exact ⟨_, #[], _, (Heap.get?_update_ne _ _ _ _ hxs.symm).trans (Heap.get?_push_at rfl rfl), rfl, fun e he => absurd he (by simp), fun _ => rfl⟩
  · intro h' tk' hn' hs
    have hx₁ : (hp.push { cls := .type "dict", data := .dict #[] }).get? x = some { cls := .ref C, data := .fields fv } := Heap.get?_push_of_some _ hx
    refine hq h' tk' hp.objs.size (fun b o hb ho => ?_) (Nat.le_refl _) hxs.symm ?_ hn'
    · exact (hs.2 b (Nat.ne_of_lt (Heap.lt_size ho))).trans ((Heap.get?_update_ne _ _ _ _ hb).trans (Heap.get?_push_of_some _ ho))
    · exact (hs.2 x hxs).trans (Heap.get?_update_self _ hx₁ rfl)
end
end HandSPX
namespace OEX
open PySem.W PySem.Calls PyProof.Rows PySem.HandSPX
open Builtin Builtin.ObjectAttr Rd
section
variable {prog : Program} {w : World} {A : Around} {E : Value → Shared → Prop} {R : Result → Shared → Prop} {hp : Heap} {g : Array GenState} {d : Drawn} {t : Nat} {os : OsState}
theorem osa_oldT {B newId initId : String} {tl : List Value} (Z : ExcBase B newId initId tl) {K : W.Frag} {name : Str} {tk : Tok} {v : Value} {x C dx : Addr} {fv : Array Value} {cd : ClassData} {m0 : Str → Option Value} {nl : List Str}
    (X : K.In hp) (hx : hp.get? x = some { cls := .ref C, dict := some dx, data := .fields fv }) (hns : hp.Ns1 dx m0) (hw : Within m0 nl) (hz : nl.length ≤ 1000) (hcd : W.clsIn K C = some cd) (hm : refsT tl cd.mro = true) (hh : cd.hasDict = true)
    (ha : W.findIn K (.ref C) name = some none)
    (hq : ∀ h' tk', (∀ b o, b ≠ dx → hp.get? b = some o → h'.get? b = some o) → h'.Ns1 dx (fun y => if y = name then some v else m0 y) → R (.ok (.ret .none)) ⟨h', g, d, tk', os⟩) :
    codeAny (model prog w) A (.call (.builtin "object.__setattr__") ⟨[.ref x, .str name tk, v], []⟩) R ⟨hp, g, d, t, os⟩ := by
  obtain ⟨oD, esD, epD, hoD, hdD, _⟩ := hns.count hw
  have I : W.InstAt hp x { cls := .ref C, dict := some dx, data := .fields fv } C (some oD) := ⟨hx, rfl, rfl, hoD⟩
  have SF := F.store_object
  have ne := refsT_ne Z hm
  have hob : cd.mro.contains (.type "object") = true := (refsT_contains Z "object" _ hm).trans Z.obj
  have sub : W.Looks (model prog w) hp (isInstance (.ref x) (.type "object")) true := I.type.andThen (W.looks_mroIn X (by unfold W.mroIn; rw [hcd, Option.bind_some, if_neg (by rw [ne]; decide), hob]))
  refine codeAny_call_builtin SF.slot.plain SF.entry (@W.check_slot (model prog w) _ _ ⟨hp, g, d, t, os⟩ "object.__setattr__" "object" "__setattr__" (.ref x) [.str name tk, v] [] _ SF.kind SF.split sub (SF.args (.ref x) (.str name tk) v) ?_)
  have hmr : W.Looks (model prog w) hp (mroOf (.ref C)) cd.mro := (W.looks_clsIn X hcd).andThen .now
  have L3 : W.Looks (model prog w) hp (storeTaker? none) none := .now
  have hcls : W.Looks (model prog w) hp (classData C) cd := W.looks_clsIn X hcd
  rw [W.osa_eq, refuse_eq]
  refine wpAny_bind (wpAny_bind (I.type.at (wpAny_bind (hmr.at ?_))))
  rw [refsT_pass Z _ _ hm]
  refine wpAny_pure (wpAny_bind (I.type.at (wpAny_bind ((W.looks_findIn X ha).at (wpAny_bind (L3.at ?_))))))
  show wpAny _ _ (storeInOwnDict (.ref x) (.ref C) (.str name tk) name v false) _ _ _
  obtain ⟨nm, bs, mro, ns, qn, hd, sn, sb, ab, col, del⟩ := cd
  dsimp only at hh
  subst hh
  unfold storeInOwnDict ownDictForStores
  repeat (first | with_reducible refine store_in_old hns hw hz ?_ | with_reducible refine wpAny_loadPart_at hx ?_ | with_reducible refine hcls.at ?_ | wp_step)
  intro h' tk' hn' hs
  exact hq h' tk' (fun b o hb ho => (hs.2 b hb).trans ho) hn'
end
end OEX
end PySem

set_option maxHeartbeats 4000000
/-! ExcK: an own exception class called with keywords. -/
namespace PySem
namespace HandSPX
open Builtin Builtin.ObjectAttr
section
variable {M : Model} {A : Around} {E : Value → Shared → Prop} {h : Heap} {g : Array GenState} {d : Drawn} {t : Nat} {os : OsState}
variable {nm q : Str} {C N : Addr} {bs bm bmB : List Value} {hdct : Bool} {sn : List Str} {sub : List Value} {ab : Bool} {col : Option Bool} {dd : Option Addr} {k0 k1 k2 k3 k5 : Option Value} {B newId initId : String}
theorem check_new_kw (F : ExcBaseFacts B newId initId bmB) (hT : ∀ X : String, bm.contains (.type X) = bmB.contains (.type X)) {rest : List Value} {kw : List (Str × Value)} {Q : Unit → Shared → Prop}
    (hC : h.get? C = some (excClassObj nm q C N bs bm hdct sn sub ab col dd k0 k1 k2 k3 k5 newId)) (hq : Q () ⟨h, g, d, t, os⟩) : wpAny M A (checkBuiltinCall newId ⟨.ref C :: rest, kw⟩) Q E ⟨h, g, d, t, os⟩ := by
  have hcont : (Value.ref C :: bm).contains (.type B) = true := by rw [List.contains_cons, hT, F.hasB, Bool.or_true]
  have hstar := F.noStar
  simp only [checkBuiltinCall, F.newKind, F.newSplit, F.newRow]
  repeat (first | refine wpAny_loadPart_at hC ?_ | (refine wpAny_isSubtype_exc hC ?_; rw [hcont]) | refine wpAny_staticBase_exc hC ?_ | refine wpAny_madeBy_exc hC ?_ | simp only [bne_self_eq_false, Bool.false_eq_true, if_false] | wp_step)
  exact hq
end
section
variable {prog : Program} {w : World} {A : Around} {E : Value → Shared → Prop} {R : Result → Shared → Prop} {h : Heap} {g : Array GenState} {d : Drawn} {t : Nat} {os : OsState}
variable {nm q : Str} {C N : Addr} {bs bm bmB : List Value} {hdct : Bool} {sn : List Str} {sub : List Value} {ab : Bool} {col : Option Bool} {dd : Option Addr} {k0 k1 k2 k3 k5 : Option Value} {B newId initId : String}
theorem new_kw (F : ExcBaseFacts B newId initId bmB) (hT : ∀ X : String, bm.contains (.type X) = bmB.contains (.type X)) {rest : List Value} {kw : List (Str × Value)}
    (hC : h.get? C = some (excClassObj nm q C N bs bm hdct sn sub ab col dd k0 k1 k2 k3 k5 newId))
    (hq : R (.ok (.ret (.ref (h.objs.size + 1)))) ⟨(h.push { cls := .type "tuple", data := .seq rest.toArray }).push
      { cls := .ref C, data := .fields #[.ref h.objs.size, .none, .none, .none, .bool false, .none] }, g, d, t, os⟩) (hrest : rest.length ≤ sizeLine) :
    codeAny (model prog w) A (.builtin newId ⟨.ref C :: rest, kw⟩) R ⟨h, g, d, t, os⟩ := by
  have hends := F.ends
  have hcB : (Value.ref C :: bm).contains (.type B) = true := by rw [List.contains_cons, hT, F.hasB, Bool.or_true]
  have hcA : (Value.ref C :: bm).contains (.type "AttributeError") = false := by rw [List.contains_cons, hT, F.noAttr]; rfl
  have hcN : (Value.ref C :: bm).contains (.type "NameError") = false := by rw [List.contains_cons, hT, F.noName]; rfl
  refine codeAny_builtinAt F.entry ?_
  unfold Builtin.«BaseException.__new__»
  refine wpAt_bind ?_
  show wpAt _ _ _ (stack >>= _) _ _ _
  refine wpAt_bind (wpAt_stack fun p below => wpAt_of_wpAny ?_)
  wp_walk
  refine wpAt_of_wpAny ?_
  rw [F.owner]
  repeat (first | with_reducible refine wpAny_madeHere_exc F.canon hC ?_ | with_reducible refine wpAny_loadPart_at hC ?_ | (with_reducible refine wpAny_isSubtype_exc hC ?_; first | rw [hcB] | rw [hcA] | rw [hcN]) | wp_step)
  show R _ _
  rw [Heap.size_push]
  exact hq
theorem type_call_kw (F : ExcBaseFacts B newId initId bmB) (hT : ∀ X : String, bm.contains (.type X) = bmB.contains (.type X)) {rest : List Value} {kw : List (Str × Value)} {fI : Addr} {Q : Fin → Shared → Prop}
    (hC : h.get? C = some (excClassObj nm q C N bs bm hdct sn sub ab col dd k0 k1 k2 k3 k5 newId))
    (hi : W.Looks (model prog w) h (typeLookup (.ref C) "__init__") (some (.ref fI))) (hb : ∀ self, W.Looks (model prog w) h (bindSpecial (.ref fI) self) (.ref fI, [self])) (hrest : rest.length ≤ sizeLine)
    (hq : codeAny (model prog w) A (.call (.ref fI) ⟨.ref (h.objs.size + 1) :: rest, kw⟩)
      (fun r s' => match r with | .ok (.ret v) => v = .none ∧ Q (.done (.ret (.ref (h.objs.size + 1)))) s' | .ok _ => False | .error e => E e s')
      ⟨(h.push (W.kdv_tup rest)).push (excO C h.objs.size), g, d, t, os⟩) :
    wpAny (model prog w) A (Builtin.«type.__call__» ⟨.ref C :: rest, kw⟩) Q E ⟨h, g, d, t, os⟩ := by
  repeat (first | with_reducible refine wpAny_loadPart_at hC ?_ | with_reducible refine wpAny_madeBy_exc hC ?_ | wp_step)
  refine codeAny_call_builtin_code (Code.quiet_builtin _ F.quiet) (check_new_kw F hT hC ?_)
  refine new_kw F hT hC ?_ hrest
  show wpAny _ _ _ _ _ _
  have k : ∀ b o, h.get? b = some o → ((h.push (W.kdv_tup rest)).push (excO C h.objs.size)).get? b = some o := fun b o e => Heap.get?_push_of_some _ (Heap.get?_push_of_some _ e)
  have hC₁ := k _ _ hC
  have hget : ((h.push (W.kdv_tup rest)).push (excO C h.objs.size)).get? (h.objs.size + 1) = some (excO C h.objs.size) := by heap_get
  have hcC : (Value.ref C :: bm).contains (.ref C) = true := by simp
  have i1 := hi.keeps k
  have b1 := (hb (.ref (h.objs.size + 1))).keeps k
  unfold isInstance
  repeat (first | with_reducible refine wpAny_loadPart_at hget ?_ | (with_reducible refine wpAny_isSubtype_exc hC₁ ?_; rw [hcC]) | wp_step)
  show wpAny _ _ (typeLookup (.ref C) _) _ _ _
  refine i1.at ?_
  refine wpAny_holding (wpAny_bind (b1.at ?_))
  refine wpAny_bind (wpAny_call (codeAny_mono hq fun r s' z => ?_))
  rcases r with e | (v | _ | _ | _) <;> first | exact z | exact z.elim | skip
  obtain ⟨rfl, z⟩ := z
  first
    | exact wpAny_pure (wpAny_pure z)
    | (wp_walk; exact z)
theorem call_kw (F : ExcBaseFacts B newId initId bmB) (hT : ∀ X : String, bm.contains (.type X) = bmB.contains (.type X)) {rest : List Value} {kw : List (Str × Value)} {fI : Addr}
    (hC : h.get? C = some (excClassObj nm q C N bs bm hdct sn sub ab col dd k0 k1 k2 k3 k5 newId))
    (hi : W.Looks (model prog w) h (typeLookup (.ref C) "__init__") (some (.ref fI))) (hb : ∀ self, W.Looks (model prog w) h (bindSpecial (.ref fI) self) (.ref fI, [self])) (hrest : rest.length ≤ sizeLine)
    (hq : codeAny (model prog w) (A.under (.builtin "type.__call__" ⟨.ref C :: rest, kw⟩)) (.call (.ref fI) ⟨.ref (h.objs.size + 1) :: rest, kw⟩) (W.InitBack (h.objs.size + 1) R)
      ⟨(h.push (W.kdv_tup rest)).push (excO C h.objs.size), g, d, t, os⟩) :
    codeAny (model prog w) A (.call (.ref C) ⟨rest, kw⟩) R ⟨h, g, d, t, os⟩ := by
  have f1 := tc_lookup
  have f2 := tc_bind (.ref C)
  have f3 := tc_sub
  have hTy : (⟨h, g, d, t, os⟩ : Shared).TypeIs (.ref C) "type" := ⟨_, hC, rfl⟩
  have typ : W.Looks (model prog w) h (isInstance (.ref C) (.type "type")) true := by
    unfold isInstance
    exact ((W.Looks.ld hC).andThen .now).andThen (W.Looks.of_pure f3)
  refine codeAny_of_tree ?_
  show wpAny _ _ (callAny (.ref C) _) _ _ _
  repeat (any_goals (first | assumption | with_reducible refine wpAny_loadPart_at hC ?_ | wp_step))
  refine ⟨rfl, ?_⟩
  refine codeAny_call_builtin_at (Code.quiet_builtin _ (by decide +kernel)) entry_typeCall (W.check_slot tc_kind tc_split typ (W.tc_args _ _ _) (type_call_kw F hT hC hi hb hrest ?_))
  refine codeAny_mono hq fun r s' z => ?_
  rcases r with e | (v | _ | _ | _) <;> exact z
end
end HandSPX
end PySem

set_option maxHeartbeats 4000000
/-! ExcV: exceptions of own classes (over ValueError, LookupError, RuntimeError) as values. -/
namespace Rd
open PySem PySem.Spec L2 NdefX PyProof.Rows
structure OexB (K : PySem.W.Frag) (C : Addr) (newId : String) (t : List Value) : Prop where
  cls : ∃ nm q N bs bm sn sub ab col dd k0 k1 k2 k3 k5, K.lookup C = some (excClassObj nm q C N bs bm true sn sub ab col dd k0 k1 k2 k3 k5 newId) ∧ refsT t bm = true
  sa : PySem.W.findIn K (.ref C) "__setattr__" = some (some (.builtin "object.__setattr__"))
  exC : PySem.W.subIn K (.ref C) (.type "BaseException") = some true
  tyC : PySem.W.typeIn K (.ref C) = some (.type "type")
  kC : PySem.W.keepIn K (.ref C) = true
section
variable {X : Cx} {pins : List (Addr × Obj)} {σ : L2.St} {H : Hp} {s : Shared} {a C dx : Addr} {f : Str} {y : V} {u : Value} {fs : List (Str × V)} {Q : Unit → Shared → Prop} {E : Value → Shared → Prop} {A : Around} {B newId initId : String} {tl : List Value}
theorem ost_newB (Z : ExcBase B newId initId tl) (T : OexB X.K C newId tl) (I : Inv X pins σ H s) (e : H a = some (exo a C none)) (hno : PySem.W.findIn X.K (.ref C) f = some none) (ry : RelV y u)
    (h : ∀ dx s', H dx = none → dx ≠ a → Inv X pins σ (upd (upd H dx (exd dx [(f, y)])) a (exo a C (some dx))) s' → Q () s') : wpAny (model X.prog X.w) A (setAttr (.ref a) f u) Q E s := by
  obtain ⟨nm, q, N, bs, bm, sn, sub, ab, col, dd, k0, k1, k2, k3, k5, hC, hbm⟩ := T.cls
  have hcl : PySem.W.clsIn X.K C = some { name := nm, bases := bs, mro := .ref C :: bm, ns := N, qualname := q, hasDict := true, slotNames := sn, subclasses := sub, abstract := ab, collection := col, hasDel := false } := by unfold PySem.W.clsIn; rw [hC] <;> rfl
  obtain ⟨t1, ho⟩ := exo_at I.hok e
  obtain ⟨hp, g, d, t, os⟩ := s
  refine PySem.W.set_plain I.kIn (ox := { cls := .ref C, dict := none, data := .fields #[.ref t1, .none, .none, .none, .bool false, .none] }) (od := none) ⟨ho, rfl, rfl, trivial⟩ T.sa ?_
  refine PySem.HandSPX.exc_osaT Z I.kIn ho hcl (show refsT tl (.ref C :: bm) = true from hbm) rfl hno (fun h' tk' dx k dn dne hx hn => ?_)
  have hnd : H dx = none := I.hok.fresh dn
  have nd : ∀ {b : Addr} {o : Obj}, hp.get? b = some o → b ≠ dx := fun {b o} q => Nat.ne_of_lt (Nat.lt_of_lt_of_le (Heap.lt_size q) dn)
  have na : ∀ {b : Addr}, H b = none → b ≠ a := fun {b} n z => by
    rw [z, e] at n
    cases n
  have Un1 : Un X.fs [] H (upd (upd H dx (exd dx [(f, y)])) a (exo a C (some dx))) hp h' := {
    keep := fun b o q n _ _ => k b o (na n) q
    slot := fun b o q n _ _ => ⟨o.slots, k b o (na n) q⟩
    free := fun b o q n _ => by rw [upd_ne (na n), upd_ne (nd q)]; exact n
    there := fun b o q _ => by
      by_cases hb : b = a
      · exact ⟨_, by rw [hb]; exact hx⟩
      · exact ⟨o, k b o hb q⟩
    tups := fun b xs q => by rw [upd_ne (at_ne e q exo_tup), upd_ne (ne_of_none q hnd)]; exact q
    frzs := fun b o v q => by rw [upd_ne (at_ne e q exo_frz), upd_ne (ne_of_none q hnd)]; exact q
    tbls := fun b ps q => ⟨#[], by rw [upd_ne (at_ne e q exo_tbl), upd_ne (ne_of_none q hnd), q]; simp⟩ }
  refine h dx _ hnd dne (I.un (t' := tk') Un1 fun b o q => ?_)
  by_cases hb : b = a
  · subst hb
    rw [upd_same] at q
    cases q
    exact exo_ok hx
  · rw [upd_ne hb] at q
    by_cases hd : b = dx
    · subst hd
      rw [upd_same] at q
      cases q
      exact exd_ok hn (relO_put (fs := []) ry fun g => True.intro)
    · rw [upd_ne hd] at q
      exact (I.hok b o q).stay (fun c v hc z => k c v (by
          rcases hc with hc | hc
          · rw [hc]
            exact hb
          · exact at_ne e hc exo_own) z)
        (fun c hc => by rw [upd_ne (at_ne e hc exo_own), upd_ne (ne_of_none hc hnd)]; exact hc) (fun c xs hc => by rw [upd_ne (at_ne e hc exo_tup), upd_ne (ne_of_none hc hnd)]; exact hc)
theorem ost_oldB (Z : ExcBase B newId initId tl) (T : OexB X.K C newId tl) (I : Inv X pins σ H s) (e : H a = some (exo a C (some dx))) (ed : H dx = some (exd dx fs)) (hl : fs.length ≤ 900) (hno : PySem.W.findIn X.K (.ref C) f = some none) (ry : RelV y u)
    (h : ∀ s', Inv X pins σ (upd H dx (exd dx ((f, y) :: fs))) s' → Q () s') : wpAny (model X.prog X.w) A (setAttr (.ref a) f u) Q E s := by
  obtain ⟨nm, q, N, bs, bm, sn, sub, ab, col, dd, k0, k1, k2, k3, k5, hC, hbm⟩ := T.cls
  have hcl : PySem.W.clsIn X.K C = some { name := nm, bases := bs, mro := .ref C :: bm, ns := N, qualname := q, hasDict := true, slotNames := sn, subclasses := sub, abstract := ab, collection := col, hasDel := false } := by unfold PySem.W.clsIn; rw [hC] <;> rfl
  obtain ⟨t1, ho⟩ := exo_at I.hok e
  obtain ⟨mA, hns, rel⟩ := exd_at I.hok ed
  have hw := within_of rel
  obtain ⟨hp, g, d, t, os⟩ := s
  obtain ⟨oD, _, _, hoD, _, _⟩ := hns.count hw
  refine PySem.W.set_plain I.kIn (ox := { cls := .ref C, dict := some dx, data := .fields #[.ref t1, .none, .none, .none, .bool false, .none] }) (od := some oD) ⟨ho, rfl, rfl, hoD⟩ T.sa ?_
  refine PySem.OEX.osa_oldT Z I.kIn ho hns hw (by rw [List.length_map]; omega) hcl (show refsT tl (.ref C :: bm) = true from hbm) rfl hno (fun h' tk' k hn => ?_)
  have hd : ∃ o, h'.get? dx = some o := by
    obtain ⟨o, _, _, e', _⟩ := hn
    exact ⟨o, e'⟩
  exact h _ (I.write (t' := tk') (x := dx) (e := dx) (o := exd dx ((f, y) :: fs)) (by rw [ed]; exact True.intro) (.inl rfl) k hd (exd_ok hn (relO_put ry rel)))
end
/-- self.f = e -/
def tOstB (newId : String) (tl : List Value) (K : PySem.W.Frag) (f : Str) (to te : TE) : TS := fun D σ H => te σ H fun y H1 => to σ H1 fun x H2 => ∃ a C : Addr, x = .ref a ∧ OexB K C newId tl ∧ PySem.W.findIn K (.ref C) f = some none ∧
  ((H2 a = some (exo a C none) ∧ ∀ dx, H2 dx = none → dx ≠ a → D.nx σ (upd (upd H2 dx (exd dx [(f, y)])) a (exo a C (some dx)))) ∨
    ∃ (dx : Addr) (fs : List (Str × V)), H2 a = some (exo a C (some dx)) ∧ H2 dx = some (exd dx fs) ∧ fs.length ≤ 900 ∧ D.nx σ (upd H2 dx (exd dx ((f, y) :: fs))))
section
variable {X : Cx} {o e : Expr} {to te : TE} {f : Str} {p' pos : Pos} {B newId initId : String} {tl : List Value}
theorem ps_ostB (Z : ExcBase B newId initId tl) (ho : PE X o to) (he : PE X e te) (hs : swapsWith e (some (.Attribute o f p')) pos.line X.env = pure false := by rfl) : PS X (.Assign [.Attribute o f p'] e pos) (tOstB newId tl X.K f to te) := by
  refine ⟨fun pins s σ H D I h => ?_⟩
  refine plainObj_wpAny_Assign_Attribute (thn (he.run pins s σ H _ I h) fun v s1 ⟨y, H1, I1, r1, q1⟩ => thn (ho.run pins s1 σ H1 _ I1 q1) fun u s2 ⟨x, H2, I2, r2, a, C, ex, T, hno, q⟩ => ?_) hs
  subst ex
  obtain rfl : u = Value.ref a := r2
  rcases q with ⟨ea, q⟩ | ⟨dx, fs, ea, ed, hl, q⟩
  · exact ost_newB Z T I2 ea hno r1 fun dx s' n ne J => ⟨σ, _, J, q dx n ne⟩
  · exact ost_oldB Z T I2 ea ed hl hno r1 fun s' J => ⟨σ, _, J, q⟩
end
theorem r_ostB {newId : String} {tl : List Value} {K : PySem.W.Frag} {fld : Str} {i j : Nat} {nx bk ct : L2.St → Hp → Prop} {rt : VK} {σ : L2.St} {H : Hp} {a C : Addr} {v : V} (e : σ[i]? = some (some (.ref a))) (e' : σ[j]? = some (some v)) (T : OexB K C newId tl) (n : PySem.W.findIn K (.ref C) fld = some none) (ha : H a = some (exo a C none))
    (q : ∀ dx H', H dx = none → dx ≠ a → Kp [a] H H' → H' a = some (exo a C (some dx)) → H' dx = some (exd dx [(fld, v)]) → nx σ H') : tOstB newId tl K fld (tVar i) (tVar j) ⟨nx, rt, bk, ct⟩ σ H :=
  ⟨v, e', .ref a, e, a, C, rfl, T, n, .inl ⟨ha, fun dx nd ne => q dx _ nd ne (fun b o eb hb => by
    have hba : b ≠ a := fun z => hb (List.mem_singleton.mpr z)
    have hbd : b ≠ dx := fun z => by
      rw [z, nd] at eb
      cases eb
    rw [upd_ne hba, upd_ne hbd]
    exact eb) upd_same (by rw [upd_ne ne, upd_same])⟩⟩
theorem r_ostB2 {newId : String} {tl : List Value} {K : PySem.W.Frag} {fld : Str} {i j : Nat} {nx bk ct : L2.St → Hp → Prop} {rt : VK} {σ : L2.St} {H : Hp} {a C dx : Addr} {v : V} {fs : List (Str × V)} (e : σ[i]? = some (some (.ref a))) (e' : σ[j]? = some (some v)) (T : OexB K C newId tl) (n : PySem.W.findIn K (.ref C) fld = some none) (ha : H a = some (exo a C (some dx)))
    (hd : H dx = some (exd dx fs)) (hl : fs.length ≤ 900) (q : ∀ H', Kp [dx] H H' → H' dx = some (exd dx ((fld, v) :: fs)) → nx σ H') : tOstB newId tl K fld (tVar i) (tVar j) ⟨nx, rt, bk, ct⟩ σ H :=
  ⟨v, e', .ref a, e, a, C, rfl, T, n, .inr ⟨dx, fs, ha, hd, hl, q _ (Kp.put (by simp)) upd_same⟩⟩
/-! ### super().__init__(text) -/
structure SupCB (P : Program) (K : PySem.W.Frag) (mg : Str → Option Value) (C cda : Addr) (B newId initId : String) (tl : List Value) : Prop where
  oex : OexB K C newId tl
  up : PySem.W.ks_superIn K C C "__init__" = some (some (.builtin initId))
  sub : PySem.W.subIn K (.ref C) (.type B) = some true
  own : PySem.W.mroIn K C (.ref C) = some true
  opq : PySem.W.nsIn K cStatics "thirdparty.any" = some none
  zs : mg "super" = none
  file : ∃ ccl cdd vs ccs fl tf, K.lookup cda = some ⟨ccl, cdd, .fields vs, ccs⟩ ∧ vs[2]? = some (.str fl tf) ∧ (P.main.file == fl) = true
  top : (P.main.scope.names.lookup ("super" : Str)).isSome = false
theorem qs_supB {CX : CXT} {P : Program} {w : World} {K : PySem.W.Frag} {mg : Str → Option Value} {base : Heap} {f cc cda C : Addr} {name qual : Str} {params : Arguments} {body body' : List Stmt} {scope : Scope} {dV kV doc pm ct oc cl : Value} {an od cld : Option Addr}
    {osl csl : Array (Option Value)} {N : List Str} {A : Around} {outer : List Env} {s0 : Shared} {H0 : Hp} {E : XK} {ar : Arg} {p0 p1 p2 p3 p4 p5 : Pos} {m : Str} {j : Nat} {pl : Sem Bool} {rest : List Stmt} {t : TS} {B newId initId : String} {tl : List Value} (Zb : ExcBase B newId initId tl)
    (lk : K.lookup f = some ⟨oc, od, .func (PySem.W.ksFn name qual params body scope dV kV doc pm an (.ref cda) ct cc), osl⟩) (cell : K.lookup cc = some ⟨cl, cld, .cell (some (.ref C)), csl⟩) (Z : SupCB P K mg C cda B newId initId tl)
    (hks : scope.names.lookup ("super" : Str) = some .globalImplicit) (hkc : scope.names.lookup ("__class__" : Str) = some .free) (hp : (params.posonlyargs ++ params.args).head? = some ar) (hN : N[0]? = some ar.arg)
    (hka : scope.names.lookup ar.arg = some .local) (hk : scope.kind = .function)
    (hi : interactive (envF ⟨name, qual, params, body, scope, [("__class__", cc)], cda⟩ f s0.heap.objs.size) = false)
    (hs : swapsWith (.Call (.Attribute (.Call (.Name "super" p0) [] [] p1) "__init__" p2) [.Constant (.str m) j p3] [] p4) none p5.line (envF ⟨name, qual, params, body, scope, [("__class__", cc)], cda⟩ f s0.heap.objs.size) = pure false)
    (he : eval (.Call (.Attribute (.Call (.Name "super" p0) [] [] p1) "__init__" p2) [.Constant (.str m) j p3] [] p4) (envF ⟨name, qual, params, body, scope, [("__class__", cc)], cda⟩ f s0.heap.objs.size) = (do
      let ov ← attributeBase (.Call (.Name "super" p0) [] [] p1) "__init__" (envF ⟨name, qual, params, body, scope, [("__class__", cc)], cda⟩ f s0.heap.objs.size) (eval (.Call (.Name "super" p0) [] [] p1) (envF ⟨name, qual, params, body, scope, [("__class__", cc)], cda⟩ f s0.heap.objs.size))
      standAt p2.atName
      let (fx, first) ← holding [ov] (getMethod ov "__init__" pl)
      callWith p4 fx first (backTo p4 (starEach [.Constant (.str m) j p3] (envF ⟨name, qual, params, body, scope, [("__class__", cc)], cda⟩ f s0.heap.objs.size))) []))
    (hst : starEach [.Constant (.str m) j p3] (envF ⟨name, qual, params, body, scope, [("__class__", cc)], cda⟩ f s0.heap.objs.size) = [(false, eval (.Constant (.str m) j p3) (envF ⟨name, qual, params, body, scope, [("__class__", cc)], cda⟩ f s0.heap.objs.size))])
    (hr : QS (ncx CX P w K mg base N ⟨name, qual, params, body, scope, [("__class__", cc)], cda⟩ f A outer s0 H0 E) (.func body' (envF ⟨name, qual, params, body, scope, [("__class__", cc)], cda⟩ f s0.heap.objs.size)) rest t) :
    QS (ncx CX P w K mg base N ⟨name, qual, params, body, scope, [("__class__", cc)], cda⟩ f A outer s0 H0 E) (.func body' (envF ⟨name, qual, params, body, scope, [("__class__", cc)], cda⟩ f s0.heap.objs.size))
      (.Expr (.Call (.Attribute (.Call (.Name "super" p0) [] [] p1) "__init__" p2) [.Constant (.str m) j p3] [] p4) p5 :: rest) (tSupI C t) := by
  constructor
  intro pins s σ H D I ⟨a, hσ, ha, q⟩
  have KX := I.kIn
  obtain ⟨t1, ho⟩ := exo_at I.hok ha
  obtain ⟨ccl, cdd, vs, ccs, fl, tf, hcode, hvs, hfile⟩ := Z.file
  obtain ⟨nm, qq, N', bs, bm, sn, sub, ab, col, dd, k0, k1, k2, k3, k5, hC, hbm⟩ := Z.oex.cls
  refine ks_wpAt_execs_cons (ks_wpAt_Expr_any (ks_wpAt_MethodCall (pl := pl) ?_ he) hi hs)
  obtain ⟨hh, g, d, tk, os⟩ := s
  have hD1 := KX _ _ hC
  refine ks_wpAt_super_base hks hkc (by decide) rfl (KX _ _ lk) rfl hp rfl (KX _ _ hcode) rfl hvs hfile Z.top ?_
  obtain ⟨mb, hbn, hbv⟩ := I.ok.mod.blt
  have hbo : bootBuiltins "super" = some (.type "super") := by first | rfl | decide +kernel
  refine W.ks_loadName_global hk hks (Calls.loadGlobal_builtin (I.mod.glob.keeps I.bk) Z.zs (hbn.keeps I.bk) ((hbv ("super" : Str) (by decide +kernel)).trans hbo) ⟨rfl, ?_⟩)
  refine wpAny_loadName_free hk hkc rfl ⟨_, KX _ _ cell, rfl⟩ ?_
  obtain ⟨ml, hns, hl⟩ := I.loc
  obtain ⟨u, ru, lku⟩ := hl 0 ar.arg (.ref a) hN hσ (.inl hka)
  have hm : ml ar.arg = some u := by
    rcases lku with ⟨_, z⟩ | ⟨z, _⟩
    · exact z
    · rcases z with z | z
      · exact absurd (hka.symm.trans z) (by decide)
      · exact absurd (hka.symm.trans z) (by decide)
  obtain rfl : u = Value.ref a := ru
  refine wpAny_loadName_local hk hka hns hm ?_
  refine ks_wpAny_isType_cls hD1 rfl ⟨rfl, ?_⟩
  refine ks_wpAny_call_super hD1 rfl ho rfl (fun c z => nomatch z) (W.looks_mroIn KX Z.own) fun h' e1 kp => ?_
  have I1 : Inv _ pins σ H ⟨h', g, d, tk, os⟩ := I.kept (t' := tk) kp
  have KX1 := I1.kIn
  have ho1 := kp _ _ ho
  have J : W.InstAt h' a (HandSPX.excO C t1) C none := ⟨ho1, rfl, rfl, trivial⟩
  have up := Z.up
  cases hc : W.clsIn K C with
  | none =>
    unfold W.ks_superIn at up
    rw [hc] at up
    cases up
  | some cd =>
    unfold W.ks_superIn at up
    rw [hc] at up
    refine W.kxs_getMethod Zb.kx e1 (W.looks_opaque KX1 Z.opq) (l₀ := cd.mro) (fun A Q E s k z => wpAny_bind ((W.looks_clsIn KX1 hc) A _ E s k (wpAny_pure z))) rfl KX1 up (J.type.andThen (W.looks_subIn KX1 Z.sub)) (W.ks_ne KX1 J hc) (by decide) ?_
    have k2 : ∀ b o, h'.get? b = some o → (h'.push (W.kxs_mw initId a)).get? b = some o := fun b o e => Heap.get?_push_of_some _ e
    have I2 : Inv _ pins σ H ⟨h'.push (W.kxs_mw initId a), g, d, tk + 1, os⟩ := I1.kept (t' := tk + 1) k2
    have hu : (h'.push (W.kxs_mw initId a)).get? h'.objs.size = some (W.kxs_mw initId a) := Heap.get?_push_size _ rfl
    have hst' : starEach [.Constant (.str m) j p3] (ncx CX P w K mg base N ⟨name, qual, params, body, scope, [("__class__", cc)], cda⟩ f A outer s0 H0 E).env = [(false, eval (.Constant (.str m) j p3) (ncx CX P w K mg base N ⟨name, qual, params, body, scope, [("__class__", cc)], cda⟩ f A outer s0 H0 E).env)] := hst
    rw [hst']
    refine W.kxs_callWith (i := initId) (x := a) rfl (Calls.evalArgs_plain (Calls.spliced_cons (Calls.Constant_str (pos := p3) (k := j) (Calls.spliced_nil ⟨hu, ?_⟩))))
    refine mw_call Zb.facts (I2.kIn _ _ hC) (k2 _ _ ho1) hu (by show 1 ≤ sizeLine; decide) fun h3 t2 k3 e3 => ?_
    have J3 := (I2.tok (tk + 1 + 1)).write (t' := tk + 1 + 1) (x := a) (e := a) (o := exo a C none) (by rw [ha]; exact True.intro) (.inl rfl) k3 ⟨_, e3⟩ (exo_ok e3)
    have eu : upd H a (exo a C none) = H := by
      funext b
      by_cases hb : b = a
      · rw [hb, upd_same, ha]
      · rw [upd_ne hb]
    rw [eu] at J3
    exact hr.run pins _ σ H D J3 q
/-! ### C(e, ..), C(k = v, ..) as values -/
structure UseV (P : Program) (w : World) (K : PySem.W.Frag) (mg : Str → Option Value) (base : Heap) (k : Nat) (x : Str) (C : Addr) (ps : List Str) (sp : Sp) : Prop where
  ex : ∃ B newId initId tl fI fd, ExcBase B newId initId tl ∧ OexB K C newId tl ∧ PySem.W.findIn K (.ref C) "__init__" = some (some (.ref fI)) ∧ PySem.W.typeIn K (.ref fI) = some (.type "function") ∧ FnOk P w K mg base CX0 k fI fd ps sp ∧
    (∀ (s : Shared) (us : List Value), us.length = ps.length → BindsTo s fd ⟨us, []⟩ (ps.zip us)) ∧
    (∀ (s : Shared) (us ws : List Value), (us ++ ws).length = ps.length → us.length = 1 → BindsTo s fd ⟨us, (ps.drop 1).zip ws⟩ (ps.zip (us ++ ws))) ∧
    ∀ (s : Shared) (us ws : List Value), (us ++ ws).length = ps.length → us.length = 1 → BindsTo s fd ⟨us, (ps.drop 1).reverse.zip ws⟩ (ps.zip (us ++ ws.reverse))
  gC : mg x = some (.ref C)
  ec : ExcC K C
def kMkW (C : Addr) (sp : Sp) (Q : VK) : List V → Hp → Prop := fun vs H1 => vs.length ≤ 1000 ∧ ∀ a, H1 a = none → sp (.ref a :: vs) (upd H1 a (exo a C none)) (kMade a Q) E0
def kMkV (n : Nat) (gV : List V → List V) (C : Addr) (sp : Sp) (Q : VK) : List V → Hp → Prop := fun us H1 => us.length = n ∧ kMkW C sp Q (gV us) H1
theorem r_kMkV {n : Nat} {gV : List V → List V} {C : Addr} {sp : Sp} {Q : VK} {us : List V} {H : Hp} (hn : us.length = n) (h : (gV us).length ≤ 1000) (q : ∀ a H', H a = none → Kp [] H H' → H' a = some (exo a C none) → sp (.ref a :: gV us) H' (kMade a Q) E0) : kMkV n gV C sp Q us H :=
  ⟨hn, h, fun a n => q a _ n (Kp.new n) upd_same⟩
def tMkV (n : Nat) (C : Addr) (sp : Sp) (gV : List V → List V) (t : TA) : TE := fun σ H Q => t σ H (kMkV n gV C sp Q)
theorem r_mkV {n : Nat} {C : Addr} {sp : Sp} {gV : List V → List V} {t : TA} {σ : L2.St} {H : Hp} {Q : VK} (q : t σ H (kMkV n gV C sp Q)) : tMkV n C sp gV t σ H Q := q
section
variable {X : Cx} {k : Nat} {C : Addr} {ps ks : List Str} {sp : Sp} {x : Str} {e : Expr} {es : List Expr} {t tk : TA} {p pos : Pos} {kws : List Keyword}
theorem run_mkV {B newId initId : String} {tl : List Value} {fI : Addr} {fd : FuncData} {pins : List (Addr × Obj)} {σ : L2.St} {H1 : Hp} {s1 : Shared} {Q : VK} {us : List Value} {kw : List (Str × Value)} {gs : List Value} {vs : List V} (Z : ExcBase B newId initId tl) (T : OexB X.K C newId tl)
    (iC : PySem.W.findIn X.K (.ref C) "__init__" = some (some (.ref fI))) (tI : PySem.W.typeIn X.K (.ref fI) = some (.type "function")) (F1 : FnOk X.prog X.w X.K X.mg X.base CX0 k fI fd ps sp) (hr : Room (k + 1) X.A)
    (hb : ∀ (s : Shared) (v : Value), BindsTo s fd ⟨v :: us, kw⟩ (ps.zip (v :: gs))) (hus : us.length ≤ sizeLine) (I1 : Inv X pins σ H1 s1) (r1 : Vals vs gs) (q1 : kMkW C sp Q vs H1) :
    wpAny (model X.prog X.w) X.A (call (.ref C) us kw) (EP X pins σ Q) X.xe s1 := by
  obtain ⟨nm, q, N, bs, bm, sn, sub, ab, col, dd, k0, k1, k2, k3, k5, hC, hbm⟩ := T.cls
  obtain ⟨hp, g, dr, tk, os⟩ := s1
  have hsz : hp.objs.size ≤ hp.objs.size + 1 := Nat.le_succ _
  have hn : H1 (hp.objs.size + 1) = none := I1.hok.fresh hsz
  have hq := q1.2 (hp.objs.size + 1) hn
  have kk : ∀ b o, hp.get? b = some o → ((hp.push (PySem.W.kdv_tup us)).push (PySem.HandSPX.excO C hp.objs.size)).get? b = some o := fun b o e => Heap.get?_push_of_some _ (Heap.get?_push_of_some _ e)
  have hget : ((hp.push (PySem.W.kdv_tup us)).push (PySem.HandSPX.excO C hp.objs.size)).get? (hp.objs.size + 1) = some (PySem.HandSPX.excO C hp.objs.size) := by heap_get
  have I2 : Inv X pins σ (upd H1 (hp.objs.size + 1) (exo (hp.objs.size + 1) C none)) ⟨(hp.push (PySem.W.kdv_tup us)).push (PySem.HandSPX.excO C hp.objs.size), g, dr, tk, os⟩ :=
    I1.laid (t' := tk) (a := hp.objs.size + 1) (o := exo (hp.objs.size + 1) C none) (h' := (hp.push (PySem.W.kdv_tup us)).push (PySem.HandSPX.excO C hp.objs.size)) kk hsz (exo_ok hget)
  have r2 : Vals (V.ref (hp.objs.size + 1) :: vs) (Value.ref (hp.objs.size + 1) :: gs) := .cons rfl r1
  refine wpAny_call (PySem.HandSPX.call_kw Z.facts (fun Y => refsT_contains Z Y bm hbm) (I1.kIn _ _ hC) (PySem.W.looks_findIn I1.kIn iC) (fun self => PySem.W.bind_fn I1.kIn self tI) hus
    (codeAny_mono (F1.run _ X.stack _ _ ⟨Value.ref (hp.objs.size + 1) :: us, kw⟩ (Value.ref (hp.objs.size + 1) :: gs) _ _ E0 (hr.make C us kw) (I2.env0.make C us kw) (hb _ _) r2 hq) fun r s' hq' => ?_))
  cases r with
  | error er => exact pass0 (X := X) pins σ _ _ er s' I2 hq'
  | ok fl =>
    cases fl with
    | ret u =>
      obtain ⟨v, H', I3, rv, ev, q3⟩ := I2.after hq'
      subst ev
      exact ⟨rv, ⟨V.ref (hp.objs.size + 1), H', I3, rfl, q3⟩⟩
    | next => exact False.elim hq'
    | brk => exact False.elim hq'
    | cont => exact False.elim hq'
theorem pe_mkV (U : UseV X.prog X.w X.K X.mg X.base k x C ps sp) (hr : Room (k + 1) X.A) (hg : Gl X x) (hl : (e :: es).length + 1 = ps.length) (ha : PA X (e :: es) t) (hdb : (x == ("__debug__" : Str)) = false := by decide)
    (he : starEach (e :: es) X.env = (false, eval e X.env) :: starEach es X.env := by rfl) (hpl : (backTo pos (starEach es X.env)).any (·.1) = false := by rfl) : PE X (.Call (.Name x p) (e :: es) [] pos) (tMkV (e :: es).length C sp id t) := by
  obtain ⟨B, newId, initId, tl, fI, fd, Z, T, iC, tI, F1, hb, _, _⟩ := U.ex
  constructor
  intro pins s σ H Q I h
  refine wpAny_Call_Name_kw (ld_glob I hg U.gC ?_ hdb)
  refine PySem.W.callWith_K (h₀ := X.base) I.ok.mod.kin T.kC (thn (ha.run pos pins s σ H _ I h) fun us s1 ⟨vs, H1, I1, r1, hlen, q1⟩ => ⟨I1.kIn, ?_⟩) he hpl
  have hul : us.length = (e :: es).length := r1.length.symm.trans hlen
  exact run_mkV Z T iC tI F1 hr (fun s v => hb s (v :: us) (by rw [List.length_cons, hul, hl])) (by
    show us.length ≤ sizeLine
    have h9 : vs.length ≤ 1000 := q1.1
    rw [hul, sizeLine_eq]
    omega) I1 r1 q1
theorem pe_mkV0 (U : UseV X.prog X.w X.K X.mg X.base k x C ps sp) (hr : Room (k + 1) X.A) (hg : Gl X x) (hl : ps.length = 1) (hdb : (x == ("__debug__" : Str)) = false := by decide) : PE X (.Call (.Name x p) [] [] pos) (tMkV 0 C sp id tNil) := by
  obtain ⟨B, newId, initId, tl, fI, fd, Z, T, iC, tI, F1, hb, _, _⟩ := U.ex
  constructor
  intro pins s σ H Q I h
  refine wpAny_Call_Name_kw (ld_glob I hg U.gC ?_ hdb)
  refine PySem.W.callWith_K0 (first := []) I.kIn T.kC ?_
  exact run_mkV Z T iC tI F1 hr (fun s v => hb s [v] (by rw [hl]; rfl)) (by rw [sizeLine_eq]; decide) I .nil h.2
theorem pe_mkVK {g : List Value → List Value} {gV : List V → List V} {B newId initId : String} {tl : List Value} {fI : Addr} {fd : FuncData} (Z : ExcBase B newId initId tl) (T : OexB X.K C newId tl) (iC : PySem.W.findIn X.K (.ref C) "__init__" = some (some (.ref fI))) (tI : PySem.W.typeIn X.K (.ref fI) = some (.type "function"))
    (F1 : FnOk X.prog X.w X.K X.mg X.base CX0 k fI fd ps sp) (hm : X.mg x = some (.ref C)) (hr : Room (k + 1) X.A) (hg : Gl X x)
    (hb : ∀ (s : Shared) (v : Value) (ws : List Value), ws.length = ks.length → BindsTo s fd ⟨[v], ks.zip ws⟩ (ps.zip (v :: g ws))) (hrel : ∀ {zs : List V} {ws : List Value}, Vals zs ws → Vals (gV zs) (g ws)) (hkw : PK X kws tk)
    (hall : (backToKw pos (keywordEach kws X.env)).all (·.1.isSome) = true := by rfl) (hks : (backToKw pos (keywordEach kws X.env)).filterMap (·.1) = ks := by rfl) (hdb : (x == ("__debug__" : Str)) = false := by decide)
    (hpl : ((backTo pos (starEach [] X.env)).any (·.1) || (backToKw pos (keywordEach kws X.env)).any (·.1.isNone)) = false := by rfl) :
    PE X (.Call (.Name x p) [] kws pos) (tMkV ks.length C sp gV tk) := by
  refine ⟨fun pins s σ H Q I h => ?_⟩
  refine wpAny_Call_Name_kw (ld_glob I hg hm ?_ hdb)
  refine PySem.W.callWith_KW0 (h₀ := X.base) I.ok.mod.kin T.kC hall ?_ hpl
  refine thn (hkw.run pos pins s σ H _ I h) fun ws s ⟨zs, H, I, rz, l2, h⟩ => ⟨I.kIn, ?_⟩
  rw [hks]
  exact run_mkV (us := []) Z T iC tI F1 hr (fun s v => hb s v ws (rz.length.symm.trans l2)) (Nat.zero_le _) I (hrel rz) h
end
section
variable {X : Cx} {k : Nat} {C : Addr} {ps : List Str} {sp : Sp} {x : Str} {tk : TA} {p pos : Pos} {kws : List Keyword}
theorem pe_mkVS (ks : List Str) (U : UseV X.prog X.w X.K X.mg X.base k x C ps sp) (hr : Room (k + 1) X.A) (hg : Gl X x) (hp : ps.length = ks.length + 1) (hps : ps.drop 1 = ks) (hkw : PK X kws tk)
    (hall : (backToKw pos (keywordEach kws X.env)).all (·.1.isSome) = true := by rfl) (hks : (backToKw pos (keywordEach kws X.env)).filterMap (·.1) = ks := by rfl) (hdb : (x == ("__debug__" : Str)) = false := by decide)
    (hpl : ((backTo pos (starEach [] X.env)).any (·.1) || (backToKw pos (keywordEach kws X.env)).any (·.1.isNone)) = false := by rfl) :
    PE X (.Call (.Name x p) [] kws pos) (tMkV ks.length C sp id tk) := by
  obtain ⟨B, newId, initId, tl, fI, fd, Z, T, iC, tI, F1, _, hb, _⟩ := U.ex
  refine pe_mkVK (ks := ks) (g := id) Z T iC tI F1 U.gC hr hg (fun s v ws l2 => ?_) (fun r => r) hkw hall hks hdb hpl
  have := hb s [v] ws (by rw [List.length_append, l2, hp, Nat.add_comm]; rfl) rfl
  rw [hps] at this
  exact this
theorem pe_mkVR (ks : List Str) (U : UseV X.prog X.w X.K X.mg X.base k x C ps sp) (hr : Room (k + 1) X.A) (hg : Gl X x) (hp : ps.length = ks.length + 1) (hps : (ps.drop 1).reverse = ks) (hkw : PK X kws tk)
    (hall : (backToKw pos (keywordEach kws X.env)).all (·.1.isSome) = true := by rfl) (hks : (backToKw pos (keywordEach kws X.env)).filterMap (·.1) = ks := by rfl) (hdb : (x == ("__debug__" : Str)) = false := by decide)
    (hpl : ((backTo pos (starEach [] X.env)).any (·.1) || (backToKw pos (keywordEach kws X.env)).any (·.1.isNone)) = false := by rfl) :
    PE X (.Call (.Name x p) [] kws pos) (tMkV ks.length C sp List.reverse tk) := by
  obtain ⟨B, newId, initId, tl, fI, fd, Z, T, iC, tI, F1, _, _, hb⟩ := U.ex
  have vrev : ∀ {zs : List V} {ws : List Value}, Vals zs ws → Vals zs.reverse ws.reverse := fun r => by
    induction r with
    | nil => exact .nil
    | cons a _ ih =>
      rw [List.reverse_cons, List.reverse_cons]
      exact ih.append (.cons a .nil)
  refine pe_mkVK (ks := ks) (g := List.reverse) Z T iC tI F1 U.gC hr hg (fun s v ws l2 => ?_) vrev hkw hall hks hdb hpl
  have := hb s [v] ws (by rw [List.length_append, l2, hp, Nat.add_comm]; rfl) rfl
  rw [hps] at this
  exact this
end
/-! ### fields, isinstance -/
/-- an exception as a value: its fields -/
def ExAt (C : Addr) (H : Hp) (a : Addr) (fs : List (Str × V)) : Prop := (H a = some (exo a C none) ∧ fs = []) ∨ ∃ dx, H a = some (exo a C (some dx)) ∧ H dx = some (exd dx fs)
theorem ExAt.kp {C : Addr} {H H' : Hp} {a : Addr} {fs : List (Str × V)} (h : ExAt C H a fs) (k : Kp [] H H') : ExAt C H' a fs := by
  rcases h with ⟨h, e⟩ | ⟨dx, h, e⟩
  · exact .inl ⟨k _ _ h not_nil, e⟩
  · exact .inr ⟨dx, k _ _ h not_nil, k _ _ e not_nil⟩
def kOfl (K : PySem.W.Frag) (f : Str) (Q : VK) : VK := fun x H1 => ∃ a C fs v, x = .ref a ∧ ExAt C H1 a fs ∧ XfC K C ∧ PySem.W.findIn K (.ref C) f = some none ∧ fs.lookup f = some v ∧ Q v H1
def tOfl (K : PySem.W.Frag) (f : Str) (te : TE) : TE := fun σ H Q => te σ H (kOfl K f Q)
def rIsiO (K : PySem.W.Frag) : R1 := fun xs H Q => ∃ (a C : Addr) (fs : List (Str × V)) (c : V) (cv : Value) (b : Bool), xs = [.ref a, c] ∧ ExAt C H a fs ∧ ExcC K C ∧ ClsV c cv ∧ PySem.W.kitOne K (.ref C) cv = some b ∧ Q (.bl b) H
section
variable {X : Cx} {K : PySem.W.Frag} {e : Expr} {te : TE} {n : Str} {pos : Pos}
theorem exat_inst {pins : List (Addr × Obj)} {σ : L2.St} {H : Hp} {s : Shared} {C a : Addr} {fs : List (Str × V)} (I : Inv X pins σ H s) (h : ExAt C H a fs) : ∃ oe od, PySem.W.InstAt s.heap a oe C od := by
  rcases h with ⟨h, _⟩ | ⟨dx, h, e⟩
  · obtain ⟨t1, ho⟩ := exo_at I.hok h
    exact ⟨_, none, ho, rfl, rfl, trivial⟩
  · obtain ⟨t1, ho⟩ := exo_at I.hok h
    obtain ⟨mA, hns, _⟩ := exd_at I.hok e
    obtain ⟨od, hod, _⟩ := lookIn_ns hns
    exact ⟨_, some od, ho, rfl, rfl, hod⟩
theorem K_ofl (hK : X.K = K) (he : PE X e te) (hb : attributeBase e n X.env (eval e X.env) = eval e X.env := by rfl) : PE X (.Attribute e n pos) (tOfl K n te) := by
  subst hK
  refine ⟨fun pins s σ H Q I h => ?_⟩
  refine attr_of hb (thn (he.run pins s σ H _ I h) fun u s1 ⟨x, H1, I1, rx, a, C, fs, v, ex, hA, T, hno, l, q⟩ => ?_)
  subst ex
  obtain rfl : u = Value.ref a := rx
  rcases hA with ⟨_, e⟩ | ⟨dx, ha, ed⟩
  · rw [e] at l
    cases l
  · obtain ⟨t1, ho⟩ := exo_at I1.hok ha
    obtain ⟨mA, hns, hr⟩ := exd_at I1.hok ed
    obtain ⟨od, hod, hl⟩ := lookIn_ns hns
    obtain ⟨u, hu, ru⟩ := RelO.some_of (v := v) (o := mA n) (by rw [← l]; exact hr n)
    have J : PySem.W.InstAt s1.heap a _ C (some od) := ⟨ho, rfl, rfl, hod⟩
    exact HandSPX.exc_get I1.kIn J T.ga T.gg T.exC (PySem.W.findObj_own T.hdC hno rfl (by rw [hl, hu])) (handed_of ru) ⟨v, H1, I1.tok _, ru, q⟩
theorem K_isiO (hK : X.K = K) : CallR X (.builtin "isinstance") (rIsiO K) := by
  subst hK
  rintro pins s σ H xs us Q I r ⟨a, C, fs, c, cv, b, rfl, hA, T, k, e, q⟩
  obtain ⟨u1, u2, rfl, r1, r2⟩ := vals2 r
  cases (show u1 = Value.ref a from r1)
  have e2 := k.eq r2
  subst e2
  obtain ⟨oe, od, J⟩ := exat_inst I hA
  obtain ⟨cd, hc, _⟩ := PySem.W.any_some T.hd
  exact PySem.W.kia_one (PySem.W.kitx_exc (by rw [hc]; rfl) T.hg T.hk T.hs T.ha T.hn T.ht T.hm) I.kIn J e (fun z => nomatch z) fun tk => ⟨.bl b, H, I.kept (t' := tk) fun _ _ z => z, rfl, q⟩
end
section
variable {K : PySem.W.Frag} {H : Hp} {Q : VK} {C a : Addr} {fs : List (Str × V)} {f : Str} {v c : V} {cv : Value} {b : Bool} {te : TE} {σ : L2.St}
theorem r_ofl (q : te σ H (kOfl K f Q)) : tOfl K f te σ H Q := q
theorem r_kOfl (h : ExAt C H a fs) (T : XfC K C) (n : PySem.W.findIn K (.ref C) f = some none) (l : fs.lookup f = some v) (q : Q v H) : kOfl K f Q (.ref a) H := ⟨a, C, fs, v, rfl, h, T, n, l, q⟩
theorem r_isiO (h : ExAt C H a fs) (T : ExcC K C) (k : ClsV c cv) (e : PySem.W.kitOne K (.ref C) cv = some b) (q : Q (.bl b) H) : rIsiO K [.ref a, c] H Q := ⟨a, C, fs, c, cv, b, rfl, h, T, k, e, q⟩
end
/-! ### __init__ of such a class: its fields are what was passed -/
structure SFunB (P : Program) (K : PySem.W.Frag) (mg : Str → Option Value) (qual : Str) (st : Stmt) (C f : Addr) (fd : FuncData) (B newId initId : String) (tl : List Value) : Prop where
  ex : ∃ (oc kV doc pm ct cl : Value) (od an cld : Option Addr) (cda cc : Addr) (osl csl : Array (Option Value)), fd = PySem.W.ksFn "__init__" qual (defArgs st) (defBody st) (defScope st) .none kV doc pm an (.ref cda) ct cc ∧
    K.lookup f = some ⟨oc, od, .func (PySem.W.ksFn "__init__" qual (defArgs st) (defBody st) (defScope st) .none kV doc pm an (.ref cda) ct cc), osl⟩ ∧ PySem.W.codeIn K (.ref cda) qual = true ∧ K.lookup cc = some ⟨cl, cld, .cell (some (.ref C)), csl⟩ ∧ SupCB P K mg C cda B newId initId tl
/-- just made: its dict is new to H -/
def ExNew (C : Addr) (H H' : Hp) (a : Addr) (fs : List (Str × V)) : Prop := (H' a = some (exo a C none) ∧ fs = []) ∨ ∃ dx, H dx = none ∧ H' a = some (exo a C (some dx)) ∧ H' dx = some (exd dx fs)
theorem ExNew.at {C : Addr} {H H' : Hp} {a : Addr} {fs : List (Str × V)} (h : ExNew C H H' a fs) : ExAt C H' a fs := h.elim .inl fun ⟨dx, _, e⟩ => .inr ⟨dx, e⟩
def sp_ev (fs : List Str) (C : Addr) : Sp := fun vs H Q _ => ∃ (a : Addr) (us : List V), vs = .ref a :: us ∧ us.length = fs.length ∧ H a = some (exo a C none) ∧ ∀ H', Kp [a] H H' → ExNew C H H' a (fs.zip us).reverse → Q .non H'
theorem r_kMkE {n : Nat} {gV : List V → List V} {C : Addr} {fs : List Str} {Q : VK} {us : List V} {H : Hp} (hn : us.length = n) (h : (gV us).length = fs.length) (h9 : fs.length ≤ 1000) (q : ∀ a H', H a = none → Kp [] H H' → ExAt C H' a (fs.zip (gV us)).reverse → Q (.ref a) H') : kMkV n gV C (sp_ev fs C) Q us H :=
  r_kMkV hn (by rw [h]; exact h9) fun a H1 na k e => ⟨a, gV us, rfl, h, e, fun H2 k2 x => r_kMade (q a H2 na (k.nil.trans k2 |>.drop na) x.at)⟩
end Rd

set_option maxHeartbeats 4000000
/-! ExcW: families of exception classes: what their lookups tell (isinstance among them). -/
namespace Rd
open PySem PySem.Spec L2 NdefX PyProof.Rows
structure ExL (K : PySem.W.Frag) (nm : Str) (C : Addr) (bm : List Value) (newId : String) : Prop where
  ex : ∃ q N bs sn sub ab col dd k0 k1 k2 k3 k5, K.lookup C = some (excClassObj nm q C N bs bm true sn sub ab col dd k0 k1 k2 k3 k5 newId)
section
variable {K : PySem.W.Frag} {nm nm' : Str} {C D : Addr} {bm bm' : List Value} {n n' : String}
theorem ExL.cls (h : ExL K nm C bm n) : ∃ bs N q sn sub ab col, PySem.W.clsIn K C = some { name := nm, bases := bs, mro := .ref C :: bm, ns := N, qualname := q, hasDict := true, slotNames := sn, subclasses := sub, abstract := ab, collection := col, hasDel := false } := by
  obtain ⟨q, N, bs, sn, sub, ab, col, dd, k0, k1, k2, k3, k5, e⟩ := h.ex
  refine ⟨bs, N, q, sn, sub, ab, col, ?_⟩
  unfold PySem.W.clsIn
  rw [e] <;> rfl
theorem ExL.mro (h : ExL K nm C bm n) (v : Value) : PySem.W.mroIn K C v = some ((Value.ref C :: bm).contains v) := by
  obtain ⟨bs, N, q, sn, sub, ab, col, e⟩ := h.cls
  unfold PySem.W.mroIn
  rw [e]
  rfl
theorem ExL.sub (h : ExL K nm C bm n) (v : Value) : PySem.W.subIn K (.ref C) v = some ((Value.ref C :: bm).contains v) := h.mro v
theorem ExL.ty (h : ExL K nm C bm n) : PySem.W.typeIn K (.ref C) = some (.type "type") := by
  obtain ⟨q, N, bs, sn, sub, ab, col, dd, k0, k1, k2, k3, k5, e⟩ := h.ex
  show (K.lookup C).map (·.cls) = _
  rw [e]
  rfl
theorem ExL.hd (h : ExL K nm C bm n) : PySem.W.hasDictIn K C = true := by
  obtain ⟨bs, N, q, sn, sub, ab, col, e⟩ := h.cls
  unfold PySem.W.hasDictIn
  rw [e]
  rfl
theorem ExL.ne (h : ExL K nm C bm n) (h' : ExL K nm' D bm' n') (m : nm ≠ nm') : C ≠ D := by
  rintro rfl
  obtain ⟨q, N, bs, sn, sub, ab, col, dd, k0, k1, k2, k3, k5, e⟩ := h.ex
  obtain ⟨q', N', bs', sn', sub', ab', col', dd', j0, j1, j2, j3, j5, e'⟩ := h'.ex
  rw [e] at e'
  injection e' with e'
  injection e' with _ _ e' _
  injection e' with e'
  injection e' with e' _
  exact m e'
theorem ref_beq {a b : Addr} : (Value.ref a == Value.ref b) = decide (a = b) := by
  by_cases c : a = b
  · subst c
    rw [decide_eq_true rfl]
    exact beq_self_eq_true _
  · rw [decide_eq_false c]
    exact beq_eq_false_iff_ne.mpr fun e => c (Value.ref.inj e)
theorem ExL.kit (h : ExL K nm C bm n) (h' : ExL K nm' D bm' n') : PySem.W.kitOne K (.ref C) (.ref D) = some ((Value.ref C :: bm).contains (.ref D)) := by
  unfold PySem.W.kitOne
  by_cases c : C = D
  · subst c
    rw [if_pos (beq_self_eq_true _), List.contains_cons, beq_self_eq_true]
    rfl
  · rw [if_neg (by rw [ref_beq, decide_eq_false c]; decide)]
    obtain ⟨bs, N, q, sn, sub, ab, col, e⟩ := h'.cls
    show (if ((PySem.W.clsIn K D).isSome && PySem.W.typeIn K (.ref D) == some (.type "type")) = true then PySem.W.subIn K (.ref C) (.ref D) else none) = _
    rw [e, h'.ty, h.sub, if_pos]
    exact beq_self_eq_true _
theorem ExL.kitT (h : ExL K nm C bm n) {T : String} (m : PySem.W.kitMeta T = true) : PySem.W.kitOne K (.ref C) (.type T) = some ((Value.ref C :: bm).contains (.type T)) := by
  unfold PySem.W.kitOne
  rw [if_neg (by
    have e : (Value.ref C == Value.type T) = false := beq_eq_false_iff_ne.mpr fun e => nomatch e
    rw [e]
    decide)]
  show (if PySem.W.kitMeta T = true then PySem.W.subIn K (.ref C) (.type T) else none) = _
  rw [if_pos m, h.sub]
end
end Rd

set_option maxHeartbeats 4000000
/-! SupC: a def with the cell __class__ and cells of its own (names that a comprehension reads); super().m(..) in any context. -/
namespace Rd
open PySem PySem.Spec L2 NdefX PyProof.Rows
/-! ### own cells, behind what was captured -/
theorem cellsFrom_app : ∀ (names : List (Str × NameKind)) (n : Nat) (acc : List (Str × Addr)), cellsFrom n names acc = cellsFrom n names [] ++ acc
  | [], _, _ => rfl
  | (name, kind) :: r, n, acc => by
    unfold cellsFrom
    split
    · rw [cellsFrom_app r (n + 1) ((name, n) :: acc), cellsFrom_app r (n + 1) [(name, n)], List.append_assoc]
      rfl
    · exact cellsFrom_app r n acc
theorem mem_cellsFrom : ∀ (names : List (Str × NameKind)) (n : Nat) (y : Str) (c : Addr), (y, c) ∈ cellsFrom n names [] → (y, NameKind.cell) ∈ names
  | [], _, _, _, h => nomatch h
  | (name, kind) :: r, n, y, c, h => by
    unfold cellsFrom at h
    split at h
    · rename_i hk
      rw [cellsFrom_app] at h
      rcases List.mem_append.mp h with h | h
      · exact List.mem_cons_of_mem _ (mem_cellsFrom r _ y c h)
      · have := List.mem_singleton.mp h
        cases this
        rw [beq_iff_eq.mp hk]
        exact List.mem_cons_self
    · exact List.mem_cons_of_mem _ (mem_cellsFrom r _ y c h)
section
variable {M : Model} {A : Around} {E : Value → Shared → Prop} {s₀ s : Shared} {env : Env} {own : List (Str × Addr)}
theorem bindParamsD (f : Str × Value → PUnit → Sem (ForInStep PUnit)) (hf : ∀ n v u, f (n, v) u = (do storeName env n v; pure (.yield ⟨⟩))) (hk : env.scope.kind = .function) :
    ∀ (binds : List (Str × Value)) (m cm : Str → Option Value) (s : Shared) (Q : PUnit → Shared → Prop), InCallC s₀ env.locals m own cm s →
      (∀ x ∈ binds, env.kindOf x.1 = some .local ∨ (env.kindOf x.1 = some .cell ∧ ∃ c, env.cells.lookup x.1 = some c ∧ own.lookup x.1 = some c)) →
      (∀ s', InCallC s₀ env.locals (bindL env.kindOf binds m) own (bindC env.kindOf binds cm) s' → Q ⟨⟩ s') → wpAny M A (forIn binds ⟨⟩ f) Q E s
  | [], m, cm, s, Q, x, _, h => by rw [List.forIn_nil]; exact wpAny_pure (h s x)
  | (n, v) :: r, m, cm, s, Q, x, hkind, h => by
    rw [List.forIn_cons, hf]
    have hr : ∀ y ∈ r, env.kindOf y.1 = some .local ∨ (env.kindOf y.1 = some .cell ∧ ∃ c, env.cells.lookup y.1 = some c ∧ own.lookup y.1 = some c) := fun y hy => hkind y (List.mem_cons_of_mem _ hy)
    rcases hkind (n, v) List.mem_cons_self with hl | ⟨hl, c, hc, hc'⟩
    · refine wpAny_bind (wpAny_bind (wpAny_storeName_local hl x.toInCall.ns (fun h' hn' hs' => wpAny_pure (bindParamsD f hf hk r (fun y => if y = n then some v else m y) cm _ Q ⟨⟨?_, hn', fun b o e => ?_, x.toInCall.fresh⟩, fun k c hc => ?_, x.apart, x.above⟩ hr fun s'' x'' => h s'' ?_)) (by rw [hk]; rfl)))
      · obtain ⟨h₁, tk, rfl⟩ := x.toInCall.same
        exact ⟨h', _, rfl⟩
      · exact hs'.extBut b o (Nat.ne_of_lt (Nat.lt_of_lt_of_le (Heap.lt_size e) x.toInCall.fresh)) (x.toInCall.keep b o e)
      · exact (x.cell k c hc).sameBut hs' (Nat.ne_of_gt (x.above k c (PySem.mem_of_lookup hc)))
      · unfold bindL bindC; rw [if_pos hl, if_pos hl]; exact x''
    · have hnl : ¬ env.kindOf n = some .local := by rw [hl]; decide
      have hLc := x.above n c (PySem.mem_of_lookup hc')
      refine wpAny_bind (wpAny_bind (wpAny_storeName_cell hk hl hc (x.cell n c hc') fun h' hcl' hs' => wpAny_pure (bindParamsD f hf hk r m (fun y => if y = n then some v else cm y) _ Q ⟨⟨?_, x.toInCall.ns.sameBut hs' (Nat.ne_of_lt hLc), fun b o e => ?_, x.toInCall.fresh⟩, fun k c' hk' => ?_, x.apart, x.above⟩ hr fun s'' x'' => h s'' ?_)))
      · obtain ⟨h₁, tk, rfl⟩ := x.toInCall.same
        exact ⟨h', _, rfl⟩
      · exact hs'.extBut b o (Nat.ne_of_lt (Nat.lt_trans (Nat.lt_of_lt_of_le (Heap.lt_size e) x.toInCall.fresh) hLc)) (x.toInCall.keep b o e)
      · by_cases hkn : k = n
        · subst hkn
          rw [hc'] at hk'
          cases hk'
          simpa using hcl'
        · rw [if_neg hkn]
          exact (x.cell k c' hk').sameBut hs' fun e => hkn (name_of_addr x.apart (PySem.mem_of_lookup hk') (e ▸ PySem.mem_of_lookup hc'))
      · unfold bindL bindC; rw [if_neg hnl, if_neg hnl]; exact x''
theorem newFunctionEnvD {scope : Scope} {globals : Addr} {cl : List (Str × Addr)} {binds : List (Str × Value)} {qual : Str} {func : Option Addr} {code : Value} {builtins : Addr} {Q : Env → Shared → Prop}
    (hk : scope.kind = .function) (hkind : ∀ x ∈ binds, scope.names.lookup x.1 = some .local ∨ scope.names.lookup x.1 = some .cell)
    (hQ : ∀ env, env = newEnv scope s.heap.objs.size globals (cellsFrom (s.heap.objs.size + 1) scope.names cl) qual func code none builtins →
      ∀ s', InCallC s env.locals (bindL env.kindOf binds fun _ => none) (cellsFrom (s.heap.objs.size + 1) scope.names []) (bindC env.kindOf binds fun _ => none) s' → Q env s') :
    wpAny M A (newFunctionEnv scope globals cl binds qual func code none builtins) Q E s := by
  simp only [newFunctionEnv, Option.isSome_none, Bool.false_eq_true, if_false]
  refine wpAny_bind (wpAny_alloc ?_)
  refine wpAny_bind (wpAny_layCells _ (fun name kind cells => by cases hkc : kind == NameKind.cell <;> simp [hkc]) _ _ _ _ ?_)
  have ok := cellsFrom_ok scope.names (s.heap.push { cls := .type "frame", data := .dict #[] }) (s.heap.objs.size + 1) [] ⟨fun _ _ hm => (nomatch hm), List.Pairwise.nil⟩ (by rw [Heap.size_push]; exact Nat.le_refl _)
  rw [Heap.size_push] at ok
  rw [show ({ s with heap := s.heap.push { cls := .type "frame", data := .dict #[] } } : Shared).heap.objs.size = s.heap.objs.size + 1 from Heap.size_push ..]
  refine wpAny_bind (bindParamsD (s₀ := s) (env := newEnv scope s.heap.objs.size globals (cellsFrom (s.heap.objs.size + 1) scope.names cl) qual func code none builtins) (own := cellsFrom (s.heap.objs.size + 1) scope.names [])
    _ (fun _ _ _ => rfl) hk binds (fun _ => none) (fun _ => none) _ _
    ⟨⟨⟨_, _, rfl⟩, (Heap.Ns.new s.heap (.type "frame")).keeps (pushCells_keeps _ _), fun b o e => pushCells_keeps _ _ b o (Heap.get?_push_of_some _ e), Nat.le_refl _⟩,
      fun n c hc => (ok.empty n c (PySem.mem_of_lookup hc)).1, ok.apart, fun n c hm => (ok.empty n c hm).2⟩
    (fun x hx => (hkind x hx).elim .inl fun z => .inr ⟨z, ?_⟩) fun s' x => wpAny_pure (hQ _ rfl s' x))
  obtain ⟨c, e⟩ := cell_has (n := s.heap.objs.size + 1) z
  refine ⟨c, ?_, e⟩
  show (cellsFrom (s.heap.objs.size + 1) scope.names cl).lookup x.1 = some c
  rw [cellsFrom_app, List.lookup_append, e]
  rfl
end
/-! ### such a def's body -/
structure CScope (N ps fr : List Str) (sc : Scope) : Prop where
  kind : sc.kind = .function
  co : sc.isCoroutine = false
  gen : sc.isGenerator = false
  nd : N.Nodup
  pre : N.take (ps.length + fr.length) = ps ++ fr
  par : ∀ x ∈ ps, sc.names.lookup x = some .local ∨ sc.names.lookup x = some .cell
  free : ∀ y ∈ sc.names, y.2 = .free → y.1 ∈ fr
  frk : ∀ x ∈ fr, sc.names.lookup x = some .free
  nofr : ∀ y ∈ sc.names, y.2 = .cell → y.1 ∉ fr
def cscB (N ps fr : List Str) (sc : Scope) : Bool :=
  decide (sc.kind = .function) && !sc.isCoroutine && !sc.isGenerator && decide N.Nodup && decide (N.take (ps.length + fr.length) = ps ++ fr) && ps.all (fun x => decide (sc.names.lookup x = some .local) || decide (sc.names.lookup x = some .cell)) && sc.names.all (fun y => !decide (y.2 = .free) || decide (y.1 ∈ fr)) && fr.all (fun x => decide (sc.names.lookup x = some .free)) && sc.names.all (fun y => !decide (y.2 = .cell) || !decide (y.1 ∈ fr))
theorem cscope_by {N ps fr : List Str} {sc : Scope} (h : cscB N ps fr sc = true) : CScope N ps fr sc := by
  unfold cscB at h
  simp only [Bool.and_eq_true, Bool.not_eq_true', decide_eq_true_eq, List.all_eq_true, Bool.or_eq_true, decide_eq_false_iff_not] at h
  obtain ⟨⟨⟨⟨⟨⟨⟨⟨h1, h2⟩, h3⟩, h4⟩, h5⟩, h6⟩, h7⟩, h8⟩, h9⟩ := h
  exact ⟨h1, h2, h3, h4, h5, h6, fun y hy e => (h7 y hy).elim (fun z => absurd e z) id, h8, fun y hy e => (h9 y hy).elim (fun z => absurd e z) id⟩
/-- the context at its entry -/
def ccx (CX : CXT) (P : Program) (w : World) (K : PySem.W.Frag) (mg : Str → Option Value) (base : Heap) (N fr : List Str) (qual : Str) (scope : Scope) (cl : List (Str × Addr)) (cda f : Addr) (A : Around) (outer : List Env) (s : Shared) (H : Hp) (E : XK) : Cx where
  prog := P
  w := w
  K := K
  mg := mg
  base := base
  A := A.deeper (PySem.W.envX qual scope s.heap.objs.size f (.ref cda) (cellsFrom (s.heap.objs.size + 1) scope.names cl))
  N := N
  s_0 := s
  H_0 := H
  env := PySem.W.envX qual scope s.heap.objs.size f (.ref cda) (cellsFrom (s.heap.objs.size + 1) scope.names cl)
  outer := outer
  stack := PySem.W.envX qual scope s.heap.objs.size f (.ref cda) (cellsFrom (s.heap.objs.size + 1) scope.names cl) :: outer
  ex := []
  calm := true
  fn := fun y => !decide (y ∈ fr)
  pn := []
  xe := fun e s' => wpAny (model P w) (A.deeper (PySem.W.envX qual scope s.heap.objs.size f (.ref cda) (cellsFrom (s.heap.objs.size + 1) scope.names cl))) (leaving (PySem.W.envX qual scope s.heap.objs.size f (.ref cda) (cellsFrom (s.heap.objs.size + 1) scope.names cl)) e) (fun _ s'' => CX outer H s E e s'') (fun e' s'' => CX outer H s E e' s'') s'
section
variable {CX : CXT} {P : Program} {w : World} {K : PySem.W.Frag} {mg : Str → Option Value} {base : Heap} {N ps fr : List Str} {qual : Str} {scope : Scope} {cl : List (Str × Addr)} {cda f : Addr} {A : Around} {outer : List Env} {s s1 : Shared} {H : Hp} {E : XK} {us : List Value} {vs : List V} {ws : List (Option V)}
theorem inv_startC (S : CScope N ps fr scope) (hd : A.handled = none) (e0 : Env0 P w K mg base A outer s H) (hl : vs.length = ps.length) (r : Vals vs us) (C : CellsAt cl fr ws s.heap H) (hclf : ∀ y c, cl.lookup y = some c → y ∈ fr)
    (x : InCallC s s.heap.objs.size (bindL (fun n => scope.names.lookup n) (ps.zip us) fun _ => none) (cellsFrom (s.heap.objs.size + 1) scope.names []) (bindC (fun n => scope.names.lookup n) (ps.zip us) fun _ => none) s1) :
    Inv (ccx CX P w K mg base N fr qual scope cl cda f A outer s H E) [] (startF N vs ws) H s1 := by
  have hpl : ps.length + fr.length ≤ N.length := by
    have q := congrArg List.length S.pre
    rw [List.length_take, List.length_append] at q
    omega
  obtain ⟨h1, tk, rfl, kp⟩ := x.done
  have noA : ∀ b : Addr, b ∉ (ccx CX P w K mg base N fr qual scope cl cda f A outer s H E).ex := fun b z => absurd (show b ∈ ([] : List Addr) from z) (by simp)
  have cellK : ∀ {c : Addr} {v : Option Value}, s.heap.IsCell c v → h1.IsCell c v := fun {c v} ⟨o, ho, hd⟩ => ⟨o, kp _ _ ho, hd⟩
  -- where a name's cell comes from
  have part : ∀ {y : Str} {c : Addr}, (cellsFrom (s.heap.objs.size + 1) scope.names cl).lookup y = some c → (cellsFrom (s.heap.objs.size + 1) scope.names []).lookup y = some c ∨ cl.lookup y = some c := fun {y c} h => by
    rw [cellsFrom_app, List.lookup_append] at h
    cases e : (cellsFrom (s.heap.objs.size + 1) scope.names []).lookup y with
    | none =>
      rw [e] at h
      exact .inr h
    | some d =>
      rw [e] at h
      exact .inl h
  have ownL : ∀ {y : Str} {c : Addr}, (cellsFrom (s.heap.objs.size + 1) scope.names []).lookup y = some c → (cellsFrom (s.heap.objs.size + 1) scope.names cl).lookup y = some c := fun {y c} h => by
    rw [cellsFrom_app, List.lookup_append, h]
    rfl
  have noOwn : ∀ {y : Str}, y ∈ fr → (cellsFrom (s.heap.objs.size + 1) scope.names []).lookup y = none := fun {y} hy => by
    cases e : (cellsFrom (s.heap.objs.size + 1) scope.names []).lookup y with
    | none => rfl
    | some d => exact absurd hy (S.nofr _ (mem_cellsFrom _ _ _ _ (PySem.mem_of_lookup e)) rfl)
  have capL : ∀ {y : Str} {c : Addr}, y ∈ fr → cl.lookup y = some c → (cellsFrom (s.heap.objs.size + 1) scope.names cl).lookup y = some c := fun {y c} hy h => by
    rw [cellsFrom_app, List.lookup_append, noOwn hy]
    exact h
  have old : ∀ {y : Str} {c : Addr}, cl.lookup y = some c → c < s.heap.objs.size := fun {y c} h => let ⟨_, z⟩ := (C.all y c h).2; z.lt
  have big : ∀ {y : Str} {c : Addr}, (cellsFrom (s.heap.objs.size + 1) scope.names []).lookup y = some c → s.heap.objs.size < c := fun {y c} h => x.above y c (PySem.mem_of_lookup h)
  refine ⟨⟨e0.mod, S.kind, rfl, rfl, Nat.le_refl _, fun y z c h1 h2 => ?_, fun y hy => ?_, fun y c hf h => ?_, fun _ => hd, Around.frames_deeper e0.frames, .inr ⟨rfl, rfl⟩, fun b z => absurd z (noA b), e0.bs, e0.bsz, fun b _ _ => noA b, fun b z => absurd z (noA b), e0.funs, e0.frf⟩,
    rfl, e0.bare, Un.kept kp, ⟨_, x.toInCall.ns, fun i y v e1 e2 e3 => ?_⟩, fun y c h => ?_, e0.hok.fresh (Nat.le_refl _), fun y c h => ?_, fun q hq => absurd (show q ∈ ([] : List (Addr × Obj)) ++ [] from hq) (by simp), e0.hok.kept kp, ?_⟩
  · rcases part h1 with h1 | h1 <;> rcases part h2 with h2 | h2
    · exact name_of_addr x.apart (PySem.mem_of_lookup h1) (PySem.mem_of_lookup h2)
    · exact absurd (Nat.lt_trans (big h1) (old h2)) (Nat.lt_irrefl _)
    · exact absurd (Nat.lt_trans (big h2) (old h1)) (Nat.lt_irrefl _)
    · exact C.inj _ _ _ h1 h2
  · have hy : scope.names.lookup y = some .cell ∨ scope.names.lookup y = some .free := hy
    rcases hy with hy | hy
    · obtain ⟨c, e⟩ := cell_has (n := s.heap.objs.size + 1) hy
      exact ⟨c, ownL e⟩
    · have hm := S.free _ (PySem.mem_of_lookup hy) rfl
      obtain ⟨i, hi⟩ := List.mem_iff_getElem?.mp hm
      obtain ⟨c, hc, _⟩ := C.has i y hi
      exact ⟨c, capL hm hc⟩
  · have hf : (!decide (y ∈ fr)) = true := hf
    rcases part h with h | h
    · exact Nat.le_of_lt (big h)
    · have : y ∉ fr := by simpa using hf
      exact absurd (hclf y c h) this
  · have e1 : N[i]? = some y := e1
    have clen := C.len
    unfold startF at e2
    by_cases h1 : i < ps.length
    · have hq : (ps ++ fr)[i]? = some y := by
        rw [← S.pre, List.getElem?_take_of_lt (by omega)]
        exact e1
      rw [List.getElem?_append_left h1] at hq
      rw [List.getElem?_append_left (by rw [List.length_map]; omega), List.getElem?_map] at e2
      have ha : vs[i]? = some v := by
        cases e : vs[i]? with
        | none => rw [e] at e2; cases e2
        | some a => rw [e] at e2; cases e2; rfl
      obtain ⟨u, hu, rv⟩ := r.get ha
      have ndP : ps.Nodup := by
        have q := S.nd.sublist (List.take_sublist (ps.length + fr.length) N)
        rw [S.pre] at q
        exact (List.nodup_append.mp q).1
      refine ⟨u, rv, ?_⟩
      rcases S.par y (List.mem_of_getElem? hq) with k | k
      · exact .inl ⟨k, bindL_get ndP hq hu k⟩
      · obtain ⟨c, e⟩ := cell_has (n := s.heap.objs.size + 1) k
        refine .inr ⟨.inl k, c, ownL e, ?_⟩
        have q := x.cell y c e
        rw [bindC_get ndP hq hu (by show scope.names.lookup y ≠ _; rw [k]; decide)] at q
        exact q
    · rw [List.getElem?_append_right (by rw [List.length_map]; omega), List.length_map] at e2
      by_cases h2 : i < ps.length + fr.length
      · have hq : (ps ++ fr)[i]? = some y := by
          rw [← S.pre, List.getElem?_take_of_lt (by omega)]
          exact e1
        rw [List.getElem?_append_right (by omega)] at hq
        rw [List.getElem?_append_left (by omega), hl] at e2
        obtain ⟨c, hc, hv⟩ := C.has (i - ps.length) y hq
        obtain ⟨u, ru, hu⟩ := hv v e2
        have hm := List.mem_of_getElem? hq
        exact ⟨u, ru, .inr ⟨.inr (S.frk y hm), c, capL hm hc, cellK hu⟩⟩
      · rw [List.getElem?_append_right (by omega), List.getElem?_replicate] at e2
        split at e2 <;> cases e2
  · rcases part h with h | h
    · exact ⟨_, x.cell y c h⟩
    · obtain ⟨v, z⟩ := (C.all y c h).2
      exact ⟨v, cellK z⟩
  · rcases part h with h | h
    · exact e0.hok.fresh (Nat.le_of_lt (big h))
    · exact (C.all y c h).1
  · have clen := C.len
    unfold startF
    show _ = N.length
    rw [List.length_append, List.length_append, List.length_map, List.length_replicate]
    omega
end
theorem fn_supC {CX : CXT} {P : Program} {w : World} {K : PySem.W.Frag} {mg : Str → Option Value} {base : Heap} {k : Nat} {f cc cda : Addr} {name qual : Str} {params : Arguments} {body : List Stmt} {scope : Scope} {dV kV doc pm ct oc cl u : Value} {an od cld : Option Addr}
    {osl csl : Array (Option Value)} {N ps : List Str} {sp : Sp} (lk : K.lookup f = some ⟨oc, od, .func (PySem.W.ksFn name qual params body scope dV kV doc pm an (.ref cda) ct cc), osl⟩) (hcd : PySem.W.codeIn K (.ref cda) qual = true)
    (cell : K.lookup cc = some ⟨cl, cld, .cell (some u), csl⟩) (S : CScope N ps ["__class__"] scope)
    (len : ∀ vs H Q E, sp vs H Q E → vs.length = ps.length)
    (hbody : ∀ (A : Around) (outer : List Env) (s : Shared) (H : Hp) (vs : List V) (Q : VK) (E : XK), Room k (A.deeper (PySem.W.envX qual scope s.heap.objs.size f (.ref cda) (cellsFrom (s.heap.objs.size + 1) scope.names [("__class__", cc)]))) → sp vs H Q E →
      ∃ t, QS (ccx CX P w K mg base N ["__class__"] qual scope [("__class__", cc)] cda f A outer s H E) (.func body (PySem.W.envX qual scope s.heap.objs.size f (.ref cda) (cellsFrom (s.heap.objs.size + 1) scope.names [("__class__", cc)]))) body t ∧
        t { nx := fun _ H' => Q .non H', rt := Q } (startF N vs [none]) H) : FnOk P w K mg base CX (k + 1) f (PySem.W.ksFn name qual params body scope dV kV doc pm an (.ref cda) ct cc) ps sp := by
  refine ⟨len, fun A outer s H args us vs Q E hr e0 hb r hsp => ?_⟩
  have hl := len _ _ _ _ hsp
  have KX : K.In s.heap := e0.mod.kin.keeps fun b o e => (e0.bs b o e).1
  have lim : s.heap.NoLimit := e0.mod.nolimit.keeps fun b o e => (e0.bs b o e).1
  refine codeAny_call_function hr.depth (KX _ _ lk) rfl S.co S.gen rfl (PySem.W.codeRec_of KX hcd) (hb _ _ _ _ ?_)
  refine newFunctionEnvD S.kind (fun ⟨n, _⟩ hy => S.par n (List.of_mem_zip hy).1) fun env he s1 x => ?_
  subst he
  refine ⟨lim.keeps x.toInCall.keep, ?_⟩
  show codeAny _ _ (.func body (PySem.W.envX qual scope s.heap.objs.size f (.ref cda) (cellsFrom (s.heap.objs.size + 1) scope.names [("__class__", cc)]))) _ _
  refine ks_codeAny_funcAt ?_
  obtain ⟨t, ht, hq⟩ := hbody A outer s H vs Q E (hr.deeper _) hsp
  have hclf : ∀ (y : Str) (c : Addr), ([("__class__", cc)] : List (Str × Addr)).lookup y = some c → y ∈ (["__class__"] : List Str) := fun y c h => by
    have := PySem.mem_of_lookup h
    rw [List.mem_singleton] at this
    cases this
    exact List.mem_cons_self
  have I : Inv (ccx CX P w K mg base N ["__class__"] qual scope [("__class__", cc)] cda f A outer s H E) [] (startF N vs [none]) H s1 := inv_startC S hr.hd e0 hl r (cells_written e0 cell) hclf x
  refine ks_wpAt_mono (ht.run [] _ (startF N vs [none]) H _ I hq) (fun fl s' hs => ?_) fun e s' hs => hs
  have fin : ∀ {σ' : L2.St} {H' : Hp} {v : V} {u : Value}, Inv (ccx CX P w K mg base N ["__class__"] qual scope [("__class__", cc)] cda f A outer s H E) [] σ' H' s' → RelV v u → Q v H' → CE outer P w H s Q u s' := fun {σ' H' v u} J rv q => ⟨v, H', J.os, J.bare, J.base, J.hok, rv, q⟩
  match fl, hs with
  | .ret u, ⟨v, σ', H', J, rv, q⟩ => exact fin J rv q
  | .next, ⟨σ', H', J, q⟩ => exact fin (v := V.non) (u := Value.none) J rfl q
  | .brk, ⟨_, _, _, q⟩ => exact False.elim q
  | .cont, ⟨_, _, _, q⟩ => exact False.elim q
/-! ### super().m(..) in any context -/
theorem pe_supX {X : Cx} {f g cc cda C : Addr} {name qual m : Str} {params : Arguments} {body body' : List Stmt} {scope : Scope} {dV kV doc pm ct oc cl : Value} {an od cld : Option Addr}
    {osl csl : Array (Option Value)} {ar : Arg} {p0 p1 p2 p4 : Pos} {pl : Sem Bool} {e1 : Expr} {es : List Expr} {ta : TA} {sp : Sp} {k : Nat}
    (hfu : X.env.func = some f) (hco : X.env.code = .ref cda) (hclo : X.env.cells.lookup ("__class__" : Str) = some cc) (lk : X.K.lookup f = some ⟨oc, od, .func (PySem.W.ksFn name qual params body scope dV kV doc pm an (.ref cda) ct cc), osl⟩) (cell : X.K.lookup cc = some ⟨cl, cld, .cell (some (.ref C)), csl⟩) (Z : SupO X.prog X.K X.mg C cda m g)
    (F : FnR X.prog X.w X.K X.mg X.base CX0 k g sp) (hr : Room k X.A)
    (hat : (m == ("__class__" : Str)) = false)
    (hks : X.env.scope.names.lookup ("super" : Str) = some .globalImplicit) (hkc : X.env.scope.names.lookup ("__class__" : Str) = some .free) (hp : (params.posonlyargs ++ params.args).head? = some ar) (hN : X.N[0]? = some ar.arg)
    (hka : Loc X.env.scope ar.arg)
    (ha : PA X (e1 :: es) ta)
    (he : eval (.Call (.Attribute (.Call (.Name "super" p0) [] [] p1) m p2) (e1 :: es) [] p4) X.env = (do
      let ov ← attributeBase (.Call (.Name "super" p0) [] [] p1) m X.env (eval (.Call (.Name "super" p0) [] [] p1) X.env)
      standAt p2.atName
      let (fx, first) ← holding [ov] (getMethod ov m pl)
      callWith p4 fx first (backTo p4 (starEach (e1 :: es) X.env)) []))
    (hst : starEach (e1 :: es) X.env = (false, eval e1 X.env) :: starEach es X.env)
    (hpl : (backTo p4 (starEach es X.env)).any (·.1) = false) :
    PEat X (.func body' X.env)
      (.Call (.Attribute (.Call (.Name "super" p0) [] [] p1) m p2) (e1 :: es) [] p4) (tSupO C sp ta) := by
  constructor
  intro pins s σ H Q I ⟨a, dx, fs, hσ, hia, q⟩
  have KX := I.kIn
  obtain ⟨mA, O, _⟩ := ins_get I.hok hia
  obtain ⟨odx, J, _⟩ := O.look
  obtain ⟨ccl, cdd, vs, ccs, fl, tf, hcode, hvs, hfile⟩ := Z.file
  refine ks_wpAt_MethodCall (pl := pl) ?_ he
  obtain ⟨hh, gg, d, tk, os⟩ := s
  obtain ⟨cd, hcd⟩ := Option.isSome_iff_exists.mp Z.cls
  obtain ⟨oD, hD1, hD2⟩ : ∃ oD, hh.get? C = some oD ∧ oD.data = .cls cd := by
    unfold PySem.W.clsIn at hcd
    split at hcd
    · rename_i c d cd' sl ho
      cases hcd
      exact ⟨_, KX _ _ ho, rfl⟩
    · cases hcd
  refine ks_wpAt_super_base hks hkc hat hfu (KX _ _ lk) rfl hp hco (KX _ _ hcode) rfl hvs hfile Z.top ?_
  obtain ⟨mb, hbn, hbv⟩ := I.ok.mod.blt
  have hbo : bootBuiltins "super" = some (.type "super") := by first | rfl | decide +kernel
  refine PySem.W.ks_loadName_global I.ok.kind hks (Calls.loadGlobal_builtin (by rw [I.ok.glob]; exact I.mod.glob.keeps I.bk) Z.zs (by rw [I.ok.blt]; exact hbn.keeps I.bk) ((hbv ("super" : Str) (by decide +kernel)).trans hbo) ⟨rfl, ?_⟩)
  refine wpAny_loadName_free I.ok.kind hkc hclo ⟨_, KX _ _ cell, rfl⟩ ?_
  obtain ⟨ml, hns, hl⟩ := I.loc
  obtain ⟨u, ru, lku⟩ := hl 0 ar.arg (.ref a) hN hσ (hka.elim .inl fun z => .inr (.inl z))
  obtain rfl : u = Value.ref a := ru
  refine wpAny_mono (Q := fun u s' => u = Value.ref a ∧ s' = ⟨hh, gg, d, tk, os⟩) (E := fun _ _ => False) ?_ (fun u s' z => ?_) fun _ _ z => z.elim
  · rcases lku with ⟨hkx, hm⟩ | ⟨hkx, cx, hcx, hcell⟩
    · exact wpAny_loadName_local I.ok.kind hkx hns hm ⟨rfl, rfl⟩
    · rcases hkx with hkx | hkx
      · exact wpAny_loadName_cell I.ok.kind hkx hcx hcell ⟨rfl, rfl⟩
      · rcases hka with z | z
        · exact absurd (z.symm.trans hkx) (by decide)
        · exact absurd (z.symm.trans hkx) (by decide)
  obtain ⟨rfl, rfl⟩ := z
  refine ks_wpAny_isType_cls hD1 hD2 ⟨rfl, ?_⟩
  refine ks_wpAny_call_super hD1 hD2 J.at_ J.cls (fun c z => ?_) (PySem.W.looks_mroIn KX Z.own) fun h' e1' kp => ?_
  · have := J.no
    unfold PySem.W.notCls at this
    rw [z] at this
    exact Bool.noConfusion this
  have I1 : Inv _ pins σ H ⟨h', gg, d, tk, os⟩ := I.kept (t' := tk) kp
  have KX1 := I1.kIn
  obtain ⟨mA1, O1, _⟩ := ins_get I1.hok hia
  obtain ⟨odx1, J1, _⟩ := O1.look
  obtain ⟨of, hof, hofc⟩ : ∃ of, h'.get? g = some of ∧ of.cls = .type "function" := by
    have ht' : (X.K.lookup g).map (·.cls) = some (.type "function") := Z.ty
    cases z : X.K.lookup g with
    | none => rw [z] at ht'; cases ht'
    | some of => rw [z] at ht'; exact ⟨of, KX1 _ _ z, Option.some.inj ht'⟩
  have up := Z.up
  unfold PySem.W.ks_superIn at up
  rw [hcd] at up
  refine ks_wpAny_getMethod_super e1' (PySem.W.looks_opaque KX1 Z.opq) (l₀ := cd.mro) (fun A Q E s k z => wpAny_bind ((PySem.W.looks_clsIn KX1 hcd) A _ E s k (wpAny_pure z))) rfl KX1 up hof hofc (PySem.W.ks_ne KX1 J1 hcd) hat ?_
  have k2 : ∀ b o, h'.get? b = some o → (h'.push (PySem.W.methodObj (.ref g) (.ref a))).get? b = some o := fun b o e => Heap.get?_push_of_some _ e
  have I2 : Inv _ pins σ H ⟨h'.push (PySem.W.methodObj (.ref g) (.ref a)), gg, d, tk + 1, os⟩ := I1.kept (t' := tk + 1) k2
  have hq : (h'.push (PySem.W.methodObj (.ref g) (.ref a))).get? h'.objs.size = some (PySem.W.methodObj (.ref g) (.ref a)) := Heap.get?_push_size _ rfl
  have fp : ∀ b ∈ [h'.objs.size], FpOk X pins H b := fun b mb' => by
    rw [List.mem_singleton.mp mb']
    exact I1.fpOk (Nat.le_refl _) (I1.hok.fresh (Nat.le_refl _))
  have I3 := I2.pinned fp fun b mb' => by
    rw [List.mem_singleton.mp mb']
    exact ⟨_, hq, fun v z => by cases z⟩
  have hst' : starEach (e1 :: es) X.env = (false, eval e1 X.env) :: starEach es X.env := hst
  have go := ha.run p4 _ _ σ H _ I3 q
  rw [hst'] at go
  rw [hst']
  refine PySem.W.callWith_of (P := PySem.W.MethP X.K h'.objs.size g (.ref a)) (by show ((false || (backTo p4 (starEach es _)).any (·.1)) || false) = false; rw [hpl]; rfl) (PySem.W.keeps_M Z.fn) (Calls.evalArgs_plain (thn go fun us s3 w3 => ?_))
  obtain ⟨vs3, H1, I4, r, q2⟩ := w3
  have pin := (I4.pin (h'.objs.size, PySem.W.methodObj (.ref g) (.ref a)) (List.mem_append_right _ (List.mem_append_right _ (mem_pinsAt List.mem_cons_self hq)))).1
  refine ⟨⟨pin, I4.kIn⟩, ?_⟩
  have I5 := I4.unpinned
  exact wpAny_call (ks_codeAny_call_bound pin (run_fnR (us := .ref a :: us) (vs := .ref a :: vs3) F hr pass0 I5 (.cons rfl r) q2))
end Rd

set_option maxHeartbeats 4000000
/-! Cm2: raise X(e) of any base; methods of a family of classes, each with its own def; instances called; a, b = super().m(..); X(e, *y). -/
namespace Rd
open PySem PySem.Spec L2 StX NdefX PyProof.Rows
/-! ### readings for Cm -/
section
variable {σ : L2.St} {H : Hp} {Q : VK} {a p d : Addr} {K : PySem.W.Frag} {kvs : List (Key × V)} {nds : List (Str × Int)} {ex : List Addr} {x v : V} {xs : List V}
theorem r_kItems (e : H a = some (.dK kvs)) (q : ∀ p H', H p = none → Kp [] H H' → H' p = some (DX.itemsO p a) → Q (.ref p) H') : kBM0 K "dict" rItemsK Q (.ref a) H :=
  ⟨.inr (.inr (.inl ⟨rfl, .inl ⟨_, e⟩⟩)), a, kvs, rfl, rfl, e, fun p n => q p _ n (Kp.new n) upd_same⟩
theorem paired_dt {H : Hp} {l : Addr} (el : ∀ t o, H t = some (HO.tup o) → t ≠ l) : ∀ {ts : List Addr} {nds : List (Str × Int)}, Paired (fun t q => H t = some (.tup [.str q.1, .int q.2])) ts nds → DtAll [l] H (ts.map V.ref) (nds.map ndD)
  | _, _, .nil => .nil
  | _, _, .cons h t => .cons (.tup (fun m => el _ _ h (List.mem_singleton.mp m)) h (.cons (.str _) (.cons (.int _) .nil))) (paired_dt el t)
theorem r_sortN (ep : H p = some (DX.itemsO p a)) (ea : H a = some (.dK (ndK nds))) (q : ∀ l H' xs, H l = none → Kp [] H H' → H' l = some (.lst xs) → DtAll [l] H' xs ((srtN nds).map ndD) → Q (.ref l) H') : rSortN [.ref p] H Q :=
  ⟨p, a, nds, rfl, ep, ea, fun H' l ts k nl el _ pr => q l H' _ nl (fun b o e _ => k b o e) el (paired_dt (fun t o et z => by
    rw [z, el] at et
    cases et) pr)⟩
/-! dict(pairs) -/
def cDictP (K : PySem.W.Frag) : R1 := fun xs H Q => ∃ (a : Addr) (ps : List Addr) (kvs : List (Key × V)), xs = [.ref a] ∧ SqL K H a (ps.map V.ref) ∧ Paired (fun p kv => SqT K H p [kV kv.1, kv.2]) ps kvs ∧
    ∀ p, H p = none → Q (.ref p) (upd H p (.dK (mergeK [] kvs)))
theorem K_dictP {X : Cx} (hK : X.K = K) (hc : X.calm = true) : CallR X (.type "dict") (cDictP K) := by
  subst hK
  exact call_dictP hc
theorem dt_refs {K : PySem.W.Frag} : ∀ {xs : List V} {nds : List (Str × Int)}, DtAll ex H xs (nds.map ndD) → ∃ ps : List Addr, xs = ps.map V.ref ∧ Paired (fun p kv => SqT K H p [kV kv.1, kv.2]) ps (ndK nds)
  | [], [], _ => ⟨[], rfl, .nil⟩
  | [], _ :: _, h => by cases h
  | _ :: _, [], h => by cases h
  | x :: xs, q :: nds, h => by
    cases h with
    | cons h1 h2 =>
      obtain ⟨ps, rfl, pr⟩ := dt_refs (K := K) h2
      obtain ⟨t, rfl, _, et⟩ := h1.pair
      exact ⟨t :: ps, rfl, .cons (SqT.of et) pr⟩
theorem putK_new {kvs : List (Key × V)} {k : Key} {v : V} (h : k ∉ kvs.map (·.1)) : putK kvs k v = kvs ++ [(k, v)] := by
  unfold putK
  rw [if_neg]
  intro z
  obtain ⟨q, hq, e⟩ := List.any_eq_true.mp z
  exact h (List.mem_map.mpr ⟨q, hq, of_decide_eq_true e⟩)
theorem mergeK_nodup : ∀ (kvs acc : List (Key × V)), ((acc ++ kvs).map (·.1)).Nodup → mergeK acc kvs = acc ++ kvs
  | [], acc, _ => by simp [mergeK]
  | q :: kvs, acc, h => by
    have hq : q.1 ∉ acc.map (·.1) := fun m => by
      rw [List.map_append, List.nodup_append] at h
      exact h.2.2 _ m q.1 (List.mem_map.mpr ⟨q, List.mem_cons_self, rfl⟩) rfl
    have e : mergeK acc (q :: kvs) = mergeK (putK acc q.1 q.2) kvs := rfl
    rw [e, putK_new hq, mergeK_nodup kvs _ (by simpa using h)]
    simp
theorem ndK_keys {nds : List (Str × Int)} (h : (nds.map Prod.fst).Nodup) : ((ndK nds).map (·.1)).Nodup := by
  have e : (ndK nds).map (·.1) = (nds.map Prod.fst).map (Sum.inr : Str → Key) := by
    unfold ndK
    rw [List.map_map, List.map_map]
    rfl
  rw [e]
  exact List.Pairwise.map _ (fun a b n z => n (Sum.inr.inj z)) h
theorem merge_nds {nds : List (Str × Int)} (h : (nds.map Prod.fst).Nodup) : mergeK [] (ndK nds) = ndK nds := by
  rw [mergeK_nodup _ _ (by simpa using ndK_keys h)]
  rfl
theorem r_dictP (hq : SqL K H a xs) (hd : DtAll ex H xs (nds.map ndD)) (hn : (nds.map Prod.fst).Nodup) (q : ∀ p H', H p = none → Kp [] H H' → H' p = some (.dK (ndK nds)) → Q (.ref p) H') : cDictP K [.ref a] H Q := by
  obtain ⟨ps, rfl, pr⟩ := dt_refs (K := K) hd
  refine ⟨a, ps, ndK nds, rfl, hq, pr, fun p n => ?_⟩
  rw [merge_nds hn]
  exact q p _ n (Kp.new n) upd_same
/-! d[k] = v as a target -/
theorem r_setD {z : Str} {R : Hp → Prop} (e : H a = some (.dK kvs)) (h : kvs.length < sizeLine) (q : ∀ H', Kp [a] H H' → H' a = some (.dK (putK kvs (Sum.inr z) v)) → R H') : rSetD (.ref a) (.str z) v H R :=
  ⟨a, _, rfl, .inl ⟨kvs, Sum.inr z, e, rfl, h, rfl⟩, q _ (Kp.put (by simp)) upd_same⟩
end
/-! ### raise X(e), X an own class over any of the bases -/
def kMkR (fs : List Str) (C : Addr) (Q : XK) : List V → Hp → Prop := fun vs H1 => vs.length = fs.length ∧ fs ≠ [] ∧ fs.length ≤ 1000 ∧ ∀ d H', H1 d = none → Kp [] H1 H' → H' d = some (.xd (fs.zip vs).reverse) → Q (.ref C) (some d) H'
def tMkR (fs : List Str) (C : Addr) (t : TA) : L2.St → Hp → XK → Prop := fun σ H Q => t σ H (kMkR fs C Q)
def tRaiseV (fs : List Str) (C : Addr) (W : WX) (ta : TA) : TS := fun _ σ H => ta σ H (kMkR fs C fun cls d H' => W cls d σ H')
section
variable {X : Cx} {k : Nat} {C : Addr} {ps fs : List Str} {x : Str} {e : Expr} {es : List Expr} {t : TA} {p pos pos2 : Pos} {W : WX}
theorem pmk_V (U : UseV X.prog X.w X.K X.mg X.base k x C ps (sp_ev fs C)) (hr : Room (k + 1) X.A) (hg : Gl X x) (ha : PA X (e :: es) t) (hdb : (x == ("__debug__" : Str)) = false := by decide)
    (he : starEach (e :: es) X.env = (false, eval e X.env) :: starEach es X.env := by rfl) (hpl : (backTo pos (starEach es X.env)).any (·.1) = false := by rfl) : PMk X (.Call (.Name x p) (e :: es) [] pos) (tMkR fs C t) := by
  obtain ⟨B, newId, initId, tl, fI, fd, Z, T, iC, tI, F1, hb, _, _⟩ := U.ex
  intro pins s σ H Q I h
  obtain ⟨nm, q, N, bs, bm, sn, sub, ab, col, dd, k0, k1, k2, k3, k5, hC, hbm⟩ := T.cls
  refine wpAny_Call_Name_kw (ld_glob I hg U.gC ?_ hdb)
  refine PySem.W.callWith_K (h₀ := X.base) I.ok.mod.kin T.kC (thn (ha.run pos pins s σ H _ I h) fun us s1 ⟨vs, H1, I1, r1, hvl, hfs, h9, q1⟩ => ⟨I1.kIn, ?_⟩) he hpl
  show wpAny _ _ (call (.ref C) us) _ _ _
  obtain ⟨hp, g, dr, tk, os⟩ := s1
  have hsz : hp.objs.size ≤ hp.objs.size + 1 := Nat.le_succ _
  have hn : H1 (hp.objs.size + 1) = none := I1.hok.fresh hsz
  have hq : sp_ev fs C (.ref (hp.objs.size + 1) :: vs) (upd H1 (hp.objs.size + 1) (exo (hp.objs.size + 1) C none))
      (fun v H2 => v = .non ∧ ∃ (d : Addr) (gs : List (Str × V)), H2 (hp.objs.size + 1) = some (exo (hp.objs.size + 1) C (some d)) ∧ H2 d = some (exd d gs) ∧ H1 d = none ∧ Q (.ref C) (some d) (upd (del H2 (hp.objs.size + 1)) d (.xd gs))) E0 := by
    refine ⟨_, vs, rfl, hvl, upd_same, fun H2 k2 hx => ⟨rfl, ?_⟩⟩
    rcases hx with ⟨_, ez⟩ | ⟨d, nd, e1, e2⟩
    · have := congrArg List.length ez
      rw [List.length_reverse, List.length_zip, hvl, Nat.min_self] at this
      exact absurd (List.length_eq_zero_iff.mp this) hfs
    · have da : d ≠ hp.objs.size + 1 := fun z => by
        rw [z, upd_same] at nd
        cases nd
      have n1 : H1 d = none := by
        rw [upd_ne da] at nd
        exact nd
      refine ⟨d, _, e1, e2, n1, q1 d _ n1 (fun b o eb _ => ?_) upd_same⟩
      have hbd : b ≠ d := ne_of_none eb n1
      have hba : b ≠ hp.objs.size + 1 := ne_of_none eb hn
      rw [upd_ne hbd, del_ne hba]
      exact k2 b o (by rw [upd_ne hba]; exact eb) (not_one hba)
  have kk : ∀ b o, hp.get? b = some o → ((hp.push (PySem.W.kdv_tup us)).push (PySem.HandSPX.excO C hp.objs.size)).get? b = some o := fun b o e => Heap.get?_push_of_some _ (Heap.get?_push_of_some _ e)
  have hget : ((hp.push (PySem.W.kdv_tup us)).push (PySem.HandSPX.excO C hp.objs.size)).get? (hp.objs.size + 1) = some (PySem.HandSPX.excO C hp.objs.size) := by heap_get
  have I2 : Inv X pins σ (upd H1 (hp.objs.size + 1) (exo (hp.objs.size + 1) C none)) ⟨(hp.push (PySem.W.kdv_tup us)).push (PySem.HandSPX.excO C hp.objs.size), g, dr, tk, os⟩ :=
    I1.laid (t' := tk) (a := hp.objs.size + 1) (o := exo (hp.objs.size + 1) C none) (h' := (hp.push (PySem.W.kdv_tup us)).push (PySem.HandSPX.excO C hp.objs.size)) kk hsz (exo_ok hget)
  have r2 : Vals (V.ref (hp.objs.size + 1) :: vs) (Value.ref (hp.objs.size + 1) :: us) := .cons rfl r1
  have hus : us.length ≤ sizeLine := by
    rw [← r1.length, hvl]
    exact Nat.le_trans h9 (by decide)
  refine wpAny_call (PySem.HandSPX.call_kw Z.facts (fun Y => refsT_contains Z Y bm hbm) (I1.kIn _ _ hC) (PySem.W.looks_findIn I1.kIn iC) (fun self => PySem.W.bind_fn I1.kIn self tI) hus
    (codeAny_mono (F1.run _ X.stack _ _ ⟨Value.ref (hp.objs.size + 1) :: us, []⟩ (Value.ref (hp.objs.size + 1) :: us) _ _ E0 (hr.make C us []) (I2.env0.make C us []) (hb _ (Value.ref (hp.objs.size + 1) :: us) (by rw [← r2.length]; exact F1.len _ _ _ _ hq)) r2 hq) fun r s' hq' => ?_))
  cases r with
  | error er => exact pass0 (X := X) pins σ _ _ er s' I2 hq'
  | ok fl =>
    cases fl with
    | ret u =>
      obtain ⟨v, H2, os2, bare2, un2, hok2, rv, ev, d, gs, ea, ed, hd1, q2⟩ := hq'
      subst ev
      obtain ⟨h2, g2, d2, t2, os'⟩ := s'
      exact ⟨rv, mk_end (raises_own T.exC T.tyC) I1 hsz kk un2 hok2 os2 bare2 ea ed hd1 q2⟩
    | next => exact False.elim hq'
    | brk => exact False.elim hq'
    | cont => exact False.elim hq'
theorem ps_raiseV (U : UseV X.prog X.w X.K X.mg X.base k x C ps (sp_ev fs C)) (hr : Room (k + 1) X.A) (hc : X.calm = true) (tk : Takes X W) (hg : Gl X x) (ha : PA X (e :: es) t) (hdb : (x == ("__debug__" : Str)) = false := by decide)
    (he : starEach (e :: es) X.env = (false, eval e X.env) :: starEach es X.env := by rfl) (hpl : (backTo pos (starEach es X.env)).any (·.1) = false := by rfl) :
    PS X (.Raise (some (.Call (.Name x p) (e :: es) [] pos)) none pos2) (tRaiseV fs C W t) := ps_raise hc tk (pmk_V U hr hg ha hdb he hpl)
end
theorem r_raiseV {fs : List Str} {C : Addr} {W : WX} {ta : TA} {D : Ends} {σ : L2.St} {H : Hp} (q : ta σ H (kMkR fs C fun cls d H' => W cls d σ H')) : tRaiseV fs C W ta D σ H := q
theorem r_kMkR1 {C : Addr} {fld : Str} {Q : XK} {v : V} {H : Hp} (q : ∀ d H', H d = none → Kp [] H H' → H' d = some (.xd [(fld, v)]) → Q (.ref C) (some d) H') : kMkR [fld] C Q [v] H := ⟨rfl, (fun z => nomatch z), by show 1 ≤ 1000; decide, q⟩
theorem ExL.exm {K : PySem.W.Frag} {nm : Str} {C : Addr} {bm : List Value} {n : String} (h : ExL K nm C bm n) (e : PySem.W.subIn K (.ref C) (.type "BaseException") = some true) : PySem.W.exmOne K (.ref C) (.ref C) = some true :=
  PySem.W.exm_ref e h.hd h.ty (by rw [h.sub, List.contains_cons, beq_self_eq_true]; rfl)
/-! ### methods of a family of classes -/
def kMethF (S : List Addr) (m : Str) (sp : Nat → Sp) (E : XK) (t : TA) (σ : L2.St) (Q : VK) : VK := fun x H1 => ∃ a C dx fs k, x = .ref a ∧ S[k]? = some C ∧ H1 a = some (.ins C dx fs) ∧ fs.lookup m = none ∧ t σ H1 fun vs H2 => sp k (x :: vs) H2 Q E
def tMethF (S : List Addr) (m : Str) (sp : Nat → Sp) (E : L2.St → XK) (ta : TE) (t : TA) : TE := fun σ H Q => ta σ H (kMethF S m sp (E σ) t σ Q)
/-- each class has its own def of the name, with a promise by its place -/
def UseMV (P : Program) (w : World) (K : PySem.W.Frag) (mg : Str → Option Value) (base : Heap) (n : Nat) (S : List Addr) (m : Str) (sp : Nat → Sp) : Prop := ∀ k C, S[k]? = some C → Cls K C ∧ ∃ f, FnR P w K mg base CX0 n f (sp k) ∧ Meth K C m f
theorem umv_nil {p : Nat → Addr → Prop} : ∀ k C, ([] : List Addr)[k]? = some C → p k C := fun k C h => by simp at h
theorem umv_cons {p : Nat → Addr → Prop} {D : Addr} {l : List Addr} (h : p 0 D) (t : ∀ k C, l[k]? = some C → p (k + 1) C) : ∀ k C, (D :: l)[k]? = some C → p k C
  | 0, _, e => Option.some.inj e ▸ h
  | k + 1, C, e => t k C e
section
variable {X : Cx} {k : Nat} {S : List Addr} {m : Str} {sp : Nat → Sp} {o e : Expr} {es : List Expr} {ta : TE} {t : TA} {apos pos : Pos} {pl : Sem Bool}
theorem pe_methF (he : PE X o ta) (U : UseMV X.prog X.w X.K X.mg X.base k S m sp) (hr : Room k X.A) (ha : PA X (e :: es) t)
    (hst : starEach (e :: es) X.env = (false, eval e X.env) :: starEach es X.env := by rfl) (hpl : (backTo pos (starEach es X.env)).any (·.1) = false := by rfl)
    (ht : eval (.Call (.Attribute o m apos) (e :: es) [] pos) X.env = (do
      let ov ← eval o X.env
      standAt apos.atName
      let (f, first) ← holding [ov] (getMethod ov m pl)
      callWith pos f first (backTo pos (starEach (e :: es) X.env)) (backToKw pos (keywordEach [] X.env))) := by rfl) :
    PE X (.Call (.Attribute o m apos) (e :: es) [] pos) (tMethF S m sp (fun _ => E0) ta t) := by
  refine ⟨fun pins s σ H Q I h => ?_⟩
  refine PySem.W.methodCall_KW (pl := pl) (thn (he.run pins s σ H _ I h) fun u s1 ⟨x, H1, I1, rx, a, C, dx, fs, i, ex, hS, ea, l, q⟩ => ?_) ht
  subst ex
  obtain rfl : u = Value.ref a := rx
  obtain ⟨c, f, F, hm⟩ := U i C hS
  refine getmeth_ok I1 ea c hm l ?_
  refine PySem.W.callWith_K (first := [.ref a]) (h₀ := X.base) I.ok.mod.kin hm.kp (thn (ha.run pos pins s1 σ H1 _ I1 q) fun us s2 ⟨vs, H2, I2, r, q2⟩ => ⟨I2.kIn, ?_⟩) hst hpl
  exact wpAny_call (run_fnR (us := .ref a :: us) (vs := .ref a :: vs) F hr pass0 I2 (.cons rfl r) q2)
theorem pe_methF0 (he : PE X o ta) (U : UseMV X.prog X.w X.K X.mg X.base k S m sp) (hr : Room k X.A)
    (ht : eval (.Call (.Attribute o m apos) [] [] pos) X.env = (do
      let ov ← eval o X.env
      standAt apos.atName
      let (f, first) ← holding [ov] (getMethod ov m pl)
      callWith pos f first (backTo pos (starEach [] X.env)) (backToKw pos (keywordEach [] X.env))) := by rfl) :
    PE X (.Call (.Attribute o m apos) [] [] pos) (tMethF S m sp (fun _ => E0) ta tNil) := by
  refine ⟨fun pins s σ H Q I h => ?_⟩
  refine PySem.W.methodCall_KW (pl := pl) (thn (he.run pins s σ H _ I h) fun u s1 ⟨x, H1, I1, rx, a, C, dx, fs, i, ex, hS, ea, l, q⟩ => ?_) ht
  subst ex
  obtain rfl : u = Value.ref a := rx
  obtain ⟨c, f, F, hm⟩ := U i C hS
  refine getmeth_ok I1 ea c hm l ?_
  refine PySem.W.callWith_K0 (first := [.ref a]) I1.kIn hm.kp ?_
  exact wpAny_call (run_fnR (us := [.ref a]) (vs := [.ref a]) F hr pass0 I1 (.cons rfl .nil) q)
end
section
variable {S : List Addr} {m : Str} {sp : Nat → Sp} {k : Nat} {E : L2.St → XK} {Ex : XK} {ta : TE} {t : TA} {σ : L2.St} {H : Hp} {Q : VK} {a C dx : Addr} {fs : List (Str × V)}
theorem r_methF (q : ta σ H (kMethF S m sp (E σ) t σ Q)) : tMethF S m sp E ta t σ H Q := q
theorem r_kMethF (hS : S[k]? = some C) (e : H a = some (.ins C dx fs)) (l : fs.lookup m = none) (q : t σ H fun vs H2 => sp k (.ref a :: vs) H2 Q Ex) : kMethF S m sp Ex t σ Q (.ref a) H := ⟨a, C, dx, fs, k, rfl, hS, e, l, q⟩
end
/-! ### x(e), x an instance of a family's class -/
def UseCV (P : Program) (w : World) (K : PySem.W.Frag) (mg : Str → Option Value) (base : Heap) (n : Nat) (S : Addr → Prop) (sp : Sp) : Prop := ∃ g, FnR P w K mg base (L2.CX P w) n g sp ∧ ∀ C, S C → CallO K C g
def kCallF (S : Addr → Prop) (sp : Sp) (E : XK) (a : Addr) (Q : VK) : List V → Hp → Prop := fun vs H2 => (∃ C dx fs, S C ∧ H2 a = some (.ins C dx fs)) ∧ sp (.ref a :: vs) H2 Q E
def kCallX (S : Addr → Prop) (sp : Sp) (E : XK) (t : TA) (σ : L2.St) (Q : VK) : VK := fun y H1 => ∃ a, y = .ref a ∧ t σ H1 (kCallF S sp E a Q)
def tCallF (S : Addr → Prop) (sp : Sp) (E : L2.St → XK) (tf : TE) (t : TA) : TE := fun σ H Q => tf σ H (kCallX S sp (E σ) t σ Q)
section
variable {X : Cx} {k : Nat} {S : Addr → Prop} {sp : Sp} {E : L2.St → XK} {fe e : Expr} {es : List Expr} {tf : TE} {t : TA} {pos : Pos}
theorem pe_callF (hf : PE X fe tf) (U : UseCV X.prog X.w X.K X.mg X.base k S sp) (hr : Room k X.A) (hx : ∀ σ, PassesAt (L2.CX X.prog X.w) X σ (E σ)) (ha : PA X (e :: es) t)
    (ht : eval (.Call fe (e :: es) [] pos) X.env = (do callWith pos (← eval fe X.env) [] (backTo pos (starEach (e :: es) X.env)) (backToKw pos (keywordEach [] X.env))) := by rfl)
    (he : starEach (e :: es) X.env = (false, eval e X.env) :: starEach es X.env := by rfl) (hpl : (backTo pos (starEach es X.env)).any (·.1) = false := by rfl) : PE X (.Call fe (e :: es) [] pos) (tCallF S sp E tf t) := by
  refine ⟨fun pins s σ H Q I h => ?_⟩
  refine Call_ (thn (hf.run pins s σ H _ I h) fun u s1 ⟨y, H1, I1, ry, a, ey, q⟩ => ?_) ht
  subst ey
  obtain rfl : u = Value.ref a := ry
  obtain ⟨g, F, hc⟩ := U
  refine callO_with (thn (ha.run pos pins s1 σ H1 _ I1 q) fun us s2 ⟨vs, H2, I2, r, ⟨C, dx, fs, hS, hi⟩, q2⟩ => ?_) he hpl
  obtain ⟨ox, od, J, hd⟩ := insC_at I2 (.inr ⟨dx, fs, hi⟩ : InsC X H2 a C)
  refine ⟨⟨C, ox, od, J, hd⟩, ?_⟩
  have c := hc C hS
  refine wpAny_call (PySem.W.kco_code I2.kIn J hd c.at_ c.fn c.fi (codeAny_mono (F X.A X.stack s2 H2 (.ref a :: us) (.ref a :: vs) Q (E σ) hr I2.env0 (.cons rfl r) q2) fun z s' hz => ?_))
  match z, hz with
  | .error u, hz => exact hx σ pins _ _ u s' I2 hz
  | .ok (.ret u), hz =>
    obtain ⟨v, H', I3, rv, q3⟩ := I2.after hz
    exact ⟨v, H', I3, rv, q3⟩
  | .ok .next, hz => exact hz.elim
  | .ok .brk, hz => exact hz.elim
  | .ok .cont, hz => exact hz.elim
end
section
variable {S : Addr → Prop} {sp : Sp} {E : L2.St → XK} {Ex : XK} {tf : TE} {t : TA} {σ : L2.St} {H : Hp} {Q : VK} {a C dx : Addr} {fs : List (Str × V)} {vs : List V}
theorem r_callF (q : tf σ H (kCallX S sp (E σ) t σ Q)) : tCallF S sp E tf t σ H Q := q
theorem r_kCallX (q : t σ H (kCallF S sp Ex a Q)) : kCallX S sp Ex t σ Q (.ref a) H := ⟨a, rfl, q⟩
theorem r_kCallF (hS : S C) (e : H a = some (.ins C dx fs)) (q : sp (.ref a :: vs) H Q Ex) : kCallF S sp Ex a Q vs H := ⟨⟨C, dx, fs, hS, e⟩, q⟩
end
/-! ### a, b = super().m(..) -/
theorem wpAt_Assign_stores {prog : Program} {w : World} {A : Around} {c : Code} {E : Value → Shared → Prop} {s : Shared} {env : Env} {targets : List Expr} {value : Expr} {pos : Pos} {Q : Flow → Shared → Prop}
    (h : _root_.PySem.wpAt (model prog w) A c (eval value env) (fun v s₁ => wpAny (model prog w) A (assignAll v ((assignEach targets env).map (·.2))) (fun _ => Q .next) E s₁) E s)
    (hs : swapsWithSole targets value pos.line env = pure false) (hw : swappedStores targets value env = pure none) : _root_.PySem.wpAt (model prog w) A c (exec (.Assign targets value pos) env) Q E s := by
  rw [exec_Assign_arm]
  refine _root_.PySem.wpAt_bind (_root_.PySem.wpAt_of_wpAny (wpAny_standAt ?_))
  rw [hs]
  refine _root_.PySem.wpAt_bind (_root_.PySem.wpAt_of_wpAny (wpAny_pure ?_))
  rw [if_neg (by decide)]
  refine _root_.PySem.wpAt_bind (_root_.PySem.ks_wpAt_mono h (fun v s₁ h₁ => _root_.PySem.wpAt_of_wpAny ?_) fun _ _ x => x)
  rw [hw]
  refine wpAny_bind (wpAny_pure ?_)
  show wpAny _ A (do assignAll v ((assignEach targets env).map (·.2)); pure .next) Q E s₁
  exact wpAny_bind (wpAny_mono h₁ (fun _ _ x => wpAny_pure x) fun _ _ x => x)
section
variable {X : Cx} {c : Code} {rest : List Stmt} {u : TS} {e tg : Expr} {te : TE} {g : TG} {pos : Pos}
theorem qs_asg (a : PEat X c e te) (hg : PG X tg g) (b : QS X c rest u) (hs : swapsWithSole [tg] e pos.line X.env = pure false := by rfl) (hw : swappedStores [tg] e X.env = pure none := by rfl)
    (h1 : (assignEach [tg] X.env).map (·.2) = [assign tg X.env] := by rfl) : QS X c (.Assign [tg] e pos :: rest) (tSeq (tAsg te g) u) := by
  constructor
  intro pins s σ H D I h
  refine _root_.PySem.ks_wpAt_execs_cons (wpAt_Assign_stores (_root_.PySem.ks_wpAt_mono (a.run pins s σ H _ I h) (fun v s1 w => ?_) fun _ _ z => z) hs hw)
  obtain ⟨x, H1, I1, r1, q1⟩ := w
  rw [h1]
  exact thn (hg.run pins s1 σ H1 x v _ I1 r1 q1) fun _ s2 ⟨σ', H', I', w'⟩ => b.run pins s2 σ' H' D I' w'
end
/-! ### what a def f(self, a, *v, **d) binds -/
theorem bind_starkw2 {B : List Value → Sem (List (Str × Value))} {p1 p2 pv pd : Str} (h0 : ∀ a b, B [a, b] = (newTuple [] >>= fun t => (alloc ({ cls := .type "dict", data := .dict #[] } : Obj) : Sem Addr) >>= fun d => pure [(p1, a), (p2, b), (pv, t), (pd, Value.ref d)]))
    (h1 : ∀ a b r rs, B (a :: b :: r :: rs) = (newTuple (r :: rs) >>= fun t => (alloc ({ cls := .type "dict", data := .dict #[] } : Obj) : Sem Addr) >>= fun d => pure [(p1, a), (p2, b), (pv, t), (pd, Value.ref d)])) :
    ∀ us rest : List Value, us.length = [p1, p2].length → B (us ++ rest) = (newTuple rest >>= fun t => (alloc ({ cls := .type "dict", data := .dict #[] } : Obj) : Sem Addr) >>= fun d => pure ([p1, p2].zip us ++ [(pv, t), (pd, Value.ref d)]))
  | [a, b], [], _ => h0 a b
  | [a, b], r :: rs, _ => h1 a b r rs
/-! ### X(e, *y), X an own class -/
section
variable {X : Cx} {CX : CXT} {k : Nat} {f C : Addr} {sp : Sp} {E : XK} {x : Str} {e : Expr} {es : List Expr} {t : TA} {p pos : Pos}
theorem pe_makeRS (M : Mk X.K C f) (F : FnR X.prog X.w X.K X.mg X.base CX k f sp) (hr : Room (k + 1) X.A) (hg : Gl X x) (hm : X.mg x = some (.ref C)) (hx : Passes CX X E) (ha : PA X (e :: es) t) (hdb : (x == ("__debug__" : Str)) = false := by decide)
    (he : starEach (e :: es) X.env = (false, eval e X.env) :: starEach es X.env := by rfl) (hst : (backTo pos (starEach es X.env)).any (·.1) = true := by rfl) : PE X (.Call (.Name x p) (e :: es) [] pos) (tMakeR C sp E t) := by
  refine ⟨fun pins s σ H Q I h => ?_⟩
  refine wpAny_Call_Name_kw (ld_glob I hg hm ?_ hdb)
  refine PySem.W.callWith_S2 (h₀ := X.base) I.ok.mod.kin M.kp (thn (ha.run pos pins s σ H _ I h) fun us s1 ⟨vs, H1, I1, r, q⟩ => ⟨I1.kIn, ?_⟩) he hst
  exact run_makeR M F hr hx I1 r q
end
section
variable {K : PySem.W.Frag} {te : TE} {t : TA} {σ : L2.St} {H : Hp} {QA : List V → Hp → Prop} {p : Addr} {xs : List V}
def kStar (K : PySem.W.Frag) (t : TA) (σ : L2.St) (QA : List V → Hp → Prop) : VK := fun x H1 => ∃ p xs, x = V.ref p ∧ (SqT K H1 p xs ∨ SqL K H1 p xs) ∧ t σ H1 fun ys H2 => QA (xs ++ ys) H2
theorem r_star (q : te σ H (kStar K t σ QA)) : tStar K te t σ H QA := q
theorem r_kStarT (h : SqT K H p xs) (q : t σ H fun ys H2 => QA (xs ++ ys) H2) : kStar K t σ QA (.ref p) H := ⟨p, xs, rfl, .inl h, q⟩
theorem r_kStarL (h : SqL K H p xs) (q : t σ H fun ys H2 => QA (xs ++ ys) H2) : kStar K t σ QA (.ref p) H := ⟨p, xs, rfl, .inr h, q⟩
end
end Rd

set_option maxHeartbeats 4000000
/-! MethX: methods of objects of a family of classes, which may raise. -/
namespace Rd
open PySem PySem.Spec L2 PyProof.Rows
def kMethX (S : Addr → Prop) (m : Str) (sp : Sp) (E : XK) (t : TA) (σ : L2.St) (Q : VK) : VK := fun x H1 => ∃ a C dx fs, x = .ref a ∧ S C ∧ H1 a = some (.ins C dx fs) ∧ fs.lookup m = none ∧ t σ H1 fun vs H2 => sp (x :: vs) H2 Q E
def tMethX (S : Addr → Prop) (m : Str) (sp : Sp) (E : L2.St → XK) (ta : TE) (t : TA) : TE := fun σ H Q => ta σ H (kMethX S m sp (E σ) t σ Q)
/-- one def for all classes of the family; it may raise -/
def UseMX (P : Program) (w : World) (K : PySem.W.Frag) (mg : Str → Option Value) (base : Heap) (n : Nat) (S : Addr → Prop) (m : Str) (sp : Sp) : Prop := ∃ f, FnR P w K mg base (L2.CX P w) n f sp ∧ ∀ C, S C → Meth K C m f
section
variable {X : Cx} {k : Nat} {S : Addr → Prop} {m : Str} {sp : Sp} {f : Addr} {E : L2.St → XK} {o e : Expr} {es : List Expr} {ta : TE} {t : TA} {apos pos : Pos} {pl : Sem Bool}
theorem run_fnX {pins : List (Addr × Obj)} {σ : L2.St} {H : Hp} {s : Shared} {Q : VK} {us : List Value} {vs : List V} (F : FnR X.prog X.w X.K X.mg X.base (L2.CX X.prog X.w) k f sp) (hr : Room k X.A) (hx : ∀ σ, PassesAt (L2.CX X.prog X.w) X σ (E σ)) (I : Inv X pins σ H s) (r : Vals vs us) (q : sp vs H Q (E σ)) :
    wpAny (model X.prog X.w) X.A (call (.ref f) us) (EP X pins σ Q) X.xe s := by
  refine wpAny_call (codeAny_mono (F X.A X.stack s H us vs Q (E σ) hr I.env0 r q) fun z s' hz => ?_)
  match z, hz with
  | .error u, hz => exact hx σ pins _ _ u s' I hz
  | .ok (.ret u), hz =>
    obtain ⟨v, H', I3, rv, q3⟩ := I.after hz
    exact ⟨v, H', I3, rv, q3⟩
  | .ok .next, hz => exact hz.elim
  | .ok .brk, hz => exact hz.elim
  | .ok .cont, hz => exact hz.elim
theorem pe_methX (he : PE X o ta) (hc : ∀ C, S C → Cls X.K C) (hm : ∀ C, S C → Meth X.K C m f) (F : FnR X.prog X.w X.K X.mg X.base (L2.CX X.prog X.w) k f sp) (hr : Room k X.A) (hx : ∀ σ, PassesAt (L2.CX X.prog X.w) X σ (E σ)) (ha : PA X (e :: es) t)
    (hst : starEach (e :: es) X.env = (false, eval e X.env) :: starEach es X.env := by rfl) (hpl : (backTo pos (starEach es X.env)).any (·.1) = false := by rfl)
    (ht : eval (.Call (.Attribute o m apos) (e :: es) [] pos) X.env = (do
      let ov ← eval o X.env
      standAt apos.atName
      let (f, first) ← holding [ov] (getMethod ov m pl)
      callWith pos f first (backTo pos (starEach (e :: es) X.env)) (backToKw pos (keywordEach [] X.env))) := by rfl) :
    PE X (.Call (.Attribute o m apos) (e :: es) [] pos) (tMethX S m sp E ta t) := by
  refine ⟨fun pins s σ H Q I h => ?_⟩
  refine PySem.W.methodCall_KW (pl := pl) (thn (he.run pins s σ H _ I h) fun u s1 ⟨x, H1, I1, rx, a, C, dx, fs, ex, hS, ea, l, q⟩ => ?_) ht
  subst ex
  obtain rfl : u = Value.ref a := rx
  have hm' := hm C hS
  refine getmeth_ok I1 ea (hc C hS) hm' l ?_
  refine PySem.W.callWith_K (first := [.ref a]) (h₀ := X.base) I.ok.mod.kin hm'.kp (thn (ha.run pos pins s1 σ H1 _ I1 q) fun us s2 ⟨vs, H2, I2, r, q2⟩ => ⟨I2.kIn, ?_⟩) hst hpl
  exact run_fnX (us := .ref a :: us) (vs := .ref a :: vs) F hr hx I2 (.cons rfl r) q2
theorem pe_methX0 (he : PE X o ta) (hc : ∀ C, S C → Cls X.K C) (hm : ∀ C, S C → Meth X.K C m f) (F : FnR X.prog X.w X.K X.mg X.base (L2.CX X.prog X.w) k f sp) (hr : Room k X.A) (hx : ∀ σ, PassesAt (L2.CX X.prog X.w) X σ (E σ))
    (ht : eval (.Call (.Attribute o m apos) [] [] pos) X.env = (do
      let ov ← eval o X.env
      standAt apos.atName
      let (f, first) ← holding [ov] (getMethod ov m pl)
      callWith pos f first (backTo pos (starEach [] X.env)) (backToKw pos (keywordEach [] X.env))) := by rfl) :
    PE X (.Call (.Attribute o m apos) [] [] pos) (tMethX S m sp E ta tNil) := by
  refine ⟨fun pins s σ H Q I h => ?_⟩
  refine PySem.W.methodCall_KW (pl := pl) (thn (he.run pins s σ H _ I h) fun u s1 ⟨x, H1, I1, rx, a, C, dx, fs, ex, hS, ea, l, q⟩ => ?_) ht
  subst ex
  obtain rfl : u = Value.ref a := rx
  have hm' := hm C hS
  refine getmeth_ok I1 ea (hc C hS) hm' l ?_
  refine PySem.W.callWith_K0 (first := [.ref a]) I1.kIn hm'.kp ?_
  exact run_fnX (us := [.ref a]) (vs := [.ref a]) F hr hx I1 (.cons rfl .nil) q
end
section
variable {S : Addr → Prop} {m : Str} {sp : Sp} {E : L2.St → XK} {Ex : XK} {ta : TE} {t : TA} {σ : L2.St} {H : Hp} {Q : VK} {a C dx : Addr} {fs : List (Str × V)}
theorem r_methX (q : ta σ H (kMethX S m sp (E σ) t σ Q)) : tMethX S m sp E ta t σ H Q := q
theorem r_kMethX (hS : S C) (e : H a = some (.ins C dx fs)) (l : fs.lookup m = none) (q : t σ H fun vs H2 => sp (.ref a :: vs) H2 Q Ex) : kMethX S m sp Ex t σ Q (.ref a) H := ⟨a, C, dx, fs, rfl, hS, e, l, q⟩
end
end Rd

set_option maxHeartbeats 4000000
/-! AugD: i += j of numbers, del xs[0], items of a dict of the module. -/
namespace Rd
open PySem PySem.Spec L2 PyProof.Rows
section
variable {X : Cx} {σ : L2.St} {H : Hp} {nx bk ct : L2.St → Hp → Prop} {rt : VK}
/-! ### i += j -/
def kAugI (i : Nat) (f : Int → Int → Int) (x : V) (nx : L2.St → Hp → Prop) (σ : L2.St) : VK := fun y H1 => ipI f x y H1 fun z H2 => nx (σ.set i (some z)) H2
theorem r_aug {i : Nat} {te : TE} {f : Int → Int → Int} {x : V} (h : σ[i]? = some (some x)) (q : te σ H (kAugI i f x nx σ)) : tAug i te (ipI f) ⟨nx, rt, bk, ct⟩ σ H := ⟨x, h, q⟩
theorem r_kAugI {i : Nat} {f : Int → Int → Int} {m n : Int} (q : nx (σ.set i (some (.int (f m n)))) H) : kAugI i f (.int m) nx σ (.int n) H := ⟨m, n, rfl, rfl, q⟩
/-! ### del xs[0] -/
def kDel (nx : L2.St → Hp → Prop) (σ : L2.St) : V → V → Hp → Prop := fun x y H2 => ∃ (l : Addr) (xs : List V) (i : Int) (k : Nat), x = .ref l ∧ y = .int i ∧ H2 l = some (.lst xs) ∧ -(2 ^ 63) ≤ i ∧ i < 2 ^ 63 ∧ seqIndex? i xs.length = some k ∧ nx σ (upd H2 l (.lst (xs.eraseIdx k)))
theorem r_delL {to ti : TE} (q : to σ H fun x H1 => ti σ H1 fun y H2 => kDel nx σ x y H2) : tDelL to ti ⟨nx, rt, bk, ct⟩ σ H := q
theorem r_kDel0 {l : Addr} {x : V} {xs : List V} (e : H l = some (.lst (x :: xs))) (q : ∀ H', Kp [l] H H' → H' l = some (.lst xs) → nx σ H') : kDel nx σ (.ref l) (.int 0) H := by
  refine ⟨l, x :: xs, 0, 0, rfl, rfl, e, by decide, by decide, ?_, q _ (Kp.put (by simp)) upd_same⟩
  unfold seqIndex?
  simp
end
/-! ### d[k], d a dict of the module -/
def rIxDK (K : PySem.W.Frag) (w : World) : R2 := fun x y H Q => ∃ p z v, x = .ref p ∧ y = .str z ∧ KDct K w p z v ∧ Q v H
theorem K_ixDK {X : Cx} {K : PySem.W.Frag} {w : World} (hK : X.K = K) (hw : X.w = w) : IxR X (rIxDK K w) := by
  subst hK
  subst hw
  exact ix_kdict
theorem r_ixDK {K : PySem.W.Frag} {w : World} {H : Hp} {Q : VK} {p : Addr} {z : Str} {v : V} (h : KDct K w p z v) (q : Q v H) : rIxDK K w (.ref p) (.str z) H Q := ⟨p, z, v, rfl, rfl, h, q⟩
theorem kdct_of {K : PySem.W.Frag} {w : World} {a : Addr} {ks : List Str} {x : Str} {v : Int} {t : Tok} (h : He.dicW K a = some (He.keysIn w.params ks)) (e : PySem.W.nsIn K a x = some (some (.int v t))) : KDct K w a x (.int v) := by
  obtain ⟨es, n, D⟩ := He.dicW_ok h
  exact ⟨es, n, _, D.at_, D.lit, e, ⟨t, rfl⟩⟩
end Rd

set_option maxHeartbeats 4000000
/-! CntS: xs.count(k) of texts, of numbers. -/
namespace Rd
open PySem PySem.Spec PyProof.Rows L2
def eqz (k : Str) (v : Value) : Bool := match v with
  | .str n _ => n == k
  | _ => false
theorem eqz_gives {k : Str} {t : Tok} : ∀ {us : List Value} {ns : List Str}, Vals (ns.map V.str) us → ∀ y ∈ us, MeetsSeq.EqGives y (.str k t) (eqz k y)
  | [], _, _ => fun y hy => by cases hy
  | u :: us, n :: ns, .cons r h => fun y hy => by
    obtain ⟨t', rfl⟩ := r
    rcases List.mem_cons.mp hy with e | e
    · rw [e]
      have z := PySem.SeqRoads2.EqGives.str n k t' t
      show MeetsSeq.EqGives (.str n t') (.str k t) (n == k)
      rw [show (n == k) = (n.cps.toList == k.cps.toList) from by
        by_cases c : n = k
        · rw [c, beq_self_eq_true, beq_self_eq_true]
        · rw [beq_eq_false_iff_ne.mpr c, Eq.comm, beq_eq_false_iff_ne]
          intro e
          apply c
          obtain ⟨u⟩ := n
          obtain ⟨v⟩ := k
          have e : u.toList = v.toList := e
          rw [Array.toList_inj.mp e]]
      exact z
    · exact eqz_gives (ns := ns) h y e
theorem eqz_count {k : Str} : ∀ {us : List Value} {ns : List Str}, Vals (ns.map V.str) us → us.countP (eqz k) = ns.count k
  | [], [], _ => rfl
  | [], _ :: _, h => nomatch h
  | _ :: _, [], h => nomatch h
  | u :: us, n :: ns, .cons r h => by
    obtain ⟨t', rfl⟩ := r
    have ih := eqz_count (k := k) (ns := ns) h
    rw [List.countP_cons, List.count_cons, ih] <;> rfl
def rCntS (K : PySem.W.Frag) : V → List V → Hp → VK → Prop := fun x xs H Q => ∃ (p : Addr) (ns : List Str) (k : Str), x = .ref p ∧ xs = [.str k] ∧ SqL K H p (ns.map V.str) ∧ Q (.int (ns.count k : Nat)) H
theorem mt_lcountS {X : Cx} : MtR X "list.count" (rCntS X.K) := by
  intro pins s σ H x xs v us Q I rx rxs h
  obtain ⟨p, ns, k, rfl, rfl, hs, q⟩ := h
  cases rx
  obtain ⟨u, rfl, ru⟩ := rxs.one
  obtain ⟨t, rfl⟩ := ru
  obtain ⟨its, rv, ⟨⟨cls, dd, data, sl⟩, n, ho, hc, hdn, hd⟩, hlen⟩ := I.list hs
  simp only at hc hd
  subst hc hd
  refine call_meets PySem.F.slot_list_count ⟨_, ho, rfl⟩ PySem.F.entry_list_count (PySem.F.args_list_count_2 _ _)
    (SeqAt.list_countAt p its.toArray n dd sl (.str k t) (eqz k)) ⟨ho, fun y hy => (eqz_gives rv y (by simpa using hy)).at _ _, ?_⟩
  have ec : its.toArray.toList.countP (eqz k) = ns.count k := eqz_count rv
  refine ⟨.int (ns.count k : Nat), H, I.tok _, ⟨s.toks, ?_⟩, q⟩
  show Value.int ((its.toArray.toList.countP (eqz k) : Nat) : Int) s.toks = Value.int ((ns.count k : Nat) : Int) s.toks
  rw [ec]
/-- either -/
def rCntA (K : PySem.W.Frag) : V → List V → Hp → VK → Prop := fun x xs H Q => rCntI K x xs H Q ∨ rCntS K x xs H Q
theorem K_count {X : Cx} {K : PySem.W.Frag} (hK : X.K = K) : MtR X "list.count" (rCntA K) := by
  subst hK
  intro pins s σ H x xs v us Q I rx rxs h
  rcases h with h | h
  · exact mt_lcount pins s σ H x xs v us Q I rx rxs h
  · exact mt_lcountS pins s σ H x xs v us Q I rx rxs h
theorem r_cntI {K : PySem.W.Frag} {H : Hp} {Q : VK} {p : Addr} {ns : List Int} {k : Int} (h : SqL K H p (ns.map V.int)) (q : Q (.int (ns.count k : Nat)) H) : rCntA K (.ref p) [.int k] H Q := .inl ⟨p, ns, k, rfl, rfl, h, q⟩
theorem r_cntS {K : PySem.W.Frag} {H : Hp} {Q : VK} {p : Addr} {ns : List Str} {k : Str} (h : SqL K H p (ns.map V.str)) (q : Q (.int (ns.count k : Nat)) H) : rCntA K (.ref p) [.str k] H Q := .inr ⟨p, ns, k, rfl, rfl, h, q⟩
theorem r_setK {P : Program} {K : PySem.W.Frag} {w : World} {H : Hp} {Q : VK} {l : Addr} {ks : List Key} (h : SqL K H l (ks.map kV)) (hl : ks.length ≤ 3000) (q : ∀ p H', H p = none → Kp [] H H' → H' p = some (SetK P w p (fun j => decide (j ∈ disK (valK ks) ks.length)) (disK (valK ks) ks.length).length) → Q (.ref p) H') : cSetK P K w [.ref l] H Q :=
  ⟨l, ks, rfl, h, hl, fun p n => q p _ n (Kp.new n) upd_same⟩
theorem r_lenSetK {P : Program} {w : World} {H : Hp} {Q : VK} {a : Addr} {S : Key → Bool} {n : Nat} (e : H a = some (SetK P w a S n)) (hn : n ≤ 1000000) (q : Q (.int (n : Nat)) H) : rLenSetK P w [.ref a] H Q := ⟨a, S, n, rfl, e, hn, q⟩
end Rd

set_option maxHeartbeats 4000000
/-! Mx: tuples of a number and then numbers or texts, as the number says: sorted lists of them, sorted dicts with such keys. -/
namespace Rd
open PySem PySem.Spec L2 StX PyProof.Rows
open PySem.W (EachIs SortsAt sortVals sortVals_each sortLe sortVals_length KatLex kat_nil kat_cons kat_yes kat_no kat_go kat_lt kat_kind KatTups)
abbrev Tk := Int ⊕ List Nat
def tkOf : Key → Tk
  | .inl n => .inl n
  | .inr x => .inr x.cps.toList
def goodT : List Tk → Bool
  | .inl n :: r => if n < 3 then r.all Sum.isLeft else r.all Sum.isRight
  | _ => false
def itv : Value → Option Tk
  | .int n _ => some (.inl n)
  | .str x _ => some (.inr x.cps.toList)
  | _ => none
def itvs : List Value → Option (List Tk)
  | [] => some []
  | v :: r => (itv v).bind fun a => (itvs r).map (a :: ·)
theorem itvs_cons {v : Value} {r : List Value} {l : List Tk} (h : itvs (v :: r) = some l) : ∃ a l', itv v = some a ∧ itvs r = some l' ∧ l = a :: l' := by
  have h' : ((itv v).bind fun a => (itvs r).map (a :: ·)) = some l := h
  cases e : itv v with
  | none =>
    rw [e] at h'
    cases h'
  | some a =>
    rw [e] at h'
    cases e2 : itvs r with
    | none =>
      rw [e2] at h'
      cases h'
    | some l' =>
      rw [e2] at h'
      exact ⟨a, l', rfl, rfl, (Option.some.inj h').symm⟩
theorem itv_shape {v : Value} {a : Tk} (h : itv v = some a) : (∃ n t, v = .int n t ∧ a = .inl n) ∨ ∃ x t, v = .str x t ∧ a = .inr x.cps.toList := by
  cases v with
  | int n t => exact .inl ⟨n, t, rfl, (Option.some.inj h).symm⟩
  | str x t => exact .inr ⟨x, t, rfl, (Option.some.inj h).symm⟩
  | _ => cases h
def mxKey (h : Heap) : Value → Option (List Tk)
  | .ref a => match h.get? a with
    | some o => match o.data with
      | .seq xs _ => match itvs xs.toList with
        | some l => if goodT l = true then some l else none
        | none => none
      | _ => none
    | none => none
  | _ => none
@[reducible] def mxKind (h : Heap) : PyProof.Rows.KeyKind where
  toKeyOrd := listOrd itemOrd
  keyOf := mxKey h
  dflt := []
theorem mxKey_some {h : Heap} {v : Value} {l : List Tk} (hv : mxKey h v = some l) : ∃ a o xs n, v = .ref a ∧ h.get? a = some o ∧ o.data = .seq xs n ∧ itvs xs.toList = some l ∧ goodT l = true := by
  cases v with
  | ref a =>
    simp only [mxKey] at hv
    cases ho : h.get? a with
    | none => rw [ho] at hv; cases hv
    | some o =>
      rw [ho] at hv
      cases hd : o.data with
      | seq xs n =>
        simp only [hd] at hv
        cases hi : itvs xs.toList with
        | none => rw [hi] at hv; cases hv
        | some l' =>
          rw [hi] at hv
          dsimp only at hv
          by_cases g : goodT l' = true
          · rw [if_pos g] at hv
            cases hv
            exact ⟨a, o, xs, n, rfl, ho, hd, hi, g⟩
          · rw [if_neg g] at hv
            cases hv
      | _ => simp [hd] at hv
  | _ => simp [mxKey] at hv
theorem mxKey_at {h : Heap} {a : Addr} {o : Obj} {xs : Array Value} {n : Nat} {l : List Tk} (ho : h.get? a = some o) (hd : o.data = .seq xs n) (hi : itvs xs.toList = some l) (g : goodT l = true) : mxKey h (.ref a) = some l := by
  simp only [mxKey, ho, hd, hi, g, if_true]
def Cmp : List Tk → List Tk → Prop
  | x :: r, y :: t => x.isLeft = y.isLeft ∧ (x = y → Cmp r t)
  | _, _ => True
theorem cmp_of (b : Bool) : ∀ {l m : List Tk}, (∀ x ∈ l, x.isLeft = b) → (∀ x ∈ m, x.isLeft = b) → Cmp l m
  | [], _, _, _ => True.intro
  | _ :: _, [], _, _ => True.intro
  | x :: r, y :: t, h, g => ⟨(h x List.mem_cons_self).trans (g y List.mem_cons_self).symm, fun _ => cmp_of b (fun z m => h z (List.mem_cons_of_mem _ m)) fun z m => g z (List.mem_cons_of_mem _ m)⟩
theorem right_left {x : Tk} (h : x.isRight = true) : x.isLeft = false := by cases x <;> first | rfl | cases h
theorem good_cmp : ∀ {l m : List Tk}, goodT l = true → goodT m = true → Cmp l m
  | .inl n :: r, .inl k :: t, h, g => ⟨rfl, fun e => by
    have e : n = k := Sum.inl.inj e
    subst e
    have h : (if n < 3 then r.all Sum.isLeft else r.all Sum.isRight) = true := h
    have g : (if n < 3 then t.all Sum.isLeft else t.all Sum.isRight) = true := g
    by_cases c : n < 3
    · rw [if_pos c] at h g
      exact cmp_of true (fun x m => List.all_eq_true.mp h x m) fun x m => List.all_eq_true.mp g x m
    · rw [if_neg c] at h g
      exact cmp_of false (fun x m => right_left (List.all_eq_true.mp h x m)) fun x m => right_left (List.all_eq_true.mp g x m)⟩
  | [], _, h, _ => by cases h
  | .inr _ :: _, _, h, _ => by cases h
  | .inl _ :: _, [], _, h => by cases h
  | .inl _ :: _, .inr _ :: _, _, h => by cases h
section
variable {prog : Program} {w : World} {A : Around} {E : Value → Shared → Prop} {s : Shared}
theorem mx_lex {b fin : Bool} {Q : Bool → Shared → Prop} : ∀ (ps qs : List Value) (i : Nat) (as bs : List Tk),
    itvs ps = some as → itvs qs = some bs → Cmp as bs → fin = decide (ps.length < qs.length) → Q (lexLt itemOrd as bs) s → KatLex prog w A b fin Q (ps.zip qs) i s
  | [], [], i, as, bs, ha, hb, _, hf, h => by
    have ea : [] = as := Option.some.inj ha
    have eb : [] = bs := Option.some.inj hb
    subst ea; subst eb
    have e : fin = false := by rw [hf]; rfl
    subst e
    exact kat_nil h
  | [], q :: qs, i, as, bs, ha, hb, _, hf, h => by
    have ea : [] = as := Option.some.inj ha
    obtain ⟨x, l', _, _, eb⟩ := itvs_cons hb
    subst ea; subst eb
    have e : fin = true := by rw [hf]; exact decide_eq_true (Nat.succ_pos _)
    subst e
    exact kat_nil h
  | p :: ps, [], i, as, bs, ha, hb, _, hf, h => by
    have eb : [] = bs := Option.some.inj hb
    obtain ⟨x, l', _, _, ea⟩ := itvs_cons ha
    subst ea; subst eb
    have e : fin = false := by rw [hf]; exact decide_eq_false (Nat.not_lt_zero _)
    subst e
    exact kat_nil h
  | p :: ps, q :: qs, i, as, bs, ha, hb, hc, hf, h => by
    have hf' : fin = decide (ps.length < qs.length) := by
      rw [hf]; simp only [List.length_cons, Nat.add_lt_add_iff_right]
    obtain ⟨x, as', hx, ha', rfl⟩ := itvs_cons ha
    obtain ⟨y, bs', hy, hb', rfl⟩ := itvs_cons hb
    obtain ⟨hs, hc'⟩ := hc
    rcases itv_shape hx with ⟨n, t, rfl, rfl⟩ | ⟨u, t, rfl, rfl⟩
    · rcases itv_shape hy with ⟨m, t', rfl, rfl⟩ | ⟨v, t', rfl, rfl⟩
      · refine kat_cons (wpAny_eqBool_int (kat_go (fun e => kat_yes ?_) fun e => kat_no ?_))
        · have hnm : n = m := by simpa using e
          subst hnm
          rw [lex_self] at h
          exact mx_lex ps qs (i + 1) as' bs' ha' hb' (hc' rfl) hf' h
        · have hnm : ¬ n = m := by simpa using e
          rw [lex_diff (fun z => hnm (Sum.inl.inj z))] at h
          exact oneLt_any_int h
      · cases hs
    · rcases itv_shape hy with ⟨m, t', rfl, rfl⟩ | ⟨v, t', rfl, rfl⟩
      · cases hs
      · refine kat_cons (wpAny_eqBool_str (kat_go (fun e => kat_yes ?_) fun e => kat_no ?_))
        · have huv : u = v := of_decide_eq_true e
          subst huv
          rw [lex_self] at h
          exact mx_lex ps qs (i + 1) as' bs' ha' hb' (hc' rfl) hf' h
        · have huv : ¬ u = v := of_decide_eq_false e
          have hne : u.cps.toList ≠ v.cps.toList := fun hl => huv (PySem.W.str_of_cps hl)
          rw [lex_diff (fun z => hne (Sum.inr.inj z))] at h
          exact oneLt_any_str h
theorem mx_ltAt : PyProof.Rows.H.LtAt prog w A s (mxKind s.heap) (tuples' true) := by
  intro E x y as bs Q hx hy h
  obtain ⟨a₁, o₁, xs, n, rfl, ho₁, hd₁, hi₁, g₁⟩ := mxKey_some hx
  obtain ⟨a₂, o₂, ys, k, rfl, ho₂, hd₂, hi₂, g₂⟩ := mxKey_some hy
  exact kat_lt ho₁ hd₁ ho₂ hd₂ (mx_lex xs.toList ys.toList 0 as bs hi₁ hi₂ (good_cmp g₁ g₂) (by rw [Array.length_toList, Array.length_toList]) h)
/-- a value is a tuple with these items -/
def MxAt (h : Heap) (v : Value) (l : List Tk) : Prop := ∃ a o xs n, v = .ref a ∧ h.get? a = some o ∧ o.cls = .type "tuple" ∧ o.data = .seq xs n ∧ itvs xs.toList = some l
theorem MxAt.key {h : Heap} {v : Value} {l : List Tk} (m : MxAt h v l) (g : goodT l = true) : (mxKind h).keyOf v = some l := by
  obtain ⟨a, o, xs, n, rfl, ho, _, hd, hi⟩ := m
  exact mxKey_at ho hd hi g
theorem MxAt.keeps {h h' : Heap} {v : Value} {l : List Tk} (m : MxAt h v l) (k : ∀ b o, o.cls = .type "tuple" → h.get? b = some o → h'.get? b = some o) : MxAt h' v l := by
  obtain ⟨a, o, xs, n, rfl, ho, hc, hd, hi⟩ := m
  exact ⟨a, o, xs, n, rfl, k a o hc ho, hc, hd, hi⟩
theorem mx_tups {h : Heap} : ∀ {vs : List Value} {ls : List (List Tk)}, EachIs (MxAt h) vs ls → (∀ l ∈ ls, goodT l = true) → ∃ fs, KatTups h vs fs ∧ fs.length = vs.length ∧ ∀ f ∈ fs, ∃ n t, f = Value.int n t
  | _, _, .nil, _ => ⟨[], KatTups.nil, rfl, fun f m => nomatch m⟩
  | _, _, .cons (b := l) ⟨a, o, xs, n, ev, ho, hc, hd, hi⟩ t, hg => by
    obtain ⟨fs, h1, h2, h3⟩ := mx_tups t fun l m => hg l (List.mem_cons_of_mem _ m)
    have g := hg l List.mem_cons_self
    cases hx : xs.toList with
    | nil =>
      rw [hx] at hi
      cases hi
      cases g
    | cons f fr =>
      rw [hx] at hi
      obtain ⟨x, l', hf, _, rfl⟩ := itvs_cons hi
      have e0 : xs[0]? = some f := by rw [← Array.getElem?_toList, hx]; rfl
      rcases itv_shape hf with ⟨m, t', rfl, rfl⟩ | ⟨u, t', rfl, rfl⟩
      · refine ⟨Value.int m t' :: fs, ?_, by rw [List.length_cons, List.length_cons, h2], fun f hm => ?_⟩
        · rw [ev]
          exact KatTups.cons ho hc hd e0 h1
        · rcases List.mem_cons.mp hm with rfl | hm
          · exact ⟨m, t', rfl⟩
          · exact h3 f hm
      · cases g
theorem sorts_mx {vs : List Value} {ls : List (List Tk)} (e : EachIs (MxAt s.heap) vs ls) (hg : ∀ l ∈ ls, goodT l = true) : SortsAt prog w A s (mxKind s.heap) vs := by
  refine ⟨fun v hv => ?_, tuples' true, mx_ltAt, fun h2 E Q hq => ?_⟩
  · obtain ⟨l, hl, m⟩ := e.left v hv
    exact ⟨l, m.key (hg l hl)⟩
  · obtain ⟨fs, t1, t2, t3⟩ := mx_tups e hg
    have e' : (Value.type "int" != Value.type "tuple") = true := by first | rfl | decide
    refine kat_kind (T := Value.type "int") t1 (by omega) (fun v hv => ?_) rfl (by rw [e']; exact hq)
    obtain ⟨k, t, rfl⟩ := t3 v hv
    exact PySem.W.Looks.of_pure rfl
end
/-! ### the calls -/
def toks (k : List Key) : List Tk := k.map tkOf
def goodK (k : List Key) : Bool := goodT (toks k)
def mxLe {β : Type} (f : β → List Key) (a b : β) : Bool := sortLe (listOrd itemOrd) false (fun z => toks (f z)) a b
def srtK (ks : List (List Key)) : List (List Key) := ks.mergeSort (mxLe id)
theorem srtK_perm (ks : List (List Key)) : (srtK ks).Perm ks := List.mergeSort_perm _ _
theorem srtK_maps {β : Type} (f : β → List Key) (l : List β) : (l.mergeSort (mxLe f)).map f = srtK (l.map f) :=
  PySem.W.sort_maps (r := mxLe f) (s := mxLe id) f (l := l) (fun _ _ _ _ => rfl)
theorem vals_itvs : ∀ {ks : List Key} {us : List Value}, Vals (ks.map kV) us → itvs us = some (toks ks)
  | [], _, h => by
    cases h
    rfl
  | k :: ks, _, h => by
    cases h with
    | cons r t =>
      have ih := vals_itvs t
      cases k with
      | inl n =>
        obtain ⟨t', rfl⟩ := r
        show ((itv (Value.int n t')).bind fun a => (itvs _).map (a :: ·)) = _
        rw [ih]
        rfl
      | inr x =>
        obtain ⟨t', rfl⟩ := r
        show ((itv (Value.str x t')).bind fun a => (itvs _).map (a :: ·)) = _
        rw [ih]
        rfl
theorem each_ofv {β : Type} {f : β → Addr} {R : Value → β → Prop} : ∀ {zs : List β} {us : List Value}, Vals (zs.map fun z => V.ref (f z)) us → (∀ z ∈ zs, R (.ref (f z)) z) → EachIs R us zs
  | [], _, h, _ => by
    cases h
    exact .nil
  | z :: zs, _, h, g => by
    cases h with
    | cons r t =>
      cases r
      exact .cons (g z List.mem_cons_self) (each_ofv t fun b m => g b (List.mem_cons_of_mem _ m))
theorem each_maps2 {β γ : Type} {f : β → γ} {R : Value → γ → Prop} : ∀ {zs : List β} {us : List Value}, EachIs (fun u z => R u (f z)) us zs → EachIs R us (zs.map f)
  | _, _, .nil => .nil
  | _, _, .cons h t => .cons h (each_maps2 t)
theorem vals_ofe {β : Type} {f : β → Addr} : ∀ {zs : List β} {us : List Value}, EachIs (fun u z => u = Value.ref (f z)) us zs → Vals (zs.map fun z => V.ref (f z)) us
  | _, _, .nil => .nil
  | _, _, .cons h t => .cons h (vals_ofe t)
def rSortM (K : PySem.W.Frag) : List V → Hp → VK → Prop := fun vs H Q => ∃ (a : Addr) (zs : List (Addr × List Key)), vs = [.ref a] ∧ SqL K H a (zs.map fun z => V.ref z.1) ∧ (∀ z ∈ zs, H z.1 = some (.tup (z.2.map kV))) ∧ (∀ z ∈ zs, goodK z.2 = true) ∧ zs.length ≤ sizeLine ∧
  ∀ p, H p = none → Q (.ref p) (upd H p (.lst ((zs.mergeSort (mxLe Prod.snd)).map fun z => V.ref z.1)))
def rSortMD : List V → Hp → VK → Prop := fun vs H Q => ∃ (a : Addr) (kvs : List (List Key × V)), vs = [.ref a] ∧ Rd H a (.dT kvs) ∧ (∀ q ∈ kvs, goodK q.1 = true) ∧
  ∀ p ts, H p = none → Paired (fun t k => H t = some (.tup (k.map kV))) ts (srtK (kvs.map Prod.fst)) → Q (.ref p) (upd H p (.lst (ts.map V.ref)))
section
variable {X : Cx} {pins : List (Addr × Obj)} {σ : L2.St} {H : Hp} {s : Shared}
theorem mx_of (I : Inv X pins σ H s) {a : Addr} {k : List Key} (e : H a = some (.tup (k.map kV))) : MxAt s.heap (.ref a) (toks k) := by
  obtain ⟨_, its, r, o, h1, h2, n, h3⟩ := (show ObjOk X.prog X.w H s.heap a (.tup (k.map kV)) from I.hok a _ e)
  exact ⟨a, o, its.toArray, n, rfl, h1, h2, h3, by simpa using vals_itvs r⟩
theorem cr_sortM : CallR X (.builtin "sorted") (rSortM X.K) := by
  intro pins s σ H vs us Q I r h
  obtain ⟨a, zs, rfl, hs, ht, hg, hl, q⟩ := h
  obtain ⟨its, rv, hp, _⟩ := I.list hs
  rw [Vals.ref1 r]
  have hlen0 : its.length = zs.length := by
    have := rv.length
    rw [List.length_map] at this
    omega
  have kp : ∀ b o, o.cls = .type "tuple" → s.heap.get? b = some o → (PySem.W.sortingHeap (PySem.W.copyHeap s.heap its) (s.heap.objs.size + 1) its).get? b = some o := fun b o _ e => PySem.W.sorting_copy_old e
  have e1 : EachIs (fun u z => MxAt (PySem.W.sortingHeap (PySem.W.copyHeap s.heap its) (s.heap.objs.size + 1) its) u (toks z.2) ∧ u = Value.ref z.1 ∧ goodK z.2 = true) its zs :=
    each_ofv (f := Prod.fst) rv fun z m => ⟨(mx_of I (ht z m)).keeps kp, rfl, hg z m⟩
  refine PySem.W.sorted_vals (κ := mxKind (PySem.W.sortingHeap (PySem.W.copyHeap s.heap its) (s.heap.objs.size + 1) its)) hp.isList (sorts_mx (ls := zs.map fun z => toks z.2) (each_maps2 (e1.mono fun _ _ h => h.1)) fun l m => ?_) (by omega) ?_
  · obtain ⟨z, m', rfl⟩ := List.mem_map.mp m
    exact hg z m'
  have e2 := sortVals_each (κ := mxKind (PySem.W.sortingHeap (PySem.W.copyHeap s.heap its) (s.heap.objs.size + 1) its)) (rev := false) (R := fun u z => u = Value.ref z.1) (fun z : Addr × List Key => toks z.2) (e1.mono fun _ _ h => h.2.1) (e1.mono fun _ _ h => h.1.key h.2.2)
  obtain ⟨ep, he'⟩ := PyProof.Rows.sortedAll_at s.heap its (sortVals (mxKind (PySem.W.sortingHeap (PySem.W.copyHeap s.heap its) (s.heap.objs.size + 1) its)) false its its).toArray
  have hlen : ((zs.mergeSort (mxLe Prod.snd)).map fun z => V.ref z.1).length ≤ sizeLine := by
    rw [List.length_map, List.length_mergeSort]
    exact hl
  exact ⟨.ref _, upd H (s.heap.objs.size + 1) (.lst ((zs.mergeSort (mxLe Prod.snd)).map fun z => V.ref z.1)), I.laid (t' := s.toks) (fun _ _ => PyProof.Rows.sortedAll_old) (Nat.le_succ _) ⟨hlen, _, ep, vals_ofe (f := Prod.fst) e2, he'⟩, rfl, q _ (I.hok.fresh (Nat.le_succ _))⟩
theorem K_sortM {K : PySem.W.Frag} (hK : X.K = K) : CallR X (.builtin "sorted") (rSortM K) := by
  subst hK
  exact cr_sortM
theorem cr_sortMD (hc : X.calm = true) : CallR X (.builtin "sorted") rSortMD := by
  intro pins s σ H vs us Q I r h
  obtain ⟨d, kvs, rfl, hd, hg, q⟩ := h
  obtain rfl := Vals.ref1 r
  obtain ⟨z, hs, ks, pr, o, es, ep, ho, hx, hdt, he, hn⟩ := (show ObjOk X.prog X.w H s.heap d (.dT kvs) from hd.ok I.hok)
  have l1 : es.size = ks.length := size_of_entries he
  have l2 : kvs.length = ks.length := Paired.length pr
  refine Calls.call_function_entry PyProof.Rows.kind_sorted PyProof.Rows.plain_sorted PyProof.Rows.entry_sorted (PyProof.Rows.args_sorted1 _) ?_
  unfold Builtin.«sorted»
  refine wpAny_bind (m := checkCount "sorted" 1 1 _) (wpAny_pure ?_)
  refine wpAny_bind (PySem.W.kdu_collect (A := X.A.in1) (kdl_raw hs hx hdt) (I.ok.hd hc) ho (by omega) fun h' tk acc hk hacc => ?_)
  have ea : acc.toList = ks.map fun x => Value.ref x.2.1 := by
    have hl : acc.toList.length = ks.length := by rw [Array.length_toList, hacc.1]; exact l1
    apply List.ext_getElem?
    intro j
    rw [List.getElem?_map]
    cases hj : acc.toList[j]? with
    | none =>
      have h1 := List.getElem?_eq_none_iff.mp hj
      rw [List.getElem?_eq_none (by omega)]
      rfl
    | some v =>
      obtain ⟨en, hen, hv⟩ := hacc.2 j v (by rw [← Array.getElem?_toList]; exact hj)
      have qe := entry_at he j
      rw [hen] at qe
      cases hb : ks[j]? with
      | none =>
        rw [hb] at qe
        cases (show some en = none from qe)
      | some b =>
        rw [hb] at qe
        have e2 : en = entryOfKey (tupleKind (mixKind X.prog X.w)) b := Option.some.inj qe
        rw [hv, e2]
        rfl
  have I1 : Inv X pins σ H { s with heap := h', toks := tk } := I.kept hk
  have hal : acc.toList.length = ks.length := by rw [ea, List.length_map]
  refine wpAny_bind (wpAny_newList ?_ (by omega))
  have hoL : (h'.push (seqObj "list" acc.toList.toArray 0)).get? h'.objs.size = some (seqObj "list" acc.toList.toArray 0) := Heap.get?_push_size _ rfl
  show wpAny _ _ _ _ _ { s with heap := h'.push (seqObj "list" acc.toList.toArray 0), toks := tk }
  -- what the keys are
  have hks : ∀ x ∈ ks, H x.2.1 = some (.tup (x.1.map kV)) ∧ goodK x.1 = true := by
    intro x m
    obtain ⟨j, hj⟩ := List.mem_iff_getElem?.mp m
    have hjk : j < kvs.length := by
      rw [l2]
      exact (List.getElem?_eq_some_iff.mp hj).1
    obtain ⟨x', hx', r1, r2, _⟩ := LiI.paired_get pr (List.getElem?_eq_getElem hjk)
    have ee : x' = x := Option.some.inj (hx'.symm.trans hj)
    subst ee
    rw [← r1]
    exact ⟨r2, hg _ (List.getElem_mem hjk)⟩
  have hkeys : ks.map Prod.fst = kvs.map Prod.fst := by
    refine List.ext_getElem? fun j => ?_
    rw [List.getElem?_map, List.getElem?_map]
    by_cases hj : j < kvs.length
    · obtain ⟨x', hx', r1, _, _⟩ := LiI.paired_get pr (List.getElem?_eq_getElem hj)
      rw [hx', List.getElem?_eq_getElem hj]
      exact congrArg some r1.symm
    · rw [List.getElem?_eq_none (by omega), List.getElem?_eq_none (by omega)]
      rfl
  generalize hh2 : h'.push (seqObj "list" acc.toList.toArray 0) = h2 at hoL ⊢
  have k1 : ∀ b o, h'.get? b = some o → h2.get? b = some o := fun b o e => by rw [← hh2]; exact Heap.get?_push_of_some _ e
  have ne0 : ∀ b o, h'.get? b = some o → b ≠ h'.objs.size := fun b o e => Nat.ne_of_lt (Heap.lt_size e)
  have e1 : EachIs (fun u x => MxAt (PySem.W.sortingHeap h2 h'.objs.size acc.toList) u (toks x.1) ∧ u = Value.ref x.2.1 ∧ goodK x.1 = true) acc.toList ks := by
    rw [ea]
    refine each_of_maps fun x m => ?_
    have mz : MxAt h' (.ref x.2.1) (toks x.1) := mx_of I1 (hks x m).1
    exact ⟨mz.keeps fun b o _ e => PySem.W.sortingHeap_old (ne0 b o e) (k1 b o e), rfl, (hks x m).2⟩
  refine wpAny_bind (wpAny_holding (wpAny_call_entry PyProof.Rows.slot_list_sort ⟨_, hoL, rfl⟩ PyProof.Rows.entry_list_sort
    (PySem.W.list_sort_vals (s := { s with heap := h2, toks := tk }) (κ := mxKind (PySem.W.sortingHeap h2 h'.objs.size acc.toList)) hoL (sorts_mx (s := { s with heap := PySem.W.sortingHeap h2 h'.objs.size acc.toList, toks := tk }) (ls := ks.map fun x => toks x.1) (each_maps2 (e1.mono fun _ _ h => h.1)) fun l m => ?_) (by omega) ⟨_, rfl, ?_⟩)
    (PyProof.Rows.args_list_sort _)))
  · obtain ⟨x, m', rfl⟩ := List.mem_map.mp m
    exact (hks x m').2
  have e2 := sortVals_each (κ := mxKind (PySem.W.sortingHeap h2 h'.objs.size acc.toList)) (rev := false) (R := fun u x => u = Value.ref x.2.1) (fun x : List Key × Addr × Value => toks x.1) (e1.mono fun _ _ h => h.2.1) (e1.mono fun _ _ h => h.1.key h.2.2)
  obtain ⟨eF, heF⟩ := PyProof.Rows.sortedHeap_at (vs := acc.toList) (out := (sortVals (mxKind (PySem.W.sortingHeap h2 h'.objs.size acc.toList)) false acc.toList acc.toList).toArray) hoL
  have hlen : ((ks.mergeSort (mxLe Prod.fst)).map fun x => V.ref x.2.1).length ≤ sizeLine := by
    rw [List.length_map, List.length_mergeSort]
    omega
  refine wpAny_pure ⟨_, rfl, .ref h'.objs.size, upd H h'.objs.size (.lst (((ks.mergeSort (mxLe Prod.fst)).map fun x => x.2.1).map V.ref)), I1.laid (t' := tk) (fun b u e => ?_) (Nat.le_refl _)
    (show ObjOk X.prog X.w _ _ _ (.lst _) from ⟨?_, _, eF, ?_, heF⟩), rfl, q _ ((ks.mergeSort (mxLe Prod.fst)).map fun x => x.2.1) (I1.hok.fresh (Nat.le_refl _)) ?_⟩
  · exact (PyProof.Rows.sortedHeap_old (ne0 b u e) (Heap.lt_size (k1 b u e))).trans (k1 b u e)
  · rw [List.map_map]
    exact hlen
  · rw [List.map_map]
    exact vals_ofe (f := fun x : List Key × Addr × Value => x.2.1) e2
  · rw [← hkeys, ← srtK_maps Prod.fst ks]
    exact paired_maps fun x m => (hks x ((List.mergeSort_perm _ _).mem_iff.mp m)).1
end
end Rd

set_option maxHeartbeats 4000000
/-! DcT: dict comprehensions whose keys are tuples of numbers and texts; d[k] of such a dict. -/
namespace Rd
open PySem PySem.Spec L2 StX PyProof.Rows
/-! ### a pair put into a dict by a comprehension -/
theorem c_put {X : Cx} {pins : List (Addr × Obj)} {σ : L2.St} {H H' : Hp} {s : Shared} {E : Value → Shared → Prop} {D : Addr} {y v : V} {u r : Value} {Q : Unit → Shared → Prop} (hu : X.A.units + 1 < cLine) (I : Inv X pins σ H s) (g : DPut H D y v H')
    (ry : RelV y u) (rv : RelV v r) (h : ∀ s', Inv X pins σ H' s' → Q () s') : wpAny (model X.prog X.w) X.A (dictSet D u r) Q E s := by
  rcases g with ⟨kvs, k, e, ey, l, eH⟩ | ⟨kvs, k, b, e, ey, eb, l, eH⟩
  · subst ey eH
    exact d_dictSet I e l ry rv h
  · subst ey eH
    cases (show u = Value.ref b from ry)
    obtain ⟨z, hd, xs, rel, dd⟩ := dt_of I.hok e
    have hz : xs.length ≤ sizeLine := by rw [← Paired.length rel]; exact z
    have hl : (putK kvs k v).length ≤ sizeLine := by have := length_putK kvs k v; omega
    refine wpAny_dictSet_heap (hsz := hz) (show X.A.units < cLine by omega) (key_of I.hok eb) dd fun h' dd' hs => h _ ?_
    obtain ⟨q, es, ep, hq, h2, h3, h4, _, h5⟩ := dd'
    refine d_write I (by rw [e]; exact True.intro) hs ⟨q, hq⟩ ⟨hl, hd, _, (rel.put k eb rv).keeps fun c ys ec => ?_, q, es, ep, hq, h2, h3, h4, h5⟩
    rw [upd_ne (ne_of ec e (fun z => nomatch z))]
    exact ec
/-- {k: v for target in iter if ..}, the keys tuples -/
def kDcT (g : TG) (tt : TT) (tk tv : TE) (vs : List Nat) (σ : L2.St) (Q : VK) : It → Hp → Prop := fun J H1 => ∀ D, H1 D = none → ∃ W : Nat → Nat → Hp → Prop, (∃ m, W 0 m (upd H1 D (.dT []))) ∧ ∀ i m H, W i m H →
  (J.stop i H ∧ Q (.ref D) H) ∨ (J.go i H ∧ ∃ Nx : Hp → Prop, (∀ H', Nx H' → ∃ m', m' < m ∧ W (i + 1) m' H') ∧ ∀ x H', J.yld i H x H' → g x (wipe σ vs) H' fun σ2 H2 => wipe σ2 vs = wipe σ vs ∧ tt σ2 H2 fun b H3 =>
    if b = true then tk σ2 H3 fun y H4 => tv σ2 H4 fun z H5 => ∃ H6, DPut H5 D y z H6 ∧ Nx H6 else Nx H3)
def tDcT (wi : TI) (g : TG) (tt : TT) (tk tv : TE) (vs : List Nat) : TE := fun σ H Q => wi σ H (kDcT g tt tk tv vs σ Q)
section
variable {X : Cx}
theorem pe_dcT {kx vx tg iter : Expr} {ifs : List Expr} {scope : Scope} {own : List (Str × Nat)} {pos : Pos} {wi : TI} {g : TG} {tt : TT} {tk tv : TE} (hu : X.A.units + 1 < cLine) (hc : X.calm = true) (hN : X.N.Nodup) (hi : PI X tg iter wi) (ok : BlkOk X.N X.env.scope scope own)
    (hg : ∀ (s : Shared) (H : Hp) (C : Addr) (cl : List (Str × Addr)) (fp : List Addr), PG (X.blk s H scope (compEnvC scope cl C X.env) fp) tg g) (ht : ∀ (s : Shared) (H : Hp) (C : Addr) (cl : List (Str × Addr)) (fp : List Addr), PTs (X.blk s H scope (compEnvC scope cl C X.env) fp) ifs tt)
    (hk : ∀ (s : Shared) (H : Hp) (C : Addr) (cl : List (Str × Addr)) (fp : List Addr), PE (X.blk s H scope (compEnvC scope cl C X.env) fp) kx tk)
    (he : ∀ (s : Shared) (H : Hp) (C : Addr) (cl : List (Str × Addr)) (fp : List Addr), PE (X.blk s H scope (compEnvC scope cl C X.env) fp) vx tv) (hs : ∀ x, foldedSetIterable iter X.env x = pure x := by intro _; rfl) :
    PE X (.DictComp kx vx [⟨tg, iter, ifs, 0⟩] scope pos) (tDcT wi g tt tk tv (own.map (·.2))) := by
  refine ⟨fun pins s σ H Q I h => ?_⟩
  rw [arm_eval_DictComp]
  have free : ∀ y ∈ scope.names, y.2 = .free → ∃ c, X.env.cells.lookup y.1 = some c := fun y hy e => by
    rcases ok.free y hy e with k | k
    · exact I.ok.has _ (.inl k)
    · exact I.ok.has _ (.inr k)
  refine wpAny_comprehension_free rfl hs (closure_ok free) ok.kind (fun y hy e => by rw [ok.uniq y hy, e])
    (thn (hi.run pins s σ H _ I h) fun xv s1 hx => thn hx fun itv s2 h2 => ?_)
  obtain ⟨it, fp, tn, J, H2, rfl, I2, T, st2, f2, q⟩ := h2
  refine wpAny_newObj_type (newEnv_comp ?_)
  generalize hD : s2.heap.objs.size = D
  have hDn : H2 D = none := I2.hok.fresh (Nat.le_of_eq hD)
  obtain ⟨W, ⟨m0, w0⟩, turn⟩ := q D hDn
  -- the dict, empty
  generalize hs3 : ({ s2 with heap := s2.heap.push { cls := .type "dict", data := .dict #[] } } : Shared) = s3
  have h3 : s3.heap = s2.heap.push { cls := .type "dict", data := .dict #[] } := by rw [← hs3]
  have I3 : Inv X pins σ (upd H2 D (.dT [])) s3 := by
    rw [← hs3]
    refine I2.laid (t' := s2.toks) (fun b o e => Heap.get?_push_of_some _ e) (Nat.le_of_eq hD) ?_
    rw [← hD]
    exact dt_empty s2.heap I2.big
  have old : ∀ b ∈ fp, b < s2.heap.objs.size := fun b hb =>
    let ⟨_, e, _⟩ := T.obj _ _ st2 b hb
    Heap.lt_size e
  have f3 : ∀ b ∈ fp, FpOk X pins (upd H2 D (.dT [])) b ∧ b < s3.heap.objs.size := fun b hb => by
    refine ⟨⟨?_, (f2 b hb).2⟩, by rw [h3, Heap.size_push]; exact Nat.lt_succ_of_lt (old b hb)⟩
    rw [upd_ne (by rw [← hD]; exact Nat.ne_of_lt (old b hb))]
    exact (f2 b hb).1
  have st3 : tn 0 s3.heap := T.keep _ _ _ st2 fun b _ o e => by rw [h3]; exact Heap.get?_push_of_some _ e
  have I4 := block_start I3 ok hN f3
  -- what is read within the block
  have pg := hg s3 (upd H2 D (.dT [])) s3.heap.objs.size (cellsFrom (s3.heap.objs.size + 1) scope.names (cloFrom X.env.cells scope.names [])) fp
  have pt := ht s3 (upd H2 D (.dT [])) s3.heap.objs.size (cellsFrom (s3.heap.objs.size + 1) scope.names (cloFrom X.env.cells scope.names [])) fp
  have pk := hk s3 (upd H2 D (.dT [])) s3.heap.objs.size (cellsFrom (s3.heap.objs.size + 1) scope.names (cloFrom X.env.cells scope.names [])) fp
  have pv := he s3 (upd H2 D (.dT [])) s3.heap.objs.size (cellsFrom (s3.heap.objs.size + 1) scope.names (cloFrom X.env.cells scope.names [])) fp
  show codeAny _ _ (.compStart (.DictComp kx vx [⟨tg, iter, ifs, 0⟩] scope pos) 0 (.ref it) (.ref D) (compEnvC scope (cellsFrom (s3.heap.objs.size + 1) scope.names (cloFrom X.env.cells scope.names [])) s3.heap.objs.size X.env)) (compPost (model X.prog X.w) X.A X.xe none (EP X pins σ Q) (.ref D) s3.heap.objs.size) { s3 with heap := pushCells (s3.heap.push { cls := .type "dict", data := .dict #[] }) scope.names }
  have nfp : ∀ b ∈ fp, (upd H2 D (.dT [])) b = none := fun b hb => (f3 b hb).1.1
  generalize hce : compEnvC scope (cellsFrom (s3.heap.objs.size + 1) scope.names (cloFrom X.env.cells scope.names [])) s3.heap.objs.size X.env = ce at I4 pg pt pk pv ⊢
  have cL : ce.locals = s3.heap.objs.size := by subst hce; rfl
  generalize hH3 : upd H2 D (.dT []) = H3 at I3 I4 pg pt pk pv w0 nfp f3
  generalize hs4 : ({ s3 with heap := pushCells (s3.heap.push { cls := .type "dict", data := .dict #[] }) scope.names } : Shared) = s4 at I4 ⊢
  have st4 : tn 0 s4.heap := T.keep _ _ _ st3 fun b _ o e => by rw [← hs4]; exact pushCells_keeps _ _ _ _ (Heap.get?_push_of_some _ e)
  have stat : ∀ {σ' : L2.St} {H' : Hp} {s' : Shared}, Inv (X.blk s3 H3 scope ce fp) [] σ' H' s' → (∀ b ∈ fp, H' b = none) → ∀ b ∈ fp, FpOk (X.blk s3 H3 scope ce fp) [] H' b := fun {σ' H' s'} I' hn b hb =>
    ⟨hn b hb, (I'.ok.exf b hb).1, I'.ok.exfs b hb, .inl hb, fun x c e => (I'.ok.exf b hb).2 x c e, fun p hp => absurd (show p ∈ ([] : List (Addr × Obj)) ++ [] from hp) (by simp)⟩
  refine codeAny_compStart_dict ?_ (T.self X.A 0 _ _ _ st4 ?_)
  all_goals
    refine compLoop_anyD (fun n s' => ∃ i H', Inv (X.blk s3 H3 scope ce fp) [] (wipe σ (own.map (·.2))) H' s' ∧ tn i s'.heap ∧ (∀ b ∈ fp, H' b = none) ∧ W i n H') ?_ m0 ⟨0, H3, I4, st4, nfp, w0⟩
    rintro n s5 ⟨i, H5, I5, st5, n5, w5⟩
    rcases turn i n H5 w5 with ⟨stop, qq⟩ | ⟨go, Nx, hNx, step⟩
    · refine thnF (T.done (X.blk s3 H3 scope ce fp) rfl rfl rfl hc i [] s5 _ H5 (fun _ _ => False) I5 (stat I5 n5) st5 stop) fun r s6 ⟨hr, I6⟩ => ?_
      subst hr
      have I7 : Inv X pins σ H5 s6 := I3.call' (ch := fp) I6.os I6.base I6.hok I6.bare fun b hb => ⟨(f3 b hb).1.2.2.2.1, (f3 b hb).1.2.1, (f3 b hb).1.2.2.2.2.1, (f3 b hb).1.2.2.2.2.2⟩
      have nC : H5 s3.heap.objs.size = none := by
        have z : H5 ce.locals = none := I6.free
        rw [cL] at z
        exact z
      obtain ⟨m, hn, _⟩ := I6.loc
      have hn : s6.heap.Ns ce.locals m := hn
      rw [cL] at hn
      refine ⟨m, hn, fun h'' sb => ?_⟩
      obtain ⟨g0, g1, g2, g3, g4, g5⟩ := I3.fpOk (Nat.le_refl _) nC
      exact ⟨.ref D, H5, I7.turned (t' := s6.toks) (fun b o hb e => (sb.2 b hb).trans e) g0 g1 g3 g4 g5, rfl, qq⟩
    · refine thnF (T.item (X.blk s3 H3 scope ce fp) rfl rfl rfl hc i [] s5 _ H5 (fun _ _ => False) I5 (stat I5 n5) st5 go) fun r s6 ⟨u, hr, h6⟩ => ?_
      subst hr
      refine thnF h6 fun _ s7 ⟨x, H7, I7, r7, y7, st7, n7⟩ => ?_
      refine thnF (pg.run _ s7 _ H7 x u _ (I7.pinned (stat I7 n7) (T.obj _ _ st7)) r7 (step x H7 y7)) fun _ s8 ⟨σ8, H8, I8, hw8, q8⟩ => ?_
      refine thnF (pt.run _ s8 σ8 H8 _ I8 q8) fun b s9 ⟨H9, I9, q9⟩ => ?_
      have fin : ∀ {s' : Shared} {H' : Hp}, Inv (X.blk s3 H3 scope ce fp) ([] ++ pinsAt fp s7.heap) σ8 H' s' → Nx H' → ∃ m, m < n ∧ ∃ i H', Inv (X.blk s3 H3 scope ce fp) [] (wipe σ (own.map (·.2))) H' s' ∧ tn i s'.heap ∧ (∀ b ∈ fp, H' b = none) ∧ W i m H' := fun {s' H'} I' nx => by
        obtain ⟨m', hm, w'⟩ := hNx H' nx
        have pin' : ∀ b ∈ fp, ∀ o, s7.heap.get? b = some o → s'.heap.get? b = some o ∧ H' b = none := fun b hb o e =>
          let z := I'.pin (b, o) (List.mem_append_right _ (List.mem_append_right _ (mem_pinsAt hb e)))
          ⟨z.1, z.2.1⟩
        refine ⟨m', hm, i + 1, H', (I'.unpinned (pins := [])).weak (by rw [← hw8, wipe_length]) (fun j v e => ?_), T.keep _ _ _ st7 fun b hb o e => (pin' b hb o e).1, fun b hb => ?_, w'⟩
        · rw [← hw8] at e
          exact (wipe_some e).1
        · obtain ⟨o, e, _⟩ := T.obj _ _ st7 b hb
          exact (pin' b hb o e).2
      cases b with
      | false =>
        simp only [Bool.false_eq_true, if_false] at q9 ⊢
        exact fin I9 q9
      | true =>
        simp only [if_true] at q9 ⊢
        refine thnF (pk.run _ s9 σ8 H9 _ I9 q9) fun z s10 ⟨yk, H10, I10, r10, q10⟩ => ?_
        refine thnF (pv.run _ s10 σ8 H10 _ I10 q10) fun z2 s11 ⟨yv, H11, I11, r11, H12, hp, nx⟩ => ?_
        exact c_put (X := X.blk s3 H3 scope ce fp) hu I11 hp r10 r11 fun s12 I12 => fin I12 nx
end
end Rd

set_option maxHeartbeats 4000000
/-! OwnFor: loops and comprehensions over an object whose own __iter__ returns a list's iterator. -/
namespace Rd
open PySem PySem.Spec L2 PyProof.Rows ItX
/-! ### a base as large as is wanted -/
def freedObj : Obj := { cls := .none, data := .freed }
def padB (N : Nat) (b : Heap) : Heap := { b with objs := b.objs ++ Array.replicate (N - b.objs.size) freedObj }
theorem padB_get (N : Nat) (b : Heap) (a : Addr) : (padB N b).get? a = b.get? a := by
  unfold padB Heap.get?
  dsimp only
  rw [Array.getElem?_append]
  by_cases h : a < b.objs.size
  · rw [if_pos h]
  · rw [if_neg h, Array.getElem?_eq_none (Nat.le_of_not_lt h), Array.getElem?_replicate]
    by_cases h2 : a - b.objs.size < N - b.objs.size
    · rw [if_pos h2]
      rfl
    · rw [if_neg h2]
theorem padB_size {N : Nat} {b : Heap} (h : b.objs.size ≤ N) : (padB N b).objs.size = N := by
  show (b.objs ++ Array.replicate (N - b.objs.size) freedObj).size = N
  rw [Array.size_append, Array.size_replicate]
  omega
/-- a def whose results know the base's size -/
def FnY (P : Program) (w : World) (K : PySem.W.Frag) (mg : Str → Option Value) (k : Nat) (f : Addr) (sp : Nat → Sp) : Prop := ∀ base : Heap, K.In base → base.Ns mainGlobals mg → FnR P w K mg base CX0 k f (sp base.objs.size)
theorem env_pad {P : Program} {w : World} {K : PySem.W.Frag} {mg : Str → Option Value} {base : Heap} {A : Around} {outer : List Env} {s : Shared} {H : Hp} {N : Nat} (e : Env0 P w K mg base A outer s H) (hf : ∀ L ∈ frs outer, base.get? L = none) (h : base.objs.size ≤ N) (hN : N ≤ s.heap.objs.size) : Env0 P w K mg (padB N base) A outer s H := by
  have k : ∀ b o, base.get? b = some o → (padB N base).get? b = some o := fun b o q => (padB_get N base b).trans q
  obtain ⟨e1, ⟨m1, m2, ⟨mb, m3, m4⟩, m5⟩, e3, e4, e5, e6, e7, e8⟩ := e
  exact ⟨e1, ⟨m1.keeps k, m2.keeps k, ⟨mb, m3.keeps k, m4⟩, m5.keeps k⟩, fun b o q => e3 b o ((padB_get N base b).symm.trans q), by rw [padB_size h]; exact hN, funFrames_none e5 fun L hL => (padB_get N base L).trans (hf L hL), e6, e7, e8⟩
/-! ### iter(list), young -/
section
variable {X : Cx}
theorem call_iterB : CallR X (.builtin "iter") (rIterN X.K X.base.objs.size) := by
  intro pins s σ H xs us Q I r h
  obtain ⟨l, zs, rfl, hq, q⟩ := h
  obtain ⟨u, rfl, ru⟩ := vals1 r
  cases ru
  obtain ⟨its, rv, pl, hz⟩ := I.list hq
  refine GNX.call_iter pl.isList ?_
  exact ⟨.ref s.heap.objs.size, _, I.laid (t' := s.toks) (fun b u e => Heap.get?_push_of_some _ e) (Nat.le_refl _) (itO_ok (Heap.get?_push_size _ rfl)), rfl, q _ (I.hok.fresh (Nat.le_refl _)) (Nat.le_trans I.ok.bsz I.sz)⟩
theorem K_iterB {K : PySem.W.Frag} {base : Heap} (hK : X.K = K) (hB : X.base = base) : CallR X (.builtin "iter") (rIterN K base.objs.size) := by
  subst hK hB
  exact call_iterB
theorem r_iterB {K : PySem.W.Frag} {H : Hp} {Q : VK} {l : Addr} {zs : List V} {N : Nat} (h : SqL K H l zs) (q : ∀ it, H it = none → N ≤ it → Q (.ref it) (upd H it (ItO l it 0))) : rIterN K N [.ref l] H Q := ⟨l, zs, rfl, h, q⟩
end
/-! ### over an object -/
def kOwn (K : PySem.W.Frag) (C : Addr) (sp : Sp) (N : Nat) (R : It → Hp → Prop) : VK := fun v H1 => ∃ a dx fs l, v = .ref a ∧ H1 a = some (.ins C dx fs) ∧
  sp [.ref a] H1 (fun u H2 => ∃ it, u = .ref it ∧ H1 it = none ∧ N ≤ it ∧ H2 = upd H1 it (ItO l it 0) ∧ R (Itl K l) H1) E0
def iOwn (K : PySem.W.Frag) (C : Addr) (sp : Nat → Sp) (N : Nat) (td : TE) : TI := fun σ H R => td σ H (kOwn K C (sp N) N R)
theorem itlF_0 (K : PySem.W.Frag) (l : Addr) : ItlF K l 0 = Itl K l := by
  unfold ItlF
  simp only [Nat.zero_add]
section
variable {X : Cx}
theorem pi_own {tg e : Expr} {td : TE} {C f : Addr} {sp : Nat → Sp} {n : Nat} (he : PE X e td) (it_ : PySem.W.findIn X.K (.ref C) "__iter__" = some (some (.ref f))) (itF : PySem.W.isFn X.K (.ref f) = true) (FI : FnY X.prog X.w X.K X.mg n f sp) (hr : Room n X.A) :
    PI X tg e (iOwn X.K C sp X.s_0.heap.objs.size td) := by
  refine ⟨fun pins s σ H R I h => ?_⟩
  refine thn (he.run pins s σ H _ I h) fun u s1 ⟨v, H1, I1, rv, a, dx, fs, l, ev, ha, q⟩ => ?_
  subst ev
  cases rv
  obtain ⟨mA, J, _⟩ := ins_get I1.hok ha
  obtain ⟨od, J, _⟩ := J.look
  obtain ⟨m0, hF⟩ := I1.fr
  refine PySem.W.owit_iter hF I1.ok.mod.kin J it_ itF ?_
  have e := I1.env0
  have hfr : ∀ L ∈ frs X.stack, X.base.get? L = none := fun L hL => by
    cases q : X.base.get? L with
    | none => rfl
    | some o => exact absurd hL (fun z => by
        have := I1.stack.mem z
        rw [q] at this
        cases this.1)
  have e' := env_pad (N := X.s_0.heap.objs.size) e hfr I1.ok.bsz I1.sz
  have k : ∀ b o, X.base.get? b = some o → (padB X.s_0.heap.objs.size X.base).get? b = some o := fun b o q => (padB_get _ X.base b).trans q
  have F := FI (padB X.s_0.heap.objs.size X.base) (I1.ok.mod.kin.keeps k) (I1.ok.mod.glob.keeps k)
  rw [padB_size I1.ok.bsz] at F
  refine wpAny_call (codeAny_mono (F X.A X.stack s1 H1 [.ref a] [.ref a] _ E0 hr e' (.cons rfl .nil) q) fun r s' z => ?_)
  cases r with
  | error e => exact False.elim z
  | ok fl =>
    cases fl with
    | next => exact False.elim z
    | brk => exact False.elim z
    | cont => exact False.elim z
    | ret u =>
      obtain ⟨v, H2, I2, rv, it, rfl, hn, hN, rfl, qR⟩ := I1.after z
      cases (show u = Value.ref it from rv)
      have hi : upd H1 it (ItO l it 0) it = some (ItO l it 0) := upd_same
      have eo := itO_get I2 hi
      have st : s'.heap.IsListIter it l (0 + 0) := ⟨_, eo, rfl, rfl⟩
      have hty : s'.TypeIs (.ref it) "list_iterator" := ⟨_, eo, rfl⟩
      have hi' := hi
      unfold ItO at hi'
      have I3 := inv_drop I2 hi'
      have ed : dropH (upd H1 it (ItO l it 0)) it = H1 := dropH_upd hn
      have fp := inv_fp I2 hi hN
      rw [ed] at I3 fp
      unfold PySem.W.OwitIt
      refine wpAny_specialOf hty slot_listiter_next.lookup ?_
      refine ⟨it, [it], (fun i h => h.IsListIter it l (0 + i)), Itl X.K l, H1, rfl, I3, ?_, st, fun b hb => ?_, qR⟩
      · rw [← itlF_0]
        exact turn_listF l it 0
      · have e : b = it := by simpa using hb
        rw [e]
        exact fp
end
end Rd

set_option maxHeartbeats 4000000
/-! Lc2: [e for x in a for y in b]. -/
namespace Rd
open PySem PySem.Spec L2 StX
def kIn2 (g1 : TG) (tt1 : TT) (te : TE) (vs1 : List Nat) (σ2 : St) (D : Addr) (Nx : Hp → Prop) : It → Hp → Prop := fun J1 H4 => ∃ W1 : Nat → Nat → Hp → Prop, (∃ m, W1 0 m H4) ∧ ∀ j k H, W1 j k H →
  (J1.stop j H ∧ Nx H) ∨ (J1.go j H ∧ ∃ Nx1 : Hp → Prop, (∀ H', Nx1 H' → ∃ k', k' < k ∧ W1 (j + 1) k' H') ∧ ∀ x H', J1.yld j H x H' → g1 x (wipe σ2 vs1) H' (kTurn tt1 te (wipe σ2 vs1) vs1 D Nx1))
def kKeep2 (wi1 : TI) (g1 : TG) (tt1 : TT) (te : TE) (vs1 : List Nat) (σ2 : St) (D : Addr) (Nx : Hp → Prop) : Bool → Hp → Prop := fun b H3 => if b = true then wi1 σ2 H3 (kIn2 g1 tt1 te vs1 σ2 D Nx) else Nx H3
def kTurn2 (tt : TT) (wi1 : TI) (g1 : TG) (tt1 : TT) (te : TE) (vs vs1 : List Nat) (σ0 : St) (D : Addr) (Nx : Hp → Prop) : St → Hp → Prop := fun σ2 H2 => wipe σ2 vs = σ0 ∧ tt σ2 H2 (kKeep2 wi1 g1 tt1 te vs1 σ2 D Nx)
def kLc2 (g : TG) (tt : TT) (wi1 : TI) (g1 : TG) (tt1 : TT) (te : TE) (vs vs1 : List Nat) (σ : St) (Q : VK) : It → Hp → Prop := fun J H1 => ∀ D, H1 D = none → ∃ W : Nat → Nat → Hp → Prop, (∃ m, W 0 m (upd H1 D (.lst []))) ∧ ∀ i m H, W i m H →
  (J.stop i H ∧ Q (.ref D) H) ∨ (J.go i H ∧ ∃ Nx : Hp → Prop, (∀ H', Nx H' → ∃ m', m' < m ∧ W (i + 1) m' H') ∧ ∀ x H', J.yld i H x H' → g x (wipe σ vs) H' (kTurn2 tt wi1 g1 tt1 te vs vs1 (wipe σ vs) D Nx))
section
variable {σ : St} {H : Hp} {Q : VK} {wi wi1 : TI} {g g1 : TG} {tt tt1 : TT} {te : TE} {vs vs1 : List Nat} {J J1 : It} {n : Nat} {G : Hp → Prop} {Y : Nat → Hp → V → Hp → Prop} {D p : Addr} {K : PySem.W.Frag} {xs : List V}
theorem r_lc2 (q : wi σ H (kLc2 g tt wi1 g1 tt1 te vs vs1 σ Q)) : tLc2 wi g tt wi1 g1 tt1 te vs vs1 σ H Q := q
theorem r_kTurn2 {σ0 : St} {Nx : Hp → Prop} (h : wipe σ vs = σ0) (q : tt σ H (kKeep2 wi1 g1 tt1 te vs1 σ D Nx)) : kTurn2 tt wi1 g1 tt1 te vs vs1 σ0 D Nx σ H := ⟨h, q⟩
theorem r_kKeep2 {Nx : Hp → Prop} {b : Bool} (h : b = true) (q : wi1 σ H (kIn2 g1 tt1 te vs1 σ D Nx)) : kKeep2 wi1 g1 tt1 te vs1 σ D Nx b H := by
  subst h
  exact q
theorem r_kLc2 (w : Walk J n G Y) (Pv : Addr → Nat → List V → Hp → Prop) (h0 : ∀ D H', H D = none → Kp [] H H' → H' D = some (.lst []) → Pv D 0 [] H') (hG : ∀ D i acc H', i ≤ n → Pv D i acc H' → G H')
    (hs : ∀ D i acc x H' H'', H D = none → i < n → H' D = some (.lst acc) → Pv D i acc H' → Y i H' x H'' → g x (wipe σ vs) H'' (kTurn2 tt wi1 g1 tt1 te vs vs1 (wipe σ vs) D (kN (Pv D (i + 1)) D)))
    (hd : ∀ D acc H', H D = none → H' D = some (.lst acc) → Pv D n acc H' → Q (.ref D) H') : kLc2 g tt wi1 g1 tt1 te vs vs1 σ Q J H := by
  intro D hD
  refine ⟨fun i m H => m = n - i ∧ i ≤ n ∧ kN (Pv D i) D H, ⟨n, by simp, Nat.zero_le _, [], upd_same, h0 D _ hD (Kp.new hD) upd_same⟩, ?_⟩
  rintro i m H' ⟨rfl, hi, acc, e, pv⟩
  have q := hG D i acc H' hi pv
  by_cases hlt : i < n
  · exact .inr ⟨w.goes i H' hlt q, kN (Pv D (i + 1)) D, fun H'' p' => ⟨n - (i + 1), by omega, rfl, hlt, p'⟩, fun x H'' y => hs D i acc x H' H'' hD hlt e pv (w.yields i H' x H'' hlt q y)⟩
  · have ei : i = n := by omega
    subst ei
    exact .inl ⟨w.stops H' q, hd D acc H' hD e pv⟩
theorem r_kIn2 (w : Walk J1 n G Y) (Pv : Nat → List V → Hp → Prop) {PN : List V → Hp → Prop} {acc0 : List V} (e0 : H D = some (.lst acc0)) (h0 : Pv 0 acc0 H) (hG : ∀ i acc H', i ≤ n → Pv i acc H' → G H')
    (hs : ∀ i acc x H' H'', i < n → H' D = some (.lst acc) → Pv i acc H' → Y i H' x H'' → g1 x (wipe σ vs1) H'' (kTurn tt1 te (wipe σ vs1) vs1 D (kN (Pv (i + 1)) D)))
    (hd : ∀ acc H', H' D = some (.lst acc) → Pv n acc H' → PN acc H') : kIn2 g1 tt1 te vs1 σ D (kN PN D) J1 H := by
  refine ⟨fun i m H => m = n - i ∧ i ≤ n ∧ kN (Pv i) D H, ⟨n, by simp, Nat.zero_le _, acc0, e0, h0⟩, ?_⟩
  rintro i m H' ⟨rfl, hi, acc, e, pv⟩
  have q := hG i acc H' hi pv
  by_cases hlt : i < n
  · exact .inr ⟨w.goes i H' hlt q, kN (Pv (i + 1)) D, fun H'' p' => ⟨n - (i + 1), by omega, rfl, hlt, p'⟩, fun x H'' y => hs i acc x H' H'' hlt e pv (w.yields i H' x H'' hlt q y)⟩
  · have ei : i = n := by omega
    subst ei
    exact .inl ⟨w.stops H' q, acc, e, hd acc H' e pv⟩
theorem r_kLc2Q (Pv : Addr → Nat → List V → Hp → Prop) (hq : Sq K H p xs) (h0 : ∀ D H', H D = none → Kp [] H H' → H' D = some (.lst []) → Pv D 0 [] H') (hG : ∀ D i acc H', i ≤ xs.length → Pv D i acc H' → Kp [] H H')
    (hs : ∀ D (i : Nat) acc x H', H D = none → xs[i]? = some x → H' D = some (.lst acc) → Pv D i acc H' → g x (wipe σ vs) H' (kTurn2 tt wi1 g1 tt1 te vs vs1 (wipe σ vs) D (kN (Pv D (i + 1)) D)))
    (hd : ∀ D acc H', H D = none → H' D = some (.lst acc) → Pv D xs.length acc H' → Q (.ref D) H') : cWQ K (kLc2 g tt wi1 g1 tt1 te vs vs1 σ Q) (.ref p) H := by
  rcases hq with h | h
  · refine r_cWQl h (r_kLc2 walk_list Pv h0 (fun D i acc H' hi p => sql_kp h (hG D i acc H' hi p) not_nil) (fun D i acc x H' H'' hD hi e hp y => ?_) hd)
    obtain ⟨rfl, ey⟩ := y
    exact hs D i acc x _ hD ey e hp
  · refine r_cWQt h (r_kLc2 walk_tup Pv h0 (fun D i acc H' hi p => sqt_kp h (hG D i acc H' hi p) not_nil) (fun D i acc x H' H'' hD hi e hp y => ?_) hd)
    obtain ⟨rfl, ey⟩ := y
    exact hs D i acc x _ hD ey e hp
theorem r_kIn2R {m : Nat} (Pv : Nat → List V → Hp → Prop) {PN : List V → Hp → Prop} {acc0 : List V} (e0 : H D = some (.lst acc0)) (h0 : Pv 0 acc0 H)
    (hs : ∀ (i : Nat) acc H', i < m → H' D = some (.lst acc) → Pv i acc H' → g1 (.int (i : Int)) (wipe σ vs1) H' (kTurn tt1 te (wipe σ vs1) vs1 D (kN (Pv (i + 1)) D)))
    (hd : ∀ acc H', H' D = some (.lst acc) → Pv m acc H' → PN acc H') : kIn2 g1 tt1 te vs1 σ D (kN PN D) (Itr 0 m) H := by
  refine r_kIn2 walk_range Pv e0 h0 (fun _ _ _ _ _ => trivial) (fun i acc x H' H'' hi e hp y => ?_) hd
  obtain ⟨rfl, rfl⟩ := y
  have e' : V.int ((0 : Int) + (i : Int)) = V.int (i : Int) := congrArg V.int (by omega)
  show g1 (V.int ((0 : Int) + (i : Int))) (wipe σ vs1) _ _
  rw [e']
  exact hs i acc _ hi e hp
end
end Rd

set_option maxHeartbeats 4000000
/-! SlM: readings for dict comprehensions with tuple keys and d[k]; classmethods; cls(*xs). -/
namespace Rd
open PySem PySem.Spec L2 PyProof.Rows
section
variable {σ : L2.St} {H : Hp} {Q : VK} {wi : TI} {g : TG} {tt : TT} {tk tv : TE} {vs : List Nat} {J : It} {n : Nat} {G : Hp → Prop} {Y : Nat → Hp → V → Hp → Prop} {p : Addr} {K : PySem.W.Frag} {xs : List V} {x y : V}
def kNT (Pv : List (List Key × V) → Hp → Prop) (D : Addr) : Hp → Prop := fun H' => ∃ kvs, H' D = some (.dT kvs) ∧ Pv kvs H'
def kPutT (D : Addr) (N : Hp → Prop) (y : V) : VK := fun z H5 => ∃ H6, DPut H5 D y z H6 ∧ N H6
def kKeepT (tk tv : TE) (σ : L2.St) (D : Addr) (N : Hp → Prop) : Bool → Hp → Prop := fun b H3 => if b = true then tk σ H3 (fun y H4 => tv σ H4 (kPutT D N y)) else N H3
def kTurnT (tt : TT) (tk tv : TE) (σ0 : L2.St) (vs : List Nat) (D : Addr) (N : Hp → Prop) : L2.St → Hp → Prop := fun σ2 H2 => wipe σ2 vs = σ0 ∧ tt σ2 H2 (kKeepT tk tv σ2 D N)
theorem r_dcT (q : wi σ H (kDcT g tt tk tv vs σ Q)) : tDcT wi g tt tk tv vs σ H Q := q
theorem r_kTurnT {σ0 : L2.St} {D : Addr} {N : Hp → Prop} (h : wipe σ vs = σ0) (q : tt σ H (kKeepT tk tv σ D N)) : kTurnT tt tk tv σ0 vs D N σ H := ⟨h, q⟩
theorem r_kKeepT1 {D : Addr} {N : Hp → Prop} {b : Bool} (h : b = true) (q : tk σ H (fun y H4 => tv σ H4 (kPutT D N y))) : kKeepT tk tv σ D N b H := by
  subst h
  exact q
theorem r_kPutT {D b : Addr} {kvs : List (List Key × V)} {k : List Key} {Pv : List (List Key × V) → Hp → Prop} (e : H D = some (.dT kvs)) (eb : H b = some (.tup (k.map kV))) (h : kvs.length < sizeLine) (q : ∀ H5, Kp [D] H H5 → H5 D = some (.dT (putK kvs k y)) → Pv (putK kvs k y) H5) : kPutT D (kNT Pv D) (.ref b) y H :=
  ⟨_, DPut.t e eb h, _, upd_same, q _ (Kp.put (by simp)) upd_same⟩
theorem r_kDcT (w : Walk J n G Y) (Pv : Addr → Nat → List (List Key × V) → Hp → Prop) (h0 : ∀ D H', H D = none → Kp [] H H' → H' D = some (.dT []) → Pv D 0 [] H') (hG : ∀ D i acc H', i ≤ n → Pv D i acc H' → G H')
    (hs : ∀ D i acc x H' H'', H D = none → i < n → H' D = some (.dT acc) → Pv D i acc H' → Y i H' x H'' → g x (wipe σ vs) H'' (kTurnT tt tk tv (wipe σ vs) vs D (kNT (Pv D (i + 1)) D)))
    (hd : ∀ D acc H', H D = none → H' D = some (.dT acc) → Pv D n acc H' → Q (.ref D) H') : kDcT g tt tk tv vs σ Q J H := by
  intro D hD
  refine ⟨fun i m H' => m = n - i ∧ i ≤ n ∧ kNT (Pv D i) D H', ⟨n, by simp, Nat.zero_le _, [], upd_same, h0 D _ hD (Kp.new hD) upd_same⟩, ?_⟩
  rintro i m H' ⟨rfl, hi, acc, e, p⟩
  have q := hG D i acc H' hi p
  by_cases hlt : i < n
  · exact .inr ⟨w.goes i H' hlt q, kNT (Pv D (i + 1)) D, fun H2 p' => ⟨n - (i + 1), by omega, rfl, hlt, p'⟩, fun x H2 y => hs D i acc x H' H2 hD hlt e p (w.yields i H' x H2 hlt q y)⟩
  · have e' : i = n := by omega
    subst e'
    exact .inl ⟨w.stops H' q, hd D acc H' hD e p⟩
theorem r_kDcTT (Pv : Addr → Nat → List (List Key × V) → Hp → Prop) (h0 : ∀ D H', H D = none → Kp [] H H' → H' D = some (.dT []) → Pv D 0 [] H') (hG : ∀ D i acc H', i ≤ xs.length → Pv D i acc H' → SqT K H' p xs)
    (hs : ∀ D (i : Nat) acc x H', H D = none → xs[i]? = some x → H' D = some (.dT acc) → Pv D i acc H' → g x (wipe σ vs) H' (kTurnT tt tk tv (wipe σ vs) vs D (kNT (Pv D (i + 1)) D)))
    (hd : ∀ D acc H', H D = none → H' D = some (.dT acc) → Pv D xs.length acc H' → Q (.ref D) H') : kDcT g tt tk tv vs σ Q (Itt K p) H := by
  refine r_kDcT walk_tup Pv h0 hG (fun D i acc x H' H'' hD hi e hp y => ?_) hd
  obtain ⟨rfl, ey⟩ := y
  exact hs D i acc x _ hD ey e hp
theorem r_kDGT {D b : Addr} {kvs : List (List Key × V)} {k : List Key} {v : V} (e : H D = some (.dT kvs)) (eb : H b = some (.tup (k.map kV))) (hv : valV kvs k = some v) (q : Q v H) : kDG Q (.ref D) (.ref b) H :=
  ⟨D, v, rfl, hv ▸ DGet.t e eb, q⟩
/-- iteration over an object -/
theorem r_own {C : Addr} {sp : Nat → Sp} {N : Nat} {td : TE} {R : It → Hp → Prop} (q : td σ H (kOwn K C (sp N) N R)) : iOwn K C sp N td σ H R := q
theorem r_sortMD {a : Addr} {kvs : List (List Key × V)} (e : H a = some (.dT kvs)) (hg : ∀ q ∈ kvs, goodK q.1 = true) (q : ∀ p H' ts, H p = none → Kp [] H H' → H' p = some (.lst (ts.map V.ref)) → Paired (fun t k => H t = some (.tup (k.map kV))) ts (srtK (kvs.map Prod.fst)) → Q (.ref p) H') : rSortMD [.ref a] H Q :=
  ⟨a, kvs, rfl, .inl e, hg, fun p ts n h => q p _ ts n (Kp.new n) upd_same h⟩
end
/-! ### C.m(e, ..), m a classmethod -/
def kCMeth (C : Addr) (sp : Sp) (E : XK) (t : TA) (σ : L2.St) (Q : VK) : VK := fun x H1 => x = .ref C ∧ t σ H1 fun vs H2 => sp (.ref C :: vs) H2 Q E
def tCMethR (C : Addr) (sp : Sp) (E : XK) (ta : TE) (t : TA) : TE := fun σ H Q => ta σ H (kCMeth C sp E t σ Q)
def UseCM (P : Program) (w : World) (K : PySem.W.Frag) (mg : Str → Option Value) (base : Heap) (n : Nat) (C : Addr) (m : Str) (sp : Sp) : Prop := ∃ mc p g, FnR P w K mg base CX0 n g sp ∧ ClX.CRead K C mc ∧ ClX.CMet K C mc m p g
def UseIt (P : Program) (w : World) (K : PySem.W.Frag) (mg : Str → Option Value) (n : Nat) (C : Addr) (sp : Nat → Sp) : Prop := ∃ f, FnY P w K mg n f sp ∧ PySem.W.findIn K (.ref C) "__iter__" = some (some (.ref f)) ∧ PySem.W.isFn K (.ref f) = true
section
variable {X : Cx} {CX : CXT} {k : Nat} {C p g : Addr} {mc : Value} {sp : Sp} {E : XK} {o e : Expr} {es : List Expr} {m : Str} {pos apos : Pos} {ta : TE} {t : TA} {pl : Sem Bool}
theorem pe_cmethR (he : PE X o ta) (r : ClX.CRead X.K C mc) (c : ClX.CMet X.K C mc m p g) (F : FnR X.prog X.w X.K X.mg X.base CX k g sp) (hr : Room k X.A) (hx : Passes CX X E) (ha : PA X (e :: es) t)
    (hst : starEach (e :: es) X.env = (false, eval e X.env) :: starEach es X.env := by rfl) (hpl : (backTo pos (starEach es X.env)).any (·.1) = false := by rfl)
    (ht : eval (.Call (.Attribute o m apos) (e :: es) [] pos) X.env = (do
      let ov ← eval o X.env
      standAt apos.atName
      let (f, first) ← holding [ov] (getMethod ov m pl)
      callWith pos f first (backTo pos (starEach (e :: es) X.env)) (backToKw pos (keywordEach [] X.env))) := by rfl) :
    PE X (.Call (.Attribute o m apos) (e :: es) [] pos) (tCMethR C sp E ta t) := ClX.pe_cmeth he r c F hr hx ha hst hpl ht
end
section
variable {C : Addr} {sp : Sp} {E : XK} {ta : TE} {t : TA} {σ : L2.St} {H : Hp} {Q : VK}
theorem r_cmeth (q : ta σ H (kCMeth C sp E t σ Q)) : tCMethR C sp E ta t σ H Q := q
theorem r_kCMeth (q : t σ H fun vs H2 => sp (.ref C :: vs) H2 Q E) : kCMeth C sp E t σ Q (.ref C) H := ⟨rfl, q⟩
end
/-! ### X(*xs); cls(*xs), cls a local name that holds a class -/
def kMakeS1 (K : PySem.W.Frag) (C : Addr) (sp : Sp) (E : XK) (Q : VK) : VK := fun y H1 => ∃ a xs, y = V.ref a ∧ (SqT K H1 a xs ∨ SqL K H1 a xs) ∧ ∀ x dx, H1 x = none → H1 dx = none → dx ≠ x → sp (V.ref x :: xs) (upd (upd H1 dx (.own x)) x (.ins C dx [])) (kMade x Q) E
def tMakeS1 (K : PySem.W.Frag) (C : Addr) (sp : Sp) (E : XK) (te : TE) : TE := fun σ H Q => te σ H (kMakeS1 K C sp E Q)
def tMakeV (K : PySem.W.Frag) (i : Nat) (C : Addr) (sp : Sp) (E : XK) (te : TE) : TE := fun σ H Q => σ[i]? = some (some (.ref C)) ∧ te σ H (kMakeS1 K C sp E Q)
section
variable {X : Cx} {CX : CXT} {k i : Nat} {f C : Addr} {sp : Sp} {E : XK} {x : Str} {e : Expr} {te : TE} {p q0 pos : Pos} {K : PySem.W.Frag}
theorem pe_makeVS (hK : X.K = K) (M : Mk K C f) (F : FnR X.prog X.w X.K X.mg X.base CX k f sp) (hr : Room (k + 1) X.A) (hN : X.N[i]? = some x) (hv : Vis X.env.scope x) (hx : Passes CX X E) (he : PE X e te)
    (hd : (x == ("__debug__" : Str)) = false := by decide) (hcd : (x == ("__classdict__" : Str)) = false := by decide)
    (hst : starEach [.Starred e q0] X.env = [(true, eval e X.env)] := by rfl) : PE X (.Call (.Name x p) [.Starred e q0] [] pos) (tMakeV K i C sp E te) := by
  subst hK
  refine ⟨fun pins s σ H Q I h => ?_⟩
  obtain ⟨hs, h⟩ := h
  refine wpAny_Call_Name_kw (thn ((pe_var (pos := p) (i := i) hN hv hd hcd).run pins s σ H (fun v H1 => v = .ref C ∧ H1 = H) I ⟨.ref C, hs, rfl, rfl⟩) fun u s1 ⟨v, H1, I1, r1, ev, eH⟩ => ?_)
  subst ev
  rw [eH] at I1
  cases r1
  refine PySem.W.callWith_S (h₀ := X.base) I1.ok.mod.kin M.kp (thn (he.run pins s1 σ H _ I1 h) fun v s2 ⟨y, H2, I2, ry, a, xs, ey, hxs, q⟩ => ?_) hst
  subst ey
  obtain rfl : v = Value.ref a := ry
  exact StX.star_any I2 hxs fun us s3 I3 rv => ⟨I3.kIn, StX.run_makeR M F hr hx I3 rv q⟩
theorem pe_makeS1 (hK : X.K = K) (M : Mk K C f) (F : FnR X.prog X.w X.K X.mg X.base CX k f sp) (hr : Room (k + 1) X.A) (hg : Gl X x) (hm : X.mg x = some (.ref C)) (hx : Passes CX X E) (he : PE X e te) (hdb : (x == ("__debug__" : Str)) = false := by decide)
    (hst : starEach [.Starred e q0] X.env = [(true, eval e X.env)] := by rfl) : PE X (.Call (.Name x p) [.Starred e q0] [] pos) (tMakeS1 K C sp E te) := by
  subst hK
  refine ⟨fun pins s σ H Q I h => ?_⟩
  refine wpAny_Call_Name_kw (ld_glob I hg hm ?_ hdb)
  refine PySem.W.callWith_S (h₀ := X.base) I.ok.mod.kin M.kp (thn (he.run pins s σ H _ I h) fun v s2 ⟨y, H2, I2, ry, a, xs, ey, hxs, q⟩ => ?_) hst
  subst ey
  obtain rfl : v = Value.ref a := ry
  exact StX.star_any I2 hxs fun us s3 I3 rv => ⟨I3.kIn, StX.run_makeR M F hr hx I3 rv q⟩
end
section
variable {K : PySem.W.Frag} {C a : Addr} {sp : Sp} {E : XK} {te : TE} {σ : L2.St} {H : Hp} {Q : VK} {i : Nat} {xs : List V}
theorem r_makeS1 (q : te σ H (kMakeS1 K C sp E Q)) : tMakeS1 K C sp E te σ H Q := q
theorem r_makeV (h : σ[i]? = some (some (.ref C))) (q : te σ H (kMakeS1 K C sp E Q)) : tMakeV K i C sp E te σ H Q := ⟨h, q⟩
theorem r_kMakeS1 (h : SqL K H a xs) (q : ∀ x dx H', H x = none → Kp [] H H' → H' x = some (.ins C dx []) → sp (V.ref x :: xs) H' (kMade x Q) E) : kMakeS1 K C sp E Q (.ref a) H :=
  ⟨a, xs, rfl, .inr h, fun x dx n1 n2 ne => q x dx _ n1 ((Kp.new (ex := []) n2).trans (Kp.new (by rw [upd_ne (fun e => ne e.symm)]; exact n1))) upd_same⟩
end
/-! ### iteration; is True -/
theorem K_pown {X : Cx} {K : PySem.W.Frag} {tg e : Expr} {td : TE} {C f : Addr} {sp : Nat → Sp} {n : Nat} (hK : X.K = K) (he : PE X e td) (it_ : PySem.W.findIn K (.ref C) "__iter__" = some (some (.ref f))) (itF : PySem.W.isFn K (.ref f) = true) (FI : FnY X.prog X.w K X.mg n f sp) (hr : Room n X.A) :
    PI X tg e (iOwn K C sp X.s_0.heap.objs.size td) := by
  subst hK
  exact pi_own he it_ itF FI hr
def rIsBl : R2 := fun x y H Q => ∃ a b, x = .bl a ∧ y = .bl b ∧ Q (.bl (a == b)) H
theorem op_isBl {X : Cx} : OpR X (compareOp .Is) rIsBl := by
  intro pins s σ H x y v u Q I rx ry h
  obtain ⟨a, b, rfl, rfl, q⟩ := h
  cases rx
  cases ry
  refine wpAny_is_plain rfl ⟨.bl (a == b), H, I, ?_, q⟩
  cases a <;> cases b <;> rfl
theorem r_isBl {a b : Bool} {H : Hp} {Q : VK} (q : Q (.bl (a == b)) H) : rIsBl (.bl a) (.bl b) H Q := ⟨a, b, rfl, rfl, q⟩
theorem r_kOwn {K : PySem.W.Frag} {C : Addr} {sp : Sp} {N : Nat} {R : It → Hp → Prop} {H : Hp} {a dx l : Addr} {fs : List (Str × V)} (e : H a = some (.ins C dx fs)) (q : sp [.ref a] H (fun u H2 => ∃ it, u = .ref it ∧ H it = none ∧ N ≤ it ∧ H2 = upd H it (ItO l it 0) ∧ R (Itl K l) H) E0) : kOwn K C sp N R (.ref a) H :=
  ⟨a, dx, fs, l, rfl, e, q⟩
/-! ### list(range(n)) -/
def kLR1 (Q : VK) : VK := fun x H1 => ∃ n, x = .int n ∧ RgOk 0 n ∧ ∀ q, H1 q = none → Q (.ref q) (upd H1 q (.lst (rgV 0 n)))
def tLR1 (ta : TE) : TE := fun σ H Q => ta σ H (kLR1 Q)
theorem pe_lr1 {X : Cx} {a : Expr} {ta : TE} {p q p2 q2 : Pos} (hc : X.calm = true) (hg : Gl X "list") (hm : X.mg "list" = none) (hg2 : Gl X "range") (hm2 : X.mg "range" = none) (ha : PE X a ta) (na : starEach [a] X.env = (false, eval a X.env) :: starEach [] X.env := by rfl)
    (nb : starEach [Expr.Call (.Name "range" p2) [a] [] q2] X.env = (false, eval (Expr.Call (.Name "range" p2) [a] [] q2) X.env) :: starEach [] X.env := by rfl) : PE X (.Call (.Name "list" p) [.Call (.Name "range" p2) [a] [] q2] [] q) (tLR1 ta) :=
  ⟨fun pins s σ H Q I h => (pe_listRg hc hg hm (prg_1 hg2 hm2 ha na) nb).run pins s σ H Q I h⟩
theorem r_lr1 {ta : TE} {σ : L2.St} {H : Hp} {Q : VK} (q : ta σ H (kLR1 Q)) : tLR1 ta σ H Q := q
theorem r_kLR1 {n : Nat} {H : Hp} {Q : VK} (h : n ≤ 10000) (q : ∀ p H', H p = none → Kp [] H H' → H' p = some (.lst ((List.range n).map fun i => V.int (i : Nat))) → Q (.ref p) H') : kLR1 Q (.int (n : Int)) H := by
  refine ⟨n, rfl, RgOk.of_le (by omega) (by omega) (by omega) (by omega), fun p hn => ?_⟩
  have e : rgV 0 (n : Int) = (List.range n).map fun i => V.int (i : Nat) := by
    unfold rgV
    have : ((n : Int) - 0).toNat = n := by omega
    rw [this]
    refine List.map_congr_left fun i _ => ?_
    exact congrArg V.int (by omega)
  rw [e]
  exact q p _ hn (Kp.new hn) upd_same
/-! ### two fors over lists -/
section
variable {σ : L2.St} {H : Hp} {Q : VK} {wi1 : TI} {g g1 : TG} {tt tt1 : TT} {te : TE} {vs vs1 : List Nat} {D p : Addr} {K : PySem.W.Frag} {xs : List V}
theorem r_kLc2L (Pv : Addr → Nat → List V → Hp → Prop) (h0 : ∀ D H', H D = none → Kp [] H H' → H' D = some (.lst []) → Pv D 0 [] H') (hG : ∀ D i acc H', i ≤ xs.length → Pv D i acc H' → SqL K H' p xs)
    (hs : ∀ D (i : Nat) acc x H', H D = none → xs[i]? = some x → H' D = some (.lst acc) → Pv D i acc H' → g x (wipe σ vs) H' (kTurn2 tt wi1 g1 tt1 te vs vs1 (wipe σ vs) D (kN (Pv D (i + 1)) D)))
    (hd : ∀ D acc H', H D = none → H' D = some (.lst acc) → Pv D xs.length acc H' → Q (.ref D) H') : kLc2 g tt wi1 g1 tt1 te vs vs1 σ Q (Itl K p) H := by
  refine r_kLc2 walk_list Pv h0 hG (fun D i acc x H' H'' hD hi e hp y => ?_) hd
  obtain ⟨rfl, ey⟩ := y
  exact hs D i acc x _ hD ey e hp
theorem r_kIn2L (Pv : Nat → List V → Hp → Prop) {PN : List V → Hp → Prop} {acc0 : List V} (e0 : H D = some (.lst acc0)) (h0 : Pv 0 acc0 H) (hG : ∀ i acc H', i ≤ xs.length → Pv i acc H' → SqL K H' p xs)
    (hs : ∀ (i : Nat) acc x H', xs[i]? = some x → H' D = some (.lst acc) → Pv i acc H' → g1 x (wipe σ vs1) H' (kTurn tt1 te (wipe σ vs1) vs1 D (kN (Pv (i + 1)) D)))
    (hd : ∀ acc H', H' D = some (.lst acc) → Pv xs.length acc H' → PN acc H') : kIn2 g1 tt1 te vs1 σ D (kN PN D) (Itl K p) H := by
  refine r_kIn2 walk_list Pv e0 h0 hG (fun i acc x H' H'' hi e hp y => ?_) hd
  obtain ⟨rfl, ey⟩ := y
  exact hs i acc x _ ey e hp
end
/-! ### l.extend(m); x < y of texts -/
theorem r_extend {K : PySem.W.Frag} {H : Hp} {Q : VK} {p a : Addr} {xs ys : List V} (e : H p = some (.lst xs)) (e' : H a = some (.lst ys)) (h : xs.length + ys.length ≤ sizeLine) (q : ∀ H', Kp [p] H H' → H' p = some (.lst (xs ++ ys)) → Q .non H') : rExtend (.ref p) [.ref a] H Q :=
  ⟨p, a, xs, ys, rfl, rfl, e, e', h, q _ (Kp.put (by simp)) upd_same⟩
def rLtS : R2 := fun x y H Q => ∃ i j, x = .str i ∧ y = .str j ∧ Q (.bl (slt i j)) H
theorem op_ltS {X : Cx} : OpR X (compareOp .Lt) rLtS := fun pins s σ H x y v u Q I rx ry h => op_lt_str pins s σ H x y v u Q I rx ry h
theorem r_ltS {i j : Str} {H : Hp} {Q : VK} (q : Q (.bl (slt i j)) H) : rLtS (.str i) (.str j) H Q := ⟨i, j, rfl, rfl, q⟩
end Rd

set_option maxHeartbeats 4000000
/-! LstEq: == of lists whose items have an own __eq__, whatever it says. -/
namespace GQB
open PySem PySem.SeqAt GQ
open AutoSeq1 (wpAny_loadPart')
open MeetsSeq MeetsSeq2 MeetsSeq3 SeqRoads2
section
variable {prog : Program} {w : World} {A : Around} {R : Result → Shared → Prop}
/-- at each turn the two lists are read anew: N items each; the i-th two are equal or not -/
def ListB (prog : Program) (w : World) (A : Around) (E : Value → Shared → Prop) (l b : Addr) (N : Nat) (I : Nat → Shared → Prop) (Fl : Shared → Prop) : Prop :=
  ∀ i s, I i s → ∃ (items items2 : Array Value) (n n2 : Nat), s.heap.get? l = some { cls := .type "list", data := .seq items n } ∧ s.heap.get? b = some { cls := .type "list", data := .seq items2 n2 } ∧ items.size = N ∧ items2.size = N ∧
    ∀ (h1 : i < items.size) (h2 : i < items2.size), wpAny (model prog w) A.in1 (eqBool items[i] items2[i]) (fun r s' => (r = true ∧ I (i + 1) s') ∨ (r = false ∧ Fl s')) E s
/-- the two lists with N items each -/
def LstsN (l b : Addr) (N : Nat) (s : Shared) : Prop := ∃ (items items2 : Array Value) (n n2 : Nat), s.heap.get? l = some { cls := .type "list", data := .seq items n } ∧ s.heap.get? b = some { cls := .type "list", data := .seq items2 n2 } ∧ items.size = N ∧ items2.size = N
theorem eq_loopB (l b : Addr) (N : Nat) (I : Nat → Shared → Prop) (Fl : Shared → Prop) (hl : ListB prog w A (fun e s' => R (.error e) s') l b N I Fl)
    (fin : ∀ s, I N s → R (.ok (.ret (.bool true))) s) (no : ∀ s, Fl s → LstsN l b N s ∧ R (.ok (.ret (.bool false))) s) (k : Nat) :
    ∀ i : Nat, N - i = k → i ≤ N → ∀ s, I i s →
      wpAny (model prog w) A.in1 (Builtin.«list.__eq__.loop» ⟨[.ref l, .ref b, rawInt i, rawInt 2], []⟩) (FinOf prog w A R) (fun e s' => R (.error e) s') s := by
  induction k with
  | zero =>
    intro i hk hi s h
    obtain ⟨items, items2, n, n2, hl1, hb1, hs1, hs2, _⟩ := hl _ _ h
    have hi' : i = N := by omega
    have hR : R (.ok (.ret (.bool true))) s := fin s (hi' ▸ h)
    obtain ⟨hp, g, d, tk, os⟩ := s
    wp_walk using wpAny_loadPart' hl1, wpAny_loadPart' hb1
    have hi1 : items[((i : Nat) : Int).toNat]? = none := by simp; omega
    have hi2 : items2[((i : Nat) : Int).toNat]? = none := by simp; omega
    rw [hi1, hi2]
    wp_walk using wpAny_loadPart' hl1, wpAny_loadPart' hb1
    show R (.ok (.ret (.bool (items.size == items2.size)))) _
    rw [hs1, hs2]
    simpa using hR
  | succ k ih =>
    intro i hk hi s h
    obtain ⟨items, items2, n, n2, hl1, hb1, hs1, hs2, turn⟩ := hl _ _ h
    have hlt : i < items.size := by omega
    have hlt2 : i < items2.size := by omega
    have ht := turn hlt hlt2
    obtain ⟨hp, g, d, tk, os⟩ := s
    wp_walk using wpAny_loadPart' hl1, wpAny_loadPart' hb1
    have hi1 : items[((i : Nat) : Int).toNat]? = some items[i] := by simp [hlt]
    have hi2 : items2[((i : Nat) : Int).toNat]? = some items2[i] := by simp [hlt2]
    have hc : ((i : Int) + 1) = ((i + 1 : Nat) : Int) := by omega
    rw [hi1, hi2]
    refine wpAny_bind (wpAny_mono ht (fun r s2 h2 => ?_) fun _ _ x => x)
    rcases h2 with ⟨hr, h2⟩ | ⟨hr, h2⟩
    · subst hr
      have hrec := ih (i + 1) (by omega) (by omega) s2 h2
      obtain ⟨hp2, g2, d2, tk2, os2⟩ := s2
      wp_walk
      rw [hc]
      exact ⟨plainId_quiet plain_eq_loop _, codeAny_builtin entry_eq_loop (by
        rw [Around.under_plainId plain_eq_loop _]
        exact hrec)⟩
    · subst hr
      obtain ⟨⟨is1, is2, m1, m2, g1, g2', z1, z2⟩, hR⟩ := no s2 h2
      have j1 : is1[((i : Nat) : Int).toNat]? = some (is1[i]'(by omega)) := by
        rw [Int.toNat_natCast]
        exact Array.getElem?_eq_getElem _
      have j2 : is2[((i : Nat) : Int).toNat]? = some (is2[i]'(by omega)) := by
        rw [Int.toNat_natCast]
        exact Array.getElem?_eq_getElem _
      obtain ⟨hp2, g2, d2, tk2, os2⟩ := s2
      wp_walk using wpAny_loadPart' g1, wpAny_loadPart' g2'
      rw [j1, j2]
      wp_walk
      exact hR
theorem list_eqB (l b : Addr) (N : Nat) (I : Nat → Shared → Prop) (Fl : Shared → Prop) (hl : ListB prog w A (fun e s' => R (.error e) s') l b N I Fl)
    (fin : ∀ s, I N s → R (.ok (.ret (.bool true))) s) (no : ∀ s, Fl s → LstsN l b N s ∧ R (.ok (.ret (.bool false))) s) {s : Shared} (h : I 0 s) :
    wpAny (model prog w) A.in1 (Builtin.«list.__eq__» ⟨[.ref l, .ref b], []⟩) (FinOf prog w A R) (fun e s' => R (.error e) s') s := by
  obtain ⟨items, items2, n, n2, hl1, hb1, hs1, hs2, _⟩ := hl _ _ h
  have hrec := eq_loopB (A := A) (R := R) l b N I Fl hl fin no _ 0 rfl (Nat.zero_le _) s h
  obtain ⟨hp, g, d, tk, os⟩ := s
  have f3 := AutoSeq1.sub_list_list
  have hne : ¬ (items.size != items2.size) = true := by simp [hs1, hs2]
  wp_walk using wpAny_loadPart' hl1, wpAny_loadPart' hb1
  exact ⟨plainId_quiet plain_eq_loop _, codeAny_builtin entry_eq_loop (by
    rw [Around.under_plainId plain_eq_loop _]
    exact hrec)⟩
/-- lists of different lengths -/
theorem list_eqN (l b : Addr) (items items2 : Array Value) (n n2 : Nat) {s : Shared} (hl1 : s.heap.get? l = some { cls := .type "list", data := .seq items n }) (hb1 : s.heap.get? b = some { cls := .type "list", data := .seq items2 n2 }) (hne : (items.size != items2.size) = true)
    (no : R (.ok (.ret (.bool false))) s) : wpAny (model prog w) A.in1 (Builtin.«list.__eq__» ⟨[.ref l, .ref b], []⟩) (FinOf prog w A R) (fun e s' => R (.error e) s') s := by
  obtain ⟨hp, g, d, tk, os⟩ := s
  have f3 := AutoSeq1.sub_list_list
  wp_walk using wpAny_loadPart' hl1, wpAny_loadPart' hb1
  exact no
end
section
variable {prog : Program} {w : World} {A : Around} {E : Value → Shared → Prop} {s : Shared}
theorem rc_listB {l b : Addr} {N : Nat} {Q : Value → Shared → Prop} (hu : A.units < cLine) (I : Nat → Shared → Prop) (Fl : Shared → Prop) (hl : ListB prog w A E l b N I Fl)
    (fin : ∀ s, I N s → Q (.bool true) s) (no : ∀ s, Fl s → LstsN l b N s ∧ Q (.bool false) s) (h : I 0 s) : wpAny (model prog w) A (richCompare .Eq (.ref l) (.ref b)) Q E s := by
  obtain ⟨items, items2, n, n2, hl1, hb1, _, _, _⟩ := hl _ _ h
  refine wpAny_richCompare_same_room (op := .Eq) ⟨_, hl1, rfl⟩ ⟨_, hb1, rfl⟩ F.slot_list_eq (call_here F.slot_list_eq ⟨_, hl1, rfl⟩ F.entry_list_eq (F.args_list_eq_2 _ _) ?_) hu
  exact list_eqB (R := wants (fun v s' => v ≠ .notImplemented ∧ Q v s') E) l b N I Fl hl (fun s' q => ⟨(fun x => nomatch x), fin s' q⟩) (fun s' q => ⟨(no s' q).1, (fun x => nomatch x), (no s' q).2⟩) h
theorem rc_listN {l b : Addr} {items items2 : Array Value} {n n2 : Nat} {Q : Value → Shared → Prop} (hu : A.units < cLine) (hl1 : s.heap.get? l = some { cls := .type "list", data := .seq items n }) (hb1 : s.heap.get? b = some { cls := .type "list", data := .seq items2 n2 }) (hne : (items.size != items2.size) = true)
    (no : Q (.bool false) s) : wpAny (model prog w) A (richCompare .Eq (.ref l) (.ref b)) Q E s := by
  refine wpAny_richCompare_same_room (op := .Eq) ⟨_, hl1, rfl⟩ ⟨_, hb1, rfl⟩ F.slot_list_eq (call_here F.slot_list_eq ⟨_, hl1, rfl⟩ F.entry_list_eq (F.args_list_eq_2 _ _) ?_) hu
  exact list_eqN (R := wants (fun v s' => v ≠ .notImplemented ∧ Q v s') E) l b items items2 n n2 hl1 hb1 hne ⟨(fun x => nomatch x), no⟩
end
section
variable {prog : Program} {w : World} {A : Around} {R : Result → Shared → Prop}
/-- at each turn the list is read anew: the i-th item is the one sought, or not -/
def ListC (prog : Program) (w : World) (A : Around) (E : Value → Shared → Prop) (l : Addr) (x : Value) (N : Nat) (I : Nat → Shared → Prop) (Fl : Shared → Prop) : Prop :=
  ∀ i s, I i s → ∃ (items : Array Value) (n : Nat), s.heap.get? l = some { cls := .type "list", data := .seq items n } ∧ items.size = N ∧
    ∀ (h1 : i < items.size), wpAny (model prog w) A.in1 (eqBool items[i] x) (fun r s' => (r = false ∧ I (i + 1) s') ∨ (r = true ∧ Fl s')) E s
theorem contains_loopB (l : Addr) (x : Value) (N : Nat) (I : Nat → Shared → Prop) (Fl : Shared → Prop) (hl : ListC prog w A (fun e s' => R (.error e) s') l x N I Fl)
    (fin : ∀ s, I N s → R (.ok (.ret (.bool false))) s) (yes : ∀ s, Fl s → R (.ok (.ret (.bool true))) s) (k : Nat) :
    ∀ i : Nat, N - i = k → i ≤ N → ∀ s, I i s →
      wpAny (model prog w) A.in1 (Builtin.«list.__contains__.loop» ⟨[.ref l, x, rawInt i], []⟩) (FinOf prog w A R) (fun e s' => R (.error e) s') s := by
  induction k with
  | zero =>
    intro i hk hi s h
    obtain ⟨items, n, hl1, hs1, _⟩ := hl _ _ h
    have hi' : i = N := by omega
    have hR : R (.ok (.ret (.bool false))) s := fin s (hi' ▸ h)
    obtain ⟨hp, g, d, tk, os⟩ := s
    wp_walk using wpAny_loadPart' hl1
    have hi1 : items[((i : Nat) : Int).toNat]? = none := by simp; omega
    rw [hi1]
    wp_walk
    exact hR
  | succ k ih =>
    intro i hk hi s h
    obtain ⟨items, n, hl1, hs1, turn⟩ := hl _ _ h
    have hlt : i < items.size := by omega
    have ht := turn hlt
    obtain ⟨hp, g, d, tk, os⟩ := s
    wp_walk using wpAny_loadPart' hl1
    have hi1 : items[((i : Nat) : Int).toNat]? = some items[i] := by simp [hlt]
    have hc : ((i : Int) + 1) = ((i + 1 : Nat) : Int) := by omega
    rw [hi1]
    refine wpAny_bind (wpAny_mono ht (fun r s2 h2 => ?_) fun _ _ x => x)
    rcases h2 with ⟨hr, h2⟩ | ⟨hr, h2⟩
    · subst hr
      have hrec := ih (i + 1) (by omega) (by omega) s2 h2
      obtain ⟨hp2, g2, d2, tk2, os2⟩ := s2
      wp_walk
      rw [hc]
      exact ⟨plainId_quiet plain_contains_loop _, codeAny_builtin entry_contains_loop (by
        rw [Around.under_plainId plain_contains_loop _]
        exact hrec)⟩
    · subst hr
      have hR := yes s2 h2
      obtain ⟨hp2, g2, d2, tk2, os2⟩ := s2
      wp_walk
      exact hR
theorem list_containsB (l : Addr) (x : Value) (N : Nat) (I : Nat → Shared → Prop) (Fl : Shared → Prop) (hl : ListC prog w A (fun e s' => R (.error e) s') l x N I Fl)
    (fin : ∀ s, I N s → R (.ok (.ret (.bool false))) s) (yes : ∀ s, Fl s → R (.ok (.ret (.bool true))) s) {s : Shared} (h : I 0 s) :
    wpAny (model prog w) A.in1 (Builtin.«list.__contains__» ⟨[.ref l, x], []⟩) (FinOf prog w A R) (fun e s' => R (.error e) s') s := by
  obtain ⟨items, n, hl1, hs1, _⟩ := hl _ _ h
  have hrec := contains_loopB (A := A) (R := R) l x N I Fl hl fin yes _ 0 rfl (Nat.zero_le _) s h
  obtain ⟨hp, g, d, tk, os⟩ := s
  wp_walk using wpAny_loadPart' hl1
  exact ⟨plainId_quiet plain_contains_loop _, codeAny_builtin entry_contains_loop (by
    rw [Around.under_plainId plain_contains_loop _]
    exact hrec)⟩
end
section
variable {prog : Program} {w : World} {A : Around} {E : Value → Shared → Prop} {s : Shared}
theorem in_listB {l : Addr} {x : Value} {N : Nat} {Q : Value → Shared → Prop} (I : Nat → Shared → Prop) (Fl : Shared → Prop) (hl : ListC prog w A E l x N I Fl)
    (fin : ∀ s, I N s → Q (.bool false) s) (yes : ∀ s, Fl s → Q (.bool true) s) (h : I 0 s) : wpAny (model prog w) A (compareOp .In x (.ref l)) Q E s := by
  obtain ⟨items, n, hl1, _, _⟩ := hl _ _ h
  show wpAny _ A (do return .bool (← contains (.ref l) x)) Q E s
  refine wpAny_bind (wpAny_contains_slot ⟨_, hl1, rfl⟩ F.slot_list_contains (call_here F.slot_list_contains ⟨_, hl1, rfl⟩ F.entry_list_contains (F.args_list_contains_2 _ _) ?_))
  exact list_containsB (R := wants _ E) l x N I Fl hl (fun s' q => wpAny_truthy_bool (wpAny_pure (fin s' q))) (fun s' q => wpAny_truthy_bool (wpAny_pure (yes s' q))) h
theorem notIn_listB {l : Addr} {x : Value} {N : Nat} {Q : Value → Shared → Prop} (I : Nat → Shared → Prop) (Fl : Shared → Prop) (hl : ListC prog w A E l x N I Fl)
    (fin : ∀ s, I N s → Q (.bool true) s) (yes : ∀ s, Fl s → Q (.bool false) s) (h : I 0 s) : wpAny (model prog w) A (compareOp .NotIn x (.ref l)) Q E s := by
  obtain ⟨items, n, hl1, _, _⟩ := hl _ _ h
  show wpAny _ A (do return .bool (!(← contains (.ref l) x))) Q E s
  refine wpAny_bind (wpAny_contains_slot ⟨_, hl1, rfl⟩ F.slot_list_contains (call_here F.slot_list_contains ⟨_, hl1, rfl⟩ F.entry_list_contains (F.args_list_contains_2 _ _) ?_))
  exact list_containsB (R := wants _ E) l x N I Fl hl (fun s' q => wpAny_truthy_bool (wpAny_pure (fin s' q))) (fun s' q => wpAny_truthy_bool (wpAny_pure (yes s' q))) h
end
end GQB
namespace Rd
open PySem PySem.Spec L2
/-- how two values compare, by the abstract heap, which stays -/
abbrev EqvB := V → V → Hp → Bool → Prop
def EqB (X : Cx) (n : Nat) (D : EqvB) : Prop :=
  ∀ (A : Around) (pins : List (Addr × Obj)) (s : Shared) (σ : St) (H : Hp) (x y : V) (u v : Value) (b : Bool), Sub X n A → Inv X pins σ H s → RelV x u → RelV y v → D x y H b →
    wpAny (model X.prog X.w) A (eqBool u v) (fun r s' => r = b ∧ Inv X pins σ H s') X.xe s
/-- objects of a family, by their own == -/
def DFam (K : PySem.W.Frag) (S : Addr → Prop) (sp : Sp) : EqvB := fun x y H b => ∃ a C dx fs a' C' dx' fs', x = .ref a ∧ y = .ref a' ∧ H a = some (.ins C dx fs) ∧ S C ∧ H a' = some (.ins C' dx' fs') ∧ PySem.W.notFirst K C (.ref C') = true ∧
  (a = a' → b = true) ∧ sp [.ref a, .ref a'] H (fun v H' => v = .bl b ∧ H' = H) E0
/-- item by item: how each two compare -/
def PrsB (D : EqvB) (xs ys : List V) (bs : List Bool) (H : Hp) : Prop := xs.length = ys.length ∧ bs.length = xs.length ∧ ∀ (i : Nat) x y b, xs[i]? = some x → ys[i]? = some y → bs[i]? = some b → D x y H b
/-- list == list -/
def rEqLB (D : EqvB) : R2 := fun x y H Q => ∃ p q xs ys, x = .ref p ∧ y = .ref q ∧ H p = some (.lst xs) ∧ H q = some (.lst ys) ∧ ((xs.length ≠ ys.length ∧ Q (.bl false) H) ∨ ∃ bs : List Bool, PrsB D xs ys bs H ∧ Q (.bl (bs.all id)) H)
/-- x in list, x not in list -/
def rInLB (D : EqvB) (neg : Bool) : R2 := fun x y H Q => ∃ (q : Addr) (ys : List V) (bs : List Bool), y = .ref q ∧ H q = some (.lst ys) ∧ bs.length = ys.length ∧ (∀ (i : Nat) z b, ys[i]? = some z → bs[i]? = some b → D z x H b) ∧ Q (.bl (bs.any id != neg)) H
section
variable {X : Cx} {n : Nat} {f : Addr} {sp : Sp} {S : Addr → Prop} {D : EqvB}
theorem eqB_fam (hm : ∀ C, S C → Meth X.K C "__eq__" f) (F : FnR X.prog X.w X.K X.mg X.base CX0 n f sp) : EqB X n (DFam X.K S sp) := by
  intro A pins s σ H x y u v b sb I rx ry d
  obtain ⟨a, C, dx, fs, a', C', dx', fs', rfl, rfl, ea, hS, ea', nf, hab, q⟩ := d
  cases (show u = Value.ref a from rx)
  cases (show v = Value.ref a' from ry)
  by_cases e : a = a'
  · subst e
    rw [hab rfl]
    exact SeqAt.EqAt.same (A := A) (s := s) (.ref a) X.prog X.w X.xe _ ⟨rfl, I⟩
  · refine GQ.eqBool_refG e ?_
    obtain ⟨mA, O, _⟩ := ins_get I.hok ea
    obtain ⟨od, J, _⟩ := O.look
    obtain ⟨mB, O', _⟩ := ins_get I.hok ea'
    obtain ⟨od', J', _⟩ := O'.look
    obtain ⟨m, hF⟩ := I.fr
    have M := hm C hS
    have e0 : Env0 X.prog X.w X.K X.mg X.base A X.stack s H := by
      have e := I.env0
      exact ⟨by rw [sb.fr]; exact e.frames, e.mod, e.bs, e.bsz, e.funs, e.frf, e.hok, e.bare⟩
    refine PySem.W.cmp_K (op := .Eq) (tb := .ref C') sb.room.units0 hF I.ok.mod.kin J J'.type nf M.at_ M.fn ?_
    refine wpAny_call (codeAny_mono (F A X.stack s H [.ref a, .ref a'] [.ref a, .ref a'] _ E0 sb.room e0 (.cons rfl (.cons rfl .nil)) q) fun r s' z => ?_)
    cases r with
    | error e => exact False.elim z
    | ok fl =>
      cases fl with
      | ret u =>
        obtain ⟨z', H', I', rz, ez, eH⟩ := I.after z
        subst ez
        subst eH
        cases (show u = Value.bool b from rz)
        exact ⟨b, rfl, rfl, I'⟩
      | next => exact False.elim z
      | brk => exact False.elim z
      | cont => exact False.elim z
theorem vals_at {xs : List V} {its : List Value} (r : Vals xs its) {i : Nat} (h : i < its.toArray.size) : ∃ x, xs[i]? = some x ∧ RelV x its.toArray[i] := by
  have h' : i < its.length := by simpa using h
  have k : i < xs.length := by rw [r.length]; exact h'
  obtain ⟨u, hu, ru⟩ := r.get (List.getElem?_eq_getElem k)
  have g : its[i]? = some its.toArray[i] := by
    rw [List.getElem?_eq_getElem h'] <;> simp
  rw [g] at hu
  rw [Option.some.inj hu]
  exact ⟨_, List.getElem?_eq_getElem k, ru⟩
theorem take_allB {bs : List Bool} {i : Nat} {b : Bool} (h : bs[i]? = some b) (a : (bs.take i).all id = true) (hb : b = true) : (bs.take (i + 1)).all id = true := by
  rw [List.take_add_one, h, List.all_append, a, hb]
  rfl
theorem op_eqLB (h : EqB X n D) (hr : Room (n + 1) X.A) : OpR X (compareOp .Eq) (rEqLB D) := by
  intro pins s σ H x y v u Q I rx ry hq
  obtain ⟨p, q, xs, ys, rfl, rfl, hp, hq', c⟩ := hq
  cases (show v = Value.ref p from rx)
  cases (show u = Value.ref q from ry)
  show wpAny (model X.prog X.w) X.A (richCompare .Eq (.ref p) (.ref q)) (EP X pins σ Q) X.xe s
  rcases c with ⟨ne, qf⟩ | ⟨bs, ⟨h1, h2, h3⟩, qt⟩
  · obtain ⟨z, its, k, r, e⟩ := I.hok p _ hp
    obtain ⟨z2, its2, k2, r2, e2⟩ := I.hok q _ hq'
    refine GQB.rc_listN hr.units0 e e2 ?_ ⟨.bl false, H, I, rfl, qf⟩
    rw [List.size_toArray, List.size_toArray, ← r.length, ← r2.length]
    simpa using ne
  · refine GQB.rc_listB (N := xs.length) hr.units0 (fun i s' => Inv X pins σ H s' ∧ (bs.take i).all id = true) (fun s' => Inv X pins σ H s' ∧ bs.all id = false) (fun i s' ⟨I1, ha⟩ => ?_) (fun s' ⟨I1, ha⟩ => ?_) (fun s' ⟨I1, ha⟩ => ?_) ⟨I, rfl⟩
    · obtain ⟨z, its, k, r, e⟩ := I1.hok p _ hp
      obtain ⟨z2, its2, k2, r2, e2⟩ := I1.hok q _ hq'
      refine ⟨its.toArray, its2.toArray, k, k2, e, e2, by rw [List.size_toArray, ← r.length], by rw [List.size_toArray, ← r2.length, ← h1], fun l1 l2 => ?_⟩
      obtain ⟨x, hx, rx⟩ := vals_at r l1
      obtain ⟨y, hy, ry⟩ := vals_at r2 l2
      have li : i < bs.length := by
        have := (List.getElem?_eq_some_iff.mp hx).1
        omega
      have hb : bs[i]? = some bs[i] := List.getElem?_eq_getElem li
      refine wpAny_mono (h X.A.in1 pins s' σ H x y _ _ bs[i] ⟨hr.in1, rfl⟩ I1 rx ry (h3 i x y _ hx hy hb)) (fun r s2 z => ?_) fun _ _ x => x
      obtain ⟨rfl, I2⟩ := z
      cases hc : bs[i] with
      | true => exact .inl ⟨rfl, I2, take_allB hb ha hc⟩
      | false =>
        refine .inr ⟨rfl, I2, ?_⟩
        rw [List.all_eq_false]
        exact ⟨bs[i], List.getElem_mem li, by rw [hc]; decide⟩
    · rw [← h2, List.take_length] at ha
      rw [ha] at qt
      exact ⟨.bl true, H, I1, rfl, qt⟩
    · rw [ha] at qt
      obtain ⟨z, its, k, r, e⟩ := I1.hok p _ hp
      obtain ⟨z2, its2, k2, r2, e2⟩ := I1.hok q _ hq'
      exact ⟨⟨its.toArray, its2.toArray, k, k2, e, e2, by rw [List.size_toArray, ← r.length], by rw [List.size_toArray, ← r2.length, ← h1]⟩, .bl false, H, I1, rfl, qt⟩
theorem take_anyB {bs : List Bool} {i : Nat} {b : Bool} (h : bs[i]? = some b) (a : (bs.take i).any id = false) (hb : b = false) : (bs.take (i + 1)).any id = false := by
  rw [List.take_add_one, h, List.any_append, a, hb]
  rfl
theorem lc_of (h : EqB X n D) (hr : Room (n + 1) X.A) {pins : List (Addr × Obj)} {σ : St} {H : Hp} {x : V} {v : Value} {q : Addr} {ys : List V} {bs : List Bool} (rx : RelV x v) (hq : H q = some (.lst ys)) (hl : bs.length = ys.length)
    (hD : ∀ (i : Nat) z b, ys[i]? = some z → bs[i]? = some b → D z x H b) : GQB.ListC X.prog X.w X.A X.xe q v ys.length (fun i s' => Inv X pins σ H s' ∧ (bs.take i).any id = false) (fun s' => Inv X pins σ H s' ∧ bs.any id = true) := by
  rintro i s' ⟨I1, ha⟩
  obtain ⟨z, its, k, r, e⟩ := I1.hok q _ hq
  refine ⟨its.toArray, k, e, by rw [List.size_toArray, ← r.length], fun l1 => ?_⟩
  obtain ⟨y, hy, ry⟩ := vals_at r l1
  have li : i < bs.length := by
    have := (List.getElem?_eq_some_iff.mp hy).1
    omega
  have hb : bs[i]? = some bs[i] := List.getElem?_eq_getElem li
  refine wpAny_mono (h X.A.in1 pins s' σ H y x _ _ bs[i] ⟨hr.in1, rfl⟩ I1 ry rx (hD i y _ hy hb)) (fun r s2 z => ?_) fun _ _ x => x
  obtain ⟨rfl, I2⟩ := z
  cases hc : bs[i] with
  | false => exact .inl ⟨rfl, I2, take_anyB hb ha hc⟩
  | true =>
    refine .inr ⟨rfl, I2, ?_⟩
    rw [List.any_eq_true]
    exact ⟨bs[i], List.getElem_mem li, by rw [hc]; rfl⟩
theorem op_inLB (h : EqB X n D) (hr : Room (n + 1) X.A) : OpR X (compareOp .In) (rInLB D false) := by
  intro pins s σ H x y v u Q I rx ry hq
  obtain ⟨q, ys, bs, rfl, hq', hl, hD, qt⟩ := hq
  cases (show u = Value.ref q from ry)
  refine GQB.in_listB _ _ (lc_of h hr rx hq' hl hD) (fun s' ⟨I1, ha⟩ => ?_) (fun s' ⟨I1, ha⟩ => ?_) ⟨I, rfl⟩
  · rw [← hl, List.take_length] at ha
    rw [ha] at qt
    exact ⟨.bl false, H, I1, rfl, qt⟩
  · rw [ha] at qt
    exact ⟨.bl true, H, I1, rfl, qt⟩
theorem op_ninLB (h : EqB X n D) (hr : Room (n + 1) X.A) : OpR X (compareOp .NotIn) (rInLB D true) := by
  intro pins s σ H x y v u Q I rx ry hq
  obtain ⟨q, ys, bs, rfl, hq', hl, hD, qt⟩ := hq
  cases (show u = Value.ref q from ry)
  refine GQB.notIn_listB _ _ (lc_of h hr rx hq' hl hD) (fun s' ⟨I1, ha⟩ => ?_) (fun s' ⟨I1, ha⟩ => ?_) ⟨I, rfl⟩
  · rw [← hl, List.take_length] at ha
    rw [ha] at qt
    exact ⟨.bl true, H, I1, rfl, qt⟩
  · rw [ha] at qt
    exact ⟨.bl false, H, I1, rfl, qt⟩
variable {K : PySem.W.Frag}
theorem K_eqLF (hK : X.K = K) (hm : ∀ C, S C → Meth K C "__eq__" f) (F : FnR X.prog X.w K X.mg X.base CX0 n f sp) (hr : Room (n + 1) X.A) : OpR X (compareOp .Eq) (rEqLB (DFam K S sp)) := by
  subst hK
  exact op_eqLB (eqB_fam hm F) hr
theorem K_inLF (hK : X.K = K) (hm : ∀ C, S C → Meth K C "__eq__" f) (F : FnR X.prog X.w K X.mg X.base CX0 n f sp) (hr : Room (n + 1) X.A) : OpR X (compareOp .In) (rInLB (DFam K S sp) false) := by
  subst hK
  exact op_inLB (eqB_fam hm F) hr
theorem K_ninLF (hK : X.K = K) (hm : ∀ C, S C → Meth K C "__eq__" f) (F : FnR X.prog X.w K X.mg X.base CX0 n f sp) (hr : Room (n + 1) X.A) : OpR X (compareOp .NotIn) (rInLB (DFam K S sp) true) := by
  subst hK
  exact op_ninLB (eqB_fam hm F) hr
end
section
variable {H : Hp} {Q : VK} {D : EqvB} {x : V} {p q : Addr} {xs ys : List V} {bs : List Bool} {neg : Bool}
theorem r_eqLN (hp : H p = some (.lst xs)) (hq : H q = some (.lst ys)) (ne : xs.length ≠ ys.length) (h : Q (.bl false) H) : rEqLB D (.ref p) (.ref q) H Q := ⟨p, q, xs, ys, rfl, rfl, hp, hq, .inl ⟨ne, h⟩⟩
theorem r_eqLB (hp : H p = some (.lst xs)) (hq : H q = some (.lst ys)) (hb : PrsB D xs ys bs H) (h : Q (.bl (bs.all id)) H) : rEqLB D (.ref p) (.ref q) H Q := ⟨p, q, xs, ys, rfl, rfl, hp, hq, .inr ⟨bs, hb, h⟩⟩
theorem r_inLB (hq : H q = some (.lst ys)) (hl : bs.length = ys.length) (hD : ∀ (i : Nat) z b, ys[i]? = some z → bs[i]? = some b → D z x H b) (h : Q (.bl (bs.any id != neg)) H) : rInLB D neg x (.ref q) H Q := ⟨q, ys, bs, rfl, hq, hl, hD, h⟩
end
/-! for k in range(m, n) -/
section
variable {σ : St} {H : Hp} {g : TG} {tb : TS} {nx bk ct : St → Hp → Prop} {rt : VK}
theorem r_kForR2 {a : Int} {m : Nat} (Pv : Nat → St → Hp → Prop) (h0 : Pv 0 σ H)
    (hs : ∀ (i : Nat) σ H, i < m → Pv i σ H → g (.int (a + (i : Int))) σ H fun σ2 H2 => tb ⟨Pv (i + 1), rt, nx, Pv (i + 1)⟩ σ2 H2) (hd : ∀ σ H, Pv m σ H → nx σ H) : kFor g tb ⟨nx, rt, bk, ct⟩ σ (Itr a m) H := by
  refine r_kFor walk_range Pv h0 (fun _ _ _ _ _ => trivial) (fun i x σ H H' hi hp y => ?_) hd
  obtain ⟨rfl, rfl⟩ := y
  exact hs i σ _ hi hp
end
end Rd

set_option maxHeartbeats 4000000
/-! OpOwn: x & y .. by an own method; the truth of an object by an own __len__; x in list, by data; x == y, y of any type, of a family. -/
namespace PySem.W
open PySem PySem.Calls PyProof.Rows Builtin
section
variable {prog : Program} {w : World} {A : Around} {E : Value → Shared → Prop} {s : Shared} {K : Frag} {x C L f : Addr} {h₀ : Heap} {m : Str → Option Value} {ox : Obj} {od : Option Obj}
theorem truthy_len {Q : Bool → Shared → Prop} (F : Fr h₀ L s.heap m) (X₀ : K.In h₀) (I : InstAt s.heap x ox C od) (hs : findIn K (.ref C) "__bool__" = some none) (hl : findIn K (.ref C) "__len__" = some (some (.ref f))) (hf : isFn K (.ref f) = true)
    (h : wpAny (model prog w) A.in1 (call (.ref f) [.ref x]) (LenBack (fun v s' => ∃ n t, v = .int n t ∧ Q (n != 0) s')) E s) : wpAny (model prog w) A (truthy (.ref x)) Q E s := by
  have X := X₀.keeps F.keep
  unfold truthy
  refine wpAny_bind (m := callSpecial? (.ref x) (Str.ofString "__bool__")) (wpAny_bind (wpAny_bind (I.type.here ((looks_findIn X hs).here (wpAny_pure ?_)))))
  refine wpAny_bind (wpAny_bind (I.type.here ((looks_findIn X hl).here ?_)))
  refine wpAny_bind (wpAny_runValue (codeAny_builtin entry_len ?_))
  unfold Builtin.«len»
  refine wpAny_bind (m := oneArg "len" _) (wpAny_pure ?_)
  refine wpAny_bind (m := callSpecial? (.ref x) (Str.ofString "__len__")) (special_fn X I hl (beq_iff_eq.mp hf) (wpAny_mono h (fun r s' hr => ?_) fun _ _ y => y))
  cases r <;> first | exact hr.elim | skip
  rename_i n u
  obtain ⟨⟨h0, h1⟩, n', t', e, hq⟩ := hr
  refine wpAny_bind (wpAny_holding (wpAny_pure ?_))
  refine wpAny_bind (wpAny_letGo ?_)
  show wpAny _ _ (if n < 0 then _ else _) _ _ _
  rw [if_neg (by omega)]
  show wpAny _ _ (if n ≥ 2 ^ 63 then _ else _) _ _ _
  rw [if_neg (by omega)]
  cases e
  exact wpAny_bind (wpAny_mkInt (wpAny_pure (wpAny_pure hq)))
end
end PySem.W
namespace Rd
open PySem PySem.Spec L2 StX
/-! ### x & y .. -/
def rBinOwn (S : Addr → Prop) (sp : Sp) : R2 := fun x y H Q => ∃ a C dx fs b dy gs, x = .ref a ∧ y = .ref b ∧ S C ∧ H a = some (.ins C dx fs) ∧ H b = some (.ins C dy gs) ∧ sp [.ref a, .ref b] H (fun v H' => (∃ p, v = .ref p) ∧ Q v H') E0
/-! ### truth by __len__ -/
def rTruOwn (S : Addr → Prop) (sp : Sp) : V → Hp → (Bool → Hp → Prop) → Prop := fun x H Q => ∃ a C dx fs, x = .ref a ∧ S C ∧ H a = some (.ins C dx fs) ∧ sp [.ref a] H (fun z H' => ∃ k : Int, z = .int k ∧ 0 ≤ k ∧ k < 9223372036854775808 ∧ Q (k != 0) H') E0
def tTruOwn (S : Addr → Prop) (sp : Sp) (ta : TE) : TT := fun σ H Q => ta σ H fun x H' => rTruOwn S sp x H' Q
def tNotOwn (S : Addr → Prop) (sp : Sp) (ta : TE) : TE := fun σ H Q => ta σ H fun x H' => rTruOwn S sp x H' fun b H2 => Q (.bl (!b)) H2
/-! ### x in list, by data -/
def DData (K : PySem.W.Frag) : EqvB := fun x y H b => ∃ d e, Dp K H x d ∧ Dp K H y e ∧ SeqAt.shaped d = true ∧ SeqAt.shaped e = true ∧ PyData.eqv d e = b
section
variable {X : Cx} {n : Nat} {f : Addr} {sp : Sp} {S : Addr → Prop} {K : PySem.W.Frag}
theorem K_binFam (hK : X.K = K) {op : Operator} {nm : Str} (hn : PySem.dunder op.info.2 = nm) (hm : ∀ C, S C → Meth K C nm f) (hc : ∀ C, S C → PySem.W.selfFirst K C = true) (F : FnR X.prog X.w K X.mg X.base CX0 n f sp) (hr : Room n X.A) : OpR X (binaryOp op) (rBinOwn S sp) := by
  subst hK
  intro pins s σ H x y v u Q I rx ry h
  obtain ⟨a, C, dx, fs, b, dy, gs, rfl, rfl, hS, ea, eb, q⟩ := h
  cases (show v = Value.ref a from rx)
  cases (show u = Value.ref b from ry)
  obtain ⟨mA, O, _⟩ := ins_get I.hok ea
  obtain ⟨od, J, _⟩ := O.look
  obtain ⟨mB, O', _⟩ := ins_get I.hok eb
  obtain ⟨od', J', _⟩ := O'.look
  obtain ⟨m, hF⟩ := I.fr
  have M := hm C hS
  refine PySem.W.binop_K hF I.ok.mod.kin J J'.type (hc C hS) (hn ▸ M.at_) M.fn ?_
  refine wpAny_mono (wpAny_call (run_fnR (us := [.ref a, .ref b]) (vs := [.ref a, .ref b]) F hr pass0 I (.cons rfl (.cons rfl .nil)) q)) (fun r s' z => ?_) fun _ _ x => x
  obtain ⟨z', H', I', rz, ⟨p, rfl⟩, qz⟩ := z
  cases (show r = Value.ref p from rz)
  exact ⟨.ref p, H', I', rfl, qz⟩
theorem tru_own (hK : X.K = K) (hb : ∀ C, S C → PySem.W.findIn K (.ref C) "__bool__" = some none) (hm : ∀ C, S C → Meth K C "__len__" f) (F : FnR X.prog X.w K X.mg X.base CX0 n f sp) (hr : Room (n + 1) X.A) : TruR X (rTruOwn S sp) := by
  subst hK
  intro pins s σ H x v Q I rx h
  obtain ⟨a, C, dx, fs, rfl, hS, ea, q⟩ := h
  cases (show v = Value.ref a from rx)
  obtain ⟨mA, O, _⟩ := ins_get I.hok ea
  obtain ⟨od, J, _⟩ := O.look
  obtain ⟨m, hF⟩ := I.fr
  have M := hm C hS
  refine PySem.W.truthy_len hF I.ok.mod.kin J (hb C hS) M.at_ M.fn ?_
  refine wpAny_call (codeAny_mono (F X.A.in1 X.stack s H [.ref a] [.ref a] _ E0 hr.in1 I.env0.in1 (.cons rfl .nil) q) fun r s' z => ?_)
  cases r with
  | error e => exact False.elim z
  | ok fl =>
    cases fl with
    | ret u =>
      obtain ⟨z', H', I', rz, k, rfl, k0, k1, qz⟩ := I.after z
      obtain ⟨t, e⟩ := (show ∃ t, u = Value.int k t from rz)
      cases e
      exact ⟨⟨k0, k1⟩, k, _, rfl, H', I'.tok _, qz⟩
    | next => exact False.elim z
    | brk => exact False.elim z
    | cont => exact False.elim z
theorem eqB_data (hK : X.K = K) : EqB X 0 (DData K) := by
  subst hK
  intro A pins s σ H x y u v b sb I rx ry h
  obtain ⟨d, e, hd, he, sd, se, rfl⟩ := h
  obtain ⟨as, r1⟩ := Dp.reads I d x u hd rx
  obtain ⟨bs, r2⟩ := Dp.reads I e y v he ry
  exact SeqAt.eqAt_reads d e A s u v as bs r1 r2 (SeqAt.canLay_of_shaped sd) (SeqAt.canLay_of_shaped se) (SeqAt.room_of_shaped sd sb.room.units) X.prog X.w X.xe _ ⟨rfl, I⟩
theorem K_inD (hK : X.K = K) (hr : Room 1 X.A) : OpR X (compareOp .In) (rInLB (DData K) false) := op_inLB (eqB_data hK) hr
theorem K_ninD (hK : X.K = K) (hr : Room 1 X.A) : OpR X (compareOp .NotIn) (rInLB (DData K) true) := op_ninLB (eqB_data hK) hr
/-! not e, e an object with an own __len__ -/
open PyProof.Rows in
theorem pe_notOwn {a : Expr} {ta : TE} {pos : Pos} (hK : X.K = K) (hb : ∀ C, S C → PySem.W.findIn K (.ref C) "__bool__" = some none) (hm : ∀ C, S C → Meth K C "__len__" f) (F : FnR X.prog X.w K X.mg X.base CX0 n f sp) (hr : Room (n + 1) X.A) (ha : PE X a ta) : PE X (.UnaryOp .Not a pos) (tNotOwn S sp ta) := by
  refine ⟨fun pins s σ H Q I h => ?_⟩
  refine UnaryOp_ (thn (ha.run pins s σ H _ I h) fun v s1 ⟨x, H1, I1, r1, q1⟩ => ?_)
  refine not_of (wpAny_mono (tru_own hK hb hm F hr pins s1 σ H1 x v _ I1 r1 q1) (fun b s2 z => ?_) fun _ _ z => z)
  obtain ⟨H2, I2, q2⟩ := z
  exact ⟨.bl (!b), H2, I2, rfl, q2⟩
theorem pt_truOwn {a : Expr} {ta : TE} (hK : X.K = K) (hb : ∀ C, S C → PySem.W.findIn K (.ref C) "__bool__" = some none) (hm : ∀ C, S C → Meth K C "__len__" f) (F : FnR X.prog X.w K X.mg X.base CX0 n f sp) (hr : Room (n + 1) X.A) (ha : PE X a ta) (he : ∀ whole, isTrue a X.env whole = (do let v ← whole; standAt a.pos; holding [v] (truthy v)) := by intro _; rfl) :
    PT X a (tTruOwn S sp ta) := pt_truthR ha (tru_own hK hb hm F hr) he
end
/-! a, b, c = x, y, z -/
theorem r_par3 {i j l : Nat} {ta : TA} {σ : L2.St} {H : Hp} {nx bk ct : L2.St → Hp → Prop} {rt : VK} (q : ta σ H fun vs H1 => ∃ u v w, vs = [u, v, w] ∧ nx (((σ.set i (some u)).set j (some v)).set l (some w)) H1) : tPar3 i j l ta ⟨nx, rt, bk, ct⟩ σ H := q
/-! X() -/
theorem pe_makeR0 {X : Cx} {CX : CXT} {k : Nat} {f C : Addr} {sp : Sp} {E : XK} {x : Str} {p pos : Pos} (M : Mk X.K C f) (F : FnR X.prog X.w X.K X.mg X.base CX k f sp) (hr : Room (k + 1) X.A) (hg : Gl X x) (hm : X.mg x = some (.ref C)) (hx : Passes CX X E)
    (hdb : (x == ("__debug__" : Str)) = false := by decide) : PE X (.Call (.Name x p) [] [] pos) (tMakeR C sp E tNil) := by
  refine ⟨fun pins s σ H Q I h => ?_⟩
  refine wpAny_Call_Name_kw (ld_glob I hg hm ?_ hdb)
  exact PySem.W.callWith_K0 I.kIn M.kp (run_makeR (us := []) M F hr hx I .nil h)
section
variable {H : Hp} {Q : VK} {QB : Bool → Hp → Prop} {S : Addr → Prop} {sp : Sp} {C C' a b dx dy : Addr} {fs gs : List (Str × V)} {K : PySem.W.Frag} {ex ex' : List Addr} {x y : V} {d e : PyData} {n : Nat} {σ : L2.St} {ta : TE}
def kObj (Q : VK) : VK := fun v H' => (∃ p, v = .ref p) ∧ Q v H'
def kNum (QB : Bool → Hp → Prop) : VK := fun z H' => ∃ k : Int, z = .int k ∧ 0 ≤ k ∧ k < 9223372036854775808 ∧ QB (k != 0) H'
theorem r_binOwn (hS : S C) (e : H a = some (.ins C dx fs)) (e' : H b = some (.ins C dy gs)) (q : sp [.ref a, .ref b] H (kObj Q) E0) : rBinOwn S sp (.ref a) (.ref b) H Q := ⟨a, C, dx, fs, b, dy, gs, rfl, rfl, hS, e, e', q⟩
theorem r_kObj {p : Addr} (q : Q (.ref p) H) : kObj Q (.ref p) H := ⟨⟨p, rfl⟩, q⟩
theorem r_truOwn (hS : S C) (e : H a = some (.ins C dx fs)) (q : sp [.ref a] H (kNum QB) E0) : rTruOwn S sp (.ref a) H QB := ⟨a, C, dx, fs, rfl, hS, e, q⟩
theorem r_tTruOwn (q : ta σ H fun x H' => rTruOwn S sp x H' QB) : tTruOwn S sp ta σ H QB := q
theorem r_notOwn (q : ta σ H fun x H' => rTruOwn S sp x H' fun b H2 => Q (.bl (!b)) H2) : tNotOwn S sp ta σ H Q := q
theorem r_kNum {k : Int} (h0 : 0 ≤ k) (h1 : k < 9223372036854775808) (q : QB (k != 0) H) : kNum QB (.int k) H := ⟨k, rfl, h0, h1, q⟩
theorem ddata (hx : Dt ex H x d) (hy : Dt ex' H y e) (sx : Shp n d) (sy : Shp n e) (hn : n ≤ 64) : DData K x y H (PyData.eqv d e) := ⟨d, e, hx.dp, hy.dp, sx.ok hn, sy.ok hn, rfl⟩
end
end Rd

set_option maxHeartbeats 4000000
/-! TupX: of tuples: count of a text, sorted of texts; x in a list or tuple, all by data. -/
namespace Rd
open PySem PySem.Spec PyProof.Rows L2
open PySem.W (EachIs dataLe)
section
variable {X : Cx} {K : PySem.W.Frag}
def rCntT (K : PySem.W.Frag) : V → List V → Hp → VK → Prop := fun x xs H Q => ∃ (p : Addr) (ns : List Str) (k : Str), x = .ref p ∧ xs = [.str k] ∧ SqT K H p (ns.map V.str) ∧ Q (.int (ns.count k : Nat)) H
theorem K_countT (hK : X.K = K) : MtR X "tuple.count" (rCntT K) := by
  subst hK
  intro pins s σ H x xs v us Q I rx rxs h
  obtain ⟨p, ns, k, rfl, rfl, hs, q⟩ := h
  cases rx
  obtain ⟨u, rfl, ru⟩ := rxs.one
  obtain ⟨t, rfl⟩ := ru
  obtain ⟨its, rv, ⟨⟨cls, dd, data, sl⟩, ho, hc, n, hd⟩, hlen⟩ := I.tuple hs
  simp only at hc hd
  subst hc hd
  refine call_meets PySem.F.slot_tuple_count ⟨_, ho, rfl⟩ PySem.F.entry_tuple_count (PySem.F.args_tuple_count_2 _ _)
    (SeqAt.tuple_countAt p its.toArray n dd sl (.str k t) (eqz k)) ⟨ho, fun y hy => (eqz_gives rv y (by simpa using hy)).at _ _, ?_⟩
  have ec : its.toArray.toList.countP (eqz k) = ns.count k := eqz_count rv
  refine ⟨.int (ns.count k : Nat), H, I.tok _, ⟨s.toks, ?_⟩, q⟩
  show Value.int ((its.toArray.toList.countP (eqz k) : Nat) : Int) s.toks = Value.int ((ns.count k : Nat) : Int) s.toks
  rw [ec]
/-- sorted(a tuple of texts) -/
def rSortTt (K : PySem.W.Frag) : R1 := fun xs H Q => ∃ (a : Addr) (ns : List Str), xs = [.ref a] ∧ SqT K H a (ns.map V.str) ∧ ∀ p, H p = none → Q (.ref p) (upd H p (.lst ((srtT ns).map V.str)))
theorem K_sortTt (hK : X.K = K) (hu : X.A.units + 64 < cLine) : CallR X (.builtin "sorted") (rSortTt K) := by
  subst hK
  intro pins s σ H xs us Q I r h
  obtain ⟨a, ns, rfl, hs, q⟩ := h
  rw [Vals.ref1 r]
  obtain ⟨its, rv, ⟨o, ho, hc, n, hd⟩, hz⟩ := I.tuple hs
  have hz : its.length ≤ sizeLine := by
    have e := rv.length
    rw [List.length_map] at e
    rw [← e]
    simpa using hz
  have each : ∀ {ks : List Str} {us : List Value}, Vals (ks.map V.str) us → EachIs (fun u k => RelV (.str k) u) us ks := by
    intro ks
    induction ks with
    | nil => intro us h; cases h; exact .nil
    | cons k ks ih =>
      intro us h
      cases h with
      | cons r t => exact .cons r (ih t)
  have e0 := each rv
  refine Calls.call_function_entry kind_sorted plain_sorted entry_sorted (args_sorted1 _) ?_
  unfold Builtin.«sorted»
  refine wpAny_bind (m := checkCount "sorted" 1 1 _) (wpAny_pure ?_)
  refine wpAny_bind (wpAny_collect_seq (A := X.A.in1) a (.inr rfl) ho hc hd (fun h1 k1 => ?_) (by simpa using hz))
  rw [List.toList_toArray]
  refine wpAny_bind (wpAny_newList ?_ (by first | exact hz | simpa using hz))
  have new : (h1.push (seqObj "list" its.toArray 0)).get? h1.objs.size = some (seqObj "list" its.toArray 0) := Heap.get?_push_size _ rfl
  have er : EachIs (fun v b => ∃ as, Reads (h1.push (seqObj "list" its.toArray 0)) v (PyData.str b) as ∧ h1.objs.size ∉ as) its ns := e0.mono fun v b r => by
    obtain ⟨tk, rfl⟩ := r
    exact ⟨[], .str _ _, nofun⟩
  refine wpAny_bind (wpAny_holding (PySem.W.list_sort_data (s := { s with heap := h1.push (seqObj "list" its.toArray 0) }) new e0 er (PySem.W.AllAlike.of fun _ _ => rfl) (PySem.W.Sortable.others fun b => ⟨nofun, nofun⟩) (by rw [← e0.length]; exact hz) (fun b _ => ?_) fun out h1' h2 => ?_))
  · have h1 : X.A.in1.units ≤ X.A.units + 1 := by first | exact Nat.le_refl _ | simp
    show X.A.in1.units + 1 + 0 < cLine
    omega
  obtain ⟨c, hc'⟩ := sortedHeap_at (vs := its) (out := out.toArray) new
  have top1 : ∀ o, h1.get? h1.objs.size ≠ some o := fun o z => Nat.lt_irrefl _ (Heap.lt_size z)
  have hn0 : s.heap.get? h1.objs.size = none := by
    cases z : s.heap.get? h1.objs.size with
    | none => rfl
    | some o => exact absurd (k1 _ _ z) (top1 o)
  have hn : H h1.objs.size = none := (HOk.kept I.hok k1).fresh (Nat.le_refl _)
  have hv : Vals ((srtT ns).map V.str) out := by
    have go : ∀ {us : List Value} {bs : List Str}, EachIs (fun u k => RelV (.str k) u) us bs → Vals (bs.map V.str) us := by
      intro us bs h
      induction h with
      | nil => exact .nil
      | cons r _ ih => exact .cons r ih
    exact go h2
  have hlen : ((srtT ns).map V.str).length ≤ sizeLine := by
    rw [List.length_map, (srtT_perm ns).length_eq, ← e0.length]
    exact hz
  refine wpAny_pure ⟨_, rfl, ?_⟩
  exact ⟨.ref _, upd H h1.objs.size (.lst ((srtT ns).map V.str)), I.laidN (t' := s.toks) (fun b u e => by
    have q := k1 b u e
    have hlt := Heap.lt_size q
    show (sortedHeap (h1.push (seqObj "list" its.toArray 0)) h1.objs.size its out.toArray).get? b = some u
    rw [sortedHeap_old (Nat.ne_of_lt hlt) (by rw [size_push']; exact Nat.lt_succ_of_lt hlt)]
    exact Heap.get?_push_of_some _ q) hn0 hn ⟨hlen, out, c, hv, hc'⟩, rfl, q _ hn⟩
/-- x in y, y a list or a tuple, all read as data -/
def rInQ (K : PySem.W.Frag) (neg : Bool) : R2 := fun x y H Q => ∃ (d : PyData) (es : List PyData), Dp K H x d ∧ (Dp K H y (.list es) ∨ Dp K H y (.tuple es)) ∧ (d.canLay0 = true ∧ d.depth ≤ 60) ∧ PyData.canLayAll0 es = true ∧ Q (.bl (if neg then !(es.any fun e => PyData.eqv e d) else es.any fun e => PyData.eqv e d)) H

theorem all_plain : ∀ {es : List PyData}, PyData.canLayAll0 es = true → PyData.plainAll es = true
  | [], _ => rfl
  | e :: es, h => by
    have h' : (e.canLay0 && PyData.canLayAll0 es) = true := h
    obtain ⟨h1, h2⟩ := Bool.and_eq_true_iff.mp h'
    show (e.plain && PyData.plainAll es) = true
    rw [PyData.plain_of_canLay0 e h1, all_plain h2]
    rfl
theorem K_inQ (hK : X.K = K) (hu : X.A.units + 64 < cLine) : OpR X (compareOp .In) (rInQ K false) := by
  subst hK
  intro pins s σ H x y v u Q I rx ry hq
  obtain ⟨d, es, hd, hy, sd, se, q⟩ := hq
  obtain ⟨as, r1⟩ := Dp.reads I d x v hd rx
  have dd := sd.2
  have mm : X.A.units + 1 + min (PyData.depthAll es) d.depth < cLine := by
    have := Nat.min_le_right (PyData.depthAll es) d.depth
    omega
  have dp := PyData.plain_of_canLay0 d sd.1
  rcases hy with hy | hy
  · obtain ⟨bs, r2⟩ := Dp.reads I _ y u hy ry
    exact SeqAt.in_list_data r2 r1 (all_plain se) dp mm ⟨.bl _, H, I, rfl, q⟩
  · obtain ⟨bs, r2⟩ := Dp.reads I _ y u hy ry
    exact SeqAt.in_tuple_data r2 r1 (all_plain se) dp mm ⟨.bl _, H, I, rfl, q⟩
theorem K_ninQ (hK : X.K = K) (hu : X.A.units + 64 < cLine) : OpR X (compareOp .NotIn) (rInQ K true) := by
  subst hK
  intro pins s σ H x y v u Q I rx ry hq
  obtain ⟨d, es, hd, hy, sd, se, q⟩ := hq
  obtain ⟨as, r1⟩ := Dp.reads I d x v hd rx
  have dd := sd.2
  have mm : X.A.units + 1 + min (PyData.depthAll es) d.depth < cLine := by
    have := Nat.min_le_right (PyData.depthAll es) d.depth
    omega
  have dp := PyData.plain_of_canLay0 d sd.1
  rcases hy with hy | hy
  · obtain ⟨bs, r2⟩ := Dp.reads I _ y u hy ry
    exact SeqAt.notIn_list_data r2 r1 (all_plain se) dp mm ⟨.bl _, H, I, rfl, q⟩
  · obtain ⟨bs, r2⟩ := Dp.reads I _ y u hy ry
    exact SeqAt.notIn_tuple_data r2 r1 (all_plain se) dp mm ⟨.bl _, H, I, rfl, q⟩
end
section
variable {K : PySem.W.Frag} {H : Hp} {Q : VK} {x y : V} {d : PyData} {es : List PyData} {ex ex' : List Addr} {n : Nat} {p : Addr}
theorem r_inQ (hx : Dt ex H x d) (hy : Dt ex' H y (.list es) ∨ Dt ex' H y (.tuple es)) (sx : Shp n d) (se : ∀ e ∈ es, Shp n e) (hn : n ≤ 60) (q : Q (.bl (es.any fun e => PyData.eqv e d)) H) : rInQ K false x y H Q :=
  ⟨d, es, hx.dp, hy.imp (fun z => z.dp) fun z => z.dp, ⟨sx.1, Nat.le_trans sx.2 hn⟩, (Shp.all se).1, q⟩
theorem r_ninQ (hx : Dt ex H x d) (hy : Dt ex' H y (.list es) ∨ Dt ex' H y (.tuple es)) (sx : Shp n d) (se : ∀ e ∈ es, Shp n e) (hn : n ≤ 60) (q : Q (.bl (!(es.any fun e => PyData.eqv e d))) H) : rInQ K true x y H Q :=
  ⟨d, es, hx.dp, hy.imp (fun z => z.dp) fun z => z.dp, ⟨sx.1, Nat.le_trans sx.2 hn⟩, (Shp.all se).1, q⟩
theorem r_cntT {ns : List Str} {k : Str} (h : SqT K H p (ns.map V.str)) (q : Q (.int (ns.count k : Nat)) H) : rCntT K (.ref p) [.str k] H Q := ⟨p, ns, k, rfl, rfl, h, q⟩
theorem r_sortTt {ns : List Str} (h : SqT K H p (ns.map V.str)) (q : ∀ l H', H l = none → Kp [] H H' → H' l = some (.lst ((srtT ns).map V.str)) → Q (.ref l) H') : rSortTt K [.ref p] H Q := ⟨p, ns, rfl, h, fun l n => q l _ n (Kp.new n) upd_same⟩
end
end Rd

set_option maxHeartbeats 4000000
/-! TupF: tuples that are tracked as whole objects (so that it is known that they have no dict of their own), their method count; rows of texts. -/
namespace Rd
open PySem PySem.Spec PyProof.Rows L2
section
variable {X : Cx} {K : PySem.W.Frag}
/-- a whole tuple -/
def Tob (its : List Value) : Obj := { cls := .type "tuple", data := .seq its.toArray }
theorem tob_ok {P : Program} {w : World} {H : Hp} {h : Heap} {p : Addr} {xs : List V} {its : List Value} (hl : xs.length ≤ sizeLine) (r : Vals xs its) (e : h.get? p = some (Tob its)) : ObjOk P w H h p (.frz (Tob its) (.tup xs)) :=
  ⟨e, hl, its, r, ⟨_, e, rfl, _, rfl⟩⟩
def kTupF (Q : VK) : List V → Hp → Prop := fun xs H1 => xs.length ≤ sizeLine ∧ ∀ p its, H1 p = none → Q (.ref p) (upd H1 p (.frz (Tob its) (.tup xs)))
def tTupF (t : TA) : TE := fun σ H Q => t σ H (kTupF Q)
theorem pe_tupF {es : List Expr} {t : TA} {x1 : Nat} {pos : Pos} (h : PA X es t) : PE X (.Tuple es x1 pos) (tTupF t) := by
  refine ⟨fun pins s σ H Q I hq => ?_⟩
  refine wpAny_Tuple_spliced (thn (h.run pos pins s σ H _ I hq) fun us s1 ⟨xs, H1, I1, r, z, q⟩ => ⟨by rw [← r.length]; exact z, ?_⟩)
  have hf : H1 s1.heap.objs.size = none := I1.hok.fresh (Nat.le_refl _)
  exact ⟨.ref s1.heap.objs.size, _, I1.laid (t' := s1.toks) (fun b u e => Heap.get?_push_of_some _ e) (Nat.le_refl _) (tob_ok z r (Heap.get?_push_size _ rfl)), rfl, q _ us hf⟩
/-- t + u -/
def rCatF (K : PySem.W.Frag) : R2 := fun x y H Q => ∃ a b xs ys, x = .ref a ∧ y = .ref b ∧ SqT K H a xs ∧ SqT K H b ys ∧ xs ≠ [] ∧ xs.length + ys.length ≤ sizeLine ∧
  (ys = [] → Q (.ref a) H) ∧ (ys ≠ [] → ∀ p its, H p = none → Q (.ref p) (upd H p (.frz (Tob its) (.tup (xs ++ ys)))))
theorem K_catF (hK : X.K = K) : OpR X (binaryOp .Add) (rCatF K) := by
  subst hK
  intro pins s σ H x y v u Q I rx ry h
  obtain ⟨a, b, xs, ys, rfl, rfl, ha, hb, hx, hz, q1, q2⟩ := h
  cases rx
  cases ry
  obtain ⟨its, r1, p1, _⟩ := I.tuple ha
  obtain ⟨its2, r2, p2, _⟩ := I.tuple hb
  refine HT.cat_tup p1 p2 (fun z => hx (r1.nil_iff.mp z)) (fun z => ⟨.ref a, H, I, rfl, q1 (r2.nil_iff.mp z)⟩) (fun z => ?_) (by rw [← r1.length, ← r2.length]; exact hz)
  exact ⟨.ref s.heap.objs.size, _, I.laid (t' := s.toks) (fun b ob q => Heap.get?_push_of_some _ q) (Nat.le_refl _) (tob_ok (its := its ++ its2) (by rw [List.length_append]; exact hz) (r1.append r2) (Heap.get?_push_size _ rfl)), rfl, q2 (fun w => z (r2.nil_iff.mpr w)) _ _ (I.hok.fresh (Nat.le_refl _))⟩
/-! a method of such a tuple -/
def tMT (r : V → List V → Hp → VK → Prop) (to : TE) (t : TA) : TE := fun σ H Q => to σ H fun x H1 => (∃ p its xs, x = V.ref p ∧ H1 p = some (.frz (Tob its) (.tup xs))) ∧ t σ H1 fun ys H2 => r x ys H2 Q
variable {o e : Expr} {es : List Expr} {to : TE} {t : TA} {apos cpos : Pos} {name : Str} {id : String} {r : V → List V → Hp → VK → Prop}
theorem pe_mT (slot : Slot "tuple" name id) (hty : typeOf (.builtin id) = pure (.type "method_descriptor")) (hm : MtR X id r) (ho : PE X o to) (ha : PA X (e :: es) t)
    (hbase : attributeBase o name X.env (eval o X.env) = eval o X.env := by rfl)
    (hfew : ((backTo cpos (starEach (e :: es) X.env)).all (fun x => !x.1) && (backToKw cpos (keywordEach [] X.env)).all (fun x => x.1.isSome)
      && decide ((e :: es).length + ([] : List Keyword).length + (if ([] : List Keyword).isEmpty then 0 else 1) < 30)) = true := by rfl)
    (hline : (apos.endLine == cpos.line) = true := by rfl) (hs : starEach (e :: es) X.env = (false, eval e X.env) :: starEach es X.env := by rfl) (hplain : (backTo cpos (starEach es X.env)).any (·.1) = false := by rfl) :
    PE X (.Call (.Attribute o name apos) (e :: es) [] cpos) (tMT r to t) := by
  refine ⟨fun pins s σ H Q I h => ?_⟩
  refine wpAny_Call_method_late hbase hfew hline rfl (thn (ho.run pins s σ H _ I h) fun v s1 ⟨x, H1, I1, r1, ty, q1⟩ => ?_)
  obtain ⟨p, its, xs, rfl, hp⟩ := ty
  obtain ⟨hob, _⟩ := I1.hok p _ hp
  cases r1
  refine ⟨"tuple", id, PySem.F.plainAttrs_tuple, slot, hty, ⟨_, hob, rfl⟩, fun b z => ?_, ?_⟩
  · cases z
    exact ⟨_, hob, rfl⟩
  have hA := ha.run cpos pins s1 σ H1 _ I1 q1
  rw [hs] at hA ⊢
  refine Calls.callWith_builtin (by show (false || (backTo cpos (starEach es X.env)).any (·.1)) = false; rw [hplain] <;> rfl) (Calls.evalArgs_plain ?_)
  exact thn hA fun us s2 ⟨vs, H2, I2, r2, q2⟩ => hm pins s2 σ H2 (.ref p) vs (.ref p) us Q I2 rfl r2 q2
end
/-! rows of texts -/
/-- a row: a tuple of texts; one that is not empty is tracked whole -/
def Row (K : PySem.W.Frag) (H : Hp) (a : Addr) (ws : List Str) : Prop := SqT K H a (ws.map V.str) ∧ (∃ o, H a = some o ∧ ∀ l, o ≠ .lst l) ∧ (ws ≠ [] → ∃ its, H a = some (.frz (Tob its) (.tup (ws.map V.str))))
theorem Row.kp {K : PySem.W.Frag} {ex : List Addr} {H H' : Hp} {a : Addr} {ws : List Str} (h : Row K H a ws) (k : Kp ex H H') (m : a ∉ ex) : Row K H' a ws := by
  obtain ⟨h1, ⟨o, e, n⟩, h3⟩ := h
  exact ⟨sqt_kp h1 k m, ⟨o, k _ _ e m, n⟩, fun z => let ⟨its, e'⟩ := h3 z; ⟨its, k _ _ e' m⟩⟩
/-- a row stays where a list changes -/
theorem Row.but {K : PySem.W.Frag} {H H' : Hp} {a p : Addr} {ws : List Str} {xs : List V} (h : Row K H a ws) (k : Kp [p] H H') (e : H p = some (.lst xs)) : Row K H' a ws := by
  refine h.kp k (not_one fun z => ?_)
  subst z
  obtain ⟨_, ⟨o, e', n⟩, _⟩ := h
  rw [e] at e'
  exact n _ (Option.some.inj e').symm
theorem Row.ne {K : PySem.W.Frag} {H : Hp} {a p : Addr} {ws : List Str} (h : Row K H a ws) (n : H p = none) : a ≠ p := fun z => by
  subst z
  obtain ⟨_, ⟨o, e', _⟩, _⟩ := h
  rw [n] at e'
  cases e'
inductive Rows (K : PySem.W.Frag) (H : Hp) : List V → List (List Str) → Prop
  | nil : Rows K H [] []
  | cons {a : Addr} {ws : List Str} {xs : List V} {wss : List (List Str)} : Row K H a ws → Rows K H xs wss → Rows K H (.ref a :: xs) (ws :: wss)
section
variable {K : PySem.W.Frag} {H H' : Hp} {xs ys : List V} {wss vss : List (List Str)}
theorem Rows.length (h : Rows K H xs wss) : xs.length = wss.length := by
  induction h with
  | nil => rfl
  | cons _ _ ih => exact congrArg (· + 1) ih
theorem Rows.kp (h : Rows K H xs wss) (k : Kp [] H H') : Rows K H' xs wss := by
  induction h with
  | nil => exact .nil
  | cons r _ ih => exact .cons (r.kp k not_nil) ih
theorem Rows.but {p : Addr} {zs : List V} (h : Rows K H xs wss) (k : Kp [p] H H') (e : H p = some (.lst zs)) : Rows K H' xs wss := by
  induction h with
  | nil => exact .nil
  | cons r _ ih => exact .cons (r.but k e) ih
/-- an address that is new to the heap is no row's -/
theorem Rows.new {p : Addr} (h : Rows K H xs wss) (k : Kp [p] H H') (n : H p = none) : Rows K H' xs wss := by
  induction h with
  | nil => exact .nil
  | cons r _ ih => exact .cons (r.kp k (not_one (r.ne n))) ih
theorem Rows.append (h : Rows K H xs wss) (g : Rows K H ys vss) : Rows K H (xs ++ ys) (wss ++ vss) := by
  induction h with
  | nil => exact g
  | cons r _ ih => exact .cons r ih
theorem Rows.snoc {a : Addr} {ws : List Str} (h : Rows K H xs wss) (g : Row K H a ws) : Rows K H (xs ++ [.ref a]) (wss ++ [ws]) := h.append (.cons g .nil)
theorem Rows.at {i : Nat} {v : V} (h : Rows K H xs wss) (e : xs[i]? = some v) : ∃ a ws, v = .ref a ∧ wss[i]? = some ws ∧ Row K H a ws := by
  induction h generalizing i with
  | nil => simp at e
  | cons r _ ih =>
    cases i with
    | zero =>
      cases e
      exact ⟨_, _, rfl, rfl, r⟩
    | succ i => exact ih (by simpa using e)
theorem dp_txts : ∀ ws : List Str, DpAll K H (ws.map V.str) (ws.map PyData.str)
  | [] => .nil
  | w :: ws => .cons (.str w) (dp_txts ws)
theorem Row.dp {a : Addr} {ws : List Str} (h : Row K H a ws) : Dp K H (.ref a) (.tuple (ws.map .str)) := .tup h.1 (dp_txts ws)
theorem Rows.dp (h : Rows K H xs wss) : DpAll K H xs (wss.map fun ws => .tuple (ws.map .str)) := by
  induction h with
  | nil => exact .nil
  | cons r _ ih => exact .cons r.dp ih
end
section
variable {H : Hp} {Q : VK} {K : PySem.W.Frag} {σ : L2.St} {ta : TA} {to : TE} {xs ys : List V} {a b : Addr} {r : V → List V → Hp → VK → Prop}
theorem r_tupF (q : ta σ H (kTupF Q)) : tTupF ta σ H Q := q
theorem r_kTupF {ws : List Str} (h : xs = ws.map V.str) (hl : xs.length ≤ sizeLine) (hn : ws ≠ []) (q : ∀ p H', H p = none → Kp [] H H' → Row K H' p ws → Q (.ref p) H') : kTupF Q xs H := by
  subst h
  exact ⟨hl, fun p its n => q p _ n (Kp.new n) ⟨.inl (.inr ⟨_, upd_same⟩), ⟨_, upd_same, fun _ => nofun⟩, fun _ => ⟨its, upd_same⟩⟩⟩
theorem r_catF {ws vs : List Str} (ha : Row K H a ws) (hb : Row K H b vs) (hn : ws ≠ []) (hz : ws.length + vs.length ≤ sizeLine) (q : ∀ p H', Kp [] H H' → Row K H' p (ws ++ vs) → Q (.ref p) H') : rCatF K (.ref a) (.ref b) H Q := by
  refine ⟨a, b, _, _, rfl, rfl, ha.1, hb.1, fun z => hn (List.map_eq_nil_iff.mp z), by rw [List.length_map, List.length_map]; exact hz, fun z => ?_, fun z p its n => ?_⟩
  · have e : vs = [] := List.map_eq_nil_iff.mp z
    subst e
    refine q a H (Kp.refl _ _) ?_
    rw [List.append_nil]
    exact ha
  · have e : ws.map V.str ++ vs.map V.str = (ws ++ vs).map V.str := (List.map_append ..).symm
    rw [e]
    exact q p _ (Kp.new n) ⟨.inl (.inr ⟨_, upd_same⟩), ⟨_, upd_same, fun _ => nofun⟩, fun _ => ⟨its, upd_same⟩⟩
def kMT (r : V → List V → Hp → VK → Prop) (t : TA) (σ : L2.St) (Q : VK) : VK := fun x H1 => (∃ p its xs, x = V.ref p ∧ H1 p = some (.frz (Tob its) (.tup xs))) ∧ t σ H1 fun ys H2 => r x ys H2 Q
theorem r_mT (q : to σ H (kMT r ta σ Q)) : tMT r to ta σ H Q := q
theorem r_kMT {ws : List Str} (h : Row K H a ws) (hn : ws ≠ []) (q : ta σ H fun ys H2 => r (.ref a) ys H2 Q) : kMT r ta σ Q (.ref a) H := by
  obtain ⟨its, e⟩ := h.2.2 hn
  exact ⟨⟨a, its, _, rfl, e⟩, q⟩
end
end Rd

set_option linter.all false
set_option maxHeartbeats 4000000
/-! SetTp: set(xs) of a list of tuples of texts, and sorted of it. The table's part is the layer's (TabOk, relaid_ok, ..); here the keys are texts. -/
namespace Rd
open PySem PySem.Spec PyProof.Rows L2
open PySem.W (EachIs dataLe)
abbrev IsTS (P : Program) (w : World) (h : Heap) (k : List Str) (a : Addr) : Prop := IsTupleKey (strKind P w) h k a
abbrev hsT (P : Program) (w : World) (k : List Str) : Int := tupleKeyHash (strKind P w) k
section
variable {P : Program} {w : World} {A : Around} {E : Value → Shared → Prop} {s : Shared}
theorem items_txt {k : List Str} {vs : List Value} (h : ItemsAre (strKind P w) k vs) : ∀ v ∈ vs, ∃ x t, v = Value.str x t := by
  induction h with
  | nil => exact fun v hv => nomatch hv
  | cons h1 _ ih =>
    intro v hv
    rcases List.mem_cons.mp hv with e | hv
    · obtain ⟨t, e2⟩ := Value.isStrOf_shape h1
      exact ⟨_, t, e.trans e2⟩
    · exact ih v hv
theorem plain_txt (n : Nat) (x : Str) (t : Tok) : ofAClassStatement n (.str x t) = pure false ∧ hashByValue n (.str x t) = pure false := ⟨by cases n <;> rfl, hashByValue_scannable n rfl⟩
/-- a tuple of texts is of no class of a text's own -/
theorem noClass_tp {k : List Str} {b : Addr} {Q : Bool → Shared → Prop} (hk : IsTS P w s.heap k b) (h : Q false s) : wpAny (model P w) A (ofAClassStatement 8 (.ref b)) Q E s := by
  have hT := hk.typeIs
  obtain ⟨o, items, n, ho, _, hd, hi⟩ := hk
  unfold ofAClassStatement
  refine wpAny_bind (wpAny_typeOf hT ?_)
  dsimp only
  have e : (("tuple" : String) == "tuple") = true := by decide
  simp only [e, if_true, Bool.not_true, Bool.false_eq_true, if_false]
  try refine wpAny_bind (wpAny_pure ?_)
  try simp only [Bool.not_true, Bool.false_eq_true, if_false]
  refine wpAny_bind (wpAny_seqItems ho hd ?_)
  dsimp only
  refine wpAny_bind ?_
  show wpAny _ _ (forIn items _ _) _ _ s
  rw [← Array.forIn_toList]
  refine wpAny_forIn_list _ (fun rest r s' => r.1 = none ∧ s' = s ∧ ∀ v ∈ rest, ∃ x t, v = Value.str x t) _ (fun v rest r s' ⟨hr, es, al⟩ => ?_) (fun r s' ⟨hr, es, _⟩ => ?_) _ _ ⟨rfl, rfl, items_txt hi⟩
  · subst es
    obtain ⟨x, t, rfl⟩ := al v List.mem_cons_self
    rw [(plain_txt _ x t).1]
    refine wpAny_bind (wpAny_pure ?_)
    simp only [Bool.false_eq_true, if_false]
    exact wpAny_pure ⟨rfl, rfl, fun u m => al u (List.mem_cons_of_mem _ m)⟩
  · obtain ⟨r1, r2⟩ := r
    subst es
    simp only at hr
    subst hr
    exact wpAny_pure h
theorem byValue_tp {k : List Str} {b : Addr} {Q : Bool → Shared → Prop} (hk : IsTS P w s.heap k b) (h : ∀ c, Q c s) : wpAny (model P w) A (hashByValue 8 (.ref b)) Q E s := by
  have hT := hk.typeIs
  obtain ⟨o, items, n, ho, _, hd, hi⟩ := hk
  unfold hashByValue
  refine wpAny_bind (wpAny_specialOf hT F.slot_tuple_hash.lookup ?_)
  show wpAny _ _ (seqItems? (.ref b) >>= _) _ _ s
  refine wpAny_bind (wpAny_seqItems ho hd ?_)
  refine wpAny_bind ?_
  show wpAny _ _ (forIn items _ _) _ _ s
  rw [← Array.forIn_toList]
  have al := items_txt hi
  revert al
  cases items.toList with
  | nil =>
    intro _
    rw [List.forIn_nil]
    exact wpAny_pure (wpAny_pure (h true))
  | cons v vs =>
    intro al
    obtain ⟨x, t, rfl⟩ := al v List.mem_cons_self
    rw [List.forIn_cons]
    refine wpAny_bind ?_
    rw [(plain_txt _ x t).2]
    refine wpAny_bind (wpAny_pure ?_)
    simp only [Bool.not_false, if_true]
    exact wpAny_pure (wpAny_pure (wpAny_pure (h false)))
theorem unseen_tp {k : List Str} {b : Addr} {Q : Bool → Shared → Prop} (hk : IsTS P w s.heap k b) {ys : List Value} (hy : ∀ y ∈ ys, ∃ k' c, y = Value.ref c ∧ IsTS P w s.heap k' c) (h : Q false s) : wpAny (model P w) A (searchCouldBeSeen (.ref b) ys) Q E s := by
  unfold searchCouldBeSeen
  refine wpAny_bind ?_
  refine wpAny_forIn_list _ (fun rest r s' => r.1 = none ∧ s' = s ∧ ∀ y ∈ rest, ∃ k' c, y = Value.ref c ∧ IsTS P w s.heap k' c) _ (fun v rest r s' ⟨hr, es, al⟩ => ?_) (fun r s' ⟨hr, es, _⟩ => ?_) _ _ ⟨rfl, rfl, hy⟩
  · subst es
    obtain ⟨k', c, rfl, hc⟩ := al v List.mem_cons_self
    have al' : ∀ y ∈ rest, ∃ k' c, y = Value.ref c ∧ IsTS P w s'.heap k' c := fun u m => al u (List.mem_cons_of_mem _ m)
    dsimp only
    by_cases hv : (b == c || (carriedByValue (.ref b) && carriedByValue (.ref c))) = true
    · exact wp_if_pos hv (wpAny_pure ⟨rfl, rfl, al'⟩)
    · refine wp_if_neg hv (wpAny_bind (wpAny_eqIsQuiet_tuple hk ?_))
      simp only [Bool.not_true, Bool.false_eq_true, if_false]
      refine wpAny_bind (wpAny_eqIsQuiet_tuple hc ?_)
      simp only [Bool.not_true, Bool.false_eq_true, if_false]
      refine wpAny_bind (noClass_tp hk ?_)
      simp only [Bool.false_eq_true, if_false]
      refine wpAny_bind (noClass_tp hc ?_)
      simp only [Bool.false_eq_true, if_false]
      exact wpAny_pure ⟨rfl, rfl, al'⟩
  · obtain ⟨r1, r2⟩ := r
    subst es
    simp only at hr
    subst hr
    exact wpAny_pure h
abbrev TpL : Type := List (Addr × List Str)
def rowsT (P : Program) (w : World) (L : TpL) : List (Int × Value) := L.map fun p => (hsT P w p.2, Value.ref p.1)
structure TpR (P : Program) (w : World) (h : Heap) (a : Addr) (L : TpL) (es : Array (Int × Value)) (ep : Nat) (t : SetTable) : Prop where
  ob : ∃ o, h.get? a = some o ∧ o.ExactSet ∧ o.data = .set es ep t
  rows : es.toList = rowsT P w L
  tab : TabOk t (L.map fun p => hsT P w p.2)
  nd : (L.map (·.2)).Nodup
  tup : ∀ p ∈ L, IsTS P w h p.2 p.1
  led : w.params.followText "set-order" = true ∨ t.led = true
  room : L.length * 5 < t.mask * 3
  few : L.length < 64
variable {a : Addr} {L : TpL} {es : Array (Int × Value)} {ep : Nat} {t : SetTable}
theorem rowsT_len (e : es.toList = rowsT P w L) : es.size = L.length := by
  rw [← Array.length_toList, e]
  exact List.length_map _
theorem TpR.fits {h : Heap} (R : TpR P w h a L es ep t) : t.fits es.size = true := by
  have h1 := R.tab.sz
  rw [List.length_map] at h1
  have h2 := rowsT_len R.rows
  have h3 := R.room
  unfold SetTable.fits SetTable.fill
  rw [R.tab.dm, Bool.and_eq_true, beq_iff_eq, decide_eq_true_eq]
  show t.place.size = es.size ∧ t.place.size + 0 ≤ t.mask
  omega
theorem TpR.entry (R : TpR P w s.heap a L es ep t) {i : Nat} {p : Addr × List Str} (h : L[i]? = some p) : es[i]? = some (hsT P w p.2, Value.ref p.1) := by
  rw [← Array.getElem?_toList, R.rows]
  unfold rowsT
  rw [List.getElem?_map, h] <;> rfl
theorem TpR.whole (R : TpR P w s.heap a L es ep t) : ¬ t.gaveWay = true := by
  unfold SetTable.gaveWay
  rw [mask_odd R.tab.mok]
  decide
/-- how a probe goes on -/
abbrev pr (t : SetTable) (h : Int) (c : Nat) : SetTable.Probe := nth t.mask (runAt t.mask (SetTable.bits h % (t.mask + 1)) (SetTable.bits h)) c
theorem pr_add (t : SetTable) (h : Int) (c q : Nat) : nth t.mask (pr t h c) q = pr t h (c + q) := (nth_add t.mask c _ q).symm
theorem pr_clean (t : SetTable) (h : Int) (c : Nat) : (pr t h c).dummy = none := by
  have key : ∀ (n : Nat) (p : SetTable.Probe), p.dummy = none → (nth t.mask p n).dummy = none := by
    intro n
    induction n with
    | zero => exact fun p h => h
    | succ n ih =>
      refine fun p h => ih (adv t.mask p) ?_
      unfold adv
      split <;> exact h
  exact key c _ rfl

/-- the search goes on from the c-th probe; K is the first free one -/
theorem seek_from (R : TpR P w s.heap a L es ep t) {x : Addr} {k : List Str} (hx : IsTS P w s.heap k x) (hu : A.units < cLine) {K : Nat} (hKf : K < 10 * SetTable.turns t.mask)
    (hK : way t.mask (hsT P w k) K ∉ t.place.toList) (hKb : ∀ c, c < K → way t.mask (hsT P w k) c ∈ t.place.toList) {Q : SetFound → Shared → Prop}
    (hin : k ∈ L.map (·.2) → Q (.there none) s) (hout : k ∉ L.map (·.2) → Q (.free (way t.mask (hsT P w k) K) false) s) :
    ∀ (f c : Nat) (stand : Option SetTable.Probe), stand.getD (t.probeStart (hsT P w k)) = pr t (hsT P w k) c → c ≤ K → K - c < f →
      (∀ (i : Nat) p, L[i]? = some p → p.2 = k → ∃ c', c ≤ c' ∧ c' < K ∧ t.place.toList[i]? = some (way t.mask (hsT P w k) c')) →
      wpAny (model P w) A (setSearchFrom a (.ref x) (hsT P w k) true f stand) Q E s
  | 0, c, stand, _, _, hf, _ => absurd hf (Nat.not_lt_zero _)
  | f + 1, c, stand, hst, hc, hf, hre => by
    obtain ⟨o, ho, hex, hd⟩ := R.ob
    rw [setSearchFrom_succ]
    refine wpAny_bind (wpAny_setState_of ho hd R.fits ?_)
    dsimp only
    refine wp_if_neg R.whole ?_
    try refine wpAny_bind (wpAny_pure ?_)
    have e1 : ∀ q, (nth t.mask (pr t (hsT P w k) c) q).j = way t.mask (hsT P w k) (c + q) := fun q => congrArg SetTable.Probe.j (pr_add t _ c q)
    have hashAt : ∀ (i : Nat) p, L[i]? = some p → (fun i => (es[i]?.map (·.1)).getD 0) i = hsT P w p.2 := fun i p hp => by
      show (es[i]?.map (·.1)).getD 0 = _
      rw [R.entry hp] <;> rfl
    rcases go_spec t R.tab.ris R.tab.dm (fun i => (es[i]?.map (·.1)).getD 0) (hsT P w k) (10 * SetTable.turns t.mask) (K - c) _ (pr_clean t (hsT P w k) c) (by omega)
      (fun q hq => by rw [e1]; exact hKb (c + q) (by omega)) (by rw [e1, show c + (K - c) = K by omega]; exact hK) with ⟨q, i, hq, hi, hh, hno, hpr⟩ | ⟨hno, hpr⟩
    · have hpr' : t.probe (fun i => (es[i]?.map (·.1)).getD 0) (hsT P w k) (stand.getD (t.probeStart (hsT P w k))) = some (.candidate (way t.mask (hsT P w k) (c + q)) i (pr t (hsT P w k) (c + (q + 1)))) := by
        rw [hst, ← e1, ← pr_add]
        exact hpr
      rw [hpr']
      dsimp only
      rw [e1] at hi
      have hil : i < L.length := by
        have h1 : i < t.place.toList.length := (List.getElem?_eq_some_iff.mp hi).1
        have h2 := R.tab.sz
        rw [List.length_map] at h2
        rw [Array.length_toList] at h1
        omega
      have hp : L[i]? = some L[i] := List.getElem?_eq_getElem hil
      generalize L[i] = p at hp
      have hmem : p ∈ L := List.mem_of_getElem? hp
      have rest : wpAny (model P w) A (searchRest a (.ref x) (hsT P w k) true f es t (way t.mask (hsT P w k) (c + q)) i (pr t (hsT P w k) (c + (q + 1)))) Q E s := by
        unfold searchRest
        rw [R.entry hp]
        dsimp only
        refine wpAny_bind (wpAny_holding (wpAny_eqBool_tuple hu (R.tup p hmem) hx ?_))
        refine wpAny_bind (wpAny_setState_of ho hd R.fits ?_)
        dsimp only
        by_cases hkk : p.2 = k
        · exact wp_if_pos (by simp [hkk]) (wpAny_pure (hin (List.mem_map.mpr ⟨p, hmem, hkk⟩)))
        · refine wp_if_neg (by simp [hkk]) ?_
          try refine wpAny_bind (wpAny_pure ?_)
          rw [sameMem]
          dsimp only
          have hsl : t.slot (way t.mask (hsT P w k) (c + q)) = .live i := slot_live R.tab.ris hi
          simp only [if_true, hsl, R.entry hp]
          refine wpAny_bind (wpAny_isSame_ref_self (wpAny_bind (wpAny_pure ?_)))
          simp only [if_true]
          refine wp_if_neg (by simp [hkk]) ?_
          refine seek_from R hx hu hKf hK hKb hin hout f (c + (q + 1)) _ rfl (by omega) (by omega) fun i0 p0 h0 hk0 => ?_
          obtain ⟨c', a1, a2, a3⟩ := hre i0 p0 h0 hk0
          refine ⟨c', ?_, a2, a3⟩
          have n1 : ¬ c' < c + q := fun z => hno (c' - c) i0 (by omega) (by rw [e1, show c + (c' - c) = c' by omega]; exact a3) ((hashAt i0 p0 h0).trans (congrArg (hsT P w) hk0))
          have n2 : c' ≠ c + q := fun ec => by
            rw [ec] at a3
            have s0 := slot_live R.tab.ris a3
            rw [hsl] at s0
            injection s0 with s0
            rw [← s0, hp] at h0
            exact hkk ((congrArg Prod.snd (Option.some.inj h0)).trans hk0)
          omega
      by_cases hl : t.led = true
      · refine wp_if_neg (by simp [hl]) ?_
        try refine wpAny_bind (wpAny_pure ?_)
        exact rest
      · refine wp_if_pos (by simp [hl]) (wpAny_bind (unseen_tp hx (fun y hy => ?_) ?_))
        · obtain ⟨e, he, ee⟩ := List.mem_map.mp hy
          have he1 : e ∈ es ∧ e.1 = hsT P w k := by simpa using he
          have he2 : e ∈ es.toList := by simpa using he1.1
          rw [R.rows] at he2
          obtain ⟨p2, hp2, e2⟩ := List.mem_map.mp he2
          exact ⟨p2.2, p2.1, by rw [← ee, ← e2], R.tup p2 hp2⟩
        · refine wp_if_neg (by decide) ?_
          try refine wpAny_bind (wpAny_pure ?_)
          exact rest
    · have hpr' : t.probe (fun i => (es[i]?.map (·.1)).getD 0) (hsT P w k) (stand.getD (t.probeStart (hsT P w k))) = some (.empty (way t.mask (hsT P w k) K) none) := by
        have e2 : way t.mask (hsT P w k) K = (nth t.mask (pr t (hsT P w k) c) (K - c)).j := by rw [e1, show c + (K - c) = K by omega]
        rw [hst, e2]
        exact hpr
      rw [hpr']
      dsimp only
      refine wpAny_pure (hout fun hm => ?_)
      obtain ⟨p0, h0, hk0⟩ := List.mem_map.mp hm
      obtain ⟨i0, hi0, e0⟩ := List.getElem_of_mem h0
      have h00 : L[i0]? = some p0 := by rw [List.getElem?_eq_getElem hi0, e0]
      obtain ⟨c', a1, a2, a3⟩ := hre i0 p0 h00 hk0
      exact hno (c' - c) i0 (by omega) (by rw [e1, show c + (c' - c) = c' by omega]; exact a3) ((hashAt i0 p0 h00).trans (congrArg (hsT P w) hk0))
theorem seek (R : TpR P w s.heap a L es ep t) {x : Addr} {k : List Str} (hx : IsTS P w s.heap k x) (hu : A.units < cLine) {Q : SetFound → Shared → Prop} (hin : k ∈ L.map (·.2) → Q (.there none) s)
    (hout : ∀ K, k ∉ L.map (·.2) → way t.mask (hsT P w k) K ∉ t.place.toList → (∀ c, c < K → way t.mask (hsT P w k) c ∈ t.place.toList) → Q (.free (way t.mask (hsT P w k) K) false) s) :
    wpAny (model P w) A (setSearch a (.ref x) (hsT P w k) true) Q E s := by
  have hroom := R.room
  obtain ⟨K, hKf, hK, hKb⟩ := R.tab.first (by rw [List.length_map]; omega) (hsT P w k)
  have hbig : 10 * SetTable.turns t.mask ≤ 1420 := by
    unfold SetTable.turns
    rcases R.tab.mok with e | e | e <;> omega
  unfold setSearch
  refine seek_from R hx hu hKf hK hKb hin (fun hn => hout K hn hK hKb) 100000 0 none rfl (Nat.zero_le _) (by omega) fun i p hp hk => ?_
  have hi : (L.map fun p => hsT P w p.2)[i]? = some (hsT P w k) := by rw [List.getElem?_map, hp, ← hk] <;> rfl
  have hil : i < t.place.toList.length := by
    have h1 : i < L.length := (List.getElem?_eq_some_iff.mp hp).1
    have h2 := R.tab.sz
    rw [List.length_map] at h2
    rw [Array.length_toList]
    omega
  obtain ⟨c, hc, e⟩ := R.tab.before hK hi (List.getElem?_eq_getElem hil)
  exact ⟨c, Nat.zero_le _, hc, by rw [List.getElem?_eq_getElem hil, e]⟩
/-- a tuple is not the set -/
theorem tp_but {h h' : Heap} {k : List Str} {b : Addr} {o : Obj} (hb : IsTS P w h k b) (ho : h.get? a = some o) (hd : o.data = .set es ep t) (hs : Heap.SameBut a h h') : IsTS P w h' k b := by
  obtain ⟨o', items, n, ho', hc, hd', hi⟩ := hb
  refine ⟨o', items, n, (hs.2 b fun e => ?_).trans ho', hc, hd', hi⟩
  subst e
  obtain rfl : o' = o := Option.some.inj (ho'.symm.trans ho)
  rw [hd] at hd'
  exact nomatch hd'
/-- rows in another order -/
theorem rows_in_order (order : Array Nat) (hr : es.toList = rowsT P w L) (hp : order.toList.Perm (List.range L.length)) :
    ∃ L2, (order.filterMap (es[·]?)).toList = rowsT P w L2 ∧ L2.Perm L ∧ (L2.map fun p => hsT P w p.2) = order.toList.map fun i => (es.map (·.1)).getD i 0 := by
  have ent : ∀ i (h : i < L.length), es[i]? = some (hsT P w (L[i]).2, Value.ref (L[i]).1) := fun i h => by
    rw [← Array.getElem?_toList, hr]
    unfold rowsT
    rw [List.getElem?_map, List.getElem?_eq_getElem h] <;> rfl
  have key : ∀ l : List Nat, (∀ i ∈ l, i < L.length) → l.filterMap (fun i => es[i]?) = rowsT P w (l.filterMap fun i => L[i]?) ∧ ((l.filterMap fun i => L[i]?).map fun p => hsT P w p.2) = l.map fun i => (es.map (·.1)).getD i 0 := by
    intro l
    induction l with
    | nil => exact fun _ => ⟨rfl, rfl⟩
    | cons i l ih =>
      intro hl
      have hi := hl i List.mem_cons_self
      obtain ⟨e1, e3⟩ := ih fun j hj => hl j (List.mem_cons_of_mem _ hj)
      have e5 : (es.map (·.1))[i]? = some (hsT P w (L[i]).2) := by rw [Array.getElem?_map, ent i hi] <;> rfl
      rw [List.filterMap_cons_some (ent i hi), List.filterMap_cons_some (List.getElem?_eq_getElem hi), e1, List.map_cons, List.map_cons, e3]
      refine ⟨rfl, ?_⟩
      simp [Array.getD_eq_getD_getElem?, e5]
  obtain ⟨e1, e3⟩ := key order.toList fun i hi => List.mem_range.mp (hp.mem_iff.mp hi)
  refine ⟨order.toList.filterMap fun i => L[i]?, by first | (rw [Array.toList_filterMap]; exact e1) | simpa using e1, (hp.filterMap _).trans (.of_eq ?_), e3⟩
  have all : ∀ n, n ≤ L.length → (List.range n).filterMap (fun i => L[i]?) = L.take n := by
    intro n
    induction n with
    | zero => exact fun _ => rfl
    | succ n ih =>
      intro hn
      rw [List.range_succ, List.filterMap_append, ih (Nat.le_of_lt hn), List.take_succ, List.getElem?_eq_getElem (show n < L.length from hn), List.filterMap_cons_some (List.getElem?_eq_getElem (show n < L.length from hn))] <;> rfl
  rw [all L.length (Nat.le_refl _), List.take_length]

theorem tab_any {t : SetTable} {hs : List Int} (T : TabOk t hs) (c : Bool) : TabOk (if c = true then t else { t with plain := false }) hs := by
  cases c
  · obtain ⟨a1, a2, a3, a4, a5, a6⟩ := T
    exact ⟨a1, a2, a3, a4, a5, a6⟩
  · exact T
/-- the table laid anew, larger -/
theorem relay_tp {o : Obj} (ho : s.heap.get? a = some o) (hex : o.ExactSet) (hd : o.data = .set es ep t) (hrows : es.toList = rowsT P w L) (hsz : t.place.size = es.size) (hdm : t.dummies = #[]) (hfl : es.size ≤ t.mask)
    (nd : (L.map (·.2)).Nodup) (tup : ∀ p ∈ L, IsTS P w s.heap p.2 p.1) (ld : w.params.followText "set-order" = true ∨ t.led = true) (few : L.length < 64) {wanted M : Nat}
    (hw : SetTable.sizeAbove wanted - 1 = M) (hM : MaskOk M) (hw2 : SetTable.sizeAbove wanted ≤ 128) (hn : L.length * 5 < M * 3) {Q : Unit → Shared → Prop}
    (hQ : ∀ h' L' es' ep' t', Heap.SameBut a s.heap h' → TpR P w h' a L' es' ep' t' → L'.Perm L → Q () { s with heap := h' }) : wpAny (model P w) A (setRelay a wanted) Q E s := by
  have hsl := rowsT_len hrows
  have hfits : t.fits es.size = true := by
    unfold SetTable.fits SetTable.fill
    rw [hdm, Bool.and_eq_true, beq_iff_eq, decide_eq_true_eq]
    show t.place.size = es.size ∧ t.place.size + 0 ≤ t.mask
    omega
  obtain ⟨t', order, e, hp, T, em, el, ep', ed⟩ := relaid_ok t (hs := es.map (·.1)) (wanted := wanted) hw hM (by rw [Array.size_map, hsl]; omega)
  rw [Array.size_map, hsl] at hp
  obtain ⟨L2, r1, r2, r3⟩ := rows_in_order order hrows hp
  rw [← r3] at T
  have hs2 : (order.filterMap (es[·]?)).size = es.size := by rw [rowsT_len r1, r2.length_eq, hsl]
  rw [setRelay_eq]
  refine wpAny_bind (wpAny_setState_of ho hd hfits ?_)
  dsimp only
  refine wp_if_neg (by rw [sizeLine_eq]; omega) ?_
  try refine wpAny_bind (wpAny_pure ?_)
  rw [e]
  dsimp only
  refine wpAny_bind (wp_if_neg (by rw [hs2]; simp) ?_)
  try refine wpAny_bind (wpAny_pure ?_)
  refine wpAny_pure ?_
  dsimp only
  refine wpAny_storeSet_of ho hd ?_ (by rw [hs2, hsl, sizeLine_eq]; omega)
  have sb : Heap.SameBut a s.heap (s.heap.update a (Obj.putSet (order.filterMap (es[·]?)) t')) := Heap.SameBut.update ..
  refine hQ _ L2 (order.filterMap (es[·]?)) (ep + 1) t' sb ⟨⟨_, store_at ho hd, ⟨hex.1, hex.2.1, hex.2.2⟩, rfl⟩, r1, T, (r2.map (·.2)).nodup_iff.mpr nd, fun p hpm => tp_but (tup p (r2.mem_iff.mp hpm)) ho hd sb, by rw [el]; exact ld, ?_, by rw [r2.length_eq]; exact few⟩ r2
  rw [r2.length_eq, em]
  exact hn
/-- adding a tuple -/
theorem add_tp (R : TpR P w s.heap a L es ep t) {x : Addr} {k : List Str} (hx : IsTS P w s.heap k x) (hu : A.units < cLine) (hfew : L.length + 1 < 64) {Q : Bool → Shared → Prop}
    (hQ : ∀ b h' L' es' ep' t', Heap.SameBut a s.heap h' → TpR P w h' a L' es' ep' t' → (k ∈ L.map (·.2) → L' = L) → (k ∉ L.map (·.2) → L'.Perm ((x, k) :: L)) → Q b { s with heap := h' }) :
    wpAny (model P w) A (setAddHashed a (.ref x) (hsT P w k)) Q E s := by
  obtain ⟨o, ho, hex, hd⟩ := R.ob
  have hsl := rowsT_len R.rows
  have hroom := R.room
  unfold setAddHashed
  refine wpAny_holding ?_
  rw [show (100000 : Nat) = 99999 + 1 from rfl, setAddHashedIn_succ]
  refine wpAny_bind (wpAny_setState_of ho hd R.fits ?_)
  dsimp only
  refine wp_if_neg (by simp [byScan, Value.scannable]) ?_
  try refine wpAny_bind (wpAny_pure ?_)
  refine wpAny_bind (seek R hx hu (fun hm => ?_) fun K hm hK hb => ?_)
  · dsimp only
    exact wpAny_pure (hQ false s.heap L es ep t (Heap.SameBut.refl a s.heap) R (fun _ => rfl) fun z => absurd hm z)
  dsimp only
  refine wpAny_bind (wpAny_setState_of ho hd R.fits ?_)
  dsimp only
  obtain ⟨q1, q2, q3, q4, q5, q6, q7, q8, q9⟩ := R.tab.put hK hb
  generalize hpt : t.put (way t.mask (hsT P w k) K) = pt at q1 q3 q4 q5 q7 q8 q9 ⊢
  obtain ⟨t0, p⟩ := pt
  dsimp only at q1 q3 q4 q5 q7 q8 q9 ⊢
  subst q1
  -- whatever the key's hash hangs on
  have main : ∀ c : Bool, wpAny (model P w) A (do
        storeSet a (SetTable.insertAt es (SetTable.below t.place (way t.mask (hsT P w k) K)) (hsT P w k, Value.ref x)) (if c = true then t0 else { t0 with plain := false })
        if (!false && (if c = true then t0 else { t0 with plain := false }).tooFull) = true then setRelay a (SetTable.grown (es.size + 1)) else pure ()
        return true) Q E s := by
    intro c
    have T1 := tab_any q3 c
    have m1 : (if c = true then t0 else { t0 with plain := false }).mask = t.mask := by cases c <;> exact q4
    have l1 : (if c = true then t0 else { t0 with plain := false }).led = t.led := by cases c <;> exact q5
    have f1 : (if c = true then t0 else { t0 with plain := false }).fill = (L.map fun p => hsT P w p.2).length + 1 := by cases c <;> exact q9
    generalize (if c = true then t0 else { t0 with plain := false }) = t1 at T1 m1 l1 f1 ⊢
    have hin : (SetTable.insertAt es (SetTable.below t.place (way t.mask (hsT P w k) K)) (hsT P w k, Value.ref x)).toList = rowsT P w (L.take (SetTable.below t.place (way t.mask (hsT P w k) K)) ++ (x, k) :: L.drop (SetTable.below t.place (way t.mask (hsT P w k) K))) := by
      rw [SetTable.toList_insertAt, R.rows]
      unfold rowsT
      rw [List.map_append, List.map_cons, List.map_take, List.map_drop]
    generalize SetTable.below t.place (way t.mask (hsT P w k) K) = p at q2 T1 hin ⊢
    have pm := put_perm L p (x, k)
    have hlen : (L.take p ++ (x, k) :: L.drop p).length = L.length + 1 := pm.length_eq
    have hhs : (L.take p ++ (x, k) :: L.drop p).map (fun p => hsT P w p.2) = (L.map fun p => hsT P w p.2).take p ++ hsT P w k :: (L.map fun p => hsT P w p.2).drop p := by
      rw [List.map_append, List.map_cons, List.map_take, List.map_drop]
    rw [← hhs] at T1
    have nd1 : ((L.take p ++ (x, k) :: L.drop p).map (·.2)).Nodup := by
      refine (pm.map (·.2)).nodup_iff.mpr ?_
      rw [List.map_cons]
      exact List.nodup_cons.mpr ⟨hm, R.nd⟩
    have hes : (SetTable.insertAt es p (hsT P w k, Value.ref x)).size = L.length + 1 := by rw [rowsT_len hin, hlen]
    generalize SetTable.insertAt es p (hsT P w k, Value.ref x) = es1 at hin hes ⊢
    generalize L.take p ++ (x, k) :: L.drop p = L1 at pm hlen T1 nd1 hin
    refine wpAny_bind (wpAny_storeSet_of ho hd ?_ (by rw [hes, sizeLine_eq]; omega))
    have sb : Heap.SameBut a s.heap (s.heap.update a (Obj.putSet es1 t1)) := Heap.SameBut.update ..
    have ho1 := store_at (es' := es1) (t' := t1) ho hd
    generalize s.heap.update a (Obj.putSet es1 t1) = h1 at sb ho1 ⊢
    have tup1 : ∀ p ∈ L1, IsTS P w h1 p.2 p.1 := fun p hp => by
      rcases List.mem_cons.mp (pm.mem_iff.mp hp) with e | hp
      · rw [e]; exact tp_but hx ho hd sb
      · exact tp_but (R.tup p hp) ho hd sb
    have ld1 : w.params.followText "set-order" = true ∨ t1.led = true := by rw [l1]; exact R.led
    have full : t1.tooFull = decide ((L.length + 1) * 5 ≥ t1.mask * 3) := by
      unfold SetTable.tooFull
      rw [f1, List.length_map]
    by_cases hf : t1.tooFull = true
    · refine wp_if_pos (show (!false && t1.tooFull) = true by rw [hf]; rfl) (wpAny_bind ?_)
      rw [full, decide_eq_true_eq, m1] at hf
      rw [hsl]
      have hsz1 : t1.place.size = es1.size := by
        have h := T1.sz
        rw [List.length_map, hlen] at h
        rw [h, hes]
      have cases2 : (t.mask = 7 ∧ L.length = 4) ∨ (t.mask = 31 ∧ L.length = 18) := by
        rcases R.tab.mok with e | e | e
        · exact .inl ⟨e, by omega⟩
        · exact .inr ⟨e, by omega⟩
        · omega
      have go : ∀ M, SetTable.sizeAbove (SetTable.grown (L.length + 1)) - 1 = M → MaskOk M → SetTable.sizeAbove (SetTable.grown (L.length + 1)) ≤ 128 → (L.length + 1) * 5 < M * 3 →
          wpAny (model P w) A (setRelay a (SetTable.grown (L.length + 1))) (fun _ s' => wpAny (model P w) A (pure true) Q E s') E { s with heap := h1 } := fun M h1' h2' h3' h4' => by
        refine relay_tp (s := { s with heap := h1 }) ho1 ⟨hex.1, hex.2.1, hex.2.2⟩ rfl hin hsz1 T1.dm (by rw [hes, m1]; omega) nd1 tup1 ld1 (by rw [hlen]; exact hfew) h1' h2' h3' (by rw [hlen]; exact h4') ?_
        exact fun h2 L2 es2 ep2 t2 sb2 R2 pm2 => wpAny_pure (hQ true h2 L2 es2 ep2 t2 (sb.trans sb2) R2 (fun z => absurd z hm) fun _ => pm2.trans pm)
      rcases cases2 with ⟨_, e2⟩ | ⟨_, e2⟩
      · exact go 31 (by rw [e2, size_20]) (.inr (.inl rfl)) (by rw [e2, size_20]; decide) (by omega)
      · exact go 127 (by rw [e2, size_76]) (.inr (.inr rfl)) (by rw [e2, size_76]; decide) (by omega)
    · refine wp_if_neg (show ¬ (!false && t1.tooFull) = true from fun z => hf z) ?_
      rw [full, decide_eq_true_eq] at hf
      exact wpAny_pure (hQ true h1 L1 es1 (ep + 1) t1 sb ⟨⟨_, ho1, ⟨hex.1, hex.2.1, hex.2.2⟩, rfl⟩, hin, T1, nd1, tup1, ld1, by rw [hlen]; omega, by rw [hlen]; exact hfew⟩ (fun z => absurd z hm) fun _ => pm)
  first
    | (refine wpAny_bind ?_
       split
       · exact byValue_tp hx fun c => main c
       · exact wpAny_pure (main true))
    | (split
       · exact wpAny_bind (byValue_tp hx fun c => main c)
       · exact wpAny_bind (wpAny_pure (main true)))
end
/-- what the set has got from the first i -/
def GotT (ks : TpL) (i : Nat) (L : TpL) : Prop := (∀ p ∈ L, p ∈ ks.take i) ∧ (∀ p ∈ ks.take i, p.2 ∈ L.map (·.2)) ∧ L.length ≤ i
theorem GotT.zero (ks : TpL) : GotT ks 0 [] := ⟨fun p h => (by cases h), fun p h => (by simp at h), Nat.le_refl _⟩
theorem take_next' {α : Type} {l : List α} {i : Nat} {x : α} (h : l[i]? = some x) : l.take (i + 1) = l.take i ++ [x] := by
  rw [List.take_succ, h] <;> rfl
theorem GotT.next {ks L L' : TpL} {i : Nat} {p : Addr × List Str} (g : GotT ks i L) (h : ks[i]? = some p) (c1 : p.2 ∈ L.map (·.2) → L' = L) (c2 : p.2 ∉ L.map (·.2) → L'.Perm (p :: L)) : GotT ks (i + 1) L' := by
  obtain ⟨a1, a2, a3⟩ := g
  unfold GotT
  rw [take_next' h]
  by_cases c : p.2 ∈ L.map (·.2)
  · rw [c1 c]
    refine ⟨fun q m => List.mem_append_left _ (a1 q m), fun q m => ?_, Nat.le_succ_of_le a3⟩
    rcases List.mem_append.mp m with z | z
    · exact a2 q z
    · rw [List.mem_singleton.mp z]
      exact c
  · have pm := c2 c
    refine ⟨fun q m => ?_, fun q m => ?_, by rw [pm.length_eq]; exact Nat.succ_le_succ a3⟩
    · rcases List.mem_cons.mp (pm.mem_iff.mp m) with z | z
      · rw [z]
        exact List.mem_append_right _ (List.mem_singleton.mpr rfl)
      · exact List.mem_append_left _ (a1 q z)
    · rw [(pm.map (·.2)).mem_iff, List.map_cons]
      rcases List.mem_append.mp m with z | z
      · exact List.mem_cons_of_mem _ (a2 q z)
      · rw [List.mem_singleton.mp z]
        exact List.mem_cons_self
section
variable {P : Program} {w : World} {A : Around} {E : Value → Shared → Prop} {s : Shared}
theorem tp_keep {h h' : Heap} {k : List Str} {b : Addr} (x : IsTS P w h k b) (hk : ∀ c o, h.get? c = some o → h'.get? c = some o) : IsTS P w h' k b := by
  obtain ⟨o, items, n, ho, r⟩ := x
  exact ⟨o, items, n, hk b o ho, r⟩
theorem TpR.keep {h h' : Heap} {a : Addr} {L : TpL} {es : Array (Int × Value)} {ep : Nat} {t : SetTable} (R : TpR P w h a L es ep t) (ha : ∀ o, h.get? a = some o → h'.get? a = some o) (ht : ∀ p ∈ L, IsTS P w h' p.2 p.1) : TpR P w h' a L es ep t := by
  obtain ⟨o, ho, r⟩ := R.ob
  exact ⟨⟨o, ha o ho, r⟩, R.rows, R.tab, R.nd, ht, R.led, R.room, R.few⟩
theorem tp_fresh {h : Heap} {a : Addr} (ho : h.get? a = some { cls := .type "set", dict := none, data := .set #[] 0 (.fresh 0 0 (!w.params.followText "set-order")) }) : TpR P w h a [] #[] 0 (.fresh 0 0 (!w.params.followText "set-order")) where
  ob := ⟨_, ho, ⟨rfl, rfl, rfl⟩, rfl⟩
  rows := rfl
  tab := ⟨List.Pairwise.nil, rfl, rfl, .inl rfl, fun x hx => (by cases hx), fun i h j hi => (by simp at hi)⟩
  nd := List.nodup_nil
  tup := fun p hp => (by cases hp)
  led := by
    show _ ∨ (!w.params.followText "set-order") = true
    cases w.params.followText "set-order"
    · exact .inr rfl
    · exact .inl rfl
  room := by
    show 0 * 5 < 7 * 3
    decide
  few := by
    show 0 < 64
    decide
/-- the loop that fills the set -/
theorem fill_tp {I : Addr} {fp wr : List Addr} {G : Array GenState → Array GenState → Prop} {n : Nat} {Pv : Nat → Value → Prop} {St : Nat → Shared → Prop} {R : Result → Shared → Prop}
    (W : WalksS P w A.in1 I fp wr G n Pv St) (S : Addr) (hSf : S ∉ fp) (ks : TpL) (hn : n = ks.length) (hfew : ks.length < 64) (hval : ∀ i v, Pv i v → ∃ p, ks[i]? = some p ∧ v = .ref p.1)
    (h0 : Heap) (hk : ∀ p ∈ ks, IsTS P w h0 p.2 p.1) (hS0 : h0.get? S = none) (hw0 : ∀ b ∈ wr, h0.get? b = none) (hu : A.in1.units < cLine) :
    ∀ (k i : Nat) (s : Shared), n - i = k → i ≤ n → St i s → (∀ b o, h0.get? b = some o → s.heap.get? b = some o) → (∃ L es ep t, TpR P w s.heap S L es ep t ∧ GotT ks i L) →
      (∀ s' L es ep t, Moved (S :: wr) G s s' → TpR P w s'.heap S L es ep t → GotT ks n L → (∀ b o, h0.get? b = some o → s'.heap.get? b = some o) → R (.ok (.ret .none)) s') →
      codeAny (model P w) A (.builtin "set.update.loop" ⟨[.ref S, .ref I], []⟩) R s := by
  have hSw : S ∉ wr := fun h => hSf (W.sub _ h)
  have hsub : ∀ b ∈ wr, b ∈ S :: wr := fun b hb => List.mem_cons_of_mem _ hb
  have keepM : ∀ {s s' : Shared}, Moved wr G s s' → (∀ b o, h0.get? b = some o → s.heap.get? b = some o) → ∀ b o, h0.get? b = some o → s'.heap.get? b = some o := fun hm hkp b o e =>
    hm.heap b o (fun hb => by rw [hw0 b hb] at e; cases e) (hkp b o e)
  have inKs : ∀ {i : Nat} {L : TpL}, GotT ks i L → ∀ p ∈ L, p ∈ ks := fun g p hp => List.mem_of_mem_take (g.1 p hp)
  intro k
  induction k with
  | zero =>
    intro i s hk' hi hst hkp ⟨L, es, ep, t, hS, g⟩ hR
    have hin : i = n := by omega
    subst hin
    refine codeAny_builtin F.entry_set_update_loop ?_
    rw [Around.under_plainId F.plain_set_update_loop _]
    show wpAny _ A.in1 (pyNext (.ref I) >>= _) _ _ s
    refine wpAny_bind (W.done s _ _ hst fun s' hm => ?_)
    show wpAny _ A.in1 (ret Value.none) _ _ s'
    have hkp' := keepM hm hkp
    exact wpAny_pure (hR s' L es ep t (hm.mono hsub) (hS.keep (fun o e => hm.heap S o hSw e) fun p hp => tp_keep (hk p (inKs g p hp)) hkp') g hkp')
  | succ k ih =>
    intro i s hk' hi hst hkp ⟨L, es, ep, t, hS, g⟩ hR
    have hlt : i < n := by omega
    refine codeAny_builtin F.entry_set_update_loop ?_
    rw [Around.under_plainId F.plain_set_update_loop _]
    show wpAny _ A.in1 (pyNext (.ref I) >>= _) _ _ s
    refine wpAny_bind (W.item i s _ _ hlt hst fun v s' hP hst' hm => ?_)
    obtain ⟨p, hp, rfl⟩ := hval i v hP
    have hkp' := keepM hm hkp
    have hS' : TpR P w s'.heap S L es ep t := hS.keep (fun o e => hm.heap S o hSw e) fun q hq => tp_keep (hk q (inKs g q hq)) hkp'
    have hx : IsTS P w s'.heap p.2 p.1 := tp_keep (hk p (List.mem_of_getElem? hp)) hkp'
    show wpAny _ A.in1 (holding [Value.ref p.1] (setAdd S (.ref p.1)) >>= _) _ _ s'
    refine wpAny_bind (wpAny_holding ?_)
    unfold setAdd
    refine wpAny_holding (wpAny_bind (wpAny_pyHash_tuple hu hx ?_))
    refine add_tp (s := { s' with toks := s'.toks + (p.2.length + 1) }) hS' hx hu (by have := g.2.2; omega) fun b h' L' es' ep' t' hsb hS2 c1 c2 => ?_
    have hkp2 : ∀ b o, h0.get? b = some o → h'.get? b = some o := fun b o e => (hsb.2 b (fun z => by rw [z, hS0] at e; cases e)).trans (hkp' b o e)
    refine wpAny_pure ⟨plainId_quiet F.plain_set_update_loop _, ih (i + 1) _ (by omega) hlt (W.frame _ s' _ _ hst' (Nat.le_add_right _ _) fun b hb o e => ?_) hkp2 ⟨L', es', ep', t', hS2, g.next hp c1 c2⟩ fun s'' L2 es2 ep2 t2 hm'' hS'' g'' hkp'' => ?_⟩
    · rw [hsb.2 b (fun h : b = S => hSf (by rw [← h]; exact hb))]
      exact e
    · refine hR s'' L2 es2 ep2 t2 (Moved.trans W.gtrans ((hm.mono hsub).then_heap (Nat.le_add_right _ _) fun b o hb e => ?_) hm'') hS'' g'' hkp''
      rw [hsb.2 b (fun h : b = S => hb (by rw [h]; exact List.mem_cons_self))]
      exact e
/-- what stands behind set(xs) -/
def LaidT (P : Program) (w : World) (s : Shared) (ks : TpL) (u : Shared) : Prop := ∃ (g : Heap) (k : Nat) (L : TpL) (es : Array (Int × Value)) (ep : Nat) (t : SetTable), u = { s with heap := g, toks := k } ∧ TpR P w g s.heap.objs.size L es ep t ∧ GotT ks ks.length L ∧ ∀ b o, s.heap.get? b = some o → g.get? b = some o
theorem loop_tp {l : Addr} {items : Array Value} {ks : TpL} {R : Result → Shared → Prop} (hh : A.handled = none) (hl : s.heap.IsList l items) (hit : items.toList = ks.map fun p => Value.ref p.1) (hk : ∀ p ∈ ks, IsTS P w s.heap p.2 p.1) (hfew : ks.length < 64) (hu : A.in1.units < cLine)
    (hR : ∀ u, LaidT P w s ks u → R (.ok (.ret .none)) u) :
    codeAny (model P w) A (.builtin "set.update.loop" ⟨[.ref s.heap.objs.size, .ref (grown w s).heap.objs.size], []⟩) R { grown w s with heap := (grown w s).heap.push { cls := .type "list_iterator", data := .fields #[.ref l, .int 0 0] } } := by
  have hsz : items.size = ks.length := by
    rw [← Array.length_toList, hit, List.length_map]
  have at0 := nset_at (w := w) s.heap
  have hl1 : (grown w s).heap.IsList l items := hl.push _
  have below : l < s.heap.objs.size := by
    obtain ⟨o, e, _⟩ := hl
    exact Heap.lt_size e
  have size1 : (grown w s).heap.objs.size = s.heap.objs.size + 1 := Heap.size_push ..
  have apart : l ≠ (grown w s).heap.objs.size := fun e => by
    rw [size1] at e
    exact absurd (e ▸ below) (Nat.not_lt.mpr (Nat.le_succ _))
  have notin : s.heap.objs.size ∉ [(grown w s).heap.objs.size, l] := by
    intro m
    rcases List.mem_cons.mp m with e | e
    · rw [size1] at e
      exact Nat.ne_of_lt (Nat.lt_succ_self _) e
    · exact Nat.ne_of_gt below (List.mem_singleton.mp e)
  have none1 : A.in1.handled = none := by simp [hh]
  have none_of : ∀ b, s.heap.objs.size ≤ b → s.heap.get? b = none := fun b hb => by
    cases q : s.heap.get? b with
    | none => rfl
    | some o => exact absurd (Nat.lt_of_lt_of_le (Heap.lt_size q) hb) (Nat.lt_irrefl _)
  have vals : ∀ (i : Nat) (v : Value), items[i]? = some v → ∃ p, ks[i]? = some p ∧ v = .ref p.1 := fun i v hv => by
    have q : items.toList[i]? = some v := by rw [Array.getElem?_toList]; exact hv
    rw [hit] at q
    obtain ⟨p, hp, rfl⟩ := map_at q
    exact ⟨p, hp, rfl⟩
  refine fill_tp (Walks.toS (Walks.list none1 _ l apart items)) s.heap.objs.size notin ks hsz hfew vals s.heap hk (none_of _ (Nat.le_refl _)) (fun b hb => none_of b (by rw [List.mem_singleton.mp hb, size1]; exact Nat.le_succ _)) hu (items.size - 0) 0 _ (Nat.sub_zero _) (Nat.zero_le _)
    ⟨⟨_, Heap.get?_push_size _ rfl, rfl, rfl⟩, hl1.push _⟩ (fun b o e => Heap.get?_push_of_some _ (Heap.get?_push_of_some _ e)) ⟨[], #[], 0, _, tp_fresh (Heap.get?_push_of_some _ at0), GotT.zero ks⟩ ?_
  intro u L es ep t hm hS g hkp
  obtain ⟨gh, g2, d, k, os⟩ := u
  obtain rfl : g2 = s.gens := hm.gens
  obtain rfl : d = s.drawn := hm.drawn
  obtain rfl : os = s.os := hm.os
  rw [hsz] at g
  exact hR _ ⟨gh, k, L, es, ep, t, rfl, hS, g, hkp⟩
set_option maxHeartbeats 8000000 in
theorem set_of_tps {l : Addr} {items : Array Value} {ks : TpL} {Q : Value → Shared → Prop} (hh : A.handled = none) (hl : s.heap.IsList l items) (hit : items.toList = ks.map fun p => Value.ref p.1) (hk : ∀ p ∈ ks, IsTS P w s.heap p.2 p.1) (hfew : ks.length < 64) (hu : A.units + 8 < cLine)
    (q : ∀ u, LaidT P w s ks u → Q (.ref s.heap.objs.size) u) : wpAny (model P w) A (call (.type "set") [.ref l]) Q E s := by
  obtain ⟨cc, mtl, mro⟩ := F.called_set.mro
  have fmade := F.called_set.made
  have fsub := F.called_set.sub
  refine wpAny_call (codeAny_of_tree (show wpAny _ _ (callAny (.type "set") _) _ _ _ from ?_))
  refine wpAny_pure ⟨Code.quiet_builtin _ (by decide +kernel), codeAny_builtin F.entry_type_call ?_⟩
  rw [Around.under_plain (weight_type_call_type "set" [.ref l] []) rfl]
  have fnot := F.called_set.notType
  have fcan := F.called_set.canCreate
  have fcall := F.typeCall_set_1 (.ref l)
  repeat any_goals first | assumption | wp_step
  refine codeAny_mono (code_set_led1 (.ref l) (E := E) (Q₁ := fun ob u => ob = .ref s.heap.objs.size ∧ u = grown w s) ⟨rfl, rfl⟩) fun r u hr => ?_
  match r, hr with
  | .error _, hr => exact hr
  | .ok .next, hr => exact hr.elim
  | .ok .brk, hr => exact hr.elim
  | .ok .cont, hr => exact hr.elim
  | .ok (.ret ob), ⟨e1, e2⟩ =>
    subst e1 e2
    have ty : Shared.TypeIs (grown w s) (.ref s.heap.objs.size) "set" := ⟨_, nset_at _, rfl⟩
    have flook := F.called_set.init.lookup
    have fbind := F.called_set.init.bind (.ref s.heap.objs.size)
    repeat any_goals first | assumption | wp_step
    refine codeAny_mono (codeAny_call_builtin (R := wants (fun r u => r = Value.none ∧ LaidT P w s ks u) E) F.called_set.init.plain F.entry_set_init (check_set_init_1 ty ?_)) fun r u hr => ?_
    · obtain ⟨ol, hol, hcl, nl, hdl⟩ := id hl
      obtain ⟨ocls, odict, odata, oslots⟩ := ol
      obtain rfl : ocls = _ := hcl
      obtain rfl : odata = _ := hdl
      have here := Heap.get?_push_of_some (nset w) hol
      have sub1 := F.sub_list_set
      have sub2 := F.sub_list_frozenset
      have nodict : (Value.type "list" == Value.type "dict") = false := by decide
      unfold Builtin.«set.__init__» noKeywords Builtin.Frozenset.updateFrom
      generalize hp : pyIter = it
      unfold grown
      wp_walk
      subst hp
      refine wpAny_pyIter_list (hl.push _) (wpAny_bind (wpAny_runValue ?_))
      refine loop_tp (by simp [hh]) hl hit hk hfew (by first | (simp; omega) | (show A.units + _ < cLine; omega)) fun u hu => ?_
      refine wpAny_pure (show wpAny _ _ (ret Value.none) _ _ _ from wpAny_pure ⟨rfl, hu⟩)
    · match r, hr with
      | .error _, hr => exact hr
      | .ok .next, hr => exact hr.elim
      | .ok .brk, hr => exact hr.elim
      | .ok .cont, hr => exact hr.elim
      | .ok (.ret r), ⟨e1, hu⟩ =>
        subst e1
        repeat any_goals first | assumption | wp_step
        exact q _ hu
end
/-! as tracked things -/
/-- the set at a, its tuples apart -/
def SetTp (P : Program) (w : World) (h : Heap) (a : Addr) (L : TpL) : Prop := (∃ es : Array (Int × Value), Wlk w h a es ∧ es.toList.map (·.2) = L.map fun p => Value.ref p.1) ∧ L.length < 64 ∧ (L.map (·.2)).Nodup
def TpO (P : Program) (w : World) (a : Addr) (L : TpL) : HO := .ext fun h => SetTp P w h a L
theorem TpR.set {P : Program} {w : World} {h : Heap} {a : Addr} {L : TpL} {es : Array (Int × Value)} {ep : Nat} {t : SetTable} (R : TpR P w h a L es ep t) : SetTp P w h a L := by
  obtain ⟨o, ho, hex, hd⟩ := R.ob
  have hsz := rowsT_len R.rows
  have few := R.few
  refine ⟨⟨es, ⟨o, ep, t, ho, hex, hd, by unfold scanBound; omega, R.fits, R.tab.ris, R.led⟩, ?_⟩, few, R.nd⟩
  rw [R.rows]
  unfold rowsT
  rw [List.map_map]
  rfl
theorem tpO_new {P : Program} {w : World} {H : Hp} {h : Heap} {a : Addr} {L : TpL} (R : SetTp P w h a L) : ObjOk P w H h a (TpO P w a L) := by
  have ⟨⟨es, ⟨o, ep, t, ho, _⟩, _⟩, _⟩ := R
  refine ⟨R, ⟨o, ho⟩, fun h1 h2 p k => ?_⟩
  obtain ⟨⟨es', ⟨o', ep', t', ho', r'⟩, e'⟩, q'⟩ := p
  exact ⟨⟨es', ⟨o', ep', t', k o' ho', r'⟩, e'⟩, q'⟩
theorem items_of_txt {P : Program} {w : World} : ∀ {k : List Str} {us : List Value}, Vals (k.map V.str) us → ItemsAre (strKind P w) k us
  | [], _, .nil => .nil
  | x :: k, _, .cons r t => by
    obtain ⟨tk, rfl⟩ := r
    exact .cons (strKind_is P w x tk) (items_of_txt t)
section
variable {X : Cx}
theorem isTS_of {pins : List (Addr × Obj)} {σ : L2.St} {H : Hp} {s : Shared} {b : Addr} {k : List Str} (I : Inv X pins σ H s) (h : SqT X.K H b (k.map V.str)) : IsTS X.prog X.w s.heap k b := by
  obtain ⟨its, r, ⟨o, ho, hc, n, hd⟩, _⟩ := I.tuple h
  exact ⟨o, its.toArray, n, ho, hc, hd, by simpa using items_of_txt r⟩
/-- set(xs), xs a list of tuples of texts -/
def rSetTp (P : Program) (K : PySem.W.Frag) (w : World) : R1 := fun xs H Q => ∃ (l : Addr) (ks : TpL), xs = [V.ref l] ∧ SqL K H l (ks.map fun p => V.ref p.1) ∧ (∀ p ∈ ks, SqT K H p.1 (p.2.map V.str)) ∧ ks.length < 64 ∧
  ∀ a L, H a = none → (∀ p ∈ L, p ∈ ks) → (∀ p ∈ ks, p.2 ∈ L.map (·.2)) → (L.map (·.2)).Nodup → Q (.ref a) (upd H a (TpO P w a L))
theorem K_setTp {P : Program} {K : PySem.W.Frag} {w : World} (hP : X.prog = P) (hK : X.K = K) (hw : X.w = w) (hc : X.calm = true) (hu : X.A.units + 64 < cLine) : CallR X (.type "set") (rSetTp P K w) := by
  subst hP hK hw
  intro pins s σ H xs us Q I r h
  obtain ⟨l, ks, rfl, hl, hk, hf, q⟩ := h
  rw [Vals.ref1 r]
  obtain ⟨its, rv, pl, hz⟩ := I.list hl
  have hn : H s.heap.objs.size = none := I.hok.fresh (Nat.le_refl _)
  have refs : ∀ {ks : TpL} {us : List Value}, Vals (ks.map fun p => V.ref p.1) us → us = ks.map fun p => Value.ref p.1 := by
    intro ks
    induction ks with
    | nil => intro us h; cases h; rfl
    | cons p ks ih =>
      intro us h
      cases h with
      | cons r t =>
        cases r
        rw [ih t] <;> rfl
  refine set_of_tps (ks := ks) (I.ok.hd hc) pl.isList (by simpa using refs rv) (fun p hp => isTS_of I (hk p hp)) hf (by omega) fun u hu => ?_
  obtain ⟨g, k, L, es, ep, t, rfl, R, G, kp⟩ := hu
  refine ⟨.ref s.heap.objs.size, _, I.laid (t' := k) kp (Nat.le_refl _) (tpO_new R.set), rfl, q _ L hn (fun p hp => List.mem_of_mem_take (G.1 p hp)) (fun p hp => G.2.1 p (by rw [List.take_length]; exact hp)) R.nd⟩
/-- sorted of such a set: some order (it is the tuples' own; nobody here asks for more) -/
def rSortTp (P : Program) (K : PySem.W.Frag) (w : World) : R1 := fun xs H Q => ∃ (a : Addr) (L : TpL), xs = [V.ref a] ∧ H a = some (TpO P w a L) ∧ (∀ p ∈ L, p.2 ≠ [] ∧ SqT K H p.1 (p.2.map V.str)) ∧
  ∀ (L' : TpL) l, L'.Perm L → (L.map (·.2)).Nodup → L.length < 64 → H l = none → Q (.ref l) (upd H l (.lst (L'.map fun p => V.ref p.1)))
theorem alike_txts : ∀ (a b : List Str), PySem.W.alikeAll (a.map PyData.str) (b.map PyData.str) = true
  | [], _ => by simp [PySem.W.alikeAll]
  | _ :: _, [] => by simp [PySem.W.alikeAll]
  | x :: a, y :: b => by
    show PySem.W.alikeAll (.str x :: a.map .str) (.str y :: b.map .str) = true
    rw [PySem.W.alikeAll, alike_txts a b]
    simp [PySem.W.alike]
theorem depth_txts : ∀ xs : List Str, PyData.depthAll (xs.map .str) = 0
  | [] => by simp [PyData.depthAll]
  | x :: xs => by
    show PyData.depthAll (.str x :: xs.map .str) = 0
    rw [PyData.depthAll, depth_txts xs]
    simp [PyData.depth]
theorem reads_txts {P : Program} {w : World} {h : Heap} : ∀ {k : List Str} {us : List Value}, ItemsAre (strKind P w) k us → ReadsAll h us (k.map .str) []
  | _, _, .nil => .nil
  | _, _, .cons h1 t => by
    obtain ⟨tk, rfl⟩ := Value.isStrOf_shape h1
    exact .cons (.str _ _) (reads_txts t)
theorem K_sortTp {P : Program} {K : PySem.W.Frag} {w : World} (hP : X.prog = P) (hK : X.K = K) (hw : X.w = w) (hc : X.calm = true) (hu : X.A.units + 64 < cLine) : CallR X (.builtin "sorted") (rSortTp P K w) := by
  subst hP hK hw
  intro pins s σ H xs us Q I r h
  obtain ⟨a, L, rfl, ha, hL, q⟩ := h
  rw [Vals.ref1 r]
  obtain ⟨⟨es, W, hes⟩, few, nd⟩ : SetTp X.prog X.w s.heap a L := (I.hok a _ ha).1
  have each : ∀ l : TpL, EachIs (fun u (p : Addr × List Str) => u = Value.ref p.1) (l.map fun p => Value.ref p.1) l := by
    intro l
    induction l with
    | nil => exact .nil
    | cons p l ih => exact .cons rfl ih
  have e0 := each L
  rw [← hes] at e0
  refine sorted_wlk (enc := fun p : Addr × List Str => .tuple (p.2.map .str)) W (I.ok.hd hc) e0 (fun h' v p k e m => ?_) (fun p _ p' _ => ?_) (.inl fun p m => ?_) (fun p _ => ?_) fun s' l out c cs k g1 o1 hp hg pc ho => ?_
  · subst e
    obtain ⟨o, items, n, ho, hcl, hd, hi⟩ := isTS_of I (hL p m).2
    exact .tuple (k _ _ ho) hcl hd (reads_txts hi)
  · show PySem.W.alike (.tuple _) (.tuple _) = true
    simp [PySem.W.alike, alike_txts]
  · cases e : p.2 with
    | nil => exact absurd e (hL p m).1
    | cons x r => exact ⟨_, _, rfl⟩
  · have : (PyData.tuple (p.2.map .str)).depth ≤ 1 := by
      simp [PyData.depth, depth_txts]
    omega
  have hn : H l = none := I.hok.fresh hp
  have perm : (cs.mergeSort (dataLe false fun p : Addr × List Str => .tuple (p.2.map .str))).Perm L := (List.mergeSort_perm _ _).trans pc
  generalize (cs.mergeSort (dataLe false fun p : Addr × List Str => .tuple (p.2.map .str))) = L' at perm ho
  have hv : Vals (L'.map fun p => V.ref p.1) out := by
    have go : ∀ {us : List Value} {bs : TpL}, EachIs (fun u (p : Addr × List Str) => u = Value.ref p.1) us bs → Vals (bs.map fun p => V.ref p.1) us := by
      intro us bs h
      induction h with
      | nil => exact .nil
      | cons r _ ih => exact .cons r ih
    exact go ho
  have hlen : (L'.map fun p => V.ref p.1).length ≤ sizeLine := by
    rw [List.length_map, perm.length_eq, sizeLine_eq]
    omega
  have J : Inv X pins σ (upd H l (.lst (L'.map fun p => V.ref p.1))) { s with heap := s'.heap, gens := s'.gens, drawn := s'.drawn, toks := s'.toks } :=
    I.call (ch := []) (Un.laid k hp hn) (I.hok.laid k hp ⟨hlen, out, c, hv, hg⟩) (by rw [g1]; exact I.bare) (fun _ z => nomatch z)
  have e : s' = { s with heap := s'.heap, gens := s'.gens, drawn := s'.drawn, toks := s'.toks } := by
    cases s'
    cases s
    cases o1
    rfl
  rw [e]
  exact ⟨.ref l, _, J, rfl, q L' l perm nd few hn⟩
end
end Rd

set_option maxHeartbeats 4000000
/-! Sc2: {text for x in .. for y in ..}: a set of texts by a comprehension with two fors (no tests). -/
namespace Rd
open PySem PySem.Spec PyProof.Rows L2 PpSet
abbrev two2 (elt t0 i0 t1 i1 : Expr) (scope : Scope) (pos : Pos) : Expr := .SetComp elt [⟨t0, i0, [], 0⟩, ⟨t1, i1, [], 0⟩] scope pos
theorem turnS_out (elt t0 i0 t1 i1 : Expr) (scope : Scope) (pos : Pos) (it acc : Value) (env : Env) :
    compTurn (two2 elt t0 i0 t1 i1 scope pos) 0 it acc env = (do
      standAt i0.pos
      match ← pyNext it with
      | none => pure (.done .next)
      | some v =>
        letOwnedTupleGo t0 it v
        assign t0 env v
        let x ← eval i1 env
        standAt i1.pos
        let x ← foldedSetIterable i1 env x
        let _ ← runOwn (.compStart (two2 elt t0 i0 t1 i1 scope pos) 1 (← holding [x] (pyIter x)) acc env) env
        again (.compLoop (two2 elt t0 i0 t1 i1 scope pos) 0 it acc env)) := by rfl
theorem turnS_in (elt t0 i0 t1 i1 : Expr) (scope : Scope) (pos : Pos) (it acc : Value) (env : Env) :
    compTurn (two2 elt t0 i0 t1 i1 scope pos) 1 it acc env = (do
      standAt i1.pos
      match ← pyNext it with
      | none => pure (.done .next)
      | some v =>
        letOwnedTupleGo t1 it v
        assign t1 env v
        (do
          let v ← eval elt env
          standAt elt.pos
          let _ ← call (.builtin "set.add") [acc, v])
        again (.compLoop (two2 elt t0 i0 t1 i1 scope pos) 1 it acc env)) := by rfl
abbrev NoE : Value → Shared → Prop := fun _ _ => False
section
variable {prog : Program} {w : World} {A : Around} {R : Result → Shared → Prop} {s : Shared} {elt t0 i0 t1 i1 : Expr} {scope : Scope} {pos : Pos} {it acc : Value} {env : Env}
theorem toE {α : Type} {t : Sem α} {Q : α → Shared → Prop} {E : Value → Shared → Prop} (h : wpAny (model prog w) A t Q NoE s) : wpAny (model prog w) A t Q E s := wpAny_mono h (fun _ _ q => q) fun _ _ z => z.elim
/-- the outer loop -/
theorem loopS_out (hs : ∀ x, foldedSetIterable i1 env x = pure x) (I : Nat → Shared → Prop)
    (turn : ∀ n s, I n s → wpAny (model prog w) A (pyNext it) (fun r s1 => match r with
      | none => R (.ok .next) s1
      | some v => wpAny (model prog w) A (letOwnedTupleGo t0 it v) (fun _ s2 => wpAny (model prog w) A (assign t0 env v) (fun _ s3 => wpAny (model prog w) A (eval i1 env) (fun x s4 => wpAny (model prog w) A (pyIter x) (fun it1 s5 =>
          codeAny (model prog w) A (.compStart (two2 elt t0 i0 t1 i1 scope pos) 1 it1 acc env) (fun r s' => match r with
            | .ok _ => ∃ m, m < n ∧ I m s'
            | .error _ => False) s5) NoE s4) NoE s3) NoE s2) NoE s1) NoE s)
    (n : Nat) (h : I n s) : codeAny (model prog w) A (.compLoop (two2 elt t0 i0 t1 i1 scope pos) 0 it acc env) R s := by
  refine codeAny_loop rfl I (fun n s hI => ?_) n h
  show wpAny _ A ((compTurn (two2 elt t0 i0 t1 i1 scope pos) 0 it acc env).onRaise (fun x => do noteFrame x env; theTreesLotGoes x)) _ _ s
  refine wpAny_noted ?_
  rw [turnS_out]
  refine wpAny_bind (wpAny_standAt (wpAny_bind (thnF (turn n s hI) fun r s1 h1 => ?_)))
  cases r with
  | none => exact wpAny_pure h1
  | some v =>
    refine wpAny_bind (thnF h1 fun _ s2 h2 => wpAny_bind (thnF h2 fun _ s3 h3 => wpAny_bind (thnF h3 fun x s4 h4 => ?_)))
    refine wpAny_bind (wpAny_standAt (wpAny_bind (wpAny_of_eq (hs x) (wpAny_bind (wpAny_holding (thnF h4 fun it1 s5 h5 => ?_))))))
    refine wpAny_bind (wpAny_runOwn ?_)
    rw [Around.mark_none]
    refine codeAny_mono h5 fun r s' hr => ?_
    cases r with
    | ok f =>
      first
        | exact wpAny_pure ⟨rfl, hr⟩
        | exact wpAny_bind (wpAny_pure (wpAny_pure ⟨rfl, hr⟩))
    | error e => exact hr.elim
/-- the inner loop -/
theorem loopS_in (I : Nat → Shared → Prop)
    (turn : ∀ n s, I n s → wpAny (model prog w) A (pyNext it) (fun r s1 => match r with
      | none => R (.ok .next) s1
      | some v => wpAny (model prog w) A (letOwnedTupleGo t1 it v) (fun _ s2 => wpAny (model prog w) A (assign t1 env v) (fun _ s3 => wpAny (model prog w) A (eval elt env) (fun x s4 =>
          wpAny (model prog w) A (call (.builtin "set.add") [acc, x]) (fun _ s5 => ∃ m, m < n ∧ I m s5) NoE s4) NoE s3) NoE s2) NoE s1) NoE s)
    (n : Nat) (h : I n s) : codeAny (model prog w) A (.compLoop (two2 elt t0 i0 t1 i1 scope pos) 1 it acc env) R s := by
  refine codeAny_loop rfl I (fun n s hI => ?_) n h
  show wpAny _ A ((compTurn (two2 elt t0 i0 t1 i1 scope pos) 1 it acc env).onRaise (fun x => do noteFrame x env; theTreesLotGoes x)) _ _ s
  refine wpAny_noted ?_
  rw [turnS_in]
  refine wpAny_bind (wpAny_standAt (wpAny_bind (thnF (turn n s hI) fun r s1 h1 => ?_)))
  cases r with
  | none => exact wpAny_pure h1
  | some v =>
    refine wpAny_bind (thnF h1 fun _ s2 h2 => wpAny_bind (thnF h2 fun _ s3 h3 => wpAny_bind (wpAny_bind (thnF h3 fun x s4 h4 => wpAny_bind (wpAny_standAt (wpAny_bind (thnF h4 fun _ s5 h5 => ?_)))))))
    exact wpAny_pure (wpAny_pure ⟨rfl, h5⟩)
theorem startS_in (h0 : codeAny (model prog w) A (.compLoop (two2 elt t0 i0 t1 i1 scope pos) 1 it acc env) R s)
    (h : wpAny (model prog w) A (pyIter it) (fun it' s' => codeAny (model prog w) A (.compLoop (two2 elt t0 i0 t1 i1 scope pos) 1 it' acc env) R s') (notedBy (model prog w) A env fun x s' => R (.error x) s') s) :
    codeAny (model prog w) A (.compStart (two2 elt t0 i0 t1 i1 scope pos) 1 it acc env) R s := by
  refine codeAny_of_tree ?_
  show wpAny _ _ ((compStart (two2 elt t0 i0 t1 i1 scope pos) 1 it acc env).onRaise (fun x => do noteFrame x env; standAt theWindowsPlace)) _ _ s
  refine wpAny_notedAt ?_
  unfold compStart
  show wpAny _ _ (ask >>= _) _ _ s
  refine wpAny_bind (wpAny_askSetting (wpAny_ite ?_))
  split
  · first
      | exact wpAny_bind (wpAny_pure (wpAny_pure (And.intro rfl h0)))
      | exact wpAny_pure (And.intro rfl h0)
  · first
      | exact wpAny_bind (wpAny_rule (wpAny_bind (wpAny_standAt (wpAny_bind (wpAny_mono h (fun it' s' h' => wpAny_pure (And.intro rfl h')) fun _ _ x => x)))))
      | (refine wpAny_bind (wpAny_rule ?_); show wpAny _ _ (standAt i1.pos >>= _) _ _ s; exact wpAny_bind (wpAny_standAt (wpAny_bind (wpAny_mono h (fun it' s' h' => wpAny_pure (And.intro rfl h')) fun _ _ x => x))))
end
section
variable {X : Cx}
/-- the reading: W the outer loop's invariant, W1 the inner one's; Nx, Nx1: the next turns -/
def tSc2 (w : World) (wi : TI) (g : TG) (wi1 : TI) (g1 : TG) (te : TE) (vs vs1 : List Nat) : TE := fun σ H Q => wi σ H fun J H1 => ∀ D, H1 D = none → ∃ W : Nat → Nat → Hp → Prop, (∃ m, W 0 m (upd H1 D (TxO w D []))) ∧ ∀ i m H, W i m H →
  (J.stop i H ∧ Q (.ref D) H) ∨ (J.go i H ∧ ∃ Nx : Hp → Prop, (∀ H', Nx H' → ∃ m', m' < m ∧ W (i + 1) m' H') ∧ ∀ x H', J.yld i H x H' → g x (wipe σ vs) H' fun σ2 H2 => wipe σ2 vs = wipe σ vs ∧
    wi1 σ2 H2 fun J1 H4 => ∃ W1 : Nat → Nat → Hp → Prop, (∃ m, W1 0 m H4) ∧ ∀ j k H, W1 j k H →
      (J1.stop j H ∧ Nx H) ∨ (J1.go j H ∧ ∃ Nx1 : Hp → Prop, (∀ H', Nx1 H' → ∃ k', k' < k ∧ W1 (j + 1) k' H') ∧ ∀ x H', J1.yld j H x H' → g1 x (wipe σ2 vs1) H' fun σ3 H5 => wipe σ3 vs1 = wipe σ2 vs1 ∧
        te σ3 H5 fun y H7 => ∃ ks z, y = .str z ∧ H7 D = some (TxO w D ks) ∧ ks.length + 1 < scanBound ∧ Nx1 (upd H7 D (TxO w D (addK ks z)))))
abbrev Blk (X : Cx) (scope : Scope) (Z : Cx → Prop) : Prop := ∀ (s : Shared) (H : Hp) (C : Addr) (cl : List (Str × Addr)) (fp : List Addr), Z (X.blk s H scope (compEnvC scope cl C X.env) fp)
theorem sc2_core {pins : List (Addr × Obj)} {s : Shared} {σ : L2.St} {H : Hp} {Q : VK} {elt tg iter tg1 iter1 : Expr} {scope : Scope} {own : List (Str × Nat)} {vs1 : List Nat} {pos pos' : Pos} {wi wi1 : TI} {g g1 : TG} {te : TE} {use : Option (Value → Sem Unit)} {Qf : Value → Shared → Prop}
    (hc : X.calm = true) (hN : X.N.Nodup) (I : Inv X pins σ H s) (hi : PI X tg iter wi) (ok : BlkOk X.N X.env.scope scope own) (hv : ∀ i ∈ vs1, i ∈ own.map (·.2))
    (hg : Blk X scope fun Y => PG Y tg g) (hi1 : Blk X scope fun Y => PI Y tg1 iter1 wi1) (hg1 : Blk X scope fun Y => PG Y tg1 g1) (he : Blk X scope fun Y => PE Y elt te)
    (hs : ∀ x, foldedSetIterable iter X.env x = pure x) (hs1 : ∀ env x, foldedSetIterable iter1 env x = pure x) (h : tSc2 X.w wi g wi1 g1 te (own.map (·.2)) vs1 σ H Q)
    (hRR : ∀ D C s' m H', Inv X pins σ H' s' → Q (.ref D) H' → s'.heap.Ns C m → FpOk X pins H' C → compPost (model X.prog X.w) X.A X.xe use Qf (.ref D) C (.ok .next) s') :
    wpAny (model X.prog X.w) X.A (comprehension (two2 elt tg iter tg1 iter1 scope pos) scope X.env pos' (newSet (.type "set")) false (eval iter X.env) use) Qf X.xe s := by
  have hfree : ∀ y ∈ scope.names, y.2 = .free → ∃ c, X.env.cells.lookup y.1 = some c := fun y hy e => (ok.free y hy e).elim (fun k => I.ok.has _ (.inl k)) fun k => I.ok.has _ (.inr k)
  refine wpAny_comprehension_free (use := use) rfl hs (closure_ok hfree) ok.kind (fun y hy e => by rw [ok.uniq y hy, e]) (thn (hi.run pins s σ H _ I h) fun xv s1 hx => thn hx fun itv s2 h2 => ?_)
  obtain ⟨it, fp, tn, J, H2, e, I2, T, st2, f2, q⟩ := h2
  subst e
  refine newSet_ok (newEnv_comp ?_)
  generalize hD : s2.heap.objs.size = D
  have hDn : H2 D = none := I2.hok.fresh (Nat.le_of_eq hD)
  obtain ⟨W, ⟨m0, w0⟩, turn⟩ := q D hDn
  generalize hs3 : ({ s2 with heap := s2.heap.push { cls := .type "set", dict := none, data := .set #[] 0 (.fresh 0 0 (!X.w.params.followText "set-order")) } } : Shared) = s3
  have I3 : Inv X pins σ (upd H2 D (TxO X.w D [])) s3 := by
    rw [← hs3]
    refine I2.laid (t' := s2.toks) (fun b o e => Heap.get?_push_of_some _ e) (Nat.le_of_eq hD) ?_
    rw [← hD]
    exact txO_new (tx_fresh X.w)
  have h3 : s3.heap = s2.heap.push { cls := .type "set", dict := none, data := .set #[] 0 (.fresh 0 0 (!X.w.params.followText "set-order")) } := by rw [← hs3]
  have sz : ∀ b ∈ fp, b < s2.heap.objs.size := fun b hb => let ⟨o, e, _⟩ := T.obj _ _ st2 b hb; Heap.lt_size e
  have f3 : ∀ b ∈ fp, FpOk X pins (upd H2 D (TxO X.w D [])) b ∧ b < s3.heap.objs.size := fun b hb => by
    refine ⟨⟨?_, (f2 b hb).2⟩, by rw [h3, Heap.size_push]; exact Nat.lt_succ_of_lt (sz b hb)⟩
    rw [upd_ne (by rw [← hD]; exact Nat.ne_of_lt (sz b hb))]
    exact (f2 b hb).1
  have st3 : tn 0 s3.heap := T.keep _ _ _ st2 fun b _ o e => by rw [h3]; exact Heap.get?_push_of_some _ e
  have I4 := block_start I3 ok hN f3
  have pg := hg s3 (upd H2 D (TxO X.w D [])) s3.heap.objs.size (cellsFrom (s3.heap.objs.size + 1) scope.names (cloFrom X.env.cells scope.names [])) fp
  have pe := he s3 (upd H2 D (TxO X.w D [])) s3.heap.objs.size (cellsFrom (s3.heap.objs.size + 1) scope.names (cloFrom X.env.cells scope.names [])) fp
  have pi1 := hi1 s3 (upd H2 D (TxO X.w D [])) s3.heap.objs.size (cellsFrom (s3.heap.objs.size + 1) scope.names (cloFrom X.env.cells scope.names [])) fp
  have pg1 := hg1 s3 (upd H2 D (TxO X.w D [])) s3.heap.objs.size (cellsFrom (s3.heap.objs.size + 1) scope.names (cloFrom X.env.cells scope.names [])) fp
  show codeAny _ _ (.compStart (two2 elt tg iter tg1 iter1 scope pos) 0 (.ref it) (.ref D) (compEnvC scope (cellsFrom (s3.heap.objs.size + 1) scope.names (cloFrom X.env.cells scope.names [])) s3.heap.objs.size X.env)) (compPost (model X.prog X.w) X.A X.xe use Qf (.ref D) s3.heap.objs.size) { s3 with heap := pushCells (s3.heap.push { cls := .type "dict", data := .dict #[] }) scope.names }
  have nfp : ∀ b ∈ fp, (upd H2 D (TxO X.w D [])) b = none := fun b hb => (f3 b hb).1.1
  generalize hce : compEnvC scope (cellsFrom (s3.heap.objs.size + 1) scope.names (cloFrom X.env.cells scope.names [])) s3.heap.objs.size X.env = ce at I4 pg pe pi1 pg1 ⊢
  have cL : ce.locals = s3.heap.objs.size := by subst hce; rfl
  generalize hH3 : upd H2 D (TxO X.w D []) = H3 at I3 I4 pg pe pi1 pg1 w0 nfp f3
  generalize hs4 : ({ s3 with heap := pushCells (s3.heap.push { cls := .type "dict", data := .dict #[] }) scope.names } : Shared) = s4 at I4 ⊢
  have st4 : tn 0 s4.heap := T.keep _ _ _ st3 fun b _ o e => by rw [← hs4]; exact pushCells_keeps _ _ _ _ (Heap.get?_push_of_some _ e)
  have stat : ∀ {σ' : L2.St} {H' : Hp} {s' : Shared}, Inv (X.blk s3 H3 scope ce fp) [] σ' H' s' → (∀ b ∈ fp, H' b = none) → ∀ b ∈ fp, FpOk (X.blk s3 H3 scope ce fp) [] H' b := fun {σ' H' s'} I' hn b hb =>
    ⟨hn b hb, (I'.ok.exf b hb).1, I'.ok.exfs b hb, .inl hb, fun x c e => (I'.ok.exf b hb).2 x c e, fun p hp => absurd (show p ∈ ([] : List (Addr × Obj)) ++ [] from hp) (by simp)⟩
  -- the outer loop's word
  generalize hO : (fun (n : Nat) (s' : Shared) => ∃ i H', Inv (X.blk s3 H3 scope ce fp) [] (wipe σ (own.map (·.2))) H' s' ∧ tn i s'.heap ∧ (∀ b ∈ fp, H' b = none) ∧ W i n H') = O
  have loop : codeAny (model X.prog X.w) X.A (.compLoop (two2 elt tg iter tg1 iter1 scope pos) 0 (.ref it) (.ref D) ce) (compPost (model X.prog X.w) X.A X.xe use Qf (.ref D) s3.heap.objs.size) s4 := by
    refine loopS_out (hs1 ce) O ?_ m0 (by rw [← hO]; exact ⟨0, H3, I4, st4, nfp, w0⟩)
    intro n s5 hO5
    rw [← hO] at hO5
    obtain ⟨i, H5, I5, st5, n5, w5⟩ := hO5
    rcases turn i n H5 w5 with ⟨stop, qq⟩ | ⟨go, Nx, hNx, step⟩
    · refine thnF (T.done (X.blk s3 H3 scope ce fp) rfl rfl rfl hc i [] s5 _ H5 NoE I5 (stat I5 n5) st5 stop) fun r s6 ⟨hr, I6⟩ => ?_
      subst hr
      have I7 : Inv X pins σ H5 s6 := I3.call' (ch := fp) I6.os I6.base I6.hok I6.bare fun b hb => ⟨(f3 b hb).1.2.2.2.1, (f3 b hb).1.2.1, (f3 b hb).1.2.2.2.2.1, (f3 b hb).1.2.2.2.2.2⟩
      have nC : H5 s3.heap.objs.size = none := by
        have z : H5 ce.locals = none := I6.free
        rw [cL] at z
        exact z
      obtain ⟨m, hn, _⟩ := I6.loc
      have hn : s6.heap.Ns ce.locals m := hn
      rw [cL] at hn
      exact hRR D s3.heap.objs.size s6 m H5 I7 qq hn (I3.fpOk (Nat.le_refl _) nC)
    · refine thnF (T.item (X.blk s3 H3 scope ce fp) rfl rfl rfl hc i [] s5 _ H5 NoE I5 (stat I5 n5) st5 go) fun r s6 ⟨u, hr, h6⟩ => ?_
      subst hr
      refine thnF h6 fun _ s7 ⟨x, H7, I7, r7, y7, st7, n7⟩ => ?_
      have I7' := I7.pinned (stat I7 n7) (T.obj _ _ st7)
      refine thnF (pg.run _ s7 _ H7 x u _ I7' r7 (step x H7 y7)) fun _ s8 ⟨σ8, H8, I8, hw8, q8⟩ => ?_
      have fin : ∀ {σ9 : L2.St} {s' : Shared} {H' : Hp}, Inv (X.blk s3 H3 scope ce fp) ([] ++ pinsAt fp s7.heap) σ9 H' s' → (wipe σ (own.map (·.2))).length = σ9.length → (∀ (j : Nat) v, (wipe σ (own.map (·.2)))[j]? = some (some v) → σ9[j]? = some (some v)) → Nx H' → ∃ m, m < n ∧ O m s' := fun {σ9 s' H'} I' hl hk nx => by
        obtain ⟨m', hm, w'⟩ := hNx H' nx
        have pin' : ∀ b ∈ fp, ∀ o, s7.heap.get? b = some o → s'.heap.get? b = some o ∧ H' b = none := fun b hb o e =>
          let z := I'.pin (b, o) (List.mem_append_right _ (List.mem_append_right _ (mem_pinsAt hb e)))
          ⟨z.1, z.2.1⟩
        rw [← hO]
        refine ⟨m', hm, i + 1, H', (I'.unpinned (pins := [])).weak hl hk, T.keep _ _ _ st7 fun b hb o e => (pin' b hb o e).1, fun b hb => ?_, w'⟩
        obtain ⟨o, e, _⟩ := T.obj _ _ st7 b hb
        exact (pin' b hb o e).2
      have hl8 : (wipe σ (own.map (·.2))).length = σ8.length := by rw [← hw8, wipe_length]
      have hk9 : ∀ (j : Nat) v, (wipe σ (own.map (·.2)))[j]? = some (some v) → (wipe σ8 vs1)[j]? = some (some v) := fun j v e => by
        rw [← hw8] at e
        obtain ⟨e1, e2⟩ := wipe_some e
        rw [wipe_out fun z => e2 (hv j z)]
        exact e1
      refine thnF (pi1.run _ s8 σ8 H8 _ I8 q8) fun xv s10 hx => thnF hx fun itv s11 h11 => ?_
      obtain ⟨it1, fp1, tn1, J1, H11, e1, I11, T1, st11, f11, W1, ⟨m1, w1⟩, turn1⟩ := h11
      subst e1
      have stat1 : ∀ {H' : Hp}, (∀ b ∈ fp1, H' b = none) → ∀ b ∈ fp1, FpOk (X.blk s3 H3 scope ce fp) ([] ++ pinsAt fp s7.heap) H' b := fun hn b hb => ⟨hn b hb, (f11 b hb).2⟩
      have loop1 : codeAny (model X.prog X.w) X.A (.compLoop (two2 elt tg iter tg1 iter1 scope pos) 1 (.ref it1) (.ref D) ce)
          (fun r s' => match r with
            | .ok _ => ∃ m, m < n ∧ O m s'
            | .error _ => False) s11 := by
        refine loopS_in (fun k s' => ∃ j H', Inv (X.blk s3 H3 scope ce fp) ([] ++ pinsAt fp s7.heap) (wipe σ8 vs1) H' s' ∧ tn1 j s'.heap ∧ (∀ b ∈ fp1, H' b = none) ∧ W1 j k H') ?_ m1 ⟨0, H11, I11.weak (wipe_length _ _) (fun j v e => (wipe_some e).1), st11, fun b hb => (f11 b hb).1, w1⟩
        rintro k s12 ⟨j, H12, I12, st12, n12, w12⟩
        rcases turn1 j k H12 w12 with ⟨stop1, nx1⟩ | ⟨go1, Nx1, hNx1, step1⟩
        · refine thnF (T1.done (X.blk s3 H3 scope ce fp) rfl rfl rfl hc j _ s12 (wipe σ8 vs1) H12 NoE I12 (stat1 n12) st12 stop1) fun r s13 ⟨hr, I13⟩ => ?_
          subst hr
          exact fin I13 (hl8.trans (wipe_length σ8 vs1).symm) hk9 nx1
        · refine thnF (T1.item (X.blk s3 H3 scope ce fp) rfl rfl rfl hc j _ s12 (wipe σ8 vs1) H12 NoE I12 (stat1 n12) st12 go1) fun r s13 ⟨u1, hr, h13⟩ => ?_
          subst hr
          refine thnF h13 fun _ s14 ⟨x1, H14, I14, r14, y14, st14, n14⟩ => ?_
          have I14' := I14.pinned (stat1 n14) (T1.obj _ _ st14)
          refine thnF (pg1.run _ s14 (wipe σ8 vs1) H14 x1 u1 _ I14' r14 (step1 x1 H14 y14)) fun _ s15 ⟨σ15, H15, I15, hw15, q15⟩ => ?_
          refine thnF (pe.run _ s15 σ15 H15 _ I15 q15) fun z s17 ⟨yv, H17, I17, r17, ks, y, ey, hD17, hz17, nx⟩ => ?_
          subst ey
          refine addTx_ok (X := X.blk s3 H3 scope ce fp) I17 hD17 hz17 r17 fun s' I' => ?_
          obtain ⟨m', hm, w'⟩ := hNx1 _ nx
          have pin' : ∀ b ∈ fp1, ∀ o, s14.heap.get? b = some o → s'.heap.get? b = some o ∧ (upd H17 D (TxO X.w D (addK ks y))) b = none := fun b hb o e =>
            let z := I'.pin (b, o) (List.mem_append_right _ (List.mem_append_right _ (mem_pinsAt hb e)))
            ⟨z.1, z.2.1⟩
          refine ⟨m', hm, j + 1, _, I'.unpinned.weak (by rw [← hw15, wipe_length]) (fun j v e => by rw [← hw15] at e; exact (wipe_some e).1), T1.keep _ _ _ st14 fun b hb o e => (pin' b hb o e).1, fun b hb => ?_, w'⟩
          obtain ⟨o, e, _⟩ := T1.obj _ _ st14 b hb
          exact (pin' b hb o e).2
      exact startS_in loop1 (T1.self X.A 0 _ _ _ st11 loop1)
  exact codeAny_compStart_set loop (T.self X.A 0 _ _ _ st4 loop)
theorem pe_sc2 {w : World} (hw : X.w = w) {elt tg iter tg1 iter1 : Expr} {scope : Scope} {own : List (Str × Nat)} {vs1 : List Nat} {pos : Pos} {wi wi1 : TI} {g g1 : TG} {te : TE} (hc : X.calm = true) (hN : X.N.Nodup) (hi : PI X tg iter wi) (ok : BlkOk X.N X.env.scope scope own) (hv : ∀ i ∈ vs1, i ∈ own.map (·.2))
    (hg : Blk X scope fun Y => PG Y tg g) (hi1 : Blk X scope fun Y => PI Y tg1 iter1 wi1) (hg1 : Blk X scope fun Y => PG Y tg1 g1) (he : Blk X scope fun Y => PE Y elt te) (hs : ∀ x, foldedSetIterable iter X.env x = pure x := by intro _; rfl) (hs1 : ∀ env x, foldedSetIterable iter1 env x = pure x := by intro _ _; rfl) :
    PE X (two2 elt tg iter tg1 iter1 scope pos) (tSc2 w wi g wi1 g1 te (own.map (·.2)) vs1) := by
  subst hw
  refine ⟨fun pins s σ H Q I h => ?_⟩
  unfold two2
  rw [eval_SetComp]
  refine sc2_core hc hN I hi ok hv hg hi1 hg1 he hs hs1 h fun D C s' m H' I' q hn f => ⟨m, hn, fun h'' sb => ?_⟩
  obtain ⟨f0, f1, f2, f3, f4, f5⟩ := f
  exact ⟨.ref D, H', I'.turned (t' := s'.toks) (fun b o hb e => (sb.2 b hb).trans e) f0 f1 f3 f4 f5, rfl, q⟩
end
/-! {word for pair in pairs for word in pair} -/
def addAll (acc : List Str) (ws : List Str) : List Str := ws.foldl addK acc
def wordsOf (ds : List (List Str)) : List Str := ds.foldl addAll []
theorem addK_len (ks : List Str) (k : Str) : (addK ks k).length ≤ ks.length + 1 := by
  unfold addK
  split
  · omega
  · rw [List.length_append]
    exact Nat.le_refl _
theorem addAll_len : ∀ (ws acc : List Str), (addAll acc ws).length ≤ acc.length + ws.length
  | [], _ => Nat.le_refl _
  | w :: ws, acc => by
    have h := addAll_len ws (addK acc w)
    have := addK_len acc w
    show (addAll (addK acc w) ws).length ≤ acc.length + (ws.length + 1)
    omega
theorem addAlls_len : ∀ (ds : List (List Str)) (acc : List Str), (ds.foldl addAll acc).length ≤ acc.length + ds.flatten.length
  | [], _ => Nat.le_refl _
  | d :: ds, acc => by
    have h := addAlls_len ds (addAll acc d)
    have := addAll_len d acc
    show (ds.foldl addAll (addAll acc d)).length ≤ acc.length + (d ++ ds.flatten).length
    rw [List.length_append]
    omega
theorem addK_mem {ks : List Str} {k x : Str} : x ∈ addK ks k ↔ x ∈ ks ∨ x = k := by
  unfold addK
  split
  · rename_i h
    exact ⟨.inl, fun z => z.elim id fun e => e ▸ h⟩
  · rw [List.mem_append, List.mem_singleton]
theorem addAll_mem {x : Str} : ∀ (ws acc : List Str), x ∈ addAll acc ws ↔ x ∈ acc ∨ x ∈ ws
  | [], acc => by simp [addAll]
  | w :: ws, acc => by
    show x ∈ addAll (addK acc w) ws ↔ _
    rw [addAll_mem ws, addK_mem, List.mem_cons, or_assoc]
theorem wordsOf_mem' {x : Str} : ∀ (ds : List (List Str)) (acc : List Str), x ∈ ds.foldl addAll acc ↔ x ∈ acc ∨ ∃ d ∈ ds, x ∈ d
  | [], acc => by simp
  | d :: ds, acc => by
    show x ∈ ds.foldl addAll (addAll acc d) ↔ _
    rw [wordsOf_mem' ds, addAll_mem, or_assoc]
    simp
theorem wordsOf_mem {x : Str} {ds : List (List Str)} : x ∈ wordsOf ds ↔ ∃ d ∈ ds, x ∈ d := by
  unfold wordsOf
  rw [wordsOf_mem']
  simp
theorem addK_nodup {ks : List Str} {k : Str} (h : ks.Nodup) : (addK ks k).Nodup := by
  unfold addK
  split
  · exact h
  · rename_i n
    exact List.nodup_append.mpr ⟨h, by simp, fun x hx y hy e => n (by rw [← List.mem_singleton.mp hy, ← e]; exact hx)⟩
theorem addAll_nodup : ∀ (ws : List Str) {acc : List Str}, acc.Nodup → (addAll acc ws).Nodup
  | [], _, h => h
  | w :: ws, _, h => addAll_nodup ws (addK_nodup h)
theorem wordsOf_nodup (ds : List (List Str)) : (wordsOf ds).Nodup := by
  have go : ∀ (ds : List (List Str)) (acc : List Str), acc.Nodup → (ds.foldl addAll acc).Nodup := by
    intro ds
    induction ds with
    | nil => exact fun _ h => h
    | cons d ds ih => exact fun acc h => ih _ (addAll_nodup d h)
  exact go ds [] List.nodup_nil
section
variable {w : World} {σ : L2.St} {H : Hp} {Q : VK} {K : PySem.W.Frag} {i j : Nat} {vs vs1 : List Nat} {J : It} {n : Nat} {G : Hp → Prop} {Y : Nat → Hp → V → Hp → Prop} {D p : Addr}
/-- the inner loop -/
theorem words_in {σ2 : L2.St} {v : Addr} {ws : List Str} {acc : List Str} {Nx : Hp → Prop} {H0 : Hp} (e0 : H D = some (TxO w D acc)) (k0 : Kp [] H0 H) (nD : H0 D = none) (hv : SqT K H0 v (ws.map V.str)) (hb : acc.length + ws.length + 1 < scanBound)
    (e3 : ∀ u, wipe ((wipe σ2 vs1).set j (some u)) vs1 = wipe σ2 vs1) (e4 : ∀ u, ((wipe σ2 vs1).set j (some u))[j]? = some (some u))
    (q : ∀ H', Kp [] H0 H' → H' D = some (TxO w D (addAll acc ws)) → Nx H') :
    ∃ W1 : Nat → Nat → Hp → Prop, (∃ m, W1 0 m H) ∧ ∀ j' k H, W1 j' k H →
      ((Itt K v).stop j' H ∧ Nx H) ∨ ((Itt K v).go j' H ∧ ∃ Nx1 : Hp → Prop, (∀ H', Nx1 H' → ∃ k', k' < k ∧ W1 (j' + 1) k' H') ∧ ∀ x H', (Itt K v).yld j' H x H' → gName j x (wipe σ2 vs1) H' fun σ3 H5 => wipe σ3 vs1 = wipe σ2 vs1 ∧
        tVar j σ3 H5 fun y H7 => ∃ ks z, y = .str z ∧ H7 D = some (TxO w D ks) ∧ ks.length + 1 < scanBound ∧ Nx1 (upd H7 D (TxO w D (addK ks z)))) := by
  have wk : Walk (Itt K v) (ws.map V.str).length (fun H => SqT K H v (ws.map V.str)) _ := walk_tup
  have en : (ws.map V.str).length = ws.length := List.length_map _
  let G1 : Nat → Hp → Prop := fun i H => Kp [] H0 H ∧ H D = some (TxO w D (addAll acc (ws.take i)))
  refine ⟨fun i m H => m = ws.length - i ∧ i ≤ ws.length ∧ G1 i H, ⟨ws.length, by simp, Nat.zero_le _, k0, e0⟩, ?_⟩
  rintro i m H' ⟨rfl, hi, kk, eD⟩
  have hs : SqT K H' v (ws.map V.str) := sqt_kp hv kk not_nil
  by_cases hlt : i < ws.length
  · refine .inr ⟨wk.goes i H' (by omega) hs, G1 (i + 1), fun H'' g => ⟨ws.length - (i + 1), by omega, rfl, hlt, g⟩, fun x H'' y => ?_⟩
    obtain ⟨eh, ex⟩ := wk.yields i H' x H'' (by omega) hs y
    rw [eh]
    obtain ⟨z, hz, rfl⟩ := map_at ex
    refine ⟨e3 _, _, e4 _, _, z, rfl, eD, ?_, kk.step nD (Kp.put (by simp)), ?_⟩
    · have := addAll_len (ws.take i) acc
      rw [List.length_take] at this
      omega
    · rw [take_more hz]
      show upd H' D _ D = _
      rw [upd_same]
      unfold addAll
      rw [List.foldl_append]
      rfl
  · have ei : i = ws.length := by omega
    subst ei
    rw [List.take_length] at eD
    have st := wk.stops H' hs
    rw [en] at st
    exact .inl ⟨st, q H' kk eD⟩
theorem words_out (wk : Walk J n G Y) {ds : List (List Str)} {xs : List V} (hn : n = ds.length) (hx : DtAll [] H xs (ds.map fun d => .tuple (d.map .str))) (hG : ∀ H', Kp [] H H' → G H') (hY : ∀ i H1 x H2, i < n → Y i H1 x H2 → H2 = H1 ∧ xs[i]? = some x) (hb : ds.flatten.length + 1 < scanBound)
    (e1 : ∀ v, wipe ((wipe σ vs).set i (some v)) vs = wipe σ vs) (e2 : ∀ v, ((wipe σ vs).set i (some v))[i]? = some (some v)) (e3 : ∀ v u, wipe ((wipe ((wipe σ vs).set i (some v)) vs1).set j (some u)) vs1 = wipe ((wipe σ vs).set i (some v)) vs1)
    (e4 : ∀ v u, ((wipe ((wipe σ vs).set i (some v)) vs1).set j (some u))[j]? = some (some u)) (q : ∀ D H', H D = none → Kp [] H H' → H' D = some (TxO w D (wordsOf ds)) → Q (.ref D) H') :
    ∀ D, H D = none → ∃ W : Nat → Nat → Hp → Prop, (∃ m, W 0 m (upd H D (TxO w D []))) ∧ ∀ i' m H, W i' m H →
  (J.stop i' H ∧ Q (.ref D) H) ∨ (J.go i' H ∧ ∃ Nx : Hp → Prop, (∀ H', Nx H' → ∃ m', m' < m ∧ W (i' + 1) m' H') ∧ ∀ x H', J.yld i' H x H' → gName i x (wipe σ vs) H' fun σ2 H2 => wipe σ2 vs = wipe σ vs ∧
    iTup K (tVar i) σ2 H2 fun J1 H4 => ∃ W1 : Nat → Nat → Hp → Prop, (∃ m, W1 0 m H4) ∧ ∀ j' k H, W1 j' k H →
      (J1.stop j' H ∧ Nx H) ∨ (J1.go j' H ∧ ∃ Nx1 : Hp → Prop, (∀ H', Nx1 H' → ∃ k', k' < k ∧ W1 (j' + 1) k' H') ∧ ∀ x H', J1.yld j' H x H' → gName j x (wipe σ2 vs1) H' fun σ3 H5 => wipe σ3 vs1 = wipe σ2 vs1 ∧
        tVar j σ3 H5 fun y H7 => ∃ ks z, y = .str z ∧ H7 D = some (TxO w D ks) ∧ ks.length + 1 < scanBound ∧ Nx1 (upd H7 D (TxO w D (addK ks z))))) := by
  intro D nD
  let G1 : Nat → Hp → Prop := fun i H' => Kp [] H H' ∧ H' D = some (TxO w D (wordsOf (ds.take i)))
  refine ⟨fun i m H => m = n - i ∧ i ≤ n ∧ G1 i H, ⟨n, by simp, Nat.zero_le _, Kp.new nD, upd_same⟩, ?_⟩
  rintro i' m H' ⟨rfl, hi, kk, eD⟩
  have g := hG H' kk
  by_cases hlt : i' < n
  · refine .inr ⟨wk.goes i' H' hlt g, G1 (i' + 1), fun H'' g => ⟨n - (i' + 1), by omega, rfl, hlt, g⟩, fun x H'' y => ?_⟩
    obtain ⟨eh, ex⟩ := hY i' H' x H'' hlt (wk.yields i' H' x H'' hlt g y)
    rw [eh]
    obtain ⟨d, hd, hxd⟩ := hx.at ex
    obtain ⟨ws, hw, rfl⟩ := map_at hd
    obtain ⟨a, ys, rfl, _, ea, al⟩ := hxd.tuple
    rw [al.strs] at ea
    have sa : SqT K H a (ws.map V.str) := SqT.of ea
    refine ⟨e1 _, _, e2 _, a, rfl, ⟨_, sqt_kp sa kk not_nil⟩, words_in eD kk nD sa ?_ (e3 _) (e4 _) fun H2 k2 e2' => ⟨k2, ?_⟩⟩
    · have h1 := addAlls_len (ds.take i') []
      have h2 : (ds.take (i' + 1)).flatten.length ≤ ds.flatten.length := by
        have h := congrArg (fun l => (List.flatten l).length) (List.take_append_drop (i' + 1) ds)
        simp only [List.flatten_append, List.length_append] at h
        omega
      rw [take_more hw, List.flatten_append, List.length_append] at h2
      have h3 : (List.flatten [ws]).length = ws.length := by simp
      unfold wordsOf
      simp only [List.length_nil] at h1
      omega
    · rw [e2', take_more hw]
      unfold wordsOf
      rw [List.foldl_append]
      rfl
  · have ei : i' = n := by omega
    subst ei
    rw [hn, List.take_length] at eD
    exact .inl ⟨wk.stops H' g, q D H' nD kk eD⟩
variable {tl : TE}
def kWords (w : World) (K : PySem.W.Frag) (i j : Nat) (vs vs1 : List Nat) (σ : L2.St) (Q : VK) : It → Hp → Prop := fun J H1 => ∀ D, H1 D = none → ∃ W : Nat → Nat → Hp → Prop, (∃ m, W 0 m (upd H1 D (TxO w D []))) ∧ ∀ i' m H, W i' m H →
  (J.stop i' H ∧ Q (.ref D) H) ∨ (J.go i' H ∧ ∃ Nx : Hp → Prop, (∀ H', Nx H' → ∃ m', m' < m ∧ W (i' + 1) m' H') ∧ ∀ x H', J.yld i' H x H' → gName i x (wipe σ vs) H' fun σ2 H2 => wipe σ2 vs = wipe σ vs ∧
    iTup K (tVar i) σ2 H2 fun J1 H4 => ∃ W1 : Nat → Nat → Hp → Prop, (∃ m, W1 0 m H4) ∧ ∀ j' k H, W1 j' k H →
      (J1.stop j' H ∧ Nx H) ∨ (J1.go j' H ∧ ∃ Nx1 : Hp → Prop, (∀ H', Nx1 H' → ∃ k', k' < k ∧ W1 (j' + 1) k' H') ∧ ∀ x H', J1.yld j' H x H' → gName j x (wipe σ2 vs1) H' fun σ3 H5 => wipe σ3 vs1 = wipe σ2 vs1 ∧
        tVar j σ3 H5 fun y H7 => ∃ ks z, y = .str z ∧ H7 D = some (TxO w D ks) ∧ ks.length + 1 < scanBound ∧ Nx1 (upd H7 D (TxO w D (addK ks z)))))
theorem r_wordsL (q : tl σ H (cWL K (kWords w K i j vs vs1 σ Q))) : tSc2 w (iList K tl) (gName i) (iTup K (tVar i)) (gName j) (tVar j) vs vs1 σ H Q := q
theorem r_wordsT (q : tl σ H (cWT K (kWords w K i j vs vs1 σ Q))) : tSc2 w (iTup K tl) (gName i) (iTup K (tVar i)) (gName j) (tVar j) vs vs1 σ H Q := q
theorem r_kWordsL {ds : List (List Str)} {xs : List V} (hp : SqL K H p xs) (hx : DtAll [] H xs (ds.map fun d => .tuple (d.map .str))) (hb : ds.flatten.length + 1 < scanBound)
    (q : ∀ D H', H D = none → Kp [] H H' → H' D = some (TxO w D (wordsOf ds)) → Q (.ref D) H')
    (e1 : ∀ v, wipe ((wipe σ vs).set i (some v)) vs = wipe σ vs := by intro _; rfl) (e2 : ∀ v, ((wipe σ vs).set i (some v))[i]? = some (some v) := by intro _; rfl) (e3 : ∀ v u, wipe ((wipe ((wipe σ vs).set i (some v)) vs1).set j (some u)) vs1 = wipe ((wipe σ vs).set i (some v)) vs1 := by intro _ _; rfl)
    (e4 : ∀ v u, ((wipe ((wipe σ vs).set i (some v)) vs1).set j (some u))[j]? = some (some u) := by intro _ _; rfl) : kWords w K i j vs vs1 σ Q (Itl K p) H :=
  words_out (walk_list (K := K) (a := p) (xs := xs)) (by rw [hx.length, List.length_map]) hx (fun H' k => sql_kp hp k not_nil) (fun i H1 x H2 _ y => ⟨y.1, y.2⟩) hb e1 e2 e3 e4 q
theorem r_kWordsT {ds : List (List Str)} {xs : List V} (hp : SqT K H p xs) (hx : DtAll [] H xs (ds.map fun d => .tuple (d.map .str))) (hb : ds.flatten.length + 1 < scanBound)
    (q : ∀ D H', H D = none → Kp [] H H' → H' D = some (TxO w D (wordsOf ds)) → Q (.ref D) H')
    (e1 : ∀ v, wipe ((wipe σ vs).set i (some v)) vs = wipe σ vs := by intro _; rfl) (e2 : ∀ v, ((wipe σ vs).set i (some v))[i]? = some (some v) := by intro _; rfl) (e3 : ∀ v u, wipe ((wipe ((wipe σ vs).set i (some v)) vs1).set j (some u)) vs1 = wipe ((wipe σ vs).set i (some v)) vs1 := by intro _ _; rfl)
    (e4 : ∀ v u, ((wipe ((wipe σ vs).set i (some v)) vs1).set j (some u))[j]? = some (some u) := by intro _ _; rfl) : kWords w K i j vs vs1 σ Q (Itt K p) H :=
  words_out (walk_tup (K := K) (a := p) (xs := xs)) (by rw [hx.length, List.length_map]) hx (fun H' k => sqt_kp hp k not_nil) (fun i H1 x H2 _ y => ⟨y.1, y.2⟩) hb e1 e2 e3 e4 q
theorem r_lenTx {ks : List Str} {a : Addr} (h : H a = some (TxO w a ks)) (q : Q (.int (ks.length : Nat)) H) : rLenTx w [.ref a] H Q := ⟨a, ks, rfl, h, q⟩
theorem r_sortTx {ks : List Str} {a : Addr} (h : H a = some (TxO w a ks)) (q : ∀ cs l H', cs.Perm ks → ks.Nodup → H l = none → Kp [] H H' → H' l = some (.lst ((srtT cs).map V.str)) → Q (.ref l) H') : rSortTx w [.ref a] H Q := ⟨a, ks, rfl, h, fun cs l p nd n => q cs l _ p nd n (Kp.new n) upd_same⟩
end
end Rd

set_option maxHeartbeats 4000000
/-! New: data laid since a heap. -/
namespace Rd
open PySem PySem.Spec L2
/-- what is allocated -/
def Has (H : Hp) (b : Addr) : Prop := ∃ o, H b = some o
/-- x is the data d in H', laid since H (scalars, or new objects only) -/
def New (H H' : Hp) (x : V) (d : PyData) : Prop := ∀ ex, (∀ b ∈ ex, Has H b) → Dt ex H' x d
def NewAll (H H' : Hp) (xs : List V) (ds : List PyData) : Prop := ∀ ex, (∀ b ∈ ex, Has H b) → DtAll ex H' xs ds
theorem Has.kp {H H' : Hp} {b : Addr} (h : Has H b) (k : Kp [] H H') : Has H' b := let ⟨o, e⟩ := h; ⟨o, k _ _ e not_nil⟩
theorem New.mono {H H' H'' : Hp} {x : V} {d : PyData} (h : New H H' x d) (k : Kp [] H' H'') : New H H'' x d := fun ex e => (h ex e).mono k.nil
theorem NewAll.mono {H H' H'' : Hp} {x : List V} {d : List PyData} (h : NewAll H H' x d) (k : Kp [] H' H'') : NewAll H H'' x d := fun ex e => (h ex e).mono k.nil
theorem New.mono1 {H H' H'' : Hp} {x : V} {d : PyData} {p : Addr} (h : New H H' x d) (hp : Has H p) (k : Kp [p] H' H'') : New H H'' x d := fun ex e =>
  ((h (p :: ex) fun b m => (List.mem_cons.mp m).elim (fun z => z ▸ hp) (e b)).mono (k.mono fun b m => List.mem_cons.mpr (.inl (List.mem_singleton.mp m)))).less fun _ m => List.mem_cons_of_mem _ m
theorem NewAll.mono1 {H H' H'' : Hp} {x : List V} {d : List PyData} {p : Addr} (h : NewAll H H' x d) (hp : Has H p) (k : Kp [p] H' H'') : NewAll H H'' x d := fun ex e =>
  ((h (p :: ex) fun b m => (List.mem_cons.mp m).elim (fun z => z ▸ hp) (e b)).mono (k.mono fun b m => List.mem_cons.mpr (.inl (List.mem_singleton.mp m)))).less fun _ m => List.mem_cons_of_mem _ m
theorem New.back {H H1 H' : Hp} {x : V} {d : PyData} (h : New H1 H' x d) (a : ∀ b, Has H b → Has H1 b) : New H H' x d := fun ex e => h ex fun b m => a b (e b m)
theorem NewAll.back {H H1 H' : Hp} {x : List V} {d : List PyData} (h : NewAll H1 H' x d) (a : ∀ b, Has H b → Has H1 b) : NewAll H H' x d := fun ex e => h ex fun b m => a b (e b m)
theorem New.dt {H H' : Hp} {x : V} {d : PyData} (h : New H H' x d) : Dt [] H' x d := h [] fun _ m => nomatch m
theorem NewAll.dt {H H' : Hp} {x : List V} {d : List PyData} (h : NewAll H H' x d) : DtAll [] H' x d := h [] fun _ m => nomatch m
theorem DtAll.mem {ex : List Addr} {H : Hp} : ∀ {vs : List V} {ds : List PyData} {i : Nat} {v : V}, DtAll ex H vs ds → vs[i]? = some v → ∃ d, ds[i]? = some d := fun h e => let ⟨d, hd, _⟩ := h.at e; ⟨d, hd⟩
theorem NewAll.mem {H H' : Hp} {xs : List V} {ds : List PyData} {v : V} (h : NewAll H H' xs ds) (m : v ∈ xs) : ∃ d ∈ ds, New H H' v d := by
  obtain ⟨i, e⟩ := List.mem_iff_getElem?.mp m
  obtain ⟨d, hd, _⟩ := h.dt.at e
  refine ⟨d, List.mem_of_getElem? hd, fun ex he => ?_⟩
  obtain ⟨d', hd', q⟩ := (h ex he).at e
  rw [hd] at hd'
  cases hd'
  exact q
theorem NewAll.cons {H H' : Hp} {v : V} {vs : List V} {d : PyData} {ds : List PyData} (h : New H H' v d) (t : NewAll H H' vs ds) : NewAll H H' (v :: vs) (d :: ds) := fun ex e => .cons (h ex e) (t ex e)
theorem New.tup {H H1 H' : Hp} {p : Addr} {xs : List V} {ds : List PyData} (h : NewAll H H' xs ds) (n : H1 p = none) (a : ∀ b, Has H b → Has H1 b) (e : H' p = some (.tup xs)) : New H H' (.ref p) (.tuple ds) := fun ex he =>
  .tup (fun m => by
    obtain ⟨o, ho⟩ := a p (he p m)
    rw [n] at ho
    cases ho) e (h ex he)
theorem New.lst {H H1 H' : Hp} {p : Addr} {xs : List V} {ds : List PyData} (h : NewAll H H' xs ds) (n : H1 p = none) (a : ∀ b, Has H b → Has H1 b) (e : H' p = some (.lst xs)) : New H H' (.ref p) (.list ds) := fun ex he =>
  .lst (fun m => by
    obtain ⟨o, ho⟩ := a p (he p m)
    rw [n] at ho
    cases ho) e (h ex he)
/-! displays of new data -/
def EN (te : TE) (σ : St) (H : Hp) (d : PyData) : Prop := ∀ Q : VK, (∀ x H', Kp [] H H' → New H H' x d → Q x H') → te σ H Q
def AN (tr : TA) (σ : St) (H : Hp) (ds : List PyData) : Prop := ∀ QA : List V → Hp → Prop, (∀ xs H', Kp [] H H' → NewAll H H' xs ds → QA xs H') → tr σ H QA
section
variable {σ : St} {H : Hp} {Q : VK} {QA : List V → Hp → Prop} {d : PyData} {ds : List PyData} {te : TE} {tr : TA} {v : V} {i : Nat}
theorem r_EN (h : EN te σ H d) (q : ∀ x H', Kp [] H H' → New H H' x d → Q x H') : te σ H Q := h Q q
theorem r_AN (h : AN tr σ H ds) (q : ∀ xs H', Kp [] H H' → NewAll H H' xs ds → QA xs H') : tr σ H QA := h QA q
theorem EN_c (h : ∀ ex, Dt ex H v d) : EN (tC v) σ H d := fun _ q => q v H (Kp.refl _ _) fun ex _ => h ex
theorem EN_var (e : σ[i]? = some (some v)) (h : ∀ ex, Dt ex H v d) : EN (tVar i) σ H d := fun _ q => ⟨v, e, q v H (Kp.refl _ _) fun ex _ => h ex⟩
theorem AN_nil : AN tNil σ H [] := fun _ q => q [] H (Kp.refl _ _) fun _ _ => .nil
theorem AN_cons (h : EN te σ H d) (hr : ∀ H1, Kp [] H H1 → AN tr σ H1 ds) : AN (tCons te tr) σ H (d :: ds) := fun _ q =>
  h _ fun x H1 k1 h1 => hr H1 k1 _ fun xs H2 k2 h2 => q (x :: xs) H2 (k1.trans k2) (.cons (h1.mono k2) (h2.back fun _ a => a.kp k1))
theorem EN_tup (h : AN tr σ H ds) (hl : ds.length ≤ sizeLine) : EN (tTup tr) σ H (.tuple ds) := fun _ q =>
  h _ fun xs H1 k1 h1 => ⟨h1.dt.length ▸ hl, fun p n => q (.ref p) _ (k1.trans (Kp.new n)) (New.tup (h1.mono (Kp.new n)) n (fun _ a => a.kp k1) upd_same)⟩
theorem EN_lst (h : AN tr σ H ds) (hl : ds.length ≤ sizeLine) : EN (tLst tr) σ H (.list ds) := fun _ q =>
  h _ fun xs H1 k1 h1 => ⟨h1.dt.length ▸ hl, fun p n => q (.ref p) _ (k1.trans (Kp.new n)) (New.lst (h1.mono (Kp.new n)) n (fun _ a => a.kp k1) upd_same)⟩
end
/-! is None -/
def rIsNo : R2 := fun x y H Q => y = .non ∧ Q (.bl (decide (x = .non))) H
def rNotNo : R2 := fun x y H Q => y = .non ∧ Q (.bl (!decide (x = .non))) H
theorem op_isNo {X : Cx} : OpR X (compareOp .Is) rIsNo := op_isN
theorem op_notNo {X : Cx} : OpR X (compareOp .IsNot) rNotNo := op_notN
theorem r_isNo {x : V} {H : Hp} {Q : VK} (q : Q (.bl (decide (x = .non))) H) : rIsNo x .non H Q := ⟨rfl, q⟩
theorem r_notNo {x : V} {H : Hp} {Q : VK} (q : Q (.bl (!decide (x = .non))) H) : rNotNo x .non H Q := ⟨rfl, q⟩
end Rd

set_option maxHeartbeats 4000000
/-! Gd: defs that are called where no repr is under way: what they promise holds just there; repr of data; the law's end for such a law. -/
namespace Rd
open PySem PySem.Spec L2 StX PyProof.Rows
/-- nothing is being shown -/
abbrev Bare (A : Around) : Prop := A.guards = some []
structure FnG (P : Program) (w : World) (K : PySem.W.Frag) (mg : Str → Option Value) (base : Heap) (CX : CXT) (k : Nat) (f : Addr) (fd : FuncData) (ps : List Str) (sp : Sp) : Prop where
  long : ∀ vs H Q E, sp vs H Q E → vs.length = ps.length
  go : ∀ (A : Around) (outer : List Env) (s : Shared) (H : Hp) (args : Args) (us : List Value) (vs : List V) (Q : VK) (E : XK), Bare A → Room k A → Env0 P w K mg base A outer s H → BindsTo s fd args (ps.zip us) → Vals vs us → sp vs H Q E →
    codeAny (model P w) A (.call (.ref f) args) (CR CX outer P w H s Q E) s
section
variable {P : Program} {w : World} {K : PySem.W.Frag} {mg : Str → Option Value} {base : Heap} {CX : CXT} {k : Nat} {f : Addr} {fd : FuncData} {ps : List Str} {sp : Sp}
theorem FnG.of (F : FnOk P w K mg base CX k f fd ps sp) : FnG P w K mg base CX k f fd ps sp := ⟨F.len, fun A outer s H args us vs Q E _ => F.run A outer s H args us vs Q E⟩
/-- a def from its body's reading -/
theorem fn_ofG {name qual : Str} {params : Arguments} {body : List Stmt} {scope : Scope} {dV kV doc pm cdv ct oc : Value} {an od : Option Addr} {osl : Array (Option Value)} {N : List Str}
    (lk : K.lookup f = some ⟨oc, od, .func (PySem.W.fnOf name qual params body scope dV kV doc pm an cdv ct), osl⟩) (hcd : PySem.W.codeIn K cdv qual = true) (S : FnScope N ps scope) (long : ∀ vs H Q E, sp vs H Q E → vs.length = ps.length)
    (read : ∀ (A : Around) (outer : List Env) (s : Shared) (H : Hp) (vs : List V) (Q : VK) (E : XK), Bare (A.deeper (envOfC qual scope s.heap.objs.size f cdv)) → Room k (A.deeper (envOfC qual scope s.heap.objs.size f cdv)) → sp vs H Q E →
      ∃ t, PSs (cxOf CX P w K mg base N qual scope f cdv A outer s H E) body t ∧ t { nx := fun _ H' => Q .non H', rt := Q } (start N vs) H) :
    FnG P w K mg base CX (k + 1) f (PySem.W.fnOf name qual params body scope dV kV doc pm an cdv ct) ps sp := by
  constructor
  · exact long
  intro A outer s H args us vs Q E bare hr e0 hb r hsp
  have kin : K.In s.heap := e0.mod.kin.keeps fun b o e => (e0.bs b o e).1
  have unlim : s.heap.NoLimit := e0.mod.nolimit.keeps fun b o e => (e0.bs b o e).1
  have pars : ∀ y ∈ ps.zip us, scope.names.lookup y.1 = some .local ∨ (scope.names.lookup y.1 = some .cell ∧ ((cellsFrom (s.heap.objs.size + 1) scope.names []).lookup y.1).isSome = true) := by
    intro y hy
    cases S.par y.1 (List.of_mem_zip hy).1 with
    | inl q => exact .inl q
    | inr q => exact .inr ⟨q, PySem.W.cellsFrom_some _ _ _ (.inl q)⟩
  refine codeAny_call_function hr.depth (kin _ _ lk) rfl S.co S.gen rfl (PySem.W.codeRec_of kin hcd) (hb _ _ _ _ ?_)
  refine wpAny_newFunctionEnv_cells S.kind pars fun env he s1 x => ?_
  subst he
  refine ⟨unlim.keeps x.toInCall.keep, codeAny_func ?_⟩
  obtain ⟨t, ht, hq⟩ := read A outer s H vs Q E bare (hr.deeper _) hsp
  have I0 : Inv (cxOf CX P w K mg base N qual scope f cdv A outer s H E) [] (start N vs) H s1 := inv_start S hr.hd e0 (long _ _ _ _ hsp) r x
  refine wpAny_mono (ht.run [] s1 (start N vs) H _ I0 hq) (fun fl s' hs => ?_) fun _ _ hs => hs
  match fl, hs with
  | .ret u, ⟨v, _, H', J, rv, q⟩ => exact ⟨v, H', J.os, J.bare, J.base, J.hok, rv, q⟩
  | .next, ⟨_, H', J, q⟩ => exact ⟨V.non, H', J.os, J.bare, J.base, J.hok, rfl, q⟩
  | .brk, ⟨_, _, _, q⟩ => exact False.elim q
  | .cont, ⟨_, _, _, q⟩ => exact False.elim q
end
/-- a def of this sort, as its callers use it -/
def UseGd (P : Program) (w : World) (K : PySem.W.Frag) (mg : Str → Option Value) (base : Heap) (n : Nat) (x : Str) (ps : List Str) (sp : Sp) : Prop :=
  ∃ f fd, FnG P w K mg base CX0 n f fd ps sp ∧ mg x = some (.ref f) ∧ PySem.W.keepIn K (.ref f) = true ∧ Binds K fd ps []
theorem pe_useGd {X : Cx} {n : Nat} {x : Str} {ps : List Str} {sp : Sp} {e : Expr} {es : List Expr} {t : TA} {p pos : Pos} (U : UseGd X.prog X.w X.K X.mg X.base n x ps sp) (bare : Bare X.A) (hr : Room n X.A) (hg : Gl X x) (ha : PA X (e :: es) t)
    (hdb : (x == ("__debug__" : Str)) = false := by decide) (he : starEach (e :: es) X.env = (false, eval e X.env) :: starEach es X.env := by rfl) (hpl : (backTo pos (starEach es X.env)).any (·.1) = false := by rfl) :
    PE X (.Call (.Name x p) (e :: es) [] pos) (tUse sp t) := by
  obtain ⟨f, fd, F, hm, hk, hb⟩ := U
  refine ⟨fun pins s σ H Q I h => ?_⟩
  refine wpAny_Call_Name_kw (ld_glob I hg hm ?_ hdb)
  refine PySem.W.callWith_K (h₀ := X.base) I.ok.mod.kin hk (thn (ha.run pos pins s σ H _ I h) fun us s1 ⟨vs, H1, I1, r, q⟩ => ⟨I1.kIn, ?_⟩) he hpl
  have hl : (us ++ []).length = ps.length := by
    rw [List.append_nil, ← r.length]
    exact F.long _ _ _ _ q
  have hbd := hb s1 us I1.kIn hl
  rw [List.append_nil] at hbd
  refine wpAny_call (codeAny_mono (F.go X.A X.stack s1 H1 ⟨us, []⟩ us vs Q E0 bare hr I1.env0 hbd r q) fun r s' z => ?_)
  match r, z with
  | .error _, z => exact False.elim z
  | .ok (.ret _), z => exact I1.after z
  | .ok .next, z => exact False.elim z
  | .ok .brk, z => exact False.elim z
  | .ok .cont, z => exact False.elim z
/-! ### repr of data -/
def cReprD (K : PySem.W.Frag) : R1 := fun xs H Q => ∃ (a : Addr) (d : PyData), xs = [.ref a] ∧ Dp K H (.ref a) d ∧ d.showable = true ∧ d.hasDict = false ∧ d.depth ≤ 60 ∧ d.shown.length ≤ sizeLine ∧ Q (.str d.shown) H
theorem K_reprD {X : Cx} {K : PySem.W.Frag} (hK : X.K = K) (bare : Bare X.A) (hu : X.A.units + 64 < cLine) : CallR X (.builtin "repr") (cReprD K) := by
  subst hK
  intro pins s σ H xs us Q I r h
  obtain ⟨a, d, rfl, hd, hs, hn, hdp, hz, q⟩ := h
  obtain ⟨u, rfl, ru⟩ := r.one
  cases (show u = Value.ref a from ru)
  obtain ⟨as, rd⟩ := Dp.reads I d (.ref a) (.ref a) hd rfl
  refine repr_of_reads' rd hs (fun z => by rw [hn] at z; cases z) bare (by omega) (fun _ _ e => e) (fun h' u tk hk => ?_) hz
  exact ⟨.str d.shown, H, I.kept (t' := tk) hk, ⟨_, rfl⟩, q⟩
theorem r_reprD {K : PySem.W.Frag} {H : Hp} {Q : VK} {ex : List Addr} {a : Addr} {d : PyData} (h : Dt ex H (.ref a) d) (hs : d.showable = true) (hn : d.hasDict = false) (hdp : d.depth ≤ 60) (hz : d.shown.length ≤ sizeLine) (q : Q (.str d.shown) H) : cReprD K [.ref a] H Q := ⟨a, d, rfl, h.dp, hs, hn, hdp, hz, q⟩
end Rd

set_option maxHeartbeats 4000000
/-! Gd2: the law's end where the law's def promises just where nothing is being shown (FnG). -/
namespace Rd
open PySem PySem.Spec L2 PyProof.Rows
/-- how the call of the law ends -/
abbrev EndsTrue (s₁ : Shared) : Result → Shared → Prop := fun r s' => r = .ok (.ret (.bool true)) ∧ OldK s₁.heap s'.heap ∧ s'.os = s₁.os ∧ AllBare s'.gens
section
variable {P : Program} {w : World} {K : PySem.W.Frag} {mg mb : Str → Option Value} {CX : CXT} {k : Nat} {fa a : Addr} {fd : FuncData} {x : Str} {sp : Sp} {s₁ : Shared} {vs : List Value} {ns : List Int}
/-- from any abstract heap that tracks nothing but the script -/
theorem law_fromG (KX : K.In s₁.heap) (hns : s₁.heap.Ns mainGlobals mg) (hb : s₁.heap.Ns builtinsNs mb) (hbb : ∀ x : Str, x ≠ "__name__" → mb x = bootBuiltins x) (hlim : s₁.heap.NoLimit) (hg : s₁.gens = #[])
    (ha : s₁.heap.get? a = some { cls := .type "list", data := .seq vs.toArray }) (hr : Room k callerA)
    (F : ∀ base : Heap, K.In base → base.Ns mainGlobals mg → FnG P w K mg base CX k fa fd [x] sp) (hbind : ∀ (s : Shared) (u : Value), BindsTo s fd ⟨[u], []⟩ [(x, u)])
    (hCX : ∀ H e s', CX [] H s₁ (fun _ _ _ => False) e s' → False) (H : Hp) (hO : Only H) (q : sp [.ref a] H (fun v _ => v = .bl true) fun _ _ _ => False) (hok : HOk P w H s₁.heap) (one : ∀ b, H b ≠ none → b = a) (own : H a ≠ none → K.lookup a = none) :
    codeAny (model P w) callerA (.call (.ref fa) ⟨[.ref a], []⟩) (EndsTrue s₁) s₁ := by
  -- what the abstract heap does not track stands in the base
  have low : ∀ {b : Addr} {o : Obj}, s₁.heap.get? b = some o → H b = none → (hidT s₁.heap H).get? b = some o := fun e n => hidT_get e n
  have dicts : ∀ {b : Addr} {o : Obj} {es : Array DictEntry} {ep : Nat}, s₁.heap.get? b = some o → o.data = .dict es ep → H b = none := by
    intro b o es ep e d
    by_cases z : H b = none
    · exact z
    · have := one b z
      subst this
      rw [ha] at e
      cases e
      cases d
  have names : ∀ {b : Addr} {m : Str → Option Value}, s₁.heap.Ns b m → (hidT s₁.heap H).Ns b m := by
    rintro b m ⟨o, es, ep, e, d, r⟩
    exact ⟨o, es, ep, low e (dicts e d), d, r⟩
  have kin : K.In (hidT s₁.heap H) := by
    intro b o e
    refine low (KX b o e) ?_
    by_cases z : H b = none
    · exact z
    · have := one b z
      subst this
      rw [own z] at e
      cases e
  obtain ⟨mc, l1, l2⟩ := hlim
  have e0 : Env0 P w K mg (hidT s₁.heap H) callerA [] s₁ H :=
    ⟨rfl, ⟨kin, names hns, ⟨mb, names hb, hbb⟩, ⟨mc, names l1, l2⟩⟩, fun b o e => of_hidT e, Nat.le_of_eq (hidT_size _ _), trivial, (fun b z => nomatch (show b ∈ ([] : List Addr) from z)), hok, AllBare.of_eq hg⟩
  refine codeAny_mono ((F _ kin (names hns)).go callerA [] s₁ H ⟨[.ref a], []⟩ [.ref a] [.ref a] _ _ rfl hr e0 (hbind s₁ (.ref a)) (.cons rfl .nil) q) fun r s' h => ?_
  match r, h with
  | .error e, h => exact (hCX H e s' h).elim
  | .ok .next, h => exact h.elim
  | .ok .brk, h => exact h.elim
  | .ok .cont, h => exact h.elim
  | .ok (.ret u), ⟨v, H', os, bare, un, hok', ru, qv⟩ =>
    cases (show v = .bl true from qv)
    cases (show u = Value.bool true from ru)
    refine ⟨rfl, OldK.of_keep fun b o e => ?_, os, bare⟩
    by_cases z : H b = none
    · exact un.keep b o e z (fun w => nomatch (show b ∈ ([] : List Addr) from w)) (by simp)
    · rcases hO b with n | ⟨ob, xs, t⟩
      · exact absurd n z
      · have t' := un.frzs b ob _ t
        have e1 := (hok b _ t).1
        have e2 := (hok' b _ t').1
        rw [e] at e1
        cases e1
        exact e2
theorem law_callG (KX : K.In s₁.heap) (hns : s₁.heap.Ns mainGlobals mg) (hb : s₁.heap.Ns builtinsNs mb) (hbb : ∀ x : Str, x ≠ "__name__" → mb x = bootBuiltins x) (hlim : s₁.heap.NoLimit) (hg : s₁.gens = #[])
    (ha : s₁.heap.get? a = some { cls := .type "list", data := .seq vs.toArray }) (hi : IntsAre vs ns) (hl : ns.length ≤ sizeLine) (hr : Room k callerA)
    (F : ∀ base : Heap, K.In base → base.Ns mainGlobals mg → FnG P w K mg base CX k fa fd [x] sp) (hbind : ∀ (s : Shared) (u : Value), BindsTo s fd ⟨[u], []⟩ [(x, u)])
    (hsp : ∀ H : Hp, Only H → SqL K H a (ns.map V.int) → sp [.ref a] H (fun v _ => v = .bl true) fun _ _ _ => False) (hCX : ∀ H e s', CX [] H s₁ (fun _ _ _ => False) e s' → False) :
    codeAny (model P w) callerA (.call (.ref fa) ⟨[.ref a], []⟩) (EndsTrue s₁) s₁ := by
  have rv := vals_ints hi
  have lv := hi.length
  by_cases c : ∃ o, K.lookup a = some o
  · obtain ⟨o, hk⟩ := c
    have e := KX a o hk
    rw [ha] at e
    cases e
    have hO : Only (fun _ => none) := fun _ => .inl rfl
    refine law_fromG KX hns hb hbb hlim hg ha hr F hbind hCX (fun _ => none) hO (hsp _ hO ?_) (fun b u z => nomatch z) (fun b z => absurd rfl z) fun z => absurd rfl z
    exact .inr ⟨_, vs.toArray, _, hk, rfl, rfl, rfl, by rw [List.size_toArray, lv]; exact hl, by simpa using rv⟩
  · have hk : K.lookup a = none := by
      cases z : K.lookup a with
      | none => rfl
      | some o => exact absurd ⟨o, z⟩ c
    have h1 : ∀ b, (fun b : Addr => if b = a then some (HO.frz { cls := .type "list", data := .seq vs.toArray } (.lst (ns.map V.int))) else none) b ≠ none → b = a := fun b z => by
      by_cases h : b = a
      · exact h
      · exact absurd (if_neg h) z
    have hO : Only (fun b : Addr => if b = a then some (HO.frz { cls := .type "list", data := .seq vs.toArray } (.lst (ns.map V.int))) else none) := fun b => by
      by_cases h : b = a
      · exact .inr ⟨_, _, if_pos h⟩
      · exact .inl (if_neg h)
    refine law_fromG KX hns hb hbb hlim hg ha hr F hbind hCX _ hO (hsp _ hO (.inl (.inr ⟨_, if_pos rfl⟩))) (fun b u z => ?_) h1 fun _ => hk
    have hba : b = a := h1 b (fun w => by have w2 := z.symm.trans w; cases w2)
    subst hba
    have z' := (if_pos (c := b = b) rfl).symm.trans z
    cases z'
    exact ⟨ha, by rw [List.length_map]; exact hl, vs, _, rv, ha⟩
end
theorem walk_ofG {l : PySem.W.OpenLaw} {n k : Nat} {q : Program} {loose : List Str} {XP : (Str → Option Value) → Heap → Prop} {YP : World → Heap → Prop} {d : DefRec} {K : Params → PySem.W.Frag} {CX : World → CXT} {sp : World → Sp} {x : Str}
    (hn : l.most = some n) (hn2 : n ≤ sizeLine) (hdf : d.params.defaults = []) (hr : Room k callerA) (hY : ∀ (w : World) (h : Heap), YP w h → (K w.params).In h)
    (F : ∀ (w : World) (mg : Str → Option Value) (fa : Addr) (h : Heap), (K w.params).In h → h.Ns mainGlobals mg → mg d.name = some (.ref fa) →
      ∃ fd : FuncData, (∀ (s : Shared) (u : Value), BindsTo s fd ⟨[u], []⟩ [(x, u)]) ∧ ∀ base : Heap, (K w.params).In base → base.Ns mainGlobals mg → FnG l.prog w (K w.params) mg base (CX w) k fa fd [x] (sp w))
    (hsp : ∀ (w : World) (H : Hp) (a : Addr) (ns : List Int), ns.length ≤ n → Only H → SqL (K w.params) H a (ns.map V.int) → sp w [.ref a] H (fun v _ => v = .bl true) fun _ _ _ => False)
    (hCX : ∀ (w : World) (H : Hp) (s : Shared) (e : Value) (s' : Shared), CX w [] H s (fun _ _ _ => False) e s' → False) :
    PySem.W.WalkO q loose XP YP l.row.toRowW d [] (fun f vs => PySem.call f vs) := by
  refine Att.attach_call hn hdf fun w s₀ s₁ mg mb fa o pm cd doc a vs ns G Y ho hd hcd hmg hobj hints hlen hg => ?_
  obtain ⟨fd, hbd, hF⟩ := F w mg fa _ (hY w _ Y) G.T.g hmg
  exact law_callG (hY w _ Y) G.T.g G.T.b G.T.builtins G.T.nolimit hg hobj hints (Nat.le_trans hlen hn2) hr hF hbd (fun H hO hS => hsp w H a ns hlen hO hS) fun H e s' => hCX w H s₁ e s'
end Rd

set_option maxHeartbeats 4000000
/-! CallKw: an own class made with keywords that its __init__ takes by **d. -/
namespace Rd
open PySem PySem.Spec L2 StX PyProof.Rows
open PySem.W (dictOf kwEs putL putL_new putName_dict)
section
variable {prog : Program} {w : World} {A : Around} {E : Value → Shared → Prop} {d : Addr}
/-- a pair put into a new dict of texts -/
theorem ns_put {s : Shared} {es : List DictEntry} {n : Nat} {k : Str} {v : Value} {Q : Unit → Shared → Prop} (D : s.heap.get? d = some (dictOf es n)) (hs : ∀ e ∈ es, e.key.isStr k = false) (hr : ∀ e ∈ es, e.refKey = false)
    (h : ∀ h', h'.get? d = some (dictOf (es ++ [⟨PyData.keyHash w.params k, .str k s.toks, v⟩]) (n + 1)) → Heap.SameBut d s.heap h' → Q () { s with heap := h', toks := s.toks + 1 }) :
    wpAny (model prog w) A (nsSet d k v) Q E s := by
  have e1 : es.any (·.key.isStr k) = false := by
    cases q : es.any (·.key.isStr k) with
    | false => rfl
    | true =>
      obtain ⟨e, he, z⟩ := List.any_eq_true.mp q
      rw [hs e he] at z
      cases z
  have e2 : es.any (·.refKey) = false := by
    cases q : es.any (·.refKey) with
    | false => rfl
    | true =>
      obtain ⟨e, he, z⟩ := List.any_eq_true.mp q
      rw [hr e he] at z
      cases z
  have e : Obj.putName k (PyData.keyHash w.params k) (.str k s.toks) v (dictOf es n) = dictOf (es ++ [⟨PyData.keyHash w.params k, .str k s.toks, v⟩]) (n + 1) := by
    rw [putName_dict, putL_new hs]
    show dictOf _ (if es.any (·.key.isStr k) then n else n + 1) = _
    rw [e1, if_neg Bool.false_ne_true]
  have c : aRefKeyMayBeTheName k es.toArray = false := by
    rw [aRefKeyMayBeTheName_at, ← Array.any_toList, ← Array.any_toList]
    show (!es.any (·.key.isStr k) && es.any (·.refKey)) = false
    rw [e2, Bool.and_false]
  unfold nsSet
  refine wpAny_bind (wpAny_bind (wpAny_askSetting (wpAny_pure (wpAny_bind (wpAny_mkText (wpAny_bind (wpAny_loadPart D ?_)))))))
  dsimp only
  rw [c]
  have key : (s.heap.update d (Obj.putName k (PyData.keyHash w.params k) (.str k s.toks) v)).get? d = some (dictOf (es ++ [⟨PyData.keyHash w.params k, .str k s.toks, v⟩]) (n + 1)) := by
    have := Heap.get?_update_self (f := Obj.putName k (PyData.keyHash w.params k) (.str k s.toks) v) D (by rw [e]; rfl)
    rw [this, e]
  exact wpAny_updatePart D (h _ key (Heap.SameBut.update ..))
theorem ns_fill {Q : PUnit → Shared → Prop} : ∀ (ex : List (Str × Value)) (s : Shared) (es : List DictEntry) (n : Nat), s.heap.get? d = some (dictOf es n) →
    (∀ e ∈ es, ∀ x ∈ ex, e.key.isStr x.1 = false) → (∀ e ∈ es, e.refKey = false) → (ex.map (·.1)).Nodup →
    (∀ h', h'.get? d = some (dictOf (es ++ kwEs w.params s.toks ex) (n + ex.length)) → Heap.SameBut d s.heap h' → Q ⟨⟩ { s with heap := h', toks := s.toks + ex.length }) →
    wpAny (model prog w) A (forIn ex PUnit.unit fun x _ => (nsSet d x.1 x.2 >>= fun _ => pure (ForInStep.yield PUnit.unit))) Q E s
  | [], s, es, n, D, _, _, _, h => by
    rw [List.forIn_nil]
    refine wpAny_pure (h s.heap ?_ ⟨rfl, fun _ _ => rfl⟩)
    show s.heap.get? d = some (dictOf (es ++ []) n)
    rw [List.append_nil]
    exact D
  | x :: r, s, es, n, D, hs, hr, hn, h => by
    obtain ⟨hn1, hn2⟩ := List.nodup_cons.mp (show (x.1 :: r.map (·.1)).Nodup from hn)
    rw [List.forIn_cons]
    refine wpAny_bind (wpAny_bind (ns_put D (fun e he => hs e he x (.head _)) hr fun h' D' S' => wpAny_pure ?_))
    show wpAny (model prog w) A (forIn r PUnit.unit fun x _ => (nsSet d x.1 x.2 >>= fun _ => pure (ForInStep.yield PUnit.unit))) Q E { s with heap := h', toks := s.toks + 1 }
    refine ns_fill r { s with heap := h', toks := s.toks + 1 } _ _ D' (fun e he y hy => ?_) (fun e he => ?_) hn2 fun h'' D'' S'' => ?_
    · rcases List.mem_append.mp he with he | he
      · exact hs e he y (.tail _ hy)
      · obtain rfl := List.mem_singleton.mp he
        show (x.1 == y.1) = false
        exact beq_eq_false_iff_ne.mpr fun q => hn1 (by rw [q]; exact List.mem_map_of_mem hy)
    · rcases List.mem_append.mp he with he | he
      · exact hr e he
      · obtain rfl := List.mem_singleton.mp he
        rfl
    · have t1 : s.toks + 1 + r.length = s.toks + (r.length + 1) := by omega
      have t2 : n + 1 + r.length = n + (r.length + 1) := by omega
      show Q ⟨⟩ { s with heap := h'', toks := s.toks + 1 + r.length }
      rw [t1]
      refine h h'' ?_ ⟨S''.1.trans S'.1, fun b hb => (S''.2 b hb).trans (S'.2 b hb)⟩
      rw [t2, List.append_assoc] at D''
      exact D''
/-- the dict that is made, as a dict of texts -/
theorem kw_pairs : ∀ (ex : List (Str × Value)) (t : Tok), Pairs (mixKind prog w) (kwEs w.params t ex) (ex.map fun x => ((Sum.inr x.1 : Key), x.2))
  | [], _ => Pairs.nil
  | x :: r, t => Pairs.cons (keyIs_str x.1 t) rfl (kw_pairs r (t + 1))
theorem kw_dict {h : Heap} {ex : List (Str × Value)} {t : Tok} {n : Nat} (D : h.get? d = some (dictOf (kwEs w.params t ex) n)) (hn : (ex.map (·.1)).Nodup) : h.DictOf (mixKind prog w) d (ex.map fun x => ((Sum.inr x.1 : Key), x.2)) := by
  refine ⟨_, (kwEs w.params t ex).toArray, n, D, ⟨rfl, rfl, rfl⟩, rfl, fun e he => ?_, kw_pairs ex t, ?_⟩
  · obtain ⟨k, u, hk, hh⟩ := PySem.W.kwEs_key ex t e (List.mem_toArray.mp he)
    exact ⟨.inr k, by rw [hk]; exact keyIs_str k u, hh.trans rfl⟩
  · rw [List.map_map]
    have e : ex.map ((fun x : Key × Value => x.1) ∘ fun x => ((Sum.inr x.1 : Key), x.2)) = (ex.map (·.1)).map (Sum.inr : Str → Key) := by
      rw [List.map_map]
      rfl
    rw [e]
    exact List.Pairwise.map _ (fun a b n z => n (Sum.inr.inj z)) hn
end
/-! ### a def f(a, .., *v, **d), called with keywords that it takes by **d -/
def FnRW (P : Program) (w : World) (K : PySem.W.Frag) (mg : Str → Option Value) (base : Heap) (CX : CXT) (k : Nat) (f : Addr) (kn : List Str) (sp : List V → Sp) : Prop :=
  ∀ (A : Around) (outer : List Env) (s : Shared) (H : Hp) (us ws : List Value) (vs zs : List V) (Q : VK) (E : XK), Room k A → Env0 P w K mg base A outer s H → Vals vs us → Vals zs ws → sp zs vs H Q E →
    codeAny (model P w) A (.call (.ref f) ⟨us, kn.zip ws⟩) (CR CX outer P w H s Q E) s
def kwK (kn : List Str) (zs : List V) : List (Key × V) := (kn.zip zs).map fun x => ((Sum.inr x.1 : Key), x.2)
theorem kw_kv : ∀ {kn : List Str} {zs : List V} {ws : List Value}, Vals zs ws → zs.length = kn.length → KV (kwK kn zs) ((kn.zip ws).map fun x => ((Sum.inr x.1 : Key), x.2))
  | [], [], _, .nil, _ => .nil
  | k :: kn, z :: zs, _, .cons h t, hl => .cons ⟨rfl, h⟩ (kw_kv (kn := kn) t (by simpa using hl))
theorem env0_put {P : Program} {w : World} {K : PySem.W.Frag} {mg : Str → Option Value} {base : Heap} {A : Around} {outer : List Env} {s : Shared} {H : Hp} {u : HO} {h' : Heap} {t' : Nat} (e0 : Env0 P w K mg base A outer s H) (kp : ∀ b x, s.heap.get? b = some x → h'.get? b = some x) (hz : s.heap.objs.size ≤ h'.objs.size)
    (new : ObjOk P w (upd H s.heap.objs.size u) h' s.heap.objs.size u) : Env0 P w K mg base A outer { s with heap := h', toks := t' } (upd H s.heap.objs.size u) := by
  refine ⟨e0.frames, e0.mod, fun b x e => ⟨kp b x (e0.bs b x e).1, ?_⟩, Nat.le_trans e0.bsz hz, Heap.FunFrames.of_keeps (fun b x e _ => ⟨x, kp b x e, rfl⟩) e0.funs, fun b hb => ?_, e0.hok.laid kp (Nat.le_refl _) new, e0.bare⟩
  · rw [upd_ne (Nat.ne_of_lt (Heap.lt_size (e0.bs b x e).1))]
    exact (e0.bs b x e).2
  · obtain ⟨_, x, hx, _⟩ := e0.funs.mem hb
    rw [upd_ne (Nat.ne_of_lt (Heap.lt_size hx))]
    exact e0.frf b hb
section
variable {CX : CXT} {P : Program} {w : World} {K : PySem.W.Frag} {mg : Str → Option Value} {base : Heap} {k : Nat} {f : Addr} {name qual : Str} {params : Arguments} {body : List Stmt} {scope : Scope} {dV kV doc pm cdv ct oc : Value} {an od : Option Addr}
  {osl : Array (Option Value)} {N ps : List Str} {sp : Sp}
theorem fn_starkwK {pv pd : Str} {kn : List Str} (lk : K.lookup f = some ⟨oc, od, .func (PySem.W.fnOf name qual params body scope dV kV doc pm an cdv ct), osl⟩) (hcd : PySem.W.codeIn K cdv qual = true) (S : FnScope N (ps ++ [pv, pd]) scope) (hCX : CXUp CX) (hkn : kn.Nodup) (hkl : kn.length ≤ sizeLine)
    (hb : ∀ us rest vals : List Value, us.length = ps.length → vals.length = kn.length → bindArgs (PySem.W.fnOf name qual params body scope dV kV doc pm an cdv ct) ⟨us ++ rest, kn.zip vals⟩ =
      (newTuple rest >>= fun t => (alloc ({ cls := .type "dict", data := .dict #[] } : Obj) : Sem Addr) >>= fun d => (forIn (kn.zip vals) PUnit.unit fun x _ => (nsSet d x.1 x.2 >>= fun _ => pure (ForInStep.yield PUnit.unit))) >>= fun _ => pure (ps.zip us ++ [(pv, t), (pd, Value.ref d)])))
    (hbody : ∀ (A : Around) (outer : List Env) (s : Shared) (H : Hp) (vs : List V) (Q : VK) (E : XK), Room k (A.deeper (envOfC qual scope s.heap.objs.size f cdv)) → sp vs H Q E →
      ∃ t, PSs (cxOf CX P w K mg base N qual scope f cdv A outer s H E) body t ∧ t { nx := fun _ H' => Q .non H', rt := Q } (start N vs) H) :
    FnRW P w K mg base CX (k + 1) f kn (fun zs vs H Q E => ∃ ws rest, vs = ws ++ rest ∧ ws.length = ps.length ∧ rest.length ≤ sizeLine ∧ zs.length = kn.length ∧ ∀ p d, H p = Option.none → H d = Option.none → d ≠ p → sp (ws ++ [V.ref p, V.ref d]) (upd (upd H p (.tup rest)) d (.dK (kwK kn zs))) Q E) := by
  intro A outer s H us vals vs zs Q E hr e0 r rz hsp
  obtain ⟨ws, rest, ev, hl, hz, hzl, hq⟩ := hsp
  subst ev
  obtain ⟨u1, u2, eu, r1, r2⟩ := vals_split r
  subst eu
  have hn : H s.heap.objs.size = Option.none := e0.hok.fresh (Nat.le_refl _)
  have hl1 : u1.length = ps.length := by rw [← r1.length]; exact hl
  have hl2 : u2.length ≤ sizeLine := by rw [← r2.length]; exact hz
  have hvl : vals.length = kn.length := by rw [← rz.length]; exact hzl
  refine run_bnd lk hcd S hr e0 (G := fun xs H2 => ∃ p d, H p = Option.none ∧ H d = Option.none ∧ d ≠ p ∧ xs = ws ++ [V.ref p, V.ref d] ∧ H2 = upd (upd H p (.tup rest)) d (.dK (kwK kn zs))) (fun A' Ex Q' h => ?_) fun s2 H2 xs ⟨p, d, hp, hd, hne, ex, eH⟩ hr' => ?_
  · rw [hb u1 u2 vals hl1 hvl]
    refine wpAny_bind (wpAny_newTuple (wpAny_bind (wpAny_alloc ?_)) hl2)
    have new : ObjOk P w (upd H s.heap.objs.size (.tup rest)) (s.heap.push ({ cls := .type "tuple", data := .seq u2.toArray } : Obj)) s.heap.objs.size (.tup rest) := ⟨hz, u2, r2, ⟨_, Heap.get?_push_size _ rfl, rfl, _, rfl⟩⟩
    have e1 := env0_laid e0 new
    have un1 := un_laid (fs := frs outer) (s := s) (o := ({ cls := .type "tuple", data := .seq u2.toArray } : Obj)) (u := .tup rest) hn
    generalize hs1 : ({ s with heap := s.heap.push ({ cls := .type "tuple", data := .seq u2.toArray } : Obj) } : Shared) = s1 at e1
    have hh1 : s1.heap = s.heap.push ({ cls := .type "tuple", data := .seq u2.toArray } : Obj) := by rw [← hs1]
    rw [← hh1] at un1
    have hn2 := e1.hok.fresh (Nat.le_refl _)
    have hb0 : sysModules < s1.heap.objs.size := env0_big e1
    have sz : s1.heap.objs.size = s.heap.objs.size + 1 := by rw [hh1]; exact Heap.size_push _ _
    have ne : s1.heap.objs.size ≠ s.heap.objs.size := by rw [sz]; exact Nat.succ_ne_self _
    have hd : H s1.heap.objs.size = Option.none := e0.hok.fresh (by rw [sz]; exact Nat.le_succ _)
    have hD : (s1.heap.push ({ cls := .type "dict", data := .dict #[] } : Obj)).get? s1.heap.objs.size = some (dictOf [] 0) := Heap.get?_push_size _ rfl
    refine wpAny_bind (ns_fill (w := w) (prog := P) (kn.zip vals) { s1 with heap := s1.heap.push ({ cls := .type "dict", data := .dict #[] } : Obj) } [] 0 hD (fun e m => nomatch m) (fun e m => nomatch m) ?_ fun h' D' S' => ?_)
    · rw [List.map_fst_zip (by omega)]
      exact hkn
    have kp : ∀ b x, s1.heap.get? b = some x → h'.get? b = some x := fun b x e => by
      rw [S'.2 b (Nat.ne_of_lt (Heap.lt_size e))]
      exact Heap.get?_push_of_some _ e
    have hz' : s1.heap.objs.size ≤ h'.objs.size := by
      rw [S'.1]
      show _ ≤ (s1.heap.push _).objs.size
      rw [Heap.size_push]
      exact Nat.le_succ _
    have dd : h'.DictOf (mixKind P w) s1.heap.objs.size ((kn.zip vals).map fun x => ((Sum.inr x.1 : Key), x.2)) := kw_dict (w := w) (prog := P) D' (by
      rw [List.map_fst_zip (by omega)]
      exact hkn)
    have new2 : ObjOk P w (upd (upd H s.heap.objs.size (.tup rest)) s1.heap.objs.size (.dK (kwK kn zs))) h' s1.heap.objs.size (.dK (kwK kn zs)) :=
      ⟨by
        unfold kwK
        rw [List.length_map, List.length_zip]
        omega, beq_eq_false_iff_ne.mpr (Ne.symm (Nat.ne_of_lt hb0)), _, kw_kv rz hzl, dd⟩
    have e2 := env0_put (t' := s1.toks + (kn.zip vals).length) e1 kp hz' new2
    have un2 := un1.trans (Un.laid (fs := frs outer) (ex := []) (o := .dK (kwK kn zs)) kp (Nat.le_refl _) hn2)
    refine wpAny_pure ?_
    have z := h _ _ (ws ++ [V.ref s.heap.objs.size, V.ref s1.heap.objs.size]) (u1 ++ [Value.ref s.heap.objs.size, Value.ref s1.heap.objs.size]) e2 un2 (by rw [← hs1])
      (fun e s' => hCX outer s H _ _ E e s' un2 (fun b o q => kp b o (by rw [hh1]; exact Heap.get?_push_of_some _ q)) (by rw [← hs1])) (r1.append (.cons rfl (.cons rfl .nil))) (by rw [List.length_append, List.length_append, hl] <;> rfl) ⟨_, _, hn, hd, ne, rfl, rfl⟩
    rw [List.zip_append hl1.symm] at z
    exact z
  · subst ex eH
    exact hbody A outer s2 _ _ Q E hr' (hq p d hp hd hne)
end
/-! ### X(e, .., k = v, ..) -/
def kMakeW (C : Addr) (sp : List V → Sp) (E : XK) (Q : VK) (vs : List V) : List V → Hp → Prop := fun zs H2 => ∀ x dx, H2 x = none → H2 dx = none → dx ≠ x → sp zs (.ref x :: vs) (upd (upd H2 dx (.own x)) x (.ins C dx [])) (kMade x Q) E
def kMakeW0 (C : Addr) (sp : List V → Sp) (E : XK) (tk : TA) (σ : L2.St) (Q : VK) : List V → Hp → Prop := fun vs H1 => tk σ H1 (kMakeW C sp E Q vs)
def tMakeW (C : Addr) (sp : List V → Sp) (E : XK) (t tk : TA) : TE := fun σ H Q => t σ H (kMakeW0 C sp E tk σ Q)
def UseCW (P : Program) (w : World) (K : PySem.W.Frag) (mg : Str → Option Value) (base : Heap) (n : Nat) (x : Str) (C : Addr) (kn : List Str) (sp : List V → Sp) : Prop := ∃ f, FnRW P w K mg base CX0 n f kn sp ∧ Mk K C f ∧ mg x = some (.ref C)
section
variable {X : Cx} {CX : CXT} {k : Nat} {f C : Addr} {kn : List Str} {sp : List V → Sp} {E : XK} {x : Str} {p pos : Pos} {e : Expr} {es : List Expr} {kws : List Keyword} {t tk : TA}
theorem run_makeW {pins : List (Addr × Obj)} {σ : L2.St} {H : Hp} {s : Shared} {Q : VK} {us ws : List Value} {vs zs : List V} (M : Mk X.K C f) (F : FnRW X.prog X.w X.K X.mg X.base CX k f kn sp) (hr : Room (k + 1) X.A) (hx : Passes CX X E) (I : Inv X pins σ H s) (r : Vals vs us) (rz : Vals zs ws)
    (h : kMakeW C sp E Q vs zs H) : wpAny (model X.prog X.w) X.A (call (.ref C) us (kn.zip ws)) (EP X pins σ Q) X.xe s := by
  have hq := h (s.heap.objs.size + 1) s.heap.objs.size (I.hok.fresh (Nat.le_succ _)) (I.hok.fresh (Nat.le_refl _)) (Nat.ne_of_lt (Nat.lt_succ_self _))
  have I2 := Inv.made (C := C) I
  have r2 : Vals (V.ref (s.heap.objs.size + 1) :: vs) (Value.ref (s.heap.objs.size + 1) :: us) := .cons rfl r
  refine wpAny_call (make_map (f := f) I.kIn M.makes M.init (beq_iff_eq.mp M.fn) (codeAny_mono (F _ X.stack _ _ (Value.ref (s.heap.objs.size + 1) :: us) ws _ zs _ E (hr.make C us (kn.zip ws)) (I2.env0.make C us (kn.zip ws)) r2 rz hq) fun r s' hq' => ?_))
  cases r with
  | error e => exact hx pins σ _ _ e s' I2 hq'
  | ok fl =>
    cases fl with
    | ret u =>
      obtain ⟨v, H', I3, rv, ev, q3⟩ := I2.after hq'
      subst ev
      exact ⟨rv, ⟨V.ref (s.heap.objs.size + 1), H', I3, rfl, q3⟩⟩
    | next => exact False.elim hq'
    | brk => exact False.elim hq'
    | cont => exact False.elim hq'
theorem pe_makeW (M : Mk X.K C f) (F : FnRW X.prog X.w X.K X.mg X.base CX k f kn sp) (hr : Room (k + 1) X.A) (hg : Gl X x) (hm : X.mg x = some (.ref C)) (hx : Passes CX X E) (ha : PA X (e :: es) t) (hkw : PK X kws tk)
    (hall : (backToKw pos (keywordEach kws X.env)).all (·.1.isSome) = true := by rfl) (hks : (backToKw pos (keywordEach kws X.env)).filterMap (·.1) = kn := by rfl) (hdb : (x == ("__debug__" : Str)) = false := by decide)
    (he : starEach (e :: es) X.env = (false, eval e X.env) :: starEach es X.env := by rfl) (hpl : ((backTo pos (starEach (e :: es) X.env)).any (·.1) || (backToKw pos (keywordEach kws X.env)).any (·.1.isNone)) = false := by rfl) :
    PE X (.Call (.Name x p) (e :: es) kws pos) (tMakeW C sp E t tk) := by
  refine ⟨fun pins s σ H Q I h => ?_⟩
  refine wpAny_Call_Name_kw (ld_glob I hg hm ?_ hdb)
  refine PySem.W.callWith_KW (h₀ := X.base) I.ok.mod.kin M.kp hall (thn (ha.run pos pins s σ H _ I h) fun us s1 ⟨vs, H1, I1, r, q⟩ => ?_) hpl he
  refine thn (hkw.run pos pins s1 σ H1 _ I1 q) fun ws s2 ⟨zs, H2, I2, rz, q2⟩ => ⟨I2.kIn, ?_⟩
  rw [hks]
  exact run_makeW M F hr hx I2 r rz q2
end
section
variable {C : Addr} {sp : List V → Sp} {E : XK} {t tk : TA} {σ : L2.St} {H : Hp} {Q : VK} {vs zs : List V}
theorem r_makeW (q : t σ H (kMakeW0 C sp E tk σ Q)) : tMakeW C sp E t tk σ H Q := q
theorem r_kMakeW0 (q : tk σ H (kMakeW C sp E Q vs)) : kMakeW0 C sp E tk σ Q vs H := q
theorem r_kMakeW (q : ∀ a dx H', H a = none → Kp [] H H' → H' a = some (.ins C dx []) → sp zs (.ref a :: vs) H' (kMade a Q) E) : kMakeW C sp E Q vs zs H :=
  fun x dx n1 n2 ne => q x dx _ n1 ((Kp.new (ex := []) n2).trans (Kp.new (by rw [upd_ne (fun e => ne e.symm)]; exact n1))) upd_same
end
theorem FnRW.imp {P : Program} {w : World} {K : PySem.W.Frag} {mg : Str → Option Value} {base : Heap} {CX : CXT} {k : Nat} {f : Addr} {kn : List Str} {sp sp' : List V → Sp} (F : FnRW P w K mg base CX k f kn sp) (h : ∀ zs vs H Q E, sp' zs vs H Q E → sp zs vs H Q E) : FnRW P w K mg base CX k f kn sp' :=
  fun A outer s H us ws vs zs Q E hr e0 r rz hs => F A outer s H us ws vs zs Q E hr e0 r rz (h _ _ _ _ _ hs)
/-- what a def f(self, a, *v, **d) binds, called with one keyword -/
theorem bind_kw2_1 {B : List Value → List Value → Sem (List (Str × Value))} {p1 p2 pv pd k1 : Str}
    (h0 : ∀ a b v, B [a, b] [v] = (newTuple [] >>= fun t => (alloc ({ cls := .type "dict", data := .dict #[] } : Obj) : Sem Addr) >>= fun d => (forIn [(k1, v)] PUnit.unit fun x _ => (nsSet d x.1 x.2 >>= fun _ => pure (ForInStep.yield PUnit.unit))) >>= fun _ => pure [(p1, a), (p2, b), (pv, t), (pd, Value.ref d)]))
    (h1 : ∀ a b r rs v, B (a :: b :: r :: rs) [v] = (newTuple (r :: rs) >>= fun t => (alloc ({ cls := .type "dict", data := .dict #[] } : Obj) : Sem Addr) >>= fun d => (forIn [(k1, v)] PUnit.unit fun x _ => (nsSet d x.1 x.2 >>= fun _ => pure (ForInStep.yield PUnit.unit))) >>= fun _ => pure [(p1, a), (p2, b), (pv, t), (pd, Value.ref d)])) :
    ∀ us rest vals : List Value, us.length = [p1, p2].length → vals.length = [k1].length → B (us ++ rest) vals = (newTuple rest >>= fun t => (alloc ({ cls := .type "dict", data := .dict #[] } : Obj) : Sem Addr) >>= fun d => (forIn ([k1].zip vals) PUnit.unit fun x _ => (nsSet d x.1 x.2 >>= fun _ => pure (ForInStep.yield PUnit.unit))) >>= fun _ => pure ([p1, p2].zip us ++ [(pv, t), (pd, Value.ref d)]))
  | [a, b], [], [v], _, _ => h0 a b v
  | [a, b], r :: rs, [v], _, _ => h1 a b r rs v
end Rd

set_option maxHeartbeats 4000000
/-! Dv: f-strings, list(d.items()), list(d.keys()), for x in d within a comprehension, dict(d), d != {}, xs[::-1]; three keywords. -/
namespace Rd
open PySem PySem.Spec L2 PyProof.Rows
section
variable {X : Cx} {σ : L2.St} {H : Hp} {Q : VK} {te : TE} {K : PySem.W.Frag}
/-! ### f-strings -/
def tJoin (ts : List TE) : TE := fun σ H Q => tJs ts Str.empty σ H fun out H1 => Q (.str out) H1
theorem pe_joinN {v1 v2 : Expr} {rest : List Expr} {ts : List TE} {pos : Pos} (h : PJ X (v1 :: v2 :: rest) ts) : PE X (.JoinedStr (v1 :: v2 :: rest) pos) (tJoin ts) := pe_joined h
def kJoin (Q : VK) : Str → Hp → Prop := fun out H1 => Q (.str out) H1
theorem r_join {ts : List TE} (q : tJs ts Str.empty σ H (kJoin Q)) : tJoin ts σ H Q := q
def kJs (ts : List TE) (acc : Str) (σ : L2.St) (Q : Str → Hp → Prop) : VK := fun x H1 => ∃ y : Str, x = .str y ∧ (acc ++ y).length ≤ sizeLine ∧ tJs ts (acc ++ y) σ H1 Q
theorem r_jCons {t : TE} {ts : List TE} {acc : Str} {R : Str → Hp → Prop} (q : t σ H (kJs ts acc σ R)) : tJs (t :: ts) acc σ H R := q
theorem r_kJs {ts : List TE} {acc y : Str} {R : Str → Hp → Prop} (h : (acc ++ y).length ≤ sizeLine) (q : tJs ts (acc ++ y) σ H R) : kJs ts acc σ R (.str y) H := ⟨y, rfl, h, q⟩
theorem r_jNil {acc : Str} (q : Q (.str acc) H) : tJs [] acc σ H (kJoin Q) := q
def kFmt (Q : VK) : VK := fun x H1 => (∃ y : Str, x = .str y ∧ y.length ≤ sizeLine ∧ Q (.str y) H1) ∨ ∃ i : Int, x = .int i ∧ i.natAbs.log2 < 1920 ∧ Q (.str (toString i)) H1
theorem r_fmt (q : te σ H (kFmt Q)) : tFmt te σ H Q := q
theorem r_kFmtS {y : Str} (h : y.length ≤ sizeLine) (q : Q (.str y) H) : kFmt Q (.str y) H := .inl ⟨y, rfl, h, q⟩
theorem r_kFmtI {i : Int} (h : i.natAbs.log2 < 1920) (q : Q (.str (toString i)) H) : kFmt Q (.int i) H := .inr ⟨i, rfl, h, q⟩
/-! ### dicts -/
def cDictD : R1 := fun xs H Q => ∃ (a : Addr) (kvs : List (Key × V)), xs = [.ref a] ∧ L2.Rd H a (.dK kvs) ∧ ∀ p, H p = none → Q (.ref p) (upd H p (.dK kvs))
theorem cr_dictD : CallR X (.type "dict") cDictD := call_dictD
theorem r_dictD {a : Addr} {kvs : List (Key × V)} (e : H a = some (.dK kvs)) (q : ∀ p H', H p = none → Kp [] H H' → H' p = some (.dK kvs) → Q (.ref p) H') : cDictD [.ref a] H Q :=
  ⟨a, kvs, rfl, .inl e, fun p n => q p _ n (Kp.new n) upd_same⟩
def kItemsL (Q : VK) : VK := fun x H1 => LiI.rItemsL x H1 Q
theorem r_lsItems (q : te σ H (kItemsL Q)) : LiI.tListItems te σ H Q := q
theorem paired_nd {H : Hp} : ∀ {ts : List Addr} {nds : List (Str × Int)}, Paired (fun (t : Addr) (q : Key × V) => H t = some (.tup [kV q.1, q.2])) ts (ndK nds) → Paired (fun t q => H t = some (.tup [.str q.1, .int q.2])) ts nds
  | [], [], _ => .nil
  | [], _ :: _, h => nomatch h
  | _ :: _, [], h => nomatch h
  | _ :: _, _ :: _, .cons h t => .cons h (paired_nd t)
theorem r_kItemsL {d : Addr} {nds : List (Str × Int)} (e : H d = some (.dK (ndK nds))) (q : ∀ p H' xs, H p = none → Kp [] H H' → H' p = some (.lst xs) → DtAll [p] H' xs (nds.map ndD) → Q (.ref p) H') : kItemsL Q (.ref d) H := by
  refine ⟨d, ndK nds, rfl, e, fun H' p ts kp np nt hp ep pr => q p H' _ np (fun b o h _ => kp b o h) ep (paired_dt (fun t o ht z => ?_) (paired_nd pr))⟩
  rw [z, ep] at ht
  cases ht
def rNeE : R2 := fun x y H Q => ∃ a b ks, x = .ref a ∧ y = .ref b ∧ H a = some (.dK ks) ∧ H b = some (.dK []) ∧ Q (.bl (!(ks.length == 0))) H
theorem op_neE (hu : X.A.units < cLine) : OpR X (compareOp .NotEq) rNeE := by
  intro pins s σ H x y v u Q I rx ry h
  obtain ⟨a, b, ks, rfl, rfl, ea, eb, q⟩ := h
  obtain rfl : v = Value.ref a := rx
  obtain rfl : u = Value.ref b := ry
  obtain ⟨_, ya, va, ra, da⟩ := (show ObjOk X.prog X.w H s.heap a (.dK ks) from I.hok a _ ea)
  obtain ⟨_, yb, vb, rb, db⟩ := (show ObjOk X.prog X.w H s.heap b (.dK []) from I.hok b _ eb)
  have hl : ks.length = va.length := ra.length
  have hb : vb = [] := by
    cases rb
    rfl
  subst hb
  refine PySem.W.keq_ne (knd := mixKind X.prog X.w) (r := true) ya yb da db hu (fun z => ?_) (fin_bl I q (by rw [hl]; simp))
  have : va = [] := List.eq_nil_of_length_eq_zero z
  subst this
  exact .nil
theorem r_neE {a b : Addr} {ks : List (Key × V)} (ea : H a = some (.dK ks)) (eb : H b = some (.dK [])) (q : Q (.bl (!(ks.length == 0))) H) : rNeE (.ref a) (.ref b) H Q := ⟨a, b, ks, rfl, rfl, ea, eb, q⟩
/-! ### for x in d, within a comprehension -/
def kUn (d : Addr) (od : Obj) (u : HO) (Q : VK) : VK := fun v H' => H' d = some (.frz od u) ∧ Q v (upd H' d u)
theorem r_lockE {t : TE} {d : Addr} {kvs : List (Key × V)} (e : H d = some (.dK kvs)) (q : ∀ od H', Kp [d] H H' → H' d = some (.frz od (.dK kvs)) → t σ H' (kUn d od (.dK kvs) Q)) : tLockE t σ H Q :=
  ⟨d, .dK kvs, e, by trivial, fun od => q od _ (Kp.put (by simp)) upd_same⟩
theorem r_kUn {d : Addr} {od : Obj} {u : HO} {v : V} (e : H d = some (.frz od u)) (q : ∀ H', Kp [d] H H' → H' d = some u → Q v H') : kUn d od u Q v H := ⟨e, q _ (Kp.put (by simp)) upd_same⟩
/-- locked and free again: all stays -/
theorem Kp.relock {H H1 H2 H3 : Hp} {d : Addr} {u : HO} (k1 : Kp [d] H H1) (k2 : Kp [d] H1 H2) (k3 : Kp [d] H2 H3) (e : H d = some u) (e3 : H3 d = some u) : Kp [] H H3 := fun b o h _ => by
  by_cases z : b = d
  · subst z
    rw [e] at h
    cases h
    exact e3
  · exact k3 b o (k2 b o (k1 b o h (not_one z)) (not_one z)) (not_one z)
def kIK (R : It → Hp → Prop) : VK := fun x H1 => ∃ d o, x = .ref d ∧ ((∃ kvs, H1 d = some (.frz o (.dK kvs)) ∧ R (Itk d o kvs) H1) ∨ ∃ kvs, H1 d = some (.frz o (.dT kvs)) ∧ R (Itkt d o kvs) H1)
theorem r_iKeys {R : It → Hp → Prop} {td : TE} (q : td σ H (kIK R)) : iKeys td σ H R := q
theorem r_kIK {R : It → Hp → Prop} {d : Addr} {o : Obj} {kvs : List (Key × V)} (e : H d = some (.frz o (.dK kvs))) (q : R (Itk d o kvs) H) : kIK R (.ref d) H := ⟨d, o, rfl, .inl ⟨kvs, e, q⟩⟩
theorem r_kLcK {g : TG} {tt : TT} {te : TE} {vs : List Nat} {d : Addr} {o : Obj} {kvs : List (Key × V)} (Pv : Addr → Nat → List V → Hp → Prop) (h0 : ∀ D H', H D = none → Kp [] H H' → H' D = some (.lst []) → Pv D 0 [] H') (hG : ∀ D i acc H', i ≤ kvs.length → Pv D i acc H' → H' d = some (.frz o (.dK kvs)))
    (hs : ∀ D (i : Nat) acc k v H', H D = none → kvs[i]? = some (k, v) → H' D = some (.lst acc) → Pv D i acc H' → g (kV k) (wipe σ vs) H' (kTurn tt te (wipe σ vs) vs D (kN (Pv D (i + 1)) D)))
    (hd : ∀ D acc H', H D = none → H' D = some (.lst acc) → Pv D kvs.length acc H' → Q (.ref D) H') : kLc g tt te vs σ Q (Itk d o kvs) H := by
  refine r_kLc walk_keys Pv h0 hG (fun D i acc x H' H'' hD hi e hp y => ?_) hd
  obtain ⟨rfl, k, v, e', rfl⟩ := y
  exact hs D i acc k v _ hD e' e hp
theorem r_kDGf {a : Addr} {od : Obj} {kvs : List (Key × V)} {z : Str} {v : V} (e : H a = some (.frz od (.dK kvs))) (h : valV kvs (Sum.inr z) = some v) (q : Q v H) : kDG Q (.ref a) (.str z) H :=
  ⟨a, v, rfl, .inl ⟨kvs, Sum.inr z, .inr ⟨od, e⟩, rfl, h.symm⟩, q⟩
/-! ### xs[::-1] -/
theorem K_revL {e : Expr} {k : Nat} {p1 p2 p3 pos : Pos} (hK : X.K = K) (he : PE X e te) : PE X (.Subscript e (.Slice none none (some (.UnaryOp .USub (.Constant (.int 1) k p1) p2)) p3) pos) (tRevL K te) := by
  subst hK
  exact pe_revL he
def kRev (K : PySem.W.Frag) (Q : VK) : VK := fun x H1 => ∃ a xs, x = .ref a ∧ SqL K H1 a xs ∧ ∀ p, H1 p = none → Q (.ref p) (upd H1 p (.lst xs.reverse))
theorem r_revL (q : te σ H (kRev K Q)) : tRevL K te σ H Q := q
theorem r_kRev {a : Addr} {xs : List V} (h : SqL K H a xs) (q : ∀ p H', H p = none → Kp [] H H' → H' p = some (.lst xs.reverse) → Q (.ref p) H') : kRev K Q (.ref a) H := ⟨a, xs, rfl, h, fun p n => q p _ n (Kp.new n) upd_same⟩
/-! ### list(d.keys()) -/
def rKeysL : V → Hp → VK → Prop := fun x H Q => ∃ (d : Addr) (kvs : List (Key × V)), x = .ref d ∧ H d = some (.dK kvs) ∧ ∀ p, H p = none → Q (.ref p) (upd H p (.lst (kvs.map fun kv => kV kv.1)))
def tListKeys (te : TE) : TE := fun σ H Q => te σ H fun x H1 => rKeysL x H1 Q
def kKeysL (Q : VK) : VK := fun x H1 => rKeysL x H1 Q
theorem r_lsKeys (q : te σ H (kKeysL Q)) : tListKeys te σ H Q := q
theorem r_kKeysL {d : Addr} {kvs : List (Key × V)} (e : H d = some (.dK kvs)) (q : ∀ p H', H p = none → Kp [] H H' → H' p = some (.lst (kvs.map fun kv => kV kv.1)) → Q (.ref p) H') : kKeysL Q (.ref d) H := ⟨d, kvs, rfl, e, fun p n => q p _ n (Kp.new n) upd_same⟩
/-- list(e.keys()) -/
theorem pe_listKeys {e : Expr} {p apos cpos pos : Pos} (hc : X.calm = true) (he : PE X e te) (hg : Gl X "list") (hm : X.mg "list" = none) (hv : bootBuiltins "list" = some (.type "list")) (hbase : attributeBase e "keys" X.env (eval e X.env) = eval e X.env := by rfl) (hline : (apos.endLine == cpos.line) = true := by rfl)
    (hs : starEach [.Call (.Attribute e "keys" apos) [] [] cpos] X.env = (false, eval (.Call (.Attribute e "keys" apos) [] [] cpos) X.env) :: starEach [] X.env := by rfl) :
    PE X (.Call (.Name "list" p) [.Call (.Attribute e "keys" apos) [] [] cpos] [] pos) (tListKeys te) := by
  refine ⟨fun pins s σ H Q I hq => ?_⟩
  refine wpAny_Call_Name_kw (ld_blt I hg hm hv ?_)
  refine PyProof.Rows.callWith_type1 ?_ hs rfl
  rw [hs]
  show wpAny _ _ (spliced ((false, eval (.Call (.Attribute e "keys" apos) [] [] cpos) X.env) :: backTo pos (starEach [] X.env))) _ _ s
  refine Calls.spliced_cons ?_
  refine wpAny_Call_method (T := "dict") (id := "dict.keys") hbase rfl hline F.plainAttrs_dict F.slot_dict_keys F.type_dict_keys (thn (he.run pins s σ H _ I hq) fun u s1 ⟨x, H1, I1, rx, d, kvs, ex, hd, q⟩ => ?_)
  subst ex
  obtain rfl : u = Value.ref d := rx
  obtain ⟨hz, hs0, vs, kv, hdo⟩ := I1.hok d _ hd
  obtain ⟨ep, hat⟩ := hdo.dictAt
  have lk : kvs.length = vs.length := Paired.length kv
  have I2 : Inv X pins σ H1 { s1 with heap := s1.heap.push { cls := .type "dict_keys", data := .fields #[.ref d] } } := I1.kept (t' := s1.toks) fun b ob q => Heap.get?_push_of_some _ q
  refine ⟨hdo.typeIs, hdo.mapOf.noDict, ?_⟩
  show wpAny _ _ (callWith cpos (.builtin "dict.keys") [.ref d] [] []) _ X.xe s1
  refine method_meetsIn F.slot_dict_keys F.entry_dict_keys rfl (PySem.evalArgs_none ⟨rfl, hdo.typeIs, F.args_dict_keys_1 _, _, PySem.W.kdl_meets_keys (mixKind X.prog X.w) d hs0, ⟨vs, hdo⟩, ?_⟩)
  refine Calls.spliced_nil ?_
  have ek : (kvs.map fun kv => kV kv.1) = vs.map fun p => kV p.1 := by
    have e := congrArg (List.map kV) kv.keys
    rw [List.map_map, List.map_map] at e
    exact e
  refine PySem.W.kdl_call (PySem.W.kdl_keys (knd := mixKind X.prog X.w) (kvs := vs) (ep := ep)) (I1.ok.hd hc) ⟨⟨_, Heap.get?_push_size _ rfl, rfl, rfl⟩, hat.push _⟩ (by rw [← lk]; exact hz) fun h' tk acc c' hk hD hacc => ?_
  have hv : Vals (vs.map fun p => kV p.1) acc.toList := keys_at (by rw [Array.length_toList]; exact hacc.1) fun j v e => hacc.2 j v (by rw [← Array.getElem?_toList]; exact e)
  have hn : H1 (s1.heap.objs.size + 1) = none := I1.hok.fresh (Nat.le_succ _)
  have sz : (s1.heap.push { cls := .type "dict_keys", data := .fields #[.ref d] }).objs.size = s1.heap.objs.size + 1 := Heap.size_push _ _
  refine ⟨.ref _, upd H1 (s1.heap.push { cls := .type "dict_keys", data := .fields #[.ref d] }).objs.size (.lst (kvs.map fun kv => kV kv.1)), I2.laid (t' := tk) hk (Nat.le_refl _)
    (show ObjOk X.prog X.w _ _ _ (.lst (kvs.map fun kv => kV kv.1)) from ⟨by rw [List.length_map]; exact hz, acc.toList, c', by rw [ek]; exact hv, by rw [Array.toArray_toList]; exact hD⟩), rfl, q _ (by rw [sz]; exact hn)⟩
end
/-- what a def f(self, a, *v, **d) binds, called with three keywords -/
theorem bind_kw2_3 {B : List Value → List Value → Sem (List (Str × Value))} {p1 p2 pv pd k1 k2 k3 : Str}
    (h0 : ∀ a b v1 v2 v3, B [a, b] [v1, v2, v3] = (newTuple [] >>= fun t => (alloc ({ cls := .type "dict", data := .dict #[] } : Obj) : Sem Addr) >>= fun d => (forIn [(k1, v1), (k2, v2), (k3, v3)] PUnit.unit fun x _ => (nsSet d x.1 x.2 >>= fun _ => pure (ForInStep.yield PUnit.unit))) >>= fun _ => pure [(p1, a), (p2, b), (pv, t), (pd, Value.ref d)]))
    (h1 : ∀ a b r rs v1 v2 v3, B (a :: b :: r :: rs) [v1, v2, v3] = (newTuple (r :: rs) >>= fun t => (alloc ({ cls := .type "dict", data := .dict #[] } : Obj) : Sem Addr) >>= fun d => (forIn [(k1, v1), (k2, v2), (k3, v3)] PUnit.unit fun x _ => (nsSet d x.1 x.2 >>= fun _ => pure (ForInStep.yield PUnit.unit))) >>= fun _ => pure [(p1, a), (p2, b), (pv, t), (pd, Value.ref d)])) :
    ∀ us rest vals : List Value, us.length = [p1, p2].length → vals.length = [k1, k2, k3].length → B (us ++ rest) vals = (newTuple rest >>= fun t => (alloc ({ cls := .type "dict", data := .dict #[] } : Obj) : Sem Addr) >>= fun d => (forIn ([k1, k2, k3].zip vals) PUnit.unit fun x _ => (nsSet d x.1 x.2 >>= fun _ => pure (ForInStep.yield PUnit.unit))) >>= fun _ => pure ([p1, p2].zip us ++ [(pv, t), (pd, Value.ref d)]))
  | [a, b], [], [v1, v2, v3], _, _ => h0 a b v1 v2 v3
  | [a, b], r :: rs, [v1, v2, v3], _, _ => h1 a b r rs v1 v2 v3
/-! ### defs whose promise holds where nothing is being shown -/
theorem Fun.okG {P : Program} {w : World} {K : PySem.W.Frag} {mg : Str → Option Value} {base : Heap} {x qual : Str} {st : Stmt} {f : Addr} {fd : FuncData} {N ps : List Str} {k : Nat} {sp : Sp} (F : Fun K x qual st f fd) (S : FnScope N ps (defScope st)) (len : ∀ vs H Q E, sp vs H Q E → vs.length = ps.length)
    (hbody : ∀ (cdv : Value) (A : Around) (outer : List Env) (s : Shared) (H : Hp) (vs : List V) (Q : VK) (E : XK), Bare (A.deeper (envOfC qual (defScope st) s.heap.objs.size f cdv)) → Room k (A.deeper (envOfC qual (defScope st) s.heap.objs.size f cdv)) → sp vs H Q E →
      ∃ t, PSs (cxOf CX0 P w K mg base N qual (defScope st) f cdv A outer s H E).nox (defBody st) t ∧ t { nx := fun _ H' => Q .non H', rt := Q } (start N vs) H) : FnG P w K mg base CX0 (k + 1) f fd ps sp := by
  obtain ⟨oc, od, kV, doc, pm, an, cdv, ct, osl, rfl, lk, hcd⟩ := F.ex
  refine fn_ofG lk hcd S len fun A outer s H vs Q E bare hr hsp => ?_
  obtain ⟨t, h, q⟩ := hbody cdv A outer s H vs Q E bare hr hsp
  exact ⟨t, h.nox, q⟩
/-! ### len and items of a list or a text -/
def cLenA (K : PySem.W.Frag) : R1 := fun xs H Q => cLen K xs H Q ∨ cLenS xs H Q
theorem K_lenA {X : Cx} {K : PySem.W.Frag} (hK : X.K = K) : CallR X (.builtin "len") (cLenA K) := by
  subst hK
  intro pins s σ H xs us Q I r h
  rcases h with h | h
  · exact cr_len pins s σ H xs us Q I r h
  · exact cr_lenS pins s σ H xs us Q I r h
def rIxA (K : PySem.W.Frag) : R2 := fun x y H Q => rIxL K x y H Q ∨ rIxS x y H Q
theorem K_ixA {X : Cx} {K : PySem.W.Frag} (hK : X.K = K) : IxR X (rIxA K) := by
  subst hK
  exact ix_list.or ix_str
/-! ### repr of a number -/
def cReprI : R1 := fun xs H Q => ∃ i, xs = [.int i] ∧ i.natAbs.log2 < 1920 ∧ Q (.str (toString i)) H
theorem cr_reprI {X : Cx} : CallR X (.builtin "repr") cReprI := SkE.call_repr_int
theorem r_reprI {H : Hp} {Q : VK} {i : Int} (h : i.natAbs.log2 < 1920) (q : Q (.str (toString i)) H) : cReprI [.int i] H Q := ⟨i, rfl, h, q⟩
/-! ### an assignment of a comprehension over a dict -/
def kUnN (d : Addr) (od : Obj) (u : HO) (nx : L2.St → Hp → Prop) : L2.St → Hp → Prop := fun σ' H' => H' d = some (.frz od u) ∧ nx σ' (upd H' d u)
theorem r_kUnN {d : Addr} {od : Obj} {u : HO} {nx : L2.St → Hp → Prop} {σ : L2.St} {H : Hp} (e : H d = some (.frz od u)) (q : ∀ H', Kp [d] H H' → H' d = some u → nx σ H') : kUnN d od u nx σ H := ⟨e, q _ (Kp.put (by simp)) upd_same⟩
theorem r_lockS {t : TS} {nx bk ct : L2.St → Hp → Prop} {rt : VK} {σ : L2.St} {H : Hp} {d : Addr} {kvs : List (Key × V)} (e : H d = some (.dK kvs))
    (q : ∀ od H', Kp [d] H H' → H' d = some (.frz od (.dK kvs)) → t ⟨kUnN d od (.dK kvs) nx, kUn d od (.dK kvs) rt, kUnN d od (.dK kvs) bk, kUnN d od (.dK kvs) ct⟩ σ H') : tLock t ⟨nx, rt, bk, ct⟩ σ H :=
  ⟨d, .dK kvs, e, by trivial, fun od => q od _ (Kp.put (by simp)) upd_same⟩
theorem r_sortedS {K : PySem.W.Frag} {H : Hp} {Q : VK} {a : Addr} {xs : List Str} (h : SqL K H a (xs.map V.str)) (hl : xs.length < 64) (q : ∀ (ys : List Str) p H', ys.Perm xs → H p = none → Kp [] H H' → H' p = some (.lst (ys.map V.str)) → Q (.ref p) H') : rSortedS K [.ref a] H Q :=
  ⟨a, xs, rfl, h, hl, fun ys p pm _ n => q ys p _ pm n (Kp.new n) upd_same⟩
end Rd

set_option linter.all false
set_option maxHeartbeats 4000000
/-! SortO: sorted of a list of one item (which may be an empty tuple). -/
namespace Rd
open PySem PySem.Spec PyProof.Rows L2
open PySem.W (AllAlike Sortable dataLe dataLt alike EachIs SortsAt dataKind dataKind_some dataKind_inv oneLt_alike)
section
variable {X : Cx}
theorem sortsAt_one {P : Program} {w : World} {A : Around} {s : Shared} {v : Value} {d : PyData} (e : ∃ as, Reads s.heap v d as) (hal : alike d d = true) (hn : d ≠ .none) (hu : A.units + d.depth < cLine) : SortsAt P w A s (dataKind s.heap [d]) [v] := by
  have al : AllAlike [d] := fun a ha b hb => by
    rw [List.mem_singleton.mp ha, List.mem_singleton.mp hb]
    exact hal
  refine ⟨fun u hu' => ?_, general', fun E x y a b Q ha hb hq => ?_, fun h2 => absurd h2 (by show ¬ 2 ≤ 1; decide)⟩
  · rw [List.mem_singleton.mp hu']
    obtain ⟨as, r⟩ := e
    exact ⟨_, dataKind_some al (List.mem_singleton.mpr rfl) r⟩
  · obtain ⟨d1, as, hd, ra, rfl⟩ := dataKind_inv ha
    obtain ⟨d2, as', hd', rb, rfl⟩ := dataKind_inv hb
    cases List.mem_singleton.mp hd
    cases List.mem_singleton.mp hd'
    show wpAny _ _ (oneLt' false x y) _ _ _
    exact oneLt_alike (fun z => nomatch z) ra rb hal hn (by rw [Nat.min_self]; exact hu) hq
def rSorted1 (K : PySem.W.Frag) : List V → Hp → VK → Prop := fun vs H Q => ∃ (a : Addr) (x : V) (d : PyData), vs = [.ref a] ∧ SqL K H a [x] ∧ Dp K H x d ∧ alike d d = true ∧ d ≠ .none ∧ d.depth ≤ 60 ∧ ∀ l, H l = none → Q (.ref l) (upd H l (.lst [x]))
theorem cr_sorted1 (hu : X.A.units + 64 < cLine) : CallR X (.builtin "sorted") (rSorted1 X.K) := by
  intro pins s σ H vs us Q I r h
  obtain ⟨a, x, d, rfl, hs, hd, hal, hn, hdep, q⟩ := h
  obtain ⟨its, rv, hp, _⟩ := I.list hs
  rw [Vals.ref1 r]
  cases rv with
  | cons r1 rt =>
    cases rt
    rename_i u
    obtain ⟨as, rd⟩ := Dp.reads I d x u hd r1
    have rd' : ∃ as, Reads (PySem.W.sortingHeap (PySem.W.copyHeap s.heap [u]) (s.heap.objs.size + 1) [u]) u d as := ⟨as, PyProof.Rows.Reads.keeps (fun _ _ => PySem.W.sorting_copy_old) rd⟩
    refine PySem.W.sorted_vals hp.isList (sortsAt_one (s := { s with heap := PySem.W.sortingHeap (PySem.W.copyHeap s.heap [u]) (s.heap.objs.size + 1) [u] }) rd' hal hn (by show X.A.units + 2 + _ < _; omega)) (by show 1 ≤ sizeLine; decide) ?_
    have e1 : PySem.W.sortVals (dataKind (PySem.W.sortingHeap (PySem.W.copyHeap s.heap [u]) (s.heap.objs.size + 1) [u]) [d]) false [u] [u] = [u] := by
      have hl := PySem.W.sortVals_length (κ := dataKind (PySem.W.sortingHeap (PySem.W.copyHeap s.heap [u]) (s.heap.objs.size + 1) [u]) [d]) false (ks := [u]) (vs := [u]) rfl
      match h : PySem.W.sortVals (dataKind (PySem.W.sortingHeap (PySem.W.copyHeap s.heap [u]) (s.heap.objs.size + 1) [u]) [d]) false [u] [u], hl with
      | [z], _ =>
        have := PySem.W.sortVals_mem (κ := dataKind (PySem.W.sortingHeap (PySem.W.copyHeap s.heap [u]) (s.heap.objs.size + 1) [u]) [d]) false (ks := [u]) (vs := [u]) (v := z) (by rw [h]; exact List.mem_singleton.mpr rfl)
        rw [List.mem_singleton.mp this]
    rw [e1]
    obtain ⟨ep, he'⟩ := PyProof.Rows.sortedAll_at s.heap [u] [u].toArray
    exact ⟨.ref _, upd H (s.heap.objs.size + 1) (.lst [x]), I.laid (t' := s.toks) (fun _ _ => PyProof.Rows.sortedAll_old) (Nat.le_succ _) ⟨by show 1 ≤ sizeLine; decide, _, ep, .cons r1 .nil, he'⟩, rfl, q _ (I.hok.fresh (Nat.le_succ _))⟩
/-- sorted of a list of data, or of one item -/
def rSortedE (K : PySem.W.Frag) : List V → Hp → VK → Prop := fun vs H Q => rSortedD K vs H Q ∨ rSorted1 K vs H Q
theorem K_sortedE {K : PySem.W.Frag} (hK : X.K = K) (hu : X.A.units + 64 < cLine) : CallR X (.builtin "sorted") (rSortedE K) := by
  subst hK
  intro pins s σ H vs us Q I r h
  rcases h with h | h
  · exact cr_sortedD hu pins s σ H vs us Q I r h
  · exact cr_sorted1 hu pins s σ H vs us Q I r h
end
theorem r_sorted1 {K : PySem.W.Frag} {H : Hp} {Q : VK} {a : Addr} {x : V} {d : PyData} (hs : SqL K H a [x]) (hd : Dp K H x d) (hal : alike d d = true) (hn : d ≠ .none) (hdep : d.depth ≤ 60) (q : ∀ l H', H l = none → Kp [] H H' → H' l = some (.lst [x]) → Q (.ref l) H') : rSortedE K [.ref a] H Q :=
  .inr ⟨a, x, d, rfl, hs, hd, hal, hn, hdep, fun l n => q l _ n (Kp.new n) upd_same⟩
end Rd

set_option linter.all false
set_option maxHeartbeats 4000000
/-! UseXF: a plain def that may raise, as its callers use it. -/
namespace Rd
open PySem PySem.Spec PyProof.Rows L2 StX
def UseX (P : Program) (w : World) (K : PySem.W.Frag) (mg : Str → Option Value) (base : Heap) (n : Nat) (x : Str) (ps : List Str) (sp : Sp) : Prop :=
  ∃ f fd, FnOk P w K mg base (L2.CX P w) n f fd ps sp ∧ mg x = some (.ref f) ∧ PySem.W.keepIn K (.ref f) = true ∧ Binds K fd ps []
def tUseX (sp : Sp) (E : L2.St → XK) (t : TA) : TE := fun σ H Q => t σ H fun vs H1 => sp vs H1 Q (E σ)
theorem pe_useX {X : Cx} {n : Nat} {x : Str} {ps : List Str} {sp : Sp} {E : L2.St → XK} {e : Expr} {es : List Expr} {t : TA} {p pos : Pos} (U : UseX X.prog X.w X.K X.mg X.base n x ps sp) (hr : Room n X.A) (hg : Gl X x) (hx : ∀ σ, PassesAt (L2.CX X.prog X.w) X σ (E σ)) (ha : PA X (e :: es) t)
    (hdb : (x == ("__debug__" : Str)) = false := by decide) (he : starEach (e :: es) X.env = (false, eval e X.env) :: starEach es X.env := by rfl) (hpl : (backTo pos (starEach es X.env)).any (·.1) = false := by rfl) :
    PE X (.Call (.Name x p) (e :: es) [] pos) (tUseX sp E t) := by
  obtain ⟨f, fd, F, hm, hk, hb⟩ := U
  refine ⟨fun pins s σ H Q I h => ?_⟩
  refine wpAny_Call_Name_kw (ld_glob I hg hm ?_ hdb)
  refine PySem.W.callWith_K (h₀ := X.base) I.ok.mod.kin hk (thn (ha.run pos pins s σ H _ I h) fun us s1 ⟨vs, H1, I1, r, q⟩ => ⟨I1.kIn, ?_⟩) he hpl
  exact run_fnAt (fnrX F hb) hr (hx σ) I1 r q
theorem r_useX {sp : Sp} {E : L2.St → XK} {t : TA} {σ : L2.St} {H : Hp} {Q : VK} (q : t σ H fun vs H1 => sp vs H1 Q (E σ)) : tUseX sp E t σ H Q := q
end Rd

namespace My
open PySem L2 Rd StX
def top (i : Nat) : Stmt := PySem.Challenge.pw_silentswaps_k80_least_covers.main.body.getD i (.Pass ⟨0, 0, 0, 0⟩)
local macro_rules | `(tactic| walk_at "s") => `(tactic| (first
  | (with_reducible refine r_seq ?_)
  | (with_reducible refine r_asg ?_)
  | ((with_reducible refine' r_var (v := ?v) ?hv ?_); (case hv => exact rfl))
  | (with_reducible refine r_c ?_)
  | (with_reducible refine r_name ?_)
  | (with_reducible refine r_op ?_)
  | (with_reducible refine r_un ?_)
  | (with_reducible refine r_consA ?_)
  | (with_reducible refine r_nilA ?_)
  | (with_reducible refine r_I0 ?_)
  | (with_reducible refine r_U ?_)
  | (with_reducible refine r_eqI ?_)
  | (with_reducible refine r_neI ?_)
  | (with_reducible refine r_test ?_)
  | (with_reducible refine r_tB ?_)
  | (with_reducible refine r_kB ?_)
  | (with_reducible refine r_ifS ?_)
  | (with_reducible refine r_if ?_)
  | (with_reducible refine r_and ?_)
  | (with_reducible refine r_or ?_)
  | (with_reducible refine r_not ?_)
  | (with_reducible refine r_ret ?_)
  | (with_reducible refine r_retN ?_)
  | (with_reducible refine r_next ?_)
  | (with_reducible refine r_drop ?_)
  | (with_reducible refine r_brk ?_)
  | (with_reducible refine r_cont ?_)
  | (with_reducible refine r_andV ?_)
  | (with_reducible refine r_orV ?_)
  | (with_reducible refine r_notV ?_)
  | (with_reducible refine r_kNotV ?_)
  | (with_reducible refine r_lst ?_)
  | (with_reducible refine r_tup ?_)
  | (with_reducible refine r_dget ?_)
  | (with_reducible refine r_dput ?_)
  | (with_reducible refine r_use ?_)
  | (with_reducible refine r_cb ?_)
  | (with_reducible refine r_par ?_)
  | (with_reducible refine r_int ?_)
  | (with_reducible refine r_abs ?_)
  | (with_reducible refine r_max2 ?_)
  | (with_reducible refine r_min2 ?_)
  | (with_reducible refine r_pnil ?_)
  | (with_reducible refine r_pcons ?_)
  | (with_reducible refine r_eqS ?_)
  | (with_reducible refine r_neS ?_)
  | (with_reducible refine r_for ?_)
  | (with_reducible refine r_rng1 ?_)
  | (with_reducible refine r_rng2 ?_)
  | (with_reducible refine r_wl ?_)
  | (with_reducible refine r_wt ?_)
  | (with_reducible refine r_wq ?_)
  | (with_reducible refine r_ws ?_)
  | (with_reducible refine r_cWS ?_)
  | (with_reducible refine r_enum ?_)
  | (with_reducible refine r_zip ?_)
  | (with_reducible refine r_lc ?_)
  | (with_reducible refine r_dc ?_)
  | ((with_reducible refine r_kTurn ?ht ?_); (case ht => rfl))
  | ((with_reducible refine r_kTurnD ?ht ?_); (case ht => rfl))
  | (with_reducible refine r_yes ?_)
  | ((with_reducible refine r_kKeep1 ?hk ?_); (case hk => rfl))
  | ((with_reducible refine r_kKeepD1 ?hk ?_); (case hk => rfl))
  | (with_reducible refine r_gcons ?_)
  | (with_reducible refine r_gnil ?_)
  | (with_reducible refine r_bm ?_)
  | (with_reducible refine r_bm0 ?_)
  | (with_reducible refine r_fld ?_)
  | (with_reducible refine r_sfld ?_)
  | (with_reducible refine r_methR ?_)
  | (with_reducible refine r_makeR ?_)
  | (with_reducible refine r_chain ?_)))
local macro_rules | `(tactic| walk_at "S") => `(tactic| repeat walk_at "s")
local macro_rules | `(tactic| walk_at "D") => `(tactic| repeat' (first
  | exact AD_nil
  | refine AD_cons ?_ (fun _ _ => ?_)
  | refine ED_tup ?_ (Nat.le_trans (m := 100) (Nat.le_of_ble_eq_true rfl) (by decide))
  | refine ED_lst ?_ (Nat.le_trans (m := 100) (Nat.le_of_ble_eq_true rfl) (by decide))
  | exact ED_c (by constructor)
  | exact ED_var rfl (by constructor)))
local macro_rules | `(tactic| walk_at "N") => `(tactic| repeat' (first
  | exact AN_nil
  | refine AN_cons ?_ (fun _ _ => ?_)
  | refine EN_tup ?_ (Nat.le_trans (m := 100) (Nat.le_of_ble_eq_true rfl) (by decide))
  | refine EN_lst ?_ (Nat.le_trans (m := 100) (Nat.le_of_ble_eq_true rfl) (by decide))
  | exact EN_c (fun _ => by constructor)
  | exact EN_var rfl (fun _ => by constructor)))

/-- what the walk asks of the module's names -/
structure Txt (K : PySem.W.Frag) (mg : Str → Option Value) (C_Cover : Addr) (C_TooMany : Addr) (C_SilentswapsError : Addr) : Prop where
  z_ValueError : mg "ValueError" = none
  z_enumerate : mg "enumerate" = none
  z_all : mg "all" = none
  z_sorted : mg "sorted" = none
  z_range : mg "range" = none
  z_len : mg "len" = none
  z_set : mg "set" = none
  z_int : mg "int" = none
  z_list : mg "list" = none
  z_max : mg "max" = none
  z_tuple : mg "tuple" = none
  z_isinstance : mg "isinstance" = none
  z_abs : mg "abs" = none
  z_min : mg "min" = none
  z_super : mg "super" = none
  c_Cover : Cls K C_Cover
  v_Cover : ∃ u, mg "Cover" = some u ∧ RelV (.ref C_Cover) u
  na_Cover_sets : NoAttr K C_Cover "sets"
  na_Cover_paper : NoAttr K C_Cover "paper"
  v_TooMany : ∃ u, mg "TooMany" = some u ∧ RelV (.ref C_TooMany) u
  v_SilentswapsError : ∃ u, mg "SilentswapsError" = some u ∧ RelV (.ref C_SilentswapsError) u
  i_TooMany : ExcC K C_TooMany
  m_SilentswapsError : mg "SilentswapsError" = some (.ref C_SilentswapsError)
  x_S : PySem.W.exmOne K (.ref C_TooMany) (.ref C_SilentswapsError) = some true
  f_cl : PySem.W.findIn K (.ref C_Cover) "__class__" = some (some (.builtin "object.__class__"))
  f_sp : PySem.W.specialIn K (.builtin "object.__class__") "__get__" = some (some (.builtin "getset_descriptor.__get__"))
  f_tk : PySem.W.takesIn K (.builtin "object.__class__") = some true
  f_ob : PySem.W.mroIn K C_Cover (.type "object") = some true
  f_ki : PySem.W.kitOne K (.ref C_Cover) (.ref C_Cover) = some true
  f_kl : PySem.W.kitOne K (.type "list") (.ref C_Cover) = some false
  f_nf : PySem.W.notFirst K C_Cover (.type "list") = true
  g_MOST_WORDS : ∃ u, mg "MOST_WORDS" = some u ∧ RelV (.int (8)) u
section
variable {P : Program} {w : World} {K : PySem.W.Frag} {mg : Str → Option Value} {base : Heap}
variable {C_Cover : Addr} {C_TooMany : Addr} {C_SilentswapsError : Addr}

open NdefX
local macro_rules | `(tactic| walk_at "s") => `(tactic| (first
  | (with_reducible refine r_sl ?_)
  | (with_reducible refine r_kS1 ?_)
  | (with_reducible refine r_kS2 ?_)
  | (with_reducible refine r_kS3 ?_)
  | (with_reducible refine r_noPart ?_)
  | (with_reducible refine r_part ?_)
  | (with_reducible refine r_kPart ?_)
  | (with_reducible refine r_gsub ?_)
  | (with_reducible refine r_m1 ?_)
  | (with_reducible refine r_kM1 ?_)
  | (with_reducible refine r_propF ?_)
  | (with_reducible refine r_drp ?_)
  | (with_reducible refine r_min2S ?_)
  | (with_reducible refine r_max2S ?_)
  | (with_reducible refine r_enumS ?_)
  | (with_reducible refine r_cEnumS ?_)
  | (with_reducible refine r_makeKS ?_)
  | (with_reducible refine r_makeS ?_)))

local macro_rules | `(tactic| walk_at "s") => `(tactic| (first
  | (with_reducible refine r_mkV ?_)
  | (with_reducible refine r_ofl ?_)
  | (with_reducible refine r_methF ?_)
  | (with_reducible refine r_callF ?_)
  | (with_reducible refine r_star ?_)
  | (with_reducible refine r_smeth ?_)
  | (with_reducible refine r_kSMeth ?_)))

local macro_rules | `(tactic| walk_at "s") => `(tactic| (first
  | (with_reducible refine r_dcT ?_)
  | ((with_reducible refine r_kTurnT ?ht ?_); (case ht => rfl))
  | ((with_reducible refine r_kKeepT1 ?hk ?_); (case hk => rfl))
  | (with_reducible refine r_own ?_)
  | (with_reducible refine r_cmeth ?_)
  | (with_reducible refine r_kCMeth ?_)
  | (with_reducible refine r_makeS1 ?_)
  | ((with_reducible refine r_makeV ?hv ?_); (case hv => rfl))
  | (with_reducible refine r_isBl ?_)
  | (with_reducible refine r_ltS ?_)
  | (with_reducible refine r_makeW ?_)
  | (with_reducible refine r_kMakeW0 ?_)
  | (with_reducible refine r_lr1 ?_)
  | (with_reducible refine r_lc2 ?_)
  | ((with_reducible refine r_kTurn2 ?ht ?_); (case ht => rfl))
  | ((with_reducible refine r_kKeep2 ?hk ?_); (case hk => rfl))))

local macro_rules | `(tactic| walk_at "s") => `(tactic| (first
  | (with_reducible refine r_tTruOwn ?_)
  | (with_reducible refine r_notOwn ?_)
  | (with_reducible refine r_par3 ?_)))

local macro_rules | `(tactic| walk_at "s") => `(tactic| (first
  | (with_reducible refine Rd.r_join ?_)
  | (with_reducible refine r_jCons ?_)
  | (with_reducible refine r_jNil ?_)
  | (with_reducible refine r_fmt ?_)
  | (with_reducible refine r_lsItems ?_)
  | (with_reducible refine r_lsKeys ?_)
  | (with_reducible refine r_iKeys ?_)
  | (with_reducible refine r_revL ?_)))

local macro_rules | `(tactic| walk_at "s") => `(tactic| (first
  | ((with_reducible refine r_aug ?ha ?_); (case ha => rfl))
  | (with_reducible refine r_kAugI ?_)
  | (with_reducible refine r_delL ?_)
  | (with_reducible refine r_methX ?_)))

local macro_rules | `(tactic| walk_at "s") => `(tactic| (first
  | (with_reducible refine r_tupF ?_)
  | (with_reducible refine r_wordsL ?_)
  | (with_reducible refine r_wordsT ?_)
  | (with_reducible refine r_mT ?_)))

abbrev s_TooMany___init__ : Stmt := inClass (top 2) 0
theorem ok_TooMany___init__ {f : Addr} {fd : FuncData} {C : Addr} (F : SFun P K mg "TooMany.__init__" s_TooMany___init__ C f fd) (nf : PySem.W.findIn K (.ref C) "what" = some none) : FnOk P w K mg base CX0 1 f fd ["self", "what"] (sp_exc1 "what" C) := by
  obtain ⟨oc, kV, doc, pm, ct, cl, od, an, cld, cda, cc, osl, csl, rfl, lk, hcd, cell, Z⟩ := F.ex
  refine fn_sup (N := ["self", "what", "__class__"]) lk hcd cell (nscope_by (by decide +kernel)) (fun vs H Q E h => ?_) (fun A outer s H vs Q E hr h => ?_)
  · obtain ⟨a, v, rfl, _⟩ := h
    rfl
  · obtain ⟨a, v, rfl, ha, q⟩ := h
    exact ⟨_, qs_sup (params := defArgs s_TooMany___init__) (body := defBody s_TooMany___init__) (scope := defScope s_TooMany___init__) (pl := _) lk cell Z rfl rfl rfl rfl rfl rfl rfl rfl rfl rfl (qs_of (pss_one (ps_ost (pv 0) (pv 1) rfl))), r_sup rfl ha (r_ost rfl rfl Z.oex nf ha q)⟩
/-! ### subsets_of -/
def subs : List Str → Nat → List (List Str)
  | _, 0 => [[]]
  | [], _ + 1 => []
  | w :: ws, n + 1 => (subs ws n).map (w :: ·) ++ subs ws (n + 1)
theorem subs_len : ∀ (ws : List Str) (n : Nat), (subs ws n).length ≤ 2 ^ ws.length
  | [], 0 => Nat.le_refl _
  | _ :: _, 0 => Nat.one_le_two_pow
  | [], _ + 1 => Nat.zero_le _
  | w :: ws, n + 1 => by
    have h1 := subs_len ws n
    have h2 := subs_len ws (n + 1)
    show ((subs ws n).map (w :: ·) ++ subs ws (n + 1)).length ≤ 2 ^ (ws.length + 1)
    rw [List.length_append, List.length_map, Nat.pow_succ]
    omega
theorem subs_len8 {ws : List Str} (h : ws.length ≤ 8) (n : Nat) : (subs ws n).length ≤ 256 := Nat.le_trans (subs_len ws n) (Nat.pow_le_pow_right (by decide) h)
theorem r_kForEl {K : PySem.W.Frag} {p : Addr} {xs : List V} {σ : L2.St} {H : Hp} {g : TG} {tb : TS} {nx bk ct : L2.St → Hp → Prop} {rt : VK} (Pv : Nat → L2.St → Hp → Prop) (h0 : Pv 0 σ H) (hl : ∀ i σ H', i ≤ xs.length → Pv i σ H' → SqL K H' p xs)
    (hs : ∀ (i : Nat) x t σ H H', xs[i]? = some x → Pv i σ H → H t = none → Kp [] H H' → H' t = some (.tup [.int (i : Int), x]) → g (.ref t) σ H' fun σ2 H2 => tb ⟨Pv (i + 1), rt, nx, Pv (i + 1)⟩ σ2 H2) (hd : ∀ σ H, Pv xs.length σ H → nx σ H) :
    kFor g tb ⟨nx, rt, bk, ct⟩ σ (Ite K p) H := by
  refine r_kFor walk_enum Pv h0 hl (fun i x σ H H' hi hp y => ?_) hd
  obtain ⟨t, u, v, rfl, nt, rfl, hu, hx⟩ := y
  cases hu
  exact hs i v t σ H _ hx hp nt (Kp.new nt) upd_same
theorem subs_mem_len {c : List Str} : ∀ {ws : List Str} {n : Nat}, c ∈ subs ws n → c.length = n
  | ws, 0, h => by
    have e : subs ws 0 = [[]] := by cases ws <;> rfl
    rw [e] at h
    rw [List.mem_singleton.mp h]
    rfl
  | [], n + 1, h => nomatch h
  | w :: ws, n + 1, h => by
    have h : c ∈ (subs ws n).map (w :: ·) ++ subs ws (n + 1) := h
    rcases List.mem_append.mp h with h | h
    · obtain ⟨d, hd, rfl⟩ := List.mem_map.mp h
      exact congrArg (· + 1) (subs_mem_len hd)
    · exact subs_mem_len h
theorem subs_iff {c : List Str} : ∀ {ws : List Str} {n : Nat}, c ∈ subs ws n ↔ c.Sublist ws ∧ c.length = n
  | ws, 0 => by
    have e : subs ws 0 = [[]] := by cases ws <;> rfl
    rw [e, List.mem_singleton]
    exact ⟨fun h => by rw [h]; exact ⟨List.nil_sublist _, rfl⟩, fun h => List.eq_nil_of_length_eq_zero h.2⟩
  | [], n + 1 => ⟨fun h => (nomatch h), fun ⟨h, e⟩ => by rw [List.sublist_nil.mp h] at e; cases e⟩
  | w :: ws, n + 1 => by
    show c ∈ (subs ws n).map (w :: ·) ++ subs ws (n + 1) ↔ _
    rw [List.mem_append, List.mem_map, subs_iff (ws := ws) (n := n + 1)]
    constructor
    · rintro (⟨d, hd, rfl⟩ | ⟨h, e⟩)
      · obtain ⟨h, e⟩ := subs_iff.mp hd
        exact ⟨h.cons_cons w, congrArg (· + 1) e⟩
      · exact ⟨h.cons w, e⟩
    · rintro ⟨h, e⟩
      cases h with
      | cons _ h => exact .inr ⟨h, e⟩
      | cons_cons _ h => exact .inl ⟨_, subs_iff.mpr ⟨h, Nat.succ.inj e⟩, rfl⟩
theorem subs_small {c : List Str} {ws : List Str} {n : Nat} (h : c ∈ subs ws n) : c.length ≤ ws.length := (subs_iff.mp h).1.length_le
def sp_subsets_of (K : PySem.W.Frag) (d : Nat) : Sp := fun vs H Q _ => ∃ (a : Addr) (ws : List Str) (n : Nat), vs = [.ref a, .int (n : Int)] ∧ SqL K H a (ws.map V.str) ∧ n < d ∧ ws.length ≤ 8 ∧
  ∀ l H' xs, H l = none → Kp [] H H' → H' l = some (.lst xs) → Rows K H' xs (subs ws n) → Q (.ref l) H'
theorem drop_next {α : Type} {l : List α} {i : Nat} {x : α} (h : l[i]? = some x) : l.drop i = x :: l.drop (i + 1) := by
  obtain ⟨hi, e⟩ := List.getElem?_eq_some_iff.mp h
  rw [List.drop_eq_getElem_cons hi, e]
abbrev s_subsets_of : Stmt := top 5
theorem sc_subsets_of : FnScope ["words", "size", "found", "at", "word", "rest"] ["words", "size"] (defScope s_subsets_of) :=
  ⟨rfl, rfl, rfl, by decide +kernel, rfl, by decide +kernel, by decide +kernel⟩
theorem step_subsets {d : Nat} {f : Addr} {fd : FuncData} (F : Fun K "subsets_of" "subsets_of" s_subsets_of f fd) (T : Txt K mg C_Cover C_TooMany C_SilentswapsError)
    (U_subsets_of : Use P w K mg base (2 + d) "subsets_of" ["words", "size"] (sp_subsets_of K d)) : FnOk P w K mg base CX0 (2 + (d + 1)) f fd ["words", "size"] (sp_subsets_of K (d + 1)) := by
  refine F.ok (k := 2 + d) sc_subsets_of (fun vs H Q E h => ?_) (fun cdv A outer s H vs Q E hr h => ?_)
  · obtain ⟨a, ws, n, rfl, _⟩ := h
    rfl
  · obtain ⟨a, ws, n, rfl, hS, hd, hl, q⟩ := h
    have hu := hu_of hr
    have hu64 := hr.units
    refine ⟨_, (pss_cons (ps_if (pt_cmpR op_eq (pv 1) pe_int (nomark _))
          (pss_one (ps_ret (pe_lst (pa_cons (pe_tup pa_nil) pa_nil))))
          pss_nil)
        (pss_cons (ps_set (i := 2) sc_subsets_of.nd rfl (by first | exact Or.inl rfl | exact Or.inr rfl) (pe_lst pa_nil))
        (pss_cons (ps_for PassesOwn.never (by rfl) (K_enum (K := K) rfl (by rfl) T.z_enumerate (pa_cons (pv 0) pa_nil)) (K_gtup (K := K) (n := 2) rfl (by rfl) (pgs_cons (pg_name (i := 3) sc_subsets_of.nd rfl (by first | exact Or.inl rfl | exact Or.inr rfl)) (pgs_cons (pg_name (i := 4) sc_subsets_of.nd rfl (by first | exact Or.inl rfl | exact Or.inr rfl)) pgs_nil)))
          (pss_one (ps_expr (K_bm (K := K) rfl PySem.F.plainAttrs_list PySem.F.slot_list_extend PySem.F.type_list_extend mt_extend (pv 2) (pa_cons (pe_lc (own := [("rest", 5)]) (by rfl) sc_subsets_of.nd (K_pil (K := K) rfl (pe_use U_subsets_of (hr.mono (by first | decide | omega)) (by rfl) (pa_cons (pe_slice (K_slL (K := K) rfl) (pv 0) (po_some (pe_op op_add (pv 3) pe_int)) po_none) (pa_cons (pe_op op_sub (pv 1) pe_int) pa_nil)))) (blkOk_by (own := [("rest", 5)]) (N := ["words", "size", "found", "at", "word", "rest"]) (sc := defScope s_subsets_of) (by decide +kernel)) (fun _ _ _ _ _ => (pg_name (i := 5) sc_subsets_of.nd rfl (by first | exact Or.inl rfl | exact Or.inr rfl))) (fun _ _ _ _ _ => pts_nil) (fun _ _ _ _ _ => (pe_op (K_catF (K := K) rfl) (pe_tupF (pa_cons (pv 4) pa_nil)) (pv 5)))) pa_nil)))))
        (pss_one (ps_ret (pv 2)))))), ?_⟩
    have big : 5000 ≤ sizeLine := by decide
    walk_at "S"
    refine r_kIfS (fun c => ?_) (fun c => ?_)
    all_goals walk_at "S"
    · have c' : n = 0 := by have := of_decide_eq_true c; omega
      subst c'
      refine r_kTup (xs := []) (Nat.zero_le _) fun t H1 nt k1 et => ?_
      walk_at "S"
      refine r_kLst (by show 1 ≤ sizeLine; omega) fun l H2 nl k2 el => ?_
      have nl' := k1.free nl not_nil
      refine q l H2 _ nl' (k1.trans k2) el ?_
      have et2 := k2 _ _ et not_nil
      have : subs ws 0 = [[]] := by cases ws <;> rfl
      rw [this]
      exact .cons ⟨SqT.of et2, ⟨_, et2, fun _ => nofun⟩, fun z => absurd rfl z⟩ .nil
    have c' : n ≠ 0 := fun z => by
      subst z
      cases c
    obtain ⟨m, rfl⟩ : ∃ m, n = m + 1 := ⟨n - 1, by omega⟩
    refine r_kLst (xs := []) (Nat.zero_le _) fun L H1 nL k1 eL => ?_
    walk_at "S"
    have hS1 := k1.sql hS
    refine r_cEnum hS1 ?_
    refine r_kForEl (fun i σ' H' => ∃ v3 v4 v5 xs F, σ' = [some (.ref a), some (.int ((m + 1 : Nat) : Int)), some (.ref L), v3, v4, v5] ∧ Kp [] H H' ∧ H' L = some (.lst xs) ∧ Rows K H' xs F ∧ F ++ subs (ws.drop i) (m + 1) = subs ws (m + 1))
      ⟨none, none, none, [], [], rfl, k1, eL, .nil, rfl⟩ (fun i σ' H' _ h => let ⟨_, _, _, _, _, _, k, _⟩ := h; k.sql hS) ?_ ?_
    · rintro i x t σ' H2 H3 hx ⟨v3, v4, v5, xs, F, rfl, k2, e2, rF, eF⟩ nt k3 et
      obtain ⟨w1, hw, rfl⟩ := map_at hx
      have hi := lt_at hw
      have k03 := k2.trans k3
      have e3 := k3 _ _ e2 not_nil
      have r3 := rF.kp k3
      refine r_gtup (SqT.of et) rfl ?_
      walk_at "S"
      refine r_kBMl (SqL.of e3) ?_
      walk_at "S"
      refine r_slL (k03.sql hS) fun B H4 nB k4 eB => ?_
      walk_at "S"
      have eB' : H4 B = some (.lst ((ws.drop (i + 1)).map V.str)) := by
        have e := cut_from (xs := ws.map V.str) (i + 1)
        rw [eB, show (i : Int) + 1 = ((i + 1 : Nat) : Int) by omega, e, List.map_drop]
      refine ⟨B, ws.drop (i + 1), m, by rw [show ((m + 1 : Nat) : Int) - 1 = (m : Int) by omega], SqL.of eB', by omega, by rw [List.length_drop]; omega, fun R H5 ys nR k5 eR rR => ?_⟩
      have k05 := (k03.trans k4).trans k5
      refine r_cWL (SqL.of eR) ?_
      refine r_kLcL (fun D j acc H6 => Kp [] H5 H6 ∧ ∃ G, Rows K H6 acc G ∧ G = ((subs (ws.drop (i + 1)) m).take j).map (w1 :: ·)) (fun D H6 nD k6 e6 => ⟨k6, [], .nil, rfl⟩) (fun D j acc H6 _ h => h.1.sql (SqL.of eR)) ?_ ?_
      · rintro D j acc y H6 nD hy eD ⟨k6, G, rG, rfl⟩
        obtain ⟨b, rs, rfl, hr', rb⟩ := (rR.kp k6).at hy
        walk_at "S"
        refine r_kTupF (K := K) (ws := [w1]) rfl (by show 1 ≤ sizeLine; omega) (fun z => nomatch z) fun T1 H7 nT k7 rT => ?_
        walk_at "S"
        have hb8 : rs.length ≤ 8 := by
          have := subs_mem_len (List.mem_of_getElem? hr')
          have := subs_small (List.mem_of_getElem? hr')
          rw [List.length_drop] at this
          omega
        refine r_catF rT (rb.kp k7 not_nil) (fun z => nomatch z) (by show 1 + rs.length ≤ sizeLine; omega) fun C1 H8 k8 rC => ?_
        refine r_kApp (k8 _ _ (k7 _ _ eD not_nil) not_nil) ?_ fun H9 k9 e9 => ?_
        · have h1 := (rG.length)
          have h2 := subs_len8 (ws := ws.drop (i + 1)) (by rw [List.length_drop]; omega) m
          rw [List.length_map, List.length_take] at h1
          omega
        have k68 := k7.trans k8
        refine ⟨((k6.trans k68).step nD k9), _, ?_, (take_map (w1 :: ·) hr').symm⟩
        have e8 := k68 _ _ eD not_nil
        exact ((rG.kp k68).but k9 e8).snoc (rC.but k9 e8)
      rintro D acc H6 nD eD ⟨k6, G, rG, rfl⟩
      rw [rR.length, List.take_length] at rG
      have k36 := (k4.trans k5).trans k6
      have e6 := k36 _ _ e3 not_nil
      walk_at "S"
      refine r_extend (K := K) e6 eD ?_ fun H7 k7 e7 => ?_
      · have h1 := rG.length
        have h2 := subs_len8 (ws := ws.drop (i + 1)) (by rw [List.length_drop]; omega) m
        have h3 := subs_len8 (ws := ws) (by omega) (m + 1)
        have h4 := congrArg List.length eF
        have h5 := r3.length
        rw [List.length_map] at h1
        rw [List.length_append] at h4
        omega
      walk_at "S"
      have nL6 : H L = none := nL
      refine ⟨_, _, _, xs ++ acc, F ++ (subs (ws.drop (i + 1)) m).map (w1 :: ·), rfl, (k03.trans k36).step nL k7, e7, ((r3.kp k36).but k7 e6).append (rG.but k7 e6), ?_⟩
      rw [← eF, List.append_assoc, drop_next hw]
      rfl
    · rintro σ' H2 ⟨v3, v4, v5, xs, F, rfl, k2, e2, rF, eF⟩
      walk_at "S"
      rw [List.length_map, List.drop_length] at eF
      have : subs [] (m + 1) = [] := rfl
      rw [this, List.append_nil] at eF
      subst eF
      exact q L H2 xs nL k2 e2 rF
theorem all_subsets {f : Addr} {fd : FuncData} (F : Fun K "subsets_of" "subsets_of" s_subsets_of f fd) (b : Binds K fd ["words", "size"] []) (kp : PySem.W.keepIn K (.ref f) = true) (g : mg "subsets_of" = some (.ref f)) (T : Txt K mg C_Cover C_TooMany C_SilentswapsError) : ∀ d, Use P w K mg base (2 + d) "subsets_of" ["words", "size"] (sp_subsets_of K d)
  | 0 => by
    refine ⟨f, fd, ⟨fun vs H Q E h => ?_, fun A outer s H args us vs Q E _ _ _ _ h => ?_⟩, g, kp, b⟩
    all_goals
      obtain ⟨a, ws, n, rfl, _, z, _⟩ := h
      exact absurd z (Nat.not_lt_zero _)
  | d + 1 => ⟨f, fd, step_subsets F T (all_subsets F b kp g T d), g, kp, b⟩

/-! ### pairs -/
abbrev Pr := Str × Str
def prD (p : Pr) : PyData := .tuple [.str p.1, .str p.2]
theorem Dt.pr {ex : List Addr} {H : Hp} {v : V} {p : Pr} (h : Dt ex H v (prD p)) : ∃ a, v = .ref a ∧ a ∉ ex ∧ H a = some (.tup [.str p.1, .str p.2]) := by
  obtain ⟨a, xs, rfl, n, e, al⟩ := h.tuple
  cases al with
  | cons h1 h2 =>
    cases h2 with
    | cons h3 h4 =>
      cases h4
      cases h1
      cases h3
      exact ⟨a, rfl, n, e⟩
theorem pr_at {ex : List Addr} {H : Hp} {xs : List V} {ps : List Pr} {i : Nat} {v : V} (h : DtAll ex H xs (ps.map prD)) (e : xs[i]? = some v) : ∃ p a, ps[i]? = some p ∧ v = .ref a ∧ a ∉ ex ∧ H a = some (.tup [.str p.1, .str p.2]) := by
  obtain ⟨d, hd, hv⟩ := h.at e
  obtain ⟨p, hp, rfl⟩ := map_at hd
  obtain ⟨a, rfl, n, e⟩ := Dt.pr hv
  exact ⟨p, a, hp, rfl, n, e⟩
def cov1 (c : List Str) (p : Pr) : Bool := decide (p.1 ∈ c) || decide (p.2 ∈ c)
def isCov (ps : List Pr) (c : List Str) : Bool := ps.all (cov1 c)
def sp_is_cover (K : PySem.W.Frag) : Sp := fun vs H Q _ => ∃ (a b : Addr) (xs : List V) (ps : List Pr) (c : List Str), vs = [.ref a, .ref b] ∧ SqL K H a xs ∧ DtAll [] H xs (ps.map prD) ∧ SqT K H b (c.map V.str) ∧ ps.length ≤ 100 ∧
  ∀ H', Kp [] H H' → Q (.bl (isCov ps c)) H'
theorem isCov_map (ps : List Pr) (c : List Str) : isCov ps c = (ps.map (cov1 c)).all id := by
  unfold isCov
  rw [List.all_map]
  rfl
abbrev s_is_cover : Stmt := top 6
theorem sc_is_cover : FnScope ["pairs", "words", "first", "second"] ["pairs", "words"] (defScope s_is_cover) :=
  ⟨rfl, rfl, rfl, by decide +kernel, rfl, by decide +kernel, by decide +kernel⟩
theorem ok_is_cover {f : Addr} {fd : FuncData} (F : Fun K "is_cover" "is_cover" s_is_cover f fd) (T : Txt K mg C_Cover C_TooMany C_SilentswapsError) :
    FnOk P w K mg base CX0 2 f fd ["pairs", "words"] (sp_is_cover K) := by
  refine F.ok sc_is_cover (fun vs H Q E h => ?_) (fun cdv A outer s H vs Q E hr h => ?_)
  · obtain ⟨a, b, xs, ps, c, rfl, _⟩ := h
    rfl
  · obtain ⟨a, b, xs, ps, c, rfl, hS, hx, hc, hl, q⟩ := h
    have hu := hu_of hr
    have hu64 := hr.units
    refine ⟨_, (pss_one (ps_ret (pe_callB (K_all (K := K) rfl rfl) (by rfl) T.z_all (by decide +kernel) (pa_cons (pe_lc (own := [("first", 2), ("second", 3)]) (by rfl) sc_is_cover.nd (K_pil (K := K) rfl (pv 0)) (blkOk_by (own := [("first", 2), ("second", 3)]) (N := ["pairs", "words", "first", "second"]) (sc := defScope s_is_cover) (by decide +kernel)) (fun _ _ _ _ _ => (K_gtup (K := K) (n := 2) rfl (by rfl) (pgs_cons (pg_name (i := 2) sc_is_cover.nd rfl (by first | exact Or.inl rfl | exact Or.inr rfl)) (pgs_cons (pg_name (i := 3) sc_is_cover.nd rfl (by first | exact Or.inl rfl | exact Or.inr rfl)) pgs_nil)))) (fun _ _ _ _ _ => pts_nil) (fun _ _ _ _ _ => (pe_or (pe_cmpR (K_in (K := K) rfl) (pv 2) (pv 1) (by with_unfolding_all rfl)) (pe_one (pe_cmpR (K_in (K := K) rfl) (pv 3) (pv 1) (by with_unfolding_all rfl)))))) pa_nil)))), ?_⟩
    have big : 5000 ≤ sizeLine := by decide
    have hn : xs.length = ps.length := by rw [hx.length, List.length_map]
    walk_at "S"
    refine r_cWL hS ?_
    refine r_kLcL (fun D i acc H' => Kp [] H H' ∧ acc = ((ps.take i).map (cov1 c)).map V.bl) (fun D H' _ k _ => ⟨k, rfl⟩) (fun D i acc H' _ h => h.1.sql hS) ?_ ?_
    · rintro D i acc v H1 nD hv eD ⟨k1, rfl⟩
      obtain ⟨p, t, hp, rfl, _, et⟩ := pr_at hx hv
      have hi := lt_at hp
      have et1 := k1 _ _ et not_nil
      have hc1 : SqT K H1 b (c.map V.str) := sqt_kp hc k1 not_nil
      have fin : ∀ z : Bool, z = cov1 c p → kApp D (kN (fun acc H' => Kp [] H H' ∧ acc = ((ps.take (i + 1)).map (cov1 c)).map V.bl) D) (.bl z) H1 := by
        rintro z rfl
        refine r_kApp eD (by rw [List.length_map, List.length_map, List.length_take]; omega) fun H2 k2 e2 => ⟨k1.step nD k2, ?_⟩
        rw [take_map (cov1 c) hp, List.map_append]
        rfl
      refine r_gtup (SqT.of et1) rfl ?_
      walk_at "S"
      refine r_inT hc1 ?_
      refine r_kOrV (fun z => ?_) (fun z => ?_)
      · refine fin true ?_
        unfold cov1
        rw [z]
        rfl
      walk_at "S"
      refine r_inT hc1 ?_
      refine fin _ ?_
      unfold cov1
      rw [z]
      rfl
    rintro D acc H1 nD eD ⟨k1, rfl⟩
    rw [hn, List.take_length] at eD
    walk_at "S"
    refine r_all (SqL.of eD) ?_
    rw [← isCov_map]
    exact q H1 k1
/-! ### apart -/
def off (p o : Pr) : Bool := !(decide (p.1 ∈ [o.1, o.2])) && !(decide (p.2 ∈ [o.1, o.2]))
def apStep (t : List Pr) (p : Pr) : List Pr := if t.all (off p) = true then t ++ [p] else t
def apartP (ps : List Pr) : List Pr := ps.foldl apStep []
theorem apStep_len (t : List Pr) (p : Pr) : (apStep t p).length ≤ t.length + 1 := by
  unfold apStep
  split
  · rw [List.length_append]
    exact Nat.le_refl _
  · omega
theorem apart_len' : ∀ (ps t : List Pr), (ps.foldl apStep t).length ≤ t.length + ps.length
  | [], _ => Nat.le_refl _
  | p :: ps, t => by
    have h1 := apart_len' ps (apStep t p)
    have h2 := apStep_len t p
    show (ps.foldl apStep (apStep t p)).length ≤ t.length + (ps.length + 1)
    omega
theorem apart_len (ps : List Pr) : (apartP ps).length ≤ ps.length := by
  have h := apart_len' ps []
  have e : ([] : List Pr).length + ps.length = ps.length := Nat.zero_add _
  rw [e] at h
  exact h
theorem apart_next {ps : List Pr} {i : Nat} {p : Pr} (h : ps[i]? = some p) : apartP (ps.take (i + 1)) = apStep (apartP (ps.take i)) p := by
  unfold apartP
  rw [take_more h, List.foldl_append]
  rfl
def sp_apart (K : PySem.W.Frag) : Sp := fun vs H Q _ => ∃ (a : Addr) (xs : List V) (ps : List Pr), vs = [.ref a] ∧ SqL K H a xs ∧ DtAll [] H xs (ps.map prD) ∧ ps.length ≤ 100 ∧
  ∀ l H' ys, H l = none → Kp [] H H' → H' l = some (.lst ys) → DtAll [] H' ys ((apartP ps).map prD) → Q (.ref l) H'
abbrev s_apart : Stmt := top 7
theorem sc_apart : FnScope ["pairs", "taken", "pair", "other"] ["pairs"] (defScope s_apart) :=
  ⟨rfl, rfl, rfl, by decide +kernel, rfl, by decide +kernel, by decide +kernel⟩
theorem ok_apart {f : Addr} {fd : FuncData} (F : Fun K "apart" "apart" s_apart f fd) (T : Txt K mg C_Cover C_TooMany C_SilentswapsError) :
    FnOk P w K mg base CX0 2 f fd ["pairs"] (sp_apart K) := by
  refine F.ok sc_apart (fun vs H Q E h => ?_) (fun cdv A outer s H vs Q E hr h => ?_)
  · obtain ⟨a, xs, ps, rfl, _⟩ := h
    rfl
  · obtain ⟨a, xs, ps, rfl, hS, hx, hl, q⟩ := h
    have hu := hu_of hr
    have hu64 := hr.units
    refine ⟨_, (pss_cons (ps_set (i := 1) sc_apart.nd rfl (by first | exact Or.inl rfl | exact Or.inr rfl) (pe_lst pa_nil))
        (pss_cons (ps_for PassesOwn.never (by rfl) (K_pil (K := K) rfl (pv 0)) (pg_name (i := 2) sc_apart.nd rfl (by first | exact Or.inl rfl | exact Or.inr rfl))
          (pss_one (ps_if (pt_val (pe_callB (K_all (K := K) rfl rfl) (by rfl) T.z_all (by decide +kernel) (pa_cons (pe_lc (own := [("other", 3)]) (by rfl) sc_apart.nd (K_pil (K := K) rfl (pv 1)) (blkOk_by (own := [("other", 3)]) (N := ["pairs", "taken", "pair", "other"]) (sc := defScope s_apart) (by decide +kernel)) (fun _ _ _ _ _ => (pg_name (i := 3) sc_apart.nd rfl (by first | exact Or.inl rfl | exact Or.inr rfl))) (fun _ _ _ _ _ => pts_nil) (fun _ _ _ _ _ => (pe_and (pe_cmpR (K_notIn (K := K) rfl) (pe_ix (K_ixT (K := K) rfl) (pv 2) pe_int (fun _ _ => rfl)) (pv 3) (by with_unfolding_all rfl)) (pe_one (pe_cmpR (K_notIn (K := K) rfl) (pe_ix (K_ixT (K := K) rfl) (pv 2) pe_int (fun _ _ => rfl)) (pv 3) (by with_unfolding_all rfl)))))) pa_nil)))
            (pss_one (ps_expr (K_bm (K := K) rfl PySem.F.plainAttrs_list PySem.F.slot_list_append PySem.F.type_list_append mt_append (pv 1) (pa_cons (pv 2) pa_nil))))
            pss_nil)))
        (pss_one (ps_ret (pv 1))))), ?_⟩
    have big : 5000 ≤ sizeLine := by decide
    have hn : xs.length = ps.length := by rw [hx.length, List.length_map]
    walk_at "S"
    refine r_kLst (xs := []) (Nat.zero_le _) fun L H1 nL k1 eL => ?_
    walk_at "S"
    refine r_cWL (k1.sql hS) ?_
    refine r_kForL (xs := xs) (fun i σ' H' => ∃ v2 v3 ys, σ' = [some (.ref a), some (.ref L), v2, v3] ∧ Kp [] H H' ∧ H' L = some (.lst ys) ∧ DtAll [L] H' ys ((apartP (ps.take i)).map prD)) ⟨none, none, [], rfl, k1, eL, .nil⟩ (fun i σ' H' _ h => let ⟨_, _, _, _, k, _⟩ := h; k.sql hS) ?_ ?_
    · rintro i v σ' H2 hv ⟨v2, v3, ys, rfl, k2, e2, al⟩
      obtain ⟨p, t, hp, rfl, _, et⟩ := pr_at hx hv
      have hi := lt_at hp
      have et2 := k2 _ _ et not_nil
      have hys : ys.length = (apartP (ps.take i)).length := by rw [al.length, List.length_map]
      walk_at "S"
      refine r_cWL (SqL.of e2) ?_
      refine r_kLcL (fun D j acc H' => Kp [] H2 H' ∧ acc = (((apartP (ps.take i)).take j).map (off p)).map V.bl) (fun D H' _ k _ => ⟨k, rfl⟩) (fun D j acc H' _ h => h.1.sql (SqL.of e2)) ?_ ?_
      · rintro D j acc u H3 nD hu' eD ⟨k3, rfl⟩
        obtain ⟨o, t', ho, rfl, _, et'⟩ := pr_at al hu'
        have et3 := k3 _ _ et2 not_nil
        have ho3 : SqT K H3 t' ([o.1, o.2].map V.str) := SqT.of (k3 _ _ et' not_nil)
        have hlen := apart_len (ps.take i)
        rw [List.length_take] at hlen
        have fin : ∀ z : Bool, z = off p o → kApp D (kN (fun acc H' => Kp [] H2 H' ∧ acc = (((apartP (ps.take i)).take (j + 1)).map (off p)).map V.bl) D) (.bl z) H3 := by
          rintro z rfl
          refine r_kApp eD (by rw [List.length_map, List.length_map, List.length_take]; omega) fun H4 k4 e4 => ⟨k3.step nD k4, ?_⟩
          rw [take_map (off p) ho, List.map_append]
          rfl
        walk_at "S"
        refine r_ixT (SqT.of et3) (show atI [V.str p.1, V.str p.2] 0 = some (V.str p.1) from rfl) ?_
        walk_at "S"
        refine r_ninT ho3 ?_
        refine r_kAndV (fun z => ?_) (fun z => ?_)
        · walk_at "S"
          refine r_ixT (SqT.of et3) (show atI [V.str p.1, V.str p.2] 1 = some (V.str p.2) from rfl) ?_
          walk_at "S"
          refine r_ninT ho3 ?_
          refine fin _ ?_
          unfold off
          rw [z, Bool.true_and]
        · refine fin false ?_
          unfold off
          rw [z, Bool.false_and]
      rintro D acc H3 nD eD ⟨k3, rfl⟩
      rw [hys, List.take_length] at eD
      have e3 := k3 _ _ e2 not_nil
      have al3 := al.mono k3.nil
      walk_at "S"
      refine r_all (SqL.of eD) ?_
      have hall : ((apartP (ps.take i)).map (off p)).all id = (apartP (ps.take i)).all (off p) := by
        rw [List.all_map]
        rfl
      rw [hall]
      walk_at "S"
      refine r_kIfS (fun c => ?_) (fun c => ?_)
      all_goals walk_at "S"
      · refine r_kBMl (SqL.of e3) ?_
        walk_at "S"
        have hlen := apart_len (ps.take i)
        rw [List.length_take] at hlen
        refine r_append e3 (by omega) fun H4 k4 e4 => ?_
        walk_at "S"
        refine ⟨_, _, ys ++ [.ref t], rfl, (k2.trans k3).step nL k4, e4, ?_⟩
        have hst : apStep (apartP (ps.take i)) p = apartP (ps.take i) ++ [p] := by
          unfold apStep
          rw [if_pos c]
        rw [apart_next hp, hst, List.map_append]
        have tL : t ≠ L := (ne_none et nL).symm
        refine (al3.mono k4).snoc ?_
        exact .tup (not_one tL) (k4 _ _ (k3 _ _ et2 not_nil) (not_one tL)) (.cons (.str _) (.cons (.str _) .nil))
      · refine ⟨_, _, ys, rfl, k2.trans k3, e3, ?_⟩
        have hst : apStep (apartP (ps.take i)) p = apartP (ps.take i) := by
          unfold apStep
          rw [if_neg (by rw [c]; decide)]
        rw [apart_next hp, hst]
        exact al3
    · rintro σ' H2 ⟨v2, v3, ys, rfl, k2, e2, al⟩
      rw [hn, List.take_length] at al
      walk_at "S"
      exact q L H2 ys nL k2 e2 (al.less fun b m => nomatch m)
/-! ### without -/
def lack (w : Str) (p : Pr) : Bool := !(decide (w ∈ [p.1, p.2]))
def lackP (ps : List Pr) (w : Str) : List Pr := ps.filter (lack w)
def sp_without (K : PySem.W.Frag) : Sp := fun vs H Q _ => ∃ (a : Addr) (xs : List V) (ps : List Pr) (w : Str), vs = [.ref a, .str w] ∧ Sq K H a xs ∧ DtAll [] H xs (ps.map prD) ∧ ps.length ≤ 100 ∧
  ∀ l H' ys, H l = none → Kp [] H H' → H' l = some (.lst ys) → DtAll [] H' ys ((lackP ps w).map prD) → Q (.ref l) H'
abbrev s_without : Stmt := top 8
theorem sc_without : FnScope ["pairs", "word", "pair"] ["pairs", "word"] (defScope s_without) :=
  ⟨rfl, rfl, rfl, by decide +kernel, rfl, by decide +kernel, by decide +kernel⟩
theorem ok_without {f : Addr} {fd : FuncData} (F : Fun K "without" "without" s_without f fd) (T : Txt K mg C_Cover C_TooMany C_SilentswapsError) :
    FnOk P w K mg base CX0 2 f fd ["pairs", "word"] (sp_without K) := by
  refine F.ok sc_without (fun vs H Q E h => ?_) (fun cdv A outer s H vs Q E hr h => ?_)
  · obtain ⟨a, xs, ps, w', rfl, _⟩ := h
    rfl
  · obtain ⟨a, xs, ps, w', rfl, hS, hx, hl, q⟩ := h
    have hu := hu_of hr
    have hu64 := hr.units
    refine ⟨_, (pss_one (ps_ret (pe_lc (own := [("pair", 2)]) (by rfl) sc_without.nd (K_pis (K := K) rfl (pv 0)) (blkOk_by (own := [("pair", 2)]) (N := ["pairs", "word", "pair"]) (sc := defScope s_without) (by decide +kernel)) (fun _ _ _ _ _ => (pg_name (i := 2) sc_without.nd rfl (by first | exact Or.inl rfl | exact Or.inr rfl))) (fun _ _ _ _ _ => pts_one (pt_cmpR (K_notIn (K := K) rfl) (pv 1) (pv 2) (by with_unfolding_all rfl))) (fun _ _ _ _ _ => (pv 2))))), ?_⟩
    have big : 5000 ≤ sizeLine := by decide
    have hn : xs.length = ps.length := by rw [hx.length, List.length_map]
    walk_at "S"
    refine r_kLcQ (fun D i acc H' => Kp [] H H' ∧ DtAll [D] H' acc ((lackP (ps.take i) w').map prD)) hS (fun D H' _ k _ => ⟨k, .nil⟩) (fun D i acc H' _ h => h.1) ?_ ?_
    · rintro D i acc v H1 nD hv eD ⟨k1, al⟩
      obtain ⟨p, t, hp, rfl, _, et⟩ := pr_at hx hv
      have hi := lt_at hp
      have et1 := k1 _ _ et not_nil
      have hp1 : SqT K H1 t ([p.1, p.2].map V.str) := SqT.of et1
      have tD : t ≠ D := (ne_none et nD).symm
      have hlen : acc.length ≤ i := by
        rw [al.length, List.length_map]
        refine Nat.le_trans (List.length_filter_le _ _) ?_
        rw [List.length_take]
        omega
      have eq : (lackP (ps.take (i + 1)) w') = lackP (ps.take i) w' ++ (if lack w' p = true then [p] else []) := take_filter _ hp
      walk_at "S"
      refine r_ninT hp1 ?_
      walk_at "S"
      refine r_kKeep (fun c => ?_) (fun c => ?_)
      · walk_at "S"
        refine r_kApp eD (by omega) fun H2 k2 e2 => ⟨k1.step nD k2, ?_⟩
        have c' : lack w' p = true := c
        rw [eq, if_pos c', List.map_append]
        exact (al.mono k2).snoc (.tup (not_one tD) (k2 _ _ et1 (not_one tD)) (.cons (.str _) (.cons (.str _) .nil)))
      · refine ⟨acc, eD, k1, ?_⟩
        have c' : lack w' p = false := c
        rw [eq, c']
        simp only [Bool.false_eq_true, if_false, List.append_nil]
        exact al
    rintro D acc H1 nD eD ⟨k1, al⟩
    rw [hn, List.take_length] at al
    exact q D H1 acc nD k1 eD (al.less fun b m => nomatch m)

/-! ### paper_for -/
/-- the paper for less than n names -/
def pfD : Nat → List Pr → PyData
  | n, ps => if n ≤ (apartP ps).length then .tuple [.str "pairs", .tuple (((apartP ps).take n).map prD)] else match n, ps with
    | n + 1, p :: r => .tuple [.str "split", prD p, pfD n (lackP (p :: r) p.1), pfD n (lackP (p :: r) p.2)]
    | _, _ => .none
/-- no cover has fewer names -/
def NoCov (n : Nat) (ps : List Pr) : Prop := ∀ c, isCov ps c = true → n ≤ c.length
theorem cov_add {ps : List Pr} {w : Str} {c : List Str} (h : isCov (lackP ps w) c = true) : isCov ps (w :: c) = true := by
  unfold isCov at h ⊢
  rw [List.all_eq_true] at h ⊢
  intro p m
  unfold cov1
  cases e : lack w p with
  | true =>
    have z := h p (List.mem_filter.mpr ⟨m, e⟩)
    unfold cov1 at z
    rcases Bool.or_eq_true_iff.mp z with z | z
    · rw [decide_eq_true (List.mem_cons_of_mem _ (of_decide_eq_true z))]
      rfl
    · rw [decide_eq_true (List.mem_cons_of_mem w (of_decide_eq_true z))]
      exact Bool.or_true _
  | false =>
    unfold lack at e
    have z : w ∈ [p.1, p.2] := of_decide_eq_true (by
      cases q : decide (w ∈ [p.1, p.2]) with
      | true => rfl
      | false => rw [q] at e; cases e)
    rcases List.mem_cons.mp z with z | z
    · rw [decide_eq_true (show p.1 ∈ w :: c by rw [z]; exact List.mem_cons_self)]
      rfl
    · rw [decide_eq_true (show p.2 ∈ w :: c by rw [List.mem_singleton.mp z]; exact List.mem_cons_self)]
      exact Bool.or_true _
theorem NoCov.less {n : Nat} {ps : List Pr} (h : NoCov (n + 1) ps) (w : Str) : NoCov n (lackP ps w) := fun c hc => Nat.le_of_succ_le_succ (h _ (cov_add hc))
theorem NoCov.some {n : Nat} {ps : List Pr} (h : NoCov n ps) (hn : ¬ n ≤ (apartP ps).length) : ∃ m p r, n = m + 1 ∧ ps = p :: r := by
  cases ps with
  | nil =>
    have := h [] rfl
    exact absurd (Nat.le_trans this (Nat.zero_le _)) hn
  | cons p r =>
    cases n with
    | zero => exact absurd (Nat.zero_le _) hn
    | succ m => exact ⟨m, p, r, rfl, rfl⟩
theorem lackP_len (ps : List Pr) (w : Str) : (lackP ps w).length ≤ ps.length := List.length_filter_le _ _
theorem dt_take {ex : List Addr} {H : Hp} : ∀ {xs : List V} {ds : List PyData}, DtAll ex H xs ds → ∀ n, DtAll ex H (xs.take n) (ds.take n)
  | _, _, _, 0 => .nil
  | _, _, .nil, n + 1 => .nil
  | _, _, .cons h t, n + 1 => .cons h (dt_take t n)
def sp_paper_for (K : PySem.W.Frag) (d : Nat) : Sp := fun vs H Q _ => ∃ (a : Addr) (xs : List V) (ps : List Pr) (n : Nat), vs = [.ref a, .int ((n : Int) - 1)] ∧ SqL K H a xs ∧ DtAll [] H xs (ps.map prD) ∧ ps.length ≤ 100 ∧ n < d ∧ NoCov n ps ∧
  ∀ v H', Kp [] H H' → Dt [] H' v (pfD n ps) → Q v H'
abbrev s_paper_for : Stmt := top 9
theorem sc_paper_for : FnScope ["pairs", "budget", "rows", "first", "second", "one"] ["pairs", "budget"] (defScope s_paper_for) :=
  ⟨rfl, rfl, rfl, by decide +kernel, rfl, by decide +kernel, by decide +kernel⟩
theorem step_paper {d : Nat} {f : Addr} {fd : FuncData} (F : Fun K "paper_for" "paper_for" s_paper_for f fd) (T : Txt K mg C_Cover C_TooMany C_SilentswapsError) (U_apart : Use P w K mg base 2 "apart" ["pairs"] (sp_apart K)) (U_without : Use P w K mg base 2 "without" ["pairs", "word"] (sp_without K))
    (U_paper_for : Use P w K mg base (3 + d) "paper_for" ["pairs", "budget"] (sp_paper_for K d)) : FnOk P w K mg base CX0 (3 + (d + 1)) f fd ["pairs", "budget"] (sp_paper_for K (d + 1)) := by
  refine F.ok (k := 3 + d) sc_paper_for (fun vs H Q E h => ?_) (fun cdv A outer s H vs Q E hr h => ?_)
  · obtain ⟨a, xs, ps, n, rfl, _⟩ := h
    rfl
  · obtain ⟨a, xs, ps, n, rfl, hS, hx, hl, hd, hc, q⟩ := h
    have hu := hu_of hr
    have hu64 := hr.units
    refine ⟨_, (pss_cons (ps_set (i := 2) sc_paper_for.nd rfl (by first | exact Or.inl rfl | exact Or.inr rfl) (pe_use U_apart (hr.mono (by first | decide | omega)) (by rfl) (pa_cons (pv 0) pa_nil)))
        (pss_cons (ps_if (pt_cmpR op_gt (pe_callB (K_len (K := K) rfl) (by rfl) T.z_len (by decide +kernel) (pa_cons (pv 2) pa_nil)) (pv 1) (nomark _))
          (pss_one (ps_ret (pe_tup (pa_cons pe_str (pa_cons (pe_callTy (K_tuple (K := K) rfl) (by rfl) T.z_tuple (by decide +kernel) (pa_cons (pe_slice (K_slL (K := K) rfl) (pv 2) po_none (po_some (pe_op op_add (pv 1) pe_int))) pa_nil)) pa_nil)))))
          pss_nil)
        (pss_cons (ps_asg (pe_ix (K_ixL (K := K) rfl) (pv 0) pe_int (fun _ _ => rfl)) (K_gtup (K := K) (n := 2) rfl (by rfl) (pgs_cons (pg_name (i := 3) sc_paper_for.nd rfl (by first | exact Or.inl rfl | exact Or.inr rfl)) (pgs_cons (pg_name (i := 4) sc_paper_for.nd rfl (by first | exact Or.inl rfl | exact Or.inr rfl)) pgs_nil))))
        (pss_cons (ps_set (i := 5) sc_paper_for.nd rfl (by first | exact Or.inl rfl | exact Or.inr rfl) (pe_use U_paper_for (hr.mono (by first | decide | omega)) (by rfl) (pa_cons (pe_use U_without (hr.mono (by first | decide | omega)) (by rfl) (pa_cons (pv 0) (pa_cons (pv 3) pa_nil))) (pa_cons (pe_op op_sub (pv 1) pe_int) pa_nil))))
        (pss_one (ps_ret (pe_tup (pa_cons pe_str (pa_cons (pe_ix (K_ixL (K := K) rfl) (pv 0) pe_int (fun _ _ => rfl)) (pa_cons (pv 5) (pa_cons (pe_use U_paper_for (hr.mono (by first | decide | omega)) (by rfl) (pa_cons (pe_use U_without (hr.mono (by first | decide | omega)) (by rfl) (pa_cons (pv 0) (pa_cons (pv 4) pa_nil))) (pa_cons (pe_op op_sub (pv 1) pe_int) pa_nil))) pa_nil))))))))))), ?_⟩
    have big : 5000 ≤ sizeLine := by decide
    have hn : xs.length = ps.length := by rw [hx.length, List.length_map]
    walk_at "S"
    refine ⟨a, xs, ps, rfl, hS, hx, hl, fun l H1 ys nl k1 el al => ?_⟩
    have hy : ys.length = (apartP ps).length := by rw [al.length, List.length_map]
    walk_at "S"
    refine r_lenL (SqL.of el) ?_
    walk_at "S"
    refine r_kIfS (fun c => ?_) (fun c => ?_)
    all_goals walk_at "S"
    · have c' : n ≤ (apartP ps).length := by
        have := of_decide_eq_true c
        omega
      refine r_slL (SqL.of el) fun B H2 nB k2 eB => ?_
      rw [show (n : Int) - 1 + 1 = (n : Int) by omega, cut_to] at eB
      walk_at "S"
      refine r_tupleL (SqL.of eB) fun C H3 nC k3 eC => ?_
      walk_at "S"
      refine r_kTup (by show 2 ≤ sizeLine; omega) fun t H4 nt k4 et => ?_
      have e : pfD n ps = .tuple [.str "pairs", .tuple (((apartP ps).take n).map prD)] := by
        unfold pfD
        rw [if_pos c']
      refine q _ H4 (((k1.trans k2).trans k3).trans k4) ?_
      rw [e]
      refine .tup not_nil et (.cons (.str _) (.cons (.tup not_nil (k4 _ _ eC not_nil) ?_) .nil))
      rw [List.map_take]
      exact dt_take ((al.mono k2).mono (k3.trans k4)) n
    have c' : ¬ n ≤ (apartP ps).length := fun z => by
      have := of_decide_eq_false c
      omega
    obtain ⟨m, p, r, rfl, rfl⟩ := hc.some c'
    obtain ⟨v0, hv0⟩ : ∃ v0, xs[0]? = some v0 := by
      cases xs with
      | nil => cases hn
      | cons v xs => exact ⟨v, rfl⟩
    obtain ⟨p', t, hp, rfl, _, et⟩ := pr_at hx hv0
    cases hp
    have at0 : atI xs 0 = some (V.ref t) := atI_nat (j := 0) hv0
    refine r_ixL (k1.sql hS) at0 ?_
    refine r_gtup (SqT.of (k1 _ _ et not_nil)) rfl ?_
    walk_at "S"
    have hm : (((m + 1 : Nat) : Int) - 1) - 1 = (m : Int) - 1 := by omega
    refine ⟨a, xs, p :: r, p.1, rfl, .inl (k1.sql hS), hx.mono k1, hl, fun l2 H2 ys2 nl2 k2 el2 al2 => ?_⟩
    walk_at "S"
    rw [hm]
    have hl1 := Nat.le_trans (lackP_len (p :: r) p.1) hl
    refine ⟨l2, ys2, lackP (p :: r) p.1, m, rfl, SqL.of el2, al2, hl1, by omega, hc.less p.1, fun u H3 k3 du => ?_⟩
    walk_at "S"
    have k03 := (k1.trans k2).trans k3
    refine r_ixL (k03.sql hS) at0 ?_
    walk_at "S"
    refine ⟨a, xs, p :: r, p.2, rfl, .inl (k03.sql hS), hx.mono k03, hl, fun l4 H4 ys4 nl4 k4 el4 al4 => ?_⟩
    walk_at "S"
    rw [hm]
    have hl2 := Nat.le_trans (lackP_len (p :: r) p.2) hl
    refine ⟨l4, ys4, lackP (p :: r) p.2, m, rfl, SqL.of el4, al4, hl2, by omega, hc.less p.2, fun u2 H5 k5 du2 => ?_⟩
    walk_at "S"
    refine r_kTup (by show 4 ≤ sizeLine; omega) fun t6 H6 nt6 k6 et6 => ?_
    have k36 := (k4.trans k5).trans k6
    refine q _ H6 (k03.trans k36) ?_
    have e : pfD (m + 1) (p :: r) = .tuple [.str "split", prD p, pfD m (lackP (p :: r) p.1), pfD m (lackP (p :: r) p.2)] := by
      rw [pfD, if_neg c']
    rw [e]
    refine .tup not_nil et6 (.cons (.str _) (.cons (.tup not_nil ((k03.trans k36) _ _ et not_nil) (.cons (.str _) (.cons (.str _) .nil))) (.cons (du.mono k36) (.cons (du2.mono k6) .nil))))
theorem all_paper {f : Addr} {fd : FuncData} (F : Fun K "paper_for" "paper_for" s_paper_for f fd) (b : Binds K fd ["pairs", "budget"] []) (kp : PySem.W.keepIn K (.ref f) = true) (g : mg "paper_for" = some (.ref f)) (T : Txt K mg C_Cover C_TooMany C_SilentswapsError)
    (U_apart : Use P w K mg base 2 "apart" ["pairs"] (sp_apart K)) (U_without : Use P w K mg base 2 "without" ["pairs", "word"] (sp_without K)) : ∀ d, Use P w K mg base (3 + d) "paper_for" ["pairs", "budget"] (sp_paper_for K d)
  | 0 => by
    refine ⟨f, fd, ⟨fun vs H Q E h => ?_, fun A outer s H args us vs Q E _ _ _ _ h => ?_⟩, g, kp, b⟩
    all_goals
      obtain ⟨a, xs, ps, n, rfl, _, _, _, z, _⟩ := h
      exact absurd z (Nat.not_lt_zero _)
  | d + 1 => ⟨f, fd, step_paper F T U_apart U_without (all_paper F b kp g T U_apart U_without d), g, kp, b⟩

end
open PySem.W (dataLt dataLe)
/-! ### covers -/
def two (p : Pr) : List Str := [p.1, p.2]
def namesOf (ps : List Pr) : List Str := wordsOf (ps.map two)
theorem names_mem {ps : List Pr} {x : Str} : x ∈ namesOf ps ↔ ∃ p ∈ ps, x = p.1 ∨ x = p.2 := by
  unfold namesOf
  rw [wordsOf_mem]
  constructor
  · rintro ⟨d, md, hx⟩
    obtain ⟨p, mp, rfl⟩ := List.mem_map.mp md
    refine ⟨p, mp, ?_⟩
    rcases List.mem_cons.mp hx with e | e
    · exact .inl e
    · exact .inr (List.mem_singleton.mp e)
  · rintro ⟨p, mp, e⟩
    refine ⟨two p, List.mem_map.mpr ⟨p, mp, rfl⟩, ?_⟩
    rcases e with e | e
    · rw [e]
      exact List.mem_cons_self
    · rw [e]
      exact List.mem_cons_of_mem _ List.mem_cons_self
theorem nodup_le {α : Type} [DecidableEq α] : ∀ {a b : List α}, a.Nodup → (∀ z ∈ a, z ∈ b) → a.length ≤ b.length
  | [], _, _, _ => Nat.zero_le _
  | x :: a, b, h, s => by
    have hn := List.nodup_cons.mp h
    have hx := s x List.mem_cons_self
    have := nodup_le (b := b.erase x) hn.2 fun z m => (List.mem_erase_of_ne fun e => hn.1 (by rw [← e]; exact m)).mpr (s z (List.mem_cons_of_mem _ m))
    rw [List.length_erase_of_mem hx] at this
    have h0 := List.length_pos_of_mem hx
    rw [List.length_cons]
    omega
theorem cov1_iff {c : List Str} {p : Pr} : cov1 c p = true ↔ p.1 ∈ c ∨ p.2 ∈ c := by
  unfold cov1
  rw [Bool.or_eq_true, decide_eq_true_iff, decide_eq_true_iff]
theorem cov_iff {ps : List Pr} {c : List Str} : isCov ps c = true ↔ ∀ p ∈ ps, p.1 ∈ c ∨ p.2 ∈ c := by
  unfold isCov
  rw [List.all_eq_true]
  exact ⟨fun h p m => cov1_iff.mp (h p m), fun h p m => cov1_iff.mpr (h p m)⟩
theorem cov_same {ps qs : List Pr} (h : ∀ p, p ∈ ps ↔ p ∈ qs) (c : List Str) : isCov ps c = isCov qs c := by
  have : isCov ps c = true ↔ isCov qs c = true := by
    rw [cov_iff, cov_iff]
    exact ⟨fun z p m => z p ((h p).mpr m), fun z p m => z p ((h p).mp m)⟩
  cases e : isCov ps c with
  | true => exact (this.mp e).symm
  | false =>
    cases e' : isCov qs c with
    | false => rfl
    | true =>
      rw [this.mpr e'] at e
      cases e
def covs (ps : List Pr) (ws : List Str) (n : Nat) : List (List Str) := (subs ws n).filter (isCov ps)
theorem covs_iff {ps : List Pr} {ws c : List Str} {n : Nat} : c ∈ covs ps ws n ↔ c.Sublist ws ∧ c.length = n ∧ isCov ps c = true := by
  unfold covs
  rw [List.mem_filter, subs_iff, and_assoc]
/-- no cover among the names' subsets of fewer than n -/
def NoSub (ps : List Pr) (ws : List Str) (n : Nat) : Prop := ∀ k, k < n → covs ps ws k = []
/-- a cover, cut to the names -/
theorem cov_cut {ps : List Pr} {ws c : List Str} (hw : ∀ x, x ∈ ws ↔ ∃ p ∈ ps, x = p.1 ∨ x = p.2) (nd : ws.Nodup) (h : isCov ps c = true) : isCov ps (ws.filter fun x => decide (x ∈ c)) = true ∧ (ws.filter fun x => decide (x ∈ c)).length ≤ c.length := by
  refine ⟨cov_iff.mpr fun p m => ?_, nodup_le (nd.filter _) fun z m => of_decide_eq_true (List.mem_filter.mp m).2⟩
  rcases cov_iff.mp h p m with z | z
  · exact .inl (List.mem_filter.mpr ⟨(hw _).mpr ⟨p, m, .inl rfl⟩, decide_eq_true z⟩)
  · exact .inr (List.mem_filter.mpr ⟨(hw _).mpr ⟨p, m, .inr rfl⟩, decide_eq_true z⟩)
theorem NoSub.cov {ps : List Pr} {ws : List Str} {n : Nat} (hw : ∀ x, x ∈ ws ↔ ∃ p ∈ ps, x = p.1 ∨ x = p.2) (nd : ws.Nodup) (h : NoSub ps ws n) : NoCov n ps := fun c hc => by
  obtain ⟨h1, h2⟩ := cov_cut hw nd hc
  rcases Nat.lt_or_ge c.length n with z | z
  · exfalso
    have m : ws.filter (fun x => decide (x ∈ c)) ∈ covs ps ws (ws.filter fun x => decide (x ∈ c)).length := covs_iff.mpr ⟨List.filter_sublist, rfl, h1⟩
    rw [h _ (by omega)] at m
    cases m
  · exact z
theorem all_cov {ps : List Pr} {ws : List Str} (hw : ∀ x, x ∈ ws ↔ ∃ p ∈ ps, x = p.1 ∨ x = p.2) : ws ∈ covs ps ws ws.length := covs_iff.mpr ⟨List.Sublist.refl _, rfl, cov_iff.mpr fun p m => .inl ((hw _).mpr ⟨p, m, .inl rfl⟩)⟩
theorem NoSub.le {ps : List Pr} {ws : List Str} {n : Nat} (hw : ∀ x, x ∈ ws ↔ ∃ p ∈ ps, x = p.1 ∨ x = p.2) (h : NoSub ps ws n) : n ≤ ws.length := by
  rcases Nat.lt_or_ge ws.length n with z | z
  · have m := all_cov hw
    rw [h _ z] at m
    cases m
  · exact z
/-- what least_covers finds: the pairs in some order, each once; their names, ascending; the size -/
structure Found (ps qs : List Pr) (ws : List Str) (n : Nat) : Prop where
  same : ∀ p, p ∈ qs ↔ p ∈ ps
  few : qs.length ≤ 60
  names : ∀ x, x ∈ ws ↔ ∃ p ∈ qs, x = p.1 ∨ x = p.2
  sorted : ws.Pairwise fun a b => dataLt (.str b) (.str a) = false
  nd : ws.Nodup
  few8 : ws.length ≤ 8
  some : covs qs ws n ≠ []
  none : NoSub qs ws n

section
variable {P : Program} {w : World} {K : PySem.W.Frag} {mg : Str → Option Value} {base : Heap}
variable {C_Cover : Addr} {C_TooMany : Addr} {C_SilentswapsError : Addr}
local macro_rules | `(tactic| walk_at "s") => `(tactic| (first
  | (with_reducible refine r_seq ?_)
  | (with_reducible refine r_asg ?_)
  | ((with_reducible refine' r_var (v := ?v) ?hv ?_); (case hv => exact rfl))
  | (with_reducible refine r_c ?_)
  | (with_reducible refine r_name ?_)
  | (with_reducible refine r_op ?_)
  | (with_reducible refine r_un ?_)
  | (with_reducible refine r_consA ?_)
  | (with_reducible refine r_nilA ?_)
  | (with_reducible refine r_I0 ?_)
  | (with_reducible refine r_U ?_)
  | (with_reducible refine r_eqI ?_)
  | (with_reducible refine r_neI ?_)
  | (with_reducible refine r_test ?_)
  | (with_reducible refine r_tB ?_)
  | (with_reducible refine r_kB ?_)
  | (with_reducible refine r_ifS ?_)
  | (with_reducible refine r_if ?_)
  | (with_reducible refine r_and ?_)
  | (with_reducible refine r_or ?_)
  | (with_reducible refine r_not ?_)
  | (with_reducible refine r_ret ?_)
  | (with_reducible refine r_retN ?_)
  | (with_reducible refine r_next ?_)
  | (with_reducible refine r_drop ?_)
  | (with_reducible refine r_brk ?_)
  | (with_reducible refine r_cont ?_)
  | (with_reducible refine r_andV ?_)
  | (with_reducible refine r_orV ?_)
  | (with_reducible refine r_notV ?_)
  | (with_reducible refine r_kNotV ?_)
  | (with_reducible refine r_lst ?_)
  | (with_reducible refine r_tup ?_)
  | (with_reducible refine r_dget ?_)
  | (with_reducible refine r_dput ?_)
  | (with_reducible refine r_use ?_)
  | (with_reducible refine r_cb ?_)
  | (with_reducible refine r_par ?_)
  | (with_reducible refine r_int ?_)
  | (with_reducible refine r_abs ?_)
  | (with_reducible refine r_max2 ?_)
  | (with_reducible refine r_min2 ?_)
  | (with_reducible refine r_pnil ?_)
  | (with_reducible refine r_pcons ?_)
  | (with_reducible refine r_eqS ?_)
  | (with_reducible refine r_neS ?_)
  | (with_reducible refine r_for ?_)
  | (with_reducible refine r_rng1 ?_)
  | (with_reducible refine r_rng2 ?_)
  | (with_reducible refine r_wl ?_)
  | (with_reducible refine r_wt ?_)
  | (with_reducible refine r_wq ?_)
  | (with_reducible refine r_ws ?_)
  | (with_reducible refine r_cWS ?_)
  | (with_reducible refine r_enum ?_)
  | (with_reducible refine r_zip ?_)
  | (with_reducible refine r_lc ?_)
  | (with_reducible refine r_dc ?_)
  | ((with_reducible refine r_kTurn ?ht ?_); (case ht => rfl))
  | ((with_reducible refine r_kTurnD ?ht ?_); (case ht => rfl))
  | (with_reducible refine r_yes ?_)
  | ((with_reducible refine r_kKeep1 ?hk ?_); (case hk => rfl))
  | ((with_reducible refine r_kKeepD1 ?hk ?_); (case hk => rfl))
  | (with_reducible refine r_gcons ?_)
  | (with_reducible refine r_gnil ?_)
  | (with_reducible refine r_bm ?_)
  | (with_reducible refine r_bm0 ?_)
  | (with_reducible refine r_fld ?_)
  | (with_reducible refine r_sfld ?_)
  | (with_reducible refine r_methR ?_)
  | (with_reducible refine r_makeR ?_)
  | (with_reducible refine r_chain ?_)))
local macro_rules | `(tactic| walk_at "S") => `(tactic| repeat walk_at "s")
local macro_rules | `(tactic| walk_at "D") => `(tactic| repeat' (first
  | exact AD_nil
  | refine AD_cons ?_ (fun _ _ => ?_)
  | refine ED_tup ?_ (Nat.le_trans (m := 100) (Nat.le_of_ble_eq_true rfl) (by decide))
  | refine ED_lst ?_ (Nat.le_trans (m := 100) (Nat.le_of_ble_eq_true rfl) (by decide))
  | exact ED_c (by constructor)
  | exact ED_var rfl (by constructor)))
local macro_rules | `(tactic| walk_at "N") => `(tactic| repeat' (first
  | exact AN_nil
  | refine AN_cons ?_ (fun _ _ => ?_)
  | refine EN_tup ?_ (Nat.le_trans (m := 100) (Nat.le_of_ble_eq_true rfl) (by decide))
  | refine EN_lst ?_ (Nat.le_trans (m := 100) (Nat.le_of_ble_eq_true rfl) (by decide))
  | exact EN_c (fun _ => by constructor)
  | exact EN_var rfl (fun _ => by constructor)))

local macro_rules | `(tactic| walk_at "s") => `(tactic| (first
  | (with_reducible refine r_sl ?_)
  | (with_reducible refine r_kS1 ?_)
  | (with_reducible refine r_kS2 ?_)
  | (with_reducible refine r_kS3 ?_)
  | (with_reducible refine r_noPart ?_)
  | (with_reducible refine r_part ?_)
  | (with_reducible refine r_kPart ?_)
  | (with_reducible refine r_gsub ?_)
  | (with_reducible refine r_m1 ?_)
  | (with_reducible refine r_kM1 ?_)
  | (with_reducible refine r_propF ?_)
  | (with_reducible refine r_drp ?_)
  | (with_reducible refine r_min2S ?_)
  | (with_reducible refine r_max2S ?_)
  | (with_reducible refine r_enumS ?_)
  | (with_reducible refine r_cEnumS ?_)
  | (with_reducible refine r_makeKS ?_)
  | (with_reducible refine r_makeS ?_)))

local macro_rules | `(tactic| walk_at "s") => `(tactic| (first
  | (with_reducible refine r_mkV ?_)
  | (with_reducible refine r_ofl ?_)
  | (with_reducible refine r_methF ?_)
  | (with_reducible refine r_callF ?_)
  | (with_reducible refine r_star ?_)
  | (with_reducible refine r_smeth ?_)
  | (with_reducible refine r_kSMeth ?_)))

local macro_rules | `(tactic| walk_at "s") => `(tactic| (first
  | (with_reducible refine r_dcT ?_)
  | ((with_reducible refine r_kTurnT ?ht ?_); (case ht => rfl))
  | ((with_reducible refine r_kKeepT1 ?hk ?_); (case hk => rfl))
  | (with_reducible refine r_own ?_)
  | (with_reducible refine r_cmeth ?_)
  | (with_reducible refine r_kCMeth ?_)
  | (with_reducible refine r_makeS1 ?_)
  | ((with_reducible refine r_makeV ?hv ?_); (case hv => rfl))
  | (with_reducible refine r_isBl ?_)
  | (with_reducible refine r_ltS ?_)
  | (with_reducible refine r_makeW ?_)
  | (with_reducible refine r_kMakeW0 ?_)
  | (with_reducible refine r_lr1 ?_)
  | (with_reducible refine r_lc2 ?_)
  | ((with_reducible refine r_kTurn2 ?ht ?_); (case ht => rfl))
  | ((with_reducible refine r_kKeep2 ?hk ?_); (case hk => rfl))))

local macro_rules | `(tactic| walk_at "s") => `(tactic| (first
  | (with_reducible refine r_tTruOwn ?_)
  | (with_reducible refine r_notOwn ?_)
  | (with_reducible refine r_par3 ?_)))

local macro_rules | `(tactic| walk_at "s") => `(tactic| (first
  | (with_reducible refine Rd.r_join ?_)
  | (with_reducible refine r_jCons ?_)
  | (with_reducible refine r_jNil ?_)
  | (with_reducible refine r_fmt ?_)
  | (with_reducible refine r_lsItems ?_)
  | (with_reducible refine r_lsKeys ?_)
  | (with_reducible refine r_iKeys ?_)
  | (with_reducible refine r_revL ?_)))

local macro_rules | `(tactic| walk_at "s") => `(tactic| (first
  | ((with_reducible refine r_aug ?ha ?_); (case ha => rfl))
  | (with_reducible refine r_kAugI ?_)
  | (with_reducible refine r_delL ?_)
  | (with_reducible refine r_methX ?_)))

local macro_rules | `(tactic| walk_at "s") => `(tactic| (first
  | (with_reducible refine r_tupF ?_)
  | (with_reducible refine r_wordsL ?_)
  | (with_reducible refine r_wordsT ?_)
  | (with_reducible refine r_mT ?_)))

/-! ### Cover, least_covers -/
def cvF (x y : V) : List (Str × V) := putF "paper" y (putF "sets" x [])
theorem n_sp : ¬ (("sets" : Str) = "paper") := by decide +kernel
theorem cvF_s (x y : V) : (cvF x y).lookup ("sets" : Str) = some x := by
  unfold cvF
  rw [lookup_putF, if_neg n_sp, lookup_putF, if_pos rfl]
theorem cvF_p (x y : V) : (cvF x y).lookup ("paper" : Str) = some y := by
  unfold cvF
  rw [lookup_putF, if_pos rfl]
theorem cvF_no (x y : V) {m : Str} (h1 : ¬ m = "sets") (h2 : ¬ m = "paper") : (cvF x y).lookup m = none := by
  unfold cvF
  rw [lookup_putF, if_neg h2, lookup_putF, if_neg h1]
  rfl
def sp_Cover___init__ (_K : PySem.W.Frag) (C : Addr) : Sp := fun vs H Q _ => ∃ (a dx : Addr) (x y : V), vs = [.ref a, x, y] ∧ H a = some (.ins C dx []) ∧ ∀ H', Kp [a] H H' → H' a = some (.ins C dx (cvF x y)) → Q .non H'
abbrev s_Cover___init__ : Stmt := inClass (top 10) 0
theorem sc_Cover___init__ : FnScope ["self", "sets", "paper"] ["self", "sets", "paper"] (defScope s_Cover___init__) :=
  ⟨rfl, rfl, rfl, by decide +kernel, rfl, by decide +kernel, by decide +kernel⟩
theorem ok_Cover___init__ {f : Addr} {fd : FuncData} (F : Fun K "__init__" "Cover.__init__" s_Cover___init__ f fd) (T : Txt K mg C_Cover C_TooMany C_SilentswapsError) :
    FnOk P w K mg base CX0 2 f fd ["self", "sets", "paper"] (sp_Cover___init__ K C_Cover) := by
  refine F.ok sc_Cover___init__ (fun vs H Q E h => ?_) (fun cdv A outer s H vs Q E hr h => ?_)
  · obtain ⟨a, dx, x, y, rfl, _⟩ := h
    rfl
  · obtain ⟨a, dx, x, y, rfl, ea, q⟩ := h
    have hu := hu_of hr
    have hu64 := hr.units
    refine ⟨_, (pss_cons (ps_fld (pv 0) (pv 1) rfl)
        (pss_one (ps_fld (pv 0) (pv 2) rfl))), ?_⟩
    walk_at "S"
    refine r_kSF ea T.c_Cover T.na_Cover_sets (by decide : 0 < 1000) fun H2 k2 e2 => ?_
    walk_at "S"
    refine r_kSF e2 T.c_Cover T.na_Cover_paper (by
      have := length_putF "sets" x []
      rw [List.length_nil] at this
      omega) fun H3 k3 e3 => ?_
    exact q H3 (k2.trans k3) e3
/-- the cover at c: its sets (rows), its paper -/
def CovAt (K : PySem.W.Frag) (C : Addr) (H : Hp) (c : Addr) (R : List (List Str)) (pd : PyData) : Prop := ∃ dx s pv xs, H c = some (.ins C dx (cvF (.ref s) pv)) ∧ H s = some (.lst xs) ∧ Rows K H xs R ∧ Dt [] H pv pd
theorem CovAt.kp {K : PySem.W.Frag} {C : Addr} {H H' : Hp} {c : Addr} {R : List (List Str)} {pd : PyData} (h : CovAt K C H c R pd) (k : Kp [] H H') : CovAt K C H' c R pd := by
  obtain ⟨dx, s, pv, xs, h1, h2, h3, h4⟩ := h
  exact ⟨dx, s, pv, xs, k _ _ h1 not_nil, k _ _ h2 not_nil, h3.kp k, h4.mono k⟩
/-- the same, the list of the sets is new since H0 -/
def CovF (K : PySem.W.Frag) (C : Addr) (H0 H : Hp) (c : Addr) (R : List (List Str)) (pd : PyData) : Prop := ∃ dx s pv xs, H c = some (.ins C dx (cvF (.ref s) pv)) ∧ H s = some (.lst xs) ∧ Rows K H xs R ∧ Dt [] H pv pd ∧ H0 s = none
theorem CovF.at {K : PySem.W.Frag} {C : Addr} {H0 H : Hp} {c : Addr} {R : List (List Str)} {pd : PyData} (h : CovF K C H0 H c R pd) : CovAt K C H c R pd := let ⟨dx, s, pv, xs, h1, h2, h3, h4, _⟩ := h; ⟨dx, s, pv, xs, h1, h2, h3, h4⟩
def sp_Cover___len__ (K : PySem.W.Frag) (C : Addr) : Sp := fun vs H Q _ => ∃ (c : Addr) (R : List (List Str)) (r : List Str) (pd : PyData), vs = [.ref c] ∧ CovAt K C H c R pd ∧ R[0]? = some r ∧ Q (.int (r.length : Nat)) H
abbrev s_Cover___len__ : Stmt := inClass (top 10) 1
theorem sc_Cover___len__ : FnScope ["self"] ["self"] (defScope s_Cover___len__) :=
  ⟨rfl, rfl, rfl, by decide +kernel, rfl, by decide +kernel, by decide +kernel⟩
theorem ok_Cover___len__ {f : Addr} {fd : FuncData} (F : Fun K "__len__" "Cover.__len__" s_Cover___len__ f fd) (T : Txt K mg C_Cover C_TooMany C_SilentswapsError) :
    FnOk P w K mg base CX0 2 f fd ["self"] (sp_Cover___len__ K C_Cover) := by
  refine F.ok sc_Cover___len__ (fun vs H Q E h => ?_) (fun cdv A outer s H vs Q E hr h => ?_)
  · obtain ⟨c, R, r, pd, rfl, _⟩ := h
    rfl
  · obtain ⟨c, R, r, pd, rfl, hC, hr0, q⟩ := h
    have hu := hu_of hr
    have hu64 := hr.units
    refine ⟨_, (pss_one (ps_ret (pe_callB (K_len (K := K) rfl) (by rfl) T.z_len (by decide +kernel) (pa_cons (pe_ix (K_ixL (K := K) rfl) (K_fld (K := K) rfl (pv 0) rfl) pe_int (fun _ _ => rfl)) pa_nil)))), ?_⟩
    obtain ⟨dx, s, pv, xs, h1, h2, h3, h4⟩ := hC
    obtain ⟨v, hv⟩ : ∃ v, xs[0]? = some v := by
      have e := h3.length
      have := lt_at hr0
      exact ⟨xs[0], List.getElem?_eq_getElem (by omega)⟩
    obtain ⟨t, r', rfl, hr', row⟩ := h3.at hv
    rw [hr0] at hr'
    cases hr'
    walk_at "S"
    refine r_kFld h1 T.c_Cover T.na_Cover_sets (cvF_s _ _) ?_
    walk_at "S"
    refine r_ixL (SqL.of h2) (atI_nat (j := 0) hv) ?_
    walk_at "S"
    refine r_lenT row.1 ?_
    rw [List.length_map]
    exact q
theorem pr_tps {H : Hp} : ∀ {xs : List V} {ps : List Pr}, DtAll [] H xs (ps.map prD) → ∃ ks : TpL, xs = ks.map (fun p => V.ref p.1) ∧ ks.map (·.2) = ps.map two ∧ ∀ q ∈ ks, H q.1 = some (.tup (q.2.map V.str))
  | [], [], _ => ⟨[], rfl, rfl, nofun⟩
  | [], _ :: _, h => by cases h
  | _ :: _, [], h => by cases h
  | v :: xs, p :: ps, h => by
    cases h with
    | cons h1 h2 =>
      obtain ⟨a, rfl, _, e⟩ := Dt.pr h1
      obtain ⟨ks, rfl, e2, e3⟩ := pr_tps h2
      refine ⟨(a, two p) :: ks, rfl, congrArg (two p :: ·) e2, fun q m => ?_⟩
      rcases List.mem_cons.mp m with z | z
      · rw [z]
        exact e
      · exact e3 q z
theorem tps_pr {H : Hp} : ∀ {ks : TpL}, (∀ q ∈ ks, (∃ p, q.2 = two p) ∧ H q.1 = some (.tup (q.2.map V.str))) → ∃ qs : List Pr, ks.map (·.2) = qs.map two ∧ DtAll [] H (ks.map fun p => V.ref p.1) (qs.map prD)
  | [], _ => ⟨[], rfl, .nil⟩
  | q :: ks, h => by
    obtain ⟨⟨p, hp⟩, e⟩ := h q List.mem_cons_self
    obtain ⟨qs, e2, al⟩ := tps_pr fun q' m => h q' (List.mem_cons_of_mem _ m)
    rw [hp] at e
    exact ⟨p :: qs, by rw [List.map_cons, List.map_cons, hp, e2], .cons (.tup not_nil e (.cons (.str _) (.cons (.str _) .nil))) al⟩
theorem two_inj {p q : Pr} (h : two p = two q) : p = q := by
  obtain ⟨a, b⟩ := p
  obtain ⟨c, d⟩ := q
  injection h with h1 h2
  injection h2 with h2 _
  have h1 : a = c := h1
  have h2 : b = d := h2
  rw [h1, h2]
theorem two_data (qs : List Pr) : (qs.map two).map (fun d => PyData.tuple (d.map .str)) = qs.map prD := by
  rw [List.map_map]
  rfl
theorem flat_two : ∀ qs : List Pr, (qs.map two).flatten.length = 2 * qs.length
  | [] => rfl
  | q :: qs => by
    have := flat_two qs
    show (two q ++ (qs.map two).flatten).length = 2 * (qs.length + 1)
    rw [List.length_append, this]
    show 2 + _ = _
    omega
theorem r_setTp {P : Program} {w : World} {K : PySem.W.Frag} {H : Hp} {Q : VK} {l : Addr} {ks : TpL} (h : SqL K H l (ks.map fun p => V.ref p.1)) (hk : ∀ p ∈ ks, SqT K H p.1 (p.2.map V.str)) (hf : ks.length < 64)
    (q : ∀ a L H', H a = none → Kp [] H H' → H' a = some (TpO P w a L) → (∀ p ∈ L, p ∈ ks) → (∀ p ∈ ks, p.2 ∈ L.map (·.2)) → (L.map (·.2)).Nodup → Q (.ref a) H') : rSetTp P K w [.ref l] H Q :=
  ⟨l, ks, rfl, h, hk, hf, fun a L n h1 h2 h3 => q a L _ n (Kp.new n) upd_same h1 h2 h3⟩
theorem r_sortTp {P : Program} {w : World} {K : PySem.W.Frag} {H : Hp} {Q : VK} {a : Addr} {L : TpL} (h : H a = some (TpO P w a L)) (hk : ∀ p ∈ L, p.2 ≠ [] ∧ SqT K H p.1 (p.2.map V.str))
    (q : ∀ (L' : TpL) l H', L'.Perm L → (L.map (·.2)).Nodup → L.length < 64 → H l = none → Kp [] H H' → H' l = some (.lst (L'.map fun p => V.ref p.1)) → Q (.ref l) H') : rSortTp P K w [.ref a] H Q :=
  ⟨a, L, rfl, h, hk, fun L' l p nd f n => q L' l _ p nd f n (Kp.new n) upd_same⟩
def NamesOk (ps : List Pr) : Prop := ∀ p ∈ ps, PyData.strOk p.1 = true ∧ PyData.strOk p.2 = true
theorem srtT_pw (ks : List Str) : (srtT ks).Pairwise fun a b => dataLt (.str b) (.str a) = false := by
  have h := PySem.W.sort_pairwise (PySem.W.sortLe_total (PyProof.Rows.listOrd PyProof.Rows.itemOrd) false fun b : Str => PySem.W.keyToks (.str b)) ks
  refine List.Pairwise.imp (fun {a b} z => ?_) h
  have z' : (!dataLt (.str b) (.str a)) = true := z
  simpa using z'
theorem r_while {tc : TT} {tb : TS} {D : Ends} {σ : St} {H : Hp} (W : Nat → St → Hp → Prop) (m : Nat) (h0 : W m σ H)
    (hs : ∀ m σ H, W m σ H → tc σ H fun b H1 => if b = true then ∃ N : St → Hp → Prop, (∀ σ' H', N σ' H' → ∃ m', m' < m ∧ W m' σ' H') ∧ tb { D with nx := N, ct := N, bk := D.nx } σ H1 else D.nx σ H1) : tWhile tc tb D σ H := ⟨W, ⟨m, h0⟩, hs⟩
def kWh (m : Nat) (W : Nat → St → Hp → Prop) (tb : TS) (D : Ends) (σ : St) : Bool → Hp → Prop := fun b H1 => if b = true then ∃ N : St → Hp → Prop, (∀ σ' H', N σ' H' → ∃ m', m' < m ∧ W m' σ' H') ∧ tb { D with nx := N, ct := N, bk := D.nx } σ H1 else D.nx σ H1
theorem r_kWh {m : Nat} {W : Nat → St → Hp → Prop} {tb : TS} {D : Ends} {σ : St} {H : Hp} {b : Bool} (N : St → Hp → Prop) (h1 : b = true → (∀ σ' H', N σ' H' → ∃ m', m' < m ∧ W m' σ' H') ∧ tb { D with nx := N, ct := N, bk := D.nx } σ H) (h2 : b = false → D.nx σ H) : kWh m W tb D σ b H := by
  unfold kWh
  cases b
  · exact h2 rfl
  · exact ⟨N, h1 rfl⟩
theorem r_whileK {tc : TT} {tb : TS} {D : Ends} {σ : St} {H : Hp} (W : Nat → St → Hp → Prop) (m : Nat) (h0 : W m σ H) (hs : ∀ m σ H, W m σ H → tc σ H (kWh m W tb D σ)) : tWhile tc tb D σ H := ⟨W, ⟨m, h0⟩, hs⟩
def WInv (K : PySem.W.Frag) (B W : Addr) (H00 H0 : Hp) (qs : List Pr) (ws : List Str) (n : Nat) (σ : St) (H' : Hp) : Prop := ∃ (v1 v2 v6 : Option V) (s : Addr) (xs : List V) (R : List (List Str)), σ = [some (.ref B), v1, v2, some (.ref W), some (.ref s), some (.int (n : Int)), v6] ∧ Kp [] H0 H' ∧ H' s = some (.lst xs) ∧ Rows K H' xs R ∧ H00 s = none ∧ n ≤ 9 ∧
  ((R = [] ∧ NoSub qs ws n) ∨ ∃ n', n = n' + 1 ∧ R = covs qs ws n' ∧ R ≠ [] ∧ NoSub qs ws n')
/-- the names are few: the covers; else TooMany of words -/
def sp_least_covers (K : PySem.W.Frag) (C CB : Addr) : Sp := fun vs H Q E => ∃ (a : Addr) (xs : List V) (ps : List Pr), vs = [.ref a] ∧ Sq K H a xs ∧ DtAll [] H xs (ps.map prD) ∧ ps.length ≤ 60 ∧ NamesOk ps ∧
  ((namesOf ps).length ≤ 8 → ∀ c qs ws n H', H c = none → Kp [] H H' → CovF K C H H' c (covs qs ws n) (pfD n qs) → Found ps qs ws n → Q (.ref c) H') ∧
  (8 < (namesOf ps).length → ∀ e H', H e = none → Kp [] H H' → H' e = some (.xd [("what", .str "words")]) → E (.ref CB) (some e) H')
abbrev s_least_covers : Stmt := top 11
theorem sc_least_covers : FnScope ["pairs", "pair", "word", "words", "sets", "size", "chosen"] ["pairs"] (defScope s_least_covers) :=
  ⟨rfl, rfl, rfl, by decide +kernel, rfl, by decide +kernel, by decide +kernel⟩
theorem ok_least_covers {f : Addr} {fd : FuncData} (F : Fun K "least_covers" "least_covers" s_least_covers f fd) (T : Txt K mg C_Cover C_TooMany C_SilentswapsError) (U_subsets_of : Use P w K mg base 11 "subsets_of" ["words", "size"] (sp_subsets_of K 9)) (U_is_cover : Use P w K mg base 2 "is_cover" ["pairs", "words"] (sp_is_cover K)) (U_paper_for : Use P w K mg base 12 "paper_for" ["pairs", "budget"] (sp_paper_for K 9)) (U_Cover___init__ : UseC P w K mg base 2 "Cover" C_Cover (sp_Cover___init__ K C_Cover)) (U_TooMany : Exc1 P w K mg base 1 "TooMany" "what" C_TooMany) :
    FnOk P w K mg base (L2.CX P w) 14 f fd ["pairs"] (sp_least_covers K C_Cover C_TooMany) := by
  refine F.okX sc_least_covers (fun vs H Q E h => ?_) (fun cdv A outer s H vs Q E hr h => ?_)
  · obtain ⟨a, xs, ps, rfl, _⟩ := h
    rfl
  · obtain ⟨a, xs, ps, rfl, hS, hx, hl, hok, q, qx⟩ := h
    obtain ⟨f_Cover___init__, R_Cover___init__, M_Cover___init__, g_Cover___init__⟩ := U_Cover___init__
    have hu := hu_of hr
    have hu64 := hr.units
    refine ⟨_, (pss_cons (ps_set (i := 0) sc_least_covers.nd rfl (by first | exact Or.inl rfl | exact Or.inr rfl) (pe_callB (K_sortTp (P := P) (K := K) (w := w) rfl rfl rfl rfl hu64) (by rfl) T.z_sorted (by decide +kernel) (pa_cons (pe_callTy (K_setTp (P := P) (K := K) (w := w) rfl rfl rfl rfl hu64) (by rfl) T.z_set (by decide +kernel) (pa_cons (pe_lc (own := [("pair", 1)]) (by rfl) sc_least_covers.nd (K_pis (K := K) rfl (pv 0)) (blkOk_by (own := [("pair", 1)]) (N := ["pairs", "pair", "word", "words", "sets", "size", "chosen"]) (sc := defScope s_least_covers) (by decide +kernel)) (fun _ _ _ _ _ => (pg_name (i := 1) sc_least_covers.nd rfl (by first | exact Or.inl rfl | exact Or.inr rfl))) (fun _ _ _ _ _ => pts_nil) (fun _ _ _ _ _ => (pe_callTy (K_tuple (K := K) rfl) (by rfl) T.z_tuple (by decide +kernel) (pa_cons (pv 1) pa_nil)))) pa_nil)) pa_nil)))
        (pss_cons (ps_set (i := 3) sc_least_covers.nd rfl (by first | exact Or.inl rfl | exact Or.inr rfl) (pe_callB (K_sortTx (w := w) rfl rfl hu64) (by rfl) T.z_sorted (by decide +kernel) (pa_cons (pe_sc2 (w := w) rfl (own := [("pair", 1), ("word", 2)]) (vs1 := [2]) (by rfl) sc_least_covers.nd (K_pil (K := K) rfl (pv 0)) (blkOk_by (own := [("pair", 1), ("word", 2)]) (N := ["pairs", "pair", "word", "words", "sets", "size", "chosen"]) (sc := defScope s_least_covers) (by decide +kernel)) (by decide) (fun _ _ _ _ _ => (pg_name (i := 1) sc_least_covers.nd rfl (by first | exact Or.inl rfl | exact Or.inr rfl))) (fun _ _ _ _ _ => (K_pit (K := K) rfl (pv 1))) (fun _ _ _ _ _ => (pg_name (i := 2) sc_least_covers.nd rfl (by first | exact Or.inl rfl | exact Or.inr rfl))) (fun _ _ _ _ _ => (pv 2))) pa_nil)))
        (pss_cons (ps_if (pt_cmpR op_gt (pe_callB (K_len (K := K) rfl) (by rfl) T.z_len (by decide +kernel) (pa_cons (pv 3) pa_nil)) (pe_globE T.g_MOST_WORDS (by rfl)) (nomark _))
          (pss_one (ps_raise1 U_TooMany (hr.mono (by first | decide | omega)) (by rfl) (takes_of rfl rfl rfl rfl) (by rfl) (pa_cons pe_str pa_nil)))
          pss_nil)
        (pss_cons (ps_par (i := 4) (j := 5) (by rfl) sc_least_covers.nd rfl rfl (by decide) rfl rfl (pa_cons (pe_lst pa_nil) (pa_cons pe_int pa_nil)) (by rfl))
        (pss_cons (ps_while (passes_of rfl) (pt_cmpR (K_eqD (K := K) rfl hu64) (pv 4) (pe_lst pa_nil) (nomark _))
          (pss_cons (ps_setLc (i := 4) (own := [("chosen", 6)]) (by rfl) sc_least_covers.nd rfl rfl (sw_true rfl rfl rfl (by decide +kernel)) (K_pil (K := K) rfl (pe_use U_subsets_of (hr.mono (by first | decide | omega)) (by rfl) (pa_cons (pv 3) (pa_cons (pv 5) pa_nil)))) (blkOk_by (own := [("chosen", 6)]) (N := ["pairs", "pair", "word", "words", "sets", "size", "chosen"]) (sc := defScope s_least_covers) (by decide +kernel)) (fun _ _ _ _ _ => (pg_name (i := 6) sc_least_covers.nd rfl (by first | exact Or.inl rfl | exact Or.inr rfl))) (fun _ _ _ _ _ => pts_one (pt_val (pe_use U_is_cover (hr.mono (by first | decide | omega)) (by rfl) (pa_cons (pv 0) (pa_cons (pv 6) pa_nil))))) (fun _ _ _ _ _ => (pv 6)))
          (pss_one (ps_aug (i := 5) sc_least_covers.nd rfl (by first | exact Or.inl rfl | exact Or.inr rfl) pe_int ip_add))))
        (pss_one (ps_ret (pe_makeR M_Cover___init__ R_Cover___init__ (hr.mono (by first | decide | omega)) (by rfl) g_Cover___init__ pass0 (pa_cons (pv 4) (pa_cons (pe_use U_paper_for (hr.mono (by first | decide | omega)) (by rfl) (pa_cons (pv 0) (pa_cons (pe_op op_sub (pe_callB (K_len (K := K) rfl) (by rfl) T.z_len (by decide +kernel) (pa_cons (pe_ix (K_ixL (K := K) rfl) (pv 4) pe_int (fun _ _ => rfl)) pa_nil)) pe_int) pa_nil))) pa_nil)))))))))), ?_⟩
    have sb : 200 < scanBound := by decide
    have big : 5000 ≤ sizeLine := by decide
    have hn : xs.length = ps.length := by rw [hx.length, List.length_map]
    walk_at "S"
    refine r_kLcQ (fun D i acc H' => Kp [] H H' ∧ acc = xs.take i) hS (fun D H' _ k _ => ⟨k, rfl⟩) (fun D i acc H' _ h => h.1) ?_ ?_
    · rintro D i acc v H1 nD hv eD ⟨k1, rfl⟩
      obtain ⟨p, t, hp, rfl, _, et⟩ := pr_at hx hv
      have hi := lt_at hv
      walk_at "S"
      refine r_tupleT (SqT.of (k1 _ _ et not_nil)) ?_
      refine r_kApp eD (by rw [List.length_take]; omega) fun H2 k2 e2 => ⟨k1.step nD k2, ?_⟩
      exact (take_more hv).symm
    rintro D acc H1 nD eD ⟨k1, rfl⟩
    rw [List.take_length] at eD
    walk_at "S"
    obtain ⟨ks, rfl, eks, hks⟩ := pr_tps (hx.mono k1)
    have hkl : ks.length = ps.length := by
      have := congrArg List.length eks
      rw [List.length_map, List.length_map] at this
      exact this
    refine r_setTp (SqL.of eD) (fun q m => SqT.of (hks q m)) (by omega) fun A L H2 nA k2 eA hL1 hL2 hL3 => ?_
    walk_at "S"
    have isTwo : ∀ q ∈ ks, ∃ p, q.2 = two p := fun q m => by
      have : q.2 ∈ ks.map (·.2) := List.mem_map.mpr ⟨q, m, rfl⟩
      rw [eks] at this
      obtain ⟨p, _, e⟩ := List.mem_map.mp this
      exact ⟨p, e.symm⟩
    refine r_sortTp eA (fun q m => ⟨fun z => ?_, SqT.of (k2 _ _ (hks q (hL1 q m)) not_nil)⟩) fun L' B H3 pm nd few nB k3 eB => ?_
    · obtain ⟨p, e⟩ := isTwo q (hL1 q m)
      rw [e] at z
      cases z
    have k13 := k2.trans k3
    obtain ⟨qs, eqs, hqs⟩ := tps_pr (H := H3) (ks := L') fun q m => ⟨isTwo q (hL1 q (pm.mem_iff.mp m)), k13 _ _ (hks q (hL1 q (pm.mem_iff.mp m))) not_nil⟩
    have same : ∀ p, p ∈ qs ↔ p ∈ ps := fun p => by
      have h1 : two p ∈ qs.map two ↔ p ∈ qs := ⟨fun z => by
        obtain ⟨q, m, e⟩ := List.mem_map.mp z
        rw [← two_inj e]
        exact m, fun z => List.mem_map.mpr ⟨p, z, rfl⟩⟩
      have h2 : two p ∈ ps.map two ↔ p ∈ ps := ⟨fun z => by
        obtain ⟨q, m, e⟩ := List.mem_map.mp z
        rw [← two_inj e]
        exact m, fun z => List.mem_map.mpr ⟨p, z, rfl⟩⟩
      rw [← h1, ← h2, ← eqs, ← eks, (pm.map (·.2)).mem_iff]
      constructor
      · intro z
        obtain ⟨q, m, e⟩ := List.mem_map.mp z
        exact List.mem_map.mpr ⟨q, hL1 q m, e⟩
      · intro z
        obtain ⟨q, m, e⟩ := List.mem_map.mp z
        rw [← e]
        exact hL2 q m
    have fewq : qs.length ≤ 60 := by
      have h1 : qs.length = L.length := by
        have := congrArg List.length eqs
        rw [List.length_map, List.length_map, pm.length_eq] at this
        exact this.symm
      have h2 : L.length ≤ ks.length := by
        have := nodup_le (a := L.map (·.2)) (b := ks.map (·.2)) nd fun z m => by
          obtain ⟨q, m, e⟩ := List.mem_map.mp m
          exact List.mem_map.mpr ⟨q, hL1 q m, e⟩
        rw [List.length_map, List.length_map] at this
        exact this
      omega
    walk_at "S"
    refine r_cWL (SqL.of eB) ?_
    refine r_kWordsL (K := K) (ds := qs.map two) (SqL.of eB) (by rw [two_data]; exact hqs) (by rw [flat_two]; omega) fun D2 H4 nD2 k4 eD2 => ?_
    walk_at "S"
    refine r_sortTx eD2 fun cs W H5 pcs ndc nW k5 eW => ?_
    walk_at "S"
    have wmem : ∀ x, x ∈ srtT cs ↔ ∃ p ∈ qs, x = p.1 ∨ x = p.2 := fun x => by
      rw [(srtT_perm cs).mem_iff, pcs.mem_iff]
      exact names_mem
    have wnd : (srtT cs).Nodup := ((srtT_perm cs).trans pcs).nodup_iff.mpr ndc
    have wn : (srtT cs).length = (namesOf ps).length := by
      refine Nat.le_antisymm (nodup_le wnd fun z m => ?_) (nodup_le (wordsOf_nodup _) fun z m => ?_)
      · rw [names_mem]
        obtain ⟨p, m, e⟩ := (wmem z).mp m
        exact ⟨p, (same p).mp m, e⟩
      · obtain ⟨p, m, e⟩ := names_mem.mp m
        exact (wmem z).mpr ⟨p, (same p).mpr m, e⟩
    have wsort : (srtT cs).Pairwise fun a b => dataLt (.str b) (.str a) = false := srtT_pw cs
    have wok : ∀ x ∈ srtT cs, PyData.strOk x = true := fun x m => by
      obtain ⟨p, mp, e⟩ := (wmem x).mp m
      have := hok p ((same p).mp mp)
      rcases e with e | e
      · rw [e]
        exact this.1
      · rw [e]
        exact this.2
    generalize srtT cs = ws at eW wmem wnd wn wsort wok
    refine r_lenL (SqL.of eW) ?_
    walk_at "S"
    refine r_kIfS (fun c => ?_) (fun c => ?_)
    · rw [List.length_map] at c
      have c := of_decide_eq_true c
      refine r_raise1 ?_
      walk_at "S"
      refine r_kMkO fun e H' ne k eE => qx (by omega) e H' ((((k1.trans k13).trans k4).trans k5).free ne not_nil) ((((k1.trans k13).trans k4).trans k5).trans k) eE
    have w8 : ws.length ≤ 8 := by
      rw [List.length_map] at c
      have := of_decide_eq_false c
      omega
    have q := q (by omega)
    walk_at "S"
    refine r_kLst (xs := []) (Nat.zero_le _) fun S H6 nS k6 eS => ?_
    walk_at "S"
    refine ⟨_, _, rfl, ?_⟩
    walk_at "S"
    have nS0 : H S = none := ((((k1.trans k13).trans k4).trans k5)).free nS not_nil
    have kH6 := ((((k1.trans k13).trans k4).trans k5).trans k6)
    have kB6 := (k4.trans k5).trans k6
    have dsh : ∀ (R : List (List Str)), (∀ c ∈ R, ∀ x ∈ c, x ∈ ws) → Shp 2 (.list (R.map fun c => .tuple (c.map .str))) := fun R h => Shp.list (n := 1) fun d m => by
      obtain ⟨c, mc, rfl⟩ := List.mem_map.mp m
      refine Shp.tuple (n := 0) fun e me => ?_
      obtain ⟨x, mx, rfl⟩ := List.mem_map.mp me
      exact Shp.str (wok x (h c mc x mx)) 0
    refine r_whileK (fun m σ' H' => ∃ n, m = 10 - n ∧ WInv K B W H H6 qs ws n σ' H') 10 ⟨0, rfl, _, _, _, S, [], [], rfl, Kp.refl _ _, eS, .nil, nS0, by decide, .inl ⟨rfl, fun k hk => absurd hk (Nat.not_lt_zero _)⟩⟩ ?_
    rintro m σ' H7 ⟨n, rfl, v1, v2, v6, s, xs, R, rfl, k7, es, rR, s0, hn9, hinv⟩
    walk_at "S"
    refine r_kLst (xs := []) (Nat.zero_le _) fun Z H8 nZ k8 eZ => ?_
    have es8 := k8 _ _ es not_nil
    have rR8 := rR.kp k8
    have hR : ∀ c ∈ R, ∀ x ∈ c, x ∈ ws := fun c mc x mx => by
      rcases hinv with ⟨e, _⟩ | ⟨n', _, e, _⟩
      · rw [e] at mc
        cases mc
      · rw [e] at mc
        exact (covs_iff.mp mc).1.subset mx
    refine ⟨.list (R.map fun c => .tuple (c.map .str)), .list [], .lst (SqL.of es8) rR8.dp, .lst (SqL.of eZ) .nil, (dsh R hR).ok (by decide), (dsh [] nofun).ok (by decide), ?_⟩
    have eqe : PyData.eqv (.list (R.map fun c => .tuple (c.map .str))) (.list []) = decide (R = []) := by
      cases R with
      | nil => rfl
      | cons c R => rw [decide_eq_false (fun z => nomatch z)]; rfl
    rw [eqe]
    walk_at "S"
    refine r_kWh (WInv K B W H H6 qs ws (n + 1)) (fun c => ⟨fun σ' H' h => ⟨10 - (n + 1), by omega, n + 1, rfl, h⟩, ?_⟩) (fun c => ?_)
    · have eR : R = [] := of_decide_eq_true c
      have hns : NoSub qs ws n := by
        rcases hinv with ⟨_, h⟩ | ⟨_, _, _, h, _⟩
        · exact h
        · exact absurd eR h
      have hnw := hns.le wmem
      have k68 := k7.trans k8
      have eW8 := (k6.trans k68) _ _ eW not_nil
      walk_at "S"
      refine ⟨W, ws, n, rfl, SqL.of eW8, by omega, w8, fun l H9 ys nl k9 el rl => ?_⟩
      have k69 := k68.trans k9
      refine r_cWL (SqL.of el) ?_
      refine r_kLcL (fun D i acc H' => Kp [] H9 H' ∧ Rows K H' acc (((subs ws n).take i).filter (isCov qs))) (fun D H' _ k _ => ⟨k, .nil⟩) (fun D i acc H' _ h => h.1.sql (SqL.of el)) ?_ ?_
      · rintro D i acc v Ha nD hv eD ⟨ka, ra⟩
        obtain ⟨b, ch, rfl, hch, rb⟩ := (rl.kp ka).at hv
        walk_at "S"
        have kBa := (kB6.trans k69).trans ka
        refine ⟨B, b, _, qs, ch, rfl, SqL.of (kBa _ _ eB not_nil), hqs.mono kBa, rb.1, by omega, fun Hb kb => ?_⟩
        have eDb := kb _ _ eD not_nil
        have hf := take_filter (isCov qs) hch
        have hlen : acc.length ≤ 256 := by
          rw [ra.length]
          refine Nat.le_trans (List.length_filter_le _ _) ?_
          rw [List.length_take]
          have := subs_len8 w8 n
          omega
        walk_at "S"
        refine r_kKeep (fun c1 => ?_) (fun c1 => ?_)
        · walk_at "S"
          refine r_kApp eDb (by omega) fun Hc kc ec => ⟨(ka.trans kb).step nD kc, ?_⟩
          rw [hf, if_pos c1]
          exact ((ra.kp kb).but kc eDb).snoc ((rb.kp kb not_nil).but kc eDb)
        · refine ⟨acc, eDb, ka.trans kb, ?_⟩
          rw [hf, c1]
          simp only [Bool.false_eq_true, if_false, List.append_nil]
          exact ra.kp kb
      rintro D acc Ha nD eD ⟨ka, ra⟩
      rw [rl.length, List.take_length] at ra
      walk_at "S"
      refine r_aug rfl ?_
      walk_at "S"
      refine ⟨_, _, _, D, acc, covs qs ws n, rfl, k69.trans ka, eD, ra, (kH6.trans k69).free nD not_nil, by omega, ?_⟩
      by_cases z : covs qs ws n = []
      · refine .inl ⟨z, fun k hk => ?_⟩
        rcases Nat.lt_or_ge k n with y | y
        · exact hns k y
        · rw [show k = n by omega]
          exact z
      · exact .inr ⟨n, rfl, rfl, z, hns⟩
    · have nR : R ≠ [] := of_decide_eq_false c
      obtain ⟨n', rfl, eR, _, hns⟩ : ∃ n', n = n' + 1 ∧ R = covs qs ws n' ∧ R ≠ [] ∧ NoSub qs ws n' := by
        rcases hinv with ⟨e, _⟩ | h
        · exact absurd e nR
        · exact h
      have hnw := hns.le wmem
      obtain ⟨r0, hr0⟩ : ∃ r0, R[0]? = some r0 := by
        cases R with
        | nil => exact absurd rfl nR
        | cons r R => exact ⟨r, rfl⟩
      have hr0l : r0.length = n' := by
        have := List.mem_of_getElem? hr0
        rw [eR] at this
        exact (covs_iff.mp this).2.1
      obtain ⟨v0, hv0⟩ : ∃ v0, xs[0]? = some v0 := by
        have e := rR.length
        have := lt_at hr0
        exact ⟨xs[0], List.getElem?_eq_getElem (by omega)⟩
      obtain ⟨t, r', rfl, hr', row⟩ := rR8.at hv0
      rw [hr0] at hr'
      cases hr'
      walk_at "S"
      refine r_ixL (SqL.of es8) (atI_nat (j := 0) hv0) ?_
      walk_at "S"
      refine r_lenT row.1 ?_
      rw [List.length_map, hr0l]
      walk_at "S"
      have k68 := k7.trans k8
      have kB8 := kB6.trans k68
      refine ⟨B, _, qs, n', rfl, SqL.of (kB8 _ _ eB not_nil), hqs.mono kB8, by omega, by omega, hns.cov wmem wnd, fun pv H9 k9 dp => ?_⟩
      walk_at "S"
      refine r_kMake fun cA dx Ha nc ka ec => ?_
      refine ⟨cA, dx, _, _, rfl, ec, fun Hb kb eb => ?_⟩
      refine r_kMade ?_
      have k0a := (((kH6.trans k68).trans k9).trans ka)
      have nc0 : H cA = none := ((kH6.trans k68).trans k9).free nc not_nil
      have k8a := k9.trans ka
      have sc : s ≠ cA := (ne_none (k9 _ _ es8 not_nil) nc).symm
      refine q cA qs ws n' Hb nc0 (k0a.step nc0 kb) ⟨dx, s, pv, xs, eb, kb _ _ (k8a _ _ es8 not_nil) (not_one sc), ?_, ?_, s0⟩ ⟨same, fewq, wmem, wsort, wnd, w8, eR ▸ nR, hns⟩
      · rw [← eR]
        exact ((rR8.kp k9).new (ka.nil.trans kb) nc)
      · exact (((dp.more nc).mono ka.nil).mono kb).less fun b m => nomatch m

end
open PySem.W (dataLt dataLe)
/-! ### the law's own covers: all rows of the names, the shortest that cover, sorted -/
open PySem.W in
theorem slLt_cons (x y : Str) (a b : List Str) : dataLt (.tuple ((x :: a).map .str)) (.tuple ((y :: b).map .str)) = if x = y then dataLt (.tuple (a.map .str)) (.tuple (b.map .str)) else dataLt (.str x) (.str y) := by
  rw [dataLt_tuple, dataLt_tuple]
  show PyProof.Rows.lexLt PyProof.Rows.itemOrd (.inl 1 :: .inr x.cps.toList :: keyToksAll (a.map .str)) (.inl 1 :: .inr y.cps.toList :: keyToksAll (b.map .str)) = _
  rw [PyProof.Rows.lex_self (O := PyProof.Rows.itemOrd)]
  by_cases h : x = y
  · rw [if_pos h, h, PyProof.Rows.lex_self (O := PyProof.Rows.itemOrd)]
  · rw [if_neg h]
    have hne : (Sum.inr x.cps.toList : Int ⊕ List Nat) ≠ .inr y.cps.toList := fun z => h (str_of_cps (Sum.inr.inj z))
    rw [PyProof.Rows.lex_diff (O := PyProof.Rows.itemOrd) hne]
    unfold dataLt
    exact (PyProof.Rows.lex_diff (O := PyProof.Rows.itemOrd) (r := []) (t := []) hne).symm
def tupD (c : List Str) : PyData := .tuple (c.map .str)
theorem str_anti {x y : Str} (e1 : dataLt (.str x) (.str y) = false) (e2 : dataLt (.str y) (.str x) = false) : x = y := by
  rw [PySem.W.dataLt_str] at e1 e2
  have e1 := of_decide_eq_false e1
  have e2 := of_decide_eq_false e2
  exact PySem.W.str_of_cps (List.le_antisymm e2 e1)
theorem sl_anti : ∀ {a b : List Str}, a.length = b.length → dataLt (tupD a) (tupD b) = false → dataLt (tupD b) (tupD a) = false → a = b
  | [], [], _, _, _ => rfl
  | x :: a, y :: b, hl, e1, e2 => by
    have e1 : dataLt (.tuple ((x :: a).map .str)) (.tuple ((y :: b).map .str)) = false := e1
    have e2 : dataLt (.tuple ((y :: b).map .str)) (.tuple ((x :: a).map .str)) = false := e2
    rw [slLt_cons] at e1 e2
    by_cases h : x = y
    · subst h
      rw [if_pos rfl] at e1 e2
      rw [sl_anti (Nat.succ.inj hl) e1 e2]
    · rw [if_neg h] at e1
      rw [if_neg fun z => h z.symm] at e2
      exact absurd (str_anti e1 e2) h
/-- strictly ascending -/
def Asc' (ws : List Str) : Prop := ws.Pairwise fun a b => dataLt (.str b) (.str a) = false ∧ a ≠ b
theorem asc_of {ws : List Str} (h : ws.Pairwise fun a b => dataLt (.str b) (.str a) = false) (nd : ws.Nodup) : Asc' ws := h.and nd
theorem subs_asc : ∀ {ws : List Str} {n : Nat}, Asc' ws → (subs ws n).Pairwise fun a b => dataLt (tupD b) (tupD a) = false
  | _, 0, _ => by
    unfold subs
    exact List.pairwise_singleton _ _
  | [], _ + 1, _ => List.Pairwise.nil
  | w :: ws, n + 1, h => by
    obtain ⟨h1, h2⟩ := List.pairwise_cons.mp h
    unfold subs
    refine List.pairwise_append.mpr ⟨?_, subs_asc h2, fun a ha b hb => ?_⟩
    · rw [List.pairwise_map]
      refine (subs_asc (n := n) h2).imp fun {a b} z => ?_
      show dataLt (.tuple ((w :: b).map .str)) (.tuple ((w :: a).map .str)) = false
      rw [slLt_cons, if_pos rfl]
      exact z
    · obtain ⟨a', _, rfl⟩ := List.mem_map.mp ha
      obtain ⟨hs, hl⟩ := subs_iff.mp hb
      cases b with
      | nil => cases hl
      | cons y b =>
        have hy := h1 y (hs.subset List.mem_cons_self)
        show dataLt (.tuple ((y :: b).map .str)) (.tuple ((w :: a').map .str)) = false
        rw [slLt_cons, if_neg fun z => hy.2 z.symm]
        exact hy.1
theorem subs_nd : ∀ {ws : List Str} {n : Nat}, ws.Nodup → (subs ws n).Nodup
  | _, 0, _ => by
    unfold subs
    exact List.pairwise_singleton _ _
  | [], _ + 1, _ => List.nodup_nil
  | w :: ws, n + 1, h => by
    obtain ⟨h1, h2⟩ := List.nodup_cons.mp h
    unfold subs
    refine List.nodup_append.mpr ⟨?_, subs_nd h2, fun a ha b hb e => ?_⟩
    · exact List.pairwise_map.mpr ((subs_nd (n := n) h2).imp fun {a b} z e => z (List.cons.inj e).2)
    · obtain ⟨a', _, rfl⟩ := List.mem_map.mp ha
      have hs := (subs_iff.mp hb).1
      rw [← e] at hs
      exact h1 (hs.subset List.mem_cons_self)
/-! all rows -/
def rStep (R : List (List Str)) (w : Str) : List (List Str) := R ++ R.map (· ++ [w])
def rowsOf (ws : List Str) : List (List Str) := ws.foldl rStep [[]]
theorem rows_next {ws : List Str} {i : Nat} {w : Str} (h : ws[i]? = some w) : rowsOf (ws.take (i + 1)) = rStep (rowsOf (ws.take i)) w := by
  unfold rowsOf
  rw [take_more h, List.foldl_append]
  rfl
theorem rows_len : ∀ i ws, i ≤ List.length ws → (rowsOf (List.take i ws)).length = 2 ^ i
  | 0, ws, _ => by
    rw [List.take_zero]
    rfl
  | i + 1, ws, h => by
    have hw : ws[i]? = some ws[i] := List.getElem?_eq_getElem h
    rw [rows_next hw]
    unfold rStep
    rw [List.length_append, List.length_map, rows_len i ws (by omega)]
    omega
theorem rows_iff' (c : List Str) : ∀ i ws, i ≤ List.length ws → (c ∈ rowsOf (List.take i ws) ↔ c.Sublist (List.take i ws))
  | 0, ws, _ => by
    rw [List.take_zero]
    show c ∈ [[]] ↔ _
    rw [List.mem_singleton, List.sublist_nil]
  | i + 1, ws, h => by
    have hw : ws[i]? = some ws[i] := List.getElem?_eq_getElem h
    rw [rows_next hw, take_more hw]
    unfold rStep
    rw [List.mem_append, List.mem_map, rows_iff' c i ws (by omega), List.sublist_append_iff]
    constructor
    · rintro (z | ⟨c', hc', rfl⟩)
      · exact ⟨c, [], (List.append_nil c).symm, z, List.nil_sublist _⟩
      · exact ⟨c', [ws[i]], rfl, (rows_iff' c' i ws (by omega)).mp hc', List.Sublist.refl _⟩
    · rintro ⟨l1, l2, rfl, h1, h2⟩
      cases l2 with
      | nil =>
        rw [List.append_nil]
        exact .inl h1
      | cons x l2 =>
        have hl := h2.length_le
        cases l2 with
        | nil =>
          have hx := h2.subset List.mem_cons_self
          rw [List.mem_singleton.mp hx]
          exact .inr ⟨l1, (rows_iff' l1 i ws (by omega)).mpr h1, rfl⟩
        | cons _ _ =>
          exfalso
          rw [List.length_cons, List.length_cons, List.length_singleton] at hl
          omega
theorem rows_iff {c ws : List Str} : c ∈ rowsOf ws ↔ c.Sublist ws := by
  have := rows_iff' c ws.length ws (Nat.le_refl _)
  rw [List.take_length] at this
  exact this
theorem rows_nd' : ∀ i ws, i ≤ List.length ws → List.Nodup ws → (rowsOf (List.take i ws)).Nodup
  | 0, ws, _, _ => by
    rw [List.take_zero]
    exact List.pairwise_singleton _ _
  | i + 1, ws, h, nd => by
    have hw : ws[i]? = some ws[i] := List.getElem?_eq_getElem h
    have ih := rows_nd' i ws (by omega) nd
    rw [rows_next hw]
    unfold rStep
    refine List.nodup_append.mpr ⟨ih, ?_, fun a ha b hb e => ?_⟩
    · exact List.pairwise_map.mpr (ih.imp fun {a b} z e => z (List.append_cancel_right e))
    · obtain ⟨c, _, rfl⟩ := List.mem_map.mp hb
      subst e
      have hs := (rows_iff' _ i ws (by omega)).mp ha
      have hm : ws[i] ∈ List.take i ws := hs.subset (List.mem_append_right _ (List.mem_singleton.mpr rfl))
      obtain ⟨j, hj, e⟩ := List.mem_take_iff_getElem.mp hm
      have := (List.getElem_inj nd).mp e
      omega
theorem rows_nd {ws : List Str} (nd : ws.Nodup) : (rowsOf ws).Nodup := by
  have := rows_nd' ws.length ws (Nat.le_refl _) nd
  rw [List.take_length] at this
  exact this
/-! the shortest that cover -/
def bHit (ps : List Pr) (B : List (List Str)) (r : List Str) : Bool := (decide (B = []) || decide (r.length ≤ (B.headD []).length)) && isCov ps r
def bStep (ps : List Pr) (B : List (List Str)) (r : List Str) : List (List Str) := if bHit ps B r = true then (if (decide (B = []) || decide (r.length < (B.headD []).length)) = true then [r] else B ++ [r]) else B
def bestOf (ps : List Pr) (R : List (List Str)) : List (List Str) := R.foldl (bStep ps) []
theorem best_next {ps : List Pr} {R : List (List Str)} {i : Nat} {r : List Str} (h : R[i]? = some r) : bestOf ps (R.take (i + 1)) = bStep ps (bestOf ps (R.take i)) r := by
  unfold bestOf
  rw [take_more h, List.foldl_append]
  rfl
def sel (ps : List Pr) (m : Nat) (r : List Str) : Bool := isCov ps r && decide (r.length = m)
theorem best_is' (ps : List Pr) : ∀ i R, i ≤ List.length R → ((bestOf ps (List.take i R) = [] ∧ ∀ r ∈ List.take i R, isCov ps r = false) ∨ ∃ m, bestOf ps (List.take i R) ≠ [] ∧ (∀ r ∈ List.take i R, isCov ps r = true → m ≤ r.length) ∧ bestOf ps (List.take i R) = (List.take i R).filter (sel ps m))
  | 0, R, _ => .inl ⟨by rw [List.take_zero]; rfl, by rw [List.take_zero]; exact nofun⟩
  | i + 1, R, h => by
    have hr : R[i]? = some R[i] := List.getElem?_eq_getElem h
    have ih := best_is' ps i R (by omega)
    rw [best_next hr, take_more hr]
    generalize R[i] = r at *
    generalize List.take i R = L at *
    unfold bStep
    rcases ih with ⟨e, hn⟩ | ⟨m, hne, hm, e⟩
    · rw [e]
      cases c : isCov ps r with
      | false =>
        rw [if_neg (by unfold bHit; rw [c, Bool.and_false]; simp)]
        refine .inl ⟨rfl, fun x hx => ?_⟩
        rcases List.mem_append.mp hx with hx | hx
        · exact hn x hx
        · rw [List.mem_singleton.mp hx]
          exact c
      | true =>
        rw [if_pos (by unfold bHit; rw [c]; rfl), show (decide (([] : List (List Str)) = []) || decide (r.length < (([] : List (List Str)).headD []).length)) = true from rfl, if_pos rfl]
        refine .inr ⟨r.length, nofun, fun x hx hc => ?_, ?_⟩
        · rcases List.mem_append.mp hx with hx | hx
          · rw [hn x hx] at hc
            cases hc
          · rw [List.mem_singleton.mp hx]
            exact Nat.le_refl _
        · rw [List.filter_append]
          have e1 : L.filter (sel ps r.length) = [] := List.filter_eq_nil_iff.mpr fun x hx => by
            unfold sel
            rw [hn x hx]
            simp
          have e2 : [r].filter (sel ps r.length) = [r] := by
            have : sel ps r.length r = true := by
              unfold sel
              rw [c, decide_eq_true rfl]
              rfl
            rw [List.filter_cons, if_pos this]
            rfl
          rw [e1, e2]
          rfl
    · obtain ⟨b, B, hB⟩ : ∃ b B, bestOf ps L = b :: B := by
        cases h : bestOf ps L with
        | nil => exact absurd h hne
        | cons b B => exact ⟨b, B, rfl⟩
      have hb : isCov ps b = true ∧ b.length = m ∧ b ∈ L := by
        have : b ∈ L.filter (sel ps m) := by
          rw [← e, hB]
          exact List.mem_cons_self
        obtain ⟨h1, h2⟩ := List.mem_filter.mp this
        obtain ⟨h3, h4⟩ := Bool.and_eq_true_iff.mp h2
        exact ⟨h3, of_decide_eq_true h4, h1⟩
      have hd : ∀ {x : Bool}, (decide (bestOf ps L = []) || x) = x := fun {x} => by
        rw [decide_eq_false hne]
        rfl
      have hh : ((bestOf ps L).headD []).length = m := by
        rw [hB]
        exact hb.2.1
      have hit : bHit ps (bestOf ps L) r = (decide (r.length ≤ m) && isCov ps r) := by
        unfold bHit
        rw [hd, hh]
      rw [hit, hd, hh]
      cases c : isCov ps r with
      | false =>
        rw [Bool.and_false, if_neg (by simp)]
        refine .inr ⟨m, hne, fun x hx hc => ?_, ?_⟩
        · rcases List.mem_append.mp hx with hx | hx
          · exact hm x hx hc
          · rw [List.mem_singleton.mp hx, c] at hc
            cases hc
        · rw [List.filter_append, ← e]
          have e2 : [r].filter (sel ps m) = [] := List.filter_eq_nil_iff.mpr fun x hx => by
            rw [List.mem_singleton.mp hx]
            unfold sel
            rw [c]
            simp
          rw [e2, List.append_nil]
      | true =>
        rw [Bool.and_true]
        by_cases l1 : r.length ≤ m
        · rw [if_pos (decide_eq_true l1)]
          by_cases l2 : r.length < m
          · rw [if_pos (decide_eq_true l2)]
            refine .inr ⟨r.length, nofun, fun x hx hc => ?_, ?_⟩
            · rcases List.mem_append.mp hx with hx | hx
              · exact Nat.le_trans l1 (hm x hx hc)
              · rw [List.mem_singleton.mp hx]
                exact Nat.le_refl _
            · rw [List.filter_append]
              have e1 : L.filter (sel ps r.length) = [] := List.filter_eq_nil_iff.mpr fun x hx z => by
                obtain ⟨z1, z2⟩ := Bool.and_eq_true_iff.mp z
                have := hm x hx z1
                have := of_decide_eq_true z2
                omega
              have e2 : [r].filter (sel ps r.length) = [r] := by
                have : sel ps r.length r = true := by
                  unfold sel
                  rw [c, decide_eq_true rfl]
                  rfl
                rw [List.filter_cons, if_pos this]
                rfl
              rw [e1, e2]
              rfl
          · rw [if_neg (by rw [decide_eq_false l2]; simp)]
            have em : r.length = m := by omega
            refine .inr ⟨m, by simp, fun x hx hc => ?_, ?_⟩
            · rcases List.mem_append.mp hx with hx | hx
              · exact hm x hx hc
              · rw [List.mem_singleton.mp hx]
                omega
            · rw [List.filter_append, ← e]
              have e2 : [r].filter (sel ps m) = [r] := by
                have : sel ps m r = true := by
                  unfold sel
                  rw [c, decide_eq_true em]
                  rfl
                rw [List.filter_cons, if_pos this]
                rfl
              rw [e2]
        · rw [if_neg (by rw [decide_eq_false l1]; simp)]
          refine .inr ⟨m, hne, fun x hx hc => ?_, ?_⟩
          · rcases List.mem_append.mp hx with hx | hx
            · exact hm x hx hc
            · rw [List.mem_singleton.mp hx]
              omega
          · rw [List.filter_append, ← e]
            have e2 : [r].filter (sel ps m) = [] := List.filter_eq_nil_iff.mpr fun x hx z => by
              rw [List.mem_singleton.mp hx] at z
              obtain ⟨_, z2⟩ := Bool.and_eq_true_iff.mp z
              have := of_decide_eq_true z2
              omega
            rw [e2, List.append_nil]
/-- the best rows are those that least_covers finds, in another order -/
theorem best_perm {ps qs : List Pr} {ws : List Str} {n : Nat} (F : Found ps qs ws n) : (bestOf ps (rowsOf ws)).Perm (covs qs ws n) := by
  have h := best_is' ps (rowsOf ws).length (rowsOf ws) (Nat.le_refl _)
  rw [List.take_length] at h
  obtain ⟨c, hc⟩ : ∃ c, c ∈ covs qs ws n := by
    cases h : covs qs ws n with
    | nil => exact absurd h F.some
    | cons r _ => exact ⟨r, List.mem_cons_self⟩
  obtain ⟨c1, c2, c3⟩ := covs_iff.mp hc
  have c3' : isCov ps c = true := by rw [← cov_same F.same]; exact c3
  rcases h with ⟨_, hn⟩ | ⟨m, hne, hm, e⟩
  · exfalso
    rw [hn c (rows_iff.mpr c1)] at c3'
    cases c3'
  · have m1 : m ≤ n := by
      have := hm c (rows_iff.mpr c1) c3'
      omega
    have m2 : n ≤ m := by
      obtain ⟨b, B, hB⟩ : ∃ b B, bestOf ps (rowsOf ws) = b :: B := by
        cases h : bestOf ps (rowsOf ws) with
        | nil => exact absurd h hne
        | cons b B => exact ⟨b, B, rfl⟩
      have : b ∈ (rowsOf ws).filter (sel ps m) := by
        rw [← e, hB]
        exact List.mem_cons_self
      obtain ⟨h1, h2⟩ := List.mem_filter.mp this
      obtain ⟨h3, h4⟩ := Bool.and_eq_true_iff.mp h2
      rw [← cov_same F.same] at h3
      have := F.none.cov F.names F.nd b h3
      have := of_decide_eq_true h4
      omega
    have em : m = n := by omega
    subst em
    rw [e]
    refine (List.perm_ext_iff_of_nodup ((rows_nd F.nd).filter _) ((subs_nd F.nd).filter _)).mpr fun x => ?_
    rw [List.mem_filter, rows_iff]
    show _ ↔ x ∈ covs qs ws m
    rw [covs_iff]
    unfold sel
    rw [Bool.and_eq_true_iff, decide_eq_true_iff, cov_same F.same]
    exact ⟨fun z => ⟨z.1, z.2.2, z.2.1⟩, fun z => ⟨z.1, z.2.2, z.2.1⟩⟩
/-- .. and sorted they are the same -/
theorem best_sorted {ps qs : List Pr} {ws : List Str} {n : Nat} (F : Found ps qs ws n) {B : List (List Str)} (hB : B = bestOf ps (rowsOf ws)) : srtD (B.map tupD) = (covs qs ws n).map tupD := by
  have pm : (srtD (B.map tupD)).Perm ((covs qs ws n).map tupD) := (srtD_perm _).trans (by rw [hB]; exact (best_perm F).map _)
  refine List.Perm.eq_of_pairwise (le := fun x y : PyData => dataLt y x = false) (fun x y hx hy h1 h2 => ?_) (srtD_pw _) ?_ pm
  · obtain ⟨a, ha, rfl⟩ := List.mem_map.mp (pm.mem_iff.mp hx)
    obtain ⟨b, hb, rfl⟩ := List.mem_map.mp hy
    have la := (covs_iff.mp ha).2.1
    have lb := (covs_iff.mp hb).2.1
    rw [sl_anti (by rw [la, lb]) h2 h1]
  · rw [List.pairwise_map]
    exact (subs_asc (asc_of F.sorted F.nd)).filter _
theorem sorted_eq {a b : List Str} (ha : a.Pairwise fun a b => dataLt (.str b) (.str a) = false) (hb : b.Pairwise fun a b => dataLt (.str b) (.str a) = false) (p : a.Perm b) : a = b := by
  refine List.Perm.eq_of_pairwise (le := fun x y : Str => dataLt (.str y) (.str x) = false) (fun x y _ _ e1 e2 => ?_) ha hb p
  rw [PySem.W.dataLt_str] at e1 e2
  have e1 := of_decide_eq_false e1
  have e2 := of_decide_eq_false e2
  have e : x.cps.toList = y.cps.toList := List.le_antisymm e1 e2
  obtain ⟨u⟩ := x
  obtain ⟨v⟩ := y
  have e : u.toList = v.toList := e
  show (⟨u⟩ : Str) = ⟨v⟩
  rw [Array.toList_inj.mp e]

open PySem.W (dataLt dataLe)
section
variable {P : Program} {w : World} {K : PySem.W.Frag} {mg : Str → Option Value} {base : Heap}
variable {C_Cover : Addr} {C_TooMany : Addr} {C_SilentswapsError : Addr}
local macro_rules | `(tactic| walk_at "s") => `(tactic| (first
  | (with_reducible refine r_seq ?_)
  | (with_reducible refine r_asg ?_)
  | ((with_reducible refine' r_var (v := ?v) ?hv ?_); (case hv => exact rfl))
  | (with_reducible refine r_c ?_)
  | (with_reducible refine r_name ?_)
  | (with_reducible refine r_op ?_)
  | (with_reducible refine r_un ?_)
  | (with_reducible refine r_consA ?_)
  | (with_reducible refine r_nilA ?_)
  | (with_reducible refine r_I0 ?_)
  | (with_reducible refine r_U ?_)
  | (with_reducible refine r_eqI ?_)
  | (with_reducible refine r_neI ?_)
  | (with_reducible refine r_test ?_)
  | (with_reducible refine r_tB ?_)
  | (with_reducible refine r_kB ?_)
  | (with_reducible refine r_ifS ?_)
  | (with_reducible refine r_if ?_)
  | (with_reducible refine r_and ?_)
  | (with_reducible refine r_or ?_)
  | (with_reducible refine r_not ?_)
  | (with_reducible refine r_ret ?_)
  | (with_reducible refine r_retN ?_)
  | (with_reducible refine r_next ?_)
  | (with_reducible refine r_drop ?_)
  | (with_reducible refine r_brk ?_)
  | (with_reducible refine r_cont ?_)
  | (with_reducible refine r_andV ?_)
  | (with_reducible refine r_orV ?_)
  | (with_reducible refine r_notV ?_)
  | (with_reducible refine r_kNotV ?_)
  | (with_reducible refine r_lst ?_)
  | (with_reducible refine r_tup ?_)
  | (with_reducible refine r_dget ?_)
  | (with_reducible refine r_dput ?_)
  | (with_reducible refine r_use ?_)
  | (with_reducible refine r_cb ?_)
  | (with_reducible refine r_par ?_)
  | (with_reducible refine r_int ?_)
  | (with_reducible refine r_abs ?_)
  | (with_reducible refine r_max2 ?_)
  | (with_reducible refine r_min2 ?_)
  | (with_reducible refine r_pnil ?_)
  | (with_reducible refine r_pcons ?_)
  | (with_reducible refine r_eqS ?_)
  | (with_reducible refine r_neS ?_)
  | (with_reducible refine r_for ?_)
  | (with_reducible refine r_rng1 ?_)
  | (with_reducible refine r_rng2 ?_)
  | (with_reducible refine r_wl ?_)
  | (with_reducible refine r_wt ?_)
  | (with_reducible refine r_wq ?_)
  | (with_reducible refine r_ws ?_)
  | (with_reducible refine r_cWS ?_)
  | (with_reducible refine r_enum ?_)
  | (with_reducible refine r_zip ?_)
  | (with_reducible refine r_lc ?_)
  | (with_reducible refine r_dc ?_)
  | ((with_reducible refine r_kTurn ?ht ?_); (case ht => rfl))
  | ((with_reducible refine r_kTurnD ?ht ?_); (case ht => rfl))
  | (with_reducible refine r_yes ?_)
  | ((with_reducible refine r_kKeep1 ?hk ?_); (case hk => rfl))
  | ((with_reducible refine r_kKeepD1 ?hk ?_); (case hk => rfl))
  | (with_reducible refine r_gcons ?_)
  | (with_reducible refine r_gnil ?_)
  | (with_reducible refine r_bm ?_)
  | (with_reducible refine r_bm0 ?_)
  | (with_reducible refine r_fld ?_)
  | (with_reducible refine r_sfld ?_)
  | (with_reducible refine r_methR ?_)
  | (with_reducible refine r_makeR ?_)
  | (with_reducible refine r_chain ?_)))
local macro_rules | `(tactic| walk_at "S") => `(tactic| repeat walk_at "s")
local macro_rules | `(tactic| walk_at "D") => `(tactic| repeat' (first
  | exact AD_nil
  | refine AD_cons ?_ (fun _ _ => ?_)
  | refine ED_tup ?_ (Nat.le_trans (m := 100) (Nat.le_of_ble_eq_true rfl) (by decide))
  | refine ED_lst ?_ (Nat.le_trans (m := 100) (Nat.le_of_ble_eq_true rfl) (by decide))
  | exact ED_c (by constructor)
  | exact ED_var rfl (by constructor)))
local macro_rules | `(tactic| walk_at "N") => `(tactic| repeat' (first
  | exact AN_nil
  | refine AN_cons ?_ (fun _ _ => ?_)
  | refine EN_tup ?_ (Nat.le_trans (m := 100) (Nat.le_of_ble_eq_true rfl) (by decide))
  | refine EN_lst ?_ (Nat.le_trans (m := 100) (Nat.le_of_ble_eq_true rfl) (by decide))
  | exact EN_c (fun _ => by constructor)
  | exact EN_var rfl (fun _ => by constructor)))

local macro_rules | `(tactic| walk_at "s") => `(tactic| (first
  | (with_reducible refine r_sl ?_)
  | (with_reducible refine r_kS1 ?_)
  | (with_reducible refine r_kS2 ?_)
  | (with_reducible refine r_kS3 ?_)
  | (with_reducible refine r_noPart ?_)
  | (with_reducible refine r_part ?_)
  | (with_reducible refine r_kPart ?_)
  | (with_reducible refine r_gsub ?_)
  | (with_reducible refine r_m1 ?_)
  | (with_reducible refine r_kM1 ?_)
  | (with_reducible refine r_propF ?_)
  | (with_reducible refine r_drp ?_)
  | (with_reducible refine r_min2S ?_)
  | (with_reducible refine r_max2S ?_)
  | (with_reducible refine r_enumS ?_)
  | (with_reducible refine r_cEnumS ?_)
  | (with_reducible refine r_makeKS ?_)
  | (with_reducible refine r_makeS ?_)))

local macro_rules | `(tactic| walk_at "s") => `(tactic| (first
  | (with_reducible refine r_mkV ?_)
  | (with_reducible refine r_ofl ?_)
  | (with_reducible refine r_methF ?_)
  | (with_reducible refine r_callF ?_)
  | (with_reducible refine r_star ?_)
  | (with_reducible refine r_smeth ?_)
  | (with_reducible refine r_kSMeth ?_)))

local macro_rules | `(tactic| walk_at "s") => `(tactic| (first
  | (with_reducible refine r_dcT ?_)
  | ((with_reducible refine r_kTurnT ?ht ?_); (case ht => rfl))
  | ((with_reducible refine r_kKeepT1 ?hk ?_); (case hk => rfl))
  | (with_reducible refine r_own ?_)
  | (with_reducible refine r_cmeth ?_)
  | (with_reducible refine r_kCMeth ?_)
  | (with_reducible refine r_makeS1 ?_)
  | ((with_reducible refine r_makeV ?hv ?_); (case hv => rfl))
  | (with_reducible refine r_isBl ?_)
  | (with_reducible refine r_ltS ?_)
  | (with_reducible refine r_makeW ?_)
  | (with_reducible refine r_kMakeW0 ?_)
  | (with_reducible refine r_lr1 ?_)
  | (with_reducible refine r_lc2 ?_)
  | ((with_reducible refine r_kTurn2 ?ht ?_); (case ht => rfl))
  | ((with_reducible refine r_kKeep2 ?hk ?_); (case hk => rfl))))

local macro_rules | `(tactic| walk_at "s") => `(tactic| (first
  | (with_reducible refine r_tTruOwn ?_)
  | (with_reducible refine r_notOwn ?_)
  | (with_reducible refine r_par3 ?_)))

local macro_rules | `(tactic| walk_at "s") => `(tactic| (first
  | (with_reducible refine Rd.r_join ?_)
  | (with_reducible refine r_jCons ?_)
  | (with_reducible refine r_jNil ?_)
  | (with_reducible refine r_fmt ?_)
  | (with_reducible refine r_lsItems ?_)
  | (with_reducible refine r_lsKeys ?_)
  | (with_reducible refine r_iKeys ?_)
  | (with_reducible refine r_revL ?_)))

local macro_rules | `(tactic| walk_at "s") => `(tactic| (first
  | ((with_reducible refine r_aug ?ha ?_); (case ha => rfl))
  | (with_reducible refine r_kAugI ?_)
  | (with_reducible refine r_delL ?_)
  | (with_reducible refine r_methX ?_)))

local macro_rules | `(tactic| walk_at "s") => `(tactic| (first
  | (with_reducible refine r_tupF ?_)
  | (with_reducible refine r_wordsL ?_)
  | (with_reducible refine r_wordsT ?_)
  | (with_reducible refine r_mT ?_)))

local macro_rules | `(tactic| walk_at "s") => `(tactic| (first
  | (with_reducible refine r_useX ?_)))

/-! ### _law_covers -/
theorem eqv_nilT (B : List (List Str)) : PyData.eqv (.list (B.map tupD)) (.list []) = decide (B = []) := by
  cases B with
  | nil => rfl
  | cons c R => rw [decide_eq_false (fun z => nomatch z)]; rfl
theorem shp_rows {B : List (List Str)} (h : ∀ r ∈ B, ∀ x ∈ r, PyData.strOk x = true) : ∀ d ∈ B.map tupD, Shp 1 d := fun d m => by
  obtain ⟨r, mr, rfl⟩ := List.mem_map.mp m
  refine Shp.tuple (n := 0) fun e me => ?_
  obtain ⟨x, mx, rfl⟩ := List.mem_map.mp me
  exact Shp.str (h r mr x mx) 0
theorem rows_al {B : List (List Str)} : PySem.W.AllAlike (B.map tupD) := PySem.W.AllAlike.of fun a b => by
  show PySem.W.alike (.tuple _) (.tuple _) = true
  simp [PySem.W.alike, alike_txts]
theorem rows_dep {B : List (List Str)} : ∀ d ∈ B.map tupD, d.depth ≤ 60 := fun d m => by
  obtain ⟨r, mr, rfl⟩ := List.mem_map.mp m
  have : (PyData.tuple (r.map .str)).depth ≤ 1 := by
    simp [PyData.depth, depth_txts]
  exact Nat.le_trans this (by decide)
theorem at_head {α : Type} {x : α} {l : List α} : atI (x :: l) 0 = some x := atI_nat (j := 0) rfl
theorem dt_row {ex : List Addr} {H : Hp} {v : V} {r : List Str} (h : Dt ex H v (tupD r)) : ∃ t, v = .ref t ∧ t ∉ ex ∧ H t = some (.tup (r.map V.str)) := by
  obtain ⟨t, ys, rfl, n, e, al⟩ := Dt.tuple h
  rw [al.strs] at e
  exact ⟨t, rfl, n, e⟩
theorem row_dt {ex : List Addr} {H : Hp} {t : Addr} {r : List Str} (e : H t = some (.tup (r.map V.str))) (n : t ∉ ex) : Dt ex H (.ref t) (tupD r) := .tup n e (DtAll.of_strs r)
theorem best_cov {ps : List Pr} {R : List (List Str)} {r : List Str} (h : r ∈ bestOf ps R) : isCov ps r = true ∧ r ∈ R := by
  have g := best_is' ps R.length R (Nat.le_refl _)
  rw [List.take_length] at g
  rcases g with ⟨e, _⟩ | ⟨m, _, _, e⟩
  · rw [e] at h
    cases h
  · rw [e] at h
    obtain ⟨h1, h2⟩ := List.mem_filter.mp h
    exact ⟨(Bool.and_eq_true_iff.mp h2).1, h1⟩
theorem best_len (ps : List Pr) (R : List (List Str)) : (bestOf ps R).length ≤ R.length := by
  have g := best_is' ps R.length R (Nat.le_refl _)
  rw [List.take_length] at g
  rcases g with ⟨e, _⟩ | ⟨m, _, _, e⟩
  · rw [e]
    exact Nat.zero_le _
  · rw [e]
    exact List.length_filter_le _ _
theorem perm_map_inv {α β : Type} {f : α → β} {us vs : List β} (p : us.Perm vs) : ∀ l : List α, vs = l.map f → ∃ l' : List α, l'.Perm l ∧ us = l'.map f := by
  induction p with
  | nil =>
    intro l e
    exact ⟨l, List.Perm.refl _, e⟩
  | cons x p ih =>
    intro l e
    cases l with
    | nil => cases e
    | cons a l =>
      have e1 := (List.cons.inj e).1
      have e2 := (List.cons.inj e).2
      subst e1
      obtain ⟨l', hp, rfl⟩ := ih l e2
      exact ⟨a :: l', hp.cons a, rfl⟩
  | swap x y t =>
    intro l e
    match l, e with
    | a :: b :: l, e =>
      have e1 := (List.cons.inj e).1
      have e2 := (List.cons.inj (List.cons.inj e).2).1
      have e3 := (List.cons.inj (List.cons.inj e).2).2
      subst e1
      subst e2
      subst e3
      exact ⟨b :: a :: l, List.Perm.swap a b l, rfl⟩
  | trans p q ihp ihq =>
    intro l e
    obtain ⟨l1, h1, rfl⟩ := ihq l e
    obtain ⟨l2, h2, rfl⟩ := ihp l1 rfl
    exact ⟨l2, h2.trans h1, rfl⟩
def sp__law_covers (K : PySem.W.Frag) : Sp := fun vs H Q _ => ∃ (a : Addr) (xs : List V) (ps : List Pr), vs = [.ref a] ∧ SqL K H a xs ∧ DtAll [] H xs (ps.map prD) ∧ ps.length ≤ 60 ∧ NamesOk ps ∧ (∀ p ∈ ps, p.1 ≠ p.2) ∧ (namesOf ps).length ≤ 8 ∧
  ∀ l H' ys ds, H l = none → Kp [] H H' → H' l = some (.lst ys) → DtAll [] H' ys ds → (∀ qs ws n, Found ps qs ws n → ds = (covs qs ws n).map tupD) → Q (.ref l) H'
abbrev s__law_covers : Stmt := top 19
theorem sc__law_covers : FnScope ["_law_pairs_here", "_law_words_here", "_law_rows", "_law_best", "_law_pair", "_law_word", "_law_row"] ["_law_pairs_here"] (defScope s__law_covers) :=
  ⟨rfl, rfl, rfl, by decide +kernel, rfl, by decide +kernel, by decide +kernel⟩
theorem ok__law_covers {f : Addr} {fd : FuncData} (F : Fun K "_law_covers" "_law_covers" s__law_covers f fd) (T : Txt K mg C_Cover C_TooMany C_SilentswapsError) :
    FnOk P w K mg base CX0 2 f fd ["_law_pairs_here"] (sp__law_covers K) := by
  refine F.ok sc__law_covers (fun vs H Q E h => ?_) (fun cdv A outer s H vs Q E hr h => ?_)
  · obtain ⟨a, xs, ps, rfl, _⟩ := h
    rfl
  · obtain ⟨a, xs, ps, rfl, hS, hx, hl, hok, hne, h8, q⟩ := h
    have hu := hu_of hr
    have hu64 := hr.units
    refine ⟨_, (pss_cons (ps_asg (pe_tup (pa_cons (pe_lst pa_nil) (pa_cons (pe_lst (pa_cons (pe_tup pa_nil) pa_nil)) (pa_cons (pe_lst pa_nil) pa_nil)))) (K_gtup (K := K) (n := 3) rfl (by rfl) (pgs_cons (pg_name (i := 1) sc__law_covers.nd rfl (by first | exact Or.inl rfl | exact Or.inr rfl)) (pgs_cons (pg_name (i := 2) sc__law_covers.nd rfl (by first | exact Or.inl rfl | exact Or.inr rfl)) (pgs_cons (pg_name (i := 3) sc__law_covers.nd rfl (by first | exact Or.inl rfl | exact Or.inr rfl)) pgs_nil)))))
        (pss_cons (ps_for PassesOwn.never (by rfl) (K_pil (K := K) rfl (pv 0)) (pg_name (i := 4) sc__law_covers.nd rfl (by first | exact Or.inl rfl | exact Or.inr rfl))
          (pss_one (ps_set (i := 1) sc__law_covers.nd rfl (by first | exact Or.inl rfl | exact Or.inr rfl) (pe_op op_cat (pv 1) (pe_lc (own := [("_law_word", 5)]) (by rfl) sc__law_covers.nd (K_pit (K := K) rfl (pv 4)) (blkOk_by (own := [("_law_word", 5)]) (N := ["_law_pairs_here", "_law_words_here", "_law_rows", "_law_best", "_law_pair", "_law_word", "_law_row"]) (sc := defScope s__law_covers) (by decide +kernel)) (fun _ _ _ _ _ => (pg_name (i := 5) sc__law_covers.nd rfl (by first | exact Or.inl rfl | exact Or.inr rfl))) (fun _ _ _ _ _ => pts_one (pt_cmpR (K_notIn (K := K) rfl) (pv 5) (pv 1) (by with_unfolding_all rfl))) (fun _ _ _ _ _ => (pv 5)))))))
        (pss_cons (ps_for PassesOwn.never (by rfl) (K_pil (K := K) rfl (pe_callB (K_sortedD (K := K) rfl hu64) (by rfl) T.z_sorted (by decide +kernel) (pa_cons (pv 1) pa_nil))) (pg_name (i := 5) sc__law_covers.nd rfl (by first | exact Or.inl rfl | exact Or.inr rfl))
          (pss_one (ps_set (i := 2) sc__law_covers.nd rfl (by first | exact Or.inl rfl | exact Or.inr rfl) (pe_op op_cat (pv 2) (pe_lc (own := [("_law_row", 6)]) (by rfl) sc__law_covers.nd (K_pil (K := K) rfl (pv 2)) (blkOk_by (own := [("_law_row", 6)]) (N := ["_law_pairs_here", "_law_words_here", "_law_rows", "_law_best", "_law_pair", "_law_word", "_law_row"]) (sc := defScope s__law_covers) (by decide +kernel)) (fun _ _ _ _ _ => (pg_name (i := 6) sc__law_covers.nd rfl (by first | exact Or.inl rfl | exact Or.inr rfl))) (fun _ _ _ _ _ => pts_nil) (fun _ _ _ _ _ => (pe_op (K_catT (K := K) rfl) (pv 6) (pe_tup (pa_cons (pv 5) pa_nil)))))))))
        (pss_cons (ps_for PassesOwn.never (by rfl) (K_pil (K := K) rfl (pv 2)) (pg_name (i := 6) sc__law_covers.nd rfl (by first | exact Or.inl rfl | exact Or.inr rfl))
          (pss_one (ps_if (pt_cutT (PW.pt (pw_and (PW.pt (pw_or (pt_cmpR (K_eqD (K := K) rfl hu64) (pv 3) (pe_lst pa_nil) (nomark _)) (pw_or1 (pt_cmpR op_le (pe_callB (K_len (K := K) rfl) (by rfl) T.z_len (by decide +kernel) (pa_cons (pv 6) pa_nil)) (pe_callB (K_len (K := K) rfl) (by rfl) T.z_len (by decide +kernel) (pa_cons (pe_ix (K_ixL (K := K) rfl) (pv 3) pe_int (fun _ _ => rfl)) pa_nil)) (nomark _))))) (pw_and1 (pt_val (pe_callB (K_all (K := K) rfl rfl) (by rfl) T.z_all (by decide +kernel) (pa_cons (pe_lc (own := [("_law_pair", 4)]) (by rfl) sc__law_covers.nd (K_pil (K := K) rfl (pv 0)) (blkOk_by (own := [("_law_pair", 4)]) (N := ["_law_pairs_here", "_law_words_here", "_law_rows", "_law_best", "_law_pair", "_law_word", "_law_row"]) (sc := defScope s__law_covers) (by decide +kernel)) (fun _ _ _ _ _ => (pg_name (i := 4) sc__law_covers.nd rfl (by first | exact Or.inl rfl | exact Or.inr rfl))) (fun _ _ _ _ _ => pts_nil) (fun _ _ _ _ _ => (pe_or (pe_cmpR (K_in (K := K) rfl) (pe_ix (K_ixT (K := K) rfl) (pv 4) pe_int (fun _ _ => rfl)) (pv 6) (by with_unfolding_all rfl)) (pe_one (pe_cmpR (K_in (K := K) rfl) (pe_ix (K_ixT (K := K) rfl) (pv 4) pe_int (fun _ _ => rfl)) (pv 6) (by with_unfolding_all rfl)))))) pa_nil)))))))
            (pss_one (ps_set (i := 3) sc__law_covers.nd rfl (by first | exact Or.inl rfl | exact Or.inr rfl) (pe_ifExp (PW.pt (pw_or (pt_cmpR (K_eqD (K := K) rfl hu64) (pv 3) (pe_lst pa_nil) (nomark _)) (pw_or1 (pt_cmpR op_lt (pe_callB (K_len (K := K) rfl) (by rfl) T.z_len (by decide +kernel) (pa_cons (pv 6) pa_nil)) (pe_callB (K_len (K := K) rfl) (by rfl) T.z_len (by decide +kernel) (pa_cons (pe_ix (K_ixL (K := K) rfl) (pv 3) pe_int (fun _ _ => rfl)) pa_nil)) (nomark _))))) (pe_lst (pa_cons (pv 6) pa_nil)) (pe_op op_cat (pv 3) (pe_lst (pa_cons (pv 6) pa_nil))))))
            pss_nil)))
        (pss_one (ps_ret (pe_callB (K_sortedE (K := K) rfl hu64) (by rfl) T.z_sorted (by decide +kernel) (pa_cons (pv 3) pa_nil)))))))), ?_⟩
    have big : 5000 ≤ sizeLine := by decide
    have hn : xs.length = ps.length := by rw [hx.length, List.length_map]
    walk_at "S"
    refine r_kLst (xs := []) (Nat.zero_le _) fun N0 H1 nN0 k1 eN0 => ?_
    walk_at "S"
    refine r_kTup (xs := []) (Nat.zero_le _) fun E0 H2 nE0 k2 eE0 => ?_
    walk_at "S"
    refine r_kLst (by show 1 ≤ sizeLine; omega) fun R0 H3 nR0 k3 eR0 => ?_
    walk_at "S"
    refine r_kLst (xs := []) (Nat.zero_le _) fun B0 H4 nB0 k4 eB0 => ?_
    walk_at "S"
    refine r_kTup (by show 3 ≤ sizeLine; omega) fun T5 H5 nT5 k5 eT5 => ?_
    refine r_gtup (SqT.of eT5) rfl ?_
    walk_at "S"
    have k35 := k4.trans k5
    have k15 := (k2.trans k3).trans k35
    have k05 := k1.trans k15
    refine r_cWL (k05.sql hS) ?_
    refine r_kForL (xs := xs) (fun i σ' H' => ∃ (v4 v5 : Option V) (N : Addr) (ms : List Str), σ' = [some (.ref a), some (.ref N), some (.ref R0), some (.ref B0), v4, v5, none] ∧ Kp [] H5 H' ∧ H' N = some (.lst (ms.map V.str)) ∧ ms.Nodup ∧ ∀ x, x ∈ ms ↔ ∃ q ∈ ps.take i, x = q.1 ∨ x = q.2)
      ⟨none, none, N0, [], rfl, Kp.refl _ _, k15 _ _ eN0 not_nil, List.nodup_nil, fun x => ⟨nofun, fun ⟨_, m, _⟩ => by cases m⟩⟩ (fun i σ' H' _ h => let ⟨_, _, _, _, _, k, _⟩ := h; k.sql (k05.sql hS)) ?_ ?_
    · rintro i v σ' H6 hv ⟨v4, v5, N, ms, rfl, k6, eN, hnd, hmem⟩
      obtain ⟨pr, t, hp, rfl, _, et⟩ := pr_at hx hv
      have hi := lt_at hv
      have et6 := k6 _ _ (k05 _ _ et not_nil) not_nil
      have hprne := hne pr (List.mem_of_getElem? hp)
      have hms : ms.length ≤ 8 := Nat.le_trans (nodup_le hnd fun z m => names_mem.mpr (by
        obtain ⟨q, mq, e⟩ := (hmem z).mp m
        exact ⟨q, List.mem_of_mem_take mq, e⟩)) h8
      walk_at "S"
      refine r_cWT (SqT.of et6) ?_
      refine r_kLcT (xs := [V.str pr.1, V.str pr.2]) (fun D j acc H' => Kp [] H6 H' ∧ acc = (([pr.1, pr.2].take j).filter fun x => !decide (x ∈ ms)).map V.str) (fun D H' _ k _ => ⟨k, rfl⟩) (fun D j acc H' _ h => sqt_kp (SqT.of et6) h.1 not_nil) ?_ ?_
      · rintro D j acc u H7 nD hu' eD ⟨k7, rfl⟩
        obtain ⟨x, hx', rfl⟩ := map_at (f := V.str) (l := [pr.1, pr.2]) hu'
        walk_at "S"
        refine r_notInL (SqL.of (k7 _ _ eN not_nil)) ?_
        have hf := take_filter (fun x => !decide (x ∈ ms)) hx'
        have hlen : ((([pr.1, pr.2].take j).filter fun x => !decide (x ∈ ms)).map V.str).length ≤ 2 := by
          rw [List.length_map]
          refine Nat.le_trans (List.length_filter_le _ _) ?_
          rw [List.length_take]
          exact Nat.min_le_right _ _
        walk_at "S"
        refine r_kKeep (fun c1 => ?_) (fun c1 => ?_)
        · walk_at "S"
          refine r_kApp eD (by omega) fun H8 k8 e8 => ⟨k7.step nD k8, ?_⟩
          rw [hf, if_pos c1, List.map_append]
          rfl
        · refine ⟨_, eD, k7, ?_⟩
          rw [hf, c1]
          simp only [Bool.false_eq_true, if_false, List.append_nil]
      rintro D acc H7 nD eD ⟨k7, rfl⟩
      have hfl : (([pr.1, pr.2].take [V.str pr.1, V.str pr.2].length).filter fun x => !decide (x ∈ ms)).length ≤ 2 := by
        refine Nat.le_trans (List.length_filter_le _ _) ?_
        rw [List.length_take]
        exact Nat.min_le_right _ _
      walk_at "S"
      refine r_cat (k7 _ _ eN not_nil) eD (by rw [List.length_map, List.length_map]; omega) fun N' H8 nN' k8 eN' => ?_
      walk_at "S"
      refine ⟨_, _, N', ms ++ ([pr.1, pr.2].filter fun x => !decide (x ∈ ms)), rfl, (k6.trans k7).trans k8, by rw [eN', List.map_append]; rfl, ?_, fun x => ?_⟩
      · refine List.nodup_append.mpr ⟨hnd, List.Pairwise.filter _ (show [pr.1, pr.2].Nodup from by simp [hprne]), fun x hx y hy e => ?_⟩
        obtain ⟨_, h2⟩ := List.mem_filter.mp hy
        rw [← e, decide_eq_true hx] at h2
        cases h2
      · rw [List.mem_append, List.mem_filter, take_more hp]
        constructor
        · rintro (m | ⟨m, _⟩)
          · obtain ⟨q, mq, e⟩ := (hmem x).mp m
            exact ⟨q, List.mem_append_left _ mq, e⟩
          · refine ⟨pr, List.mem_append_right _ (List.mem_singleton.mpr rfl), ?_⟩
            rcases List.mem_cons.mp m with e | m
            · exact .inl e
            · exact .inr (List.mem_singleton.mp m)
        · rintro ⟨q, mq, e⟩
          by_cases z : x ∈ ms
          · exact .inl z
          · rcases List.mem_append.mp mq with mq | mq
            · exact .inl ((hmem x).mpr ⟨q, mq, e⟩)
            · rw [List.mem_singleton.mp mq] at e
              refine .inr ⟨?_, by rw [decide_eq_false z]; rfl⟩
              rcases e with e | e
              · rw [e]
                exact List.mem_cons_self
              · rw [e]
                exact List.mem_cons_of_mem _ List.mem_cons_self
    rintro σ' H6 ⟨v4, v5, N, ms, rfl, k6, eN, hnd, hmem⟩
    rw [hn, List.take_length] at hmem
    have hms : ms.length ≤ 8 := Nat.le_trans (nodup_le hnd fun z m => names_mem.mpr ((hmem z).mp m)) h8
    walk_at "S"
    refine r_sortedD (SqL.of eN) (DtAll.of_strs (ex := []) ms) (PySem.W.AllAlike.of fun _ _ => rfl) (PySem.W.Sortable.others fun b => ⟨(fun z => nomatch z), fun xs z => nomatch z⟩) (by rw [List.length_map]; omega) (fun d m => by
      obtain ⟨x, _, rfl⟩ := List.mem_map.mp m
      exact Nat.zero_le _) fun W ys H7 nW k7 eW aW => ?_
    obtain ⟨ws, hws, ews⟩ := perm_map_inv (srtD_perm (ms.map PyData.str)) ms rfl
    have wpw : ws.Pairwise fun a b => dataLt (.str b) (.str a) = false := by
      have h := srtD_pw (ms.map PyData.str)
      rw [ews, List.pairwise_map] at h
      exact h
    rw [ews] at aW
    have eys := aW.strs
    subst eys
    have wnd : ws.Nodup := hws.nodup_iff.mpr hnd
    have wmem : ∀ x, x ∈ ws ↔ ∃ q ∈ ps, x = q.1 ∨ x = q.2 := fun x => by rw [hws.mem_iff, hmem]
    have w8 : ws.length ≤ 8 := by rw [hws.length_eq]; exact hms
    have wok : ∀ x ∈ ws, PyData.strOk x = true := fun x m => by
      obtain ⟨p, mp, e⟩ := (wmem x).mp m
      have := hok p mp
      rcases e with e | e
      · rw [e]
        exact this.1
      · rw [e]
        exact this.2
    have fws : ∀ qs ws' n, Found ps qs ws' n → ws' = ws := fun qs ws' n F => sorted_eq F.sorted wpw ((List.perm_ext_iff_of_nodup F.nd wnd).mpr fun x => by
      rw [F.names, wmem]
      exact ⟨fun ⟨p, m, e⟩ => ⟨p, (F.same p).mp m, e⟩, fun ⟨p, m, e⟩ => ⟨p, (F.same p).mpr m, e⟩⟩)
    clear ews aW hws hmem hnd
    have k57 := k6.trans k7
    have k37 := k35.trans k57
    have eR7 := k37 _ _ eR0 not_nil
    have eE7 := (k3.trans k37) _ _ eE0 not_nil
    have eB7 := (k5.trans k57) _ _ eB0 not_nil
    have k07 := k05.trans k57
    refine r_cWL (SqL.of eW) ?_
    refine r_kForL (xs := ws.map V.str) (fun i σ' H' => ∃ (v5 v6 : Option V) (Rl : Addr) (rs : List V), σ' = [some (.ref a), some (.ref N), some (.ref Rl), some (.ref B0), v4, v5, v6] ∧ Kp [] H7 H' ∧ H' Rl = some (.lst rs) ∧ DtAll [] H' rs ((rowsOf (ws.take i)).map tupD))
      ⟨_, none, R0, _, rfl, Kp.refl _ _, eR7, by
        rw [List.take_zero]
        exact .cons (row_dt (r := []) eE7 not_nil) .nil⟩ (fun i σ' H' _ h => let ⟨_, _, _, _, _, k, _⟩ := h; SqL.of (k _ _ eW not_nil)) ?_ ?_
    · rintro i v σ' H8 hv ⟨v5', v6, Rl, rs, rfl, k8, eR, aR⟩
      obtain ⟨w', hw', rfl⟩ := map_at hv
      have hi := lt_at hw'
      have hrl : rs.length = 2 ^ i := by rw [aR.length, List.length_map, rows_len i ws (by omega)]
      have p256 : 2 ^ i ≤ 256 := Nat.le_trans (Nat.pow_le_pow_right (by decide) (show i ≤ 8 by omega)) (by decide)
      walk_at "S"
      refine r_cWL (SqL.of eR) ?_
      refine r_kLcL (xs := rs) (fun D j acc H' => Kp [] H8 H' ∧ DtAll [D] H' acc ((((rowsOf (ws.take i)).take j).map (· ++ [w'])).map tupD)) (fun D H' _ k _ => ⟨k, .nil⟩) (fun D j acc H' _ h => h.1.sql (SqL.of eR)) ?_ ?_
      · rintro D j acc u H9 nD hu' eD ⟨k9, al⟩
        obtain ⟨d, hd, du⟩ := aR.at hu'
        obtain ⟨r, hr, rfl⟩ := map_at hd
        obtain ⟨t, rfl, _, et⟩ := dt_row du
        have hj := lt_at hu'
        have hal : acc.length ≤ 256 := by
          rw [al.length, List.length_map, List.length_map, List.length_take]
          omega
        have hrw : r.length ≤ 8 := Nat.le_trans (rows_iff'  r i ws (by omega) |>.mp (List.mem_of_getElem? hr)).length_le (by rw [List.length_take]; omega)
        have et9 := k9 _ _ et not_nil
        walk_at "S"
        refine r_kTup (by show 1 ≤ sizeLine; omega) fun T1 Ha nT1 ka eT1 => ?_
        walk_at "S"
        have tD : t ≠ D := (ne_none et nD).symm
        have T1D : T1 ≠ D := ne_none eD nT1
        have eq : (((rowsOf (ws.take i)).take (j + 1)).map (· ++ [w'])).map tupD = (((rowsOf (ws.take i)).take j).map (· ++ [w'])).map tupD ++ [tupD (r ++ [w'])] := by
          rw [take_more hr, List.map_append, List.map_append]
          rfl
        refine ⟨t, T1, r.map V.str, [.str w'], rfl, rfl, SqT.of (ka _ _ et9 not_nil), SqT.of eT1, by rw [List.length_map]; show _ + 1 ≤ _; omega, fun z => ?_, (fun _ z => by cases z), fun _ _ p np => ?_⟩
        · have er : r = [] := List.map_eq_nil_iff.mp z
          subst er
          refine r_kApp (ka _ _ eD not_nil) (by omega) fun Hb kb eb => ⟨(k9.trans ka).step nD kb, ?_⟩
          rw [eq]
          exact ((al.mono ka.nil).mono kb).snoc (row_dt (r := [w']) (kb _ _ eT1 (not_one T1D)) (not_one T1D))
        · have kp : Kp [] Ha (upd Ha p (.tup (r.map V.str ++ [.str w']))) := Kp.new np
          have pD : p ≠ D := ne_none (ka _ _ eD not_nil) np
          refine r_kApp (kp _ _ (ka _ _ eD not_nil) not_nil) (by omega) fun Hb kb eb => ⟨((k9.trans ka).trans kp).step nD kb, ?_⟩
          rw [eq]
          refine (((al.mono ka.nil).mono kp.nil).mono kb).snoc (row_dt (r := r ++ [w']) ?_ (not_one pD))
          rw [List.map_append]
          exact kb _ _ upd_same (not_one pD)
      rintro D acc H9 nD eD ⟨k9, al⟩
      have al := al.less (ex' := []) fun b m => nomatch m
      have hrl' : rs.length = (rowsOf (ws.take i)).length := by rw [aR.length, List.length_map]
      rw [hrl', List.take_length] at al
      walk_at "S"
      refine r_cat (k9 _ _ eR not_nil) eD (by rw [al.length, List.length_map, List.length_map, ← hrl']; omega) fun R' Ha nR' ka eR' => ?_
      walk_at "S"
      refine ⟨_, _, R', rs ++ acc, rfl, (k8.trans k9).trans ka, eR', ?_⟩
      rw [rows_next hw']
      unfold rStep
      rw [List.map_append]
      exact ((aR.mono k9).append al).mono ka
    rintro σ' H8 ⟨v5', v6, Rl, rs, rfl, k8, eR, aR⟩
    rw [List.length_map, List.take_length] at aR
    have hrl : rs.length = (rowsOf ws).length := by rw [aR.length, List.length_map]
    have hr256 : (rowsOf ws).length ≤ 256 := by
      have := rows_len ws.length ws (Nat.le_refl _)
      rw [List.take_length] at this
      rw [this]
      exact Nat.le_trans (Nat.pow_le_pow_right (by decide) w8) (by decide)
    have k08 := k07.trans k8
    walk_at "S"
    refine r_cWL (SqL.of eR) ?_
    refine r_kForL (xs := rs) (fun i σ' H' => ∃ (v4 v6 : Option V) (Bl : Addr) (bs : List V), σ' = [some (.ref a), some (.ref N), some (.ref Rl), some (.ref Bl), v4, v5', v6] ∧ Kp [] H8 H' ∧ H' Bl = some (.lst bs) ∧ DtAll [] H' bs ((bestOf ps ((rowsOf ws).take i)).map tupD))
      ⟨_, _, B0, [], rfl, Kp.refl _ _, k8 _ _ eB7 not_nil, .nil⟩ (fun i σ' H' _ h => let ⟨_, _, _, _, _, k, _⟩ := h; SqL.of (k _ _ eR not_nil)) ?_ ?_
    · rintro i v σ' H9 hv ⟨v4', v6', Bl, bs, rfl, k9, eB, aB⟩
      obtain ⟨d, hd, du⟩ := aR.at hv
      obtain ⟨r, hr, rfl⟩ := map_at hd
      obtain ⟨t, rfl, _, et⟩ := dt_row du
      have hi := lt_at hv
      have hmr := List.mem_of_getElem? hr
      have k09 := k08.trans k9
      have et9 := k9 _ _ et not_nil
      have hrw : r.length ≤ 8 := Nat.le_trans (rows_iff.mp hmr).length_le w8
      have bok : ∀ b ∈ bestOf ps ((rowsOf ws).take i), ∀ x ∈ b, PyData.strOk x = true := fun b mb x mx => wok x ((rows_iff.mp (List.mem_of_mem_take (best_cov mb).2)).subset mx)
      have bl : bs.length ≤ 256 := by
        rw [aB.length, List.length_map]
        refine Nat.le_trans (best_len _ _) ?_
        rw [List.length_take]
        omega
      have bn := best_next (ps := ps) hr
      generalize bestOf ps ((rowsOf ws).take i) = B at aB bok bn
      have shB := Shp.list (n := 1) (shp_rows bok)
      have sh0 : Shp 2 (.list []) := Shp.list (n := 1) (l := []) (fun _ m => by cases m)
      walk_at "S"
      refine r_cutT (fun z H' => Kp [] H9 H' ∧ z = bHit ps B r) ?_ ?_
      · walk_at "S"
        refine r_kLst (xs := []) (Nat.zero_le _) fun Z Ha nZ ka eZ => ?_
        refine r_eqD (Dt.lst (ex := []) not_nil (ka _ _ eB not_nil) (aB.mono ka)) (Dt.lst (ex := []) not_nil eZ .nil) shB sh0 (by decide) ?_
        rw [eqv_nilT]
        walk_at "S"
        have rowT : SqT K Ha t (r.map V.str) := SqT.of (ka _ _ et9 not_nil)
        refine r_kOr (fun c => ?_) (fun c => ?_)
        · have eB0' : B = [] := of_decide_eq_true c
          subst eB0'
          refine r_kAnd1 rfl ?_
          walk_at "S"
          have kXa := k09.trans ka
          refine r_cWL (kXa.sql hS) ?_
          refine r_kLcL (xs := xs) (fun D i acc H' => Kp [] Ha H' ∧ acc = ((ps.take i).map (cov1 r)).map V.bl) (fun D H' _ k _ => ⟨k, rfl⟩) (fun D i acc H' _ h => h.1.sql (kXa.sql hS)) ?_ ?_
          · rintro D i acc v Hb nD hv eD ⟨kb, rfl⟩
            obtain ⟨pr, t', hp, rfl, _, et⟩ := pr_at hx hv
            have hi := lt_at hp
            have etb := kb _ _ (kXa _ _ et not_nil) not_nil
            have hc1 := sqt_kp rowT kb not_nil
            have fin : ∀ z : Bool, z = cov1 r pr → kApp D (kN (fun acc H' => Kp [] Ha H' ∧ acc = ((ps.take (i + 1)).map (cov1 r)).map V.bl) D) (.bl z) Hb := by
              rintro z rfl
              refine r_kApp eD (by rw [List.length_map, List.length_map, List.length_take]; omega) fun H2 k2 e2 => ⟨kb.step nD k2, ?_⟩
              rw [take_map (cov1 r) hp, List.map_append]
              rfl
            walk_at "S"
            refine r_ixT (SqT.of etb) (atI_nat (j := 0) rfl) ?_
            walk_at "S"
            refine r_inT hc1 ?_
            refine r_kOrV (fun z => ?_) (fun z => ?_)
            · refine fin true ?_
              unfold cov1
              rw [z]
              rfl
            walk_at "S"
            refine r_ixT (SqT.of etb) (atI_nat (j := 1) rfl) ?_
            walk_at "S"
            refine r_inT hc1 ?_
            refine fin _ ?_
            unfold cov1
            rw [z]
            rfl
          rintro D acc Hb nD eD ⟨kb, rfl⟩
          rw [hn, List.take_length] at eD
          walk_at "S"
          refine r_all (SqL.of eD) ?_
          rw [← isCov_map]
          walk_at "S"
          exact ⟨ka.trans kb, rfl⟩
        · have nB : B ≠ [] := of_decide_eq_false c
          obtain ⟨b, B', rfl⟩ : ∃ b B', B = b :: B' := by
            cases B with
            | nil => exact absurd rfl nB
            | cons b B' => exact ⟨b, B', rfl⟩
          obtain ⟨v0, bs', rfl, dv0⟩ : ∃ v0 bs', bs = v0 :: bs' ∧ Dt [] H9 v0 (tupD b) := by
            cases aB with
            | cons h1 h2 => exact ⟨_, _, rfl, h1⟩
          obtain ⟨t0, rfl, _, et0⟩ := dt_row dv0
          walk_at "S"
          refine r_lenT rowT ?_
          walk_at "S"
          refine r_ixL (SqL.of (ka _ _ eB not_nil)) at_head ?_
          walk_at "S"
          refine r_lenT (SqT.of (ka _ _ et0 not_nil)) ?_
          walk_at "S"
          have hh : decide (((r.map V.str).length : Int) ≤ ((b.map V.str).length : Int)) = decide (r.length ≤ b.length) := decide_eq_decide.mpr (by rw [List.length_map, List.length_map]; omega)
          rw [hh]
          have bh : bHit ps (b :: B') r = (decide (r.length ≤ b.length) && isCov ps r) := by
            unfold bHit
            rw [decide_eq_false (fun z => nomatch z)]
            rfl
          refine r_kAnd (fun c1 => ?_) (fun c1 => ?_)
          · walk_at "S"
            have kXa := k09.trans ka
            refine r_cWL (kXa.sql hS) ?_
            refine r_kLcL (xs := xs) (fun D i acc H' => Kp [] Ha H' ∧ acc = ((ps.take i).map (cov1 r)).map V.bl) (fun D H' _ k _ => ⟨k, rfl⟩) (fun D i acc H' _ h => h.1.sql (kXa.sql hS)) ?_ ?_
            · rintro D i acc v Hb nD hv eD ⟨kb, rfl⟩
              obtain ⟨pr, t', hp, rfl, _, et⟩ := pr_at hx hv
              have hi := lt_at hp
              have etb := kb _ _ (kXa _ _ et not_nil) not_nil
              have hc1 := sqt_kp rowT kb not_nil
              have fin : ∀ z : Bool, z = cov1 r pr → kApp D (kN (fun acc H' => Kp [] Ha H' ∧ acc = ((ps.take (i + 1)).map (cov1 r)).map V.bl) D) (.bl z) Hb := by
                rintro z rfl
                refine r_kApp eD (by rw [List.length_map, List.length_map, List.length_take]; omega) fun H2 k2 e2 => ⟨kb.step nD k2, ?_⟩
                rw [take_map (cov1 r) hp, List.map_append]
                rfl
              walk_at "S"
              refine r_ixT (SqT.of etb) (atI_nat (j := 0) rfl) ?_
              walk_at "S"
              refine r_inT hc1 ?_
              refine r_kOrV (fun z => ?_) (fun z => ?_)
              · refine fin true ?_
                unfold cov1
                rw [z]
                rfl
              walk_at "S"
              refine r_ixT (SqT.of etb) (atI_nat (j := 1) rfl) ?_
              walk_at "S"
              refine r_inT hc1 ?_
              refine fin _ ?_
              unfold cov1
              rw [z]
              rfl
            rintro D acc Hb nD eD ⟨kb, rfl⟩
            rw [hn, List.take_length] at eD
            walk_at "S"
            refine r_all (SqL.of eD) ?_
            rw [← isCov_map]
            walk_at "S"
            refine ⟨ka.trans kb, ?_⟩
            rw [bh, c1, Bool.true_and]
          · refine ⟨ka, ?_⟩
            rw [bh, c1, Bool.false_and]
      rintro z Ha ⟨ka, ez⟩
      refine r_kIfS (fun c => ?_) (fun c => ?_)
      · rw [c] at ez
        have bst : bStep ps B r = if (decide (B = []) || decide (r.length < (B.headD []).length)) = true then [r] else B ++ [r] := by
          unfold bStep
          rw [if_pos ez.symm]
        walk_at "S"
        refine r_kLst (xs := []) (Nat.zero_le _) fun Z Hb nZ kb eZ => ?_
        have kab := ka.trans kb
        have dt : Dt [] Hb (.ref t) (tupD r) := (du.mono k9).mono kab
        refine r_eqD (Dt.lst (ex := []) not_nil (kab _ _ eB not_nil) (aB.mono kab)) (Dt.lst (ex := []) not_nil eZ .nil) shB sh0 (by decide) ?_
        rw [eqv_nilT]
        walk_at "S"
        refine r_kOr (fun c => ?_) (fun c => ?_)
        · have eB0' : B = [] := of_decide_eq_true c
          refine r_kIf1 rfl ?_
          walk_at "S"
          refine r_kLst (by show 1 ≤ sizeLine; omega) fun Y Hc nY kc eY => ?_
          walk_at "S"
          refine ⟨_, _, Y, _, rfl, (k9.trans kab).trans kc, eY, ?_⟩
          rw [bn, bst, if_pos (by rw [decide_eq_true eB0']; rfl)]
          exact .cons (dt.mono kc) .nil
        · have nB : B ≠ [] := of_decide_eq_false c
          obtain ⟨b, B', rfl⟩ : ∃ b B', B = b :: B' := by
            cases B with
            | nil => exact absurd rfl nB
            | cons b B' => exact ⟨b, B', rfl⟩
          obtain ⟨v0, bs', rfl, dv0⟩ : ∃ v0 bs', bs = v0 :: bs' ∧ Dt [] H9 v0 (tupD b) := by
            cases aB with
            | cons h1 h2 => exact ⟨_, _, rfl, h1⟩
          obtain ⟨t0, rfl, _, et0⟩ := dt_row dv0
          walk_at "S"
          refine r_lenT (SqT.of (kab _ _ et9 not_nil)) ?_
          walk_at "S"
          refine r_ixL (SqL.of (kab _ _ eB not_nil)) at_head ?_
          walk_at "S"
          refine r_lenT (SqT.of (kab _ _ et0 not_nil)) ?_
          walk_at "S"
          have hh : decide (((r.map V.str).length : Int) < ((b.map V.str).length : Int)) = decide (r.length < b.length) := decide_eq_decide.mpr (by rw [List.length_map, List.length_map]; omega)
          rw [hh]
          have bst' : bStep ps (b :: B') r = if decide (r.length < b.length) = true then [r] else (b :: B') ++ [r] := bst
          refine r_kIf (fun c1 => ?_) (fun c1 => ?_)
          · walk_at "S"
            refine r_kLst (by show 1 ≤ sizeLine; omega) fun Y Hc nY kc eY => ?_
            walk_at "S"
            refine ⟨_, _, Y, _, rfl, (k9.trans kab).trans kc, eY, ?_⟩
            rw [bn, bst', if_pos c1]
            exact .cons (dt.mono kc) .nil
          · walk_at "S"
            refine r_kLst (by show 1 ≤ sizeLine; omega) fun Y Hc nY kc eY => ?_
            walk_at "S"
            refine r_cat (kc _ _ (kab _ _ eB not_nil) not_nil) eY (by show _ + 1 ≤ _; omega) fun Y2 Hd nY2 kd eY2 => ?_
            walk_at "S"
            refine ⟨_, _, Y2, _, rfl, ((k9.trans kab).trans kc).trans kd, eY2, ?_⟩
            rw [bn, bst', if_neg (by rw [c1]; simp), List.map_append]
            exact (((aB.mono kab).mono kc).mono kd).snoc ((dt.mono kc).mono kd)
      · rw [c] at ez
        walk_at "S"
        refine ⟨_, _, Bl, bs, rfl, k9.trans ka, ka _ _ eB not_nil, ?_⟩
        rw [bn]
        unfold bStep
        rw [if_neg (by rw [← ez]; simp)]
        exact aB.mono ka
    rintro σ' H9 ⟨v4', v6', Bl, bs, rfl, k9, eB, aB⟩
    rw [hrl, List.take_length] at aB
    have k09 := k08.trans k9
    walk_at "S"
    have fin : ∀ qs ws' n, Found ps qs ws' n → srtD ((bestOf ps (rowsOf ws)).map tupD) = (covs qs ws' n).map tupD := fun qs ws' n F => best_sorted F (by rw [fws qs ws' n F])
    by_cases hps : ps = []
    · have ews : ws = [] := List.eq_nil_iff_forall_not_mem.mpr fun x m => by
        obtain ⟨p, mp, _⟩ := (wmem x).mp m
        rw [hps] at mp
        cases mp
      have eb : (bestOf ps (rowsOf ws)).map tupD = [tupD []] := by
        rw [hps, ews]
        rfl
      rw [eb] at aB fin
      obtain ⟨v0, rfl, dv0⟩ : ∃ v0, bs = [v0] ∧ Dt [] H9 v0 (tupD []) := by
        cases aB with
        | cons h1 h2 =>
          cases h2
          exact ⟨_, rfl, h1⟩
      refine r_sorted1 (SqL.of eB) dv0.dp (by decide +kernel) (fun z => nomatch z) (by decide +kernel) fun l Ha nl ka el => ?_
      refine q l Ha _ [tupD []] (k09.free nl not_nil) (k09.trans ka) el (.cons (dv0.mono ka) .nil) fun qs ws' n F => ?_
      rw [← fin qs ws' n F]
      unfold srtD
      rw [List.mergeSort_singleton]
    · have hB : ∀ r ∈ bestOf ps (rowsOf ws), r ≠ [] := fun r m z => by
        have h := (best_cov m).1
        rw [z] at h
        cases hq : ps with
        | nil => exact hps hq
        | cons p l =>
          rcases cov_iff.mp h p (by rw [hq]; exact List.mem_cons_self) with z | z
          · cases z
          · cases z
      refine Or.inl (r_sortedD (SqL.of eB) aB rows_al (.inl fun d m => ?_) ?_ rows_dep fun l ys Ha nl ka el al => ?_)
      · obtain ⟨r, mr, rfl⟩ := List.mem_map.mp m
        cases hr : r with
        | nil => exact absurd hr (hB r mr)
        | cons x r' => exact ⟨_, _, rfl⟩
      · rw [List.length_map]
        have := best_len ps (rowsOf ws)
        omega
      · exact q l Ha ys _ (k09.free nl not_nil) (k09.trans ka) el (al.mono ka) fin

end
open PySem.W (dataLt dataLe)
/-! ### the order of texts; texts of slips; == of parts -/
theorem lt_tri : ∀ a b : List Nat, ¬ a < b → ¬ b < a → a = b
  | [], [], _, _ => rfl
  | [], _ :: _, h, _ => absurd (List.nil_lt_cons _ _) h
  | _ :: _, [], _, h => absurd (List.nil_lt_cons _ _) h
  | x :: a, y :: b, h1, h2 => by
    rw [List.cons_lt_cons_iff] at h1 h2
    have e : x = y := by
      rcases Nat.lt_trichotomy x y with h | h | h
      · exact absurd (.inl h) h1
      · exact h
      · exact absurd (.inl h) h2
    subst e
    rw [lt_tri a b (fun h => h1 (.inr ⟨rfl, h⟩)) (fun h => h2 (.inr ⟨rfl, h⟩))]
theorem lt_asy : ∀ a b : List Nat, a < b → ¬ b < a
  | [], [], h, _ => absurd h (List.not_lt_nil _)
  | [], _ :: _, _, h => absurd h (List.not_lt_nil _)
  | _ :: _, [], h, _ => absurd h (List.not_lt_nil _)
  | x :: a, y :: b, h1, h2 => by
    rw [List.cons_lt_cons_iff] at h1 h2
    rcases h1 with h1 | ⟨rfl, h1⟩
    · rcases h2 with h2 | ⟨rfl, h2⟩ <;> omega
    · rcases h2 with h2 | ⟨_, h2⟩
      · omega
      · exact lt_asy a b h1 h2
theorem str_ext {a b : Str} (h : a.cps.toList = b.cps.toList) : a = b := by
  obtain ⟨x⟩ := a
  obtain ⟨y⟩ := b
  exact congrArg Str.mk (Array.toList_inj.mp h)
theorem slt_tri {a b : Str} (h1 : slt a b = false) (h2 : slt b a = false) : a = b := str_ext (lt_tri _ _ (of_decide_eq_false h1) (of_decide_eq_false h2))
theorem slt_asy {a b : Str} (h1 : slt a b = true) : slt b a = false := decide_eq_false (lt_asy _ _ (of_decide_eq_true h1))

section
variable {P : Program} {w : World} {K : PySem.W.Frag} {mg : Str → Option Value} {base : Heap}
variable {C_Cover : Addr} {C_TooMany : Addr} {C_SilentswapsError : Addr}
local macro_rules | `(tactic| walk_at "s") => `(tactic| (first
  | (with_reducible refine r_seq ?_)
  | (with_reducible refine r_asg ?_)
  | ((with_reducible refine' r_var (v := ?v) ?hv ?_); (case hv => exact rfl))
  | (with_reducible refine r_c ?_)
  | (with_reducible refine r_name ?_)
  | (with_reducible refine r_op ?_)
  | (with_reducible refine r_un ?_)
  | (with_reducible refine r_consA ?_)
  | (with_reducible refine r_nilA ?_)
  | (with_reducible refine r_I0 ?_)
  | (with_reducible refine r_U ?_)
  | (with_reducible refine r_eqI ?_)
  | (with_reducible refine r_neI ?_)
  | (with_reducible refine r_test ?_)
  | (with_reducible refine r_tB ?_)
  | (with_reducible refine r_kB ?_)
  | (with_reducible refine r_ifS ?_)
  | (with_reducible refine r_if ?_)
  | (with_reducible refine r_and ?_)
  | (with_reducible refine r_or ?_)
  | (with_reducible refine r_not ?_)
  | (with_reducible refine r_ret ?_)
  | (with_reducible refine r_retN ?_)
  | (with_reducible refine r_next ?_)
  | (with_reducible refine r_drop ?_)
  | (with_reducible refine r_brk ?_)
  | (with_reducible refine r_cont ?_)
  | (with_reducible refine r_andV ?_)
  | (with_reducible refine r_orV ?_)
  | (with_reducible refine r_notV ?_)
  | (with_reducible refine r_kNotV ?_)
  | (with_reducible refine r_lst ?_)
  | (with_reducible refine r_tup ?_)
  | (with_reducible refine r_dget ?_)
  | (with_reducible refine r_dput ?_)
  | (with_reducible refine r_use ?_)
  | (with_reducible refine r_cb ?_)
  | (with_reducible refine r_par ?_)
  | (with_reducible refine r_int ?_)
  | (with_reducible refine r_abs ?_)
  | (with_reducible refine r_max2 ?_)
  | (with_reducible refine r_min2 ?_)
  | (with_reducible refine r_pnil ?_)
  | (with_reducible refine r_pcons ?_)
  | (with_reducible refine r_eqS ?_)
  | (with_reducible refine r_neS ?_)
  | (with_reducible refine r_for ?_)
  | (with_reducible refine r_rng1 ?_)
  | (with_reducible refine r_rng2 ?_)
  | (with_reducible refine r_wl ?_)
  | (with_reducible refine r_wt ?_)
  | (with_reducible refine r_wq ?_)
  | (with_reducible refine r_ws ?_)
  | (with_reducible refine r_cWS ?_)
  | (with_reducible refine r_enum ?_)
  | (with_reducible refine r_zip ?_)
  | (with_reducible refine r_lc ?_)
  | (with_reducible refine r_dc ?_)
  | ((with_reducible refine r_kTurn ?ht ?_); (case ht => rfl))
  | ((with_reducible refine r_kTurnD ?ht ?_); (case ht => rfl))
  | (with_reducible refine r_yes ?_)
  | ((with_reducible refine r_kKeep1 ?hk ?_); (case hk => rfl))
  | ((with_reducible refine r_kKeepD1 ?hk ?_); (case hk => rfl))
  | (with_reducible refine r_gcons ?_)
  | (with_reducible refine r_gnil ?_)
  | (with_reducible refine r_bm ?_)
  | (with_reducible refine r_bm0 ?_)
  | (with_reducible refine r_fld ?_)
  | (with_reducible refine r_sfld ?_)
  | (with_reducible refine r_methR ?_)
  | (with_reducible refine r_makeR ?_)
  | (with_reducible refine r_chain ?_)))
local macro_rules | `(tactic| walk_at "S") => `(tactic| repeat walk_at "s")
local macro_rules | `(tactic| walk_at "D") => `(tactic| repeat' (first
  | exact AD_nil
  | refine AD_cons ?_ (fun _ _ => ?_)
  | refine ED_tup ?_ (Nat.le_trans (m := 100) (Nat.le_of_ble_eq_true rfl) (by decide))
  | refine ED_lst ?_ (Nat.le_trans (m := 100) (Nat.le_of_ble_eq_true rfl) (by decide))
  | exact ED_c (by constructor)
  | exact ED_var rfl (by constructor)))
local macro_rules | `(tactic| walk_at "N") => `(tactic| repeat' (first
  | exact AN_nil
  | refine AN_cons ?_ (fun _ _ => ?_)
  | refine EN_tup ?_ (Nat.le_trans (m := 100) (Nat.le_of_ble_eq_true rfl) (by decide))
  | refine EN_lst ?_ (Nat.le_trans (m := 100) (Nat.le_of_ble_eq_true rfl) (by decide))
  | exact EN_c (fun _ => by constructor)
  | exact EN_var rfl (fun _ => by constructor)))

local macro_rules | `(tactic| walk_at "s") => `(tactic| (first
  | (with_reducible refine r_sl ?_)
  | (with_reducible refine r_kS1 ?_)
  | (with_reducible refine r_kS2 ?_)
  | (with_reducible refine r_kS3 ?_)
  | (with_reducible refine r_noPart ?_)
  | (with_reducible refine r_part ?_)
  | (with_reducible refine r_kPart ?_)
  | (with_reducible refine r_gsub ?_)
  | (with_reducible refine r_m1 ?_)
  | (with_reducible refine r_kM1 ?_)
  | (with_reducible refine r_propF ?_)
  | (with_reducible refine r_drp ?_)
  | (with_reducible refine r_min2S ?_)
  | (with_reducible refine r_max2S ?_)
  | (with_reducible refine r_enumS ?_)
  | (with_reducible refine r_cEnumS ?_)
  | (with_reducible refine r_makeKS ?_)
  | (with_reducible refine r_makeS ?_)))

local macro_rules | `(tactic| walk_at "s") => `(tactic| (first
  | (with_reducible refine r_mkV ?_)
  | (with_reducible refine r_ofl ?_)
  | (with_reducible refine r_methF ?_)
  | (with_reducible refine r_callF ?_)
  | (with_reducible refine r_star ?_)
  | (with_reducible refine r_smeth ?_)
  | (with_reducible refine r_kSMeth ?_)))

local macro_rules | `(tactic| walk_at "s") => `(tactic| (first
  | (with_reducible refine r_dcT ?_)
  | ((with_reducible refine r_kTurnT ?ht ?_); (case ht => rfl))
  | ((with_reducible refine r_kKeepT1 ?hk ?_); (case hk => rfl))
  | (with_reducible refine r_own ?_)
  | (with_reducible refine r_cmeth ?_)
  | (with_reducible refine r_kCMeth ?_)
  | (with_reducible refine r_makeS1 ?_)
  | ((with_reducible refine r_makeV ?hv ?_); (case hv => rfl))
  | (with_reducible refine r_isBl ?_)
  | (with_reducible refine r_ltS ?_)
  | (with_reducible refine r_makeW ?_)
  | (with_reducible refine r_kMakeW0 ?_)
  | (with_reducible refine r_lr1 ?_)
  | (with_reducible refine r_lc2 ?_)
  | ((with_reducible refine r_kTurn2 ?ht ?_); (case ht => rfl))
  | ((with_reducible refine r_kKeep2 ?hk ?_); (case hk => rfl))))

local macro_rules | `(tactic| walk_at "s") => `(tactic| (first
  | (with_reducible refine r_tTruOwn ?_)
  | (with_reducible refine r_notOwn ?_)
  | (with_reducible refine r_par3 ?_)))

local macro_rules | `(tactic| walk_at "s") => `(tactic| (first
  | (with_reducible refine Rd.r_join ?_)
  | (with_reducible refine r_jCons ?_)
  | (with_reducible refine r_jNil ?_)
  | (with_reducible refine r_fmt ?_)
  | (with_reducible refine r_lsItems ?_)
  | (with_reducible refine r_lsKeys ?_)
  | (with_reducible refine r_iKeys ?_)
  | (with_reducible refine r_revL ?_)))

local macro_rules | `(tactic| walk_at "s") => `(tactic| (first
  | ((with_reducible refine r_aug ?ha ?_); (case ha => rfl))
  | (with_reducible refine r_kAugI ?_)
  | (with_reducible refine r_delL ?_)
  | (with_reducible refine r_methX ?_)))

local macro_rules | `(tactic| walk_at "s") => `(tactic| (first
  | (with_reducible refine r_tupF ?_)
  | (with_reducible refine r_wordsL ?_)
  | (with_reducible refine r_wordsT ?_)
  | (with_reducible refine r_mT ?_)))

local macro_rules | `(tactic| walk_at "s") => `(tactic| (first
  | (with_reducible refine r_useX ?_)))

/-! ### the draws: a list of two numbers -/
def BagL (H : Hp) (p : Addr) : Prop := ∃ d b : Int, H p = some (.lst [.int d, .int b])
theorem BagL.kp {H H' : Hp} {p : Addr} {ex : List Addr} (b : BagL H p) (k : Kp ex H H') (m : p ∉ ex) : BagL H' p := by
  obtain ⟨d, s, e⟩ := b
  exact ⟨d, s, k _ _ e m⟩
theorem BagL.some {H : Hp} {p : Addr} (b : BagL H p) : ∃ o, H p = Option.some o := by
  obtain ⟨d, s, e⟩ := b
  exact ⟨_, e⟩
theorem cdivw {i j : Int} (h : 0 < j) (h2 : j < 2 ^ 200) : CDivW i j := wide_div h (by omega : j.natAbs < 2 ^ 200) (by decide) (by decide)
/-- _law_bag(script, at): a new bag -/
def sp__law_bag (K : PySem.W.Frag) : Sp := fun vs H Q _ => ∃ (a : Addr) (ns : List Int) (k : Nat), vs = [.ref a, .int (k : Int)] ∧ SqL K H a (ns.map V.int) ∧ ns.length ≤ 63 ∧ k ≤ 1000 ∧
  ∀ p H', H p = none → Kp [] H H' → BagL H' p → Q (.ref p) H'
/-- _law_take(bag, many): some number from 0 to below many; nothing but the bag changes -/
def sp__law_take (_K : PySem.W.Frag) : Sp := fun vs H Q _ => ∃ (p : Addr) (m : Int), vs = [.ref p, .int m] ∧ BagL H p ∧ 0 < m ∧ m < 2 ^ 200 ∧
  ∀ (r : Int) H', 0 ≤ r → r < m → Kp [p] H H' → BagL H' p → Q (.int r) H'
abbrev s__law_take : Stmt := top 14
theorem sc__law_take : FnScope ["_law_bag_here", "_law_many", "_law_digit"] ["_law_bag_here", "_law_many"] (defScope s__law_take) :=
  ⟨rfl, rfl, rfl, by decide +kernel, rfl, by decide +kernel, by decide +kernel⟩
theorem ok__law_take {f : Addr} {fd : FuncData} (F : Fun K "_law_take" "_law_take" s__law_take f fd) (T : Txt K mg C_Cover C_TooMany C_SilentswapsError) :
    FnOk P w K mg base CX0 2 f fd ["_law_bag_here", "_law_many"] (sp__law_take K) := by
  refine F.ok sc__law_take (fun vs H Q E h => ?_) (fun cdv A outer s H vs Q E hr h => ?_)
  · obtain ⟨p, m, rfl, _⟩ := h
    rfl
  · obtain ⟨p, m, rfl, hb, h0, h1, q⟩ := h
    obtain ⟨d, b, e⟩ := hb
    have hu := hu_of hr
    have hu64 := hr.units
    refine ⟨_, (pss_cons (ps_if (pt_cmpR op_gt (pe_ix (K_ixL (K := K) rfl) (pv 0) pe_int (fun _ _ => rfl)) pe_int (nomark _))
          (pss_cons (ps_set (i := 2) sc__law_take.nd rfl (by first | exact Or.inl rfl | exact Or.inr rfl) (pe_op op_modN (pe_callTy cr_int (by rfl) T.z_int (by decide +kernel) (pa_cons (pe_ix (K_ixL (K := K) rfl) (pv 0) pe_int (fun _ _ => rfl)) pa_nil)) (pv 1)))
          (pss_cons (ps_asg (pe_op op_fdivW (pe_ix (K_ixL (K := K) rfl) (pv 0) pe_int (fun _ _ => rfl)) (pv 1)) (pg_sub (pv 0) pe_int set_list))
          (pss_one (ps_ret (pv 2)))))
          pss_nil)
        (pss_cons (ps_asg (pe_op op_modN (pe_callTy cr_int (by rfl) T.z_int (by decide +kernel) (pa_cons (pe_op op_add (pe_op op_mul (pe_ix (K_ixL (K := K) rfl) (pv 0) pe_int (fun _ _ => rfl)) pe_int) pe_int) pa_nil)) pe_int) (pg_sub (pv 0) pe_int set_list))
        (pss_one (ps_ret (pe_op op_modN (pe_op op_fdivW (pe_op op_modN (pe_callTy cr_int (by rfl) T.z_int (by decide +kernel) (pa_cons (pe_op op_mul (pe_op op_fdivW (pe_ix (K_ixL (K := K) rfl) (pv 0) pe_int (fun _ _ => rfl)) pe_int) pe_int) pa_nil)) pe_int) pe_int) (pv 1)))))), ?_⟩
    walk_at "S"
    refine r_ixL (SqL.of e) (atI_nat (j := 0) rfl) ?_
    walk_at "S"
    refine r_kIfS (fun c => ?_) (fun c => ?_)
    · walk_at "S"
      refine r_ixL (SqL.of e) (atI_nat (j := 0) rfl) ?_
      walk_at "S"
      refine r_I (by omega) ?_
      walk_at "S"
      refine r_ixL (SqL.of e) (atI_nat (j := 0) rfl) ?_
      walk_at "S"
      refine r_I (cdivw h0 h1) ?_
      walk_at "S"
      refine r_setL e rfl fun H1 k1 e1 => ?_
      walk_at "S"
      exact q _ _ (Int.fmod_nonneg_of_pos _ h0) (Int.fmod_lt_of_pos _ h0) k1 ⟨_, _, e1⟩
    · walk_at "S"
      refine r_ixL (SqL.of e) (atI_nat (j := 1) rfl) ?_
      walk_at "S"
      refine r_I (.inr (by decide)) ?_
      walk_at "S"
      refine r_I (by decide) ?_
      walk_at "S"
      refine r_setL e rfl fun H1 k1 e1 => ?_
      walk_at "S"
      refine r_ixL (SqL.of e1) (atI_nat (j := 1) rfl) ?_
      walk_at "S"
      refine r_I (cdivw (by decide) (by decide)) ?_
      walk_at "S"
      refine r_I (.inr (by decide)) ?_
      walk_at "S"
      refine r_I (by decide) ?_
      walk_at "S"
      refine r_I (cdivw (by decide) (by decide)) ?_
      walk_at "S"
      refine r_I (by omega) ?_
      exact q _ _ (Int.fmod_nonneg_of_pos _ h0) (Int.fmod_lt_of_pos _ h0) k1 ⟨_, _, e1⟩
abbrev s__law_bag : Stmt := top 13
theorem sc__law_bag : FnScope ["_law_script", "_law_where", "_law_cell", "_law_blend", "_law_k", "_law_each"] ["_law_script", "_law_where"] (defScope s__law_bag) :=
  ⟨rfl, rfl, rfl, by decide +kernel, rfl, by decide +kernel, by decide +kernel⟩
theorem ok__law_bag {f : Addr} {fd : FuncData} (F : Fun K "_law_bag" "_law_bag" s__law_bag f fd) (T : Txt K mg C_Cover C_TooMany C_SilentswapsError) :
    FnOk P w K mg base CX0 2 f fd ["_law_script", "_law_where"] (sp__law_bag K) := by
  refine F.ok sc__law_bag (fun vs H Q E h => ?_) (fun cdv A outer s H vs Q E hr h => ?_)
  · obtain ⟨a, ns, k, rfl, _⟩ := h
    rfl
  · obtain ⟨a, ns, k, rfl, hS, hn, hk, q⟩ := h
    have hu := hu_of hr
    have hu64 := hr.units
    refine ⟨_, (pss_cons (ps_set (i := 2) sc__law_bag.nd rfl (by first | exact Or.inl rfl | exact Or.inr rfl) (pe_cutE (pe_ifExp (pt_cmpR op_lt (pv 1) (pe_callB (K_len (K := K) rfl) (by rfl) T.z_len (by decide +kernel) (pa_cons (pv 0) pa_nil)) (nomark _)) (pe_ix (K_ixL (K := K) rfl) (pv 0) (pv 1) (fun _ _ => rfl)) pe_int)))
        (pss_cons (ps_set (i := 3) sc__law_bag.nd rfl (by first | exact Or.inl rfl | exact Or.inr rfl) (pe_op op_add (pe_op op_mul pe_int (pv 1)) pe_int))
        (pss_cons (ps_for PassesOwn.never (by rfl) (K_enum (K := K) rfl (by rfl) T.z_enumerate (pa_cons (pe_slice (K_slL (K := K) rfl) (pv 0) po_none (po_some pe_int)) pa_nil)) (K_gtup (K := K) (n := 2) rfl (by rfl) (pgs_cons (pg_name (i := 4) sc__law_bag.nd rfl (by first | exact Or.inl rfl | exact Or.inr rfl)) (pgs_cons (pg_name (i := 5) sc__law_bag.nd rfl (by first | exact Or.inl rfl | exact Or.inr rfl)) pgs_nil)))
          (pss_one (ps_set (i := 3) sc__law_bag.nd rfl (by first | exact Or.inl rfl | exact Or.inr rfl) (pe_op op_modN (pe_callTy cr_int (by rfl) T.z_int (by decide +kernel) (pa_cons (pe_op op_add (pe_op op_add (pe_op op_add (pe_op op_mul (pv 3) pe_int) (pe_op op_modN (pe_callTy cr_int (by rfl) T.z_int (by decide +kernel) (pa_cons (pv 5) pa_nil)) pe_int)) (pe_op op_mul pe_int (pv 4))) pe_int) pa_nil)) pe_int))))
        (pss_one (ps_ret (pe_lst (pa_cons (pe_ifExp (pt_cmpR op_ge (pe_callB cr_abs (by rfl) T.z_abs (by decide +kernel) (pa_cons (pv 2) pa_nil)) (pe_op op_pow pe_int pe_int) (nomark _)) (pe_callB cr_abs (by rfl) T.z_abs (by decide +kernel) (pa_cons (pv 2) pa_nil)) pe_int) (pa_cons (pv 3) pa_nil)))))))), ?_⟩
    walk_at "S"
    refine r_cutE (fun x H' => H = H' ∧ ∃ z, x = V.int z) ?_ ?_
    · walk_at "S"
      refine r_lenL hS ?_
      walk_at "S"
      refine r_kIf (fun c => ?_) (fun c => ?_)
      all_goals walk_at "S"
      · have c' : (k : Int) < ((ns.map V.int).length : Nat) := of_decide_eq_true c
        obtain ⟨v, hv, hm, _⟩ := atI_in (l := ns.map V.int) (i := (k : Int)) (by omega) c'
        obtain ⟨z, _, rfl⟩ := List.mem_map.mp hm
        exact r_ixL hS hv ⟨rfl, z, rfl⟩
      · exact ⟨rfl, 0, rfl⟩
    rintro x H' ⟨rfl, z, rfl⟩
    walk_at "S"
    refine r_I (.inl (by decide)) ?_
    walk_at "S"
    refine r_slL hS fun l H1 nl k1 e1 => ?_
    rw [show (some (40 : Int)) = some ((40 : Nat) : Int) from rfl, cut_to] at e1
    refine r_cEnum (SqL.of e1) ?_
    have hlen : ((ns.map V.int).take 40).length ≤ 40 := List.length_take_le _ _
    refine r_kFor (walk_enum (xs := (ns.map V.int).take 40)) (fun i σ' H' => ∃ (b : Int) (v4 v5 : Option V), σ' = [some (.ref a), some (.int (k : Int)), some (.int z), some (.int b), v4, v5] ∧ Kp [] H1 H') ⟨_, none, none, rfl, Kp.refl _ _⟩ (fun i σ' H' _ h => ?_) ?_ ?_
    · obtain ⟨_, _, _, _, k2⟩ := h
      exact SqL.of (k2 _ _ e1 not_nil)
    · rintro i x σ' H2 H3 hi ⟨b, v4, v5, rfl, k2⟩ ⟨t, u, v, rfl, nt, rfl, hu, hx⟩
      cases hu
      have hx' : (ns.map V.int)[i]? = some v := by
        have e : ((ns.map V.int).take 40)[i]? = some v := hx
        rw [List.getElem?_take] at e
        split at e
        · exact e
        · cases e
      obtain ⟨y, _, rfl⟩ := map_at hx'
      refine r_gtup (SqT.of upd_same) rfl ?_
      walk_at "S"
      refine r_I (.inr (by decide)) ?_
      walk_at "S"
      refine r_I (by decide) ?_
      walk_at "S"
      refine r_I (.inl (by decide)) ?_
      walk_at "S"
      refine r_I (by decide) ?_
      walk_at "S"
      exact ⟨_, _, _, rfl, k2.trans (Kp.new nt)⟩
    · rintro σ' H2 ⟨b, v4, v5, rfl, k2⟩
      walk_at "S"
      refine r_I ⟨by decide, by decide, by decide⟩ ?_
      walk_at "S"
      refine r_kIf (fun c => ?_) (fun c => ?_)
      all_goals
        walk_at "S"
        refine r_kLst (xs := [V.int _, V.int _]) (by show 2 ≤ sizeLine; decide) fun p H3 np k3 e3 => ?_
        exact q p H3 ((k1.trans k2).free np not_nil) ((k1.trans k2).trans k3) ⟨_, _, e3⟩

/-! ### drawn names -/
def SignOk (c : Nat) : Prop := 97 ≤ c ∧ c ≤ 122
/-- a name of at most n signs, with an x -/
def NameX (n : Nat) (w : Str) : Prop := 120 ∈ w.cps.toList ∧ (∀ c ∈ w.cps.toList, SignOk c) ∧ w.length ≤ n
def lawLetters : Str := "abcdefghijklmnopqrstuvw"
theorem lawLetters_ok : ∀ c ∈ lawLetters.cps.toList, SignOk c := by
  have e : lawLetters.cps.toList = [97, 98, 99, 100, 101, 102, 103, 104, 105, 106, 107, 108, 109, 110, 111, 112, 113, 114, 115, 116, 117, 118, 119] := by decide +kernel
  rw [e]
  intro c hc
  simp only [List.mem_cons, List.not_mem_nil, or_false] at hc
  unfold SignOk
  omega
theorem lawLetters_len : lawLetters.cps.toList.length = 23 := by decide +kernel
theorem app_list (a b : Str) : (a ++ b).cps.toList = a.cps.toList ++ b.cps.toList := Array.toList_append
theorem empty_list : (Str.ofString "").cps.toList = [] := by decide +kernel
theorem join_empty' : ∀ ys : List Str, (Str.join (Str.ofString "") ys).cps.toList = (ys.map fun y => y.cps.toList).flatten
  | [] => rfl
  | [y] => by
    show y.cps.toList = _
    simp
  | y :: z :: ys => by
    have ih := join_empty' (z :: ys)
    show ((y ++ Str.ofString "") ++ Str.join (Str.ofString "") (z :: ys)).cps.toList = _
    rw [app_list, app_list, ih, empty_list, List.append_nil]
    simp
theorem join_empty (ys : List Str) : (Txt.join (Str.ofString "") ys).cps.toList = (ys.map fun y => y.cps.toList).flatten := by
  rw [TL.join_eq]
  exact join_empty' ys
theorem cut_mem {z : Str} {lo hi : Option Int} : ∀ c ∈ (cutS z lo hi).cps.toList, c ∈ z.cps.toList := fun c h => by
  have h' : c ∈ ((z.cps.toList.drop (HT.sIx z.length 0 lo)).take (HT.sIx z.length z.length hi - HT.sIx z.length 0 lo)) := h
  exact List.mem_of_mem_drop (List.mem_of_mem_take h')
theorem mul_ok {c : Nat} {n : Int} (h : n = 1 ∨ n = 2) : MulOk ⟨#[c]⟩ n := by
  rcases h with rfl | rfl
  · exact ⟨by decide, fun _ z => by simp at z, fun _ z => by simp at z⟩
  · exact ⟨by decide, fun _ _ => by show ¬ (((1 : Nat) : Int) > (2 ^ 63 - 1) / 2); decide, fun _ _ => by
      show decide (1 * 2 > sizeLine) = false
      decide⟩
theorem mul_list {c : Nat} {n : Int} (h : n = 1 ∨ n = 2) : (∀ x ∈ (Txt.mul ⟨#[c]⟩ n).cps.toList, x = c) ∧ (Txt.mul ⟨#[c]⟩ n).length ≤ 2 := by
  rcases h with rfl | rfl
  · refine ⟨fun x hx => ?_, ?_⟩
    · have hx : x ∈ [c] := hx
      simpa using hx
    · show (#[c] : Array Nat).size ≤ 2
      simp
  · refine ⟨fun x hx => ?_, ?_⟩
    · have hx : x ∈ [c, c] := hx
      simpa using hx
    · show (#[c, c] : Array Nat).size ≤ 2
      simp
theorem mul_head {c : Nat} {n : Int} (h : n = 1 ∨ n = 2) : (Txt.mul ⟨#[c]⟩ n).cps.toList[0]? = some c := by
  rcases h with rfl | rfl <;> rfl
theorem at_behind {l m r : List Nat} {c : Nat} (h : m[0]? = some c) : (l ++ (m ++ r))[l.length]? = some c := by
  rw [List.getElem?_append_right (Nat.le_refl _), Nat.sub_self]
  cases m with
  | nil => simp at h
  | cons x m => exact h
theorem lawLetters_nodup : lawLetters.cps.toList.Nodup := by decide +kernel
/-- words that ascend -/
def AscW (ws : List Str) : Prop := ws.Pairwise fun a b => PySem.W.dataLt (.str b) (.str a) = false ∧ a ≠ b
theorem asc_nd {ws : List Str} (h : AscW ws) : ws.Nodup := h.imp fun {a b} z => z.2
theorem letters_asc : lawLetters.cps.toList.Pairwise (· < ·) := by decide +kernel
theorem asc_at {ws : List Str} {pre : List Nat} (h : ∀ (j : Nat) (w : Str), ws[j]? = some w → ∃ c t, lawLetters.cps.toList[j]? = some c ∧ w.cps.toList = pre ++ c :: t) : AscW ws := by
  refine List.pairwise_iff_getElem.mpr fun i j hi hj hij => ?_
  obtain ⟨c1, t1, l1, e1⟩ := h i ws[i] (List.getElem?_eq_getElem hi)
  obtain ⟨c2, t2, l2, e2⟩ := h j ws[j] (List.getElem?_eq_getElem hj)
  obtain ⟨b1, g1⟩ := List.getElem?_eq_some_iff.mp l1
  obtain ⟨b2, g2⟩ := List.getElem?_eq_some_iff.mp l2
  have lt := List.pairwise_iff_getElem.mp letters_asc i j b1 b2 hij
  rw [g1, g2] at lt
  have hlt : ws[i].cps.toList < ws[j].cps.toList := by
    rw [e1, e2]
    exact List.append_left_lt (List.cons_lt_cons_iff.mpr (.inl lt))
  refine ⟨?_, fun e => ?_⟩
  · rw [PySem.W.dataLt_str, decide_eq_false]
    exact lt_asy _ _ hlt
  · rw [e] at hlt
    exact lt_asy _ _ hlt hlt
def sp__law_words (_K : PySem.W.Frag) : Sp := fun vs H Q _ => ∃ (p : Addr), vs = [.ref p] ∧ BagL H p ∧
  ∀ (l : Addr) (ws : List Str) H', H l = none → Kp [p] H H' → H' l = some (.lst (ws.map V.str)) → BagL H' p → ws.length = 23 → (∀ w ∈ ws, NameX 7 w) → ws.Nodup → AscW ws → Q (.ref l) H'
abbrev s__law_words : Stmt := top 17
theorem sc__law_words : FnScope ["_law_bag_here", "_law_letters", "_law_turn", "_law_body", "_law_where", "_law_more", "_law_k", "_law_tag"] ["_law_bag_here"] (defScope s__law_words) :=
  ⟨rfl, rfl, rfl, by decide +kernel, rfl, by decide +kernel, by decide +kernel⟩
theorem ok__law_words {f : Addr} {fd : FuncData} (F : Fun K "_law_words" "_law_words" s__law_words f fd) (T : Txt K mg C_Cover C_TooMany C_SilentswapsError) (U__law_take : Use P w K mg base 2 "_law_take" ["_law_bag_here", "_law_many"] (sp__law_take K)) :
    FnOk P w K mg base CX0 4 f fd ["_law_bag_here"] (sp__law_words K) := by
  refine F.ok sc__law_words (fun vs H Q E h => ?_) (fun cdv A outer s H vs Q E hr h => ?_)
  · obtain ⟨p, rfl, _⟩ := h
    rfl
  · obtain ⟨p, rfl, hb, q⟩ := h
    have hu := hu_of hr
    have hu64 := hr.units
    refine ⟨_, (pss_cons (ps_set (i := 1) sc__law_words.nd rfl (by first | exact Or.inl rfl | exact Or.inr rfl) pe_str)
        (pss_cons (ps_set (i := 3) sc__law_words.nd rfl (by first | exact Or.inl rfl | exact Or.inr rfl) (K_join (K := K) rfl pe_str (pe_lc (own := [("_law_turn", 2)]) (by rfl) sc__law_words.nd (pi_range1 (by rfl) T.z_range (pa_cons (pe_use U__law_take (hr.mono (by first | decide | omega)) (by rfl) (pa_cons (pv 0) (pa_cons pe_int pa_nil))) pa_nil)) (blkOk_by (own := [("_law_turn", 2)]) (N := ["_law_bag_here", "_law_letters", "_law_turn", "_law_body", "_law_where", "_law_more", "_law_k", "_law_tag"]) (sc := defScope s__law_words) (by decide +kernel)) (fun _ _ _ _ _ => (pg_name (i := 2) sc__law_words.nd rfl (by first | exact Or.inl rfl | exact Or.inr rfl))) (fun _ _ _ _ _ => pts_nil) (fun _ _ _ _ _ => (pe_ix ix_str (pv 1) (pe_use U__law_take (hr.mono (by first | decide | omega)) (by rfl) (pa_cons (pv 0) (pa_cons pe_int pa_nil))) (fun _ _ => rfl))))))
        (pss_cons (ps_asg (pe_tup (pa_cons (pe_use U__law_take (hr.mono (by first | decide | omega)) (by rfl) (pa_cons (pv 0) (pa_cons (pe_op op_add (pe_callB cr_lenS (by rfl) T.z_len (by decide +kernel) (pa_cons (pv 3) pa_nil)) pe_int) pa_nil))) (pa_cons (pe_use U__law_take (hr.mono (by first | decide | omega)) (by rfl) (pa_cons (pv 0) (pa_cons pe_int pa_nil))) pa_nil))) (K_gtup (K := K) (n := 2) rfl (by rfl) (pgs_cons (pg_name (i := 4) sc__law_words.nd rfl (by first | exact Or.inl rfl | exact Or.inr rfl)) (pgs_cons (pg_name (i := 5) sc__law_words.nd rfl (by first | exact Or.inl rfl | exact Or.inr rfl)) pgs_nil))))
        (pss_one (ps_ret (pe_lc (own := [("_law_k", 6), ("_law_tag", 7)]) (by rfl) sc__law_words.nd (K_enumS (K := K) rfl (by rfl) T.z_enumerate (pa_cons (pv 1) pa_nil)) (blkOk_by (own := [("_law_k", 6), ("_law_tag", 7)]) (N := ["_law_bag_here", "_law_letters", "_law_turn", "_law_body", "_law_where", "_law_more", "_law_k", "_law_tag"]) (sc := defScope s__law_words) (by decide +kernel)) (fun _ _ _ _ _ => (K_gtup (K := K) (n := 2) rfl (by rfl) (pgs_cons (pg_name (i := 6) sc__law_words.nd rfl (by first | exact Or.inl rfl | exact Or.inr rfl)) (pgs_cons (pg_name (i := 7) sc__law_words.nd rfl (by first | exact Or.inl rfl | exact Or.inr rfl)) pgs_nil)))) (fun _ _ _ _ _ => pts_nil) (fun _ _ _ _ _ => (pe_op op_addT (pe_op op_addT (pe_op op_addT (pe_slice sl_str (pv 3) po_none (po_some (pv 4))) (pe_op op_mulS (pv 7) (pe_op op_add pe_int (pe_op op_mul (pv 5) (pe_op op_modN (pe_callTy cr_int (by rfl) T.z_int (by decide +kernel) (pa_cons (pv 6) pa_nil)) pe_int))))) pe_str) (pe_slice sl_str (pv 3) (po_some (pv 4)) po_none))))))))), ?_⟩
    have big : 1000 ≤ sizeLine := by decide
    have hpD : ∀ {H1 : Hp} {D : Addr}, BagL H1 p → H1 D = none → D ≠ p := fun {H1 D} b n => by
      obtain ⟨o, ho⟩ := b.some
      exact ne_none ho n |>.symm.symm
    walk_at "S"
    refine ⟨p, _, rfl, hb, by decide, by decide, fun r H1 r0 r1 k1 b1 => ?_⟩
    refine r_cRng1 (by omega) ?_
    refine r_kLcR (fun D i acc H' => ∃ ys : List Str, acc = ys.map V.str ∧ Kp [p] H1 H' ∧ BagL H' p ∧ ys.length = i ∧ ∀ y ∈ ys, (∀ c ∈ y.cps.toList, SignOk c) ∧ y.length ≤ 1) (fun D H' nD k e => ⟨[], rfl, k.nil, b1.kp k not_nil, rfl, fun y m => nomatch m⟩) ?_ ?_
    · rintro D i acc H2 nD hi eD ⟨ys, rfl, k2, b2, hy, hys⟩
      have Dp := hpD b1 nD
      walk_at "S"
      refine ⟨p, _, rfl, b2, by decide, by decide, fun m H3 m0 m1 k3 b3 => ?_⟩
      obtain ⟨c, hc, hm, _⟩ := atI_in (l := lawLetters.cps.toList) m0 (by rw [lawLetters_len]; exact m1)
      refine r_ixS (z := lawLetters) (by decide) hc ?_
      refine r_kApp (k3 _ _ eD (not_one Dp)) ?_ fun H4 k4 e4 => ⟨ys ++ [⟨#[c]⟩], by rw [List.map_append]; rfl, (k2.trans k3).step nD k4, b3.kp k4 (not_one Dp.symm), by rw [List.length_append, hy]; rfl, fun y hm' => ?_⟩
      · rw [List.length_map]
        omega
      · rcases List.mem_append.mp hm' with h | h
        · exact hys y h
        · rw [List.mem_singleton.mp h]
          refine ⟨fun c' hc' => ?_, Nat.le_refl 1⟩
          have hc' : c' ∈ [c] := hc'
          rw [List.mem_singleton.mp hc']
          exact lawLetters_ok c hm
    rintro D acc H2 nD eD ⟨ys, rfl, k2, b2, hy, hys⟩
    have Dp := hpD b1 nD
    have hs := sum_le (ys := ys) (m := 1) fun y hy => (hys y hy).2
    have e0 : (Str.ofString "").length = 0 := rfl
    refine ⟨"", D, ys, rfl, rfl, .inl (SqL.of eD), ?_, ?_⟩
    · rw [e0]
      omega
    generalize hB : Txt.join (Str.ofString "") ys = B
    have hBl : B.cps.toList = (ys.map fun y => y.cps.toList).flatten := hB ▸ join_empty ys
    have hBok : ∀ c ∈ B.cps.toList, SignOk c := fun c hc => by
      rw [hBl] at hc
      obtain ⟨l, hl, hcl⟩ := List.mem_flatten.mp hc
      obtain ⟨y, my, rfl⟩ := List.mem_map.mp hl
      exact (hys y my).1 c hcl
    have hBlen : B.length ≤ 4 := by
      rw [Rd.str_length, hBl, List.length_flatten, List.map_map]
      have : (ys.map (List.length ∘ fun y : Str => y.cps.toList)) = ys.map (·.length) := List.map_congr_left fun y _ => (Rd.str_length y).symm
      rw [this]
      omega
    walk_at "S"
    refine r_lenS (by omega) ?_
    walk_at "S"
    refine ⟨p, _, rfl, b2, by omega, by omega, fun at' H3 at0 at1 k3 b3 => ?_⟩
    walk_at "S"
    refine ⟨p, _, rfl, b3, by decide, by decide, fun mo H4 mo0 mo1 k4 b4 => ?_⟩
    walk_at "S"
    refine r_kTup (xs := [V.int at', V.int mo]) (by show 2 ≤ sizeLine; decide) fun t H5 nt k5 et => ?_
    refine r_gtup (SqT.of et) rfl ?_
    walk_at "S"
    have b5 := b4.kp k5 not_nil
    refine r_kLc walk_es (fun D2 i acc H' => ∃ ws : List Str, acc = ws.map V.str ∧ Kp [p] H5 H' ∧ BagL H' p ∧ ws.length = i ∧ (∀ w ∈ ws, NameX 7 w) ∧ ∀ (j : Nat) (w : Str), ws[j]? = some w → ∃ c t, lawLetters.cps.toList[j]? = some c ∧ w.cps.toList = (cutS B none (some at')).cps.toList ++ c :: t) (fun D2 H' nD2 k e => ⟨[], rfl, k.nil, b5.kp k not_nil, rfl, (fun w m => nomatch m), fun j w h => by simp at h⟩) (fun _ _ _ _ _ _ => trivial) ?_ ?_
    · rintro D2 i acc x H6 H7 nD2 hi eD2 ⟨ws, rfl, k6, b6, hw, hws, hat⟩ ⟨t2, u, v, rfl, nt2, rfl, hu, hx⟩
      cases hu
      have Dp2 := hpD b5 nD2
      obtain ⟨c, hc, hv⟩ : ∃ c, lawLetters.cps[i]? = some c ∧ v = .str ⟨#[c]⟩ := by
        have hx : lawLetters.cps[i]?.map (fun c => V.str ⟨#[c]⟩) = some v := hx
        cases hcc : lawLetters.cps[i]? with
        | none =>
          rw [hcc] at hx
          cases hx
        | some c =>
          rw [hcc] at hx
          exact ⟨c, rfl, (Option.some.inj hx).symm⟩
      subst hv
      have hcm : SignOk c := lawLetters_ok c (by
        have := Array.mem_of_getElem? hc
        exact Array.mem_toList_iff.mpr this)
      refine r_gtup (SqT.of upd_same) rfl ?_
      walk_at "S"
      refine r_slS (by omega) ?_
      walk_at "S"
      refine r_I (by decide) ?_
      have e2 : ((i : Int)).fmod 2 = 0 ∨ ((i : Int)).fmod 2 = 1 := by
        have h0 := Int.fmod_nonneg_of_pos (i : Int) (b := 2) (by decide)
        have h1 := Int.fmod_lt_of_pos (i : Int) (b := 2) (by decide)
        omega
      have em : mo = 0 ∨ mo = 1 := by omega
      have en : 1 + mo * ((i : Int)).fmod 2 = 1 ∨ 1 + mo * ((i : Int)).fmod 2 = 2 := by
        rcases e2 with h | h <;> rcases em with h' | h' <;> rw [h, h'] <;> decide
      walk_at "S"
      refine r_I (.inl (by omega)) ?_
      walk_at "S"
      refine ⟨_, _, rfl, rfl, mul_ok en, ?_⟩
      obtain ⟨hml, hmn⟩ := mul_list (c := c) en
      have hmh := mul_head (c := c) en
      generalize Txt.mul ⟨#[c]⟩ (1 + mo * ((i : Int)).fmod 2) = M at hml hmn hmh
      have hl1 := Nat.le_trans (cutS_length B none (some at')) hBlen
      have hl2 := Nat.le_trans (cutS_length B (some at') none) hBlen
      have hx1 : (Str.ofString "x").length = 1 := rfl
      refine r_addT (by omega) ?_
      walk_at "S"
      refine r_addT (by rw [str_append_length, hx1]; omega) ?_
      walk_at "S"
      refine r_slS (by omega) ?_
      refine r_addT (by rw [str_append_length, str_append_length, hx1]; omega) ?_
      have kk : Kp [] H6 (upd H6 t2 (.tup [.int (i : Nat), .str ⟨#[c]⟩])) := Kp.new nt2
      refine r_kApp (kk _ _ eD2 not_nil) ?_ fun H8 k8 e8 => ⟨ws ++ [_], by rw [List.map_append]; rfl, (k6.trans kk.nil).step nD2 k8, (b6.kp kk not_nil).kp k8 (not_one Dp2.symm), by rw [List.length_append, hw]; rfl, fun w hm' => ?_, fun j w hj => ?_⟩
      · rw [List.length_map]
        have hi : i < lawLetters.cps.size := hi
        have : lawLetters.cps.size = 23 := by decide +kernel
        omega
      · rcases List.mem_append.mp hm' with h | h
        · exact hws w h
        · rw [List.mem_singleton.mp h]
          have ex : (Str.ofString "x").cps.toList = [120] := by decide +kernel
          refine ⟨?_, fun c' hc' => ?_, ?_⟩
          · rw [app_list, app_list, app_list, ex]
            simp
          · rw [app_list, app_list, app_list, ex] at hc'
            simp only [List.mem_append, List.mem_singleton] at hc'
            rcases hc' with ((h | h) | h) | h
            · exact hBok c' (cut_mem c' h)
            · rw [hml c' h]
              exact hcm
            · rw [h]
              exact ⟨by decide, by decide⟩
            · exact hBok c' (cut_mem c' h)
          · rw [str_append_length, str_append_length, str_append_length, hx1]
            have h1 : (cutS B none (some at')).length + (cutS B (some at') none).length ≤ 4 := by
              have e1 : (cutS B none (some at')).length = (B.cps.toList.take at'.toNat).length := by
                rw [Rd.str_length]
                have : at' = ((at'.toNat : Nat) : Int) := by omega
                have e : (cutS B none (some at')).cps.toList = (B.cps.toList.drop (HT.sIx B.length 0 none)).take (HT.sIx B.length B.length (some at') - HT.sIx B.length 0 none) := rfl
                rw [e, this, HT.sIx_nat, HT.sIx_none, List.drop_zero, Nat.sub_zero, List.length_take, List.length_take, Int.toNat_natCast, Rd.str_length]
                omega
              have e3 : (cutS B (some at') none).length = (B.cps.toList.drop at'.toNat).length := by
                rw [Rd.str_length]
                have : at' = ((at'.toNat : Nat) : Int) := by omega
                have e : (cutS B (some at') none).cps.toList = (B.cps.toList.drop (HT.sIx B.length 0 (some at'))).take (HT.sIx B.length B.length none - HT.sIx B.length 0 (some at')) := rfl
                rw [e, this, HT.sIx_nat, HT.sIx_none, List.length_take, List.length_drop, List.length_drop, Int.toNat_natCast, Rd.str_length]
                omega
              rw [e1, e3, List.length_take, List.length_drop, ← Rd.str_length]
              omega
            omega
      · by_cases hjw : j < ws.length
        · rw [List.getElem?_append_left hjw] at hj
          exact hat j w hj
        · have hj' : j = ws.length := by
            have := lt_at hj
            rw [List.length_append, List.length_singleton] at this
            omega
          subst hj'
          rw [List.getElem?_append_right (Nat.le_refl _), Nat.sub_self] at hj
          have hj : _ = w := Option.some.inj hj
          subst hj
          obtain ⟨M', hM⟩ : ∃ M', M.cps.toList = c :: M' := by
            cases h : M.cps.toList with
            | nil =>
              rw [h] at hmh
              cases hmh
            | cons x M' =>
              rw [h] at hmh
              cases hmh
              exact ⟨M', rfl⟩
          refine ⟨c, M' ++ ((Str.ofString "x").cps.toList ++ (cutS B (some at') none).cps.toList), by rw [hw, ← hc]; exact Array.getElem?_toList, ?_⟩
          rw [app_list, app_list, app_list, List.append_assoc, List.append_assoc, hM]
          rfl
    · rintro D2 acc H6 nD2 eD2 ⟨ws, rfl, k6, b6, hw, hws, hat⟩
      have k05 : Kp [p] H H5 := (k1.trans k2).trans ((k3.trans k4).trans k5.nil)
      exact q D2 ws H6 (k05.free nD2 (not_one (hpD b5 nD2))) (k05.trans k6) eD2 b6 (by rw [hw]; decide +kernel) hws (asc_nd (asc_at hat)) (asc_at hat)

/-! ### any things in a drawn order -/
def sp__law_mixed : Sp := fun vs H Q _ => ∃ (p a : Addr) (ws : List V), vs = [.ref p, .ref a] ∧ BagL H p ∧ SqL K H a ws ∧ ws.length ≤ 1000 ∧
  ∀ l H' (us : List V), us.Perm ws → H l = none → Kp [p] H H' → H' l = some (.lst us) → BagL H' p → Q (.ref l) H'
theorem perm_erase {α : Type} : ∀ (l : List α) (i : Nat) (h : i < l.length), (l[i] :: l.eraseIdx i).Perm l
  | [], _, h => absurd h (Nat.not_lt_zero _)
  | _ :: _, 0, _ => List.Perm.refl _
  | x :: l, i + 1, h => (List.Perm.swap x (l[i]'(Nat.lt_of_succ_lt_succ h)) (l.eraseIdx i)).trans ((perm_erase l i (Nat.lt_of_succ_lt_succ h)).cons x)
theorem perm_pop {α : Type} {us ls ws : List α} {i : Nat} {y : α} (h : (us ++ ls).Perm ws) (e : ls[i]? = some y) : ((us ++ [y]) ++ ls.eraseIdx i).Perm ws := by
  have hi := lt_at e
  have hy : ls[i] = y := by
    rw [List.getElem?_eq_getElem hi] at e
    exact Option.some.inj e
  have h1 : (y :: ls.eraseIdx i).Perm ls := by
    have := perm_erase ls i hi
    rw [hy] at this
    exact this
  rw [List.append_assoc]
  exact (List.Perm.append_left us h1).trans h
abbrev s__law_mixed : Stmt := top 16
theorem sc__law_mixed : FnScope ["_law_bag_here", "_law_things", "_law_left", "_law_found", "_law_turn"] ["_law_bag_here", "_law_things"] (defScope s__law_mixed) :=
  ⟨rfl, rfl, rfl, by decide +kernel, rfl, by decide +kernel, by decide +kernel⟩
theorem ok__law_mixed {f : Addr} {fd : FuncData} (F : Fun K "_law_mixed" "_law_mixed" s__law_mixed f fd) (T : Txt K mg C_Cover C_TooMany C_SilentswapsError) (U__law_take : Use P w K mg base 2 "_law_take" ["_law_bag_here", "_law_many"] (sp__law_take K)) :
    FnOk P w K mg base CX0 4 f fd ["_law_bag_here", "_law_things"] (sp__law_mixed (K := K)) := by
  refine F.ok sc__law_mixed (fun vs H Q E h => ?_) (fun cdv A outer s H vs Q E hr h => ?_)
  · obtain ⟨p, a, ws, rfl, _⟩ := h
    rfl
  · obtain ⟨p, a, ws, rfl, hb, hS, hl, q⟩ := h
    have hu := hu_of hr
    have hu64 := hr.units
    refine ⟨_, (pss_cons (ps_par (i := 2) (j := 3) (by rfl) sc__law_mixed.nd rfl rfl (by decide) rfl rfl (pa_cons (pe_callTy (K_list (K := K) rfl) (by rfl) T.z_list (by decide +kernel) (pa_cons (pv 1) pa_nil)) (pa_cons (pe_lst pa_nil) pa_nil)) (by rfl))
        (pss_cons (ps_for PassesOwn.never (by rfl) (pi_range1 (by rfl) T.z_range (pa_cons (pe_callB (K_len (K := K) rfl) (by rfl) T.z_len (by decide +kernel) (pa_cons (pv 2) pa_nil)) pa_nil)) (pg_name (i := 4) sc__law_mixed.nd rfl (by first | exact Or.inl rfl | exact Or.inr rfl))
          (pss_one (ps_expr (K_bm (K := K) rfl PySem.F.plainAttrs_list PySem.F.slot_list_append PySem.F.type_list_append mt_append (pv 3) (pa_cons (K_bm (K := K) rfl PySem.F.plainAttrs_list PySem.F.slot_list_pop PySem.F.type_list_pop mt_popAt (pv 2) (pa_cons (pe_use U__law_take (hr.mono (by first | decide | omega)) (by rfl) (pa_cons (pv 0) (pa_cons (pe_callB (K_len (K := K) rfl) (by rfl) T.z_len (by decide +kernel) (pa_cons (pv 2) pa_nil)) pa_nil))) pa_nil)) pa_nil)))))
        (pss_one (ps_ret (pv 3))))), ?_⟩
    have big : 3000 ≤ sizeLine := by decide
    walk_at "S"
    refine r_listL hS fun L H1 nL k1 eL => ?_
    walk_at "S"
    refine r_kLst (xs := []) (Nat.zero_le _) fun F H2 nF k2 eF => ?_
    walk_at "S"
    refine ⟨_, _, rfl, ?_⟩
    walk_at "S"
    have eL2 := k2 _ _ eL not_nil
    refine r_lenL (SqL.of eL2) ?_
    walk_at "S"
    refine r_cRng1 (by omega) ?_
    have b2 := (hb.kp k1 not_nil).kp k2 not_nil
    obtain ⟨ob, hob⟩ := hb.some
    have Lp : L ≠ p := ne_none hob nL
    have Fp : F ≠ p := ne_none (k1 _ _ hob not_nil) nF
    have FL : F ≠ L := ne_none eL nF
    have FLn : H F = none := k1.free nF not_nil
    refine r_kForR (fun i σ' H' => ∃ (v4 : Option V) (ls us : List V), σ' = [some (.ref p), some (.ref a), some (.ref L), some (.ref F), v4] ∧ H' L = some (.lst ls) ∧ H' F = some (.lst us) ∧ (us ++ ls).Perm ws ∧ us.length = i ∧ Kp [p] H H' ∧ BagL H' p)
      ⟨none, ws, [], rfl, eL2, eF, List.Perm.refl _, rfl, (k1.trans k2).nil, b2⟩ ?_ ?_
    · rintro i σ' H3 hi ⟨v4, ls, us, rfl, e3L, e3F, hp, hu, k3, b3⟩
      have hlen : us.length + ls.length = ws.length := by
        rw [← List.length_append]
        exact hp.length_eq
      have hi : i < ws.length := by
        have : (ws.length : Int).toNat = ws.length := by omega
        omega
      walk_at "S"
      refine r_kBMl (SqL.of e3F) ?_
      walk_at "S"
      refine r_kBMl (SqL.of e3L) ?_
      walk_at "S"
      refine r_lenL (SqL.of e3L) ?_
      walk_at "S"
      refine ⟨p, _, rfl, b3, by omega, by omega, fun r H4 r0 r1 k4 b4 => ?_⟩
      have e4L := k4 _ _ e3L (not_one Lp)
      have hr : r.toNat < ls.length := by omega
      walk_at "S"
      refine r_popAt (y := ls[r.toNat]) e4L r0 (by omega) (by omega) (List.getElem?_eq_getElem hr) fun H5 k5 e5 => ?_
      walk_at "S"
      have e5F := k5 _ _ (k4 _ _ e3F (not_one Fp)) (not_one FL)
      refine r_append e5F (by omega) fun H6 k6 e6 => ?_
      walk_at "S"
      refine ⟨_, _, us ++ [ls[r.toNat]], rfl, k6 _ _ e5 (not_one FL.symm), e6, perm_pop hp (List.getElem?_eq_getElem hr), by rw [List.length_append, hu]; rfl, ((k3.trans k4).step nL k5).step FLn k6, (b4.kp k5 (not_one Lp.symm)).kp k6 (not_one Fp.symm)⟩
    · rintro σ' H3 ⟨v4, ls, us, rfl, e3L, e3F, hp, hu, k3, b3⟩
      have hlen : us.length + ls.length = ws.length := by
        rw [← List.length_append]
        exact hp.length_eq
      have : (ws.length : Int).toNat = ws.length := by omega
      have hls : ls = [] := List.eq_nil_of_length_eq_zero (by omega)
      subst hls
      rw [List.append_nil] at hp
      walk_at "S"
      exact q F H3 us hp FLn k3 e3F b3

/-! ### _law_pairs -/
theorem dt_perm {ex : List Addr} {H : Hp} {us vs : List V} (p : us.Perm vs) : ∀ {ps : List Pr}, DtAll ex H vs (ps.map prD) → ∃ qs : List Pr, qs.Perm ps ∧ DtAll ex H us (qs.map prD) := by
  induction p with
  | nil =>
    intro ps h
    cases ps with
    | nil => exact ⟨[], .refl _, .nil⟩
    | cons _ _ => cases h
  | cons x _ ih =>
    intro ps h
    cases ps with
    | nil => cases h
    | cons p ps =>
      cases h with
      | cons h1 h2 =>
        obtain ⟨qs, pm, al⟩ := ih h2
        exact ⟨p :: qs, pm.cons _, .cons h1 al⟩
  | swap x y l =>
    intro ps h
    match ps, h with
    | [], h => cases h
    | [_], h =>
      cases h with
      | cons _ h => cases h
    | p :: q :: ps, .cons h1 (.cons h2 h3) => exact ⟨q :: p :: ps, .swap _ _ _, .cons h2 (.cons h1 h3)⟩
  | trans _ _ ih1 ih2 =>
    intro ps h
    obtain ⟨qs, pm, al⟩ := ih2 h
    obtain ⟨rs, pm2, al2⟩ := ih1 al
    exact ⟨rs, pm2.trans pm, al2⟩
/-- a pair of two different names of these -/
def PrIn (ns : List Str) (p : Pr) : Prop := p.1 ∈ ns ∧ p.2 ∈ ns ∧ p.1 ≠ p.2
theorem prIn_mk {ns : List Str} {a b : Str} (ha : a ∈ ns) (hb : b ∈ ns) (h : a ≠ b) : PrIn ns (minS a b, maxS a b) := by
  unfold PrIn minS maxS
  by_cases c : slt b a = true
  · by_cases c' : slt a b = true
    · exfalso
      rw [slt_asy c] at c'
      cases c'
    · rw [if_pos c, if_neg c']
      exact ⟨hb, ha, fun e => h e.symm⟩
  · by_cases c' : slt a b = true
    · rw [if_neg c, if_pos c']
      exact ⟨ha, hb, h⟩
    · exfalso
      exact h (slt_tri (by simpa using c') (by simpa using c))
def sp__law_pairs (K : PySem.W.Frag) : Sp := fun vs H Q _ => ∃ (p a : Addr) (ns : List Str), vs = [.ref p, .ref a] ∧ BagL H p ∧ SqL K H a (ns.map V.str) ∧ a ≠ p ∧ ns.Nodup ∧ ns.length ≤ 8 ∧
  ∀ (l : Addr) (H' : Hp) (xs : List V) (ps : List Pr), H l = none → Kp [p] H H' → H' l = some (.lst xs) → DtAll [] H' xs (ps.map prD) → BagL H' p → ps.length ≤ 60 → (∀ q ∈ ps, PrIn ns q) → Q (.ref l) H'
abbrev s__law_pairs : Stmt := top 18
theorem sc__law_pairs : FnScope ["_law_bag_here", "_law_words_here", "_law_found", "_law_dense", "_law_k", "_law_one", "_law_other"] ["_law_bag_here", "_law_words_here"] (defScope s__law_pairs) :=
  ⟨rfl, rfl, rfl, by decide +kernel, rfl, by decide +kernel, by decide +kernel⟩
theorem ok__law_pairs {f : Addr} {fd : FuncData} (F : Fun K "_law_pairs" "_law_pairs" s__law_pairs f fd) (T : Txt K mg C_Cover C_TooMany C_SilentswapsError) (U__law_take : Use P w K mg base 2 "_law_take" ["_law_bag_here", "_law_many"] (sp__law_take K)) (U__law_mixed : Use P w K mg base 4 "_law_mixed" ["_law_bag_here", "_law_things"] (sp__law_mixed (K := K))) :
    FnOk P w K mg base CX0 6 f fd ["_law_bag_here", "_law_words_here"] (sp__law_pairs K) := by
  refine F.ok sc__law_pairs (fun vs H Q E h => ?_) (fun cdv A outer s H vs Q E hr h => ?_)
  · obtain ⟨p, a, ns, rfl, _⟩ := h
    rfl
  · obtain ⟨p, a, ns, rfl, hb, hS, hap, hnd, hl, q⟩ := h
    have hu := hu_of hr
    have hu64 := hr.units
    refine ⟨_, (pss_cons (ps_if (pt_cmpR op_lt (pe_callB (K_len (K := K) rfl) (by rfl) T.z_len (by decide +kernel) (pa_cons (pv 1) pa_nil)) pe_int (nomark _))
          (pss_one (ps_ret (pe_lst pa_nil)))
          pss_nil)
        (pss_cons (ps_par (i := 2) (j := 3) (by rfl) sc__law_pairs.nd rfl rfl (by decide) rfl rfl (pa_cons (pe_lst pa_nil) (pa_cons (pe_op op_add pe_int (pe_use U__law_take (hr.mono (by first | decide | omega)) (by rfl) (pa_cons (pv 0) (pa_cons pe_int pa_nil)))) pa_nil)) (by rfl))
        (pss_cons (ps_for PassesOwn.never (by rfl) (K_enum (K := K) rfl (by rfl) T.z_enumerate (pa_cons (pv 1) pa_nil)) (K_gtup (K := K) (n := 2) rfl (by rfl) (pgs_cons (pg_name (i := 4) sc__law_pairs.nd rfl (by first | exact Or.inl rfl | exact Or.inr rfl)) (pgs_cons (pg_name (i := 5) sc__law_pairs.nd rfl (by first | exact Or.inl rfl | exact Or.inr rfl)) pgs_nil)))
          (pss_one (ps_for PassesOwn.never (by rfl) (K_pil (K := K) rfl (pe_slice (K_slL (K := K) rfl) (pv 1) (po_some (pe_op op_add (pv 4) pe_int)) po_none)) (pg_name (i := 6) sc__law_pairs.nd rfl (by first | exact Or.inl rfl | exact Or.inr rfl))
            (pss_one (ps_if (pt_cmpR op_lt (pe_use U__law_take (hr.mono (by first | decide | omega)) (by rfl) (pa_cons (pv 0) (pa_cons (pv 3) pa_nil))) pe_int (nomark _))
              (pss_one (ps_set (i := 2) sc__law_pairs.nd rfl (by first | exact Or.inl rfl | exact Or.inr rfl) (pe_op op_cat (pv 2) (pe_op op_rep (pe_lst (pa_cons (pe_tup (pa_cons (pe_callB (cr_min2S rfl) (by rfl) T.z_min (by decide +kernel) (pa_cons (pv 5) (pa_cons (pv 6) pa_nil))) (pa_cons (pe_callB (cr_max2S rfl) (by rfl) T.z_max (by decide +kernel) (pa_cons (pv 5) (pa_cons (pv 6) pa_nil))) pa_nil))) pa_nil)) (pe_op op_add pe_int (pe_callTy cr_int (by rfl) T.z_int (by decide +kernel) (pa_cons (pe_cmpR op_eq (pe_use U__law_take (hr.mono (by first | decide | omega)) (by rfl) (pa_cons (pv 0) (pa_cons pe_int pa_nil))) pe_int (nomark _)) pa_nil)))))))
              pss_nil)))))
        (pss_one (ps_ret (pe_use U__law_mixed (hr.mono (by first | decide | omega)) (by rfl) (pa_cons (pv 0) (pa_cons (pv 2) pa_nil)))))))), ?_⟩
    have big : 5000 ≤ sizeLine := by decide
    obtain ⟨ob, hob⟩ := hb.some
    walk_at "S"
    refine r_lenL hS ?_
    walk_at "S"
    refine r_kIfS (fun c => ?_) (fun _ => ?_)
    · walk_at "S"
      refine r_kLst (xs := []) (Nat.zero_le _) fun L H1 nL k1 eL => ?_
      exact q L H1 [] [] nL k1.nil eL .nil (hb.kp k1 not_nil) (by show 0 ≤ 60; omega) nofun
    walk_at "S"
    refine r_kLst (xs := []) (Nat.zero_le _) fun L H1 nL k1 eL => ?_
    walk_at "S"
    refine ⟨p, _, rfl, hb.kp k1 not_nil, by decide, by decide, fun r H2 r0 r1 k2 b2 => ?_⟩
    have Lp : L ≠ p := ne_none hob nL
    walk_at "S"
    refine ⟨_, _, rfl, ?_⟩
    walk_at "S"
    have k02 := k1.nil.trans k2
    have hS2 : SqL K H2 a (ns.map V.str) := sql_kp hS k02 (not_one hap)
    refine r_cEnum hS2 ?_
    refine r_kForEl (fun i σ' H' => ∃ (v4 v5 v6 : Option V) (L : Addr) (xs : List V) (ps : List Pr), σ' = [some (.ref p), some (.ref a), some (.ref L), some (.int (2 + r)), v4, v5, v6] ∧ Kp [p] H H' ∧ L ≠ p ∧ H' L = some (.lst xs) ∧ DtAll [p] H' xs (ps.map prD) ∧ BagL H' p ∧ ps.length + (8 - i) * (7 - i) ≤ 56 ∧ ∀ q ∈ ps, PrIn ns q)
      ⟨none, none, none, L, [], [], rfl, k02, Lp, k2 _ _ eL (not_one Lp), .nil, b2, Nat.le_refl _, nofun⟩ (fun i σ' H' _ h => let ⟨_, _, _, _, _, _, _, k, _⟩ := h; sql_kp hS k (not_one hap)) ?_ ?_
    · rintro i x t σ' H3 H4 hx ⟨v4, v5, v6, L, xs, ps, rfl, k3, Lp, e3, al3, b3, hps, hin⟩ nt k4 et
      obtain ⟨w1, hw, rfl⟩ := map_at hx
      have hi := lt_at hw
      have k04 := k3.trans k4.nil
      refine r_gtup (SqT.of et) rfl ?_
      walk_at "S"
      refine r_slL (sql_kp hS k04 (not_one hap)) fun B H5 nB k5 eB => ?_
      have eB' : H5 B = some (.lst ((ns.drop (i + 1)).map V.str)) := by
        have e := cut_from (xs := ns.map V.str) (i + 1)
        rw [eB, show (i : Int) + 1 = ((i + 1 : Nat) : Int) by omega, e, List.map_drop]
      have k45 := k4.trans k5
      obtain ⟨ob4, hob4⟩ := (b3.kp k4 not_nil).some
      have Bp : B ≠ p := ne_none hob4 nB
      have e4L := k4 _ _ e3 not_nil
      refine r_cWL (SqL.of eB') ?_
      refine r_kForL (xs := (ns.drop (i + 1)).map V.str) (fun j σ' H' => ∃ (v6 : Option V) (L : Addr) (xs : List V) (ps : List Pr), σ' = [some (.ref p), some (.ref a), some (.ref L), some (.int (2 + r)), some (.int (i : Int)), some (.str w1), v6] ∧ Kp [p] H H' ∧ L ≠ p ∧ H' L = some (.lst xs) ∧ DtAll [p] H' xs (ps.map prD) ∧ BagL H' p ∧ ps.length + (8 - i) * (7 - i) ≤ 56 + 2 * j ∧ (∀ q ∈ ps, PrIn ns q) ∧ H' B = some (.lst ((ns.drop (i + 1)).map V.str)))
        ⟨_, L, xs, ps, rfl, k3.trans k45.nil, Lp, k45 _ _ e3 not_nil, al3.mono k45.nil, b3.kp k45 not_nil, hps, hin, eB'⟩ (fun j σ' H' _ h => ?_) ?_ ?_
      · obtain ⟨_, _, _, _, _, _, _, _, _, _, _, _, e⟩ := h
        exact SqL.of e
      · rintro j u σ' H6 hu' ⟨v6, L, xs, ps, rfl, k6, Lp, e6, al6, b6, hps, hin, eB6⟩
        obtain ⟨w2, hw2, rfl⟩ := map_at hu'
        have hj := lt_at hw2
        rw [List.length_drop] at hj
        have hw2n : w2 ∈ ns := List.mem_of_mem_drop (List.mem_of_getElem? hw2)
        have hne : w1 ≠ w2 := fun e => by
          subst e
          rw [List.getElem?_drop] at hw2
          have h1 := (List.getElem?_eq_some_iff.mp hw)
          have h2 := (List.getElem?_eq_some_iff.mp hw2)
          have := (List.getElem_inj hnd).mp (h1.2.trans h2.2.symm)
          omega
        have hps90 : ps.length ≤ 100 := by omega
        walk_at "S"
        refine ⟨p, _, rfl, b6, by omega, by omega, fun z H7 z0 z1 k7 b7 => ?_⟩
        have e7 := k7 _ _ e6 (not_one Lp)
        have al7 : DtAll [p] H7 xs (ps.map prD) := al6.mono k7
        have eB7 := k7 _ _ eB6 (not_one Bp)
        walk_at "S"
        refine r_kIfS (fun c => ?_) (fun c => ?_)
        all_goals walk_at "S"
        · refine r_kTup (by show 2 ≤ sizeLine; omega) fun T1 H8 nT k8 eT => ?_
          walk_at "S"
          obtain ⟨ob7, hob7⟩ := b7.some
          have Tp : T1 ≠ p := ne_none hob7 nT
          have b8 := b7.kp k8 not_nil
          refine r_kLst (by show 1 ≤ sizeLine; omega) fun S1 H9 nS k9 eS => ?_
          walk_at "S"
          obtain ⟨ob8, hob8⟩ := b8.some
          have Sp : S1 ≠ p := ne_none hob8 nS
          have b9 := b8.kp k9 not_nil
          refine ⟨p, _, rfl, b9, by decide, by decide, fun y Ha y0 y1 ka ba => ?_⟩
          walk_at "S"
          refine r_intB ?_
          walk_at "S"
          obtain ⟨k, hk, hkk⟩ : ∃ k : Nat, (1 : Int) + (if decide (y = 0) = true then 1 else 0) = (k : Int) ∧ (k = 1 ∨ k = 2) := by
            by_cases hy : y = 0
            · exact ⟨2, by rw [decide_eq_true hy]; rfl, .inr rfl⟩
            · exact ⟨1, by rw [decide_eq_false hy]; rfl, .inl rfl⟩
          have k8a := (k8.trans k9).nil.trans ka
          have eTa := ka _ _ (k9 _ _ eT not_nil) (not_one Tp)
          have eSa := ka _ _ eS (not_one Sp)
          have hxl : xs.length = ps.length := by rw [al7.length, List.length_map]
          rw [hk]
          refine ⟨S1, (k : Int), [.ref T1], rfl, rfl, eSa, by omega, by omega, by rw [Int.toNat_natCast]; show 1 * k ≤ sizeLine; omega, fun R1 nR => ?_⟩
          have kR : Kp [] Ha (upd Ha R1 (.lst (List.replicate (k : Int).toNat [V.ref T1]).flatten)) := Kp.new nR
          have fl : (List.replicate (k : Int).toNat [V.ref T1]).flatten = List.replicate k (V.ref T1) := by
            rw [Int.toNat_natCast]
            rcases hkk with rfl | rfl <;> rfl
          refine r_cat (kR _ _ (k8a _ _ e7 (not_one Lp)) not_nil) upd_same (by rw [fl, List.length_replicate]; omega) fun L' Hb nL' kb eb => ?_
          walk_at "S"
          have bR := ba.kp kR not_nil
          obtain ⟨obR, hobR⟩ := bR.some
          have Lp' : L' ≠ p := ne_none hobR nL'
          have kRb := kR.trans kb
          have eTb := kRb _ _ eTa not_nil
          have kall : Kp [p] H7 Hb := k8a.trans kRb.nil
          have dT : Dt [p] Hb (.ref T1) (prD (minS w1 w2, maxS w1 w2)) := .tup (not_one Tp) eTb (.cons (.str _) (.cons (.str _) .nil))
          refine ⟨_, L', _, ps ++ List.replicate k (minS w1 w2, maxS w1 w2), rfl, (k6.trans k7).trans kall, Lp', eb, ?_, bR.kp kb not_nil, by rw [List.length_append, List.length_replicate]; omega, fun q m => ?_, kall _ _ eB7 (not_one Bp)⟩
          · rw [List.map_append, fl]
            refine (al7.mono kall).append ?_
            rcases hkk with rfl | rfl
            · exact .cons dT .nil
            · exact .cons dT (.cons dT .nil)
          · rcases List.mem_append.mp m with m | m
            · exact hin q m
            · rw [(List.mem_replicate.mp m).2]
              exact prIn_mk (List.mem_of_getElem? hw) hw2n hne
        · exact ⟨_, L, xs, ps, rfl, k6.trans k7, Lp, e7, al7, b7, by omega, hin, eB7⟩
      · rintro σ' H6 ⟨v6, L, xs, ps, rfl, k6, Lp, e6, al6, b6, hps, hin, eB6⟩
        rw [List.length_map, List.length_drop] at hps
        refine ⟨_, _, _, L, xs, ps, rfl, k6, Lp, e6, al6, b6, ?_, hin⟩
        have hi8 : i < 8 := by omega
        have : i = 0 ∨ i = 1 ∨ i = 2 ∨ i = 3 ∨ i = 4 ∨ i = 5 ∨ i = 6 ∨ i = 7 := by omega
        rcases this with rfl | rfl | rfl | rfl | rfl | rfl | rfl | rfl <;> omega
    · rintro σ' H3 ⟨v4, v5, v6, L, xs, ps, rfl, k3, Lp, e3, al3, b3, hps, hin⟩
      have hps : ps.length ≤ 56 := by omega
      have hxl : xs.length = ps.length := by rw [al3.length, List.length_map]
      walk_at "S"
      refine ⟨p, L, xs, rfl, b3, SqL.of e3, by omega, fun l H4 us pm nl k4 el b4 => ?_⟩
      obtain ⟨qs, pq, alq⟩ := dt_perm pm (al3.mono k4)
      refine q l H4 us qs (k3.free nl ?_) (k3.trans k4) el (alq.less fun b m => nomatch m) b4 (by rw [pq.length_eq]; omega) fun z m => hin z (pq.mem_iff.mp m)
      · intro z
        rw [List.mem_singleton.mp z] at nl
        obtain ⟨ob3, hob3⟩ := b3.some
        rw [nl] at hob3
        cases hob3

end
open PySem.W (dataLt dataLe)
section
variable {P : Program} {w : World} {K : PySem.W.Frag} {mg : Str → Option Value} {base : Heap}
variable {C_Cover : Addr} {C_TooMany : Addr} {C_SilentswapsError : Addr}
local macro_rules | `(tactic| walk_at "s") => `(tactic| (first
  | (with_reducible refine r_seq ?_)
  | (with_reducible refine r_asg ?_)
  | ((with_reducible refine' r_var (v := ?v) ?hv ?_); (case hv => exact rfl))
  | (with_reducible refine r_c ?_)
  | (with_reducible refine r_name ?_)
  | (with_reducible refine r_op ?_)
  | (with_reducible refine r_un ?_)
  | (with_reducible refine r_consA ?_)
  | (with_reducible refine r_nilA ?_)
  | (with_reducible refine r_I0 ?_)
  | (with_reducible refine r_U ?_)
  | (with_reducible refine r_eqI ?_)
  | (with_reducible refine r_neI ?_)
  | (with_reducible refine r_test ?_)
  | (with_reducible refine r_tB ?_)
  | (with_reducible refine r_kB ?_)
  | (with_reducible refine r_ifS ?_)
  | (with_reducible refine r_if ?_)
  | (with_reducible refine r_and ?_)
  | (with_reducible refine r_or ?_)
  | (with_reducible refine r_not ?_)
  | (with_reducible refine r_ret ?_)
  | (with_reducible refine r_retN ?_)
  | (with_reducible refine r_next ?_)
  | (with_reducible refine r_drop ?_)
  | (with_reducible refine r_brk ?_)
  | (with_reducible refine r_cont ?_)
  | (with_reducible refine r_andV ?_)
  | (with_reducible refine r_orV ?_)
  | (with_reducible refine r_notV ?_)
  | (with_reducible refine r_kNotV ?_)
  | (with_reducible refine r_lst ?_)
  | (with_reducible refine r_tup ?_)
  | (with_reducible refine r_dget ?_)
  | (with_reducible refine r_dput ?_)
  | (with_reducible refine r_use ?_)
  | (with_reducible refine r_cb ?_)
  | (with_reducible refine r_par ?_)
  | (with_reducible refine r_int ?_)
  | (with_reducible refine r_abs ?_)
  | (with_reducible refine r_max2 ?_)
  | (with_reducible refine r_min2 ?_)
  | (with_reducible refine r_pnil ?_)
  | (with_reducible refine r_pcons ?_)
  | (with_reducible refine r_eqS ?_)
  | (with_reducible refine r_neS ?_)
  | (with_reducible refine r_for ?_)
  | (with_reducible refine r_rng1 ?_)
  | (with_reducible refine r_rng2 ?_)
  | (with_reducible refine r_wl ?_)
  | (with_reducible refine r_wt ?_)
  | (with_reducible refine r_wq ?_)
  | (with_reducible refine r_ws ?_)
  | (with_reducible refine r_cWS ?_)
  | (with_reducible refine r_enum ?_)
  | (with_reducible refine r_zip ?_)
  | (with_reducible refine r_lc ?_)
  | (with_reducible refine r_dc ?_)
  | ((with_reducible refine r_kTurn ?ht ?_); (case ht => rfl))
  | ((with_reducible refine r_kTurnD ?ht ?_); (case ht => rfl))
  | (with_reducible refine r_yes ?_)
  | ((with_reducible refine r_kKeep1 ?hk ?_); (case hk => rfl))
  | ((with_reducible refine r_kKeepD1 ?hk ?_); (case hk => rfl))
  | (with_reducible refine r_gcons ?_)
  | (with_reducible refine r_gnil ?_)
  | (with_reducible refine r_bm ?_)
  | (with_reducible refine r_bm0 ?_)
  | (with_reducible refine r_fld ?_)
  | (with_reducible refine r_sfld ?_)
  | (with_reducible refine r_methR ?_)
  | (with_reducible refine r_makeR ?_)
  | (with_reducible refine r_chain ?_)))
local macro_rules | `(tactic| walk_at "S") => `(tactic| repeat walk_at "s")
local macro_rules | `(tactic| walk_at "D") => `(tactic| repeat' (first
  | exact AD_nil
  | refine AD_cons ?_ (fun _ _ => ?_)
  | refine ED_tup ?_ (Nat.le_trans (m := 100) (Nat.le_of_ble_eq_true rfl) (by decide))
  | refine ED_lst ?_ (Nat.le_trans (m := 100) (Nat.le_of_ble_eq_true rfl) (by decide))
  | exact ED_c (by constructor)
  | exact ED_var rfl (by constructor)))
local macro_rules | `(tactic| walk_at "N") => `(tactic| repeat' (first
  | exact AN_nil
  | refine AN_cons ?_ (fun _ _ => ?_)
  | refine EN_tup ?_ (Nat.le_trans (m := 100) (Nat.le_of_ble_eq_true rfl) (by decide))
  | refine EN_lst ?_ (Nat.le_trans (m := 100) (Nat.le_of_ble_eq_true rfl) (by decide))
  | exact EN_c (fun _ => by constructor)
  | exact EN_var rfl (fun _ => by constructor)))

local macro_rules | `(tactic| walk_at "s") => `(tactic| (first
  | (with_reducible refine r_sl ?_)
  | (with_reducible refine r_kS1 ?_)
  | (with_reducible refine r_kS2 ?_)
  | (with_reducible refine r_kS3 ?_)
  | (with_reducible refine r_noPart ?_)
  | (with_reducible refine r_part ?_)
  | (with_reducible refine r_kPart ?_)
  | (with_reducible refine r_gsub ?_)
  | (with_reducible refine r_m1 ?_)
  | (with_reducible refine r_kM1 ?_)
  | (with_reducible refine r_propF ?_)
  | (with_reducible refine r_drp ?_)
  | (with_reducible refine r_min2S ?_)
  | (with_reducible refine r_max2S ?_)
  | (with_reducible refine r_enumS ?_)
  | (with_reducible refine r_cEnumS ?_)
  | (with_reducible refine r_makeKS ?_)
  | (with_reducible refine r_makeS ?_)))

local macro_rules | `(tactic| walk_at "s") => `(tactic| (first
  | (with_reducible refine r_mkV ?_)
  | (with_reducible refine r_ofl ?_)
  | (with_reducible refine r_methF ?_)
  | (with_reducible refine r_callF ?_)
  | (with_reducible refine r_star ?_)
  | (with_reducible refine r_smeth ?_)
  | (with_reducible refine r_kSMeth ?_)))

local macro_rules | `(tactic| walk_at "s") => `(tactic| (first
  | (with_reducible refine r_dcT ?_)
  | ((with_reducible refine r_kTurnT ?ht ?_); (case ht => rfl))
  | ((with_reducible refine r_kKeepT1 ?hk ?_); (case hk => rfl))
  | (with_reducible refine r_own ?_)
  | (with_reducible refine r_cmeth ?_)
  | (with_reducible refine r_kCMeth ?_)
  | (with_reducible refine r_makeS1 ?_)
  | ((with_reducible refine r_makeV ?hv ?_); (case hv => rfl))
  | (with_reducible refine r_isBl ?_)
  | (with_reducible refine r_ltS ?_)
  | (with_reducible refine r_makeW ?_)
  | (with_reducible refine r_kMakeW0 ?_)
  | (with_reducible refine r_lr1 ?_)
  | (with_reducible refine r_lc2 ?_)
  | ((with_reducible refine r_kTurn2 ?ht ?_); (case ht => rfl))
  | ((with_reducible refine r_kKeep2 ?hk ?_); (case hk => rfl))))

local macro_rules | `(tactic| walk_at "s") => `(tactic| (first
  | (with_reducible refine r_tTruOwn ?_)
  | (with_reducible refine r_notOwn ?_)
  | (with_reducible refine r_par3 ?_)))

local macro_rules | `(tactic| walk_at "s") => `(tactic| (first
  | (with_reducible refine Rd.r_join ?_)
  | (with_reducible refine r_jCons ?_)
  | (with_reducible refine r_jNil ?_)
  | (with_reducible refine r_fmt ?_)
  | (with_reducible refine r_lsItems ?_)
  | (with_reducible refine r_lsKeys ?_)
  | (with_reducible refine r_iKeys ?_)
  | (with_reducible refine r_revL ?_)))

local macro_rules | `(tactic| walk_at "s") => `(tactic| (first
  | ((with_reducible refine r_aug ?ha ?_); (case ha => rfl))
  | (with_reducible refine r_kAugI ?_)
  | (with_reducible refine r_delL ?_)
  | (with_reducible refine r_methX ?_)))

local macro_rules | `(tactic| walk_at "s") => `(tactic| (first
  | (with_reducible refine r_tupF ?_)
  | (with_reducible refine r_wordsL ?_)
  | (with_reducible refine r_wordsT ?_)
  | (with_reducible refine r_mT ?_)))

local macro_rules | `(tactic| walk_at "s") => `(tactic| (first
  | (with_reducible refine r_useX ?_)))

/-! ### Cover.__eq__, _law_refuses -/
theorem kit_self {K : PySem.W.Frag} {C : Addr} : PySem.W.kitOne K (.ref C) (.ref C) = some true := by
  unfold PySem.W.kitOne
  rw [if_pos]
  exact beq_self_eq_true _
/-! ### Kinds.__len__, __iter__, __eq__ -/
theorem eqv_strs2 : ∀ (a b : List Str), PyData.eqvAll (a.map .str) (b.map .str) = decide (a = b)
  | [], [] => rfl
  | [], _ :: _ => rfl
  | _ :: _, [] => rfl
  | x :: a, y :: b => by
    show (PyData.eqv (.str x) (.str y) && PyData.eqvAll (a.map .str) (b.map .str)) = _
    rw [eqv_strs2 a b]
    show ((x == y) && _) = _
    by_cases h : x = y
    · by_cases g : a = b
      · rw [h, g, beq_self_eq_true, decide_eq_true rfl, decide_eq_true rfl]
        rfl
      · rw [decide_eq_false g, decide_eq_false fun z => g (List.cons.inj z).2, Bool.and_false]
    · rw [decide_eq_false fun z => h (List.cons.inj z).1, beq_eq_false_iff_ne.mpr h]
      rfl
theorem eqv_rows2 : ∀ (R S : List (List Str)), PyData.eqvAll (R.map tupD) (S.map tupD) = decide (R = S)
  | [], [] => rfl
  | [], _ :: _ => rfl
  | _ :: _, [] => rfl
  | a :: R, b :: S => by
    show (PyData.eqvAll (a.map .str) (b.map .str) && PyData.eqvAll (R.map tupD) (S.map tupD)) = _
    rw [eqv_rows2 R S, eqv_strs2 a b]
    by_cases h : a = b
    · by_cases g : R = S
      · rw [h, g, decide_eq_true rfl, decide_eq_true rfl, decide_eq_true rfl]
        rfl
      · rw [decide_eq_false g, decide_eq_false fun z => g (List.cons.inj z).2, Bool.and_false]
    · rw [decide_eq_false fun z => h (List.cons.inj z).1, decide_eq_false h]
      rfl
theorem eqv_rowsL (R S : List (List Str)) : PyData.eqv (.list (R.map tupD)) (.list (S.map tupD)) = decide (R = S) := eqv_rows2 R S
/-- rows of good texts -/
def Fit (R : List (List Str)) : Prop := ∀ r ∈ R, ∀ x ∈ r, PyData.strOk x = true
theorem Fit.shp {R : List (List Str)} (h : Fit R) : Shp 2 (.list (R.map tupD)) := Shp.list (n := 1) (shp_rows h)
def sp_Cover___eq__ (K : PySem.W.Frag) (C : Addr) : Sp := fun vs H Q _ => ∃ (a : Addr) (y : V) (R : List (List Str)) (pd : PyData), vs = [.ref a, y] ∧ CovAt K C H a R pd ∧ Fit R ∧
  ((∃ (b : Addr) (R' : List (List Str)) (pd' : PyData), y = .ref b ∧ CovAt K C H b R' pd' ∧ Fit R' ∧ Q (.bl (decide (R = R'))) H) ∨ (∃ (l : Addr) (xs : List V), y = .ref l ∧ H l = some (.lst xs) ∧ Q (.bl false) H))
abbrev s_Cover___eq__ : Stmt := inClass (top 10) 2
theorem sc_Cover___eq__ : FnScope ["self", "other"] ["self", "other"] (defScope s_Cover___eq__) :=
  ⟨rfl, rfl, rfl, by decide +kernel, rfl, by decide +kernel, by decide +kernel⟩
theorem ok_Cover___eq__ {f : Addr} {fd : FuncData} (F : Fun K "__eq__" "Cover.__eq__" s_Cover___eq__ f fd) (T : Txt K mg C_Cover C_TooMany C_SilentswapsError) :
    FnOk P w K mg base CX0 2 f fd ["self", "other"] (sp_Cover___eq__ K C_Cover) := by
  refine F.ok sc_Cover___eq__ (fun vs H Q E h => ?_) (fun cdv A outer s H vs Q E hr h => ?_)
  · obtain ⟨a, y, R, pd, rfl, _⟩ := h
    rfl
  · obtain ⟨a, y, R, pd, rfl, hC, hF, h⟩ := h
    have hu := hu_of hr
    have hu64 := hr.units
    refine ⟨_, (pss_one (ps_ret (pe_and (pe_callB (K_isi (K := K) rfl) (by rfl) T.z_isinstance (by decide +kernel) (pa_cons (pv 1) (pa_cons (pe_globE T.v_Cover (by rfl)) pa_nil))) (pe_one (pe_cmpR (K_eqD (K := K) rfl hu64) (K_fld (K := K) rfl (pv 0) rfl) (K_fld (K := K) rfl (pv 1) rfl) (nomark _)))))), ?_⟩
    obtain ⟨dx, s, pv, rs, h1, h2, h3, h4⟩ := hC
    rcases h with ⟨b, R', pd', rfl, hC', hF', q⟩ | ⟨l, xs, rfl, el, q⟩
    all_goals walk_at "S"
    · obtain ⟨dx', s', pv', rs', g1, g2, g3, g4⟩ := hC'
      refine ⟨.ref b, .ref C_Cover, .ref C_Cover, .ref C_Cover, true, rfl, .own _, .base (.ins g1 T.c_Cover T.f_cl T.f_sp T.f_tk T.f_ob), T.f_ki, ?_⟩
      refine r_kAndV1 rfl ?_
      walk_at "S"
      refine r_kFld h1 T.c_Cover T.na_Cover_sets (cvF_s _ _) ?_
      walk_at "S"
      refine r_kFld g1 T.c_Cover T.na_Cover_sets (cvF_s _ _) ?_
      refine ⟨.list (R.map tupD), .list (R'.map tupD), .lst (SqL.of h2) h3.dp, .lst (SqL.of g2) g3.dp, hF.shp.ok (by decide), hF'.shp.ok (by decide), ?_⟩
      rw [eqv_rowsL]
      exact q
    · refine ⟨.ref l, .ref C_Cover, .type "list", .ref C_Cover, false, rfl, .own _, .base (.lst el), T.f_kl, ?_⟩
      refine r_kAndV0 rfl ?_
      exact q
/-! nine names -/
def chainP (ws : List Str) : List Pr := ws.zip (ws.drop 1)
theorem chain_at {ws : List Str} {j : Nat} {a b : Str} (h1 : ws[j]? = some a) (h2 : ws[j + 1]? = some b) : (chainP ws)[j]? = some (a, b) := by
  unfold chainP
  rw [List.getElem?_zip_eq_some]
  exact ⟨h1, by rw [List.getElem?_drop, Nat.add_comm]; exact h2⟩
theorem chain_len {ws : List Str} : (chainP ws).length = ws.length - 1 := by
  unfold chainP
  rw [List.length_zip, List.length_drop]
  omega
theorem chain_ok {ws : List Str} (h : ∀ w ∈ ws, PyData.strOk w = true) : NamesOk (chainP ws) := fun p m => by
  have := List.of_mem_zip (show (p.1, p.2) ∈ ws.zip (ws.drop 1) from m)
  exact ⟨h _ this.1, h _ (List.mem_of_mem_drop this.2)⟩
theorem chain_names {ws : List Str} (hl : 2 ≤ ws.length) (nd : ws.Nodup) : ws.length ≤ (namesOf (chainP ws)).length := nodup_le nd fun z m => by
  obtain ⟨i, hi⟩ := List.mem_iff_getElem?.mp m
  have := lt_at hi
  rw [names_mem]
  by_cases c : i + 1 < ws.length
  · exact ⟨(z, ws[i + 1]), List.mem_of_getElem? (chain_at hi (List.getElem?_eq_getElem c)), .inl rfl⟩
  · obtain ⟨j, rfl⟩ : ∃ j, i = j + 1 := ⟨i - 1, by omega⟩
    exact ⟨(ws[j], z), List.mem_of_getElem? (chain_at (List.getElem?_eq_getElem (by omega)) hi), .inr rfl⟩
def sp__law_refuses (K : PySem.W.Frag) : Sp := fun vs H Q _ => ∃ (a : Addr) (ws : List Str), vs = [.ref a] ∧ H a = some (.lst (ws.map V.str)) ∧ ws.length = 9 ∧ ws.Nodup ∧ (∀ w ∈ ws, PyData.strOk w = true) ∧ ∀ H', Kp [] H H' → Q (.bl true) H'
abbrev s__law_refuses : Stmt := top 20
theorem sc__law_refuses : FnScope ["_law_words_here", "_law_k", "e"] ["_law_words_here"] (defScope s__law_refuses) :=
  ⟨rfl, rfl, rfl, by decide +kernel, rfl, by decide +kernel, by decide +kernel⟩
theorem ok__law_refuses {f : Addr} {fd : FuncData} (F : Fun K "_law_refuses" "_law_refuses" s__law_refuses f fd) (T : Txt K mg C_Cover C_TooMany C_SilentswapsError) (U_least_covers : UseX P w K mg base 14 "least_covers" ["pairs"] (sp_least_covers K C_Cover C_TooMany)) (U_TooMany : Exc1 P w K mg base 1 "TooMany" "what" C_TooMany) :
    FnOk P w K mg base CX0 16 f fd ["_law_words_here"] (sp__law_refuses K) := by
  refine F.ok sc__law_refuses (fun vs H Q E h => ?_) (fun cdv A outer s H vs Q E hr h => ?_)
  · obtain ⟨a, ws, rfl, _⟩ := h
    rfl
  · obtain ⟨a, ws, rfl, ea, hl, hnd, hok, q⟩ := h
    have hu := hu_of hr
    have hu64 := hr.units
    refine ⟨_, (pss_cons (ps_try_as (i := 2) (Wout := fun _ _ _ _ => False) rfl rfl sc__law_refuses.nd rfl rfl ⟨rfl, by decide, Or.inl T.m_SilentswapsError⟩ takes0
          (fun W pn xe tk _ => (pss_one (ps_expr (pe_useX U_least_covers (hr.mono (by first | decide | omega)) (by rfl) (fun σ => passAt tk σ) (pa_cons (pe_lc (own := [("_law_k", 1)]) (by rfl) sc__law_refuses.nd (pi_range1 (by rfl) T.z_range (pa_cons pe_int pa_nil)) (blkOk_by (own := [("_law_k", 1)]) (N := ["_law_words_here", "_law_k", "e"]) (sc := defScope s__law_refuses) (by decide +kernel)) (fun _ _ _ _ _ => (pg_name (i := 1) sc__law_refuses.nd rfl (by first | exact Or.inl rfl | exact Or.inr rfl))) (fun _ _ _ _ _ => pts_nil) (fun _ _ _ _ _ => (pe_tup (pa_cons (pe_ix (K_ixL (K := K) rfl) (pv 0) (pv 1) (fun _ _ => rfl)) (pa_cons (pe_ix (K_ixL (K := K) rfl) (pv 0) (pe_op op_add (pv 1) pe_int) (fun _ _ => rfl)) pa_nil))))) pa_nil)))))
          (fun a oe cls d pn hz hf => (pss_one (ps_ret (pe_and (pe_callB (call_isX T.i_TooMany hz hf) (by rfl) T.z_isinstance (by decide +kernel) (pa_cons (pv 2) (pa_cons (pe_globE T.v_TooMany (by rfl)) pa_nil))) (pe_one (pe_cmpR (K_eqD (K := K) rfl hu64) (pe_xf U_TooMany.xf U_TooMany.nof hz hf (pv 2)) pe_str (nomark _))))))))
        (pss_one (ps_ret pe_bl))), ?_⟩
    have big : 5000 ≤ sizeLine := by decide
    walk_at "S"
    refine r_cRng1 (by decide) ?_
    refine r_kLcR (fun D j acc H' => Kp [] H H' ∧ DtAll [D] H' acc (((chainP ws).take j).map prD)) (fun D H' nD k e => ⟨k, .nil⟩) ?_ ?_
    · rintro D j acc H1 nD hj eD ⟨k1, al⟩
      have hj8 : j < 8 := hj
      have ea1 := k1 _ _ ea not_nil
      have a1 : ws[j]? = some ws[j] := List.getElem?_eq_getElem (by omega)
      have a2 : ws[j + 1]? = some ws[j + 1] := List.getElem?_eq_getElem (by omega)
      have hcl := chain_len (ws := ws)
      have hal : acc.length ≤ 8 := by
        rw [al.length, List.length_map, List.length_take]
        omega
      walk_at "S"
      refine r_ixL (SqL.of ea1) (atI_nat (j := j) (v := .str ws[j]) (by rw [List.getElem?_map, a1]; rfl)) ?_
      walk_at "S"
      refine r_ixL (SqL.of ea1) (by rw [show (j : Int) + 1 = ((j + 1 : Nat) : Int) by omega]; exact atI_nat (v := .str ws[j + 1]) (by rw [List.getElem?_map, a2]; rfl)) ?_
      walk_at "S"
      refine r_kTup (by show 2 ≤ sizeLine; omega) fun T1 H2 nT k2 eT => ?_
      have TD : T1 ≠ D := ne_none eD nT
      refine r_kApp (k2 _ _ eD not_nil) (by omega) fun H3 k3 e3 => ⟨(k1.trans k2).step nD k3, ?_⟩
      rw [take_more (chain_at a1 a2), List.map_append]
      exact ((al.mono k2.nil).mono k3).snoc (.tup (not_one TD) (k3 _ _ eT (not_one TD)) (.cons (.str _) (.cons (.str _) .nil)))
    rintro D acc H1 nD eD ⟨k1, al⟩
    have hcl := chain_len (ws := ws)
    have al : DtAll [] H1 acc ((chainP ws).map prD) := by
      have e : (chainP ws).take (8 : Int).toNat = chainP ws := List.take_of_length_le (by show _ ≤ 8; omega)
      rw [← e]
      exact al.less fun b m => nomatch m
    have h9 := chain_names (by omega) hnd
    walk_at "S"
    refine ⟨D, acc, chainP ws, rfl, .inl (SqL.of eD), al, by omega, chain_ok hok, fun z => by omega, fun _ e H2 ne k2 e2 => ?_⟩
    refine ⟨true, T.x_S, fun _ a0 _ => ?_, fun z => Bool.noConfusion z⟩
    walk_at "S"
    refine r_isX e2 (.own _) kit_self ?_
    refine r_kAndV1 rfl ?_
    walk_at "S"
    refine r_xf ?_
    walk_at "S"
    refine r_kXf e2 rfl ?_
    walk_at "S"
    refine r_eqD1 (ex := []) (ex' := []) (.str _) (.str _) (Shp.str (by decide +kernel) 0) (by decide) ?_
    exact q H2 (k1.trans k2)

end
open PySem.W (dataLt dataLe)
/-! ### data without lists: none of its cells is a list's -/
mutual
def noL : PyData → Bool
  | .list _ => false
  | .tuple ds => noLs ds
  | _ => true
def noLs : List PyData → Bool
  | [] => true
  | d :: ds => noL d && noLs ds
end
mutual
theorem dt_off' {ex : List Addr} {H : Hp} {p : Addr} {zs : List V} (e : H p = some (.lst zs)) : ∀ (d : PyData) (v : V), noL d = true → Dt ex H v d → Dt (p :: ex) H v d
  | .none, _, _, h => by cases h; exact .non
  | .bool b, _, _, h => by cases h; exact .bl b
  | .int i, _, _, h => by cases h; exact .int i
  | .str x, _, _, h => by cases h; exact .str x
  | .list ds, _, z, h => by cases z
  | .tuple ds, _, z, h => by
    cases h with
    | tup m e' al => exact .tup (fun y => (List.mem_cons.mp y).elim (fun q => by rw [q, e] at e'; cases e') m) e' (dts_off' e ds _ z al)
  | .dict _, _, _, h => by cases h
theorem dts_off' {ex : List Addr} {H : Hp} {p : Addr} {zs : List V} (e : H p = some (.lst zs)) : ∀ (ds : List PyData) (vs : List V), noLs ds = true → DtAll ex H vs ds → DtAll (p :: ex) H vs ds
  | [], _, _, h => by cases h; exact .nil
  | d :: ds, _, z, h => by
    have z : (noL d && noLs ds) = true := z
    obtain ⟨z1, z2⟩ := Bool.and_eq_true_iff.mp z
    cases h with
    | cons h1 h2 => exact .cons (dt_off' e d _ z1 h1) (dts_off' e ds _ z2 h2)
end
theorem noLs_all : ∀ {ds : List PyData}, (∀ d ∈ ds, noL d = true) → noLs ds = true
  | [], _ => rfl
  | d :: ds, h => by
    show (noL d && noLs ds) = true
    rw [h d List.mem_cons_self, noLs_all fun e m => h e (List.mem_cons_of_mem _ m)]
    rfl
theorem noL_prs (ps : List Pr) : noL (.tuple [.str "pairs", .tuple (ps.map prD)]) = true := by
  have h : noLs (ps.map prD) = true := noLs_all fun d m => by
    obtain ⟨p, _, rfl⟩ := List.mem_map.mp m
    rfl
  show (true && (noLs (ps.map prD) && true)) = true
  rw [h]
  rfl
theorem pfD_noL : ∀ (n : Nat) (ps : List Pr), noL (pfD n ps) = true
  | 0, ps => by
    have e : pfD 0 ps = .tuple [.str "pairs", .tuple (((apartP ps).take 0).map prD)] := by
      unfold pfD
      rw [if_pos (Nat.zero_le _)]
    rw [e]
    exact noL_prs _
  | n + 1, ps => by
    by_cases c : n + 1 ≤ (apartP ps).length
    · have e : pfD (n + 1) ps = .tuple [.str "pairs", .tuple (((apartP ps).take (n + 1)).map prD)] := by
        unfold pfD
        rw [if_pos c]
      rw [e]
      exact noL_prs _
    · cases ps with
      | nil =>
        have e : pfD (n + 1) [] = .none := by
          rw [pfD, if_neg c]
          exact fun _ _ _ _ z => nomatch z
        rw [e]
        rfl
      | cons p r =>
        have e : pfD (n + 1) (p :: r) = .tuple [.str "split", prD p, pfD n (lackP (p :: r) p.1), pfD n (lackP (p :: r) p.2)] := by
          rw [pfD, if_neg c]
        rw [e]
        show (true && (true && (noL (pfD n (lackP (p :: r) p.1)) && (noL (pfD n (lackP (p :: r) p.2)) && true)))) = true
        rw [pfD_noL, pfD_noL]
        rfl

/-! ### four pairs of eight names -/
def subsN : List Nat → Nat → List (List Nat)
  | _, 0 => [[]]
  | [], _ + 1 => []
  | w :: ws, n + 1 => (subsN ws n).map (w :: ·) ++ subsN ws (n + 1)
theorem subs_map (f : Nat → Str) : ∀ (ws : List Nat) (n : Nat), subs (ws.map f) n = (subsN ws n).map (List.map f)
  | _, 0 => by
    unfold subs subsN
    rfl
  | [], _ + 1 => rfl
  | w :: ws, n + 1 => by
    show (subs (ws.map f) n).map (f w :: ·) ++ subs (ws.map f) (n + 1) = ((subsN ws n).map (w :: ·) ++ subsN ws (n + 1)).map (List.map f)
    rw [subs_map f ws n, subs_map f ws (n + 1), List.map_append, List.map_map, List.map_map]
    rfl
theorem subsN_mem {c : List Nat} : ∀ {ws : List Nat} {n : Nat}, c ∈ subsN ws n → ∀ x ∈ c, x ∈ ws
  | _, 0, h => by
    unfold subsN at h
    rw [List.mem_singleton.mp h]
    exact nofun
  | [], _ + 1, h => by
    unfold subsN at h
    cases h
  | w :: ws, n + 1, h => fun x hx => by
    unfold subsN at h
    rcases List.mem_append.mp h with h | h
    · obtain ⟨c', hc', rfl⟩ := List.mem_map.mp h
      rcases List.mem_cons.mp hx with e | hx
      · rw [e]
        exact List.mem_cons_self
      · exact List.mem_cons_of_mem _ (subsN_mem hc' x hx)
    · exact List.mem_cons_of_mem _ (subsN_mem h x hx)
def evN : List (Nat × Nat) := [(0, 1), (2, 3), (4, 5), (6, 7)]
def covN (c : List Nat) : Bool := evN.all fun p => decide (p.1 ∈ c) || decide (p.2 ∈ c)
def nm (ws : List Str) (i : Nat) : Str := ws.getD i Str.empty
def evP (ws : List Str) : List Pr := evN.map fun p => (nm ws p.1, nm ws p.2)
theorem nm_at {ws : List Str} {i : Nat} (h : i < ws.length) : ws[i]? = some (nm ws i) := by
  unfold nm
  rw [List.getD_eq_getElem?_getD, List.getElem?_eq_getElem h]
  rfl
theorem nm_inj {ws : List Str} (nd : ws.Nodup) (hl : 8 ≤ ws.length) {i j : Nat} (hi : i < 8) (hj : j < 8) (e : nm ws i = nm ws j) : i = j := by
  have h1 := nm_at (ws := ws) (i := i) (by omega)
  have h2 := nm_at (ws := ws) (i := j) (by omega)
  rw [e] at h1
  obtain ⟨a1, b1⟩ := List.getElem?_eq_some_iff.mp h1
  obtain ⟨a2, b2⟩ := List.getElem?_eq_some_iff.mp h2
  exact (List.getElem_inj nd).mp (b1.trans b2.symm)
theorem in_map {ws : List Str} (nd : ws.Nodup) (hl : 8 ≤ ws.length) {c : List Nat} (hc : ∀ x ∈ c, x < 8) {i : Nat} (hi : i < 8) : nm ws i ∈ c.map (nm ws) ↔ i ∈ c := by
  constructor
  · intro h
    obtain ⟨j, mj, e⟩ := List.mem_map.mp h
    rw [← nm_inj nd hl (hc j mj) hi e]
    exact mj
  · exact fun m => List.mem_map.mpr ⟨i, m, rfl⟩
theorem ev_lt : ∀ p ∈ evN, p.1 < 8 ∧ p.2 < 8 := by decide
theorem cov_map {ws : List Str} (nd : ws.Nodup) (hl : 8 ≤ ws.length) {c : List Nat} (hc : ∀ x ∈ c, x < 8) : isCov (evP ws) (c.map (nm ws)) = covN c := by
  have key : ∀ p ∈ evN, cov1 (c.map (nm ws)) (nm ws p.1, nm ws p.2) = (decide (p.1 ∈ c) || decide (p.2 ∈ c)) := fun p m => by
    have h := ev_lt p m
    unfold cov1
    rw [decide_eq_decide.mpr (in_map nd hl hc h.1), decide_eq_decide.mpr (in_map nd hl hc h.2)]
  unfold isCov covN evP
  rw [List.all_map]
  have gen : ∀ l : List (Nat × Nat), (∀ p ∈ l, p ∈ evN) → l.all (cov1 (c.map (nm ws)) ∘ fun p => (nm ws p.1, nm ws p.2)) = l.all fun p => decide (p.1 ∈ c) || decide (p.2 ∈ c) := fun l => by
    induction l with
    | nil => exact fun _ => rfl
    | cons p l ih =>
      intro h
      rw [List.all_cons, List.all_cons, ih fun q m => h q (List.mem_cons_of_mem _ m)]
      show (cov1 _ (nm ws p.1, nm ws p.2) && _) = _
      rw [key p (h p List.mem_cons_self)]
  exact gen evN fun _ m => m
theorem covs_ev {ws : List Str} (nd : ws.Nodup) (hl : 8 ≤ ws.length) {qs : List Pr} (hs : ∀ p, p ∈ qs ↔ p ∈ evP ws) (n : Nat) : covs qs ((List.range 8).map (nm ws)) n = ((subsN (List.range 8) n).filter covN).map (List.map (nm ws)) := by
  unfold covs
  rw [subs_map, List.filter_map]
  congr 1
  refine List.filter_congr fun c hc => ?_
  show isCov qs (c.map (nm ws)) = covN c
  rw [cov_same hs, cov_map nd hl fun x hx => List.mem_range.mp (subsN_mem hc x hx)]
theorem ev4 : ((subsN (List.range 8) 4).filter covN)[0]? = some [0, 2, 4, 6] := by decide +kernel
theorem ev3 : ∀ n, n < 4 → (subsN (List.range 8) n).filter covN = [] := by decide +kernel
theorem range_eq {ws : List Str} (hl : 8 ≤ ws.length) : (List.range 8).map (nm ws) = ws.take 8 := by
  refine List.ext_getElem? fun i => ?_
  rw [List.getElem?_map, List.getElem?_take]
  by_cases h : i < 8
  · rw [if_pos h, nm_at (by omega), List.getElem?_range h]
    rfl
  · rw [if_neg h, List.getElem?_eq_none (by rw [List.length_range]; omega)]
    rfl
theorem ev_names {ws : List Str} (hl : 8 ≤ ws.length) (x : Str) : x ∈ ws.take 8 ↔ ∃ p ∈ evP ws, x = p.1 ∨ x = p.2 := by
  rw [← range_eq hl, List.mem_map]
  constructor
  · rintro ⟨i, hi, rfl⟩
    have hi := List.mem_range.mp hi
    have : ∀ i, i < 8 → ∃ p ∈ evN, i = p.1 ∨ i = p.2 := by decide
    obtain ⟨p, mp, e⟩ := this i hi
    refine ⟨_, List.mem_map.mpr ⟨p, mp, rfl⟩, ?_⟩
    rcases e with e | e
    · exact .inl (by rw [e])
    · exact .inr (by rw [e])
  · rintro ⟨q, mq, e⟩
    obtain ⟨p, mp, rfl⟩ := List.mem_map.mp mq
    have := ev_lt p mp
    rcases e with e | e
    · exact ⟨p.1, List.mem_range.mpr this.1, e.symm⟩
    · exact ⟨p.2, List.mem_range.mpr this.2, e.symm⟩
theorem ev_first {ws qs vs : List _} {n : Nat} (asc : AscW ws) (hl : 8 ≤ ws.length) (F : Found (evP ws) qs vs n) : (covs qs vs n)[0]? = some [nm ws 0, nm ws 2, nm ws 4, nm ws 6] := by
  have nd := asc_nd asc
  have a8 : (ws.take 8).Pairwise fun a b => dataLt (.str b) (.str a) = false ∧ a ≠ b := asc.sublist (List.take_sublist _ _)
  have ev : vs = (List.range 8).map (nm ws) := by
    rw [range_eq hl]
    refine sorted_eq F.sorted (a8.imp fun {a b} z => z.1) ((List.perm_ext_iff_of_nodup F.nd (a8.imp fun {a b} z => z.2)).mpr fun x => ?_)
    rw [F.names, ev_names hl]
    exact ⟨fun ⟨p, m, e⟩ => ⟨p, (F.same p).mp m, e⟩, fun ⟨p, m, e⟩ => ⟨p, (F.same p).mpr m, e⟩⟩
  subst ev
  have C := covs_ev nd hl F.same
  have n4 : n = 4 := by
    rcases Nat.lt_trichotomy n 4 with h | h | h
    · exfalso
      apply F.some
      rw [C, ev3 n h]
      rfl
    · exact h
    · exfalso
      have := F.none 4 h
      rw [C] at this
      have e := ev4
      cases hq : (subsN (List.range 8) 4).filter covN with
      | nil =>
        rw [hq] at e
        cases e
      | cons x l =>
        rw [hq] at this
        cases this
  subst n4
  rw [C, List.getElem?_map, ev4]
  rfl
/-- the covers are the same, whatever the order of the pairs -/
theorem found_covs {ps qs qs' : List Pr} {ws ws' : List Str} {n n' : Nat} (F : Found ps qs ws n) (G : Found ps qs' ws' n') : covs qs ws n = covs qs' ws' n' := by
  have sm : ∀ p, p ∈ qs ↔ p ∈ qs' := fun p => (F.same p).trans (G.same p).symm
  have ew : ws = ws' := sorted_eq F.sorted G.sorted ((List.perm_ext_iff_of_nodup F.nd G.nd).mpr fun x => by
    rw [F.names, G.names]
    exact ⟨fun ⟨p, m, e⟩ => ⟨p, (sm p).mp m, e⟩, fun ⟨p, m, e⟩ => ⟨p, (sm p).mpr m, e⟩⟩)
  subst ew
  have ec : ∀ k, covs qs ws k = covs qs' ws k := fun k => List.filter_congr fun c _ => cov_same sm c
  have en : n = n' := by
    rcases Nat.lt_trichotomy n n' with h | h | h
    · exact absurd (by rw [ec]; exact G.none n h) F.some
    · exact h
    · exact absurd (by rw [← ec]; exact F.none n' h) G.some
  rw [ec, en]
theorem Found.perm {ps rps qs : List Pr} {ws : List Str} {n : Nat} (F : Found rps qs ws n) (h : ∀ p, p ∈ rps ↔ p ∈ ps) : Found ps qs ws n := { F with same := fun p => (F.same p).trans (h p) }
theorem Found.fit {ps qs : List Pr} {ws : List Str} {n : Nat} (F : Found ps qs ws n) (h : NamesOk ps) : Fit (covs qs ws n) := fun r mr x mx => by
  obtain ⟨p, mp, e⟩ := (F.names x).mp ((covs_iff.mp mr).1.subset mx)
  have := h p ((F.same p).mp mp)
  rcases e with e | e
  · rw [e]
    exact this.1
  · rw [e]
    exact this.2

open PySem.W (dataLt dataLe)
section
variable {P : Program} {w : World} {K : PySem.W.Frag} {mg : Str → Option Value} {base : Heap}
variable {C_Cover : Addr} {C_TooMany : Addr} {C_SilentswapsError : Addr}
local macro_rules | `(tactic| walk_at "s") => `(tactic| (first
  | (with_reducible refine r_seq ?_)
  | (with_reducible refine r_asg ?_)
  | ((with_reducible refine' r_var (v := ?v) ?hv ?_); (case hv => exact rfl))
  | (with_reducible refine r_c ?_)
  | (with_reducible refine r_name ?_)
  | (with_reducible refine r_op ?_)
  | (with_reducible refine r_un ?_)
  | (with_reducible refine r_consA ?_)
  | (with_reducible refine r_nilA ?_)
  | (with_reducible refine r_I0 ?_)
  | (with_reducible refine r_U ?_)
  | (with_reducible refine r_eqI ?_)
  | (with_reducible refine r_neI ?_)
  | (with_reducible refine r_test ?_)
  | (with_reducible refine r_tB ?_)
  | (with_reducible refine r_kB ?_)
  | (with_reducible refine r_ifS ?_)
  | (with_reducible refine r_if ?_)
  | (with_reducible refine r_and ?_)
  | (with_reducible refine r_or ?_)
  | (with_reducible refine r_not ?_)
  | (with_reducible refine r_ret ?_)
  | (with_reducible refine r_retN ?_)
  | (with_reducible refine r_next ?_)
  | (with_reducible refine r_drop ?_)
  | (with_reducible refine r_brk ?_)
  | (with_reducible refine r_cont ?_)
  | (with_reducible refine r_andV ?_)
  | (with_reducible refine r_orV ?_)
  | (with_reducible refine r_notV ?_)
  | (with_reducible refine r_kNotV ?_)
  | (with_reducible refine r_lst ?_)
  | (with_reducible refine r_tup ?_)
  | (with_reducible refine r_dget ?_)
  | (with_reducible refine r_dput ?_)
  | (with_reducible refine r_use ?_)
  | (with_reducible refine r_cb ?_)
  | (with_reducible refine r_par ?_)
  | (with_reducible refine r_int ?_)
  | (with_reducible refine r_abs ?_)
  | (with_reducible refine r_max2 ?_)
  | (with_reducible refine r_min2 ?_)
  | (with_reducible refine r_pnil ?_)
  | (with_reducible refine r_pcons ?_)
  | (with_reducible refine r_eqS ?_)
  | (with_reducible refine r_neS ?_)
  | (with_reducible refine r_for ?_)
  | (with_reducible refine r_rng1 ?_)
  | (with_reducible refine r_rng2 ?_)
  | (with_reducible refine r_wl ?_)
  | (with_reducible refine r_wt ?_)
  | (with_reducible refine r_wq ?_)
  | (with_reducible refine r_ws ?_)
  | (with_reducible refine r_cWS ?_)
  | (with_reducible refine r_enum ?_)
  | (with_reducible refine r_zip ?_)
  | (with_reducible refine r_lc ?_)
  | (with_reducible refine r_dc ?_)
  | ((with_reducible refine r_kTurn ?ht ?_); (case ht => rfl))
  | ((with_reducible refine r_kTurnD ?ht ?_); (case ht => rfl))
  | (with_reducible refine r_yes ?_)
  | ((with_reducible refine r_kKeep1 ?hk ?_); (case hk => rfl))
  | ((with_reducible refine r_kKeepD1 ?hk ?_); (case hk => rfl))
  | (with_reducible refine r_gcons ?_)
  | (with_reducible refine r_gnil ?_)
  | (with_reducible refine r_bm ?_)
  | (with_reducible refine r_bm0 ?_)
  | (with_reducible refine r_fld ?_)
  | (with_reducible refine r_sfld ?_)
  | (with_reducible refine r_methR ?_)
  | (with_reducible refine r_makeR ?_)
  | (with_reducible refine r_chain ?_)))
local macro_rules | `(tactic| walk_at "S") => `(tactic| repeat walk_at "s")
local macro_rules | `(tactic| walk_at "D") => `(tactic| repeat' (first
  | exact AD_nil
  | refine AD_cons ?_ (fun _ _ => ?_)
  | refine ED_tup ?_ (Nat.le_trans (m := 100) (Nat.le_of_ble_eq_true rfl) (by decide))
  | refine ED_lst ?_ (Nat.le_trans (m := 100) (Nat.le_of_ble_eq_true rfl) (by decide))
  | exact ED_c (by constructor)
  | exact ED_var rfl (by constructor)))
local macro_rules | `(tactic| walk_at "N") => `(tactic| repeat' (first
  | exact AN_nil
  | refine AN_cons ?_ (fun _ _ => ?_)
  | refine EN_tup ?_ (Nat.le_trans (m := 100) (Nat.le_of_ble_eq_true rfl) (by decide))
  | refine EN_lst ?_ (Nat.le_trans (m := 100) (Nat.le_of_ble_eq_true rfl) (by decide))
  | exact EN_c (fun _ => by constructor)
  | exact EN_var rfl (fun _ => by constructor)))

local macro_rules | `(tactic| walk_at "s") => `(tactic| (first
  | (with_reducible refine r_sl ?_)
  | (with_reducible refine r_kS1 ?_)
  | (with_reducible refine r_kS2 ?_)
  | (with_reducible refine r_kS3 ?_)
  | (with_reducible refine r_noPart ?_)
  | (with_reducible refine r_part ?_)
  | (with_reducible refine r_kPart ?_)
  | (with_reducible refine r_gsub ?_)
  | (with_reducible refine r_m1 ?_)
  | (with_reducible refine r_kM1 ?_)
  | (with_reducible refine r_propF ?_)
  | (with_reducible refine r_drp ?_)
  | (with_reducible refine r_min2S ?_)
  | (with_reducible refine r_max2S ?_)
  | (with_reducible refine r_enumS ?_)
  | (with_reducible refine r_cEnumS ?_)
  | (with_reducible refine r_makeKS ?_)
  | (with_reducible refine r_makeS ?_)))

local macro_rules | `(tactic| walk_at "s") => `(tactic| (first
  | (with_reducible refine r_mkV ?_)
  | (with_reducible refine r_ofl ?_)
  | (with_reducible refine r_methF ?_)
  | (with_reducible refine r_callF ?_)
  | (with_reducible refine r_star ?_)
  | (with_reducible refine r_smeth ?_)
  | (with_reducible refine r_kSMeth ?_)))

local macro_rules | `(tactic| walk_at "s") => `(tactic| (first
  | (with_reducible refine r_dcT ?_)
  | ((with_reducible refine r_kTurnT ?ht ?_); (case ht => rfl))
  | ((with_reducible refine r_kKeepT1 ?hk ?_); (case hk => rfl))
  | (with_reducible refine r_own ?_)
  | (with_reducible refine r_cmeth ?_)
  | (with_reducible refine r_kCMeth ?_)
  | (with_reducible refine r_makeS1 ?_)
  | ((with_reducible refine r_makeV ?hv ?_); (case hv => rfl))
  | (with_reducible refine r_isBl ?_)
  | (with_reducible refine r_ltS ?_)
  | (with_reducible refine r_makeW ?_)
  | (with_reducible refine r_kMakeW0 ?_)
  | (with_reducible refine r_lr1 ?_)
  | (with_reducible refine r_lc2 ?_)
  | ((with_reducible refine r_kTurn2 ?ht ?_); (case ht => rfl))
  | ((with_reducible refine r_kKeep2 ?hk ?_); (case hk => rfl))))

local macro_rules | `(tactic| walk_at "s") => `(tactic| (first
  | (with_reducible refine r_tTruOwn ?_)
  | (with_reducible refine r_notOwn ?_)
  | (with_reducible refine r_par3 ?_)))

local macro_rules | `(tactic| walk_at "s") => `(tactic| (first
  | (with_reducible refine Rd.r_join ?_)
  | (with_reducible refine r_jCons ?_)
  | (with_reducible refine r_jNil ?_)
  | (with_reducible refine r_fmt ?_)
  | (with_reducible refine r_lsItems ?_)
  | (with_reducible refine r_lsKeys ?_)
  | (with_reducible refine r_iKeys ?_)
  | (with_reducible refine r_revL ?_)))

local macro_rules | `(tactic| walk_at "s") => `(tactic| (first
  | ((with_reducible refine r_aug ?ha ?_); (case ha => rfl))
  | (with_reducible refine r_kAugI ?_)
  | (with_reducible refine r_delL ?_)
  | (with_reducible refine r_methX ?_)))

local macro_rules | `(tactic| walk_at "s") => `(tactic| (first
  | (with_reducible refine r_tupF ?_)
  | (with_reducible refine r_wordsL ?_)
  | (with_reducible refine r_wordsT ?_)
  | (with_reducible refine r_mT ?_)))

local macro_rules | `(tactic| walk_at "s") => `(tactic| (first
  | (with_reducible refine r_useX ?_)))

/-! ### law -/
theorem shp_up {n m : Nat} {d : PyData} (h : Shp n d) (l : n ≤ m) : Shp m d := ⟨h.1, Nat.le_trans h.2 l⟩
theorem shp_pr {p : Pr} (h : PyData.strOk p.1 = true ∧ PyData.strOk p.2 = true) : Shp 1 (prD p) := Shp.tuple (n := 0) fun d m => by
  rcases List.mem_cons.mp m with e | m
  · rw [e]
    exact Shp.str h.1 0
  · rw [List.mem_singleton.mp m]
    exact Shp.str h.2 0
theorem shp_prs {ps : List Pr} (h : NamesOk ps) {n : Nat} (hn : 1 ≤ n) : ∀ e ∈ ps.map prD, Shp n e := fun e m => by
  obtain ⟨p, mp, rfl⟩ := List.mem_map.mp m
  exact shp_up (shp_pr (h p mp)) hn
theorem kp_l {R p : Addr} {H H' : Hp} (k : Kp [R] H H') : Kp [R, p] H H' := k.mono fun b m => by rw [List.mem_singleton.mp m]; simp
theorem prs_noL (ps : List Pr) : noLs (ps.map prD) = true := noLs_all fun d m => by
  obtain ⟨p, _, rfl⟩ := List.mem_map.mp m
  rfl
/-- a list of some names -/
structure NmL (H : Hp) (p a : Addr) (nms : List Str) : Prop where
  el : H a = some (.lst (nms.map V.str))
  ap : a ≠ p
  nd : nms.Nodup
  few : nms.length ≤ 8
  ok : ∀ w ∈ nms, PyData.strOk w = true
theorem NmL.kp {H H' : Hp} {p a : Addr} {nms : List Str} (h : NmL H p a nms) (k : Kp [p] H H') : NmL H' p a nms := { h with el := k _ _ h.el (not_one h.ap) }
theorem NmL.but {H H' : Hp} {p a D : Addr} {nms : List Str} (h : NmL H p a nms) (n : a ≠ D) (k : Kp [D] H H') : NmL H' p a nms := { h with el := k _ _ h.el (not_one n) }
/-- a list of pairs -/
structure PairL (H : Hp) (p l : Addr) (xs : List V) (ps : List Pr) : Prop where
  el : H l = some (.lst xs)
  lp : l ≠ p
  al : DtAll [p] H xs (ps.map prD)
  few : ps.length ≤ 60
  ok : NamesOk ps
  ne : ∀ q ∈ ps, q.1 ≠ q.2
  n8 : (namesOf ps).length ≤ 8
theorem PairL.kp {H H' : Hp} {p l : Addr} {xs : List V} {ps : List Pr} (h : PairL H p l xs ps) (k : Kp [p] H H') : PairL H' p l xs ps := { h with el := k _ _ h.el (not_one h.lp), al := h.al.mono k }
theorem PairL.but {H H' : Hp} {p l D : Addr} {xs zs : List V} {ps : List Pr} (h : PairL H p l xs ps) (eD : H D = some (.lst zs)) (n : l ≠ D) (k : Kp [D] H H') : PairL H' p l xs ps :=
  { h with el := k _ _ h.el (not_one n), al := ((dts_off' eD _ _ (prs_noL ps) h.al).mono (kp_l k)).less fun b m => List.mem_cons_of_mem _ m }
theorem PairL.len {H : Hp} {p l : Addr} {xs : List V} {ps : List Pr} (h : PairL H p l xs ps) : xs.length ≤ 60 := by
  rw [h.al.length, List.length_map]
  exact h.few
theorem PairL.all {H : Hp} {p l : Addr} {xs : List V} {ps : List Pr} (h : PairL H p l xs ps) : DtAll [] H xs (ps.map prD) := h.al.less fun b m => by cases m
/-- a cover that none of ex touches -/
def SeenAt (K : PySem.W.Frag) (C : Addr) (ex : List Addr) (H : Hp) (c : Addr) (R : List (List Str)) : Prop := ∃ dx s pv xs pd, H c = some (.ins C dx (cvF (.ref s) pv)) ∧ c ∉ ex ∧ H s = some (.lst xs) ∧ s ∉ ex ∧ Rows K H xs R ∧ Dt ex H pv pd
theorem SeenAt.kp {K : PySem.W.Frag} {C : Addr} {ex : List Addr} {H H' : Hp} {c q : Addr} {R : List (List Str)} {zs : List V} (h : SeenAt K C ex H c R) (m : q ∈ ex) (e : H q = some (.lst zs)) (k : Kp [q] H H') : SeenAt K C ex H' c R := by
  obtain ⟨dx, s, pv, xs, pd, h1, h2, h3, h4, h5, h6⟩ := h
  have hc : c ∉ [q] := fun z => h2 (by rw [List.mem_singleton.mp z]; exact m)
  have hs : s ∉ [q] := fun z => h4 (by rw [List.mem_singleton.mp z]; exact m)
  exact ⟨dx, s, pv, xs, pd, k _ _ h1 hc, h2, k _ _ h3 hs, h4, h5.but k e, h6.mono (k.mono fun b mb => by rw [List.mem_singleton.mp mb]; exact m)⟩
theorem SeenAt.kp0 {K : PySem.W.Frag} {C : Addr} {ex : List Addr} {H H' : Hp} {c : Addr} {R : List (List Str)} (h : SeenAt K C ex H c R) (k : Kp [] H H') : SeenAt K C ex H' c R := by
  obtain ⟨dx, s, pv, xs, pd, h1, h2, h3, h4, h5, h6⟩ := h
  exact ⟨dx, s, pv, xs, pd, k _ _ h1 not_nil, h2, k _ _ h3 not_nil, h4, h5.kp k, h6.mono k.nil⟩
theorem SeenAt.less {K : PySem.W.Frag} {C : Addr} {ex ex' : List Addr} {H : Hp} {c : Addr} {R : List (List Str)} (h : SeenAt K C ex H c R) (m : ∀ b ∈ ex', b ∈ ex) : SeenAt K C ex' H c R := by
  obtain ⟨dx, s, pv, xs, pd, h1, h2, h3, h4, h5, h6⟩ := h
  exact ⟨dx, s, pv, xs, pd, h1, fun z => h2 (m _ z), h3, fun z => h4 (m _ z), h5, h6.less m⟩
theorem SeenAt.at {K : PySem.W.Frag} {C : Addr} {ex : List Addr} {H : Hp} {c : Addr} {R : List (List Str)} (h : SeenAt K C ex H c R) : ∃ pd, CovAt K C H c R pd := by
  obtain ⟨dx, s, pv, xs, pd, h1, h2, h3, h4, h5, h6⟩ := h
  exact ⟨pd, dx, s, pv, xs, h1, h3, h5, h6.less fun b m => by cases m⟩
theorem seen_mk {K : PySem.W.Frag} {C : Addr} {H0 H1 : Hp} {c D p : Addr} {R : List (List Str)} {pd : PyData} {zs ys : List V} (h : CovF K C H0 H1 c R pd) (hn : noL pd = true) (hc : H0 c = none) (eD : H1 D = some (.lst zs)) (ep : H1 p = some (.lst ys)) (hD : H0 D ≠ none) (hp : H0 p ≠ none) : SeenAt K C [D, p] H1 c R := by
  obtain ⟨dx, s, pv, xs, h1, h2, h3, h4, h5⟩ := h
  have no : ∀ {x : Addr}, H0 x = none → x ∉ [D, p] := fun {x} hx m => by
    rcases List.mem_cons.mp m with rfl | m
    · exact hD hx
    · rw [List.mem_singleton.mp m] at hx
      exact hp hx
  exact ⟨dx, s, pv, xs, pd, h1, no hc, h2, no h5, h3, dt_off' eD _ _ hn (dt_off' ep _ _ hn h4)⟩
theorem len2 {α : Type} {l : List α} (h : l.length = 2) : ∃ x y, l = [x, y] := by
  match l, h with
  | [x, y], _ => exact ⟨x, y, rfl⟩
theorem two_at {α β : Type} {x y : α} {x' y' : β} {Pr : α → β → Prop} (h0 : Pr x x') (h1 : Pr y y') : ∀ j, j < 2 → ∃ u v, [x, y][j]? = some u ∧ [x', y'][j]? = some v ∧ Pr u v
  | 0, _ => ⟨x, x', rfl, rfl, h0⟩
  | 1, _ => ⟨y, y', rfl, rfl, h1⟩
  | _ + 2, h => by omega
def cRng3 (R : It → Hp → Prop) : List V → Hp → Prop := fun vs H1 => ∃ (i j c : Int) (n : Nat), vs = [.int i, .int j, .int c] ∧ RgC i j c n ∧ R (Itc i c n) H1
theorem r_rng3 {ta : TA} {σ : L2.St} {H : Hp} {R : It → Hp → Prop} (q : ta σ H (cRng3 R)) : iRng3 ta σ H R := q
def sp_law (K : PySem.W.Frag) : Sp := fun vs H Q _ => ∃ (a : Addr) (ns : List Int), vs = [.ref a] ∧ SqL K H a (ns.map V.int) ∧ ns.length ≤ 63 ∧ ∀ H', Q (.bl true) H'
abbrev s_law : Stmt := top 21
theorem sc_law : FnScope ["_law_script", "_law_where", "_law_bag_here", "_law_words_here", "_law_turn", "_law_listed", "_law_names", "_law_pairs_here", "_law_rows", "_law_kept", "_law_seen", "_law_k", "_law_due"] ["_law_script"] (defScope s_law) :=
  ⟨rfl, rfl, rfl, by decide +kernel, rfl, by decide +kernel, by decide +kernel⟩
theorem ok_law {f : Addr} {fd : FuncData} (F : Fun K "law" "law" s_law f fd) (T : Txt K mg C_Cover C_TooMany C_SilentswapsError) (U_Cover___len__ : UseM P w K mg base 2 C_Cover "__len__" (sp_Cover___len__ K C_Cover)) (U_Cover___eq__ : UseM P w K mg base 2 C_Cover "__eq__" (sp_Cover___eq__ K C_Cover)) (U_least_covers : UseX P w K mg base 14 "least_covers" ["pairs"] (sp_least_covers K C_Cover C_TooMany)) (U__law_bag : Use P w K mg base 2 "_law_bag" ["_law_script", "_law_where"] (sp__law_bag K)) (U__law_take : Use P w K mg base 2 "_law_take" ["_law_bag_here", "_law_many"] (sp__law_take K)) (U__law_mixed : Use P w K mg base 4 "_law_mixed" ["_law_bag_here", "_law_things"] (sp__law_mixed (K := K))) (U__law_words : Use P w K mg base 4 "_law_words" ["_law_bag_here"] (sp__law_words K)) (U__law_pairs : Use P w K mg base 6 "_law_pairs" ["_law_bag_here", "_law_words_here"] (sp__law_pairs K)) (U__law_covers : Use P w K mg base 2 "_law_covers" ["_law_pairs_here"] (sp__law_covers K)) (U__law_refuses : Use P w K mg base 16 "_law_refuses" ["_law_words_here"] (sp__law_refuses K)) :
    FnOk P w K mg base CX0 18 f fd ["_law_script"] (sp_law K) := by
  refine F.ok sc_law (fun vs H Q E h => ?_) (fun cdv A outer s H vs Q E hr h => ?_)
  · obtain ⟨a, ns, rfl, _⟩ := h
    rfl
  · obtain ⟨a, ns, rfl, hS, hl, q⟩ := h
    obtain ⟨f_Cover___len__, R_Cover___len__, M_Cover___len__⟩ := U_Cover___len__
    obtain ⟨f_Cover___eq__, R_Cover___eq__, M_Cover___eq__⟩ := U_Cover___eq__
    have hu := hu_of hr
    have hu64 := hr.units
    refine ⟨_, (pss_cons (ps_for PassesOwn.never (by rfl) (pi_range1 (by rfl) T.z_range (pa_cons (pe_callB (cr_max2 rfl) (by rfl) T.z_max (by decide +kernel) (pa_cons pe_int (pa_cons (pe_callB (cr_min2 rfl) (by rfl) T.z_min (by decide +kernel) (pa_cons pe_int (pa_cons (pe_callB (K_len (K := K) rfl) (by rfl) T.z_len (by decide +kernel) (pa_cons (pv 0) pa_nil)) pa_nil))) pa_nil))) pa_nil)) (pg_name (i := 1) sc_law.nd rfl (by first | exact Or.inl rfl | exact Or.inr rfl))
          (pss_cons (ps_set (i := 2) sc_law.nd rfl (by first | exact Or.inl rfl | exact Or.inr rfl) (pe_use U__law_bag (hr.mono (by first | decide | omega)) (by rfl) (pa_cons (pv 0) (pa_cons (pv 1) pa_nil))))
          (pss_cons (ps_set (i := 3) sc_law.nd rfl (by first | exact Or.inl rfl | exact Or.inr rfl) (pe_use U__law_words (hr.mono (by first | decide | omega)) (by rfl) (pa_cons (pv 2) pa_nil)))
          (pss_cons (ps_setLc (i := 5) (own := [("_law_turn", 4)]) (by rfl) sc_law.nd rfl rfl (sw_true rfl rfl rfl (by decide +kernel)) (pi_range1 (by rfl) T.z_range (pa_cons pe_int pa_nil)) (blkOk_by (own := [("_law_turn", 4)]) (N := ["_law_script", "_law_where", "_law_bag_here", "_law_words_here", "_law_turn", "_law_listed", "_law_names", "_law_pairs_here", "_law_rows", "_law_kept", "_law_seen", "_law_k", "_law_due"]) (sc := defScope s_law) (by decide +kernel)) (fun _ _ _ _ _ => (pg_name (i := 4) sc_law.nd rfl (by first | exact Or.inl rfl | exact Or.inr rfl))) (fun _ _ _ _ _ => pts_nil) (fun _ _ _ _ _ => (pe_slice (K_slL (K := K) rfl) (pe_use U__law_mixed (hr.mono (by first | decide | omega)) (by rfl) (pa_cons (pv 2) (pa_cons (pv 3) pa_nil))) po_none (po_some (pe_use U__law_take (hr.mono (by first | decide | omega)) (by rfl) (pa_cons (pv 2) (pa_cons pe_int pa_nil)))))))
          (pss_cons (ps_setLc (i := 7) (own := [("_law_names", 6)]) (by rfl) sc_law.nd rfl rfl (sw_true rfl rfl rfl (by decide +kernel)) (K_pil (K := K) rfl (pv 5)) (blkOk_by (own := [("_law_names", 6)]) (N := ["_law_script", "_law_where", "_law_bag_here", "_law_words_here", "_law_turn", "_law_listed", "_law_names", "_law_pairs_here", "_law_rows", "_law_kept", "_law_seen", "_law_k", "_law_due"]) (sc := defScope s_law) (by decide +kernel)) (fun _ _ _ _ _ => (pg_name (i := 6) sc_law.nd rfl (by first | exact Or.inl rfl | exact Or.inr rfl))) (fun _ _ _ _ _ => pts_nil) (fun _ _ _ _ _ => (pe_use U__law_pairs (hr.mono (by first | decide | omega)) (by rfl) (pa_cons (pv 2) (pa_cons (pv 6) pa_nil)))))
          (pss_cons (ps_setLc (i := 9) (own := [("_law_rows", 8)]) (by rfl) sc_law.nd rfl rfl (sw_true rfl rfl rfl (by decide +kernel)) (K_pil (K := K) rfl (pv 7)) (blkOk_by (own := [("_law_rows", 8)]) (N := ["_law_script", "_law_where", "_law_bag_here", "_law_words_here", "_law_turn", "_law_listed", "_law_names", "_law_pairs_here", "_law_rows", "_law_kept", "_law_seen", "_law_k", "_law_due"]) (sc := defScope s_law) (by decide +kernel)) (fun _ _ _ _ _ => (pg_name (i := 8) sc_law.nd rfl (by first | exact Or.inl rfl | exact Or.inr rfl))) (fun _ _ _ _ _ => pts_nil) (fun _ _ _ _ _ => (pe_callTy (K_list (K := K) rfl) (by rfl) T.z_list (by decide +kernel) (pa_cons (pv 8) pa_nil))))
          (pss_cons (ps_setLc (i := 10) (own := [("_law_rows", 8)]) (by rfl) sc_law.nd rfl rfl (sw_true rfl rfl rfl (by decide +kernel)) (K_pil (K := K) rfl (pv 7)) (blkOk_by (own := [("_law_rows", 8)]) (N := ["_law_script", "_law_where", "_law_bag_here", "_law_words_here", "_law_turn", "_law_listed", "_law_names", "_law_pairs_here", "_law_rows", "_law_kept", "_law_seen", "_law_k", "_law_due"]) (sc := defScope s_law) (by decide +kernel)) (fun _ _ _ _ _ => (pg_name (i := 8) sc_law.nd rfl (by first | exact Or.inl rfl | exact Or.inr rfl))) (fun _ _ _ _ _ => pts_nil) (fun _ _ _ _ _ => (pe_useX U_least_covers (hr.mono (by first | decide | omega)) (by rfl) (fun σ => passAtL σ) (pa_cons (pv 8) pa_nil))))
          (pss_cons (ps_for PassesOwn.never (by rfl) (pi_range1 (by rfl) T.z_range (pa_cons pe_int pa_nil)) (pg_name (i := 11) sc_law.nd rfl (by first | exact Or.inl rfl | exact Or.inr rfl))
            (pss_cons (ps_set (i := 12) sc_law.nd rfl (by first | exact Or.inl rfl | exact Or.inr rfl) (pe_use U__law_covers (hr.mono (by first | decide | omega)) (by rfl) (pa_cons (pe_ix (K_ixL (K := K) rfl) (pv 7) (pv 11) (fun _ _ => rfl)) pa_nil)))
            (pss_cons (ps_if (pt_cutT (PW.pt (pw_or (pt_not (pt_val (pe_callB (K_isi (K := K) rfl) (by rfl) T.z_isinstance (by decide +kernel) (pa_cons (pe_ix (K_ixL (K := K) rfl) (pv 10) (pv 11) (fun _ _ => rfl)) (pa_cons (pe_globE T.v_Cover (by rfl)) pa_nil))))) (pw_or (pt_cmpR (K_neD (K := K) rfl hu64) (K_fld (K := K) rfl (pe_ix (K_ixL (K := K) rfl) (pv 10) (pv 11) (fun _ _ => rfl)) rfl) (pv 12) (nomark _)) (pw_or (pt_cmpR op_ne (pe_callB (cr_lenOwn M_Cover___len__ R_Cover___len__ (hr.mono (by first | decide | omega))) (by rfl) T.z_len (by decide +kernel) (pa_cons (pe_ix (K_ixL (K := K) rfl) (pv 10) (pv 11) (fun _ _ => rfl)) pa_nil)) (pe_callB (K_len (K := K) rfl) (by rfl) T.z_len (by decide +kernel) (pa_cons (pe_ix (K_ixL (K := K) rfl) (pv 12) pe_int (fun _ _ => rfl)) pa_nil)) (nomark _)) (pw_or1 (pt_cmpR (K_neD (K := K) rfl hu64) (pe_ix (K_ixL (K := K) rfl) (pv 7) (pv 11) (fun _ _ => rfl)) (pe_ix (K_ixL (K := K) rfl) (pv 9) (pv 11) (fun _ _ => rfl)) (nomark _))))))))
              (pss_one (ps_ret pe_bl))
              pss_nil)
            (pss_one (ps_if (pt_cutT (PW.pt (pw_or (pt_not (pt_cmpR (op_eqOwn M_Cover___eq__ R_Cover___eq__ (hr.mono (by first | decide | omega))) (pe_ix (K_ixL (K := K) rfl) (pv 10) (pv 11) (fun _ _ => rfl)) (pe_useX U_least_covers (hr.mono (by first | decide | omega)) (by rfl) (fun σ => passAtL σ) (pa_cons (pe_callTy (K_tuple (K := K) rfl) (by rfl) T.z_tuple (by decide +kernel) (pa_cons (pe_use U__law_mixed (hr.mono (by first | decide | omega)) (by rfl) (pa_cons (pv 2) (pa_cons (pe_ix (K_ixL (K := K) rfl) (pv 7) (pv 11) (fun _ _ => rfl)) pa_nil))) pa_nil)) pa_nil)) (nomark _))) (pw_or1 (pt_cmpR (K_eqOth (K := K) rfl M_Cover___eq__ R_Cover___eq__ (hr.mono (by first | decide | omega))) (pe_ix (K_ixL (K := K) rfl) (pv 10) (pv 11) (fun _ _ => rfl)) (pv 12) (nomark _))))))
              (pss_one (ps_ret pe_bl))
              pss_nil)))))
          (pss_cons (ps_if (pt_cutT (PW.pt (pw_or (pt_cmpR op_ne (pe_cmpR (op_eqOwn M_Cover___eq__ R_Cover___eq__ (hr.mono (by first | decide | omega))) (pe_ix (K_ixL (K := K) rfl) (pv 10) pe_int (fun _ _ => rfl)) (pe_ix (K_ixL (K := K) rfl) (pv 10) pe_int (fun _ _ => rfl)) (nomark _)) (pe_cmpR (K_eqD (K := K) rfl hu64) (K_fld (K := K) rfl (pe_ix (K_ixL (K := K) rfl) (pv 10) pe_int (fun _ _ => rfl)) rfl) (K_fld (K := K) rfl (pe_ix (K_ixL (K := K) rfl) (pv 10) pe_int (fun _ _ => rfl)) rfl) (nomark _)) (nomark _)) (pw_or1 (pt_not (pt_val (pe_use U__law_refuses (hr.mono (by first | decide | omega)) (by rfl) (pa_cons (pe_slice (K_slL (K := K) rfl) (pv 3) po_none (po_some pe_int)) pa_nil))))))))
            (pss_one (ps_ret pe_bl))
            pss_nil)
          (pss_one (ps_if (pt_cmpR (K_neD (K := K) rfl hu64) (pe_ix (K_ixL (K := K) rfl) (K_fld (K := K) rfl (pe_useX U_least_covers (hr.mono (by first | decide | omega)) (by rfl) (fun σ => passAtL σ) (pa_cons (pe_lc (own := [("_law_k", 11)]) (by rfl) sc_law.nd (pi_range3 (by rfl) T.z_range (pa_cons pe_int (pa_cons pe_int (pa_cons pe_int pa_nil)))) (blkOk_by (own := [("_law_k", 11)]) (N := ["_law_script", "_law_where", "_law_bag_here", "_law_words_here", "_law_turn", "_law_listed", "_law_names", "_law_pairs_here", "_law_rows", "_law_kept", "_law_seen", "_law_k", "_law_due"]) (sc := defScope s_law) (by decide +kernel)) (fun _ _ _ _ _ => (pg_name (i := 11) sc_law.nd rfl (by first | exact Or.inl rfl | exact Or.inr rfl))) (fun _ _ _ _ _ => pts_nil) (fun _ _ _ _ _ => (pe_tup (pa_cons (pe_ix (K_ixL (K := K) rfl) (pv 3) (pv 11) (fun _ _ => rfl)) (pa_cons (pe_ix (K_ixL (K := K) rfl) (pv 3) (pe_op op_add (pv 11) pe_int) (fun _ _ => rfl)) pa_nil))))) pa_nil)) rfl) pe_int (fun _ _ => rfl)) (pe_tup (pa_cons (pe_ix (K_ixL (K := K) rfl) (pv 3) pe_int (fun _ _ => rfl)) (pa_cons (pe_ix (K_ixL (K := K) rfl) (pv 3) pe_int (fun _ _ => rfl)) (pa_cons (pe_ix (K_ixL (K := K) rfl) (pv 3) pe_int (fun _ _ => rfl)) (pa_cons (pe_ix (K_ixL (K := K) rfl) (pv 3) pe_int (fun _ _ => rfl)) pa_nil))))) (nomark _))
            (pss_one (ps_ret pe_bl))
            pss_nil)))))))))))
        (pss_one (ps_ret pe_bl))), ?_⟩
    have big : 5000 ≤ sizeLine := by decide
    walk_at "S"
    refine r_lenL hS ?_
    walk_at "S"
    have hlen : (ns.map V.int).length = ns.length := List.length_map _
    refine r_cRng1 ?_ ?_
    · rw [hlen]
      split <;> split <;> omega
    refine r_kForR (fun i σ' H' => ∃ s1 s2 s3 s4 s5 s6 s7 s8 s9 s10 s11 s12, σ' = [some (.ref a), s1, s2, s3, s4, s5, s6, s7, s8, s9, s10, s11, s12] ∧ Kp [] H H') ⟨none, none, none, none, none, none, none, none, none, none, none, none, rfl, Kp.refl _ _⟩ ?_ ?_
    · rintro i σ' H1 hi ⟨s1, s2, s3, s4, s5, s6, s7, s8, s9, s10, s11, s12, rfl, k1⟩
      have hi63 : i ≤ 63 := by
        rw [hlen] at hi
        split at hi <;> split at hi <;> omega
      walk_at "S"
      refine ⟨a, ns, i, rfl, k1.sql hS, hl, by omega, fun p H2 np k2 b2 => ?_⟩
      have k02 := k1.trans k2
      have npH : H p = none := k1.free np not_nil
      clear k1 k2
      walk_at "S"
      refine ⟨p, rfl, b2, fun L ws H3 nL k3 eL b3 hw hws hnd hasc => ?_⟩
      have wok : ∀ w ∈ ws, PyData.strOk w = true := fun w m => strOk_of (m := 122) (fun c hc => ((hws w m).2.1 c hc).2) (by decide)
      obtain ⟨ob, hob⟩ := b2.some
      have Lp : L ≠ p := ne_none hob nL
      obtain ⟨ob3, hob3⟩ := b3.some
      walk_at "S"
      refine r_cRng1 (by decide) ?_
      refine r_kLcR (fun D j acc H' => ∃ sn : List (Addr × List Str), acc = sn.map (fun z => V.ref z.1) ∧ sn.length = j ∧ Kp [p] H3 H' ∧ BagL H' p ∧ ∀ z ∈ sn, z.1 ≠ D ∧ NmL H' p z.1 z.2) (fun D H' nD k e => ⟨[], rfl, rfl, k.nil, b3.kp k not_nil, nofun⟩) ?_ ?_
      · rintro D j acc H4 nD hj eD ⟨sn, rfl, hj', k4, b4, hsn⟩
        have hj2 : j < 2 := hj
        have Dp : D ≠ p := ne_none hob3 nD
        walk_at "S"
        refine ⟨p, L, _, rfl, b4, SqL.of (k4 _ _ eL (not_one Lp)), by rw [List.length_map]; omega, fun M H5 us hus nM k5 eM b5 => ?_⟩
        obtain ⟨ob4, hob4⟩ := b4.some
        have Mp : M ≠ p := ne_none hob4 nM
        walk_at "S"
        refine ⟨p, _, rfl, b5, by decide, by decide, fun n1 H6 n10 n11 k6 b6 => ?_⟩
        walk_at "S"
        obtain ⟨n1, rfl⟩ : ∃ n : Nat, n1 = n := ⟨n1.toNat, by omega⟩
        obtain ⟨os, hos, rfl⟩ := perm_map_inv (f := V.str) hus ws rfl
        refine r_slL (SqL.of (k6 _ _ eM (not_one Mp))) fun S H7 nS k7 eS => ?_
        rw [cut_to, ← List.map_take] at eS
        obtain ⟨ob6, hob6⟩ := b6.some
        have Sp : S ≠ p := ne_none hob6 nS
        have k47 : Kp [p] H4 H7 := (k5.trans k6).trans k7.nil
        have eD7 := k47 _ _ eD (not_one Dp)
        have SD : S ≠ D := ne_none ((k5.trans k6) _ _ eD (not_one Dp)) nS
        have hnl : NmL H7 p S (os.take n1) := ⟨eS, Sp, (List.take_sublist _ _).nodup (hos.nodup_iff.mpr hnd), by rw [List.length_take]; omega, fun w m => wok w (hos.mem_iff.mp (List.mem_of_mem_take m))⟩
        refine r_kApp eD7 (by rw [List.length_map]; omega) fun H8 k8 e8 => ⟨sn ++ [(S, os.take n1)], by rw [List.map_append]; rfl, by rw [List.length_append, hj']; rfl, (k4.trans k47).step nD k8, (b6.kp k7 not_nil).kp k8 (not_one Dp.symm), fun z m => ?_⟩
        rcases List.mem_append.mp m with m | m
        · have := hsn z m
          exact ⟨this.1, (this.2.kp k47).but this.1 k8⟩
        · rw [List.mem_singleton.mp m]
          exact ⟨SD, hnl.but SD k8⟩
      rintro LL acc H4 nLL eLL ⟨sn, rfl, hsl, k4, b4, hsn⟩
      have LLp : LL ≠ p := ne_none hob3 nLL
      have k24 := k3.trans k4
      have eL4 := k4 _ _ eL (not_one Lp)
      have hsn : ∀ z ∈ sn, NmL H4 p z.1 z.2 := fun z m => (hsn z m).2
      clear k3 k4 nL nLL hob3
      walk_at "S"
      refine r_cWL (SqL.of eLL) ?_
      obtain ⟨ob4, hob4⟩ := b4.some
      refine r_kLcL (xs := sn.map fun z => V.ref z.1) (fun D j acc H' => ∃ pn : List (Addr × List V × List Pr), acc = pn.map (fun z => V.ref z.1) ∧ pn.length = j ∧ Kp [p] H4 H' ∧ BagL H' p ∧ ∀ z ∈ pn, z.1 ≠ D ∧ PairL H' p z.1 z.2.1 z.2.2) (fun D H' nD k e => ⟨[], rfl, rfl, k.nil, b4.kp k not_nil, nofun⟩) (fun D j acc H' _ h => let ⟨_, _, _, k, _⟩ := h; SqL.of (k _ _ eLL (not_one LLp))) ?_ ?_
      · rintro D j acc u H5 nD hu' eD ⟨pn, rfl, hj', k5, b5, hpn⟩
        obtain ⟨z, hz, rfl⟩ := map_at hu'
        have hj2 := lt_at hz
        have Dp : D ≠ p := ne_none hob4 nD
        have nl := (hsn z (List.mem_of_getElem? hz)).kp k5
        walk_at "S"
        refine ⟨p, z.1, z.2, rfl, b5, SqL.of nl.el, nl.ap, nl.nd, nl.few, fun l H6 xs ps nl' k6 el alx b6 hl60 hin => ?_⟩
        obtain ⟨ob5, hob5⟩ := b5.some
        have lp : l ≠ p := ne_none hob5 nl'
        have lD : l ≠ D := ne_none eD nl'
        obtain ⟨d1, d2, ep⟩ := id b6
        have hpl : PairL H6 p l xs ps := ⟨el, lp, dts_off' ep _ _ (prs_noL ps) alx, hl60, fun q m => ⟨nl.ok _ (hin q m).1, nl.ok _ (hin q m).2.1⟩, fun q m => (hin q m).2.2, by
          refine Nat.le_trans (nodup_le (wordsOf_nodup _) fun y m => ?_) nl.few
          obtain ⟨q, mq, e⟩ := names_mem.mp m
          rcases e with e | e
          · rw [e]
            exact (hin q mq).1
          · rw [e]
            exact (hin q mq).2.1⟩
        have eD6 := k6 _ _ eD (not_one Dp)
        refine r_kApp eD6 (by rw [List.length_map]; omega) fun H7 k7 e7 => ⟨pn ++ [(l, xs, ps)], by rw [List.map_append]; rfl, by rw [List.length_append, hj']; rfl, (k5.trans k6).step nD k7, b6.kp k7 (not_one Dp.symm), fun y m => ?_⟩
        rcases List.mem_append.mp m with m | m
        · have := hpn y m
          exact ⟨this.1, (this.2.kp k6).but eD6 this.1 k7⟩
        · rw [List.mem_singleton.mp m]
          exact ⟨lD, hpl.but eD6 lD k7⟩
      rintro PL acc H5 nPL ePL ⟨pn, rfl, hpl, k5, b5, hpn⟩
      have PLp : PL ≠ p := ne_none hob4 nPL
      have eL5 := k5 _ _ eL4 (not_one Lp)
      have k25 := k24.trans k5
      rw [List.length_map, hsl] at hpl
      obtain ⟨⟨l0, xs0, ps0⟩, ⟨l1, xs1, ps1⟩, rfl⟩ := len2 hpl
      have P0 : PairL H5 p l0 xs0 ps0 := (hpn _ List.mem_cons_self).2
      have P1 : PairL H5 p l1 xs1 ps1 := (hpn _ (List.mem_cons_of_mem _ List.mem_cons_self)).2
      have ePL : H5 PL = some (.lst [.ref l0, .ref l1]) := ePL
      clear hpn hsn eLL LLp hpl hsl k5 k24 eL4 hob4 b4
      walk_at "S"
      obtain ⟨ob5, hob5⟩ := b5.some
      have at2 : ∀ (j : Nat) (u : V), [V.ref l0, V.ref l1][j]? = some u → ∃ l xs ps, u = .ref l ∧ [xs0, xs1][j]? = some xs ∧ [ps0, ps1][j]? = some ps ∧ PairL H5 p l xs ps := fun j u h => by
        match j, h with
        | 0, h => exact ⟨l0, xs0, ps0, (Option.some.inj h).symm, rfl, rfl, P0⟩
        | 1, h => exact ⟨l1, xs1, ps1, (Option.some.inj h).symm, rfl, rfl, P1⟩
        | j + 2, h => cases h
      refine r_cWL (SqL.of ePL) ?_
      refine r_kLcL (xs := [V.ref l0, V.ref l1]) (fun D j acc H' => ∃ kn : List (Addr × List V), acc = kn.map (fun z => V.ref z.1) ∧ kn.length = j ∧ Kp [] H5 H' ∧ (∀ z ∈ kn, z.1 ≠ D ∧ z.1 ≠ p ∧ H' z.1 = some (.lst z.2)) ∧ kn.map (·.2) = [xs0, xs1].take j) (fun D H' nD k e => ⟨[], rfl, rfl, k, nofun, rfl⟩) (fun D j acc H' _ h => let ⟨_, _, _, k, _⟩ := h; k.sql (SqL.of ePL)) ?_ ?_
      · rintro D j acc u H6 nD hu' eD ⟨kn, rfl, hj', k6, hkn, hkx⟩
        obtain ⟨l, xs, ps, rfl, hxs, _, pl⟩ := at2 j u hu'
        have hj2 := lt_at hxs
        have hj2 : j < 2 := hj2
        walk_at "S"
        refine r_listL (SqL.of (k6 _ _ pl.el not_nil)) fun S H7 nS k7 eS => ?_
        have SD : S ≠ D := ne_none eD nS
        have Sp : S ≠ p := ne_none (k6 _ _ hob5 not_nil) nS
        refine r_kApp (k7 _ _ eD not_nil) (by rw [List.length_map]; omega) fun H8 k8 e8 => ⟨kn ++ [(S, xs)], by rw [List.map_append]; rfl, by rw [List.length_append, hj']; rfl, (k6.trans k7).step nD k8, fun z m => ?_, by rw [List.map_append, hkx, take_more hxs]; rfl⟩
        rcases List.mem_append.mp m with m | m
        · have := hkn z m
          exact ⟨this.1, this.2.1, k8 _ _ (k7 _ _ this.2.2 not_nil) (not_one this.1)⟩
        · rw [List.mem_singleton.mp m]
          exact ⟨SD, Sp, k8 _ _ eS (not_one SD)⟩
      rintro KL acc H6 nKL eKL ⟨kn, rfl, hkl, k6, hkn, hkx⟩
      have KLp : KL ≠ p := ne_none hob5 nKL
      obtain ⟨⟨q0, y0⟩, ⟨q1, y1⟩, rfl⟩ := len2 hkl
      obtain ⟨rfl, rfl⟩ : y0 = xs0 ∧ y1 = xs1 := by
        have h : [y0, y1] = [xs0, xs1] := hkx
        injection h with h1 h2
        injection h2 with h2 _
        exact ⟨h1, h2⟩
      have eq0 := (hkn _ List.mem_cons_self).2
      have eq1 := (hkn _ (List.mem_cons_of_mem _ List.mem_cons_self)).2
      have eKL : H6 KL = some (.lst [.ref q0, .ref q1]) := eKL
      have b6 := b5.kp k6 not_nil
      clear hkn hkx hkl nKL
      walk_at "S"
      have ePL6 := k6 _ _ ePL not_nil
      obtain ⟨ob6, hob6⟩ := b6.some
      refine r_cWL (SqL.of ePL6) ?_
      refine r_kLcL (xs := [V.ref l0, V.ref l1]) (fun D j acc H' => ∃ cn : List (Addr × List (List Str)), acc = cn.map (fun z => V.ref z.1) ∧ cn.length = j ∧ Kp [] H6 H' ∧ (∀ z ∈ cn, SeenAt K C_Cover [D, p] H' z.1 z.2) ∧ ∀ (i : Nat) (c : Addr × List (List Str)), cn[i]? = some c → ∃ ps qs vs n, [ps0, ps1][i]? = some ps ∧ Found ps qs vs n ∧ c.2 = covs qs vs n) (fun D H' nD k e => ⟨[], rfl, rfl, k, nofun, fun i c h => by cases h⟩) (fun D j acc H' _ h => let ⟨_, _, _, k, _⟩ := h; k.sql (SqL.of ePL6)) ?_ ?_
      · rintro D j acc u H7 nD hu' eD ⟨cn, rfl, hj', k7, hcn, hcf⟩
        obtain ⟨l, xs, ps, rfl, _, hps, pl⟩ := at2 j u hu'
        have hj2 := lt_at hps
        have hj2 : j < 2 := hj2
        have pl7 := (pl.kp (k6.nil)).kp k7.nil
        walk_at "S"
        refine ⟨l, xs, ps, rfl, .inl (SqL.of pl7.el), pl7.all, pl7.few, pl7.ok, fun _ c qs vs n H8 nc k8 hC F => ?_, fun z => by have := pl7.n8; omega⟩
        have eD8 := k8 _ _ eD not_nil
        obtain ⟨d1, d2, ep8⟩ := (b6.kp k7 not_nil).kp k8 not_nil
        have sn := seen_mk hC (pfD_noL _ _) nc eD8 ep8 (by rw [eD]; nofun) (by rw [k7 _ _ hob6 not_nil]; nofun)
        refine r_kApp eD8 (by rw [List.length_map]; omega) fun H9 k9 e9 => ⟨cn ++ [(c, covs qs vs n)], by rw [List.map_append]; rfl, by rw [List.length_append, hj']; rfl, (k7.trans k8).step nD k9, fun z m => ?_, fun i c' hc' => ?_⟩
        · rcases List.mem_append.mp m with m | m
          · exact ((hcn z m).kp0 k8).kp (by simp) eD8 k9
          · rw [List.mem_singleton.mp m]
            exact sn.kp (by simp) eD8 k9
        · by_cases hij : i < cn.length
          · rw [List.getElem?_append_left hij] at hc'
            exact hcf i c' hc'
          · have hi' : i = cn.length := by
              have := lt_at hc'
              rw [List.length_append, List.length_singleton] at this
              omega
            subst hi'
            rw [List.getElem?_append_right (Nat.le_refl _), Nat.sub_self] at hc'
            cases hc'
            rw [hj']
            exact ⟨ps, qs, vs, n, hps, F, rfl⟩
      rintro SL acc H7 nSL eSL ⟨cn, rfl, hcl, k7, hcn, hcf⟩
      have SLp : SL ≠ p := ne_none hob6 nSL
      obtain ⟨⟨c0, R0⟩, ⟨c1, R1⟩, rfl⟩ := len2 hcl
      have S0 : SeenAt K C_Cover [p] H7 c0 R0 := (hcn _ List.mem_cons_self).less fun b m => List.mem_cons_of_mem _ m
      have S1 : SeenAt K C_Cover [p] H7 c1 R1 := (hcn _ (List.mem_cons_of_mem _ List.mem_cons_self)).less fun b m => List.mem_cons_of_mem _ m
      obtain ⟨_, qs0, vs0, m0, h00, F0, eR0⟩ := hcf 0 _ rfl
      obtain ⟨_, qs1, vs1, m1, h01, F1, eR1⟩ := hcf 1 _ rfl
      cases Option.some.inj h00
      cases Option.some.inj h01
      have eR0 : R0 = covs qs0 vs0 m0 := eR0
      have eR1 : R1 = covs qs1 vs1 m1 := eR1
      subst eR0
      subst eR1
      have eSL : H7 SL = some (.lst [.ref c0, .ref c1]) := eSL
      have k57 := k6.trans k7
      have b7 := b6.kp k7 not_nil
      have ePL7 := k57 _ _ ePL not_nil
      have eKL7 := k7 _ _ eKL not_nil
      have P0 := P0.kp k57.nil
      have P1 := P1.kp k57.nil
      have eq0 := And.intro eq0.1 (k7 _ _ eq0.2 not_nil)
      have eq1 := And.intro eq1.1 (k7 _ _ eq1.2 not_nil)
      have eL7 := k57 _ _ eL5 not_nil
      have k27 := k25.trans k57.nil
      have Ft0 := F0.fit P0.ok
      have Ft1 := F1.fit P1.ok
      clear hcn hcf hcl h00 h01 nSL at2 hob5 hob6 b5 b6 k6 k7 k25 k57 ePL ePL6 eKL eL5
      -- what holds of the k-th
      have pick : ∀ j, j < 2 → ∃ l xs ps q c qs vs n, [V.ref l0, V.ref l1][j]? = some (.ref l) ∧ [V.ref q0, V.ref q1][j]? = some (.ref q) ∧ [V.ref c0, V.ref c1][j]? = some (.ref c) ∧ PairL H7 p l xs ps ∧ (q ≠ p ∧ H7 q = some (.lst xs)) ∧ SeenAt K C_Cover [p] H7 c (covs qs vs n) ∧ Found ps qs vs n ∧ Fit (covs qs vs n) := fun j h => by
        match j, h with
        | 0, _ => exact ⟨l0, _, ps0, q0, c0, qs0, vs0, m0, rfl, rfl, rfl, P0, eq0, S0, F0, Ft0⟩
        | 1, _ => exact ⟨l1, _, ps1, q1, c1, qs1, vs1, m1, rfl, rfl, rfl, P1, eq1, S1, F1, Ft1⟩
      walk_at "S"
      refine r_cRng1 (by decide) ?_
      refine r_kForR (fun j σ' H' => ∃ s11 s12, σ' = [some (.ref a), some (.int (i : Int)), some (.ref p), some (.ref L), s4, some (.ref LL), s6, some (.ref PL), s8, some (.ref KL), some (.ref SL), s11, s12] ∧ Kp [p] H7 H' ∧ BagL H' p) ⟨_, _, rfl, Kp.refl _ _, b7⟩ ?_ ?_
      · rintro j σ' H8 hj ⟨s11', s12', rfl, k8, b8⟩
        obtain ⟨l, xs, ps, q', c, qs, vs, n, hl', hq', hc', Pj, ⟨qp, eq⟩, Sj, Fj, Ftj⟩ := pick j hj
        have P8 := Pj.kp k8
        have eq8 := k8 _ _ eq (not_one qp)
        obtain ⟨z1, z2, ep7⟩ := id b7
        have S8 := Sj.kp (by simp) ep7 k8
        have ePL8 := k8 _ _ ePL7 (not_one PLp)
        have eKL8 := k8 _ _ eKL7 (not_one KLp)
        have eSL8 := k8 _ _ eSL (not_one SLp)
        walk_at "S"
        refine r_ixL (SqL.of ePL8) (atI_nat hl') ?_
        walk_at "S"
        refine ⟨l, xs, ps, rfl, SqL.of P8.el, P8.all, P8.few, P8.ok, P8.ne, P8.n8, fun d H9 ys ds nd k9 ed ad hds => ?_⟩
        have hds := hds qs vs n Fj
        subst hds
        walk_at "S"
        have P9 := P8.kp k9.nil
        have S9 := S8.kp0 k9
        have b9 := b8.kp k9 not_nil
        have ePL9 := k9 _ _ ePL8 not_nil
        have eKL9 := k9 _ _ eKL8 not_nil
        have eSL9 := k9 _ _ eSL8 not_nil
        have eq9 := k9 _ _ eq8 not_nil
        obtain ⟨pd9, C9⟩ := S9.at
        obtain ⟨dx, sl, pv, rs, h1, h2, h3, h4⟩ := id C9
        obtain ⟨r0, hr0⟩ : ∃ r, (covs qs vs n)[0]? = some r := by
          cases h : covs qs vs n with
          | nil => exact absurd h Fj.some
          | cons r _ => exact ⟨r, rfl⟩
        have hr0n : r0.length = n := (covs_iff.mp (List.mem_of_getElem? hr0)).2.1
        have hn8 : n ≤ 8 := Nat.le_trans (Fj.none.le Fj.names) Fj.few8
        refine r_cutT (fun z H' => Kp [] H9 H' ∧ z = false) ?_ ?_
        · walk_at "S"
          refine r_ixL (SqL.of eSL9) (atI_nat hc') ?_
          walk_at "S"
          refine ⟨.ref c, .ref C_Cover, .ref C_Cover, .ref C_Cover, true, rfl, .own _, .base (.ins h1 T.c_Cover T.f_cl T.f_sp T.f_tk T.f_ob), T.f_ki, ?_⟩
          walk_at "S"
          refine r_kOr (fun c => nomatch c) (fun _ => ?_)
          walk_at "S"
          refine r_ixL (SqL.of eSL9) (atI_nat hc') ?_
          walk_at "S"
          refine r_kFld h1 T.c_Cover T.na_Cover_sets (cvF_s _ _) ?_
          walk_at "S"
          refine ⟨.list ((covs qs vs n).map tupD), .list ((covs qs vs n).map tupD), .lst (SqL.of h2) h3.dp, .lst (SqL.of ed) (DtAll.dp' _ _ ad), Ftj.shp.ok (by decide), Ftj.shp.ok (by decide), ?_⟩
          rw [eqv_rowsL, decide_eq_true rfl]
          walk_at "S"
          refine r_kOr (fun c => nomatch c) (fun _ => ?_)
          walk_at "S"
          refine r_ixL (SqL.of eSL9) (atI_nat hc') ?_
          walk_at "S"
          refine ⟨c, dx, _, rfl, h1, c, _, r0, _, rfl, C9, hr0, (r0.length : Int), rfl, by omega, by omega, ?_⟩
          walk_at "S"
          obtain ⟨y0, hy0, dy0⟩ : ∃ y0, ys[0]? = some y0 ∧ Dt [] H9 y0 (tupD r0) := by
            have hl0 := ad.length
            rw [List.length_map] at hl0
            have := lt_at hr0
            refine ⟨ys[0], List.getElem?_eq_getElem (by omega), ?_⟩
            obtain ⟨dd, hdd, hv⟩ := ad.at (i := 0) (List.getElem?_eq_getElem (by omega))
            rw [List.getElem?_map, hr0] at hdd
            cases hdd
            exact hv
          obtain ⟨t0, rfl, _, et0⟩ := dt_row dy0
          refine r_ixL (SqL.of ed) (atI_nat (j := 0) hy0) ?_
          walk_at "S"
          refine r_lenT (SqT.of et0) ?_
          walk_at "S"
          rw [List.length_map, decide_eq_true rfl]
          refine r_kOr (fun c => by cases c) (fun _ => ?_)
          walk_at "S"
          refine r_ixL (SqL.of ePL9) (atI_nat hl') ?_
          walk_at "S"
          refine r_ixL (SqL.of eKL9) (atI_nat hq') ?_
          have shp : Shp 2 (.list (ps.map prD)) := Shp.list (n := 1) (shp_prs P9.ok (Nat.le_refl 1))
          refine ⟨.list (ps.map prD), .list (ps.map prD), .lst (SqL.of P9.el) (DtAll.dp' _ _ P9.all), .lst (SqL.of eq9) (DtAll.dp' _ _ P9.all), shp.ok (by decide), shp.ok (by decide), ?_⟩
          rw [SeqAt.eqv_refl _ shp.1]
          walk_at "S"
          exact ⟨Kp.refl _ _, rfl⟩
        rintro z Ha ⟨ka, rfl⟩
        refine r_kIfS (fun c => nomatch c) (fun _ => ?_)
        walk_at "S"
        have Pa := P9.kp ka.nil
        have Sa := S9.kp0 ka
        have ba := b9.kp ka not_nil
        have ePLa := ka _ _ ePL9 not_nil
        have eSLa := ka _ _ eSL9 not_nil
        have eda := ka _ _ ed not_nil
        obtain ⟨ob8, hob8⟩ := b8.some
        have dp : d ≠ p := ne_none hob8 nd
        obtain ⟨za1, za2, epa⟩ := id ba
        refine r_cutT (fun z H' => Kp [p] Ha H' ∧ BagL H' p ∧ z = false) ?_ ?_
        · walk_at "S"
          refine r_ixL (SqL.of eSLa) (atI_nat hc') ?_
          walk_at "S"
          refine r_ixL (SqL.of ePLa) (atI_nat hl') ?_
          walk_at "S"
          refine ⟨p, l, xs, rfl, ba, SqL.of Pa.el, by have := Pa.len; omega, fun m Hb us pm nm' kb em bb => ?_⟩
          walk_at "S"
          obtain ⟨rps, prm, alr⟩ := dt_perm pm (Pa.al.mono kb)
          refine r_tupleL (SqL.of em) fun tt Hc nt kc et => ?_
          walk_at "S"
          have smr : ∀ q, q ∈ rps ↔ q ∈ ps := fun q => prm.mem_iff
          have n8r : (namesOf rps).length ≤ 8 := Nat.le_trans (nodup_le (wordsOf_nodup _) fun y my => by
            obtain ⟨q, mq, e⟩ := names_mem.mp my
            exact names_mem.mpr ⟨q, (smr q).mp mq, e⟩) Pa.n8
          refine ⟨tt, us, rps, rfl, .inr (SqT.of et), (alr.less fun b m => by cases m).mono kc, by rw [prm.length_eq]; exact Pa.few, fun q mq => Pa.ok q ((smr q).mp mq), fun _ c' qs' vs' n' Hd nc' kd hC' F' => ?_, fun z => by omega⟩
          have F2 := F'.perm smr
          have ec := found_covs Fj F2
          have Sd := ((Sa.kp (by simp) epa kb).kp0 kc).kp0 kd
          obtain ⟨pdd, Cd⟩ := Sd.at
          obtain ⟨dx1, sl1, pv1, rs1, g1, g2, g3, g4⟩ := id Cd
          obtain ⟨dx2, sl2, pv2, rs2, g1', g2', g3', g4'⟩ := id hC'.at
          refine r_eqOwn g1 g1' ?_
          refine ⟨c, .ref c', covs qs vs n, pdd, rfl, Cd, Ftj, .inl ⟨c', _, _, rfl, hC'.at, ec ▸ Ftj, ?_⟩⟩
          refine r_kYes ?_
          rw [decide_eq_true ec]
          walk_at "S"
          refine r_kOr (fun c => nomatch c) (fun _ => ?_)
          walk_at "S"
          have bd := (bb.kp kc not_nil).kp kd not_nil
          have kad : Kp [p] Ha Hd := kb.trans (kc.trans kd).nil
          refine r_ixL (SqL.of (kad _ _ eSLa (not_one SLp))) (atI_nat hc') ?_
          walk_at "S"
          have edd := kad _ _ eda (not_one dp)
          refine r_eqOth g1 (.base (.lst edd)) T.f_nf ?_
          refine ⟨c, .ref d, covs qs vs n, pdd, rfl, Cd, Ftj, .inr ⟨d, ys, rfl, edd, ?_⟩⟩
          refine r_kYes ?_
          walk_at "S"
          exact ⟨kad, bd, rfl⟩
        rintro z Hb ⟨kb, bb, rfl⟩
        refine r_kIfS (fun c => nomatch c) (fun _ => ?_)
        walk_at "S"
        exact ⟨_, _, rfl, k8.trans ((k9.trans ka).nil.trans kb), bb⟩
      rintro σ' H8 ⟨s11', s12', rfl, k8, b8⟩
      walk_at "S"
      obtain ⟨z1, z2, ep7⟩ := id b7
      have T0 := S0.kp (by simp) ep7 k8
      have T1 := S1.kp (by simp) ep7 k8
      obtain ⟨pd0, C0⟩ := T0.at
      obtain ⟨pd1, C1⟩ := T1.at
      obtain ⟨dx0, sl0, pv0, rs0, h1, h2, h3, h4⟩ := id C0
      obtain ⟨dx1, sl1, pv1, rs1, g1, g2, g3, g4⟩ := id C1
      have eSL8 := k8 _ _ eSL (not_one SLp)
      have eL8 := k8 _ _ eL7 (not_one Lp)
      refine r_cutT (fun z H' => Kp [] H8 H' ∧ z = false) ?_ ?_
      · walk_at "S"
        refine r_ixL (SqL.of eSL8) (atI_nat (j := 0) rfl) ?_
        walk_at "S"
        refine r_ixL (SqL.of eSL8) (atI_nat (j := 1) rfl) ?_
        refine r_eqOwn h1 g1 ?_
        refine ⟨c0, .ref c1, _, pd0, rfl, C0, Ft0, .inl ⟨c1, _, _, rfl, C1, Ft1, ?_⟩⟩
        refine r_kYes ?_
        walk_at "S"
        refine r_ixL (SqL.of eSL8) (atI_nat (j := 0) rfl) ?_
        walk_at "S"
        refine r_kFld h1 T.c_Cover T.na_Cover_sets (cvF_s _ _) ?_
        walk_at "S"
        refine r_ixL (SqL.of eSL8) (atI_nat (j := 1) rfl) ?_
        walk_at "S"
        refine r_kFld g1 T.c_Cover T.na_Cover_sets (cvF_s _ _) ?_
        refine ⟨.list ((covs qs0 vs0 m0).map tupD), .list ((covs qs1 vs1 m1).map tupD), .lst (SqL.of h2) h3.dp, .lst (SqL.of g2) g3.dp, Ft0.shp.ok (by decide), Ft1.shp.ok (by decide), ?_⟩
        rw [eqv_rowsL]
        refine r_neB ?_
        rw [decide_eq_true rfl]
        walk_at "S"
        refine r_kOr (fun c => nomatch c) (fun _ => ?_)
        walk_at "S"
        refine r_slL (SqL.of eL8) fun S9 H9 nS9 k9 eS9 => ?_
        rw [show some (9 : Int) = some ((9 : Nat) : Int) from rfl, cut_to, ← List.map_take] at eS9
        walk_at "S"
        refine ⟨S9, ws.take 9, rfl, eS9, by rw [List.length_take]; omega, (List.take_sublist _ _).nodup hnd, fun w m => wok w (List.mem_of_mem_take m), fun Ha ka => ?_⟩
        walk_at "S"
        exact ⟨k9.trans ka, rfl⟩
      rintro z H9 ⟨k9, rfl⟩
      refine r_kIfS (fun c => nomatch c) (fun _ => ?_)
      walk_at "S"
      have eL9 := k9 _ _ eL8 not_nil
      have k29 : Kp [p] H2 H9 := k27.trans (k8.trans k9.nil)
      refine r_rng3 ?_
      walk_at "S"
      refine ⟨0, 8, 2, 4, rfl, ⟨by decide, by decide, by decide, by decide⟩, ?_⟩
      refine r_kLc walk_rangeC (fun D j acc H' => Kp [] H9 H' ∧ DtAll [D] H' acc (((evP ws).take j).map prD)) (fun D H' nD k e => ⟨k, .nil⟩) (fun _ _ _ _ _ _ => trivial) ?_ ?_
      · rintro D j acc x Ha Hb nD hj eD ⟨ka, al⟩ ⟨rfl, rfl⟩
        have hj4 : j < 4 := hj
        have ev : (evP ws)[j]? = some (nm ws (2 * j), nm ws (2 * j + 1)) := by
          match j, hj4 with
          | 0, _ => rfl
          | 1, _ => rfl
          | 2, _ => rfl
          | 3, _ => rfl
        have a1 := nm_at (ws := ws) (i := 2 * j) (by omega)
        have a2 := nm_at (ws := ws) (i := 2 * j + 1) (by omega)
        have eLa := ka _ _ eL9 not_nil
        have hal : acc.length ≤ 4 := by
          rw [al.length, List.length_map, List.length_take]
          omega
        walk_at "S"
        refine r_ixL (SqL.of eLa) (by rw [show (0 : Int) + (j : Int) * 2 = ((2 * j : Nat) : Int) by omega]; exact atI_nat (v := .str (nm ws (2 * j))) (by rw [List.getElem?_map, a1]; rfl)) ?_
        walk_at "S"
        refine r_ixL (SqL.of eLa) (by rw [show (0 : Int) + (j : Int) * 2 + 1 = ((2 * j + 1 : Nat) : Int) by omega]; exact atI_nat (v := .str (nm ws (2 * j + 1))) (by rw [List.getElem?_map, a2]; rfl)) ?_
        walk_at "S"
        refine r_kTup (by show 2 ≤ sizeLine; omega) fun T9 Hc nT kc eT => ?_
        have TD : T9 ≠ D := ne_none eD nT
        refine r_kApp (kc _ _ eD not_nil) (by omega) fun Hd kd ed => ⟨(ka.trans kc).step nD kd, ?_⟩
        rw [take_more ev, List.map_append]
        exact ((al.mono kc.nil).mono kd).snoc (.tup (not_one TD) (kd _ _ eT (not_one TD)) (.cons (.str _) (.cons (.str _) .nil)))
      rintro D acc Ha nD eD ⟨ka, al⟩
      have al : DtAll [] Ha acc ((evP ws).map prD) := al.less fun b m => by cases m
      have evok : NamesOk (evP ws) := fun q m => by
        have h1 := (ev_names (by omega) q.1).mpr ⟨q, m, .inl rfl⟩
        have h2 := (ev_names (by omega) q.2).mpr ⟨q, m, .inr rfl⟩
        exact ⟨wok _ (List.mem_of_mem_take h1), wok _ (List.mem_of_mem_take h2)⟩
      have ev8 : (namesOf (evP ws)).length ≤ 8 := by
        refine Nat.le_trans (nodup_le (wordsOf_nodup _) (b := ws.take 8) fun y my => ?_) (List.length_take_le _ _)
        obtain ⟨q, mq, e⟩ := names_mem.mp my
        exact (ev_names (by omega) y).mpr ⟨q, mq, e⟩
      walk_at "S"
      refine ⟨D, acc, evP ws, rfl, .inl (SqL.of eD), al, by show 4 ≤ 60; omega, evok, fun _ c qs vs n Hb nc kb hC F => ?_, fun z => by omega⟩
      have hf := ev_first hasc (by omega) F
      obtain ⟨dx, sl, pv, rs, h1, h2, h3, h4⟩ := id hC.at
      refine r_kFld h1 T.c_Cover T.na_Cover_sets (cvF_s _ _) ?_
      walk_at "S"
      obtain ⟨v, hv⟩ : ∃ v, rs[0]? = some v := by
        have e := h3.length
        have := lt_at hf
        exact ⟨rs[0], List.getElem?_eq_getElem (by omega)⟩
      obtain ⟨t, r', rfl, hr', row⟩ := h3.at hv
      rw [hf] at hr'
      cases hr'
      refine r_ixL (SqL.of h2) (atI_nat (j := 0) hv) ?_
      walk_at "S"
      have k9b := ka.trans kb
      have eLb := k9b _ _ eL9 not_nil
      have ix : ∀ j : Nat, j < 8 → atI (ws.map V.str) (j : Int) = some (.str (nm ws j)) := fun j h => atI_nat (by rw [List.getElem?_map, nm_at (by omega)]; rfl)
      refine r_ixL (SqL.of eLb) (ix 0 (by decide)) ?_
      walk_at "S"
      refine r_ixL (SqL.of eLb) (ix 2 (by decide)) ?_
      walk_at "S"
      refine r_ixL (SqL.of eLb) (ix 4 (by decide)) ?_
      walk_at "S"
      refine r_ixL (SqL.of eLb) (ix 6 (by decide)) ?_
      walk_at "S"
      refine r_kTup (by show 4 ≤ sizeLine; omega) fun T9 Hc nT kc eT => ?_
      have fit : ∀ x ∈ [nm ws 0, nm ws 2, nm ws 4, nm ws 6], PyData.strOk x = true := fun x m => F.fit evok _ (List.mem_of_getElem? hf) x m
      have shp : Shp 1 (tupD [nm ws 0, nm ws 2, nm ws 4, nm ws 6]) := Shp.tuple (n := 0) fun e me => by
        obtain ⟨x, mx, rfl⟩ := List.mem_map.mp me
        exact Shp.str (fit x mx) 0
      refine ⟨tupD [nm ws 0, nm ws 2, nm ws 4, nm ws 6], tupD [nm ws 0, nm ws 2, nm ws 4, nm ws 6], (row.kp kc not_nil).dp, .tup (SqT.of eT) (dp_txts [nm ws 0, nm ws 2, nm ws 4, nm ws 6]), shp.ok (by decide), shp.ok (by decide), ?_⟩
      rw [SeqAt.eqv_refl _ shp.1]
      walk_at "S"
      refine r_kIfS (fun c => nomatch c) (fun _ => ?_)
      walk_at "S"
      exact ⟨_, _, _, _, _, _, _, _, _, _, _, _, rfl, k02.trans' (k29.trans (k9b.trans kc).nil) npH⟩
    rintro σ' H1 ⟨s1, s2, s3, s4, s5, s6, s7, s8, s9, s10, s11, s12, rfl, k1⟩
    walk_at "S"
    exact q H1

end
theorem all_mk {l : PySem.W.OpenLaw} {w : World} {K : PySem.W.Frag} {h : Heap} {mg : Str → Option Value} {fa f1 f2 f3 f4 f5 f6 f7 f8 f9 f10 f11 f12 f13 f14 f15 f16 f17 C_Cover C_TooMany C_SilentswapsError : Addr} (X : K.In h) (G : h.Ns mainGlobals mg) (hfa : mg "law" = some (.ref fa))
    {od1 an1 od2 an2 od3 an3 od4 an4 od5 an5 od6 an6 od7 an7 od8 an8 od9 an9 od10 an10 od11 an11 od12 an12 od13 an13 od14 an14 od15 an15 od16 an16 od17 an17 : Option Addr} {sl1 sl2 sl3 sl4 sl5 sl6 sl7 sl8 sl9 sl10 sl11 sl12 sl13 sl14 sl15 sl16 sl17 : Array (Option Value)} {oc1 kV1 dc1 pm1 cd1 ct1 oc2 kV2 dc2 pm2 cd2 ct2 oc3 kV3 dc3 pm3 cd3 ct3 oc4 kV4 dc4 pm4 cd4 ct4 oc5 kV5 dc5 pm5 cd5 ct5 oc6 kV6 dc6 pm6 cd6 ct6 oc7 kV7 dc7 pm7 cd7 ct7 oc8 kV8 dc8 pm8 cd8 ct8 oc9 kV9 dc9 pm9 cd9 ct9 oc10 kV10 dc10 pm10 cd10 ct10 oc11 kV11 dc11 pm11 cd11 ct11 oc12 kV12 dc12 pm12 cd12 ct12 oc13 kV13 dc13 pm13 cd13 ct13 oc14 kV14 dc14 pm14 cd14 ct14 oc15 kV15 dc15 pm15 cd15 ct15 oc16 kV16 dc16 pm16 cd16 ct16 oc17 kV17 dc17 pm17 cd17 ct17 : Value} {tk_MOST_WORDS : Tok} {nm_TooMany q_TooMany fl_TooMany : Str} {N_TooMany f_TooMany cda_TooMany cc_TooMany : Addr} {bs_TooMany bm_TooMany sub_TooMany : List Value} {sn_TooMany : List Str} {ab_TooMany : Bool} {col_TooMany : Option Bool} {dd_TooMany od_TooMany an_TooMany cld_TooMany cdd_TooMany : Option Addr} {m0_TooMany m1_TooMany m2_TooMany m3_TooMany m5_TooMany : Option Value} {oc_TooMany kV_TooMany dc_TooMany pm_TooMany ct_TooMany cl_TooMany ccl_TooMany : Value} {osl_TooMany csl_TooMany ccs_TooMany : Array (Option Value)} {vs_TooMany : Array Value} {tf_TooMany : Tok}
    (aC_Cover : PySem.W.nsIn K mainGlobals "Cover" = some (some (.ref C_Cover)))
    (pg_Cover : PySem.W.plainGet K C_Cover Str.empty = true)
    (hd_Cover : PySem.W.hasDictIn K C_Cover = true)
    (po_Cover : PySem.W.plainOver K C_Cover = true)
    (sa_Cover : PySem.W.findIn K (.ref C_Cover) "__setattr__" = some (some (.builtin "object.__setattr__")))
    (mk_Cover : PySem.W.makesIn K C_Cover = true)
    (kc_Cover : PySem.W.keepIn K (.ref C_Cover) = true)
    (na_Cover_sets : PySem.W.findIn K (.ref C_Cover) "sets" = some none)
    (na_Cover_paper : PySem.W.findIn K (.ref C_Cover) "paper" = some none)
    (aC_TooMany : PySem.W.nsIn K mainGlobals "TooMany" = some (some (.ref C_TooMany)))
    (aC_SilentswapsError : PySem.W.nsIn K mainGlobals "SilentswapsError" = some (some (.ref C_SilentswapsError)))
    (hnC : PySem.W.specialIn K (.builtin "object.__class__") "__get__" = some (some (.builtin "getset_descriptor.__get__")))
    (htC : PySem.W.takesIn K (.builtin "object.__class__") = some true)
    (opq : PySem.W.nsIn K cStatics "thirdparty.any" = some none)
    (tops : (l.prog.main.scope.names.lookup ("super" : Str)).isSome = false)
    (xL_TooMany : K.lookup C_TooMany = some (excClassObj nm_TooMany q_TooMany C_TooMany N_TooMany bs_TooMany bm_TooMany true sn_TooMany sub_TooMany ab_TooMany col_TooMany dd_TooMany m0_TooMany m1_TooMany m2_TooMany m3_TooMany m5_TooMany "ValueError.__new__"))
    (rv_TooMany : PySem.HandSPX.refsVE bm_TooMany = true)
    (sa_TooMany : PySem.W.findIn K (.ref C_TooMany) "__setattr__" = some (some (.builtin "object.__setattr__")))
    (ga_TooMany : PySem.W.findIn K (.ref C_TooMany) "__getattribute__" = some (some (.builtin "BaseException.__getattribute__")))
    (gg_TooMany : PySem.W.findIn K (.ref C_TooMany) "__getattr__" = some none)
    (no_TooMany : PySem.W.findIn K (.ref C_TooMany) "what" = some none)
    (ai_TooMany : PySem.W.findIn K (.ref C_TooMany) "__init__" = some (some (.ref f_TooMany)))
    (ti_TooMany : PySem.W.typeIn K (.ref f_TooMany) = some (.type "function"))
    (li_TooMany : K.lookup f_TooMany = some ⟨oc_TooMany, od_TooMany, .func (PySem.W.ksFn "__init__" "TooMany.__init__" (defArgs s_TooMany___init__) (defBody s_TooMany___init__) (defScope s_TooMany___init__) .none kV_TooMany dc_TooMany pm_TooMany an_TooMany (.ref cda_TooMany) ct_TooMany cc_TooMany), osl_TooMany⟩)
    (ci_TooMany : PySem.W.codeIn K (.ref cda_TooMany) "TooMany.__init__" = true)
    (ce_TooMany : K.lookup cc_TooMany = some ⟨cl_TooMany, cld_TooMany, .cell (some (.ref C_TooMany)), csl_TooMany⟩)
    (cf_TooMany : K.lookup cda_TooMany = some ⟨ccl_TooMany, cdd_TooMany, .fields vs_TooMany, ccs_TooMany⟩)
    (cv_TooMany : vs_TooMany[2]? = some (.str fl_TooMany tf_TooMany))
    (cm_TooMany : (l.prog.main.file == fl_TooMany) = true)
    (kC_TooMany : PySem.W.keepIn K (.ref C_TooMany) = true)
    (eC_TooMany : PySem.W.subIn K (.ref C_TooMany) (.type "BaseException") = some true)
    (tC_TooMany : PySem.W.typeIn K (.ref C_TooMany) = some (.type "type"))
    (hC_TooMany : PySem.W.hasDictIn K C_TooMany = true)
    (sC_TooMany : PySem.W.subIn K (.ref C_TooMany) (.ref C_TooMany) = some true)
    (up_TooMany : PySem.W.ks_superIn K C_TooMany C_TooMany "__init__" = some (some (.builtin "ValueError.__init__")))
    (sV_TooMany : PySem.W.subIn K (.ref C_TooMany) (.type "ValueError") = some true)
    (mo_TooMany : PySem.W.mroIn K C_TooMany (.ref C_TooMany) = some true)
    (ob_TooMany : PySem.W.mroIn K C_TooMany (.type "object") = some true)
    (ha_TooMany : PySem.W.findIn K (.ref C_TooMany) "__class__" = some (some (.builtin "object.__class__")))
    (fa_x_S : PySem.W.exmOne K (.ref C_TooMany) (.ref C_SilentswapsError) = some true)
    (fa_f_cl : PySem.W.findIn K (.ref C_Cover) "__class__" = some (some (.builtin "object.__class__")))
    (fa_f_sp : PySem.W.specialIn K (.builtin "object.__class__") "__get__" = some (some (.builtin "getset_descriptor.__get__")))
    (fa_f_tk : PySem.W.takesIn K (.builtin "object.__class__") = some true)
    (fa_f_ob : PySem.W.mroIn K C_Cover (.type "object") = some true)
    (fa_f_ki : PySem.W.kitOne K (.ref C_Cover) (.ref C_Cover) = some true)
    (fa_f_kl : PySem.W.kitOne K (.type "list") (.ref C_Cover) = some false)
    (fa_f_nf : PySem.W.notFirst K C_Cover (.type "list") = true)
    (aG_MOST_WORDS : PySem.W.nsIn K mainGlobals "MOST_WORDS" = some (some (Value.int (8) tk_MOST_WORDS)))
    (a1 : PySem.W.nsIn K mainGlobals "is_cover" = some (some (.ref f1))) (l1 : K.lookup f1 = some ⟨oc1, od1, .func (PySem.W.fnOf "is_cover" "is_cover" (defArgs s_is_cover) (defBody s_is_cover) (defScope s_is_cover) .none kV1 dc1 pm1 an1 cd1 ct1), sl1⟩) (c1 : PySem.W.codeIn K cd1 "is_cover" = true) (k1 : PySem.W.keepIn K (.ref f1) = true)
    (a2 : PySem.W.nsIn K mainGlobals "apart" = some (some (.ref f2))) (l2 : K.lookup f2 = some ⟨oc2, od2, .func (PySem.W.fnOf "apart" "apart" (defArgs s_apart) (defBody s_apart) (defScope s_apart) .none kV2 dc2 pm2 an2 cd2 ct2), sl2⟩) (c2 : PySem.W.codeIn K cd2 "apart" = true) (k2 : PySem.W.keepIn K (.ref f2) = true)
    (a3 : PySem.W.nsIn K mainGlobals "without" = some (some (.ref f3))) (l3 : K.lookup f3 = some ⟨oc3, od3, .func (PySem.W.fnOf "without" "without" (defArgs s_without) (defBody s_without) (defScope s_without) .none kV3 dc3 pm3 an3 cd3 ct3), sl3⟩) (c3 : PySem.W.codeIn K cd3 "without" = true) (k3 : PySem.W.keepIn K (.ref f3) = true)
    (a4 : PySem.W.findIn K (.ref C_Cover) "__init__" = some (some (.ref f4))) (i4 : PySem.W.isFn K (.ref f4) = true) (l4 : K.lookup f4 = some ⟨oc4, od4, .func (PySem.W.fnOf "__init__" "Cover.__init__" (defArgs s_Cover___init__) (defBody s_Cover___init__) (defScope s_Cover___init__) .none kV4 dc4 pm4 an4 cd4 ct4), sl4⟩) (c4 : PySem.W.codeIn K cd4 "Cover.__init__" = true) (k4 : PySem.W.keepIn K (.ref f4) = true)
    (a5 : PySem.W.findIn K (.ref C_Cover) "__len__" = some (some (.ref f5))) (i5 : PySem.W.isFn K (.ref f5) = true) (l5 : K.lookup f5 = some ⟨oc5, od5, .func (PySem.W.fnOf "__len__" "Cover.__len__" (defArgs s_Cover___len__) (defBody s_Cover___len__) (defScope s_Cover___len__) .none kV5 dc5 pm5 an5 cd5 ct5), sl5⟩) (c5 : PySem.W.codeIn K cd5 "Cover.__len__" = true) (k5 : PySem.W.keepIn K (.ref f5) = true)
    (a6 : PySem.W.findIn K (.ref C_Cover) "__eq__" = some (some (.ref f6))) (i6 : PySem.W.isFn K (.ref f6) = true) (l6 : K.lookup f6 = some ⟨oc6, od6, .func (PySem.W.fnOf "__eq__" "Cover.__eq__" (defArgs s_Cover___eq__) (defBody s_Cover___eq__) (defScope s_Cover___eq__) .none kV6 dc6 pm6 an6 cd6 ct6), sl6⟩) (c6 : PySem.W.codeIn K cd6 "Cover.__eq__" = true) (k6 : PySem.W.keepIn K (.ref f6) = true)
    (a7 : PySem.W.nsIn K mainGlobals "_law_bag" = some (some (.ref f7))) (l7 : K.lookup f7 = some ⟨oc7, od7, .func (PySem.W.fnOf "_law_bag" "_law_bag" (defArgs s__law_bag) (defBody s__law_bag) (defScope s__law_bag) .none kV7 dc7 pm7 an7 cd7 ct7), sl7⟩) (c7 : PySem.W.codeIn K cd7 "_law_bag" = true) (k7 : PySem.W.keepIn K (.ref f7) = true)
    (a8 : PySem.W.nsIn K mainGlobals "_law_take" = some (some (.ref f8))) (l8 : K.lookup f8 = some ⟨oc8, od8, .func (PySem.W.fnOf "_law_take" "_law_take" (defArgs s__law_take) (defBody s__law_take) (defScope s__law_take) .none kV8 dc8 pm8 an8 cd8 ct8), sl8⟩) (c8 : PySem.W.codeIn K cd8 "_law_take" = true) (k8 : PySem.W.keepIn K (.ref f8) = true)
    (a9 : PySem.W.nsIn K mainGlobals "_law_covers" = some (some (.ref f9))) (l9 : K.lookup f9 = some ⟨oc9, od9, .func (PySem.W.fnOf "_law_covers" "_law_covers" (defArgs s__law_covers) (defBody s__law_covers) (defScope s__law_covers) .none kV9 dc9 pm9 an9 cd9 ct9), sl9⟩) (c9 : PySem.W.codeIn K cd9 "_law_covers" = true) (k9 : PySem.W.keepIn K (.ref f9) = true)
    (a10 : PySem.W.nsIn K mainGlobals "_law_mixed" = some (some (.ref f10))) (l10 : K.lookup f10 = some ⟨oc10, od10, .func (PySem.W.fnOf "_law_mixed" "_law_mixed" (defArgs s__law_mixed) (defBody s__law_mixed) (defScope s__law_mixed) .none kV10 dc10 pm10 an10 cd10 ct10), sl10⟩) (c10 : PySem.W.codeIn K cd10 "_law_mixed" = true) (k10 : PySem.W.keepIn K (.ref f10) = true)
    (a11 : PySem.W.nsIn K mainGlobals "_law_words" = some (some (.ref f11))) (l11 : K.lookup f11 = some ⟨oc11, od11, .func (PySem.W.fnOf "_law_words" "_law_words" (defArgs s__law_words) (defBody s__law_words) (defScope s__law_words) .none kV11 dc11 pm11 an11 cd11 ct11), sl11⟩) (c11 : PySem.W.codeIn K cd11 "_law_words" = true) (k11 : PySem.W.keepIn K (.ref f11) = true)
    (a12 : PySem.W.nsIn K mainGlobals "_law_pairs" = some (some (.ref f12))) (l12 : K.lookup f12 = some ⟨oc12, od12, .func (PySem.W.fnOf "_law_pairs" "_law_pairs" (defArgs s__law_pairs) (defBody s__law_pairs) (defScope s__law_pairs) .none kV12 dc12 pm12 an12 cd12 ct12), sl12⟩) (c12 : PySem.W.codeIn K cd12 "_law_pairs" = true) (k12 : PySem.W.keepIn K (.ref f12) = true)
    (a13 : PySem.W.nsIn K mainGlobals "subsets_of" = some (some (.ref f13))) (l13 : K.lookup f13 = some ⟨oc13, od13, .func (PySem.W.fnOf "subsets_of" "subsets_of" (defArgs s_subsets_of) (defBody s_subsets_of) (defScope s_subsets_of) .none kV13 dc13 pm13 an13 cd13 ct13), sl13⟩) (c13 : PySem.W.codeIn K cd13 "subsets_of" = true) (k13 : PySem.W.keepIn K (.ref f13) = true)
    (a14 : PySem.W.nsIn K mainGlobals "paper_for" = some (some (.ref f14))) (l14 : K.lookup f14 = some ⟨oc14, od14, .func (PySem.W.fnOf "paper_for" "paper_for" (defArgs s_paper_for) (defBody s_paper_for) (defScope s_paper_for) .none kV14 dc14 pm14 an14 cd14 ct14), sl14⟩) (c14 : PySem.W.codeIn K cd14 "paper_for" = true) (k14 : PySem.W.keepIn K (.ref f14) = true)
    (a15 : PySem.W.nsIn K mainGlobals "least_covers" = some (some (.ref f15))) (l15 : K.lookup f15 = some ⟨oc15, od15, .func (PySem.W.fnOf "least_covers" "least_covers" (defArgs s_least_covers) (defBody s_least_covers) (defScope s_least_covers) .none kV15 dc15 pm15 an15 cd15 ct15), sl15⟩) (c15 : PySem.W.codeIn K cd15 "least_covers" = true) (k15 : PySem.W.keepIn K (.ref f15) = true)
    (a16 : PySem.W.nsIn K mainGlobals "_law_refuses" = some (some (.ref f16))) (l16 : K.lookup f16 = some ⟨oc16, od16, .func (PySem.W.fnOf "_law_refuses" "_law_refuses" (defArgs s__law_refuses) (defBody s__law_refuses) (defScope s__law_refuses) .none kV16 dc16 pm16 an16 cd16 ct16), sl16⟩) (c16 : PySem.W.codeIn K cd16 "_law_refuses" = true) (k16 : PySem.W.keepIn K (.ref f16) = true)
    (a17 : PySem.W.nsIn K mainGlobals "law" = some (some (.ref f17))) (l17 : K.lookup f17 = some ⟨oc17, od17, .func (PySem.W.fnOf "law" "law" (defArgs s_law) (defBody s_law) (defScope s_law) .none kV17 dc17 pm17 an17 cd17 ct17), sl17⟩) (c17 : PySem.W.codeIn K cd17 "law" = true) (k17 : PySem.W.keepIn K (.ref f17) = true)
    (z_ValueError : PySem.W.nsIn K mainGlobals "ValueError" = some none) (z_enumerate : PySem.W.nsIn K mainGlobals "enumerate" = some none) (z_all : PySem.W.nsIn K mainGlobals "all" = some none) (z_sorted : PySem.W.nsIn K mainGlobals "sorted" = some none) (z_range : PySem.W.nsIn K mainGlobals "range" = some none) (z_len : PySem.W.nsIn K mainGlobals "len" = some none) (z_set : PySem.W.nsIn K mainGlobals "set" = some none) (z_int : PySem.W.nsIn K mainGlobals "int" = some none) (z_list : PySem.W.nsIn K mainGlobals "list" = some none) (z_max : PySem.W.nsIn K mainGlobals "max" = some none) (z_tuple : PySem.W.nsIn K mainGlobals "tuple" = some none) (z_isinstance : PySem.W.nsIn K mainGlobals "isinstance" = some none) (z_abs : PySem.W.nsIn K mainGlobals "abs" = some none) (z_min : PySem.W.nsIn K mainGlobals "min" = some none) (z_super : PySem.W.nsIn K mainGlobals "super" = some none) :
    ∃ fd : FuncData, (∀ (s : Shared) (v : Value), BindsTo s fd ⟨[v], []⟩ [("_law_script", v)]) ∧ ∀ base : Heap, K.In base → base.Ns mainGlobals mg → FnOk l.prog w K mg base CX0 18 fa fd ["_law_script"] (sp_law K) := by
  have e := hfa.symm.trans (PySem.W.mg_of X G a17)
  cases e
  have T : Txt K mg C_Cover C_TooMany C_SilentswapsError := ⟨PySem.W.mg_none_of X G z_ValueError, PySem.W.mg_none_of X G z_enumerate, PySem.W.mg_none_of X G z_all, PySem.W.mg_none_of X G z_sorted, PySem.W.mg_none_of X G z_range, PySem.W.mg_none_of X G z_len, PySem.W.mg_none_of X G z_set, PySem.W.mg_none_of X G z_int, PySem.W.mg_none_of X G z_list, PySem.W.mg_none_of X G z_max, PySem.W.mg_none_of X G z_tuple, PySem.W.mg_none_of X G z_isinstance, PySem.W.mg_none_of X G z_abs, PySem.W.mg_none_of X G z_min, PySem.W.mg_none_of X G z_super, ⟨pg_Cover, hd_Cover, po_Cover, sa_Cover⟩, ⟨_, PySem.W.mg_of X G aC_Cover, rfl⟩, na_Cover_sets, na_Cover_paper, ⟨_, PySem.W.mg_of X G aC_TooMany, rfl⟩, ⟨_, PySem.W.mg_of X G aC_SilentswapsError, rfl⟩, ⟨ga_TooMany, gg_TooMany, eC_TooMany, hC_TooMany, ha_TooMany, hnC, htC, ob_TooMany⟩, PySem.W.mg_of X G aC_SilentswapsError, fa_x_S, fa_f_cl, fa_f_sp, fa_f_tk, fa_f_ob, fa_f_ki, fa_f_kl, fa_f_nf, ⟨_, PySem.W.mg_of X G aG_MOST_WORDS, ⟨_, rfl⟩⟩⟩
  have F1 := fun_mk (st := s_is_cover) l1 c1 k1
  have b1 := F1.binds (ps := ["pairs", "words"]) fun _ _ _ _ _ _ us hl => match us, hl with | [_, _], _ => rfl
  have F2 := fun_mk (st := s_apart) l2 c2 k2
  have b2 := F2.binds (ps := ["pairs"]) fun _ _ _ _ _ _ us hl => match us, hl with | [_], _ => rfl
  have F3 := fun_mk (st := s_without) l3 c3 k3
  have b3 := F3.binds (ps := ["pairs", "word"]) fun _ _ _ _ _ _ us hl => match us, hl with | [_, _], _ => rfl
  have F4 := fun_mk (st := s_Cover___init__) l4 c4 k4
  have b4 := F4.binds (ps := ["self", "sets", "paper"]) fun _ _ _ _ _ _ us hl => match us, hl with | [_, _, _], _ => rfl
  have F5 := fun_mk (st := s_Cover___len__) l5 c5 k5
  have b5 := F5.binds (ps := ["self"]) fun _ _ _ _ _ _ us hl => match us, hl with | [_], _ => rfl
  have F6 := fun_mk (st := s_Cover___eq__) l6 c6 k6
  have b6 := F6.binds (ps := ["self", "other"]) fun _ _ _ _ _ _ us hl => match us, hl with | [_, _], _ => rfl
  have F7 := fun_mk (st := s__law_bag) l7 c7 k7
  have b7 := F7.binds (ps := ["_law_script", "_law_where"]) fun _ _ _ _ _ _ us hl => match us, hl with | [_, _], _ => rfl
  have F8 := fun_mk (st := s__law_take) l8 c8 k8
  have b8 := F8.binds (ps := ["_law_bag_here", "_law_many"]) fun _ _ _ _ _ _ us hl => match us, hl with | [_, _], _ => rfl
  have F9 := fun_mk (st := s__law_covers) l9 c9 k9
  have b9 := F9.binds (ps := ["_law_pairs_here"]) fun _ _ _ _ _ _ us hl => match us, hl with | [_], _ => rfl
  have F10 := fun_mk (st := s__law_mixed) l10 c10 k10
  have b10 := F10.binds (ps := ["_law_bag_here", "_law_things"]) fun _ _ _ _ _ _ us hl => match us, hl with | [_, _], _ => rfl
  have F11 := fun_mk (st := s__law_words) l11 c11 k11
  have b11 := F11.binds (ps := ["_law_bag_here"]) fun _ _ _ _ _ _ us hl => match us, hl with | [_], _ => rfl
  have F12 := fun_mk (st := s__law_pairs) l12 c12 k12
  have b12 := F12.binds (ps := ["_law_bag_here", "_law_words_here"]) fun _ _ _ _ _ _ us hl => match us, hl with | [_, _], _ => rfl
  have F13 := fun_mk (st := s_subsets_of) l13 c13 k13
  have b13 := F13.binds (ps := ["words", "size"]) fun _ _ _ _ _ _ us hl => match us, hl with | [_, _], _ => rfl
  have F14 := fun_mk (st := s_paper_for) l14 c14 k14
  have b14 := F14.binds (ps := ["pairs", "budget"]) fun _ _ _ _ _ _ us hl => match us, hl with | [_, _], _ => rfl
  have F15 := fun_mk (st := s_least_covers) l15 c15 k15
  have b15 := F15.binds (ps := ["pairs"]) fun _ _ _ _ _ _ us hl => match us, hl with | [_], _ => rfl
  have F16 := fun_mk (st := s__law_refuses) l16 c16 k16
  have b16 := F16.binds (ps := ["_law_words_here"]) fun _ _ _ _ _ _ us hl => match us, hl with | [_], _ => rfl
  have F17 := fun_mk (st := s_law) l17 c17 k17
  refine ⟨PySem.W.fnOf "law" "law" (defArgs s_law) (defBody s_law) (defScope s_law) .none kV17 dc17 pm17 an17 cd17 ct17, fun s v => .of_eq rfl, fun base _ _ => ?_⟩
  have E_TooMany : OexC K C_TooMany := ⟨⟨_, _, _, _, _, _, _, _, _, _, _, _, _, _, _, xL_TooMany, rv_TooMany⟩, sa_TooMany, eC_TooMany, tC_TooMany, kC_TooMany⟩
  have S_TooMany : SFun l.prog K mg "TooMany.__init__" s_TooMany___init__ C_TooMany f_TooMany (PySem.W.ksFn "__init__" "TooMany.__init__" (defArgs s_TooMany___init__) (defBody s_TooMany___init__) (defScope s_TooMany___init__) .none kV_TooMany dc_TooMany pm_TooMany an_TooMany (.ref cda_TooMany) ct_TooMany cc_TooMany) :=
    ⟨⟨_, _, _, _, _, _, _, _, _, _, _, _, _, rfl, li_TooMany, ci_TooMany, ce_TooMany, ⟨E_TooMany, up_TooMany, sV_TooMany, mo_TooMany, opq, T.z_super, ⟨_, _, _, _, _, _, cf_TooMany, cv_TooMany, cm_TooMany⟩, tops⟩⟩⟩
  have U_TooMany : Exc1 l.prog w K mg base 1 "TooMany" "what" C_TooMany :=
    ⟨E_TooMany, ⟨f_TooMany, _, ["self", "what"], ai_TooMany, ti_TooMany, ok_TooMany___init__ S_TooMany no_TooMany, Binds.all fun us hl => match us, hl with | [_, _], _ => rfl⟩, PySem.W.mg_of X G aC_TooMany, ⟨ga_TooMany, gg_TooMany, eC_TooMany, hC_TooMany⟩, no_TooMany, PySem.W.exm_ref eC_TooMany hC_TooMany tC_TooMany sC_TooMany⟩
  have U_is_cover : Use l.prog w K mg base 2 "is_cover" ["pairs", "words"] (sp_is_cover K) := ⟨_, _, ok_is_cover F1 T, PySem.W.mg_of X G a1, k1, b1⟩
  have U_apart : Use l.prog w K mg base 2 "apart" ["pairs"] (sp_apart K) := ⟨_, _, ok_apart F2 T, PySem.W.mg_of X G a2, k2, b2⟩
  have U_without : Use l.prog w K mg base 2 "without" ["pairs", "word"] (sp_without K) := ⟨_, _, ok_without F3 T, PySem.W.mg_of X G a3, k3, b3⟩
  have U_Cover___init__ : UseC l.prog w K mg base 2 "Cover" C_Cover (sp_Cover___init__ K C_Cover) := ⟨_, fnr (ok_Cover___init__ F4 T) b4, ⟨mk_Cover, a4, i4, kc_Cover⟩, PySem.W.mg_of X G aC_Cover⟩
  have U_Cover___len__ : UseM l.prog w K mg base 2 C_Cover "__len__" (sp_Cover___len__ K C_Cover) := ⟨_, fnr (ok_Cover___len__ F5 T) b5, ⟨a5, i5, k5⟩⟩
  have U_Cover___eq__ : UseM l.prog w K mg base 2 C_Cover "__eq__" (sp_Cover___eq__ K C_Cover) := ⟨_, fnr (ok_Cover___eq__ F6 T) b6, ⟨a6, i6, k6⟩⟩
  have U__law_bag : Use l.prog w K mg base 2 "_law_bag" ["_law_script", "_law_where"] (sp__law_bag K) := ⟨_, _, ok__law_bag F7 T, PySem.W.mg_of X G a7, k7, b7⟩
  have U__law_take : Use l.prog w K mg base 2 "_law_take" ["_law_bag_here", "_law_many"] (sp__law_take K) := ⟨_, _, ok__law_take F8 T, PySem.W.mg_of X G a8, k8, b8⟩
  have U__law_covers : Use l.prog w K mg base 2 "_law_covers" ["_law_pairs_here"] (sp__law_covers K) := ⟨_, _, ok__law_covers F9 T, PySem.W.mg_of X G a9, k9, b9⟩
  have U__law_mixed : Use l.prog w K mg base 4 "_law_mixed" ["_law_bag_here", "_law_things"] (sp__law_mixed (K := K)) := ⟨_, _, ok__law_mixed F10 T U__law_take, PySem.W.mg_of X G a10, k10, b10⟩
  have U__law_words : Use l.prog w K mg base 4 "_law_words" ["_law_bag_here"] (sp__law_words K) := ⟨_, _, ok__law_words F11 T U__law_take, PySem.W.mg_of X G a11, k11, b11⟩
  have U__law_pairs : Use l.prog w K mg base 6 "_law_pairs" ["_law_bag_here", "_law_words_here"] (sp__law_pairs K) := ⟨_, _, ok__law_pairs F12 T U__law_take U__law_mixed, PySem.W.mg_of X G a12, k12, b12⟩
  have U_subsets_of : Use l.prog w K mg base 11 "subsets_of" ["words", "size"] (sp_subsets_of K 9) := all_subsets F13 b13 k13 (PySem.W.mg_of X G a13) T 9
  have U_paper_for : Use l.prog w K mg base 12 "paper_for" ["pairs", "budget"] (sp_paper_for K 9) := all_paper F14 b14 k14 (PySem.W.mg_of X G a14) T U_apart U_without 9
  have U_least_covers : UseX l.prog w K mg base 14 "least_covers" ["pairs"] (sp_least_covers K C_Cover C_TooMany) := ⟨_, _, ok_least_covers F15 T U_subsets_of U_is_cover U_paper_for U_Cover___init__ U_TooMany, PySem.W.mg_of X G a15, k15, b15⟩
  have U__law_refuses : Use l.prog w K mg base 16 "_law_refuses" ["_law_words_here"] (sp__law_refuses K) := ⟨_, _, ok__law_refuses F16 T U_least_covers U_TooMany, PySem.W.mg_of X G a16, k16, b16⟩
  exact ok_law F17 T U_Cover___len__ U_Cover___eq__ U_least_covers U__law_bag U__law_take U__law_mixed U__law_words U__law_pairs U__law_covers U__law_refuses
theorem walk {l : PySem.W.OpenLaw} {q : Program} {loose : List Str} {XP : (Str → Option Value) → Heap → Prop} {YP : World → Heap → Prop} {d : DefRec} {K : Params → PySem.W.Frag} (hn : l.most = some 63) (hdf : d.params.defaults = [])
    (hY : ∀ (w : World) (h : Heap), YP w h → (K w.params).In h)
    (F : ∀ (w : World) (mg : Str → Option Value) (fa : Addr) (h : Heap), (K w.params).In h → h.Ns mainGlobals mg → mg d.name = some (.ref fa) →
      ∃ fd : FuncData, (∀ (s : Shared) (u : Value), BindsTo s fd ⟨[u], []⟩ [("_law_script", u)]) ∧ ∀ base : Heap, (K w.params).In base → base.Ns mainGlobals mg → FnOk l.prog w (K w.params) mg base CX0 18 fa fd ["_law_script"] (sp_law (K w.params))) :
    PySem.W.WalkO q loose XP YP l.row.toRowW d [] (fun f vs => PySem.call f vs) :=
  L2.walk_of (n := 63) (k := 18) (x := "_law_script") (CX := fun _ => CX0) (sp := fun w => sp_law (K w.params)) hn (by decide) hdf ⟨rfl, by decide, by decide⟩ hY F (fun _ _ a ns hl _ hS => ⟨a, ns, rfl, hS, hl, fun _ => rfl⟩) fun _ _ _ _ _ z => z
end My
open PySem PySem.W PyProof.Rows
set_option maxRecDepth 100000 in
set_option maxHeartbeats 0 in
theorem PySem.Challenge.cw_silentswaps_k80_least_covers_holds : PySem.Challenge.rw_silentswaps_k80_least_covers.Holds := by
  w_on; o_law; k_head; (case hw => w_witness2)
  k_fill
  refine My.walk (l := PySem.Challenge.rw_silentswaps_k80_least_covers) rfl rfl (fun w h Y => PySem.W.kIn_of Y) ?F
  case F =>
    intro w mg fa h KX G hmg
    refine' My.all_mk KX G hmg ?aC_Cover ?pg_Cover ?hd_Cover ?po_Cover ?sa_Cover ?mk_Cover ?kc_Cover ?na_Cover_sets ?na_Cover_paper ?aC_TooMany ?aC_SilentswapsError ?hnC ?htC ?opq ?tops ?xL_TooMany ?rv_TooMany ?sa_TooMany ?ga_TooMany ?gg_TooMany ?no_TooMany ?ai_TooMany ?ti_TooMany ?li_TooMany ?ci_TooMany ?ce_TooMany ?cf_TooMany ?cv_TooMany ?cm_TooMany ?kC_TooMany ?eC_TooMany ?tC_TooMany ?hC_TooMany ?sC_TooMany ?up_TooMany ?sV_TooMany ?mo_TooMany ?ob_TooMany ?ha_TooMany ?fa_x_S ?fa_f_cl ?fa_f_sp ?fa_f_tk ?fa_f_ob ?fa_f_ki ?fa_f_kl ?fa_f_nf ?aG_MOST_WORDS ?a1 ?l1 ?c1 ?k1 ?a2 ?l2 ?c2 ?k2 ?a3 ?l3 ?c3 ?k3 ?a4 ?i4 ?l4 ?c4 ?k4 ?a5 ?i5 ?l5 ?c5 ?k5 ?a6 ?i6 ?l6 ?c6 ?k6 ?a7 ?l7 ?c7 ?k7 ?a8 ?l8 ?c8 ?k8 ?a9 ?l9 ?c9 ?k9 ?a10 ?l10 ?c10 ?k10 ?a11 ?l11 ?c11 ?k11 ?a12 ?l12 ?c12 ?k12 ?a13 ?l13 ?c13 ?k13 ?a14 ?l14 ?c14 ?k14 ?a15 ?l15 ?c15 ?k15 ?a16 ?l16 ?c16 ?k16 ?a17 ?l17 ?c17 ?k17 ?z_ValueError ?z_enumerate ?z_all ?z_sorted ?z_range ?z_len ?z_set ?z_int ?z_list ?z_max ?z_tuple ?z_isinstance ?z_abs ?z_min ?z_super
    (case aC_Cover => k_is)
    (case pg_Cover => k_is)
    (case hd_Cover => k_is)
    (case po_Cover => k_is)
    (case sa_Cover => k_is)
    (case mk_Cover => k_is)
    (case kc_Cover => k_is)
    (case na_Cover_sets => k_is)
    (case na_Cover_paper => k_is)
    (case aC_TooMany => k_is)
    (case aC_SilentswapsError => k_is)
    (case hnC => k_is)
    (case htC => k_is)
    (case opq => k_is)
    (case tops => first | rfl | decide +kernel)
    (case xL_TooMany => k_is)
    (case rv_TooMany => first | rfl | decide +kernel)
    (case sa_TooMany => k_is)
    (case ga_TooMany => k_is)
    (case gg_TooMany => k_is)
    (case no_TooMany => k_is)
    (case ai_TooMany => k_is)
    (case ti_TooMany => k_is)
    (case li_TooMany => k_is)
    (case ci_TooMany => k_is)
    (case ce_TooMany => k_is)
    (case cf_TooMany => k_is)
    (case cv_TooMany => first | rfl | decide +kernel)
    (case cm_TooMany => first | rfl | decide +kernel)
    (case kC_TooMany => k_is)
    (case eC_TooMany => k_is)
    (case tC_TooMany => k_is)
    (case hC_TooMany => k_is)
    (case sC_TooMany => first | k_is | rfl)
    (case up_TooMany => first | k_is | rfl)
    (case sV_TooMany => k_is)
    (case mo_TooMany => first | k_is | rfl)
    (case ob_TooMany => first | k_is | rfl)
    (case ha_TooMany => k_is)
    (case fa_x_S => first | k_is | rfl)
    (case fa_f_cl => first | k_is | rfl)
    (case fa_f_sp => first | k_is | rfl)
    (case fa_f_tk => first | k_is | rfl)
    (case fa_f_ob => first | k_is | rfl)
    (case fa_f_ki => first | k_is | rfl)
    (case fa_f_kl => first | k_is | rfl)
    (case fa_f_nf => first | k_is | rfl)
    (case aG_MOST_WORDS => k_is)
    (case a1 => k_is)
    (case l1 => k_is)
    (case c1 => k_is)
    (case k1 => k_is)
    (case a2 => k_is)
    (case l2 => k_is)
    (case c2 => k_is)
    (case k2 => k_is)
    (case a3 => k_is)
    (case l3 => k_is)
    (case c3 => k_is)
    (case k3 => k_is)
    (case a4 => k_is)
    (case i4 => k_is)
    (case l4 => k_is)
    (case c4 => k_is)
    (case k4 => k_is)
    (case a5 => k_is)
    (case i5 => k_is)
    (case l5 => k_is)
    (case c5 => k_is)
    (case k5 => k_is)
    (case a6 => k_is)
    (case i6 => k_is)
    (case l6 => k_is)
    (case c6 => k_is)
    (case k6 => k_is)
    (case a7 => k_is)
    (case l7 => k_is)
    (case c7 => k_is)
    (case k7 => k_is)
    (case a8 => k_is)
    (case l8 => k_is)
    (case c8 => k_is)
    (case k8 => k_is)
    (case a9 => k_is)
    (case l9 => k_is)
    (case c9 => k_is)
    (case k9 => k_is)
    (case a10 => k_is)
    (case l10 => k_is)
    (case c10 => k_is)
    (case k10 => k_is)
    (case a11 => k_is)
    (case l11 => k_is)
    (case c11 => k_is)
    (case k11 => k_is)
    (case a12 => k_is)
    (case l12 => k_is)
    (case c12 => k_is)
    (case k12 => k_is)
    (case a13 => k_is)
    (case l13 => k_is)
    (case c13 => k_is)
    (case k13 => k_is)
    (case a14 => k_is)
    (case l14 => k_is)
    (case c14 => k_is)
    (case k14 => k_is)
    (case a15 => k_is)
    (case l15 => k_is)
    (case c15 => k_is)
    (case k15 => k_is)
    (case a16 => k_is)
    (case l16 => k_is)
    (case c16 => k_is)
    (case k16 => k_is)
    (case a17 => k_is)
    (case l17 => k_is)
    (case c17 => k_is)
    (case k17 => k_is)
    (case z_ValueError => k_is)
    (case z_enumerate => k_is)
    (case z_all => k_is)
    (case z_sorted => k_is)
    (case z_range => k_is)
    (case z_len => k_is)
    (case z_set => k_is)
    (case z_int => k_is)
    (case z_list => k_is)
    (case z_max => k_is)
    (case z_tuple => k_is)
    (case z_isinstance => k_is)
    (case z_abs => k_is)
    (case z_min => k_is)
    (case z_super => k_is)
#print axioms PySem.Challenge.cw_silentswaps_k80_least_covers_holds
