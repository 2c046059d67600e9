import PyProof.Rows.All
import Wide.All
import OpenK.AllK
import Wide.FinOn
import KE.KExcSuper
import KE.KExcIs
import KE.KExcInit
import KE.GoesEnum
import KE.KCallOwn
import KE.DataMinMax
import PyProof.StrOps2
import PyProof.StrBlock2
import HandS.ForMost
import HandS.Wide
import HandS.IsInst
import HandS.DictComp
import HandS.SortInts
import HandS.TupAny
import HandS.Conv
import HandS.Strs
import HandS.Walk
import HandS.More
import HandS.Star
import HandS.Codes
import HandS.ExcInit
import HandS.Nested
import HandS.ExcField
import HandS.ExcOwn
import HandS.ExcIs
import HandS.WordsExc
import HandS.Property
import HandS.RaiseMore
import HandS.Text
import HandS.MakeKwOnly
import HandS.OwnIter
import HandS.IterNext
import PyProof.InstNe
import HandS.ClsMeth
import KE.KDictWalk
import KE.SortData
import HandS.SortKw
import HandS.ListItems
import HandS.DictTup
import HandS.Small
import HandS.IterVal
import KE.KParD
import HandS.OwnEq
import HandS.Records
import HandS.Style
import PySem.Challenge.RW_silentswaps_k53_sets_of_slips
set_option Elab.async false
set_option maxRecDepth 100000

set_option maxHeartbeats 4000000
set_option maxHeartbeats 4000000
/-! Rd: what the proofs of this repo share. Frames (Kp), data in the heap (Dt), defs as callers use them (Use), readings as rules from back to front (r_..), the tactic rows walk_at "s" (one step), walk_at "S" (many). -/
namespace Rd
open PySem PySem.Spec L2

/-! ### frames -/
def Kp (ex : List Addr) (H H' : Hp) : Prop := ∀ b o, H b = some o → b ∉ ex → H' b = some o
theorem Kp.refl (ex : List Addr) (H : Hp) : Kp ex H H := fun _ _ e _ => e
theorem Kp.trans {ex : List Addr} {H H1 H2 : Hp} (a : Kp ex H H1) (b : Kp ex H1 H2) : Kp ex H H2 := fun c o e n => b c o (a c o e n) n
theorem Kp.mono {ex ex' : List Addr} {H H' : Hp} (a : Kp ex H H') (s : ∀ b ∈ ex, b ∈ ex') : Kp ex' H H' := fun c o e n => a c o e fun m => n (s c m)
theorem Kp.nil {ex : List Addr} {H H' : Hp} (a : Kp [] H H') : Kp ex H H' := a.mono fun _ m => nomatch m
theorem Kp.drop {l : Addr} {ex : List Addr} {H H' : Hp} (a : Kp (l :: ex) H H') (n : H l = none) : Kp ex H H' := fun c o e m => by
  refine a c o e fun z => ?_
  rcases List.mem_cons.mp z with q | q
  · subst q
    rw [n] at e
    cases e
  · exact m q
theorem Kp.free {ex : List Addr} {H H' : Hp} {q : Addr} (a : Kp ex H H') (n : H' q = none) (m : q ∉ ex) : H q = none := by
  cases e : H q with
  | none => rfl
  | some o =>
    rw [a q o e m] at n
    cases n
theorem Kp.new {ex : List Addr} {H : Hp} {p : Addr} {o : HO} (n : H p = none) : Kp ex H (upd H p o) := fun b u e _ => by
  rw [upd_ne (ne_of_none e n)]
  exact e
theorem Kp.put {ex : List Addr} {H : Hp} {p : Addr} {o : HO} (m : p ∈ ex) : Kp ex H (upd H p o) := fun b u e n => by
  rw [upd_ne fun (z : b = p) => n (z ▸ m)]
  exact e
theorem Kp.get {ex : List Addr} {H H' : Hp} {b : Addr} {o : HO} (a : Kp ex H H') (e : H b = some o) (n : b ∉ ex) : H' b = some o := a b o e n
theorem Kp.sql {K : PySem.W.Frag} {H H' : Hp} {a : Addr} {xs : List V} (k : Kp [] H H') (h : SqL K H a xs) : SqL K H' a xs :=
  Same.seq (fun b o e => k b o e (by simp)) h
theorem not_nil {b : Addr} : b ∉ ([] : List Addr) := fun m => nomatch m
theorem not_one {b p : Addr} (h : b ≠ p) : b ∉ [p] := fun m => h (List.mem_singleton.mp m)
theorem not_two {b p q : Addr} (h : b ≠ p) (h' : b ≠ q) : b ∉ [p, q] := fun m => by
  rcases List.mem_cons.mp m with e | e
  · exact h e
  · exact h' (List.mem_singleton.mp e)
theorem ne_none {H : Hp} {a b : Addr} {o : HO} (h : H a = some o) (h' : H b = none) : b ≠ a := fun e => ne_of_none h h' e.symm

/-! ### data -/
mutual
inductive Dt (ex : List Addr) (H : Hp) : V → PyData → Prop
  | non : Dt ex H .non .none
  | bl (b : Bool) : Dt ex H (.bl b) (.bool b)
  | int (i : Int) : Dt ex H (.int i) (.int i)
  | str (x : Str) : Dt ex H (.str x) (.str x)
  | lst {a : Addr} {xs : List V} {ds : List PyData} : a ∉ ex → H a = some (.lst xs) → DtAll ex H xs ds → Dt ex H (.ref a) (.list ds)
  | tup {a : Addr} {xs : List V} {ds : List PyData} : a ∉ ex → H a = some (.tup xs) → DtAll ex H xs ds → Dt ex H (.ref a) (.tuple ds)
inductive DtAll (ex : List Addr) (H : Hp) : List V → List PyData → Prop
  | nil : DtAll ex H [] []
  | cons {v : V} {vs : List V} {d : PyData} {ds : List PyData} : Dt ex H v d → DtAll ex H vs ds → DtAll ex H (v :: vs) (d :: ds)
end
mutual
theorem Dt.mono' {ex ex' : List Addr} {H H' : Hp} (k : Kp ex H H') (s : ∀ b ∈ ex', b ∈ ex) : ∀ (d : PyData) (v : V), Dt ex H v d → Dt ex' H' v d
  | .none, _, h => by cases h; exact .non
  | .bool b, _, h => by cases h; exact .bl b
  | .int i, _, h => by cases h; exact .int i
  | .str x, _, h => by cases h; exact .str x
  | .list ds, _, h => by
    cases h with
    | lst n e al => exact .lst (fun m => n (s _ m)) (k _ _ e n) (DtAll.mono' k s ds _ al)
  | .tuple ds, _, h => by
    cases h with
    | tup n e al => exact .tup (fun m => n (s _ m)) (k _ _ e n) (DtAll.mono' k s ds _ al)
  | .dict _, _, h => by cases h
theorem DtAll.mono' {ex ex' : List Addr} {H H' : Hp} (k : Kp ex H H') (s : ∀ b ∈ ex', b ∈ ex) : ∀ (ds : List PyData) (vs : List V), DtAll ex H vs ds → DtAll ex' H' vs ds
  | [], _, h => by cases h; exact .nil
  | d :: ds, _, h => by
    cases h with
    | cons h1 h2 => exact .cons (Dt.mono' k s d _ h1) (DtAll.mono' k s ds _ h2)
end
theorem Dt.mono {ex : List Addr} {H H' : Hp} {v : V} {d : PyData} (h : Dt ex H v d) (k : Kp ex H H') : Dt ex H' v d := Dt.mono' k (fun _ m => m) d v h
theorem DtAll.mono {ex : List Addr} {H H' : Hp} {vs : List V} {ds : List PyData} (h : DtAll ex H vs ds) (k : Kp ex H H') : DtAll ex H' vs ds := DtAll.mono' k (fun _ m => m) ds vs h
theorem Dt.less {ex ex' : List Addr} {H : Hp} {v : V} {d : PyData} (h : Dt ex H v d) (s : ∀ b ∈ ex', b ∈ ex) : Dt ex' H v d := Dt.mono' (Kp.refl ex H) s d v h
theorem DtAll.less {ex ex' : List Addr} {H : Hp} {vs : List V} {ds : List PyData} (h : DtAll ex H vs ds) (s : ∀ b ∈ ex', b ∈ ex) : DtAll ex' H vs ds := DtAll.mono' (Kp.refl ex H) s ds vs h
mutual
theorem Dt.more' {ex : List Addr} {H : Hp} {l : Addr} (n : H l = none) : ∀ (d : PyData) (v : V), Dt ex H v d → Dt (l :: ex) H v d
  | .none, _, h => by cases h; exact .non
  | .bool b, _, h => by cases h; exact .bl b
  | .int i, _, h => by cases h; exact .int i
  | .str x, _, h => by cases h; exact .str x
  | .list ds, _, h => by
    cases h with
    | lst m e al => exact .lst (fun z => (List.mem_cons.mp z).elim (ne_of_none e n) m) e (DtAll.more' n ds _ al)
  | .tuple ds, _, h => by
    cases h with
    | tup m e al => exact .tup (fun z => (List.mem_cons.mp z).elim (ne_of_none e n) m) e (DtAll.more' n ds _ al)
  | .dict _, _, h => by cases h
theorem DtAll.more' {ex : List Addr} {H : Hp} {l : Addr} (n : H l = none) : ∀ (ds : List PyData) (vs : List V), DtAll ex H vs ds → DtAll (l :: ex) H vs ds
  | [], _, h => by cases h; exact .nil
  | d :: ds, _, h => by
    cases h with
    | cons h1 h2 => exact .cons (Dt.more' n d _ h1) (DtAll.more' n ds _ h2)
end
/-- an address that is new to the heap is none of the data's -/
theorem Dt.more {ex : List Addr} {H : Hp} {v : V} {d : PyData} {l : Addr} (h : Dt ex H v d) (n : H l = none) : Dt (l :: ex) H v d := Dt.more' n d v h
theorem DtAll.more {ex : List Addr} {H : Hp} {vs : List V} {ds : List PyData} {l : Addr} (h : DtAll ex H vs ds) (n : H l = none) : DtAll (l :: ex) H vs ds := DtAll.more' n ds vs h
mutual
theorem Dt.dp' {K : PySem.W.Frag} {ex : List Addr} {H : Hp} : ∀ (d : PyData) (v : V), Dt ex H v d → Dp K H v d
  | .none, _, h => by cases h; exact .non
  | .bool b, _, h => by cases h; exact .bl b
  | .int i, _, h => by cases h; exact .int i
  | .str x, _, h => by cases h; exact .str x
  | .list ds, _, h => by
    cases h with
    | lst n e al => exact .lst (SqL.of e) (DtAll.dp' ds _ al)
  | .tuple ds, _, h => by
    cases h with
    | tup n e al => exact .tup (SqT.of e) (DtAll.dp' ds _ al)
  | .dict _, _, h => by cases h
theorem DtAll.dp' {K : PySem.W.Frag} {ex : List Addr} {H : Hp} : ∀ (ds : List PyData) (vs : List V), DtAll ex H vs ds → DpAll K H vs ds
  | [], _, h => by cases h; exact .nil
  | d :: ds, _, h => by
    cases h with
    | cons h1 h2 => exact .cons (Dt.dp' d _ h1) (DtAll.dp' ds _ h2)
end
theorem Dt.dp {K : PySem.W.Frag} {ex : List Addr} {H : Hp} {v : V} {d : PyData} (h : Dt ex H v d) : Dp K H v d := Dt.dp' d v h
theorem Dt.list {ex : List Addr} {H : Hp} {v : V} {ds : List PyData} (h : Dt ex H v (.list ds)) : ∃ a xs, v = .ref a ∧ a ∉ ex ∧ H a = some (.lst xs) ∧ DtAll ex H xs ds := by
  cases h with
  | lst n e al => exact ⟨_, _, rfl, n, e, al⟩
theorem Dt.tuple {ex : List Addr} {H : Hp} {v : V} {ds : List PyData} (h : Dt ex H v (.tuple ds)) : ∃ a xs, v = .ref a ∧ a ∉ ex ∧ H a = some (.tup xs) ∧ DtAll ex H xs ds := by
  cases h with
  | tup n e al => exact ⟨_, _, rfl, n, e, al⟩
theorem DtAll.length {ex : List Addr} {H : Hp} : ∀ {vs : List V} {ds : List PyData}, DtAll ex H vs ds → vs.length = ds.length
  | [], _, h => by cases h; rfl
  | _ :: _, _, h => by
    cases h with
    | cons _ h2 => exact congrArg (· + 1) (DtAll.length h2)
theorem DtAll.at {ex : List Addr} {H : Hp} : ∀ {vs : List V} {ds : List PyData} {i : Nat} {v : V}, DtAll ex H vs ds → vs[i]? = some v → ∃ d, ds[i]? = some d ∧ Dt ex H v d
  | [], _, i, v, h, e => by simp at e
  | _ :: _, _, 0, v, h, e => by
    cases h with
    | cons h1 _ =>
      cases e
      exact ⟨_, rfl, h1⟩
  | _ :: _, _, i + 1, v, h, e => by
    cases h with
    | cons _ h2 => exact DtAll.at (i := i) h2 e
theorem DtAll.append {ex : List Addr} {H : Hp} : ∀ {vs ws : List V} {ds es : List PyData}, DtAll ex H vs ds → DtAll ex H ws es → DtAll ex H (vs ++ ws) (ds ++ es)
  | [], _, _, _, h, g => by cases h; exact g
  | _ :: _, _, _, _, h, g => by
    cases h with
    | cons h1 h2 => exact .cons h1 (DtAll.append h2 g)
theorem DtAll.snoc {ex : List Addr} {H : Hp} {vs : List V} {ds : List PyData} {v : V} {d : PyData} (h : DtAll ex H vs ds) (g : Dt ex H v d) : DtAll ex H (vs ++ [v]) (ds ++ [d]) := h.append (.cons g .nil)
theorem DtAll.strs {ex : List Addr} {H : Hp} : ∀ {vs : List V} {ws : List Str}, DtAll ex H vs (ws.map PyData.str) → vs = ws.map V.str
  | [], [], _ => rfl
  | [], _ :: _, h => by cases h
  | _ :: _, [], h => by cases h
  | v :: vs, w :: ws, h => by
    cases h with
    | cons h1 h2 =>
      cases h1
      rw [DtAll.strs h2]
      rfl
theorem DtAll.of_strs {ex : List Addr} {H : Hp} : ∀ (ws : List Str), DtAll ex H (ws.map V.str) (ws.map PyData.str)
  | [] => .nil
  | w :: ws => .cons (.str w) (DtAll.of_strs ws)
theorem DtAll.ints {ex : List Addr} {H : Hp} : ∀ {vs : List V} {ns : List Int}, DtAll ex H vs (ns.map PyData.int) → vs = ns.map V.int
  | [], [], _ => rfl
  | [], _ :: _, h => by cases h
  | _ :: _, [], h => by cases h
  | v :: vs, w :: ws, h => by
    cases h with
    | cons h1 h2 =>
      cases h1
      rw [DtAll.ints h2]
      rfl
theorem DtAll.of_ints {ex : List Addr} {H : Hp} : ∀ (ns : List Int), DtAll ex H (ns.map V.int) (ns.map PyData.int)
  | [] => .nil
  | n :: ns => .cons (.int n) (DtAll.of_ints ns)
/-- a pair of a text and a number -/
theorem Dt.pair {ex : List Addr} {H : Hp} {v : V} {x : Str} {n : Int} (h : Dt ex H v (.tuple [.str x, .int n])) : ∃ a, v = .ref a ∧ a ∉ ex ∧ H a = some (.tup [.str x, .int n]) := by
  obtain ⟨a, xs, rfl, m, e, al⟩ := h.tuple
  cases al with
  | cons h1 h2 =>
    cases h2 with
    | cons h3 h4 =>
      cases h4
      cases h1
      cases h3
      exact ⟨a, rfl, m, e⟩

/-! ### a def as its callers use it -/
def Use (P : Program) (w : World) (K : PySem.W.Frag) (mg : Str → Option Value) (base : Heap) (n : Nat) (x : Str) (ps : List Str) (sp : Sp) : Prop :=
  ∃ f fd, FnOk P w K mg base CX0 n f fd ps sp ∧ mg x = some (.ref f) ∧ PySem.W.keepIn K (.ref f) = true ∧ Binds K fd ps []
def tUse (sp : Sp) (t : TA) : TE := fun σ H Q => t σ H fun vs H1 => sp vs H1 Q E0
theorem tUse_eq (sp : Sp) (t : TA) : tCall sp [] E0 t = tUse sp t := by
  funext σ H Q
  show (t σ H fun vs H1 => sp (vs ++ []) H1 Q E0) = (t σ H fun vs H1 => sp vs H1 Q E0)
  simp only [List.append_nil]
theorem pe_use {X : Cx} {n : Nat} {x : Str} {ps : List Str} {sp : Sp} {e : Expr} {es : List Expr} {t : TA} {p pos : Pos} (U : Use X.prog X.w X.K X.mg X.base n x ps sp) (hr : Room n X.A) (hg : Gl X x) (ha : PA X (e :: es) t)
    (hdb : (x == ("__debug__" : Str)) = false := by decide) (he : starEach (e :: es) X.env = (false, eval e X.env) :: starEach es X.env := by rfl) (hpl : (backTo pos (starEach es X.env)).any (·.1) = false := by rfl) :
    PE X (.Call (.Name x p) (e :: es) [] pos) (tUse sp t) := by
  obtain ⟨f, fd, F, hm, hk, hb⟩ := U
  rw [← tUse_eq]
  exact pe_call F hr hg hm hk hb .nil pass0 ha hdb he hpl
theorem pe_use0 {X : Cx} {n : Nat} {x : Str} {ps : List Str} {sp : Sp} {p pos : Pos} (U : Use X.prog X.w X.K X.mg X.base n x ps sp) (hr : Room n X.A) (hg : Gl X x)
    (hdb : (x == ("__debug__" : Str)) = false := by decide) : PE X (.Call (.Name x p) [] [] pos) (tUse sp tNil) := by
  obtain ⟨f, fd, F, hm, hk, hb⟩ := U
  rw [← tUse_eq]
  exact pe_call0 F hr hg hm hk hb .nil pass0 hdb
/-- not A as a value, A a test of any kind -/
theorem pe_notP {X : Cx} {a : Expr} {t : TE} {pos : Pos} (h : PE X a t) : PE X (.UnaryOp .Not a pos) (tNotV t) := pe_not h

/-! ### readings, from back to front -/
section
variable {σ : St} {H : Hp} {Q : VK} {QB : Bool → Hp → Prop} {QA : List V → Hp → Prop} {v x y : V} {i : Nat} {ta tb tc te tv td ty : TE} {t u c : TT} {tr : TA} {r : R2} {g : TG} {gs : TGs}
  {nx bk ct : St → Hp → Prop} {rt : VK} {t1 t2 : TS} {K : PySem.W.Frag} {b : Bool}
theorem r_var (h : σ[i]? = some (some v)) (q : Q v H) : tVar i σ H Q := ⟨v, h, q⟩
theorem r_c (q : Q v H) : tC v σ H Q := q
theorem r_op (q : ta σ H fun x H1 => tb σ H1 fun y H2 => r x y H2 Q) : tOp r ta tb σ H Q := q
theorem r_un {f : V → Hp → VK → Prop} (q : ta σ H fun x H1 => f x H1 Q) : tUn f ta σ H Q := q
def kB (QB : Bool → Hp → Prop) : VK := fun x H => ∃ k, x = .bl k ∧ QB k H
theorem r_kB (q : QB b H) : kB QB (.bl b) H := ⟨b, rfl, q⟩
theorem r_test (q : te σ H (kB QB)) : tTest te σ H QB := q
theorem r_tB (q : te σ H (kB QB)) : tB te σ H QB := q
def kAnd (u : TT) (σ : St) (QB : Bool → Hp → Prop) : Bool → Hp → Prop := fun c H => if c = true then u σ H QB else QB false H
def kOr (u : TT) (σ : St) (QB : Bool → Hp → Prop) : Bool → Hp → Prop := fun c H => if c = true then QB true H else u σ H QB
theorem r_and (q : t σ H (kAnd u σ QB)) : tAnd t u σ H QB := q
theorem r_or (q : t σ H (kOr u σ QB)) : tOr t u σ H QB := q
theorem r_not (q : t σ H fun c H1 => QB (!c) H1) : tNot t σ H QB := q
theorem r_kAnd (h1 : b = true → u σ H QB) (h2 : b = false → QB false H) : kAnd u σ QB b H := by
  unfold kAnd
  cases b
  · exact h2 rfl
  · exact h1 rfl
theorem r_kOr (h1 : b = true → QB true H) (h2 : b = false → u σ H QB) : kOr u σ QB b H := by
  unfold kOr
  cases b
  · exact h2 rfl
  · exact h1 rfl
theorem r_kAnd1 (h : b = true) (q : u σ H QB) : kAnd u σ QB b H := by
  subst h
  exact q
theorem r_kAnd0 (h : b = false) (q : QB false H) : kAnd u σ QB b H := by
  subst h
  exact q
theorem r_kOr1 (h : b = true) (q : QB true H) : kOr u σ QB b H := by
  subst h
  exact q
theorem r_kOr0 (h : b = false) (q : u σ H QB) : kOr u σ QB b H := by
  subst h
  exact q
def kAndV (tb : TE) (σ : St) (Q : VK) : VK := fun x H1 => ∃ c, x = .bl c ∧ if c = true then tb σ H1 Q else Q (.bl false) H1
def kOrV (tb : TE) (σ : St) (Q : VK) : VK := fun x H1 => ∃ c, x = .bl c ∧ if c = true then Q (.bl true) H1 else tb σ H1 Q
theorem r_andV (q : ta σ H (kAndV tb σ Q)) : tAndV ta tb σ H Q := q
theorem r_orV (q : ta σ H (kOrV tb σ Q)) : tOrV ta tb σ H Q := q
theorem r_kAndV (h1 : b = true → tb σ H Q) (h2 : b = false → Q (.bl false) H) : kAndV tb σ Q (.bl b) H := by
  refine ⟨b, rfl, ?_⟩
  cases b
  · exact h2 rfl
  · exact h1 rfl
theorem r_kOrV (h1 : b = true → Q (.bl true) H) (h2 : b = false → tb σ H Q) : kOrV tb σ Q (.bl b) H := by
  refine ⟨b, rfl, ?_⟩
  cases b
  · exact h2 rfl
  · exact h1 rfl
def kNotV (Q : VK) : VK := fun x H1 => ∃ c, x = .bl c ∧ Q (.bl (!c)) H1
theorem r_notV (q : ta σ H (kNotV Q)) : tNotV ta σ H Q := q
theorem r_kNotV (q : Q (.bl (!b)) H) : kNotV Q (.bl b) H := ⟨b, rfl, q⟩
def kIf (ta tb : TE) (σ : St) (Q : VK) : Bool → Hp → Prop := fun c H => if c = true then ta σ H Q else tb σ H Q
theorem r_if (q : t σ H (kIf ta tb σ Q)) : tIf t ta tb σ H Q := q
theorem r_kIf (h1 : b = true → ta σ H Q) (h2 : b = false → tb σ H Q) : kIf ta tb σ Q b H := by
  unfold kIf
  cases b
  · exact h2 rfl
  · exact h1 rfl
theorem r_kIf1 (h : b = true) (q : ta σ H Q) : kIf ta tb σ Q b H := by
  subst h
  exact q
theorem r_kIf0 (h : b = false) (q : tb σ H Q) : kIf ta tb σ Q b H := by
  subst h
  exact q
theorem r_nilA (q : QA [] H) : tNil σ H QA := q
theorem r_consA (q : ta σ H fun x H1 => tr σ H1 fun xs H2 => QA (x :: xs) H2) : tCons ta tr σ H QA := q
theorem r_use {sp : Sp} (q : tr σ H fun vs H1 => sp vs H1 Q E0) : tUse sp tr σ H Q := q
theorem r_cb {f : List V → Hp → VK → Prop} (q : tr σ H fun vs H1 => f vs H1 Q) : tCB f tr σ H Q := q
/-! operators on numbers -/
theorem r_I0 {f : Int → Int → V} {m n : Int} (q : Q (f m n) H) : rI0 f (.int m) (.int n) H Q := ⟨m, n, rfl, rfl, q⟩
theorem r_I {C : Int → Int → Prop} {f : Int → Int → V} {m n : Int} (h : C m n) (q : Q (f m n) H) : rI C f (.int m) (.int n) H Q := ⟨m, n, rfl, rfl, h, q⟩
theorem r_U {f : Int → V} {m : Int} (q : Q (f m) H) : rU f (.int m) H Q := ⟨m, rfl, q⟩
theorem r_eq (h : scal x y = true) (q : Q (.bl (decide (x = y))) H) : rEq x y H Q := ⟨h, q⟩
theorem r_ne (h : scal x y = true) (q : Q (.bl (!decide (x = y))) H) : rNe x y H Q := ⟨h, q⟩
theorem r_eqI {m n : Int} (q : Q (.bl (decide (m = n))) H) : rEq (.int m) (.int n) H Q := by
  refine ⟨rfl, ?_⟩
  have e : decide (V.int m = V.int n) = decide (m = n) := by
    by_cases h : m = n
    · subst h
      simp
    · rw [decide_eq_false h, decide_eq_false fun z => h (V.int.inj z)]
  rw [e]
  exact q
theorem r_neI {m n : Int} (q : Q (.bl (!decide (m = n))) H) : rNe (.int m) (.int n) H Q := by
  refine ⟨rfl, ?_⟩
  have e : decide (V.int m = V.int n) = decide (m = n) := by
    by_cases h : m = n
    · subst h
      simp
    · rw [decide_eq_false h, decide_eq_false fun z => h (V.int.inj z)]
  rw [e]
  exact q
/-! statements -/
theorem r_seq (q : t1 ⟨t2 ⟨nx, rt, bk, ct⟩, rt, bk, ct⟩ σ H) : tSeq t1 t2 ⟨nx, rt, bk, ct⟩ σ H := q
theorem r_next (q : nx σ H) : tNext ⟨nx, rt, bk, ct⟩ σ H := q
theorem r_brk (q : bk σ H) : tBreak ⟨nx, rt, bk, ct⟩ σ H := q
theorem r_cont (q : ct σ H) : tCont ⟨nx, rt, bk, ct⟩ σ H := q
theorem r_asg (q : te σ H fun x H1 => g x σ H1 nx) : tAsg te g ⟨nx, rt, bk, ct⟩ σ H := q
theorem r_drop (q : te σ H fun _ H1 => nx σ H1) : tDrop te ⟨nx, rt, bk, ct⟩ σ H := q
theorem r_ret (q : te σ H rt) : tRet te ⟨nx, rt, bk, ct⟩ σ H := q
theorem r_retN (q : rt .non H) : tRetN ⟨nx, rt, bk, ct⟩ σ H := q
def kIfS (t1 t2 : TS) (D : Ends) (σ : St) : Bool → Hp → Prop := fun b H => if b = true then t1 D σ H else t2 D σ H
theorem r_ifS (q : c σ H (kIfS t1 t2 ⟨nx, rt, bk, ct⟩ σ)) : tIfS c t1 t2 ⟨nx, rt, bk, ct⟩ σ H := q
theorem r_kIfS {D : Ends} (h1 : b = true → t1 D σ H) (h2 : b = false → t2 D σ H) : kIfS t1 t2 D σ b H := by
  unfold kIfS
  cases b
  · exact h2 rfl
  · exact h1 rfl
theorem r_kIfS1 {D : Ends} (h : b = true) (q : t1 D σ H) : kIfS t1 t2 D σ b H := by
  subst h
  exact q
theorem r_kIfS0 {D : Ends} (h : b = false) (q : t2 D σ H) : kIfS t1 t2 D σ b H := by
  subst h
  exact q
theorem r_name {QS : St → Hp → Prop} (q : QS (σ.set i (some v)) H) : gName i v σ H QS := q
theorem r_par {j : Nat} (q : tr σ H fun vs H1 => ∃ v w, vs = [v, w] ∧ nx ((σ.set i (some v)).set j (some w)) H1) : tPar i j tr ⟨nx, rt, bk, ct⟩ σ H := q
/-! displays, dicts -/
def kLst (Q : VK) : List V → Hp → Prop := fun xs H1 => xs.length ≤ sizeLine ∧ ∀ p, H1 p = none → Q (.ref p) (upd H1 p (.lst xs))
def kTup (Q : VK) : List V → Hp → Prop := fun xs H1 => xs.length ≤ sizeLine ∧ ∀ p, H1 p = none → Q (.ref p) (upd H1 p (.tup xs))
theorem r_lst (q : tr σ H (kLst Q)) : tLst tr σ H Q := q
theorem r_tup (q : tr σ H (kTup Q)) : tTup tr σ H Q := q
theorem r_kLst {xs : List V} (h : xs.length ≤ sizeLine) (q : ∀ p H', H p = none → Kp [] H H' → H' p = some (.lst xs) → Q (.ref p) H') : kLst Q xs H :=
  ⟨h, fun p n => q p _ n (Kp.new n) upd_same⟩
theorem r_kTup {xs : List V} (h : xs.length ≤ sizeLine) (q : ∀ p H', H p = none → Kp [] H H' → H' p = some (.tup xs) → Q (.ref p) H') : kTup Q xs H :=
  ⟨h, fun p n => q p _ n (Kp.new n) upd_same⟩
def kDG (Q : VK) : V → V → Hp → Prop := fun x y H2 => ∃ a v, x = .ref a ∧ DGet H2 a y (some v) ∧ Q v H2
theorem r_dget (q : td σ H fun x H1 => ty σ H1 fun y H2 => kDG Q x y H2) : tDGet td ty σ H Q := q
theorem r_kDGs {a : Addr} {kvs : List (Key × V)} {z : Str} (e : H a = some (.dK kvs)) (h : valV kvs (Sum.inr z) = some v) (q : Q v H) : kDG Q (.ref a) (.str z) H :=
  ⟨a, v, rfl, .inl ⟨kvs, Sum.inr z, .inl e, rfl, h.symm⟩, q⟩
theorem r_kDGi {a : Addr} {kvs : List (Key × V)} {z : Int} (e : H a = some (.dK kvs)) (h : valV kvs (Sum.inl z) = some v) (q : Q v H) : kDG Q (.ref a) (.int z) H :=
  ⟨a, v, rfl, .inl ⟨kvs, Sum.inl z, .inl e, rfl, h.symm⟩, q⟩
def kDP (nx : St → Hp → Prop) (σ : St) : V → V → V → Hp → Prop := fun v x y H3 => ∃ a H4, x = .ref a ∧ DPut H3 a y v H4 ∧ nx σ H4
theorem r_dput (q : tv σ H fun v H1 => td σ H1 fun x H2 => ty σ H2 fun y H3 => kDP nx σ v x y H3) : sDPut td ty tv ⟨nx, rt, bk, ct⟩ σ H := q
theorem r_kDPs {a : Addr} {kvs : List (Key × V)} {z : Str} (e : H a = some (.dK kvs)) (h : kvs.length < sizeLine) (q : nx σ (upd H a (.dK (putK kvs (Sum.inr z) v)))) : kDP nx σ v (.ref a) (.str z) H :=
  ⟨a, _, rfl, .inl ⟨kvs, Sum.inr z, e, rfl, h, rfl⟩, q⟩
end

section
variable {σ : St} {H : Hp} {Q : VK} {QA : List V → Hp → Prop} {v x y : V} {K : PySem.W.Frag} {xs : List V} {p : Addr}
/-! built-ins -/
abbrev R1 := List V → Hp → VK → Prop
def cInt : R1 := fun xs H Q => (∃ i, xs = [.int i] ∧ Q (.int i) H) ∨ ∃ k, xs = [.bl k] ∧ Q (.int (if k then 1 else 0)) H
def cAbs : R1 := fun xs H Q => ∃ i, xs = [.int i] ∧ Q (.int (if i < 0 then -i else i)) H
def cMax2 : R1 := fun xs H Q => ∃ i j, xs = [.int i, .int j] ∧ Q (.int (if j > i then j else i)) H
def cMin2 : R1 := fun xs H Q => ∃ i j, xs = [.int i, .int j] ∧ Q (.int (if j < i then j else i)) H
def cStrI : R1 := fun xs H Q => ∃ i, xs = [.int i] ∧ i.natAbs.log2 < 1920 ∧ Q (.str (toString i)) H
def cLen (K : PySem.W.Frag) : R1 := fun xs H Q => ∃ p ys, xs = [.ref p] ∧ (SqL K H p ys ∨ SqT K H p ys) ∧ Q (.int (ys.length : Nat)) H
def cLenS : R1 := fun xs H Q => ∃ z, xs = [.str z] ∧ z.length ≤ sizeLine ∧ Q (.int (z.length : Nat)) H
def cList (K : PySem.W.Frag) : R1 := fun xs H Q => ∃ p ys, xs = [.ref p] ∧ (SqL K H p ys ∨ SqT K H p ys) ∧ ∀ l, H l = none → Q (.ref l) (upd H l (.lst ys))
def cTuple (K : PySem.W.Frag) : R1 := fun xs H Q => ∃ p ys, xs = [.ref p] ∧ ((SqL K H p ys ∧ ∀ l, H l = none → Q (.ref l) (upd H l (.tup ys))) ∨ (SqT K H p ys ∧ Q (.ref p) H))
section
variable {X : Cx}
theorem cr_int : CallR X (.type "int") cInt := call_int1
theorem cr_abs : CallR X (.builtin "abs") cAbs := call_abs
theorem cr_max2 (hc : X.calm = true) : CallR X (.builtin "max") cMax2 := call_max2 hc
theorem cr_min2 (hc : X.calm = true) : CallR X (.builtin "min") cMin2 := call_min2 hc
theorem cr_strI : CallR X (.type "str") cStrI := call_str_int
theorem cr_len : CallR X (.builtin "len") (cLen X.K) := call_len_seq
theorem cr_lenS : CallR X (.builtin "len") cLenS := call_len_str
theorem cr_list : CallR X (.type "list") (cList X.K) := call_list_of
theorem cr_tuple : CallR X (.type "tuple") (cTuple X.K) := call_tuple_of
end
theorem r_intB {b : Bool} (q : Q (.int (if b = true then 1 else 0)) H) : cInt [.bl b] H Q := .inr ⟨b, rfl, q⟩
theorem r_int {n : Int} (q : Q (.int n) H) : cInt [.int n] H Q := .inl ⟨n, rfl, q⟩
theorem r_abs {n : Int} (q : Q (.int (if n < 0 then -n else n)) H) : cAbs [.int n] H Q := ⟨n, rfl, q⟩
theorem r_max2 {m n : Int} (q : Q (.int (if n > m then n else m)) H) : cMax2 [.int m, .int n] H Q := ⟨m, n, rfl, q⟩
theorem r_min2 {m n : Int} (q : Q (.int (if n < m then n else m)) H) : cMin2 [.int m, .int n] H Q := ⟨m, n, rfl, q⟩
theorem r_strI {n : Int} (h : n.natAbs.log2 < 1920) (q : Q (.str (toString n)) H) : cStrI [.int n] H Q := ⟨n, rfl, h, q⟩
theorem r_lenL (h : SqL K H p xs) (q : Q (.int (xs.length : Nat)) H) : cLen K [.ref p] H Q := ⟨p, xs, rfl, .inl h, q⟩
theorem r_lenT (h : SqT K H p xs) (q : Q (.int (xs.length : Nat)) H) : cLen K [.ref p] H Q := ⟨p, xs, rfl, .inr h, q⟩
theorem r_lenS {z : Str} (h : z.length ≤ sizeLine) (q : Q (.int (z.length : Nat)) H) : cLenS [.str z] H Q := ⟨z, rfl, h, q⟩
theorem r_listL (h : SqL K H p xs) (q : ∀ l H', H l = none → Kp [] H H' → H' l = some (.lst xs) → Q (.ref l) H') : cList K [.ref p] H Q := ⟨p, xs, rfl, .inl h, fun l n => q l _ n (Kp.new n) upd_same⟩
theorem r_listT (h : SqT K H p xs) (q : ∀ l H', H l = none → Kp [] H H' → H' l = some (.lst xs) → Q (.ref l) H') : cList K [.ref p] H Q := ⟨p, xs, rfl, .inr h, fun l n => q l _ n (Kp.new n) upd_same⟩
theorem r_tupleL (h : SqL K H p xs) (q : ∀ l H', H l = none → Kp [] H H' → H' l = some (.tup xs) → Q (.ref l) H') : cTuple K [.ref p] H Q := ⟨p, xs, rfl, .inl ⟨h, fun l n => q l _ n (Kp.new n) upd_same⟩⟩
theorem r_tupleT (h : SqT K H p xs) (q : Q (.ref p) H) : cTuple K [.ref p] H Q := ⟨p, xs, rfl, .inr ⟨h, q⟩⟩
theorem r_ixL {i : Int} (h : SqL K H p xs) (e : atI xs i = some v) (q : Q v H) : rIxL K (.ref p) (.int i) H Q := ⟨p, xs, i, v, rfl, rfl, h, e, q⟩
theorem r_ixT {i : Int} (h : SqT K H p xs) (e : atI xs i = some v) (q : Q v H) : rIxT K (.ref p) (.int i) H Q := ⟨p, xs, i, v, rfl, rfl, h, e, q⟩
theorem r_ixS {z : Str} {i : Int} {c : Nat} (h : z.length ≤ sizeLine) (e : atI z.cps.toList i = some c) (q : Q (.str ⟨#[c]⟩) H) : rIxS (.str z) (.int i) H Q := ⟨z, i, c, rfl, rfl, h, e, q⟩
/-- an item at a number that lies within -/
theorem atI_in {α : Type} {l : List α} {i : Int} (h0 : 0 ≤ i) (h1 : i < (l.length : Int)) : ∃ v, atI l i = some v ∧ v ∈ l ∧ l[i.toNat]? = some v := by
  have hk : i.toNat < l.length := by omega
  have e : l[i.toNat]? = some l[i.toNat] := List.getElem?_eq_getElem hk
  have ei : i = ((i.toNat : Nat) : Int) := by omega
  have q : atI l ((i.toNat : Nat) : Int) = some l[i.toNat] := atI_nat e
  rw [← ei] at q
  exact ⟨l[i.toNat], q, List.getElem_mem hk, e⟩
/-! a display of a dict -/
def kDisp (Q : VK) (p : Addr) : List (V × V) → Hp → Prop := fun ps H2 => H2 p = some (.dK []) ∧ ∃ kvs : List (Key × V), ps = kvs.map (fun kv => (kV kv.1, kv.2)) ∧ kvs.length ≤ 15 ∧ Q (.ref p) (upd H2 p (.dK (mergeK [] kvs)))
theorem r_disp {trs : List (TE × TE)} (q : ∀ p H1, H p = none → Kp [] H H1 → H1 p = some (.dK []) → tPairs trs σ H1 (kDisp Q p)) : tDisp trs σ H Q := fun p n => q p _ n (Kp.new n) upd_same
theorem r_pnil {R : List (V × V) → Hp → Prop} (q : R [] H) : tPairs [] σ H R := q
theorem r_pcons {R : List (V × V) → Hp → Prop} {tk tv : TE} {r : List (TE × TE)} (q : tk σ H fun x H1 => tv σ H1 fun y H2 => tPairs r σ H2 fun ps H3 => R ((x, y) :: ps) H3) : tPairs ((tk, tv) :: r) σ H R := q
theorem r_kDisp {p : Addr} {kvs : List (Key × V)} (e : H p = some (.dK [])) (h : kvs.length ≤ 15) (q : ∀ H', Kp [p] H H' → H' p = some (.dK (mergeK [] kvs)) → Q (.ref p) H') : kDisp Q p (kvs.map fun kv => (kV kv.1, kv.2)) H :=
  ⟨e, kvs, rfl, h, q _ (Kp.put (by simp)) upd_same⟩
end

theorem sql_kp {K : PySem.W.Frag} {ex : List Addr} {H H' : Hp} {a : Addr} {xs : List V} (h : SqL K H a xs) (k : Kp ex H H') (m : a ∉ ex) : SqL K H' a xs := by
  rcases h with (h | ⟨o, h⟩) | h
  · exact .inl (.inl (k _ _ h m))
  · exact .inl (.inr ⟨o, k _ _ h m⟩)
  · exact .inr h
/-- a list stays where only the object o at p changes, which is no list -/
theorem sql_but {K : PySem.W.Frag} {H H' : Hp} {a p : Addr} {xs : List V} {o : HO} (h : SqL K H a xs) (k : Kp [p] H H') (e : H p = some o) (d : ∀ ys, o ≠ .lst ys) (d' : ∀ ob u, o ≠ .frz ob u) : SqL K H' a xs := by
  rcases h with (h | ⟨ob, h⟩) | h
  · exact .inl (.inl (k _ _ h (not_one (ne_of h e fun z => d _ z.symm))))
  · exact .inl (.inr ⟨ob, k _ _ h (not_one (ne_of h e fun z => d' _ _ z.symm))⟩)
  · exact .inr h
theorem sqt_kp {K : PySem.W.Frag} {ex : List Addr} {H H' : Hp} {a : Addr} {xs : List V} (h : SqT K H a xs) (k : Kp ex H H') (m : a ∉ ex) : SqT K H' a xs := by
  rcases h with (h | ⟨o, h⟩) | h
  · exact .inl (.inl (k _ _ h m))
  · exact .inl (.inr ⟨o, k _ _ h m⟩)
  · exact .inr h
section
variable {σ : St} {H : Hp} {Q : VK} {QA : List V → Hp → Prop} {v x y : V} {K : PySem.W.Frag} {xs : List V} {p : Addr} {te tk tv : TE} {tr : TA} {g : TG} {tb : TS} {tt : TT} {wi : TI} {nx bk ct : St → Hp → Prop} {rt : VK}
  {J : It} {n : Nat} {G : Hp → Prop} {Y : Nat → Hp → V → Hp → Prop} {vs : List Nat}
/-! what is walked -/
def cRng1 (R : It → Hp → Prop) : List V → Hp → Prop := fun ws H1 => ∃ j : Int, ws = [.int j] ∧ -(2 ^ 62) ≤ j ∧ j < 2 ^ 62 ∧ R (Itr 0 j.toNat) H1
def cRng2 (R : It → Hp → Prop) : List V → Hp → Prop := fun ws H1 => ∃ i j : Int, ws = [.int i, .int j] ∧ (-(2 ^ 62) ≤ i ∧ i < 2 ^ 62 ∧ -(2 ^ 62) ≤ j ∧ j < 2 ^ 62) ∧ R (Itr i (j - i).toNat) H1
def cWL (K : PySem.W.Frag) (R : It → Hp → Prop) : V → Hp → Prop := fun x H1 => ∃ a, x = .ref a ∧ (∃ xs, SqL K H1 a xs) ∧ R (Itl K a) H1
def cWT (K : PySem.W.Frag) (R : It → Hp → Prop) : V → Hp → Prop := fun x H1 => ∃ a, x = .ref a ∧ (∃ xs, SqT K H1 a xs) ∧ R (Itt K a) H1
def cWS (R : It → Hp → Prop) : V → Hp → Prop := fun v H1 => ∃ x, v = .str x ∧ R (Its x) H1
def cEnum (K : PySem.W.Frag) (R : It → Hp → Prop) : List V → Hp → Prop := fun ws H1 => ∃ a xs, ws = [.ref a] ∧ SqL K H1 a xs ∧ R (Ite K a) H1
def cZip (K : PySem.W.Frag) (R : It → Hp → Prop) : List V → Hp → Prop := fun ws H1 => ∃ a b xs ys, ws = [.ref a, .ref b] ∧ SqL K H1 a xs ∧ SqL K H1 b ys ∧ R (Itz K a b) H1
variable {R : It → Hp → Prop}
theorem r_rng1 (q : tr σ H (cRng1 R)) : iRng1 tr σ H R := q
theorem r_rng2 (q : tr σ H (cRng2 R)) : iRng2 tr σ H R := q
theorem r_wl (q : te σ H (cWL K R)) : iList K te σ H R := q
theorem r_wt (q : te σ H (cWT K R)) : iTup K te σ H R := q
theorem r_ws (q : te σ H (cWS R)) : iStr te σ H R := q
theorem r_enum (q : tr σ H (cEnum K R)) : iEnum K tr σ H R := q
theorem r_zip (q : tr σ H (cZip K R)) : iZip K tr σ H R := q
theorem r_cRng1 {j : Int} (h : -(2 ^ 62) ≤ j ∧ j < 2 ^ 62) (q : R (Itr 0 j.toNat) H) : cRng1 R [.int j] H := ⟨j, rfl, h.1, h.2, q⟩
theorem r_cRng2 {i j : Int} (h : -(2 ^ 62) ≤ i ∧ i < 2 ^ 62 ∧ -(2 ^ 62) ≤ j ∧ j < 2 ^ 62) (q : R (Itr i (j - i).toNat) H) : cRng2 R [.int i, .int j] H := ⟨i, j, rfl, h, q⟩
theorem r_cWL (h : SqL K H p xs) (q : R (Itl K p) H) : cWL K R (.ref p) H := ⟨p, rfl, ⟨xs, h⟩, q⟩
theorem r_cWT (h : SqT K H p xs) (q : R (Itt K p) H) : cWT K R (.ref p) H := ⟨p, rfl, ⟨xs, h⟩, q⟩
theorem r_cWS {z : Str} (q : R (Its z) H) : cWS R (.str z) H := ⟨z, rfl, q⟩
theorem r_cEnum (h : SqL K H p xs) (q : R (Ite K p) H) : cEnum K R [.ref p] H := ⟨p, xs, rfl, h, q⟩
theorem r_cZip {p' : Addr} {ys : List V} (h : SqL K H p xs) (h' : SqL K H p' ys) (q : R (Itz K p p') H) : cZip K R [.ref p, .ref p'] H := ⟨p, p', xs, ys, rfl, h, h', q⟩
/-! for -/
def kFor (g : TG) (tb : TS) (D : Ends) (σ : St) : It → Hp → Prop := fun J H1 => ∃ W : Nat → Nat → St → Hp → Prop, (∃ m, W 0 m σ H1) ∧ ∀ i m σ H, W i m σ H →
  (J.stop i H ∧ D.nx σ H) ∨ (J.go i H ∧ ∃ N : St → Hp → Prop, (∀ σ' H', N σ' H' → ∃ m', m' < m ∧ W (i + 1) m' σ' H') ∧ ∀ x H', J.yld i H x H' → g x σ H' fun σ2 H2 => tb { D with nx := N, ct := N, bk := D.nx } σ2 H2)
theorem r_for (q : wi σ H (kFor g tb ⟨nx, rt, bk, ct⟩ σ)) : tFor wi g tb ⟨nx, rt, bk, ct⟩ σ H := q
theorem r_kFor (w : Walk J n G Y) (Pv : Nat → St → Hp → Prop) (h0 : Pv 0 σ H) (hG : ∀ i σ H, i ≤ n → Pv i σ H → G H)
    (hs : ∀ i x σ H H', i < n → Pv i σ H → Y i H x H' → g x σ H' fun σ2 H2 => tb ⟨Pv (i + 1), rt, nx, Pv (i + 1)⟩ σ2 H2) (hd : ∀ σ H, Pv n σ H → nx σ H) : kFor g tb ⟨nx, rt, bk, ct⟩ σ J H :=
  for_it w (D := ⟨nx, rt, bk, ct⟩) Pv h0 hG hs hd
theorem r_kForR {m : Nat} (Pv : Nat → St → Hp → Prop) (h0 : Pv 0 σ H)
    (hs : ∀ (i : Nat) σ H, i < m → Pv i σ H → g (.int (i : Int)) σ H fun σ2 H2 => tb ⟨Pv (i + 1), rt, nx, Pv (i + 1)⟩ σ2 H2) (hd : ∀ σ H, Pv m σ H → nx σ H) : kFor g tb ⟨nx, rt, bk, ct⟩ σ (Itr 0 m) H := by
  refine r_kFor walk_range Pv h0 (fun _ _ _ _ _ => trivial) (fun i x σ H H' hi hp y => ?_) hd
  obtain ⟨rfl, rfl⟩ := y
  have e : V.int ((0 : Int) + (i : Int)) = V.int (i : Int) := congrArg V.int (by omega)
  show g (V.int ((0 : Int) + (i : Int))) σ _ _
  rw [e]
  exact hs i σ _ hi hp
theorem r_kForL (Pv : Nat → St → Hp → Prop) (h0 : Pv 0 σ H) (hl : ∀ i σ H, i ≤ xs.length → Pv i σ H → SqL K H p xs)
    (hs : ∀ (i : Nat) x σ H, xs[i]? = some x → Pv i σ H → g x σ H fun σ2 H2 => tb ⟨Pv (i + 1), rt, nx, Pv (i + 1)⟩ σ2 H2) (hd : ∀ σ H, Pv xs.length σ H → nx σ H) : kFor g tb ⟨nx, rt, bk, ct⟩ σ (Itl K p) H := by
  refine r_kFor walk_list Pv h0 hl (fun i x σ H H' hi hp y => ?_) hd
  obtain ⟨rfl, e⟩ := y
  exact hs i x σ _ e hp
theorem r_kForT (Pv : Nat → St → Hp → Prop) (h0 : Pv 0 σ H) (hl : ∀ i σ H, i ≤ xs.length → Pv i σ H → SqT K H p xs)
    (hs : ∀ (i : Nat) x σ H, xs[i]? = some x → Pv i σ H → g x σ H fun σ2 H2 => tb ⟨Pv (i + 1), rt, nx, Pv (i + 1)⟩ σ2 H2) (hd : ∀ σ H, Pv xs.length σ H → nx σ H) : kFor g tb ⟨nx, rt, bk, ct⟩ σ (Itt K p) H := by
  refine r_kFor walk_tup Pv h0 hl (fun i x σ H H' hi hp y => ?_) hd
  obtain ⟨rfl, e⟩ := y
  exact hs i x σ _ e hp
/-! [e for ..]: Pv by the new list's place, the turn, what is made so far, the heap -/
def kN (Pv : List V → Hp → Prop) (D : Addr) : Hp → Prop := fun H' => ∃ acc, H' D = some (.lst acc) ∧ Pv acc H'
def kApp (D : Addr) (N : Hp → Prop) : VK := fun y H4 => ∃ acc, H4 D = some (.lst acc) ∧ acc.length < sizeLine ∧ N (upd H4 D (.lst (acc ++ [y])))
def kKeep (te : TE) (σ : St) (D : Addr) (N : Hp → Prop) : Bool → Hp → Prop := fun b H3 => if b = true then te σ H3 (kApp D N) else N H3
def kTurn (tt : TT) (te : TE) (σ0 : St) (vs : List Nat) (D : Addr) (N : Hp → Prop) : St → Hp → Prop := fun σ2 H2 => wipe σ2 vs = σ0 ∧ tt σ2 H2 (kKeep te σ2 D N)
def kLc (g : TG) (tt : TT) (te : TE) (vs : List Nat) (σ : St) (Q : VK) : It → Hp → Prop := fun J H1 => ∀ D, H1 D = none → ∃ W : Nat → Nat → Hp → Prop, (∃ m, W 0 m (upd H1 D (.lst []))) ∧ ∀ i m H, W i m H →
  (J.stop i H ∧ Q (.ref D) H) ∨ (J.go i H ∧ ∃ Nx : Hp → Prop, (∀ H', Nx H' → ∃ m', m' < m ∧ W (i + 1) m' H') ∧ ∀ x H', J.yld i H x H' → g x (wipe σ vs) H' fun σ2 H2 => wipe σ2 vs = wipe σ vs ∧ tt σ2 H2 fun b H3 =>
    if b = true then te σ2 H3 fun y H4 => ∃ acc, H4 D = some (.lst acc) ∧ acc.length < sizeLine ∧ Nx (upd H4 D (.lst (acc ++ [y]))) else Nx H3)
theorem r_lc (q : wi σ H (kLc g tt te vs σ Q)) : tLc wi g tt te vs σ H Q := q
theorem r_kTurn {σ0 : St} {D : Addr} {N : Hp → Prop} (h : wipe σ vs = σ0) (q : tt σ H (kKeep te σ D N)) : kTurn tt te σ0 vs D N σ H := ⟨h, q⟩
theorem r_yes {QB : Bool → Hp → Prop} (q : QB true H) : tYes σ H QB := q
theorem r_kKeep1 {D : Addr} {N : Hp → Prop} {b : Bool} (h : b = true) (q : te σ H (kApp D N)) : kKeep te σ D N b H := by
  subst h
  exact q
theorem r_kKeep0 {D : Addr} {acc : List V} {Pv : List V → Hp → Prop} {b : Bool} (h : b = false) (e : H D = some (.lst acc)) (q : Pv acc H) : kKeep te σ D (kN Pv D) b H := by
  subst h
  exact ⟨acc, e, q⟩
theorem r_kKeep {D : Addr} {N : Hp → Prop} {b : Bool} (h1 : b = true → te σ H (kApp D N)) (h0 : b = false → N H) : kKeep te σ D N b H := by
  cases b
  · exact h0 rfl
  · exact h1 rfl
theorem r_kApp {D : Addr} {acc : List V} {Pv : List V → Hp → Prop} (e : H D = some (.lst acc)) (h : acc.length < sizeLine) (q : ∀ H5, Kp [D] H H5 → H5 D = some (.lst (acc ++ [y])) → Pv (acc ++ [y]) H5) : kApp D (kN Pv D) y H :=
  ⟨acc, e, h, acc ++ [y], upd_same, q _ (Kp.put (by simp)) upd_same⟩
theorem r_kLc (w : Walk J n G Y) (Pv : Addr → Nat → List V → Hp → Prop) (h0 : ∀ D H', H D = none → Kp [] H H' → H' D = some (.lst []) → Pv D 0 [] H') (hG : ∀ D i acc H', i ≤ n → Pv D i acc H' → G H')
    (hs : ∀ D i acc x H' H'', H D = none → i < n → H' D = some (.lst acc) → Pv D i acc H' → Y i H' x H'' → g x (wipe σ vs) H'' (kTurn tt te (wipe σ vs) vs D (kN (Pv D (i + 1)) D)))
    (hd : ∀ D acc H', H D = none → H' D = some (.lst acc) → Pv D n acc H' → Q (.ref D) H') : kLc g tt te vs σ Q J H := by
  intro D hD
  exact lc_it w (fun i => kN (Pv D i) D) ⟨[], upd_same, h0 D _ hD (Kp.new hD) upd_same⟩ (fun i H' hi ⟨acc, _, p⟩ => hG D i acc H' hi p) (fun i x H' H'' hi ⟨acc, e, p⟩ y => hs D i acc x H' H'' hD hi e p y) (fun H' ⟨acc, e, p⟩ => hd D acc H' hD e p)
theorem r_kLcL (Pv : Addr → Nat → List V → Hp → Prop) (h0 : ∀ D H', H D = none → Kp [] H H' → H' D = some (.lst []) → Pv D 0 [] H') (hG : ∀ D i acc H', i ≤ xs.length → Pv D i acc H' → SqL K H' p xs)
    (hs : ∀ D (i : Nat) acc x H', H D = none → xs[i]? = some x → H' D = some (.lst acc) → Pv D i acc H' → g x (wipe σ vs) H' (kTurn tt te (wipe σ vs) vs D (kN (Pv D (i + 1)) D)))
    (hd : ∀ D acc H', H D = none → H' D = some (.lst acc) → Pv D xs.length acc H' → Q (.ref D) H') : kLc g tt te vs σ Q (Itl K p) H := by
  refine r_kLc walk_list Pv h0 hG (fun D i acc x H' H'' hD hi e hp y => ?_) hd
  obtain ⟨rfl, e'⟩ := y
  exact hs D i acc x _ hD e' e hp
theorem r_kLcT (Pv : Addr → Nat → List V → Hp → Prop) (h0 : ∀ D H', H D = none → Kp [] H H' → H' D = some (.lst []) → Pv D 0 [] H') (hG : ∀ D i acc H', i ≤ xs.length → Pv D i acc H' → SqT K H' p xs)
    (hs : ∀ D (i : Nat) acc x H', H D = none → xs[i]? = some x → H' D = some (.lst acc) → Pv D i acc H' → g x (wipe σ vs) H' (kTurn tt te (wipe σ vs) vs D (kN (Pv D (i + 1)) D)))
    (hd : ∀ D acc H', H D = none → H' D = some (.lst acc) → Pv D xs.length acc H' → Q (.ref D) H') : kLc g tt te vs σ Q (Itt K p) H := by
  refine r_kLc walk_tup Pv h0 hG (fun D i acc x H' H'' hD hi e hp y => ?_) hd
  obtain ⟨rfl, e'⟩ := y
  exact hs D i acc x _ hD e' e hp
theorem r_kLcR {m : Nat} (Pv : Addr → Nat → List V → Hp → Prop) (h0 : ∀ D H', H D = none → Kp [] H H' → H' D = some (.lst []) → Pv D 0 [] H')
    (hs : ∀ D (i : Nat) acc H', H D = none → i < m → H' D = some (.lst acc) → Pv D i acc H' → g (.int (i : Int)) (wipe σ vs) H' (kTurn tt te (wipe σ vs) vs D (kN (Pv D (i + 1)) D)))
    (hd : ∀ D acc H', H D = none → H' D = some (.lst acc) → Pv D m acc H' → Q (.ref D) H') : kLc g tt te vs σ Q (Itr 0 m) H := by
  refine r_kLc walk_range Pv h0 (fun _ _ _ _ _ _ => trivial) (fun D i acc x H' H'' hD hi e hp y => ?_) hd
  obtain ⟨rfl, rfl⟩ := y
  have e : V.int ((0 : Int) + (i : Int)) = V.int (i : Int) := congrArg V.int (by omega)
  show g (V.int ((0 : Int) + (i : Int))) (wipe σ vs) _ _
  rw [e]
  exact hs D i acc _ hD hi (by assumption) hp
theorem r_kLcS {z : Str} (Pv : Addr → Nat → List V → Hp → Prop) (h0 : ∀ D H', H D = none → Kp [] H H' → H' D = some (.lst []) → Pv D 0 [] H')
    (hs : ∀ D (i : Nat) acc c H', H D = none → z.cps.toList[i]? = some c → H' D = some (.lst acc) → Pv D i acc H' → g (.str ⟨#[c]⟩) (wipe σ vs) H' (kTurn tt te (wipe σ vs) vs D (kN (Pv D (i + 1)) D)))
    (hd : ∀ D acc H', H D = none → H' D = some (.lst acc) → Pv D z.cps.toList.length acc H' → Q (.ref D) H') : kLc g tt te vs σ Q (Its z) H := by
  refine r_kLc walk_str Pv h0 (fun _ _ _ _ _ _ => trivial) (fun D i acc x H' H'' hD hi e hp y => ?_) (fun D acc H' a b c => hd D acc H' a b (by simpa using c))
  obtain ⟨rfl, c, e', rfl⟩ := y
  exact hs D i acc c _ hD (by simpa using e') e hp
/-! {k: v for ..} -/
def kND (Pv : List (Key × V) → Hp → Prop) (D : Addr) : Hp → Prop := fun H' => ∃ kvs, H' D = some (.dK kvs) ∧ Pv kvs H'
def kPut (D : Addr) (N : Hp → Prop) (y : V) : VK := fun z H5 => ∃ kvs k, y = kV k ∧ H5 D = some (.dK kvs) ∧ kvs.length < sizeLine ∧ N (upd H5 D (.dK (putK kvs k z)))
def kKeepD (tk tv : TE) (σ : St) (D : Addr) (N : Hp → Prop) : Bool → Hp → Prop := fun b H3 => if b = true then tk σ H3 (fun y H4 => tv σ H4 (kPut D N y)) else N H3
def kTurnD (tt : TT) (tk tv : TE) (σ0 : St) (vs : List Nat) (D : Addr) (N : Hp → Prop) : St → Hp → Prop := fun σ2 H2 => wipe σ2 vs = σ0 ∧ tt σ2 H2 (kKeepD tk tv σ2 D N)
def kDc (g : TG) (tt : TT) (tk tv : TE) (vs : List Nat) (σ : St) (Q : VK) : It → Hp → Prop := fun J H1 => ∀ D, H1 D = none → ∃ W : Nat → Nat → Hp → Prop, (∃ m, W 0 m (upd H1 D (.dK []))) ∧ ∀ i m H, W i m H →
  (J.stop i H ∧ Q (.ref D) H) ∨ (J.go i H ∧ ∃ Nx : Hp → Prop, (∀ H', Nx H' → ∃ m', m' < m ∧ W (i + 1) m' H') ∧ ∀ x H', J.yld i H x H' → g x (wipe σ vs) H' fun σ2 H2 => wipe σ2 vs = wipe σ vs ∧ tt σ2 H2 fun b H3 =>
    if b = true then tk σ2 H3 fun y H4 => tv σ2 H4 fun z H5 => ∃ kvs k, y = kV k ∧ H5 D = some (.dK kvs) ∧ kvs.length < sizeLine ∧ Nx (upd H5 D (.dK (putK kvs k z))) else Nx H3)
theorem r_dc (q : wi σ H (kDc g tt tk tv vs σ Q)) : tDc wi g tt tk tv vs σ H Q := q
theorem r_kTurnD {σ0 : St} {D : Addr} {N : Hp → Prop} (h : wipe σ vs = σ0) (q : tt σ H (kKeepD tk tv σ D N)) : kTurnD tt tk tv σ0 vs D N σ H := ⟨h, q⟩
theorem r_kKeepD1 {D : Addr} {N : Hp → Prop} {b : Bool} (h : b = true) (q : tk σ H (fun y H4 => tv σ H4 (kPut D N y))) : kKeepD tk tv σ D N b H := by
  subst h
  exact q
theorem r_kPut {D : Addr} {kvs : List (Key × V)} {k : Key} {Pv : List (Key × V) → Hp → Prop} (ey : x = kV k) (e : H D = some (.dK kvs)) (h : kvs.length < sizeLine) (q : ∀ H5, Kp [D] H H5 → H5 D = some (.dK (putK kvs k y)) → Pv (putK kvs k y) H5) : kPut D (kND Pv D) x y H :=
  ⟨kvs, k, ey, e, h, _, upd_same, q _ (Kp.put (by simp)) upd_same⟩
theorem r_kDc (w : Walk J n G Y) (Pv : Addr → Nat → List (Key × V) → Hp → Prop) (h0 : ∀ D H', H D = none → Kp [] H H' → H' D = some (.dK []) → Pv D 0 [] H') (hG : ∀ D i acc H', i ≤ n → Pv D i acc H' → G H')
    (hs : ∀ D i acc x H' H'', H D = none → i < n → H' D = some (.dK acc) → Pv D i acc H' → Y i H' x H'' → g x (wipe σ vs) H'' (kTurnD tt tk tv (wipe σ vs) vs D (kND (Pv D (i + 1)) D)))
    (hd : ∀ D acc H', H D = none → H' D = some (.dK acc) → Pv D n acc H' → Q (.ref D) H') : kDc g tt tk tv vs σ Q J H := by
  intro D hD
  refine ⟨fun i m H' => m = n - i ∧ i ≤ n ∧ kND (Pv D i) D H', ⟨n, by simp, Nat.zero_le _, [], upd_same, h0 D _ hD (Kp.new hD) upd_same⟩, ?_⟩
  rintro i m H' ⟨rfl, hi, acc, e, p⟩
  have q := hG D i acc H' hi p
  by_cases hlt : i < n
  · exact .inr ⟨w.goes i H' hlt q, kND (Pv D (i + 1)) D, fun H2 p' => ⟨n - (i + 1), by omega, rfl, hlt, p'⟩, fun x H2 y => hs D i acc x H' H2 hD hlt e p (w.yields i H' x H2 hlt q y)⟩
  · have e' : i = n := by omega
    subst e'
    exact .inl ⟨w.stops H' q, hd D acc H' hD e p⟩
/-! targets that are tuples -/
theorem r_gtup {K : PySem.W.Frag} {m : Nat} {t : TGs} {QS : St → Hp → Prop} {a : Addr} (h : SqT K H a xs) (hl : xs.length = m) (q : t xs σ H QS) : gTup K m t (.ref a) σ H QS := ⟨a, xs, rfl, h, hl, q⟩
theorem r_gnil {QS : St → Hp → Prop} (q : QS σ H) : gNil [] σ H QS := ⟨rfl, q⟩
theorem r_gcons {t : TG} {u : TGs} {QS : St → Hp → Prop} (q : t x σ H fun σ' H' => u xs σ' H' QS) : gCons t u (x :: xs) σ H QS := ⟨x, xs, rfl, q⟩
/-! methods of lists -/
def kBM (K : PySem.W.Frag) (T : String) (r : V → List V → Hp → VK → Prop) (tr : TA) (σ : St) (Q : VK) : VK := fun x H1 => tyV K T x H1 ∧ tr σ H1 fun xs H2 => r x xs H2 Q
theorem r_bm {T : String} {r : V → List V → Hp → VK → Prop} (q : te σ H (kBM K T r tr σ Q)) : tBM K T r te tr σ H Q := q
theorem r_kBMl {r : V → List V → Hp → VK → Prop} (h : SqL K H p xs) (q : tr σ H fun ys H2 => r (.ref p) ys H2 Q) : kBM K "list" r tr σ Q (.ref p) H := ⟨.inl ⟨rfl, _, h⟩, q⟩
def kBM0 (K : PySem.W.Frag) (T : String) (r : V → List V → Hp → VK → Prop) (Q : VK) : VK := fun x H1 => tyV K T x H1 ∧ r x [] H1 Q
theorem r_bm0 {T : String} {r : V → List V → Hp → VK → Prop} (q : te σ H (kBM0 K T r Q)) : tBM0 K T r te σ H Q := q
theorem r_kBM0l {r : V → List V → Hp → VK → Prop} (h : SqL K H p xs) (q : r (.ref p) [] H Q) : kBM0 K "list" r Q (.ref p) H := ⟨.inl ⟨rfl, _, h⟩, q⟩
theorem r_append (e : H p = some (.lst xs)) (h : xs.length < sizeLine) (q : ∀ H', Kp [p] H H' → H' p = some (.lst (xs ++ [x])) → Q .non H') : rAppend (.ref p) [x] H Q := ⟨p, xs, x, rfl, rfl, e, h, q _ (Kp.put (by simp)) upd_same⟩
/-! texts -/
def rAddT : R2 := fun x y H Q => ∃ i j, x = .str i ∧ y = .str j ∧ i.length + j.length ≤ sizeLine ∧ Q (.str (i ++ j)) H
theorem op_addT {X : Cx} : OpR X (binaryOp .Add) rAddT := op_add_str
theorem r_addT {a b : Str} (h : a.length + b.length ≤ sizeLine) (q : Q (.str (a ++ b)) H) : rAddT (.str a) (.str b) H Q := ⟨a, b, rfl, rfl, h, q⟩
theorem r_eqS {a b : Str} (q : Q (.bl (decide (a = b))) H) : rEq (.str a) (.str b) H Q := by
  refine ⟨rfl, ?_⟩
  have e : decide (V.str a = V.str b) = decide (a = b) := by
    by_cases h : a = b
    · subst h
      simp
    · rw [decide_eq_false h, decide_eq_false fun z => h (V.str.inj z)]
  rw [e]
  exact q
theorem r_neS {a b : Str} (q : Q (.bl (!decide (a = b))) H) : rNe (.str a) (.str b) H Q := by
  refine ⟨rfl, ?_⟩
  have e : decide (V.str a = V.str b) = decide (a = b) := by
    by_cases h : a = b
    · subst h
      simp
    · rw [decide_eq_false h, decide_eq_false fun z => h (V.str.inj z)]
  rw [e]
  exact q
/-! in, not in, of texts in a list -/
theorem eqV_str (a b : Str) : eqV (.str a) (.str b) = decide (a = b) := by
  show (a == b) = decide (a = b)
  by_cases h : a = b
  · subst h
    simp
  · rw [decide_eq_false h]
    exact beq_eq_false_iff_ne.mpr h
theorem inV_strs (x : Str) : ∀ ws : List Str, inV (.str x) (ws.map V.str) = decide (x ∈ ws)
  | [] => by simp [inV]
  | w :: ws => by
    have ih := inV_strs x ws
    unfold inV at ih
    unfold inV
    rw [List.map_cons, List.any_cons, ih, eqV_str]
    by_cases h : x = w
    · subst h
      simp
    · have h' : ¬ w = x := fun e => h e.symm
      simp [h, h']
theorem flat_strs (ws : List Str) : (ws.map V.str).all flatV = true := by
  rw [List.all_eq_true]
  intro v hv
  obtain ⟨w, _, rfl⟩ := List.mem_map.mp hv
  rfl
theorem r_inL {z : Str} {ws : List Str} (h : SqL K H p (ws.map V.str)) (q : Q (.bl (decide (z ∈ ws))) H) : rIn K false (.str z) (.ref p) H Q := by
  refine ⟨p, _, rfl, .inl h, rfl, flat_strs ws, ?_⟩
  show Q (.bl (inV (.str z) (ws.map V.str))) H
  rw [inV_strs]
  exact q
theorem r_notInL {z : Str} {ws : List Str} (h : SqL K H p (ws.map V.str)) (q : Q (.bl (!decide (z ∈ ws))) H) : rIn K true (.str z) (.ref p) H Q := by
  refine ⟨p, _, rfl, .inl h, rfl, flat_strs ws, ?_⟩
  show Q (.bl (!inV (.str z) (ws.map V.str))) H
  rw [inV_strs]
  exact q
end

/-! the layer's rules with K named: within a comprehension's block it could not be found otherwise -/
section
variable {X : Cx} {K : PySem.W.Frag} (hK : X.K = K)
include hK
theorem K_in : OpR X (compareOp .In) (rIn K false) := by
  subst hK
  exact op_in_seq
theorem K_notIn : OpR X (compareOp .NotIn) (rIn K true) := by
  subst hK
  exact op_notIn_seq
theorem K_eqD (hu : X.A.units + 64 < cLine) : OpR X (compareOp .Eq) (rEqD K) := by
  subst hK
  exact op_eqD hu
theorem K_neD (hu : X.A.units + 64 < cLine) : OpR X (compareOp .NotEq) (rNeD K) := by
  subst hK
  exact op_neD hu
theorem K_len : CallR X (.builtin "len") (cLen K) := by
  subst hK
  exact cr_len
theorem K_list : CallR X (.type "list") (cList K) := by
  subst hK
  exact cr_list
theorem K_tuple : CallR X (.type "tuple") (cTuple K) := by
  subst hK
  exact cr_tuple
theorem K_ixL : IxR X (rIxL K) := by
  subst hK
  exact ix_list
theorem K_ixT : IxR X (rIxT K) := by
  subst hK
  exact ix_tup
theorem K_sum (hc : X.calm = true) : CallR X (.builtin "sum") (rSum K) := by
  subst hK
  exact cr_sum hc
theorem K_max (hc : X.calm = true) : CallR X (.builtin "max") (rMax K) := by
  subst hK
  exact cr_max hc
theorem K_min (hc : X.calm = true) : CallR X (.builtin "min") (rMin K) := by
  subst hK
  exact cr_min hc
theorem K_any (hc : X.calm = true) : CallR X (.builtin "any") (rAny K) := by
  subst hK
  exact cr_any hc
theorem K_all (hc : X.calm = true) : CallR X (.builtin "all") (rAll K) := by
  subst hK
  exact cr_all hc
theorem K_sortedI : CallR X (.builtin "sorted") (rSortedI K) := by
  subst hK
  exact cr_sortedI
theorem K_sortedS : CallR X (.builtin "sorted") (rSortedS K) := by
  subst hK
  exact cr_sortedS
theorem K_isi : CallR X (.builtin "isinstance") (rIsi K) := by
  subst hK
  exact call_isi
theorem K_isiT : CallR X (.builtin "isinstance") (rIsiT K) := by
  subst hK
  exact call_isiT
theorem K_slL : SlR X (rSlL K) := by
  subst hK
  exact sl_list
theorem K_slT : SlR X (rSlT K) := by
  subst hK
  exact sl_tup
theorem K_catT : OpR X (binaryOp .Add) (rCatA K) := by
  subst hK
  exact op_catA
theorem K_index : MtR X "list.index" (rIndex K) := by
  subst hK
  exact mt_index
theorem K_pil {tg l : Expr} {tl : TE} (hl : PE X l tl) : PI X tg l (iList K tl) := by
  subst hK
  exact pi_list hl
theorem K_pit {tg l : Expr} {tl : TE} (hl : PE X l tl) : PI X tg l (iTup K tl) := by
  subst hK
  exact pi_tup hl
theorem K_enum {e : Expr} {ta : TA} {p pos tpos : Pos} {elts : List Expr} {kk : Nat} (hg : Gl X "enumerate") (hm : X.mg "enumerate" = none) (ha : PA X [e] ta) (hs : starEach [e] X.env = [(false, eval e X.env)] := by rfl) :
    PI X (.Tuple elts kk tpos) (.Call (.Name "enumerate" p) [e] [] pos) (iEnum K ta) := by
  subst hK
  exact pi_enum hg hm ha hs
theorem K_zip {e e2 : Expr} {ta : TA} {p pos tpos : Pos} {elts : List Expr} {kk : Nat} (hg : Gl X "zip") (hm : X.mg "zip" = none) (ha : PA X [e, e2] ta) (hs : starEach [e, e2] X.env = (false, eval e X.env) :: starEach [e2] X.env := by rfl) (hpl : (backTo pos (starEach [e2] X.env)).any (·.1) = false := by rfl) :
    PI X (.Tuple elts kk tpos) (.Call (.Name "zip" p) [e, e2] [] pos) (iZip K ta) := by
  subst hK
  exact pi_zip hg hm ha hs hpl
theorem K_bm {o e : Expr} {es : List Expr} {T : String} {name : Str} {id : String} {r : V → List V → Hp → VK → Prop} {to : TE} {t : TA} {apos cpos : Pos} (pa : PlainAttrs T) (slot : Slot T name id) (hty : typeOf (.builtin id) = pure (.type "method_descriptor")) (hm : MtR X id r) (ho : PE X o to) (ha : PA X (e :: es) t) (hbase : attributeBase o name X.env (eval o X.env) = eval o X.env := by rfl) (hfew : ((backTo cpos (starEach (e :: es) X.env)).all (fun x => !x.1) && (backToKw cpos (keywordEach [] X.env)).all (fun x => x.1.isSome) && decide ((e :: es).length + ([] : List Keyword).length + (if ([] : List Keyword).isEmpty then 0 else 1) < 30)) = true := by rfl) (hline : (apos.endLine == cpos.line) = true := by rfl) (hs : starEach (e :: es) X.env = (false, eval e X.env) :: starEach es X.env := by rfl) (hplain : (backTo cpos (starEach es X.env)).any (·.1) = false := by rfl) : PE X (.Call (.Attribute o name apos) (e :: es) [] cpos) (tBM K T r to t) := by
  subst hK
  exact pe_bm pa slot hty hm ho ha hbase hfew hline hs hplain
theorem K_bm0 {o : Expr} {T : String} {name : Str} {id : String} {r : V → List V → Hp → VK → Prop} {to : TE} {apos cpos : Pos} (pa : PlainAttrs T) (slot : Slot T name id) (hty : typeOf (.builtin id) = pure (.type "method_descriptor")) (hm : MtR X id r) (ho : PE X o to) (hbase : attributeBase o name X.env (eval o X.env) = eval o X.env := by rfl) (hline : (apos.endLine == cpos.line) = true := by rfl) : PE X (.Call (.Attribute o name apos) [] [] cpos) (tBM0 K T r to) := by
  subst hK
  exact pe_bm0 pa slot hty hm ho hbase hline
theorem K_gtup {es : List Expr} {k : Nat} {t : TGs} {n : Nat} {pos : Pos} (hc : X.calm = true) (h : PGs X es t) (hn : (assignEach es X.env).length = n := by rfl) (hst : (assignEach es X.env).findIdx? (·.1) = none := by rfl) : PG X (.Tuple es k pos) (gTup K n t) := by
  subst hK
  exact pg_tup hc h hn hst
theorem K_fld {e : Expr} {f : Str} {pos : Pos} {ta : TE} (he : PE X e ta) (hb : attributeBase e f X.env (eval e X.env) = eval e X.env) : PE X (.Attribute e f pos) (tFld K ta f) := by
  subst hK
  exact pe_fld he hb
theorem K_join {o e : Expr} {to te : TE} {apos pos : Pos} (ho : PE X o to) (he : PE X e te) (hs : starEach [e] X.env = [(false, eval e X.env)] := by rfl) (hbase : attributeBase o "join" X.env (eval o X.env) = eval o X.env := by rfl) (hline : (apos.endLine == pos.line) = true := by rfl) : PE X (.Call (.Attribute o "join" apos) [e] [] pos) (tM1 (fun x xs H Q => ∃ a p, ∃ ys : List Str, x = .str a ∧ xs = [.ref p] ∧ (SqL K H p (ys.map V.str) ∨ SqT K H p (ys.map V.str)) ∧ (ys.map (·.length)).sum + ys.length * a.length ≤ 16777216 ∧ Q (.str (Txt.join a ys)) H) to te) := by
  subst hK
  exact pe_join ho he hs hbase hline
end

/-! cuts: what stands behind is read once -/
section
variable {X : Cx}
def tCutS (t u : TS) : TS := fun D σ H => ∃ M : St → Hp → Prop, t { D with nx := M } σ H ∧ ∀ σ' H', M σ' H' → u D σ' H'
theorem pss_cutS {st : Stmt} {more : List Stmt} {t u : TS} (a : PS X st t) (b : PSs X more u) : PSs X (st :: more) (tCutS t u) := by
  constructor
  intro pins s σ H D I ⟨M, hm, hu⟩
  refine wpAny_execs_cons (thn (a.run pins s σ H { D with nx := M } I hm) fun f s1 w => ?_)
  match f, w with
  | .next, ⟨σ', H', I', w'⟩ => exact b.run pins s1 σ' H' D I' (hu σ' H' w')
  | .ret _, w => exact w
  | .brk, w => exact w
  | .cont, w => exact w
theorem r_cutS {t u : TS} {nx bk ct : St → Hp → Prop} {rt : VK} {σ : St} {H : Hp} (M : St → Hp → Prop) (h : t ⟨M, rt, bk, ct⟩ σ H) (q : ∀ σ' H', M σ' H' → u ⟨nx, rt, bk, ct⟩ σ' H') : tCutS t u ⟨nx, rt, bk, ct⟩ σ H := ⟨M, h, q⟩
def tCutT (t : TT) : TT := fun σ H Q => ∃ M : Bool → Hp → Prop, t σ H M ∧ ∀ b H', M b H' → Q b H'
theorem pt_cutT {e : Expr} {t : TT} (a : PT X e t) : PT X e (tCutT t) := by
  constructor
  intro pins s σ H Q I ⟨M, hm, hq⟩
  exact wpAny_mono (a.run pins s σ H M I hm) (fun b s' ⟨H', I', w⟩ => ⟨H', I', hq b H' w⟩) fun _ _ z => z
theorem r_cutT {t : TT} {σ : St} {H : Hp} {QB : Bool → Hp → Prop} (M : Bool → Hp → Prop) (h : t σ H M) (q : ∀ b H', M b H' → QB b H') : tCutT t σ H QB := ⟨M, h, q⟩
def tCutE (t : TE) : TE := fun σ H Q => ∃ M : VK, t σ H M ∧ ∀ x H', M x H' → Q x H'
theorem pe_cutE {e : Expr} {t : TE} (a : PE X e t) : PE X e (tCutE t) := by
  constructor
  intro pins s σ H Q I ⟨M, hm, hq⟩
  exact wpAny_mono (a.run pins s σ H M I hm) (fun u s' ⟨v, H', I', r, w⟩ => ⟨v, H', I', r, hq v H' w⟩) fun _ _ z => z
theorem r_cutE {t : TE} {σ : St} {H : Hp} {Q : VK} (M : VK) (h : t σ H M) (q : ∀ x H', M x H' → Q x H') : tCutE t σ H Q := ⟨M, h, q⟩
end

/-! lists by turns -/
theorem take_more {α : Type} : ∀ {l : List α} {i : Nat} {x : α}, l[i]? = some x → l.take (i + 1) = l.take i ++ [x]
  | [], i, x, h => by simp at h
  | a :: l, 0, x, h => by
    cases h
    rfl
  | a :: l, i + 1, x, h => by
    have ih := take_more (l := l) (i := i) (x := x) h
    rw [List.take_succ_cons, ih]
    rfl
theorem take_map {α β : Type} {l : List α} {i : Nat} {x : α} (f : α → β) (h : l[i]? = some x) : (l.take (i + 1)).map f = (l.take i).map f ++ [f x] := by
  rw [take_more h, List.map_append]
  rfl
theorem take_filter {α : Type} {l : List α} {i : Nat} {x : α} (f : α → Bool) (h : l[i]? = some x) : (l.take (i + 1)).filter f = (l.take i).filter f ++ (if f x = true then [x] else []) := by
  rw [take_more h, List.filter_append]
  cases e : f x <;> simp [e]
theorem map_at {α β : Type} {l : List α} {i : Nat} {y : β} {f : α → β} (h : (l.map f)[i]? = some y) : ∃ x, l[i]? = some x ∧ y = f x := by
  rw [List.getElem?_map] at h
  cases e : l[i]? with
  | none =>
    rw [e] at h
    cases h
  | some x =>
    rw [e] at h
    exact ⟨x, rfl, (Option.some.inj h).symm⟩
theorem lt_at {α : Type} {l : List α} {i : Nat} {x : α} (h : l[i]? = some x) : i < l.length := (List.getElem?_eq_some_iff.mp h).1
theorem mem_at {α : Type} {l : List α} {i : Nat} {x : α} (h : l[i]? = some x) : x ∈ l := List.mem_of_getElem? h
theorem Kp.trans' {a : Addr} {H H1 H2 : Hp} (k : Kp [] H H1) (k2 : Kp [a] H1 H2) (n : H a = none) : Kp [] H H2 := (k.nil.trans k2).drop n
/-- a word's heap behind a new list at D has grown by a change of D -/
theorem Kp.step {D : Addr} {ex : List Addr} {H H1 H2 : Hp} (a : Kp ex H H1) (n : H D = none) (b : Kp [D] H1 H2) : Kp ex H H2 :=
  Kp.drop (l := D) ((a.mono fun _ m => List.mem_cons_of_mem _ m).trans (b.mono fun x m => by rw [List.mem_singleton.mp m]; exact List.mem_cons_self)) n

/-! a walk over a list or a tuple -/
def iSeq (K : PySem.W.Frag) (tl : TE) : TI := fun σ H R => tl σ H fun x H1 => ∃ a, x = .ref a ∧ (((∃ xs, SqL K H1 a xs) ∧ R (Itl K a) H1) ∨ ((∃ xs, SqT K H1 a xs) ∧ R (Itt K a) H1))
theorem K_pis {X : Cx} {K : PySem.W.Frag} (hK : X.K = K) {tg l : Expr} {tl : TE} (hl : PE X l tl) : PI X tg l (iSeq K tl) := by
  subst hK
  constructor
  intro pins s σ H R I h
  refine thn (hl.run pins s σ H _ I h) fun v s1 w => ?_
  obtain ⟨_, H1, I1, rv, a, rfl, w⟩ := w
  cases rv
  have fresh : ∀ b ∈ [s1.heap.objs.size], FpOk X pins H1 b := fun b m => (List.mem_singleton.mp m) ▸ I1.fpOk (Nat.le_refl _) (I1.hok.fresh (Nat.le_refl _))
  rcases w with ⟨⟨xs, hs⟩, w⟩ | ⟨⟨xs, hs⟩, w⟩
  · obtain ⟨_, _, pl, _⟩ := I1.list hs
    exact wpAny_pyIter_list pl.isList ⟨_, [s1.heap.objs.size], _, _, H1, rfl, I1.kept (t' := s1.toks) fun _ _ => Heap.get?_push_of_some _, turn_list a _, ⟨_, Heap.get?_push_size _ rfl, rfl, rfl⟩, fresh, w⟩
  · obtain ⟨_, _, pl, _⟩ := I1.tuple hs
    exact wpAny_pyIter_tuple pl ⟨_, [s1.heap.objs.size], _, _, H1, rfl, I1.kept (t' := s1.toks) fun _ _ => Heap.get?_push_of_some _, turn_tuple a _, ⟨_, Heap.get?_push_size _ rfl, rfl, rfl⟩, fresh, w⟩
def cWQ (K : PySem.W.Frag) (R : It → Hp → Prop) : V → Hp → Prop := fun x H1 => ∃ a, x = .ref a ∧ (((∃ xs, SqL K H1 a xs) ∧ R (Itl K a) H1) ∨ ((∃ xs, SqT K H1 a xs) ∧ R (Itt K a) H1))
section
variable {σ : St} {H : Hp} {Q : VK} {K : PySem.W.Frag} {te : TE} {R : It → Hp → Prop} {p : Addr} {xs : List V} {x : V}
theorem r_wq (q : te σ H (cWQ K R)) : iSeq K te σ H R := q
theorem r_cWQl (h : SqL K H p xs) (q : R (Itl K p) H) : cWQ K R (.ref p) H := ⟨p, rfl, .inl ⟨⟨xs, h⟩, q⟩⟩
theorem r_cWQt (h : SqT K H p xs) (q : R (Itt K p) H) : cWQ K R (.ref p) H := ⟨p, rfl, .inr ⟨⟨xs, h⟩, q⟩⟩
/-- a list or a tuple -/
def Sq (K : PySem.W.Frag) (H : Hp) (p : Addr) (xs : List V) : Prop := SqL K H p xs ∨ SqT K H p xs
theorem Sq.kp {ex : List Addr} {H' : Hp} (h : Sq K H p xs) (k : Kp ex H H') (m : p ∉ ex) : Sq K H' p xs := h.elim (fun z => .inl (sql_kp z k m)) fun z => .inr (sqt_kp z k m)
theorem r_lenQ (h : Sq K H p xs) (q : Q (.int (xs.length : Nat)) H) : cLen K [.ref p] H Q := ⟨p, xs, rfl, h, q⟩
theorem r_listQ (h : Sq K H p xs) (q : ∀ l H', H l = none → Kp [] H H' → H' l = some (.lst xs) → Q (.ref l) H') : cList K [.ref p] H Q := ⟨p, xs, rfl, h, fun l n => q l _ n (Kp.new n) upd_same⟩
/-! isinstance -/
theorem r_isiTy {T n : String} {b : Bool} (h : TyX K H x (.type T)) (e : kitB T n = some b) (q : Q (.bl b) H) : rIsi K [x, .ty n] H Q := ⟨x, .ty n, _, _, b, rfl, .ty n, h, kit_ty e, q⟩
/-! [e for ..] over a list or a tuple -/
theorem r_kLcQ {g : TG} {tt : TT} {vs : List Nat} (Pv : Addr → Nat → List V → Hp → Prop) (hq : Sq K H p xs) (h0 : ∀ D H', H D = none → Kp [] H H' → H' D = some (.lst []) → Pv D 0 [] H') (hG : ∀ D i acc H', i ≤ xs.length → Pv D i acc H' → Kp [] H H')
    (hs : ∀ D (i : Nat) acc x H', H D = none → xs[i]? = some x → H' D = some (.lst acc) → Pv D i acc H' → g x (wipe σ vs) H' (kTurn tt te (wipe σ vs) vs D (kN (Pv D (i + 1)) D)))
    (hd : ∀ D acc H', H D = none → H' D = some (.lst acc) → Pv D xs.length acc H' → Q (.ref D) H') : cWQ K (kLc g tt te vs σ Q) (.ref p) H := by
  rcases hq with h | h
  · exact r_cWQl h (r_kLcL Pv h0 (fun D i acc H' hi p => sql_kp h (hG D i acc H' hi p) not_nil) hs hd)
  · exact r_cWQt h (r_kLcT Pv h0 (fun D i acc H' hi p => sqt_kp h (hG D i acc H' hi p) not_nil) hs hd)
end

/-! list.index of a number -/
theorem eqV_int (a b : Int) : eqV (.int a) (.int b) = (a == b) := rfl
theorem flat_ints (ns : List Int) : (ns.map V.int).all flatV = true := by
  rw [List.all_eq_true]
  intro v hv
  obtain ⟨w, _, rfl⟩ := List.mem_map.mp hv
  rfl
theorem lt_idx {n : Int} : ∀ {l : List Int} {m : Nat} {z : Int}, m < l.idxOf n → l[m]? = some z → z ≠ n
  | [], m, z, _, e => by simp at e
  | x :: l, m, z, h, e => by
    rw [List.idxOf_cons] at h
    by_cases c : x = n
    · subst c
      simp at h
    · have c' : (x == n) = false := beq_eq_false_iff_ne.mpr c
      rw [c'] at h
      cases m with
      | zero =>
        cases e
        exact c
      | succ m =>
        exact lt_idx (l := l) (m := m) (Nat.lt_of_succ_lt_succ h) e
theorem r_indexI {K : PySem.W.Frag} {H : Hp} {Q : VK} {p : Addr} {ns : List Int} {n : Int} (h : SqL K H p (ns.map V.int)) (m : n ∈ ns) (q : Q (.int (ns.idxOf n : Nat)) H) : rIndex K (.ref p) [.int n] H Q := by
  have hi := List.idxOf_lt_length_of_mem m
  have e : ns[ns.idxOf n]? = some n := by rw [List.getElem?_eq_getElem hi, List.getElem_idxOf]
  refine ⟨p, _, .int n, ns.idxOf n, .int n, rfl, rfl, h, rfl, flat_ints ns, ?_, beq_self_eq_true n, fun j z' hj hz => ?_, q⟩
  · rw [List.getElem?_map, e]
    rfl
  · obtain ⟨z, hz', rfl⟩ := map_at hz
    exact beq_eq_false_iff_ne.mpr (lt_idx hj hz')
/-! == of data -/
def Shp (n : Nat) (d : PyData) : Prop := d.canLay0 = true ∧ d.depth ≤ n
theorem Shp.ok {n : Nat} {d : PyData} (h : Shp n d) (hn : n ≤ 64) : SeqAt.shaped d = true := Bool.and_eq_true_iff.mpr ⟨h.1, decide_eq_true (Nat.le_trans h.2 hn)⟩
theorem Shp.all {n : Nat} : ∀ {l : List PyData}, (∀ d ∈ l, Shp n d) → PyData.canLayAll0 l = true ∧ PyData.depthAll l ≤ n
  | [], _ => ⟨rfl, Nat.zero_le _⟩
  | d :: l, h => by
    have h1 := h d List.mem_cons_self
    have h2 := Shp.all (l := l) fun x hx => h x (List.mem_cons_of_mem _ hx)
    exact ⟨Bool.and_eq_true_iff.mpr ⟨h1.1, h2.1⟩, Nat.max_le.mpr ⟨h1.2, h2.2⟩⟩
theorem Shp.list {n : Nat} {l : List PyData} (h : ∀ d ∈ l, Shp n d) : Shp (n + 1) (.list l) := ⟨(Shp.all h).1, Nat.succ_le_succ (Shp.all h).2⟩
theorem Shp.tuple {n : Nat} {l : List PyData} (h : ∀ d ∈ l, Shp n d) : Shp (n + 1) (.tuple l) := ⟨(Shp.all h).1, Nat.succ_le_succ (Shp.all h).2⟩
theorem Shp.int (i : Int) (n : Nat) : Shp n (.int i) := ⟨rfl, Nat.zero_le _⟩
theorem Shp.bool (b : Bool) (n : Nat) : Shp n (.bool b) := ⟨rfl, Nat.zero_le _⟩
theorem Shp.none (n : Nat) : Shp n .none := ⟨rfl, Nat.zero_le _⟩
theorem Shp.str {x : Str} (h : PyData.strOk x = true) (n : Nat) : Shp n (.str x) := ⟨h, Nat.zero_le _⟩
theorem strOk_of {x : Str} {m : Nat} (h : ∀ c ∈ x.cps.toList, c ≤ m) (hm : m < 0x110000) : PyData.strOk x = true := by
  unfold PyData.strOk
  rw [← Array.all_toList, List.all_eq_true]
  intro c hc
  have := h c hc
  exact decide_eq_true (by omega)
section
variable {H : Hp} {Q : VK} {K : PySem.W.Frag} {x y : V} {d e : PyData} {ex ex' : List Addr} {n : Nat}
theorem r_eqD (hx : Dt ex H x d) (hy : Dt ex' H y e) (sx : Shp n d) (sy : Shp n e) (hn : n ≤ 64) (q : Q (.bl (PyData.eqv d e)) H) : rEqD K x y H Q := ⟨d, e, hx.dp, hy.dp, sx.ok hn, sy.ok hn, q⟩
theorem r_neD (hx : Dt ex H x d) (hy : Dt ex' H y e) (sx : Shp n d) (sy : Shp n e) (hn : n ≤ 64) (q : Q (.bl (!PyData.eqv d e)) H) : rNeD K x y H Q := ⟨d, e, hx.dp, hy.dp, sx.ok hn, sy.ok hn, q⟩
theorem r_eqD1 (hx : Dt ex H x d) (hy : Dt ex' H y d) (sx : Shp n d) (hn : n ≤ 64) (q : Q (.bl true) H) : rEqD K x y H Q := by
  refine r_eqD hx hy sx sx hn ?_
  rw [SeqAt.eqv_refl d sx.1]
  exact q
theorem r_neD0 (hx : Dt ex H x d) (hy : Dt ex' H y d) (sx : Shp n d) (hn : n ≤ 64) (q : Q (.bl false) H) : rNeD K x y H Q := by
  refine r_neD hx hy sx sx hn ?_
  rw [SeqAt.eqv_refl d sx.1]
  exact q
end
end Rd

set_option maxHeartbeats 4000000
/-! Ob: objects of own classes (fields, methods, making), their `in`, len, ==; isinstance of data; text in text; walks over a list or a tuple. -/
namespace Rd
open PySem PySem.Spec L2 StX

def UseM (P : Program) (w : World) (K : PySem.W.Frag) (mg : Str → Option Value) (base : Heap) (n : Nat) (C : Addr) (m : Str) (sp : Sp) : Prop := ∃ f, FnR P w K mg base CX0 n f sp ∧ Meth K C m f
def UseC (P : Program) (w : World) (K : PySem.W.Frag) (mg : Str → Option Value) (base : Heap) (n : Nat) (x : Str) (C : Addr) (sp : Sp) : Prop := ∃ f, FnR P w K mg base CX0 n f sp ∧ Mk K C f ∧ mg x = some (.ref C)
theorem fnr {P : Program} {w : World} {K : PySem.W.Frag} {mg : Str → Option Value} {base : Heap} {n : Nat} {f : Addr} {fd : FuncData} {ps : List Str} {sp : Sp} (F : FnOk P w K mg base CX0 n f fd ps sp) (b : Binds K fd ps []) : FnR P w K mg base CX0 n f sp :=
  (F.raw b .nil).imp fun vs H Q E h => by
    rw [List.append_nil]
    exact h

section
variable {σ : St} {H : Hp} {Q : VK} {QB : Bool → Hp → Prop} {v x y : V} {ta tb tc tv : TE} {tr : TA} {K : PySem.W.Frag} {C a dx : Addr} {fs : List (Str × V)} {f m : Str} {nx bk ct : St → Hp → Prop} {rt : VK} {sp : Sp} {r r' : R2} {b : Bool}
/-! fields -/
def kFld (K : PySem.W.Frag) (f : Str) (Q : VK) : VK := fun x H1 => ∃ a C dx fs v, x = .ref a ∧ H1 a = some (.ins C dx fs) ∧ Cls K C ∧ NoAttr K C f ∧ fs.lookup f = some v ∧ Q v H1
theorem r_fld (q : ta σ H (kFld K f Q)) : tFld K ta f σ H Q := q
theorem r_kFld (e : H a = some (.ins C dx fs)) (c : Cls K C) (n : NoAttr K C f) (l : fs.lookup f = some v) (q : Q v H) : kFld K f Q (.ref a) H := ⟨a, C, dx, fs, v, rfl, e, c, n, l, q⟩
def kSF (K : PySem.W.Frag) (f : Str) (y : V) (nx : St → Hp → Prop) (σ : St) : VK := fun x H2 => ∃ a C dx fs, x = .ref a ∧ H2 a = some (.ins C dx fs) ∧ Cls K C ∧ NoAttr K C f ∧ fs.length < 1000 ∧ nx σ (upd H2 a (.ins C dx (putF f y fs)))
theorem r_sfld (q : tv σ H fun y H1 => ta σ H1 (kSF K f y nx σ)) : sFld K ta tv f ⟨nx, rt, bk, ct⟩ σ H := q
theorem r_kSF (e : H a = some (.ins C dx fs)) (c : Cls K C) (n : NoAttr K C f) (l : fs.length < 1000) (q : ∀ H', Kp [a] H H' → H' a = some (.ins C dx (putF f y fs)) → nx σ H') : kSF K f y nx σ (.ref a) H :=
  ⟨a, C, dx, fs, rfl, e, c, n, l, q _ (Kp.put (by simp)) upd_same⟩
/-! methods, making -/
def kMeth (C : Addr) (m : Str) (sp : Sp) (t : TA) (σ : St) (Q : VK) : VK := fun x H1 => ∃ a dx fs, x = .ref a ∧ H1 a = some (.ins C dx fs) ∧ fs.lookup m = none ∧ t σ H1 fun vs H2 => sp (x :: vs) H2 Q E0
theorem r_methR (q : ta σ H (kMeth C m sp tr σ Q)) : tMethR C m sp E0 ta tr σ H Q := q
theorem r_kMeth (e : H a = some (.ins C dx fs)) (l : fs.lookup m = none) (q : tr σ H fun vs H2 => sp (.ref a :: vs) H2 Q E0) : kMeth C m sp tr σ Q (.ref a) H := ⟨a, dx, fs, rfl, e, l, q⟩
def kMade (x : Addr) (Q : VK) : VK := fun v H2 => v = .non ∧ Q (.ref x) H2
theorem r_kMade {p : Addr} (q : Q (.ref p) H) : kMade p Q .non H := ⟨rfl, q⟩
def kMake (C : Addr) (sp : Sp) (Q : VK) : List V → Hp → Prop := fun vs H1 => ∀ x dx, H1 x = none → H1 dx = none → dx ≠ x → sp (.ref x :: vs) (upd (upd H1 dx (.own x)) x (.ins C dx [])) (kMade x Q) E0
theorem r_makeR (q : tr σ H (kMake C sp Q)) : tMakeR C sp E0 tr σ H Q := q
theorem r_kMake {vs : List V} (q : ∀ a dx H', H a = none → Kp [] H H' → H' a = some (.ins C dx []) → sp (.ref a :: vs) H' (kMade a Q) E0) : kMake C sp Q vs H := fun a dx n n' d =>
  q a dx _ n ((Kp.new n').trans (Kp.new (by rw [upd_ne d.symm]; exact n))) upd_same
/-! a op b op c -/
def kCh (r' : R2) (y : V) (tc : TE) (σ : St) (Q : VK) : VK := fun z H3 => ∃ k, z = .bl k ∧ (if k = true then tc σ H3 fun w' H4 => r' y w' H4 Q else Q (.bl false) H3)
theorem r_chain (q : ta σ H fun x H1 => tb σ H1 fun y H2 => r x y H2 (kCh r' y tc σ Q)) : tChain r r' ta tb tc σ H Q := q
theorem r_kCh (h1 : b = true → tc σ H fun w' H4 => r' y w' H4 Q) (h2 : b = false → Q (.bl false) H) : kCh r' y tc σ Q (.bl b) H := by
  refine ⟨b, rfl, ?_⟩
  cases b
  · exact h2 rfl
  · exact h1 rfl
/-! text in text -/
def rInS : R2 := fun x y H Q => ∃ i j, x = .str i ∧ y = .str j ∧ Q (.bl (!(Builtin.Str.occurrences j i 0 j.length 1).isEmpty)) H
def rNinS : R2 := fun x y H Q => ∃ i j, x = .str i ∧ y = .str j ∧ Q (.bl (!(!(Builtin.Str.occurrences j i 0 j.length 1).isEmpty))) H
theorem op_inS {X : Cx} : OpR X (compareOp .In) rInS := op_in_str
theorem op_ninS {X : Cx} : OpR X (compareOp .NotIn) rNinS := op_notin_str
theorem r_inC {c : Nat} {z : Str} (q : Q (.bl (decide (c ∈ z.cps.toList))) H) : rInS (.str ⟨#[c]⟩) (.str z) H Q := by
  refine ⟨_, _, rfl, rfl, ?_⟩
  have e := StrLaws.found_one z c
  rw [show (!(Builtin.Str.occurrences z ⟨#[c]⟩ 0 z.length 1).isEmpty) = decide (c ∈ z.cps.toList) from e]
  exact q
theorem r_ninC {c : Nat} {z : Str} (q : Q (.bl (!decide (c ∈ z.cps.toList))) H) : rNinS (.str ⟨#[c]⟩) (.str z) H Q := by
  refine ⟨_, _, rfl, rfl, ?_⟩
  have e := StrLaws.found_one z c
  rw [show (!(Builtin.Str.occurrences z ⟨#[c]⟩ 0 z.length 1).isEmpty) = decide (c ∈ z.cps.toList) from e]
  exact q
/-! in a tuple of texts; all of truth values -/
theorem r_inT {z : Str} {ws : List Str} {p : Addr} (h : SqT K H p (ws.map V.str)) (q : Q (.bl (decide (z ∈ ws))) H) : rIn K false (.str z) (.ref p) H Q := by
  refine ⟨p, _, rfl, .inr h, rfl, flat_strs ws, ?_⟩
  show Q (.bl (inV (.str z) (ws.map V.str))) H
  rw [inV_strs]
  exact q
theorem r_ninT {z : Str} {ws : List Str} {p : Addr} (h : SqT K H p (ws.map V.str)) (q : Q (.bl (!decide (z ∈ ws))) H) : rIn K true (.str z) (.ref p) H Q := by
  refine ⟨p, _, rfl, .inr h, rfl, flat_strs ws, ?_⟩
  show Q (.bl (!inV (.str z) (ws.map V.str))) H
  rw [inV_strs]
  exact q
theorem r_all {bs : List Bool} {p : Addr} (h : SqL K H p (bs.map V.bl)) (q : Q (.bl (bs.all id)) H) : rAll K [.ref p] H Q := ⟨p, bs, rfl, h, q⟩
theorem r_any {bs : List Bool} {p : Addr} (h : SqL K H p (bs.map V.bl)) (q : Q (.bl (bs.any id)) H) : rAny K [.ref p] H Q := ⟨p, bs, rfl, h, q⟩
/-! two tuples, one behind the other -/
theorem r_catT {a b : Addr} {xs ys : List V} (ha : SqT K H a xs) (hb : SqT K H b ys) (hz : xs.length + ys.length ≤ sizeLine) (hy : ys ≠ []) (hx : xs = [] → Q (.ref b) H) (q : xs ≠ [] → ∀ p H', H p = none → Kp [] H H' → H' p = some (.tup (xs ++ ys)) → Q (.ref p) H') : rCatA K (.ref a) (.ref b) H Q :=
  ⟨a, b, xs, ys, rfl, rfl, ha, hb, hz, hx, fun _ e => absurd e hy, fun hx _ p n => q hx p _ n (Kp.new n) upd_same⟩
/-- the sum of two tuples, the second one not empty: some tuple -/
theorem r_catT' {a b : Addr} {xs ys : List V} (ha : SqT K H a xs) (hb : H b = some (.tup ys)) (hz : xs.length + ys.length ≤ sizeLine) (hy : ys ≠ []) (q : ∀ p H', Kp [] H H' → H' p = some (.tup (xs ++ ys)) → (p = b ∨ H p = none) → Q (.ref p) H') : rCatA K (.ref a) (.ref b) H Q := by
  refine r_catT ha (SqT.of hb) hz hy (fun e => ?_) fun _ p H' n k e => q p H' k e (.inr n)
  subst e
  exact q b H (Kp.refl _ _) hb (.inl rfl)
end

/-! `in`, len by own defs -/
def kOwnB (neg : Bool) (Q : VK) : VK := fun z H' => ∃ b, z = .bl b ∧ Q (.bl (b != neg)) H'
def rInOwn (C : Addr) (sp : Sp) (neg : Bool) : R2 := fun x y H Q => ∃ a dx fs, y = .ref a ∧ H a = some (.ins C dx fs) ∧ sp [.ref a, x] H (kOwnB neg Q) E0
def kOwnI (Q : VK) : VK := fun z H' => ∃ n : Int, z = .int n ∧ 0 ≤ n ∧ n < 2 ^ 63 ∧ Q (.int n) H'
def cLenOwn (C : Addr) (sp : Sp) : R1 := fun xs H Q => ∃ a dx fs, xs = [.ref a] ∧ H a = some (.ins C dx fs) ∧ sp [.ref a] H (kOwnI Q) E0
/-- x == y, both of the class at C -/
def rEqOwn (C : Addr) (sp : Sp) : R2 := fun x y H Q => ∃ a dx fs b dy gs, x = .ref a ∧ y = .ref b ∧ H a = some (.ins C dx fs) ∧ H b = some (.ins C dy gs) ∧ sp [.ref a, .ref b] H (fun z H' => ∃ c, z = .bl c ∧ Q (.bl c) H') E0
section
variable {X : Cx} {n : Nat} {C f : Addr} {sp : Sp}
theorem op_inOwn (hm : Meth X.K C "__contains__" f) (F : FnR X.prog X.w X.K X.mg X.base CX0 n f sp) (hr : Room n X.A) : OpR X (compareOp .In) (rInOwn C sp false) := by
  intro pins s σ H x y v u Q I rx ry h
  obtain ⟨a, dx, fs, rfl, ea, q⟩ := h
  cases (show u = Value.ref a from ry)
  obtain ⟨mA, O, _⟩ := ins_get I.hok ea
  obtain ⟨od, J, _⟩ := O.look
  obtain ⟨m, hF⟩ := I.fr
  refine PySem.W.in_K hF I.ok.mod.kin J hm.at_ hm.fn (wpAny_mono (wpAny_call (run_fnR (us := [.ref a, v]) (vs := [.ref a, x]) F hr pass0 I (.cons rfl (.cons rx .nil)) q)) (fun r s' z => ?_) fun _ _ x => x)
  obtain ⟨z', H', I', rz, b, rfl, qz⟩ := z
  cases (show r = Value.bool b from rz)
  refine wpAny_truthy_bool ⟨.bl b, H', I', rfl, ?_⟩
  have e : (b != false) = b := by cases b <;> rfl
  rw [e] at qz
  exact qz
theorem op_ninOwn (hm : Meth X.K C "__contains__" f) (F : FnR X.prog X.w X.K X.mg X.base CX0 n f sp) (hr : Room n X.A) : OpR X (compareOp .NotIn) (rInOwn C sp true) := by
  intro pins s σ H x y v u Q I rx ry h
  obtain ⟨a, dx, fs, rfl, ea, q⟩ := h
  cases (show u = Value.ref a from ry)
  obtain ⟨mA, O, _⟩ := ins_get I.hok ea
  obtain ⟨od, J, _⟩ := O.look
  obtain ⟨m, hF⟩ := I.fr
  refine PySem.W.notIn_K hF I.ok.mod.kin J hm.at_ hm.fn (wpAny_mono (wpAny_call (run_fnR (us := [.ref a, v]) (vs := [.ref a, x]) F hr pass0 I (.cons rfl (.cons rx .nil)) q)) (fun r s' z => ?_) fun _ _ x => x)
  obtain ⟨z', H', I', rz, b, rfl, qz⟩ := z
  cases (show r = Value.bool b from rz)
  refine wpAny_truthy_bool ⟨.bl (!b), H', I', rfl, ?_⟩
  have e : (b != true) = !b := by cases b <;> rfl
  rw [e] at qz
  exact qz
theorem cr_lenOwn (hm : Meth X.K C "__len__" f) (F : FnR X.prog X.w X.K X.mg X.base CX0 n f sp) (hr : Room (n + 1) X.A) : CallR X (.builtin "len") (cLenOwn C sp) := by
  intro pins s σ H xs us Q I r h
  obtain ⟨a, dx, fs, rfl, ea, q⟩ := h
  obtain ⟨u, rfl, ru⟩ := r.one
  cases (show u = Value.ref a from ru)
  obtain ⟨mA, O, _⟩ := ins_get I.hok ea
  obtain ⟨od, J, _⟩ := O.look
  obtain ⟨m, hF⟩ := I.fr
  refine PySem.W.len_K hF I.ok.mod.kin J hm.at_ hm.fn (wpAny_call (codeAny_mono (F X.A.in1 X.stack s H [.ref a] [.ref a] _ E0 hr.in1 I.env0.in1 (.cons rfl .nil) q) fun r s' z => ?_))
  cases r with
  | error e => exact False.elim z
  | ok fl =>
    cases fl with
    | ret u =>
      obtain ⟨z', H', I', rz, k, rfl, k0, k1, qz⟩ := I.after z
      obtain ⟨t, e⟩ := (show ∃ t, u = Value.int k t from rz)
      cases e
      exact ⟨⟨k0, k1⟩, .int k, H', I'.tok _, ⟨_, rfl⟩, qz⟩
    | next => exact False.elim z
    | brk => exact False.elim z
    | cont => exact False.elim z
theorem op_eqOwn (hm : Meth X.K C "__eq__" f) (F : FnR X.prog X.w X.K X.mg X.base CX0 n f sp) (hr : Room n X.A) : OpR X (compareOp .Eq) (rEqOwn C sp) := by
  intro pins s σ H x y v u Q I rx ry h
  obtain ⟨a, dx, fs, b, dy, gs, rfl, rfl, ea, eb, q⟩ := h
  cases (show v = Value.ref a from rx)
  cases (show u = Value.ref b from ry)
  obtain ⟨mA, O, _⟩ := ins_get I.hok ea
  obtain ⟨od, J, _⟩ := O.look
  obtain ⟨mB, O', _⟩ := ins_get I.hok eb
  obtain ⟨od', J', _⟩ := O'.look
  obtain ⟨m, hF⟩ := I.fr
  have nf : PySem.W.notFirst X.K C (.ref C) = true := by
    unfold PySem.W.notFirst
    simp
  refine PySem.W.cmp_K (op := .Eq) (tb := .ref C) hr.units0 hF I.ok.mod.kin J J'.type nf hm.at_ hm.fn ?_
  refine wpAny_mono (wpAny_call (run_fnR (us := [.ref a, .ref b]) (vs := [.ref a, .ref b]) F hr pass0 I (.cons rfl (.cons rfl .nil)) q)) (fun r s' z => ?_) fun _ _ x => x
  obtain ⟨z', H', I', rz, c, rfl, qz⟩ := z
  cases (show r = Value.bool c from rz)
  exact ⟨.bl c, H', I', rfl, qz⟩
end
section
variable {H : Hp} {Q : VK} {C a dx : Addr} {fs : List (Str × V)} {sp : Sp} {x : V} {neg b : Bool}
theorem r_inOwn (e : H a = some (.ins C dx fs)) (q : sp [.ref a, x] H (kOwnB neg Q) E0) : rInOwn C sp neg x (.ref a) H Q := ⟨a, dx, fs, rfl, e, q⟩
theorem r_kOwnB (q : Q (.bl (b != neg)) H) : kOwnB neg Q (.bl b) H := ⟨b, rfl, q⟩
end

/-! data of any kind: its type -/
def tyD : PyData → String
  | .none => "NoneType"
  | .bool _ => "bool"
  | .int _ => "int"
  | .str _ => "str"
  | .list _ => "list"
  | .tuple _ => "tuple"
  | .dict _ => "dict"
theorem Dt.tyx {K : PySem.W.Frag} {ex : List Addr} {H : Hp} {v : V} {d : PyData} (h : Dt ex H v d) : TyX K H v (.type (tyD d)) := by
  cases h with
  | non => exact .base .non
  | bl b => exact .base (.bl b)
  | int i => exact .base (.int i)
  | str x => exact .base (.str x)
  | lst _ e _ => exact .base (.lst e)
  | tup _ e _ => exact .base (.tup e)
def isStr : PyData → Bool
  | .str _ => true
  | _ => false
def isTup : PyData → Bool
  | .tuple _ => true
  | _ => false
def isLst : PyData → Bool
  | .list _ => true
  | _ => false
def isInt : PyData → Bool
  | .int _ => true
  | .bool _ => true
  | _ => false
def isBool : PyData → Bool
  | .bool _ => true
  | _ => false
theorem kit_D {n : String} {f : PyData → Bool} {d : PyData} (b0 b1 b2 b3 b4 b5 b6 : Bool) (h0 : kitB "NoneType" n = some b0) (h1 : kitB "bool" n = some b1) (h2 : kitB "int" n = some b2) (h3 : kitB "str" n = some b3) (h4 : kitB "list" n = some b4) (h5 : kitB "tuple" n = some b5) (h6 : kitB "dict" n = some b6)
    (e0 : f .none = b0) (e1 : ∀ b, f (.bool b) = b1) (e2 : ∀ b, f (.int b) = b2) (e3 : ∀ b, f (.str b) = b3) (e4 : ∀ b, f (.list b) = b4) (e5 : ∀ b, f (.tuple b) = b5) (e6 : ∀ b, f (.dict b) = b6) : kitB (tyD d) n = some (f d) := by
  cases d with
  | none => rw [e0]; exact h0
  | bool b => rw [e1]; exact h1
  | int b => rw [e2]; exact h2
  | str b => rw [e3]; exact h3
  | list b => rw [e4]; exact h4
  | tuple b => rw [e5]; exact h5
  | dict b => rw [e6]; exact h6
theorem kit_str (d : PyData) : kitB (tyD d) "str" = some (isStr d) :=
  kit_D false false false true false false false (by decide +kernel) (by decide +kernel) (by decide +kernel) (by decide +kernel) (by decide +kernel) (by decide +kernel) (by decide +kernel) rfl (fun _ => rfl) (fun _ => rfl) (fun _ => rfl) (fun _ => rfl) (fun _ => rfl) (fun _ => rfl)
theorem kit_tup (d : PyData) : kitB (tyD d) "tuple" = some (isTup d) :=
  kit_D false false false false false true false (by decide +kernel) (by decide +kernel) (by decide +kernel) (by decide +kernel) (by decide +kernel) (by decide +kernel) (by decide +kernel) rfl (fun _ => rfl) (fun _ => rfl) (fun _ => rfl) (fun _ => rfl) (fun _ => rfl) (fun _ => rfl)
theorem kit_lst (d : PyData) : kitB (tyD d) "list" = some (isLst d) :=
  kit_D false false false false true false false (by decide +kernel) (by decide +kernel) (by decide +kernel) (by decide +kernel) (by decide +kernel) (by decide +kernel) (by decide +kernel) rfl (fun _ => rfl) (fun _ => rfl) (fun _ => rfl) (fun _ => rfl) (fun _ => rfl) (fun _ => rfl)
theorem kit_int (d : PyData) : kitB (tyD d) "int" = some (isInt d) :=
  kit_D false true true false false false false (by decide +kernel) (by decide +kernel) (by decide +kernel) (by decide +kernel) (by decide +kernel) (by decide +kernel) (by decide +kernel) rfl (fun _ => rfl) (fun _ => rfl) (fun _ => rfl) (fun _ => rfl) (fun _ => rfl) (fun _ => rfl)
theorem kit_bool (d : PyData) : kitB (tyD d) "bool" = some (isBool d) :=
  kit_D false true false false false false false (by decide +kernel) (by decide +kernel) (by decide +kernel) (by decide +kernel) (by decide +kernel) (by decide +kernel) (by decide +kernel) rfl (fun _ => rfl) (fun _ => rfl) (fun _ => rfl) (fun _ => rfl) (fun _ => rfl) (fun _ => rfl)
section
variable {K : PySem.W.Frag} {ex : List Addr} {H : Hp} {Q : VK} {x : V} {d : PyData} {tp : Addr}
theorem r_isiStr (h : Dt ex H x d) (q : Q (.bl (isStr d)) H) : rIsi K [x, .ty "str"] H Q := r_isiTy h.tyx (kit_str d) q
theorem r_isiTup (h : Dt ex H x d) (q : Q (.bl (isTup d)) H) : rIsi K [x, .ty "tuple"] H Q := r_isiTy h.tyx (kit_tup d) q
theorem r_isiLst (h : Dt ex H x d) (q : Q (.bl (isLst d)) H) : rIsi K [x, .ty "list"] H Q := r_isiTy h.tyx (kit_lst d) q
theorem r_isiInt (h : Dt ex H x d) (q : Q (.bl (isInt d)) H) : rIsi K [x, .ty "int"] H Q := r_isiTy h.tyx (kit_int d) q
theorem r_isiBool (h : Dt ex H x d) (q : Q (.bl (isBool d)) H) : rIsi K [x, .ty "bool"] H Q := r_isiTy h.tyx (kit_bool d) q
theorem r_isiLT (h : Dt ex H x d) (e : H tp = some (.tup [.ty "list", .ty "tuple"])) (q : Q (.bl (isLst d || isTup d)) H) : rIsiT K [x, .ref tp] H Q := by
  refine ⟨x, tp, _, _, _, _, rfl, e, .cons (.ty "list") (.cons (.ty "tuple") .nil), h.tyx, ?_, q⟩
  refine kitAny_cons (kit_ty (kit_lst d)) (fun c => ?_) fun c => by rw [c]; rfl
  rw [c]
  refine kitAny_cons (kit_ty (kit_tup d)) (fun c => ?_) fun c => by rw [c]; rfl
  rw [c]
  rfl
end
mutual
theorem Dt.skip' {ex : List Addr} {H : Hp} {a : Addr} {o : HO} (e : H a = some o) (n1 : ∀ xs, o ≠ .lst xs) (n2 : ∀ xs, o ≠ .tup xs) : ∀ (d : PyData) (v : V), Dt ex H v d → Dt (a :: ex) H v d
  | .none, _, h => by cases h; exact .non
  | .bool b, _, h => by cases h; exact .bl b
  | .int i, _, h => by cases h; exact .int i
  | .str x, _, h => by cases h; exact .str x
  | .list ds, _, h => by
    cases h with
    | lst m e' al => exact .lst (fun z => (List.mem_cons.mp z).elim (fun q => n1 _ (Option.some.inj ((q ▸ e).symm.trans e'))) m) e' (DtAll.skip' e n1 n2 ds _ al)
  | .tuple ds, _, h => by
    cases h with
    | tup m e' al => exact .tup (fun z => (List.mem_cons.mp z).elim (fun q => n2 _ (Option.some.inj ((q ▸ e).symm.trans e'))) m) e' (DtAll.skip' e n1 n2 ds _ al)
  | .dict _, _, h => by cases h
theorem DtAll.skip' {ex : List Addr} {H : Hp} {a : Addr} {o : HO} (e : H a = some o) (n1 : ∀ xs, o ≠ .lst xs) (n2 : ∀ xs, o ≠ .tup xs) : ∀ (ds : List PyData) (vs : List V), DtAll ex H vs ds → DtAll (a :: ex) H vs ds
  | [], _, h => by cases h; exact .nil
  | d :: ds, _, h => by
    cases h with
    | cons h1 h2 => exact .cons (Dt.skip' e n1 n2 d _ h1) (DtAll.skip' e n1 n2 ds _ h2)
end
/-- nothing of the data lies where an object of another kind stands -/
theorem Dt.skip {ex : List Addr} {H : Hp} {a : Addr} {o : HO} {v : V} {d : PyData} (h : Dt ex H v d) (e : H a = some o) (n1 : ∀ xs, o ≠ .lst xs) (n2 : ∀ xs, o ≠ .tup xs) : Dt (a :: ex) H v d := Dt.skip' e n1 n2 d v h
theorem DtAll.skip {ex : List Addr} {H : Hp} {a : Addr} {o : HO} {vs : List V} {ds : List PyData} (h : DtAll ex H vs ds) (e : H a = some o) (n1 : ∀ xs, o ≠ .lst xs) (n2 : ∀ xs, o ≠ .tup xs) : DtAll (a :: ex) H vs ds := DtAll.skip' e n1 n2 ds vs h

theorem pe_globE {X : Cx} {x : Str} {v : V} {pos : Pos} (h : ∃ u, X.mg x = some u ∧ RelV v u) (hg : Gl X x) (hd : (x == ("__debug__" : Str)) = false := by decide) : PE X (.Name x pos) (tC v) := by
  obtain ⟨u, hm, r⟩ := h
  exact pe_glob hg hm r hd
/-! for over a list or a tuple -/
section
variable {σ : St} {H : Hp} {K : PySem.W.Frag} {xs : List V} {p : Addr} {g : TG} {tb : TS} {nx bk ct : St → Hp → Prop} {rt : VK}
theorem r_kForQ (Pv : Nat → St → Hp → Prop) (hq : Sq K H p xs) (h0 : Pv 0 σ H) (hl : ∀ i σ H', i ≤ xs.length → Pv i σ H' → ∃ ex, p ∉ ex ∧ Kp ex H H')
    (hs : ∀ (i : Nat) x σ H, xs[i]? = some x → Pv i σ H → g x σ H fun σ2 H2 => tb ⟨Pv (i + 1), rt, nx, Pv (i + 1)⟩ σ2 H2) (hd : ∀ σ H, Pv xs.length σ H → nx σ H) : cWQ K (kFor g tb ⟨nx, rt, bk, ct⟩ σ) (.ref p) H := by
  rcases hq with h | h
  · exact r_cWQl h (r_kForL Pv h0 (fun i σ H' hi q => let ⟨_, m, k⟩ := hl i σ H' hi q; sql_kp h k m) hs hd)
  · exact r_cWQt h (r_kForT Pv h0 (fun i σ H' hi q => let ⟨_, m, k⟩ := hl i σ H' hi q; sqt_kp h k m) hs hd)
end
/-! displays of data -/
def ED (te : TE) (σ : St) (H : Hp) (d : PyData) : Prop := ∀ Q : VK, (∀ x H', Kp [] H H' → Dt [] H' x d → Q x H') → te σ H Q
def AD (tr : TA) (σ : St) (H : Hp) (ds : List PyData) : Prop := ∀ QA : List V → Hp → Prop, (∀ xs H', Kp [] H H' → DtAll [] H' xs ds → QA xs H') → tr σ H QA
section
variable {σ : St} {H : Hp} {Q : VK} {d : PyData} {ds : List PyData} {te : TE} {tr : TA} {v : V} {i : Nat}
theorem r_ED (h : ED te σ H d) (q : ∀ x H', Kp [] H H' → Dt [] H' x d → Q x H') : te σ H Q := h Q q
theorem ED_c (h : Dt [] H v d) : ED (tC v) σ H d := fun _ q => q v H (Kp.refl _ _) h
theorem ED_var (e : σ[i]? = some (some v)) (h : Dt [] H v d) : ED (tVar i) σ H d := fun _ q => ⟨v, e, q v H (Kp.refl _ _) h⟩
theorem AD_nil : AD tNil σ H [] := fun _ q => q [] H (Kp.refl _ _) .nil
theorem AD_cons (h : ED te σ H d) (hr : ∀ H1, Kp [] H H1 → AD tr σ H1 ds) : AD (tCons te tr) σ H (d :: ds) := fun _ q =>
  h _ fun x H1 k1 h1 => hr H1 k1 _ fun xs H2 k2 h2 => q (x :: xs) H2 (k1.trans k2) (.cons (h1.mono k2) h2)
theorem ED_tup (h : AD tr σ H ds) (hl : ds.length ≤ sizeLine) : ED (tTup tr) σ H (.tuple ds) := fun _ q =>
  h _ fun xs H1 k1 h1 => ⟨h1.length ▸ hl, fun p n => q (.ref p) _ (k1.trans (Kp.new n)) (.tup not_nil upd_same (h1.mono (Kp.new n)))⟩
theorem ED_lst (h : AD tr σ H ds) (hl : ds.length ≤ sizeLine) : ED (tLst tr) σ H (.list ds) := fun _ q =>
  h _ fun xs H1 k1 h1 => ⟨h1.length ▸ hl, fun p n => q (.ref p) _ (k1.trans (Kp.new n)) (.lst not_nil upd_same (h1.mono (Kp.new n)))⟩
theorem r_neB {a b : Bool} (q : Q (.bl (!decide (a = b))) H) : rNe (.bl a) (.bl b) H Q := by
  refine ⟨rfl, ?_⟩
  have e : decide (V.bl a = V.bl b) = decide (a = b) := by cases a <;> cases b <;> rfl
  rw [e]
  exact q
theorem r_eqB {a b : Bool} (q : Q (.bl (decide (a = b))) H) : rEq (.bl a) (.bl b) H Q := by
  refine ⟨rfl, ?_⟩
  have e : decide (V.bl a = V.bl b) = decide (a = b) := by cases a <;> cases b <;> rfl
  rw [e]
  exact q
theorem idx_in {i : Int} {n : Nat} (h0 : 0 ≤ i) (h1 : i < n) : seqIndex? i n = some i.toNat := by
  unfold seqIndex?
  have e : ¬ i < 0 := by omega
  simp [e, h0, h1]
theorem r_popAt {l : Addr} {xs : List V} {i : Int} {y : V} (e : H l = some (.lst xs)) (h0 : 0 ≤ i) (h1 : i < (xs.length : Int)) (h2 : xs.length < 2 ^ 62) (hy : xs[i.toNat]? = some y) (q : ∀ H', Kp [l] H H' → H' l = some (.lst (xs.eraseIdx i.toNat)) → Q y H') : rPopAt (.ref l) [.int i] H Q :=
  ⟨l, xs, i, i.toNat, y, rfl, rfl, e, by omega, by omega, idx_in h0 h1, hy, q _ (Kp.put (by simp)) upd_same⟩
theorem r_cat {l b : Addr} {xs zs : List V} (e : H l = some (.lst xs)) (e' : H b = some (.lst zs)) (hz : xs.length + zs.length ≤ sizeLine) (q : ∀ p H', H p = none → Kp [] H H' → H' p = some (.lst (xs ++ zs)) → Q (.ref p) H') : rCat (.ref l) (.ref b) H Q :=
  ⟨l, b, xs, zs, rfl, rfl, e, e', hz, fun p n => q p _ n (Kp.new n) upd_same⟩
end
end Rd

set_option maxHeartbeats 4000000
/-! DatS: sorted of data, < of data, max(ints, default=d). -/
namespace Rd
open PySem PySem.Spec L2 StX
open PySem.W (AllAlike Sortable dataLe dataLt alike EachIs)
/-- the sorted data -/
def srtD (ds : List PyData) : List PyData := ds.mergeSort (dataLe false id)
theorem srtD_perm (ds : List PyData) : (srtD ds).Perm ds := List.mergeSort_perm _ _
theorem srtD_pw (ds : List PyData) : (srtD ds).Pairwise fun a b => dataLt b a = false := by
  have h := PySem.W.sort_pairwise (PySem.W.sortLe_total (PyProof.Rows.listOrd PyProof.Rows.itemOrd) false fun b : PyData => PySem.W.keyToks (id b)) ds
  refine List.Pairwise.imp (fun {a b} z => ?_) h
  have z' : (!dataLt (id b) (id a)) = true := z
  simpa using z'
def rSortedD (K : PySem.W.Frag) : List V → Hp → VK → Prop := fun vs H Q => ∃ (a : Addr) (bs : List (V × PyData)), vs = [.ref a] ∧ SqL K H a (bs.map Prod.fst) ∧ (∀ b ∈ bs, Dp K H b.1 b.2) ∧ AllAlike (bs.map Prod.snd) ∧ Sortable (bs.map Prod.snd) ∧ bs.length ≤ sizeLine ∧ (∀ b ∈ bs, b.2.depth ≤ 60) ∧
  ∀ p, H p = none → Q (.ref p) (upd H p (.lst ((bs.mergeSort (dataLe false Prod.snd)).map Prod.fst)))
theorem each_pairs {K : PySem.W.Frag} {R : Value → V × PyData → Prop} : ∀ {bs : List (V × PyData)} {us : List Value}, Vals (bs.map Prod.fst) us → (∀ b ∈ bs, ∀ u, RelV b.1 u → R u b) → EachIs R us bs
  | [], _, h, _ => by
    cases h
    exact .nil
  | b :: bs, _, h, g => by
    cases h with
    | cons r t => exact .cons (g b List.mem_cons_self _ r) (each_pairs (K := K) t fun b' m => g b' (List.mem_cons_of_mem _ m))
theorem each_vals : ∀ {us : List Value} {bs : List (V × PyData)}, EachIs (fun u b => RelV b.1 u) us bs → Vals (bs.map Prod.fst) us
  | _, _, .nil => .nil
  | _, _, .cons h t => .cons h (each_vals t)
section
variable {X : Cx}
theorem cr_sortedD (hu : X.A.units + 64 < cLine) : CallR X (.builtin "sorted") (rSortedD X.K) := by
  intro pins s σ H vs us Q I r h
  obtain ⟨a, bs, rfl, hs, hd, hal, hk, hl, hdep, q⟩ := h
  obtain ⟨its, rv, hp, _⟩ := I.list hs
  rw [Vals.ref1 r]
  refine PySem.W.sorted_data (R := fun u b => RelV b.1 u) (enc := Prod.snd) hp.isList (each_pairs (K := X.K) rv fun b _ u z => z) (each_pairs (K := X.K) rv fun b m u z => Dp.reads I b.2 b.1 u (hd b m) z) hal hk hl (fun b m => by
    have := hdep b m
    omega) fun out h1 h2 => ?_
  obtain ⟨ep, he'⟩ := PyProof.Rows.sortedAll_at s.heap its (List.toArray out)
  have hlen : ((bs.mergeSort (dataLe false Prod.snd)).map Prod.fst).length ≤ sizeLine := by
    rw [List.length_map, List.length_mergeSort]
    exact hl
  exact ⟨.ref _, upd H (s.heap.objs.size + 1) (.lst ((bs.mergeSort (dataLe false Prod.snd)).map Prod.fst)), I.laid (t' := s.toks) (fun _ _ => PyProof.Rows.sortedAll_old) (Nat.le_succ _) ⟨hlen, _, ep, by exact each_vals h2, he'⟩, rfl, q _ (I.hok.fresh (Nat.le_succ _))⟩
theorem K_sortedD {K : PySem.W.Frag} (hK : X.K = K) (hu : X.A.units + 64 < cLine) : CallR X (.builtin "sorted") (rSortedD K) := by
  subst hK
  exact cr_sortedD hu
def rLtD (K : PySem.W.Frag) : R2 := fun x y H Q => ∃ d e, Dp K H x d ∧ Dp K H y e ∧ alike d e = true ∧ d ≠ .none ∧ d.depth ≤ 60 ∧ Q (.bl (dataLt d e)) H
theorem op_ltD (hu : X.A.units + 64 < cLine) : OpR X (compareOp .Lt) (rLtD X.K) := by
  intro pins s σ H x y v u Q I rx ry h
  obtain ⟨d, e, hd, he, al, hn, dep, q⟩ := h
  obtain ⟨as, r1⟩ := Dp.reads I d x v hd rx
  obtain ⟨bs, r2⟩ := Dp.reads I e y u he ry
  exact PySem.W.rcLt_alike d e X.A s v u as bs r1 r2 al hn (by have := Nat.min_le_left d.depth e.depth; omega) _ _ _ _ ⟨.bl (dataLt d e), H, I, rfl, q⟩
theorem K_ltD {K : PySem.W.Frag} (hK : X.K = K) (hu : X.A.units + 64 < cLine) : OpR X (compareOp .Lt) (rLtD K) := by
  subst hK
  exact op_ltD hu
/-- max(ints, default=d) -/
def rMaxDf (K : PySem.W.Frag) : List V → List V → Hp → VK → Prop := fun vs zs H Q => ∃ (a : Addr) (ns : List Int) (d : Int), vs = [V.ref a] ∧ zs = [V.int d] ∧ SqL K H a (ns.map V.int) ∧ (ns = [] → Q (.int d) H) ∧ ∀ n r, ns = n :: r → Q (.int (r.foldl max n)) H
theorem reads_ints {h : Heap} : ∀ {ns : List Int} {us : List Value}, Vals (ns.map V.int) us → ∃ as, ReadsAll h us (ns.map PyData.int) as
  | [], _, r => by
    cases r
    exact ⟨_, .nil⟩
  | n :: ns, _, r => by
    cases r with
    | cons r1 r2 =>
      obtain ⟨t, rfl⟩ := r1
      obtain ⟨as, q⟩ := reads_ints (h := h) r2
      exact ⟨_, .cons (.int _ _) q⟩
theorem depth_ints : ∀ ns : List Int, PyData.depthAll (ns.map PyData.int) = 0
  | [] => rfl
  | n :: ns => by
    show max (PyData.int n).depth (PyData.depthAll (ns.map PyData.int)) = 0
    rw [depth_ints ns]
    rfl
theorem cr_maxDf (hu : X.A.units + 64 < cLine) (hc : X.calm = true) : CallRK X (.builtin "max") [Str.ofString "default"] (rMaxDf X.K) := by
  intro pins s σ H xs zs us ws Q I r1 r2 h
  obtain ⟨a, ns, d, rfl, rfl, hs, q0, q⟩ := h
  obtain ⟨its, rv, hp, _⟩ := I.list hs
  rw [Vals.ref1 r1]
  obtain ⟨wd, rfl, rd⟩ := r2.one
  obtain ⟨as, hr⟩ := reads_ints (h := s.heap) rv
  refine PySem.W.max_list_default (l := a) (vs := its.toArray) (xs := ns.map PyData.int) (as := as) (I.ok.hd hc) hp.isList hr ?_ (by rw [depth_ints]; omega) (fun e h' tk hk => ?_) fun y ys i v h' tk bs e _ rd' hk => ?_
  · refine ⟨fun x m y m' => ?_, fun x m => ?_⟩
    · obtain ⟨x', _, rfl⟩ := List.mem_map.mp m
      obtain ⟨y', _, rfl⟩ := List.mem_map.mp m'
      rfl
    · obtain ⟨x', _, rfl⟩ := List.mem_map.mp m
      exact fun z => nomatch z
  · exact ⟨.int d, H, I.kept hk, rd, q0 (List.map_eq_nil_iff.mp e)⟩
  · cases ns with
    | nil => cases e
    | cons n ns =>
      cases e
      rw [PySem.W.maxD_ints] at rd'
      cases rd' with
      | int _ t => exact ⟨.int _, H, I.kept hk, ⟨t, rfl⟩, q n ns rfl⟩
theorem K_maxDf {K : PySem.W.Frag} (hK : X.K = K) (hu : X.A.units + 64 < cLine) (hc : X.calm = true) : CallRK X (.builtin "max") [Str.ofString "default"] (rMaxDf K) := by
  subst hK
  exact cr_maxDf hu hc
end
section
variable {K : PySem.W.Frag} {H : Hp} {Q : VK} {p : Addr} {xs : List V} {ds : List PyData} {ex ex' : List Addr} {x y : V} {d e : PyData} {σ : St} {ns : List Int} {i : Int}
theorem zip_fst : ∀ {xs : List V} {ds : List PyData}, DtAll ex H xs ds → (xs.zip ds).map Prod.fst = xs ∧ (xs.zip ds).map Prod.snd = ds ∧ ∀ b ∈ xs.zip ds, Dt ex H b.1 b.2
  | _, _, h => by
    match h with
    | .nil => exact ⟨rfl, rfl, fun b m => nomatch m⟩
    | .cons h0 h1 =>
      obtain ⟨e1, e2, e3⟩ := zip_fst h1
      refine ⟨?_, ?_, fun b m => ?_⟩
      · rw [List.zip_cons_cons, List.map_cons, e1]
      · rw [List.zip_cons_cons, List.map_cons, e2]
      · rw [List.zip_cons_cons] at m
        rcases List.mem_cons.mp m with rfl | m
        · exact h0
        · exact e3 b m
theorem dtAll_of {bs : List (V × PyData)} (h : ∀ b ∈ bs, Dt ex H b.1 b.2) : DtAll ex H (bs.map Prod.fst) (bs.map Prod.snd) := by
  induction bs with
  | nil => exact .nil
  | cons b bs ih => exact .cons (h b List.mem_cons_self) (ih fun b' m => h b' (List.mem_cons_of_mem _ m))
theorem r_sortedD (hq : SqL K H p xs) (hd : DtAll ex H xs ds) (hal : AllAlike ds) (hk : Sortable ds) (hl : ds.length ≤ sizeLine) (hdep : ∀ d ∈ ds, d.depth ≤ 60)
    (q : ∀ l ys H', H l = none → Kp [] H H' → H' l = some (.lst ys) → DtAll ex H ys (srtD ds) → Q (.ref l) H') : rSortedD K [.ref p] H Q := by
  obtain ⟨e1, e2, e3⟩ := zip_fst hd
  have hlen : (xs.zip ds).length = ds.length := by
    rw [← e2, List.length_map]
    rw [e2]
  refine ⟨p, xs.zip ds, rfl, by rw [e1]; exact hq, fun b m => (e3 b m).dp, by rw [e2]; exact hal, by rw [e2]; exact hk, by rw [hlen]; exact hl, fun b m => hdep _ (by rw [← e2]; exact List.mem_map.mpr ⟨b, m, rfl⟩), fun l n => ?_⟩
  refine q l _ _ n (Kp.new n) upd_same ?_
  have es : ((xs.zip ds).mergeSort (dataLe false Prod.snd)).map Prod.snd = srtD ds := by
    have := PySem.W.sort_maps (r := dataLe false Prod.snd) (s := dataLe false id) Prod.snd (l := xs.zip ds) (fun a _ b _ => rfl)
    rw [this, e2]
    rfl
  rw [← es]
  exact dtAll_of fun b m => e3 b ((List.mergeSort_perm _ _).mem_iff.mp m)
theorem r_ltD (hx : Dt ex H x d) (hy : Dt ex' H y e) (al : alike d e = true) (hn : d ≠ .none) (dep : d.depth ≤ 60) (q : Q (.bl (dataLt d e)) H) : rLtD K x y H Q := ⟨d, e, hx.dp, hy.dp, al, hn, dep, q⟩
def kKw1 (r : List V → List V → Hp → VK → Prop) (tk : TA) (σ : St) (Q : VK) : List V → Hp → Prop := fun vs H1 => tk σ H1 fun zs H2 => r vs zs H2 Q
def kKw2 (r : List V → List V → Hp → VK → Prop) (vs : List V) (Q : VK) : List V → Hp → Prop := fun zs H2 => r vs zs H2 Q
theorem r_ckw {r : List V → List V → Hp → VK → Prop} {t tk : TA} (q : t σ H (kKw1 r tk σ Q)) : tCKw r t tk σ H Q := q
theorem r_kKw1 {r : List V → List V → Hp → VK → Prop} {tk : TA} {vs : List V} (q : tk σ H (kKw2 r vs Q)) : kKw1 r tk σ Q vs H := q
theorem r_kKw2 {r : List V → List V → Hp → VK → Prop} {vs zs : List V} (q : r vs zs H Q) : kKw2 r vs Q zs H := q
theorem r_maxDf (hs : SqL K H p (ns.map V.int)) (q0 : ns = [] → Q (.int i) H) (q : ∀ n r, ns = n :: r → Q (.int (r.foldl max n)) H) : rMaxDf K [.ref p] [.int i] H Q := ⟨p, ns, i, rfl, rfl, hs, q0, q⟩
end
end Rd

set_option maxHeartbeats 4000000
/-! Cm: d.items() as a view, sorted(d.items()) of a dict from texts to numbers; dict(pairs); d[k] as a target; x(*y) where an object is made. -/
namespace Rd
open PySem PySem.Spec L2 StX PyProof.Rows
open PySem.W (AllAlike Sortable dataLe dataLt alike EachIs)
/-! ### a dict from texts to numbers, its pairs -/
def ndK (nds : List (Str × Int)) : List (Key × V) := nds.map fun q => (Sum.inr q.1, V.int q.2)
def ndD (q : Str × Int) : PyData := .tuple [.str q.1, .int q.2]
def srtN (nds : List (Str × Int)) : List (Str × Int) := nds.mergeSort (dataLe false ndD)
theorem srtN_perm (nds : List (Str × Int)) : (srtN nds).Perm nds := List.mergeSort_perm _ _
theorem ndD_alike (a b : Str × Int) : alike (ndD a) (ndD b) = true := rfl
theorem ndD_sortable {β : Type} (f : β → Str × Int) (bs : List β) : Sortable (bs.map fun b => ndD (f b)) := Sortable.tuples fun b => ⟨_, _, rfl⟩
theorem ndD_all {β : Type} (f : β → Str × Int) (bs : List β) : AllAlike (bs.map fun b => ndD (f b)) := AllAlike.of fun a b => ndD_alike (f a) (f b)
theorem srtD_nds (nds : List (Str × Int)) : srtD (nds.map ndD) = (srtN nds).map ndD :=
  (PySem.W.sort_maps (r := dataLe false ndD) (s := dataLe false id) ndD (l := nds) (fun _ _ _ _ => rfl)).symm
def rItemsK : V → List V → Hp → VK → Prop := fun x xs H Q => ∃ (a : Addr) (kvs : List (Key × V)), x = .ref a ∧ xs = [] ∧ H a = some (.dK kvs) ∧ ∀ p, H p = none → Q (.ref p) (upd H p (DX.itemsO p a))
def rSortN : List V → Hp → VK → Prop := fun vs H Q => ∃ (p a : Addr) (nds : List (Str × Int)), vs = [.ref p] ∧ H p = some (DX.itemsO p a) ∧ H a = some (.dK (ndK nds)) ∧
  ∀ (H' : Hp) (l : Addr) (ts : List Addr), (∀ b o, H b = some o → H' b = some o) → H l = none → H' l = some (.lst (ts.map V.ref)) → (∀ t ∈ ts, H t = none) → Paired (fun t q => H' t = some (.tup [.str q.1, .int q.2])) ts (srtN nds) → Q (.ref l) H'
theorem paired_maps {α β γ : Type} {R : β → γ → Prop} {f : α → β} {g : α → γ} : ∀ {l : List α}, (∀ x ∈ l, R (f x) (g x)) → Paired R (l.map f) (l.map g)
  | [], _ => .nil
  | x :: l, h => .cons (h x List.mem_cons_self) (paired_maps (l := l) fun y m => h y (List.mem_cons_of_mem _ m))
theorem each_of_maps {α : Type} {R : Value → α → Prop} {f : α → Value} : ∀ {l : List α}, (∀ x ∈ l, R (f x) x) → EachIs R (l.map f) l
  | [], _ => .nil
  | x :: l, h => .cons (h x List.mem_cons_self) (each_of_maps (l := l) fun y m => h y (List.mem_cons_of_mem _ m))
theorem vals_of_maps {α : Type} (f : α → V) (g : α → Value) (h : ∀ x, RelV (f x) (g x)) : ∀ l : List α, Vals (l.map f) (l.map g)
  | [] => .nil
  | x :: l => .cons (h x) (vals_of_maps f g h l)
theorem each_maps_of {α : Type} {f : α → Value} : ∀ {us : List Value} {l : List α}, EachIs (fun u x => u = f x) us l → us = l.map f
  | _, _, .nil => rfl
  | _, _, .cons h t => by rw [h, each_maps_of t]; rfl
section
variable {X : Cx}
theorem mt_itemsK : MtR X "dict.items" rItemsK := by
  intro pins s σ H x xs v us Q I rx rxs h
  obtain ⟨a, kvs, rfl, rfl, ha, q⟩ := h
  cases rx
  cases rxs
  obtain ⟨hz, hs0, vs, kv, hdo⟩ := I.hok a _ ha
  obtain ⟨es, ep, raw, _, _⟩ := Heap.DictOf.raw hdo
  refine DT.callItems (es := es) (ep := ep) hs0 raw ?_
  have hf : H s.heap.objs.size = none := I.hok.fresh (Nat.le_refl _)
  exact ⟨.ref s.heap.objs.size, upd H s.heap.objs.size (DX.itemsO s.heap.objs.size a), I.laid (t' := s.toks) (fun b u e => Heap.get?_push_of_some _ e) (Nat.le_refl _) (DX.itemsO_ok (Heap.get?_push_size _ rfl)), rfl, q _ hf⟩
theorem cr_sortN (hc : X.calm = true) (hu : X.A.units + 64 < cLine) : CallR X (.builtin "sorted") rSortN := by
  intro pins s σ H xs us Q I r h
  obtain ⟨p, a, nds, rfl, hp, ha, q⟩ := h
  obtain rfl := Vals.ref1 r
  have view : s.heap.IsItemsView p a := (show ObjOk X.prog X.w H s.heap p (DX.itemsO p a) from I.hok p _ hp).1
  obtain ⟨hz, hs0, vs, kv, hdo⟩ := I.hok a _ ha
  obtain ⟨es, ep, raw, hes, hat⟩ := Heap.DictOf.raw hdo
  have l0 : (ndK nds).length = nds.length := List.length_map _
  have l1 : (ndK nds).length = vs.length := Paired.length kv
  have hh : X.A.handled = none := I.ok.hd hc
  refine DT.sortedI (es := es) (ep := ep) hh view raw (by omega) fun h' tk as hk hlt hl hG => ?_
  have lak : as.length = nds.length := by omega
  have nd : as.Nodup := List.Pairwise.imp (fun h => Nat.ne_of_lt h) hG.rise
  -- the pairs that were made
  have pr : ∀ (j : Nat) (b : Addr), as[j]? = some b → ∃ (e : Str × Int) (t u : Tok), nds[j]? = some e ∧ h'.get? b = some { cls := .type "tuple", data := .seq #[Value.str e.1 t, Value.int e.2 u] } := by
    intro j b hj
    obtain ⟨en, he, hg⟩ := hG.pairs j b hj
    have hj' : j < es.size := (Array.getElem?_eq_some_iff.mp he).1
    have hjn : j < nds.length := by omega
    have hv : vs[j]? = some vs[j] := List.getElem?_eq_getElem (by omega)
    obtain ⟨k1, k2⟩ := hat j hj' vs[j].1 vs[j].2 hv
    have een : es[j] = en := by
      rw [Array.getElem?_eq_getElem hj'] at he
      exact Option.some.inj he
    rw [een] at k1 k2
    have hnk : (ndK nds)[j]? = some (Sum.inr nds[j].1, V.int nds[j].2) := by
      unfold ndK
      rw [List.getElem?_map, List.getElem?_eq_getElem hjn]
      rfl
    obtain ⟨v', hv', r1, r2⟩ := LiI.paired_get kv hnk
    have ev : v' = vs[j] := Option.some.inj (hv'.symm.trans hv)
    rw [ev] at r1 r2
    rw [← r1] at k1
    obtain ⟨t, et⟩ : ∃ t, en.key = Value.str nds[j].1 t := relV_key (k := Sum.inr nds[j].1) k1
    obtain ⟨u, eu⟩ := (show ∃ u, vs[j].2 = Value.int nds[j].2 u from r2)
    refine ⟨nds[j], t, u, List.getElem?_eq_getElem hjn, ?_⟩
    rw [hg, et, k2, eu]
  -- the heap of the sort
  have hob : (h'.push { cls := .type "list", data := .seq (as.map Value.ref).toArray }).get? h'.objs.size = some (seqObj "list" (as.map Value.ref).toArray 0) := Heap.get?_push_size _ rfl
  have kb : ∀ b o, s.heap.get? b = some o → (h'.push { cls := .type "list", data := .seq (as.map Value.ref).toArray }).get? b = some o := fun b o e => Heap.get?_push_of_some _ (hk b o e)
  have ne0 : ∀ b o, h'.get? b = some o → b ≠ h'.objs.size := fun b o e => Nat.ne_of_lt (Heap.lt_size e)
  generalize hh2 : h'.push { cls := .type "list", data := .seq (as.map Value.ref).toArray } = h2 at hob kb ⊢
  have ka : ∀ b o, h'.get? b = some o → h2.get? b = some o := fun b o e => by rw [← hh2]; exact Heap.get?_push_of_some _ e
  have zf : (as.zip nds).map (fun z => Value.ref z.1) = as.map Value.ref := by
    have : (as.zip nds).map (fun z => Value.ref z.1) = ((as.zip nds).map Prod.fst).map Value.ref := (List.map_map ..).symm
    rw [this, List.map_fst_zip (by omega)]
  have zat : ∀ z ∈ as.zip nds, ∃ (j : Nat) (t u : Tok), as[j]? = some z.1 ∧ nds[j]? = some z.2 ∧ h'.get? z.1 = some { cls := .type "tuple", data := .seq #[Value.str z.2.1 t, Value.int z.2.2 u] } := by
    intro z hz'
    obtain ⟨j, hj⟩ := List.mem_iff_getElem?.mp hz'
    obtain ⟨j1, j2⟩ := List.getElem?_zip_eq_some.mp hj
    obtain ⟨e, t, u, he, hg⟩ := pr j z.1 j1
    have ee : e = z.2 := Option.some.inj (he.symm.trans j2)
    rw [ee] at hg
    exact ⟨j, t, u, j1, j2, hg⟩
  refine PySem.W.list_sort_data (s := { s with heap := h2, toks := tk }) (vs := as.map Value.ref) (bs := as.zip nds) (R := fun v z => v = Value.ref z.1) (enc := fun z => ndD z.2) hob ?_ ?_ (ndD_all Prod.snd _) (ndD_sortable Prod.snd _) (by rw [List.length_zip]; omega) (fun b _ => ?_) fun out o1 o2 => ?_
  · rw [← zf]
    exact each_of_maps fun z _ => rfl
  · rw [← zf]
    refine each_of_maps fun z hz' => ?_
    obtain ⟨j, t, u, j1, j2, hg⟩ := zat z hz'
    exact ⟨_, .tuple (ka _ _ hg) rfl rfl (.cons (.str _ _) (.cons (.int _ _) .nil)), fun m => nomatch m⟩
  · show X.A.in1.units + 1 + 1 < cLine
    have : X.A.in1.units = X.A.units + 1 := rfl
    omega
  · show EP X pins σ Q (.ref h'.objs.size) { s with heap := sortedHeap h2 h'.objs.size (as.map Value.ref) (List.toArray out), toks := tk }
    have eout : out = ((as.zip nds).mergeSort (dataLe false fun z => ndD z.2)).map fun z => Value.ref z.1 := each_maps_of o2
    generalize hzs : (as.zip nds).mergeSort (dataLe false fun z => ndD z.2) = zs at eout
    have pz : zs.Perm (as.zip nds) := hzs ▸ List.mergeSort_perm _ _
    have ez : zs.map Prod.snd = srtN nds := by
      rw [← hzs]
      have := PySem.W.sort_maps (r := dataLe false fun z : Addr × Str × Int => ndD z.2) (s := dataLe false ndD) Prod.snd (l := as.zip nds) (fun _ _ _ _ => rfl)
      rw [this, List.map_snd_zip (by omega)]
      rfl
    have kF : ∀ b o, b ≠ h'.objs.size → h2.get? b = some o → (sortedHeap h2 h'.objs.size (as.map Value.ref) (List.toArray out)).get? b = some o := fun b o hb e => (PyProof.Rows.sortedHeap_old hb (Heap.lt_size e)).trans e
    have kS : ∀ b o, s.heap.get? b = some o → (sortedHeap h2 h'.objs.size (as.map Value.ref) (List.toArray out)).get? b = some o := fun b o e => kF b o (ne0 _ _ (hk b o e)) (kb b o e)
    obtain ⟨eF, heF⟩ := PyProof.Rows.sortedHeap_at (vs := as.map Value.ref) (out := List.toArray out) hob
    have I1 : Inv X pins σ H { s with heap := sortedHeap h2 h'.objs.size (as.map Value.ref) (List.toArray out), toks := tk } := I.kept (t' := tk) kS
    have hn0 : H h'.objs.size = none := I.hok.fresh (Nat.le_of_lt hlt)
    have lz : zs.length = nds.length := by
      have := congrArg List.length ez
      rw [List.length_map] at this
      rw [this, (srtN_perm nds).length_eq]
    have hlen : (zs.map fun z => V.ref z.1).length ≤ sizeLine := by
      rw [List.length_map]
      omega
    have rv : Vals (zs.map fun z => V.ref z.1) out := by
      rw [eout]
      exact vals_of_maps (fun z : Addr × Str × Int => V.ref z.1) (fun z => Value.ref z.1) (fun _ => rfl) zs
    have I2 : Inv X pins σ (upd H h'.objs.size (.lst (zs.map fun z => V.ref z.1))) { s with heap := sortedHeap h2 h'.objs.size (as.map Value.ref) (List.toArray out), toks := tk } :=
      I1.take (h' := sortedHeap h2 h'.objs.size (as.map Value.ref) (List.toArray out)) (t' := tk) (fun b ob _ e => e) (I.fpOk (Nat.le_of_lt hlt) hn0) ⟨hlen, out, eF, rv, heF⟩
    obtain ⟨H2, I3, g, qt⟩ := DX.takeT (P := fun b ws => ∃ (j : Nat) (e : Str × Int), as[j]? = some b ∧ nds[j]? = some e ∧ ws = [.str e.1, .int e.2]) I as _ I2 nd fun b hb => by
      obtain ⟨j, hj⟩ := List.mem_iff_getElem?.mp hb
      obtain ⟨e, t, u, he, hg⟩ := pr j b hj
      have hbl : s.heap.objs.size ≤ b := Nat.le_of_lt (hG.above b hb)
      refine ⟨hbl, ?_, [.str e.1, .int e.2], ⟨j, e, hj, he, rfl⟩, fun H3 => ⟨(by show 2 ≤ sizeLine; decide), [Value.str e.1 t, Value.int e.2 u], .cons ⟨_, rfl⟩ (.cons ⟨_, rfl⟩ .nil), ⟨_, kF _ _ (ne0 _ _ hg) (ka _ _ hg), rfl, 0, rfl⟩⟩⟩
      rw [upd_ne (ne0 _ _ hg)]
      exact I.hok.fresh hbl
    have gr : ∀ b o, H b = some o → H2 b = some o := fun b o e => g b o (by rw [upd_ne (ne_of_none e hn0)]; exact e)
    refine ⟨.ref h'.objs.size, H2, I3, rfl, q H2 h'.objs.size (zs.map Prod.fst) gr hn0 ?_ (fun t ht => ?_) ?_⟩
    · have := g _ _ (upd_same (H := H) (a := h'.objs.size) (o := .lst (zs.map fun z => V.ref z.1)))
      rw [this, List.map_map]
      rfl
    · obtain ⟨z, hz', rfl⟩ := List.mem_map.mp ht
      obtain ⟨j, t, u, j1, j2, hg⟩ := zat z (pz.mem_iff.mp hz')
      exact I.hok.fresh (Nat.le_of_lt (hG.above _ (List.mem_of_getElem? j1)))
    · rw [← ez]
      refine paired_maps fun z hz' => ?_
      obtain ⟨i, _, _, i1, i2, _⟩ := zat z (pz.mem_iff.mp hz')
      obtain ⟨ws, ⟨j, e, j1, j2, ev⟩, hH⟩ := qt z.1 (List.mem_of_getElem? i1)
      have eij : i = j := (List.getElem?_inj (List.getElem?_eq_some_iff.mp i1).1 nd).mp (i1.trans j1.symm)
      subst eij
      have ee : e = z.2 := Option.some.inj (j2.symm.trans i2)
      rw [ev, ee] at hH
      exact hH
end
end Rd

set_option maxHeartbeats 4000000
/-! Sup: defs with the cell __class__; super().__init__(text) of an exception over ValueError, as a body's first statement. -/
namespace Rd
open PySem PySem.Spec L2 NdefX

/-! ### a body at its own code -/
structure QS (X : Cx) (c : Code) (ss : List Stmt) (t : TS) : Prop where
  run : ∀ (pins : List (Addr × Obj)) (s : Shared) (σ : St) (H : Hp) (D : Ends), Inv X pins σ H s → t D σ H → _root_.PySem.wpAt (model X.prog X.w) X.A c (execs ss X.env) (SP X pins D) X.xe s
theorem qs_of {X : Cx} {c : Code} {ss : List Stmt} {t : TS} (h : PSs X ss t) : QS X c ss t := ⟨fun pins s σ H D I q => wpAt_of_wpAny (h.run pins s σ H D I q)⟩

/-! ### a def of the text with the cell __class__ -/
theorem cells_written {P : Program} {w : World} {K : PySem.W.Frag} {mg : Str → Option Value} {base : Heap} {A : Around} {outer : List Env} {s : Shared} {H : Hp} {cc : Addr} {u : Value} {cl : Value} {cld : Option Addr} {csl : Array (Option Value)}
    (e0 : Env0 P w K mg base A outer s H) (cell : K.lookup cc = some ⟨cl, cld, .cell (some u), csl⟩) : CellsAt [("__class__", cc)] ["__class__"] [none] s.heap H := by
  have hb := e0.bs _ _ (e0.mod.kin _ _ cell)
  have hc : s.heap.IsCell cc (some u) := ⟨_, hb.1, rfl⟩
  have look : ∀ {y : Str} {c : Addr}, ([("__class__", cc)] : List (Str × Addr)).lookup y = some c → y = "__class__" ∧ c = cc := fun {y c} h => by
    rw [List.lookup_cons] at h
    by_cases e : (y == ("__class__" : Str)) = true
    · rw [e] at h
      exact ⟨beq_iff_eq.mp e, (Option.some.inj h).symm⟩
    · rw [Bool.eq_false_iff.mpr e] at h
      cases h
  refine ⟨rfl, fun y c h => ?_, fun x y c h1 h2 => (look h1).1.trans (look h2).1.symm, fun i y h => ?_⟩
  · obtain ⟨_, rfl⟩ := look h
    exact ⟨hb.2, _, hc⟩
  · match i, h with
    | 0, h =>
      cases h
      exact ⟨cc, by rw [List.lookup_cons]; simp, fun v hv => nomatch hv⟩
    | i + 1, h => cases h
theorem fn_sup {CX : CXT} {P : Program} {w : World} {K : PySem.W.Frag} {mg : Str → Option Value} {base : Heap} {k : Nat} {f cc cda : Addr} {name qual : Str} {params : Arguments} {body : List Stmt} {scope : Scope} {dV kV doc pm ct oc cl u : Value} {an od cld : Option Addr}
    {osl csl : Array (Option Value)} {N ps : List Str} {sp : Sp} (lk : K.lookup f = some ⟨oc, od, .func (PySem.W.ksFn name qual params body scope dV kV doc pm an (.ref cda) ct cc), osl⟩) (hcd : PySem.W.codeIn K (.ref cda) qual = true)
    (cell : K.lookup cc = some ⟨cl, cld, .cell (some u), csl⟩) (S : NScope N ps ["__class__"] scope)
    (len : ∀ vs H Q E, sp vs H Q E → vs.length = ps.length)
    (hbody : ∀ (A : Around) (outer : List Env) (s : Shared) (H : Hp) (vs : List V) (Q : VK) (E : XK), Room k (A.deeper (envF ⟨name, qual, params, body, scope, [("__class__", cc)], cda⟩ f s.heap.objs.size)) → sp vs H Q E →
      ∃ t, QS (ncx CX P w K mg base N ⟨name, qual, params, body, scope, [("__class__", cc)], cda⟩ f A outer s H E) (.func body (envF ⟨name, qual, params, body, scope, [("__class__", cc)], cda⟩ f s.heap.objs.size)) body t ∧
        t { nx := fun _ H' => Q .non H', rt := Q } (startF N vs [none]) H) : FnOk P w K mg base CX (k + 1) f (PySem.W.ksFn name qual params body scope dV kV doc pm an (.ref cda) ct cc) ps sp := by
  refine ⟨len, fun A outer s H args us vs Q E hr e0 hb r hsp => ?_⟩
  have hl := len _ _ _ _ hsp
  have KX : K.In s.heap := e0.mod.kin.keeps fun b o e => (e0.bs b o e).1
  have lim : s.heap.NoLimit := e0.mod.nolimit.keeps fun b o e => (e0.bs b o e).1
  refine codeAny_call_function hr.depth (KX _ _ lk) rfl S.co S.gen rfl (PySem.W.codeRec_of KX hcd) (hb _ _ _ _ ?_)
  refine (wpAny_newFunctionEnv S.nocell (fun ⟨n, _⟩ hy => S.par n (List.of_mem_zip hy).1) (fun h₁ hns hsb => ⟨lim.fresh _ hsb, ?_⟩) S.kind)
  show codeAny _ _ (.func body (envF ⟨name, qual, params, body, scope, [("__class__", cc)], cda⟩ f s.heap.objs.size)) _ _
  refine ks_codeAny_funcAt ?_
  have kp : ∀ b o, s.heap.get? b = some o → h₁.get? b = some o := fun b o e => hsb.extBut b o (Nat.ne_of_lt (Heap.lt_size e)) (Heap.get?_push_of_some _ e)
  obtain ⟨t, ht, hq⟩ := hbody A outer s H vs Q E (hr.deeper _) hsp
  have I : Inv (ncx CX P w K mg base N ⟨name, qual, params, body, scope, [("__class__", cc)], cda⟩ f A outer s H E) [] (startF N vs [none]) H { s with heap := h₁, toks := s.toks + (ps.zip us).length } := inv_startN S hr.hd e0 hl r (cells_written e0 cell) hns kp
  refine ks_wpAt_mono (ht.run [] _ (startF N vs [none]) H _ I hq) (fun fl s' hs => ?_) fun e s' hs => hs
  have fin : ∀ {σ' : L2.St} {H' : Hp} {v : V} {u : Value}, Inv (ncx CX P w K mg base N ⟨name, qual, params, body, scope, [("__class__", cc)], cda⟩ f A outer s H E) [] σ' H' s' → RelV v u → Q v H' → CE outer P w H s Q u s' := fun {σ' H' v u} J rv q => ⟨v, H', J.os, J.bare, J.base, J.hok, rv, q⟩
  match fl, hs with
  | .ret u, ⟨v, σ', H', J, rv, q⟩ => exact fin J rv q
  | .next, ⟨σ', H', J, q⟩ => exact fin (v := V.non) (u := Value.none) J rfl q
  | .brk, ⟨_, _, _, q⟩ => exact False.elim q
  | .cont, ⟨_, _, _, q⟩ => exact False.elim q

/-! ### the wrapper's call -/
section
variable {prog : Program} {w : World} {A : Around} {E : Value → Shared → Prop} {h : Heap} {g : Array GenState} {d : Drawn} {t : Nat} {os : OsState}
variable {nm q : Str} {C N : Addr} {bs bm bmB : List Value} {hdct : Bool} {sn : List Str} {sub : List Value} {ab : Bool} {col : Option Bool} {dd : Option Addr} {k0 k1 k2 k3 k5 : Option Value} {B newId initId : String}
theorem mw_call (F : ExcBaseFacts B newId initId bmB) {u e t0 : Addr} {rest : List Value} {Q : Value → Shared → Prop}
    (hC : h.get? C = some (excClassObj nm q C N bs bm hdct sn sub ab col dd k0 k1 k2 k3 k5 newId)) (he : h.get? e = some (HandSPX.excO C t0)) (hu : h.get? u = some (W.kxs_mw initId e)) (hrest : rest.length ≤ sizeLine)
    (hq : ∀ h' t1, (∀ b o, b ≠ e → h.get? b = some o → h'.get? b = some o) → h'.get? e = some (HandSPX.excO C t1) → Q .none ⟨h', g, d, t, os⟩) : wpAny (model prog w) A (call (.ref u) rest) Q E ⟨h, g, d, t, os⟩ := by
  refine wpAny_call (codeAny_of_tree ?_)
  show wpAny _ A.in1 (callAny (.ref u) ⟨rest, []⟩) _ _ _
  unfold callAny
  refine wpAny_bind (wpAny_load hu ?_)
  simp only [show (Value.type "method-wrapper" == Value.type "method" || Value.type "method-wrapper" == Value.type "builtin_function_or_method" || Value.type "method-wrapper" == Value.type "method-wrapper") = true by decide, if_true]
  refine W.KFB.if_so (by decide) (wpAny_bind (W.check_bound_init F.toExcCallFacts hC he rfl (wpAny_bind (wpAny_pure (wpAny_pure ⟨plainId_quiet F.init.plain _, codeAny_builtin F.initEntry ?_⟩)))))
  rw [Around.under_plainId F.init.plain _]
  wp_walk
  refine hq _ h.objs.size (fun b o hb ho => ?_) ?_
  · rw [Heap.get?_update_other _ _ (Ne.symm hb)]
    exact Heap.get?_push_of_some _ ho
  · rw [Heap.get?_update_self _ (Heap.get?_push_of_some _ he) rfl]
    rfl
end

/-! ### super().__init__(text) -/
/-- what is asked of an exception's class at C (straight or farther over ValueError), whose __init__ has the code object at cda -/
structure SupC (P : Program) (K : PySem.W.Frag) (mg : Str → Option Value) (C cda : Addr) : Prop where
  oex : OexC K C
  up : PySem.W.ks_superIn K C C "__init__" = some (some (.builtin "ValueError.__init__"))
  sub : PySem.W.subIn K (.ref C) (.type "ValueError") = some true
  own : PySem.W.mroIn K C (.ref C) = some true
  opq : PySem.W.nsIn K cStatics "thirdparty.any" = some none
  zs : mg "super" = none
  file : ∃ ccl cdd vs ccs fl tf, K.lookup cda = some ⟨ccl, cdd, .fields vs, ccs⟩ ∧ vs[2]? = some (.str fl tf) ∧ (P.main.file == fl) = true
  top : (P.main.scope.names.lookup ("super" : Str)).isSome = false
def tSupI (C : Addr) (t : TS) : TS := fun D σ H => ∃ a, σ[0]? = some (some (.ref a)) ∧ H a = some (exo a C none) ∧ t D σ H
theorem qs_sup {CX : CXT} {P : Program} {w : World} {K : PySem.W.Frag} {mg : Str → Option Value} {base : Heap} {f cc cda C : Addr} {name qual : Str} {params : Arguments} {body body' : List Stmt} {scope : Scope} {dV kV doc pm ct oc cl : Value} {an od cld : Option Addr}
    {osl csl : Array (Option Value)} {N : List Str} {A : Around} {outer : List Env} {s0 : Shared} {H0 : Hp} {E : XK} {ar : Arg} {p0 p1 p2 p3 p4 p5 : Pos} {m : Str} {j : Nat} {pl : Sem Bool} {rest : List Stmt} {t : TS}
    (lk : K.lookup f = some ⟨oc, od, .func (PySem.W.ksFn name qual params body scope dV kV doc pm an (.ref cda) ct cc), osl⟩) (cell : K.lookup cc = some ⟨cl, cld, .cell (some (.ref C)), csl⟩) (Z : SupC P K mg C cda)
    (hks : scope.names.lookup ("super" : Str) = some .globalImplicit) (hkc : scope.names.lookup ("__class__" : Str) = some .free) (hp : (params.posonlyargs ++ params.args).head? = some ar) (hN : N[0]? = some ar.arg)
    (hka : scope.names.lookup ar.arg = some .local) (hk : scope.kind = .function)
    (hi : interactive (envF ⟨name, qual, params, body, scope, [("__class__", cc)], cda⟩ f s0.heap.objs.size) = false)
    (hs : swapsWith (.Call (.Attribute (.Call (.Name "super" p0) [] [] p1) "__init__" p2) [.Constant (.str m) j p3] [] p4) none p5.line (envF ⟨name, qual, params, body, scope, [("__class__", cc)], cda⟩ f s0.heap.objs.size) = pure false)
    (he : eval (.Call (.Attribute (.Call (.Name "super" p0) [] [] p1) "__init__" p2) [.Constant (.str m) j p3] [] p4) (envF ⟨name, qual, params, body, scope, [("__class__", cc)], cda⟩ f s0.heap.objs.size) = (do
      let ov ← attributeBase (.Call (.Name "super" p0) [] [] p1) "__init__" (envF ⟨name, qual, params, body, scope, [("__class__", cc)], cda⟩ f s0.heap.objs.size) (eval (.Call (.Name "super" p0) [] [] p1) (envF ⟨name, qual, params, body, scope, [("__class__", cc)], cda⟩ f s0.heap.objs.size))
      standAt p2.atName
      let (fx, first) ← holding [ov] (getMethod ov "__init__" pl)
      callWith p4 fx first (backTo p4 (starEach [.Constant (.str m) j p3] (envF ⟨name, qual, params, body, scope, [("__class__", cc)], cda⟩ f s0.heap.objs.size))) []))
    (hst : starEach [.Constant (.str m) j p3] (envF ⟨name, qual, params, body, scope, [("__class__", cc)], cda⟩ f s0.heap.objs.size) = [(false, eval (.Constant (.str m) j p3) (envF ⟨name, qual, params, body, scope, [("__class__", cc)], cda⟩ f s0.heap.objs.size))])
    (hr : QS (ncx CX P w K mg base N ⟨name, qual, params, body, scope, [("__class__", cc)], cda⟩ f A outer s0 H0 E) (.func body' (envF ⟨name, qual, params, body, scope, [("__class__", cc)], cda⟩ f s0.heap.objs.size)) rest t) :
    QS (ncx CX P w K mg base N ⟨name, qual, params, body, scope, [("__class__", cc)], cda⟩ f A outer s0 H0 E) (.func body' (envF ⟨name, qual, params, body, scope, [("__class__", cc)], cda⟩ f s0.heap.objs.size))
      (.Expr (.Call (.Attribute (.Call (.Name "super" p0) [] [] p1) "__init__" p2) [.Constant (.str m) j p3] [] p4) p5 :: rest) (tSupI C t) := by
  constructor
  intro pins s σ H D I ⟨a, hσ, ha, q⟩
  have KX := I.kIn
  obtain ⟨t1, ho⟩ := exo_at I.hok ha
  obtain ⟨ccl, cdd, vs, ccs, fl, tf, hcode, hvs, hfile⟩ := Z.file
  obtain ⟨nm, qq, N', bs, bm, sn, sub, ab, col, dd, k0, k1, k2, k3, k5, hC, hbm⟩ := Z.oex.cls
  refine ks_wpAt_execs_cons (ks_wpAt_Expr_any (ks_wpAt_MethodCall (pl := pl) ?_ he) hi hs)
  obtain ⟨hh, g, d, tk, os⟩ := s
  have hD1 := KX _ _ hC
  refine ks_wpAt_super_base hks hkc (by decide) rfl (KX _ _ lk) rfl hp rfl (KX _ _ hcode) rfl hvs hfile Z.top ?_
  obtain ⟨mb, hbn, hbv⟩ := I.ok.mod.blt
  have hbo : bootBuiltins "super" = some (.type "super") := by first | rfl | decide +kernel
  refine W.ks_loadName_global hk hks (Calls.loadGlobal_builtin (I.mod.glob.keeps I.bk) Z.zs (hbn.keeps I.bk) ((hbv ("super" : Str) (by decide +kernel)).trans hbo) ⟨rfl, ?_⟩)
  refine wpAny_loadName_free hk hkc rfl ⟨_, KX _ _ cell, rfl⟩ ?_
  obtain ⟨ml, hns, hl⟩ := I.loc
  obtain ⟨u, ru, lku⟩ := hl 0 ar.arg (.ref a) hN hσ (.inl hka)
  have hm : ml ar.arg = some u := by
    rcases lku with ⟨_, z⟩ | ⟨z, _⟩
    · exact z
    · rcases z with z | z
      · exact absurd (hka.symm.trans z) (by decide)
      · exact absurd (hka.symm.trans z) (by decide)
  obtain rfl : u = Value.ref a := ru
  refine wpAny_loadName_local hk hka hns hm ?_
  refine ks_wpAny_isType_cls hD1 rfl ⟨rfl, ?_⟩
  refine ks_wpAny_call_super hD1 rfl ho rfl (fun c z => nomatch z) (W.looks_mroIn KX Z.own) fun h' e1 kp => ?_
  have I1 : Inv _ pins σ H ⟨h', g, d, tk, os⟩ := I.kept (t' := tk) kp
  have KX1 := I1.kIn
  have ho1 := kp _ _ ho
  have J : W.InstAt h' a (HandSPX.excO C t1) C none := ⟨ho1, rfl, rfl, trivial⟩
  have up := Z.up
  cases hc : W.clsIn K C with
  | none =>
    unfold W.ks_superIn at up
    rw [hc] at up
    cases up
  | some cd =>
    unfold W.ks_superIn at up
    rw [hc] at up
    refine W.kxs_getMethod W.kxs_ValueError e1 (W.looks_opaque KX1 Z.opq) (l₀ := cd.mro) (fun A Q E s k z => wpAny_bind ((W.looks_clsIn KX1 hc) A _ E s k (wpAny_pure z))) rfl KX1 up (J.type.andThen (W.looks_subIn KX1 Z.sub)) (W.ks_ne KX1 J hc) (by decide) ?_
    have k2 : ∀ b o, h'.get? b = some o → (h'.push (W.kxs_mw "ValueError.__init__" a)).get? b = some o := fun b o e => Heap.get?_push_of_some _ e
    have I2 : Inv _ pins σ H ⟨h'.push (W.kxs_mw "ValueError.__init__" a), g, d, tk + 1, os⟩ := I1.kept (t' := tk + 1) k2
    have hu : (h'.push (W.kxs_mw "ValueError.__init__" a)).get? h'.objs.size = some (W.kxs_mw "ValueError.__init__" a) := Heap.get?_push_size _ rfl
    have hst' : starEach [.Constant (.str m) j p3] (ncx CX P w K mg base N ⟨name, qual, params, body, scope, [("__class__", cc)], cda⟩ f A outer s0 H0 E).env = [(false, eval (.Constant (.str m) j p3) (ncx CX P w K mg base N ⟨name, qual, params, body, scope, [("__class__", cc)], cda⟩ f A outer s0 H0 E).env)] := hst
    rw [hst']
    refine W.kxs_callWith (i := "ValueError.__init__") (x := a) rfl (Calls.evalArgs_plain (Calls.spliced_cons (Calls.Constant_str (pos := p3) (k := j) (Calls.spliced_nil ⟨hu, ?_⟩))))
    refine mw_call F.excBase_ValueError (I2.kIn _ _ hC) (k2 _ _ ho1) hu (by show 1 ≤ sizeLine; decide) fun h3 t2 k3 e3 => ?_
    have J3 := (I2.tok (tk + 1 + 1)).write (t' := tk + 1 + 1) (x := a) (e := a) (o := exo a C none) (by rw [ha]; exact True.intro) (.inl rfl) k3 ⟨_, e3⟩ (exo_ok e3)
    have eu : upd H a (exo a C none) = H := by
      funext b
      by_cases hb : b = a
      · rw [hb, upd_same, ha]
      · rw [upd_ne hb]
    rw [eu] at J3
    exact hr.run pins _ σ H D J3 q

/-- such a def of the text, its class at C -/
structure SFun (P : Program) (K : PySem.W.Frag) (mg : Str → Option Value) (qual : Str) (st : Stmt) (C f : Addr) (fd : FuncData) : Prop where
  ex : ∃ (oc kV doc pm ct cl : Value) (od an cld : Option Addr) (cda cc : Addr) (osl csl : Array (Option Value)), fd = PySem.W.ksFn "__init__" qual (defArgs st) (defBody st) (defScope st) .none kV doc pm an (.ref cda) ct cc ∧
    K.lookup f = some ⟨oc, od, .func (PySem.W.ksFn "__init__" qual (defArgs st) (defBody st) (defScope st) .none kV doc pm an (.ref cda) ct cc), osl⟩ ∧ PySem.W.codeIn K (.ref cda) qual = true ∧ K.lookup cc = some ⟨cl, cld, .cell (some (.ref C)), csl⟩ ∧ SupC P K mg C cda
/-- __init__(self, fld) of an exception: super().__init__(text); self.fld = fld -/
def sp_exc1 (fld : Str) (C : Addr) : Sp := fun vs H Q _ => ∃ (a : Addr) (v : V), vs = [.ref a, v] ∧ H a = some (exo a C none) ∧ ∀ dx, H dx = none → dx ≠ a → Q .non (upd (upd H dx (exd dx [(fld, v)])) a (exo a C (some dx)))
theorem r_sup {C : Addr} {t : TS} {D : Ends} {σ : St} {H : Hp} {a : Addr} (e : σ[0]? = some (some (.ref a))) (ha : H a = some (exo a C none)) (q : t D σ H) : tSupI C t D σ H := ⟨a, e, ha, q⟩
theorem r_ost {K : PySem.W.Frag} {fld : Str} {i j : Nat} {D : Ends} {σ : St} {H : Hp} {a C : Addr} {v : V} (e : σ[i]? = some (some (.ref a))) (e' : σ[j]? = some (some v)) (T : OexC K C) (n : PySem.W.findIn K (.ref C) fld = some none) (ha : H a = some (exo a C none))
    (q : ∀ dx, H dx = none → dx ≠ a → D.nx σ (upd (upd H dx (exd dx [(fld, v)])) a (exo a C (some dx)))) : tOst K fld (tVar i) (tVar j) D σ H :=
  ⟨v, e', .ref a, e, a, C, rfl, T, n, .inl ⟨ha, q⟩⟩

/-! ### such an exception as its users see it -/
structure Exc1 (P : Program) (w : World) (K : PySem.W.Frag) (mg : Str → Option Value) (base : Heap) (k : Nat) (x fld : Str) (C : Addr) : Prop where
  oex : OexC K C
  made : ∃ fI fd ps, PySem.W.findIn K (.ref C) "__init__" = some (some (.ref fI)) ∧ PySem.W.typeIn K (.ref fI) = some (.type "function") ∧ FnOk P w K mg base CX0 k fI fd ps (sp_exc1 fld C) ∧ Binds K fd ps []
  gC : mg x = some (.ref C)
  xf : XfC K C
  nof : PySem.W.findIn K (.ref C) fld = some none
  te : PySem.W.exmOne K (.ref C) (.ref C) = some true
def kMkO (C : Addr) (fld : Str) (Q : XK) : List V → Hp → Prop := fun vs H1 => vs.length ≤ 1000 ∧ ∀ a, H1 a = none → sp_exc1 fld C (.ref a :: (vs ++ [])) (upd H1 a (exo a C none))
  (fun v H2 => v = .non ∧ ∃ (d : Addr) (fs : List (Str × V)), H2 a = some (exo a C (some d)) ∧ H2 d = some (exd d fs) ∧ H1 d = none ∧ Q (.ref C) (some d) (upd (del H2 a) d (.xd fs))) (fun _ _ _ => False)
theorem r_kMkO {C : Addr} {fld : Str} {Q : XK} {v : V} {H : Hp} (q : ∀ d H', H d = none → Kp [] H H' → H' d = some (.xd [(fld, v)]) → Q (.ref C) (some d) H') : kMkO C fld Q [v] H := by
  refine ⟨by show 1 ≤ 1000; decide, fun a ha => ⟨a, v, rfl, upd_same, fun dx hdx ne => ⟨rfl, dx, [(fld, v)], upd_same, by rw [upd_ne ne, upd_same], ?_, ?_⟩⟩⟩
  · rw [upd_ne ne] at hdx
    exact hdx
  · have n1 : H dx = none := by
      rw [upd_ne ne] at hdx
      exact hdx
    have eq : upd (del (upd (upd (upd H a (exo a C none)) dx (exd dx [(fld, v)])) a (exo a C (some dx))) a) dx (.xd [(fld, v)]) = upd H dx (.xd [(fld, v)]) := by
      funext b
      by_cases hb : b = dx
      · rw [hb, upd_same, upd_same]
      · rw [upd_ne hb, upd_ne hb]
        by_cases hba : b = a
        · rw [hba, del_same, ha]
        · rw [del_ne hba, upd_ne hba, upd_ne hb, upd_ne hba]
    rw [eq]
    exact q dx _ n1 (Kp.new n1) upd_same
/-- raise X(e) -/
def tRaise1 (C : Addr) (fld : Str) (W : WX) (ta : TA) : TS := fun _ σ H => ta σ H (kMkO C fld fun cls d H' => W cls d σ H')
section
variable {X : Cx} {x fld : Str} {C : Addr} {k : Nat} {e : Expr} {ta : TA} {p pos pos2 : Pos} {W : WX}
theorem ps_raise1 (T : Exc1 X.prog X.w X.K X.mg X.base k x fld C) (hr : Room (k + 1) X.A) (hc : X.calm = true) (tk : Takes X W) (hg : Gl X x) (ha : PA X [e] ta) (hdb : (x == ("__debug__" : Str)) = false := by decide)
    (hst : starEach (e :: []) X.env = (false, eval e X.env) :: starEach [] X.env := by rfl) (hpl : (backTo pos (starEach [] X.env)).any (·.1) = false := by rfl) :
    PS X (.Raise (some (.Call (.Name x p) [e] [] pos)) none pos2) (tRaise1 C fld W ta) := by
  obtain ⟨fI, fd, ps, iC, tI, F1, hb⟩ := T.made
  exact ps_raise hc tk (pmk_oex (dvs := []) T.oex iC tI F1 hr hb .nil pass0 hg T.gC ha hdb hst hpl)
end
theorem r_raise1 {C : Addr} {fld : Str} {W : WX} {ta : TA} {D : Ends} {σ : St} {H : Hp} (q : ta σ H (kMkO C fld fun cls d H' => W cls d σ H')) : tRaise1 C fld W ta D σ H := q

/-! ### an object made where an exception of its __init__ is wished for -/
def kMakeS (C : Addr) (sp : Sp) (E : XK) (Q : VK) : List V → Hp → Prop := fun vs H1 => ∀ x dx, H1 x = none → H1 dx = none → dx ≠ x → sp (.ref x :: vs) (upd (upd H1 dx (.own x)) x (.ins C dx [])) (kMade x Q) E
def tMakeS (C : Addr) (sp : Sp) (E : St → XK) (t : TA) : TE := fun σ H Q => t σ H (kMakeS C sp (E σ) Q)
theorem r_makeS {C : Addr} {sp : Sp} {E : St → XK} {t : TA} {σ : St} {H : Hp} {Q : VK} (q : t σ H (kMakeS C sp (E σ) Q)) : tMakeS C sp E t σ H Q := q
theorem r_kMakeS {C : Addr} {sp : Sp} {E : XK} {H : Hp} {Q : VK} {vs : List V} (q : ∀ a dx H', H a = none → Kp [] H H' → H' a = some (.ins C dx []) → sp (.ref a :: vs) H' (kMade a Q) E) : kMakeS C sp E Q vs H := fun a dx n n' d =>
  q a dx _ n ((Kp.new n').trans (Kp.new (by rw [upd_ne d.symm]; exact n))) upd_same
section
variable {X : Cx} {CX : CXT} {k : Nat} {f C : Addr} {sp : Sp} {E : St → XK} {x : Str} {e : Expr} {es : List Expr} {t : TA} {p pos : Pos}
theorem pe_makeS (mk : Mk X.K C f) (F : FnR X.prog X.w X.K X.mg X.base CX k f sp) (hr : Room (k + 1) X.A) (hg : Gl X x) (hm : X.mg x = some (.ref C)) (hx : ∀ σ, PassesAt CX X σ (E σ)) (ha : PA X (e :: es) t) (hdb : (x == ("__debug__" : Str)) = false := by decide)
    (hst : starEach (e :: es) X.env = (false, eval e X.env) :: starEach es X.env := by rfl) (hpl : (backTo pos (starEach es X.env)).any (·.1) = false := by rfl) : PE X (.Call (.Name x p) (e :: es) [] pos) (tMakeS C sp E t) := by
  constructor
  intro pins s σ H Q I h
  refine wpAny_Call_Name_kw (ld_glob I hg hm (PySem.W.callWith_K (h₀ := X.base) I.ok.mod.kin mk.kp (thn (ha.run pos pins s σ H _ I h) fun us s1 ⟨vs, H1, I1, r, q⟩ => ⟨I1.kIn, ?_⟩) hst hpl) hdb)
  have old : H1 (s1.heap.objs.size + 1) = none ∧ H1 s1.heap.objs.size = none := ⟨I1.hok.fresh (Nat.le_succ _), I1.hok.fresh (Nat.le_refl _)⟩
  have J := Inv.made (C := C) I1
  have r2 : Vals (V.ref (s1.heap.objs.size + 1) :: vs) (Value.ref (s1.heap.objs.size + 1) :: us) := .cons rfl r
  have go := F _ X.stack _ _ (Value.ref (s1.heap.objs.size + 1) :: us) _ _ (E σ) (hr.make C us []) (J.env0.make C us []) r2 (q _ _ old.1 old.2 (Nat.ne_of_lt (Nat.lt_succ_self _)))
  refine wpAny_call (make_map (f := f) I1.kIn mk.makes mk.init (beq_iff_eq.mp mk.fn) (codeAny_mono go fun z s' hz => ?_))
  match z, hz with
  | .error u, hz => exact hx σ pins _ _ u s' J hz
  | .ok (.ret u), hz =>
    obtain ⟨v, H', I3, rv, ev, q3⟩ := J.after hz
    subst ev
    exact ⟨rv, V.ref (s1.heap.objs.size + 1), H', I3, rfl, q3⟩
  | .ok .next, hz => exact hz.elim
  | .ok .brk, hz => exact hz.elim
  | .ok .cont, hz => exact hz.elim
end

/-! ### isinstance(e, c), e.f of the exception that a suite holds, which has a dict -/
def rIsX (K : PySem.W.Frag) (C a : Addr) (cls : Value) (d : Option Addr) : R1 := fun xs H Q => cls = .ref C ∧ ∃ (dd : Addr) (fs : List (Str × V)) (c : V) (cv : Value) (b : Bool), d = some dd ∧ H dd = some (.xd fs) ∧ xs = [.ref a, c] ∧ ClsV c cv ∧ PySem.W.kitOne K (.ref C) cv = some b ∧ Q (.bl b) H
theorem call_isX {X : Cx} {a C : Addr} {oe : Obj} {cls : Value} {d : Option Addr} {pn : List (Addr × Obj)} (T : ExcC X.K C) (hz : Zc cls d oe) (hf : ∃ vs, oe.data = .fields vs) : CallR (X.suite a ((a, oe) :: pn)) (.builtin "isinstance") (rIsX X.K C a cls d) := by
  rintro pins s σ H xs us Q I r ⟨rfl, dd, fs, c, cv, b, rfl, ed, rfl, k, e, q⟩
  obtain ⟨u1, u2, rfl, r1, r2⟩ := vals2 r
  cases (show u1 = Value.ref a from r1)
  have e2 := k.eq r2
  subst e2
  obtain ⟨hget, _⟩ := I.pin (a, oe) (List.mem_append_left _ List.mem_cons_self)
  obtain ⟨vs, hv⟩ := hf
  have hx : ObjOk X.prog X.w H s.heap dd (.xd fs) := I.hok dd _ ed
  obtain ⟨mA, hns, _⟩ := hx
  obtain ⟨od, ho, _⟩ := lookIn_ns hns
  have J : PySem.W.InstAt s.heap a oe C (some od) := ⟨hget, hz.1, by unfold PySem.W.notCls; rw [hv] <;> rfl, by rw [hz.2]; exact ho⟩
  obtain ⟨cd, hc, _⟩ := PySem.W.any_some T.hd
  exact PySem.W.kia_one (PySem.W.kitx_exc (by rw [hc]; rfl) T.hg T.hk T.hs T.ha T.hn T.ht T.hm) I.kIn J e (fun z => nomatch z) fun tk => ⟨.bl b, H, I.kept (t' := tk) fun _ _ z => z, rfl, q⟩
theorem r_isX {K : PySem.W.Frag} {C a dd : Addr} {fs : List (Str × V)} {H : Hp} {Q : VK} {c : V} {cv : Value} {b : Bool} (ed : H dd = some (.xd fs)) (k : ClsV c cv) (e : PySem.W.kitOne K (.ref C) cv = some b) (q : Q (.bl b) H) : rIsX K C a (.ref C) (some dd) [.ref a, c] H Q :=
  ⟨rfl, dd, fs, c, cv, b, rfl, ed, rfl, k, e, q⟩
def kXf (a : Addr) (cls : Value) (d : Option Addr) (C : Addr) (f : Str) (Q : VK) : VK := fun x H1 => x = .ref a ∧ cls = .ref C ∧ ∃ (dd : Addr) (fs : List (Str × V)) (v : V), d = some dd ∧ H1 dd = some (.xd fs) ∧ fs.lookup f = some v ∧ Q v H1
theorem r_xf {a C : Addr} {cls : Value} {d : Option Addr} {f : Str} {te : TE} {σ : St} {H : Hp} {Q : VK} (q : te σ H (kXf a cls d C f Q)) : tXf a cls d C f te σ H Q := q
theorem r_kXf {a C dd : Addr} {f : Str} {H : Hp} {Q : VK} {fs : List (Str × V)} {v : V} (ed : H dd = some (.xd fs)) (l : fs.lookup f = some v) (q : Q v H) : kXf a (.ref C) (some dd) C f Q (.ref a) H := ⟨rfl, rfl, dd, fs, v, rfl, ed, l, q⟩
def UseCX (P : Program) (w : World) (K : PySem.W.Frag) (mg : Str → Option Value) (base : Heap) (n : Nat) (x : Str) (C : Addr) (sp : Sp) : Prop := ∃ f, FnR P w K mg base (L2.CX P w) n f sp ∧ Mk K C f ∧ mg x = some (.ref C)
theorem fnrX {P : Program} {w : World} {K : PySem.W.Frag} {mg : Str → Option Value} {base : Heap} {n : Nat} {f : Addr} {fd : FuncData} {ps : List Str} {sp : Sp} (F : FnOk P w K mg base (L2.CX P w) n f fd ps sp) (b : Binds K fd ps []) : FnR P w K mg base (L2.CX P w) n f sp :=
  (F.raw b .nil).imp fun vs H Q E h => by
    rw [List.append_nil]
    exact h
end Rd

set_option maxHeartbeats 4000000
/-! EnT: enumerate(tuple); for over enumerate of a list or a tuple. -/
namespace PySem
theorem enum_new1 {v : Value} {o : Obj} {Hh : Heap → Prop} (B : Begins v o Hh) : Meets (Builtin.«enumerate.__new__» ⟨[.type "enumerate", v], []⟩) (fun _ R s => Hh s.heap ∧
    R (.ok (.ret (.ref (s.heap.push o).objs.size))) { s with heap := (s.heap.push o).push { cls := .type "enumerate", data := .fields #[.none, .bool false, .ref s.heap.objs.size, rawInt 0, .none, .none] } }) :=
  .of_wp fun prog w A R s hB => by
    obtain ⟨hp, g, d, tk, os⟩ := s
    obtain ⟨h1, hB⟩ := hB
    have esub := sub_enumerate
    have start : ∀ {A' : Around} {E : Value → Shared → Prop} {Q : Value → Shared → Prop}, Q (.ref hp.objs.size) ⟨hp.push o, g, d, tk, os⟩ → wpAny (model prog w) A' (pyIter v) Q E ⟨hp, g, d, tk, os⟩ := fun z => B.iter prog w _ _ ⟨hp, g, d, tk, os⟩ _ h1 z
    wp_walk using start
    refine wpAny_stack_any fun st => wpAny_pure ?_
    split
    · rename_i c _ _ _ _ _
      cases (c == Value.type "enumerate") <;> (wp_walk using start; exact ⟨_, rfl, hB⟩)
    · wp_walk using start
      exact ⟨_, rfl, hB⟩
section
variable {prog : Program} {w : World} {A : Around} {E : Value → Shared → Prop} {s : Shared}
theorem enum_starts {v : Value} {o : Obj} {Hh : Heap → Prop} {Q : Value → Shared → Prop} (B : Begins v o Hh) (h1 : Hh s.heap)
    (q : ∀ h', IsEnum h' (s.heap.objs.size + 1) s.heap.objs.size 0 .none → h'.get? s.heap.objs.size = some o → (∀ b u, s.heap.get? b = some u → h'.get? b = some u) → Q (.ref (s.heap.objs.size + 1)) { s with heap := h' }) :
    wpAny (model prog w) A (call (.type "enumerate") [v]) Q E s := by
  refine callType_new F.called_enumerate (by decide) (F.typeCall_enumerate_1 _) (F.newCall_enumerate_1 _) (fun obj => F.args_object_init_2 obj _) F.entry_enumerate_new (enum_new1 B) ⟨h1, ?_⟩
  have hz : (s.heap.push o).objs.size = s.heap.objs.size + 1 := Heap.size_push _ _
  have he := Heap.get?_push_size (s.heap.push o) (o := { cls := .type "enumerate", data := .fields #[.none, .bool false, .ref s.heap.objs.size, rawInt 0, .none, .none] }) rfl
  show _ ∧ _
  rw [hz] at he ⊢
  exact ⟨⟨_, he, rfl⟩, q _ he (Heap.get?_push_of_some _ (Heap.get?_push_size _ B.free)) fun b u x => Heap.get?_push_of_some _ (Heap.get?_push_of_some _ x)⟩
end
end PySem
namespace Rd
open PySem PySem.Spec PyProof.Rows L2
/-- the tuple at a, each item in a new pair with its place -/
def Iet (K : PySem.W.Frag) (a : Addr) : It :=
  ⟨fun i H => ∃ (xs : List V) (x : V), SqT K H a xs ∧ xs[i]? = some x, fun i H v H' => ∃ T x, v = .ref T ∧ H T = none ∧ H' = upd H T (.tup [.int (i : Nat), x]) ∧ ∀ xs, SqT K H a xs → xs[i]? = some x, fun i H => ∃ xs : List V, SqT K H a xs ∧ xs.length ≤ i⟩
theorem turn_et {P : Program} {w : World} {K : PySem.W.Frag} {elts : List Expr} {kk : Nat} {tpos : Pos} (a e it : Addr) (ha : a ≠ it) (hae : e ≠ a) :
    Turn P w K (.Tuple elts kk tpos) (Iet K a) [e, it] e (fun i h => (∃ old, IsEnum h e it ((i : Nat) : Int) old) ∧ h.IsTupleIter it a i ∧ e ≠ it) := by
  have two : ∀ {b : Addr}, b ∈ [e, it] → b = e ∨ b = it := fun {b} hb => by simpa using hb
  refine ⟨by simp, fun i h st b hb => ?_, fun i h h' st k => ?_, ?_, ?_, fun A i s Q E st q => ?_⟩
  · obtain ⟨⟨old, he⟩, ⟨o, ho, hc, hd⟩, _⟩ := st
    rcases two hb with rfl | rfl
    · exact ⟨_, he, fun v z => nomatch z⟩
    · exact ⟨o, ho, fun v z => by rw [hd] at z; cases z⟩
  · obtain ⟨⟨old, he⟩, hi, hne⟩ := st
    exact ⟨⟨old, k e (by simp) _ he⟩, hi.at fun o z => k it (by simp) o z, hne⟩
  · intro X hP hw hK hc i pins s σ H E I hf st hg
    subst hP hw hK
    obtain ⟨⟨old, he⟩, hit, hne⟩ := st
    obtain ⟨xs, x, hq, hx⟩ := hg
    obtain ⟨its, rv, p, _⟩ := I.tuple hq
    obtain ⟨u, hu, ru⟩ := rv.get hx
    have big : e < s.heap.objs.size ∧ it < s.heap.objs.size := ⟨Heap.lt_size he, by obtain ⟨_, z, _⟩ := hit; exact Heap.lt_size z⟩
    have hi : i < its.toArray.size := by
      have := (List.getElem?_eq_some_iff.mp hu).1
      simpa using this
    refine wpAny_pyNext_enum_itemC (Draws.tuple (A := X.A.in1) (I.ok.hd hc) it a ha its.toArray) he ⟨hit, p⟩ hi hne (by simp [hne, hae]) fun y h1 tk hy ho hst hT hsz hk => ?_
    have ey : y = u := by
      have hy : its.toArray[i]? = some y := hy
      rw [List.getElem?_toArray, hu] at hy
      exact (Option.some.inj hy).symm
    subst ey
    refine ⟨_, rfl, wpAny_letOwnedTupleGo_enum (s := { s with heap := h1, toks := tk + 1 }) ho fun h2 he2 sb => ?_⟩
    have hT2 := (sb.2 _ (Nat.ne_of_gt big.1)).trans hT
    have new : ObjOk X.prog X.w (upd H s.heap.objs.size (.tup [.int (i : Nat), x])) h2 s.heap.objs.size (.tup [.int (i : Nat), x]) := ⟨by show 2 ≤ sizeLine; decide, [.int i tk, y], .cons ⟨_, rfl⟩ (.cons ru .nil), ⟨_, hT2, rfl, _, rfl⟩⟩
    have I1 : Inv X pins σ (upd H s.heap.objs.size (.tup [.int (i : Nat), x])) { s with heap := h2, toks := tk + 1 } :=
      I.turnedNew (ch := [e, it]) (fun b ob hb z => (sb.2 b (fun w => hb (by simp [w]))).trans (hk b ob (fun w => hb (by simp [w])) (fun w => hb (by simp [w])) z)) hf (Nat.le_refl _) new
    refine ⟨.ref s.heap.objs.size, _, I1, rfl, ⟨_, x, rfl, I.hok.fresh (Nat.le_refl _), rfl, fun ys hy => ?_⟩, ⟨⟨y, ?_⟩, hst.1.at fun o z => (sb.2 it (Ne.symm hne)).trans z, hne⟩, fun b hb => ?_⟩
    · rw [I.tuple_inj hy hq]
      exact hx
    · have e1 : ((i + 1 : Nat) : Int) = (i : Int) + 1 := by omega
      rw [e1]
      exact he2
    · have hb' : b < s.heap.objs.size := (two hb).elim (fun z => z ▸ big.1) fun z => z ▸ big.2
      rw [upd_ne (Nat.ne_of_lt hb')]
      exact (hf b hb).1
  · intro X hP hw hK hc i pins s σ H E I hf st hg
    subst hP hw hK
    obtain ⟨⟨old, he⟩, hit, hne⟩ := st
    obtain ⟨xs, hq, hx⟩ := hg
    obtain ⟨its, rv, p, _⟩ := I.tuple hq
    have hl := rv.length
    have D : Draws X.prog X.w X.A.in1 it [it, a] i (fun _ _ => True) (fun j h => j = i ∧ h.IsTupleIter it a i ∧ h.IsTuple a its.toArray) :=
      ⟨fun _ _ st => let ⟨o, ho, _⟩ := st.2.1; ⟨o, ho⟩, fun _ _ _ st hk => ⟨st.1, st.2.1.at fun o z => hk it (by simp) o z, st.2.2.at fun o z => hk a (by simp) o z⟩, fun j _ _ _ hj st _ => absurd st.1 (Nat.ne_of_lt hj),
        fun s Q E st hE => wpAny_nextOf_tuple_end (A := X.A.in1) (I.ok.hd hc) st.2.1 st.2.2 (by simp; omega) hE⟩
    obtain ⟨f0, f1, f2, f3, f4, f5⟩ := hf it (by simp)
    exact wpAny_pyNext_enum_endD D he ⟨rfl, hit, p⟩ fun h' eb => ⟨rfl, I.turned (t' := s.toks) (fun b o hb z => eb b o hb z) f0 f1 f3 f4 f5⟩
  · obtain ⟨⟨_, he⟩, _⟩ := st
    exact wpAny_pyIter_enum he q
def iEnumQ (K : PySem.W.Frag) (ta : TA) : TI := fun σ H R => ta σ H fun vs H1 => ∃ a, vs = [.ref a] ∧ (((∃ xs, SqL K H1 a xs) ∧ R (Ite K a) H1) ∨ ((∃ xs, SqT K H1 a xs) ∧ R (Iet K a) H1))
theorem K_enumQ {X : Cx} {K : PySem.W.Frag} (hK : X.K = K) {e : Expr} {ta : TA} {p pos tpos : Pos} {elts : List Expr} {kk : Nat} (hg : Gl X "enumerate") (hm : X.mg "enumerate" = none) (ha : PA X [e] ta) (hs : starEach [e] X.env = [(false, eval e X.env)] := by rfl) :
    PI X (.Tuple elts kk tpos) (.Call (.Name "enumerate" p) [e] [] pos) (iEnumQ K ta) := by
  subst hK
  constructor
  intro pins s σ H R I h
  refine Call_ (ld_blt I hg hm boot_enumerate (PyProof.Rows.callWith_type1 (thn (ha.run pos pins s σ H _ I h) fun us s1 ⟨vs, H1, I1, r1, q1⟩ => ?_) hs rfl))
  obtain ⟨a, rfl, q1⟩ := q1
  obtain ⟨u, rfl, ru⟩ := r1.one
  cases (show u = Value.ref a from ru)
  have fresh : ∀ b ∈ [s1.heap.objs.size + 1, s1.heap.objs.size], FpOk X pins H1 b := fun b m => by
    have le : s1.heap.objs.size ≤ b := by
      rcases List.mem_cons.mp m with z | z
      · omega
      · rw [List.mem_singleton.mp z]
        exact Nat.le_refl _
    exact I1.fpOk le (I1.hok.fresh le)
  rcases q1 with ⟨⟨xs, hq⟩, q⟩ | ⟨⟨xs, hq⟩, q⟩
  · obtain ⟨its, rv, pl, _⟩ := I1.list hq
    exact call_enumerate_list pl.isList fun h' he hit _ hk => wpAny_pyIter_enum he ⟨_, _, _, _, H1, rfl, I1.kept (t' := s1.toks) hk, turn_enum a _ _, ⟨⟨.none, he⟩, hit, Nat.succ_ne_self _⟩, fresh, q⟩
  · obtain ⟨its, rv, pl, _⟩ := I1.tuple hq
    have la : a < s1.heap.objs.size := by
      obtain ⟨o, ho, _⟩ := pl
      exact Heap.lt_size ho
    exact enum_starts (begins_tuple a its.toArray) pl fun h' he ho hk => wpAny_pyIter_enum he ⟨_, _, _, _, H1, rfl, I1.kept (t' := s1.toks) hk, turn_et a _ _ (Nat.ne_of_lt la) (Nat.ne_of_gt (Nat.lt_succ_of_lt la)), ⟨⟨.none, he⟩, ⟨_, ho, rfl, rfl⟩, Nat.succ_ne_self _⟩, fresh, q⟩
def cEnumQ (K : PySem.W.Frag) (R : It → Hp → Prop) : List V → Hp → Prop := fun vs H1 => ∃ a, vs = [.ref a] ∧ (((∃ xs, SqL K H1 a xs) ∧ R (Ite K a) H1) ∨ ((∃ xs, SqT K H1 a xs) ∧ R (Iet K a) H1))
section
variable {σ : L2.St} {H : Hp} {K : PySem.W.Frag} {tr : TA} {R : It → Hp → Prop} {xs : List V} {p a : Addr} {g : TG} {tb : TS} {nx bk ct : L2.St → Hp → Prop} {rt : VK}
theorem r_enumQ (q : tr σ H (cEnumQ K R)) : iEnumQ K tr σ H R := q
theorem walk_et : Walk (Iet K a) xs.length (fun H => SqT K H a xs) (YPair (fun i => some (.int (i : Nat))) (fun i => xs[i]?)) := by
  refine ⟨fun i _ hi q => ⟨xs, xs[i], q, List.getElem?_eq_getElem hi⟩, fun _ q => ⟨xs, q, Nat.le_refl _⟩, fun i H v H' _ q ⟨T, x, h1, h2, h3, h4⟩ => ⟨T, .int (i : Nat), x, h1, h2, h3, rfl, h4 xs q⟩⟩
theorem r_kForE (Pv : Nat → L2.St → Hp → Prop) (hq : Sq K H p xs) (h0 : Pv 0 σ H) (hl : ∀ i σ H', i ≤ xs.length → Pv i σ H' → ∃ ex, p ∉ ex ∧ Kp ex H H')
    (hs : ∀ (i : Nat) x t σ H H', xs[i]? = some x → Pv i σ H → H t = none → Kp [] H H' → H' t = some (.tup [.int (i : Int), x]) → g (.ref t) σ H' fun σ2 H2 => tb ⟨Pv (i + 1), rt, nx, Pv (i + 1)⟩ σ2 H2) (hd : ∀ σ H, Pv xs.length σ H → nx σ H) :
    cEnumQ K (kFor g tb ⟨nx, rt, bk, ct⟩ σ) [.ref p] H := by
  have step : ∀ (i : Nat) x σ H H', i < xs.length → Pv i σ H → YPair (fun i => some (.int (i : Nat))) (fun i => xs[i]?) i H x H' → g x σ H' fun σ2 H2 => tb ⟨Pv (i + 1), rt, nx, Pv (i + 1)⟩ σ2 H2 := by
    rintro i x σ H H' hi hp ⟨t, u, v, rfl, nt, rfl, hu, hx⟩
    cases hu
    exact hs i v t σ H _ hx hp nt (Kp.new nt) upd_same
  rcases hq with h | h
  · exact ⟨p, rfl, .inl ⟨⟨xs, h⟩, r_kFor walk_enum Pv h0 (fun i σ H' hi q => let ⟨_, m, k⟩ := hl i σ H' hi q; sql_kp h k m) step hd⟩⟩
  · exact ⟨p, rfl, .inr ⟨⟨xs, h⟩, r_kFor walk_et Pv h0 (fun i σ H' hi q => let ⟨_, m, k⟩ := hl i σ H' hi q; sqt_kp h k m) step hd⟩⟩
end
end Rd

set_option maxHeartbeats 4000000
/-! New: data laid since a heap. -/
namespace Rd
open PySem PySem.Spec L2
/-- what is allocated -/
def Has (H : Hp) (b : Addr) : Prop := ∃ o, H b = some o
/-- x is the data d in H', laid since H (scalars, or new objects only) -/
def New (H H' : Hp) (x : V) (d : PyData) : Prop := ∀ ex, (∀ b ∈ ex, Has H b) → Dt ex H' x d
def NewAll (H H' : Hp) (xs : List V) (ds : List PyData) : Prop := ∀ ex, (∀ b ∈ ex, Has H b) → DtAll ex H' xs ds
theorem Has.kp {H H' : Hp} {b : Addr} (h : Has H b) (k : Kp [] H H') : Has H' b := let ⟨o, e⟩ := h; ⟨o, k _ _ e not_nil⟩
theorem New.mono {H H' H'' : Hp} {x : V} {d : PyData} (h : New H H' x d) (k : Kp [] H' H'') : New H H'' x d := fun ex e => (h ex e).mono k.nil
theorem NewAll.mono {H H' H'' : Hp} {x : List V} {d : List PyData} (h : NewAll H H' x d) (k : Kp [] H' H'') : NewAll H H'' x d := fun ex e => (h ex e).mono k.nil
theorem New.mono1 {H H' H'' : Hp} {x : V} {d : PyData} {p : Addr} (h : New H H' x d) (hp : Has H p) (k : Kp [p] H' H'') : New H H'' x d := fun ex e =>
  ((h (p :: ex) fun b m => (List.mem_cons.mp m).elim (fun z => z ▸ hp) (e b)).mono (k.mono fun b m => List.mem_cons.mpr (.inl (List.mem_singleton.mp m)))).less fun _ m => List.mem_cons_of_mem _ m
theorem NewAll.mono1 {H H' H'' : Hp} {x : List V} {d : List PyData} {p : Addr} (h : NewAll H H' x d) (hp : Has H p) (k : Kp [p] H' H'') : NewAll H H'' x d := fun ex e =>
  ((h (p :: ex) fun b m => (List.mem_cons.mp m).elim (fun z => z ▸ hp) (e b)).mono (k.mono fun b m => List.mem_cons.mpr (.inl (List.mem_singleton.mp m)))).less fun _ m => List.mem_cons_of_mem _ m
theorem New.back {H H1 H' : Hp} {x : V} {d : PyData} (h : New H1 H' x d) (a : ∀ b, Has H b → Has H1 b) : New H H' x d := fun ex e => h ex fun b m => a b (e b m)
theorem NewAll.back {H H1 H' : Hp} {x : List V} {d : List PyData} (h : NewAll H1 H' x d) (a : ∀ b, Has H b → Has H1 b) : NewAll H H' x d := fun ex e => h ex fun b m => a b (e b m)
theorem New.dt {H H' : Hp} {x : V} {d : PyData} (h : New H H' x d) : Dt [] H' x d := h [] fun _ m => nomatch m
theorem NewAll.dt {H H' : Hp} {x : List V} {d : List PyData} (h : NewAll H H' x d) : DtAll [] H' x d := h [] fun _ m => nomatch m
theorem DtAll.mem {ex : List Addr} {H : Hp} : ∀ {vs : List V} {ds : List PyData} {i : Nat} {v : V}, DtAll ex H vs ds → vs[i]? = some v → ∃ d, ds[i]? = some d := fun h e => let ⟨d, hd, _⟩ := h.at e; ⟨d, hd⟩
theorem NewAll.mem {H H' : Hp} {xs : List V} {ds : List PyData} {v : V} (h : NewAll H H' xs ds) (m : v ∈ xs) : ∃ d ∈ ds, New H H' v d := by
  obtain ⟨i, e⟩ := List.mem_iff_getElem?.mp m
  obtain ⟨d, hd, _⟩ := h.dt.at e
  refine ⟨d, List.mem_of_getElem? hd, fun ex he => ?_⟩
  obtain ⟨d', hd', q⟩ := (h ex he).at e
  rw [hd] at hd'
  cases hd'
  exact q
theorem NewAll.cons {H H' : Hp} {v : V} {vs : List V} {d : PyData} {ds : List PyData} (h : New H H' v d) (t : NewAll H H' vs ds) : NewAll H H' (v :: vs) (d :: ds) := fun ex e => .cons (h ex e) (t ex e)
theorem New.tup {H H1 H' : Hp} {p : Addr} {xs : List V} {ds : List PyData} (h : NewAll H H' xs ds) (n : H1 p = none) (a : ∀ b, Has H b → Has H1 b) (e : H' p = some (.tup xs)) : New H H' (.ref p) (.tuple ds) := fun ex he =>
  .tup (fun m => by
    obtain ⟨o, ho⟩ := a p (he p m)
    rw [n] at ho
    cases ho) e (h ex he)
theorem New.lst {H H1 H' : Hp} {p : Addr} {xs : List V} {ds : List PyData} (h : NewAll H H' xs ds) (n : H1 p = none) (a : ∀ b, Has H b → Has H1 b) (e : H' p = some (.lst xs)) : New H H' (.ref p) (.list ds) := fun ex he =>
  .lst (fun m => by
    obtain ⟨o, ho⟩ := a p (he p m)
    rw [n] at ho
    cases ho) e (h ex he)
/-! displays of new data -/
def EN (te : TE) (σ : St) (H : Hp) (d : PyData) : Prop := ∀ Q : VK, (∀ x H', Kp [] H H' → New H H' x d → Q x H') → te σ H Q
def AN (tr : TA) (σ : St) (H : Hp) (ds : List PyData) : Prop := ∀ QA : List V → Hp → Prop, (∀ xs H', Kp [] H H' → NewAll H H' xs ds → QA xs H') → tr σ H QA
section
variable {σ : St} {H : Hp} {Q : VK} {QA : List V → Hp → Prop} {d : PyData} {ds : List PyData} {te : TE} {tr : TA} {v : V} {i : Nat}
theorem r_EN (h : EN te σ H d) (q : ∀ x H', Kp [] H H' → New H H' x d → Q x H') : te σ H Q := h Q q
theorem r_AN (h : AN tr σ H ds) (q : ∀ xs H', Kp [] H H' → NewAll H H' xs ds → QA xs H') : tr σ H QA := h QA q
theorem EN_c (h : ∀ ex, Dt ex H v d) : EN (tC v) σ H d := fun _ q => q v H (Kp.refl _ _) fun ex _ => h ex
theorem EN_var (e : σ[i]? = some (some v)) (h : ∀ ex, Dt ex H v d) : EN (tVar i) σ H d := fun _ q => ⟨v, e, q v H (Kp.refl _ _) fun ex _ => h ex⟩
theorem AN_nil : AN tNil σ H [] := fun _ q => q [] H (Kp.refl _ _) fun _ _ => .nil
theorem AN_cons (h : EN te σ H d) (hr : ∀ H1, Kp [] H H1 → AN tr σ H1 ds) : AN (tCons te tr) σ H (d :: ds) := fun _ q =>
  h _ fun x H1 k1 h1 => hr H1 k1 _ fun xs H2 k2 h2 => q (x :: xs) H2 (k1.trans k2) (.cons (h1.mono k2) (h2.back fun _ a => a.kp k1))
theorem EN_tup (h : AN tr σ H ds) (hl : ds.length ≤ sizeLine) : EN (tTup tr) σ H (.tuple ds) := fun _ q =>
  h _ fun xs H1 k1 h1 => ⟨h1.dt.length ▸ hl, fun p n => q (.ref p) _ (k1.trans (Kp.new n)) (New.tup (h1.mono (Kp.new n)) n (fun _ a => a.kp k1) upd_same)⟩
theorem EN_lst (h : AN tr σ H ds) (hl : ds.length ≤ sizeLine) : EN (tLst tr) σ H (.list ds) := fun _ q =>
  h _ fun xs H1 k1 h1 => ⟨h1.dt.length ▸ hl, fun p n => q (.ref p) _ (k1.trans (Kp.new n)) (New.lst (h1.mono (Kp.new n)) n (fun _ a => a.kp k1) upd_same)⟩
end
/-! is None -/
def rIsNo : R2 := fun x y H Q => y = .non ∧ Q (.bl (decide (x = .non))) H
def rNotNo : R2 := fun x y H Q => y = .non ∧ Q (.bl (!decide (x = .non))) H
theorem op_isNo {X : Cx} : OpR X (compareOp .Is) rIsNo := op_isN
theorem op_notNo {X : Cx} : OpR X (compareOp .IsNot) rNotNo := op_notN
theorem r_isNo {x : V} {H : Hp} {Q : VK} (q : Q (.bl (decide (x = .non))) H) : rIsNo x .non H Q := ⟨rfl, q⟩
theorem r_notNo {x : V} {H : Hp} {Q : VK} (q : Q (.bl (!decide (x = .non))) H) : rNotNo x .non H Q := ⟨rfl, q⟩
end Rd

set_option maxHeartbeats 4000000
/-! Sl: slices of lists and tuples as rules. -/
namespace Rd
open PySem L2 StX
section
variable {σ : St} {H : Hp} {Q : VK} {te : TE} {tl th : TO} {K : PySem.W.Frag} {p : Addr} {xs : List V} {r : V → Option Int → Option Int → Hp → VK → Prop} {R : Option Int → Hp → Prop} {x : V} {l u : Option Int}
def kS1 (r : V → Option Int → Option Int → Hp → VK → Prop) (tl th : TO) (σ : St) (Q : VK) : VK := fun x H1 => tl σ H1 fun l H2 => th σ H2 fun u H3 => r x l u H3 Q
def kS2 (r : V → Option Int → Option Int → Hp → VK → Prop) (th : TO) (σ : St) (Q : VK) (x : V) : Option Int → Hp → Prop := fun l H2 => th σ H2 fun u H3 => r x l u H3 Q
def kS3 (r : V → Option Int → Option Int → Hp → VK → Prop) (Q : VK) (x : V) (l : Option Int) : Option Int → Hp → Prop := fun u H3 => r x l u H3 Q
def kPart (R : Option Int → Hp → Prop) : VK := fun x H1 => ∃ i, x = .int i ∧ R (some i) H1
theorem r_sl (q : te σ H (kS1 r tl th σ Q)) : tSl r te tl th σ H Q := q
theorem r_kS1 (q : tl σ H (kS2 r th σ Q x)) : kS1 r tl th σ Q x H := q
theorem r_kS2 (q : th σ H (kS3 r Q x l)) : kS2 r th σ Q x l H := q
theorem r_kS3 (q : r x l u H Q) : kS3 r Q x l u H := q
theorem r_noPart (q : R none H) : tNoPart σ H R := q
theorem r_part (q : te σ H (kPart R)) : tPart te σ H R := q
theorem r_kPart {i : Int} (q : R (some i) H) : kPart R (.int i) H := ⟨i, rfl, q⟩
theorem r_slL (h : SqL K H p xs) (q : ∀ b H', H b = none → Kp [] H H' → H' b = some (.lst (cutV xs l u)) → Q (.ref b) H') : rSlL K (.ref p) l u H Q := ⟨p, xs, rfl, h, fun b n => q b _ n (Kp.new n) upd_same⟩
theorem r_slT (h : SqT K H p xs) (hw : ¬ (HT.sIx xs.length 0 l = 0 ∧ HT.sIx xs.length xs.length u = xs.length)) (q : ∀ b H', H b = none → Kp [] H H' → H' b = some (.tup (cutV xs l u)) → Q (.ref b) H') : rSlT K (.ref p) l u H Q := ⟨p, xs, rfl, h, hw, fun b n => q b _ n (Kp.new n) upd_same⟩
theorem cut_to (n : Nat) : cutV xs none (some (n : Int)) = xs.take n := by
  unfold cutV
  rw [HT.sIx_nat, HT.sIx_none, List.drop_zero, Nat.sub_zero]
  by_cases h : n ≤ xs.length
  · rw [Nat.min_eq_left h]
  · rw [Nat.min_eq_right (by omega), List.take_length, List.take_of_length_le (by omega)]
theorem cut_from (n : Nat) : cutV xs (some (n : Int)) none = xs.drop n := by
  unfold cutV
  rw [HT.sIx_nat, HT.sIx_none]
  by_cases h : n ≤ xs.length
  · rw [Nat.min_eq_left h, List.take_of_length_le (by rw [List.length_drop]; omega)]
  · rw [Nat.min_eq_right (by omega), List.drop_length, List.take_nil, List.drop_eq_nil_of_le (show xs.length ≤ n by omega)]
theorem cut_last : cutV xs none (some (-1)) = xs.take (xs.length - 1) := by
  have e : HT.sIx xs.length xs.length (some (-1)) = xs.length - 1 := by
    show (if (-1 : Int) < 0 then ((-1 : Int) + (xs.length : Int)).toNat else min ((-1 : Int).toNat) xs.length) = xs.length - 1
    rw [if_pos (by decide)]
    omega
  unfold cutV
  rw [e, HT.sIx_none, List.drop_zero, Nat.sub_zero]
theorem atI_last {α : Type} {l : List α} {v : α} (h : l[l.length - 1]? = some v) : atI l (-1) = some v := by
  have hl : l.length - 1 < l.length := (List.getElem?_eq_some_iff.mp h).1
  have e : ixN l.length (-1) = some (l.length - 1) := by
    unfold ixN
    rw [if_neg (by omega), if_pos (by omega)]
    have : ((-1 : Int) + (l.length : Int)).toNat = l.length - 1 := by omega
    rw [this]
  unfold atI
  rw [e]
  exact h
end
end Rd

set_option maxHeartbeats 4000000
/-! TupIt: iter(t) of a tuple: the iterator as an object of the heap. -/
namespace Rd
open PySem PySem.Spec L2 StX PyProof.Rows
def tiObj (t : Addr) : Obj := { cls := .type "tuple_iterator", data := .fields #[.ref t, .int 0 0] }
/-- at it an iterator over the tuple at t, i turns done -/
def TiO (t it : Addr) (i : Nat) : HO := .ext fun h => h.IsTupleIter it t i
section
variable {prog : Program} {w : World} {A : Around} {E : Value → Shared → Prop} {s : Shared} {t it : Addr}
theorem call_iter_tup {items : Array Value} {Q : Value → Shared → Prop} (hl : s.heap.IsTuple t items) (h : Q (.ref s.heap.objs.size) { s with heap := s.heap.push (tiObj t) }) : wpAny (model prog w) A (call (.builtin "iter") [.ref t]) Q E s := by
  refine Calls.call_function_entry (by decide +kernel) (by decide +kernel) PySem.W.kdk_entry_iter (PySem.W.kdk_args_iter _) ?_
  unfold Builtin.«iter»
  refine wpAny_bind (m := someArgs "iter" 1 2 _) (wpAny_of_eq (a := [Value.ref t]) (by first | rfl | kernel_rfl!) ?_)
  show wpAny _ _ (pyIter (.ref t) >>= _) _ _ _
  refine wpAny_bind (wpAny_pyIter_tuple hl ?_)
  exact wpAny_pure ⟨_, rfl, h⟩
theorem tiO_ok {P : Program} {H : Hp} {h : Heap} {i : Nat} (e : h.IsTupleIter it t i) : ObjOk P w H h it (TiO t it i) := ⟨e, ⟨_, e.choose_spec.1⟩, fun h1 h2 q k => Heap.IsTupleIter.at q fun o e => k o e⟩
variable {X : Cx} {pins : List (Addr × Obj)} {σ : L2.St} {H : Hp}
theorem tiO_get {i : Nat} (I : Inv X pins σ H s) (e : H it = some (TiO t it i)) : s.heap.IsTupleIter it t i := (I.hok it _ e).1
def rIterT (K : PySem.W.Frag) : List V → Hp → VK → Prop := fun xs H Q => ∃ (t : Addr) (zs : List V), xs = [.ref t] ∧ SqT K H t zs ∧ ∀ it, H it = none → Q (.ref it) (upd H it (TiO t it 0))
theorem call_iterT : CallR X (.builtin "iter") (rIterT X.K) := by
  intro pins s σ H xs us Q I r h
  obtain ⟨t, zs, rfl, hq, q⟩ := h
  obtain rfl := Vals.ref1 r
  obtain ⟨its, rv, pl, hz⟩ := I.tuple hq
  refine call_iter_tup pl ?_
  exact ⟨.ref s.heap.objs.size, _, I.laid (t' := s.toks) (fun b u e => Heap.get?_push_of_some _ e) (Nat.le_refl _) (tiO_ok ⟨_, Heap.get?_push_size _ rfl, rfl, rfl⟩), rfl, q _ (I.hok.fresh (Nat.le_refl _))⟩
theorem r_iterT {K : PySem.W.Frag} {Q : VK} {zs : List V} (h : SqT K H t zs) (q : ∀ it H', H it = none → Kp [] H H' → H' it = some (TiO t it 0) → Q (.ref it) H') : rIterT K [.ref t] H Q := ⟨t, zs, rfl, h, fun it n => q it _ n (Kp.new n) upd_same⟩
theorem K_iterT {K : PySem.W.Frag} (hK : X.K = K) : CallR X (.builtin "iter") (rIterT K) := by
  subst hK
  exact call_iterT
/-- an iterator that has ended -/
def TiE (it : Addr) : HO := .ext fun h => ∃ o, h.get? it = some o
theorem tiE_ok {P : Program} {H : Hp} {h : Heap} (e : ∃ o, h.get? it = some o) : ObjOk P w H h it (TiE it) := ⟨e, e, fun h1 h2 q k => let ⟨o, e⟩ := q; ⟨o, k o e⟩⟩
theorem ti_end {i : Nat} {items : Array Value} {Q : Option Value → Shared → Prop} (hh : A.handled = none) (hit : s.heap.IsTupleIter it t i) (ht : s.heap.IsTuple t items) (hx : items[i]? = none)
    (hQ : ∀ h', (∃ o, h'.get? it = some o) → Heap.ExtBut it s.heap h' → Q none { s with heap := h' }) : wpAny (model prog w) A (pyNext (.ref it)) Q E s := by
  obtain ⟨o, ho, hc, hd⟩ := id hit
  obtain ⟨ol, hol, _, nl, hdl⟩ := ht
  unfold pyNext
  refine wpAny_bind (wpAny_attempt (wpAny_callSpecial?_slot (name := Str.ofString "__next__") hit.typeIs PySem.F.slot_tuple_iterator_next
    (wpAny_call_entry PySem.F.slot_tuple_iterator_next hit.typeIs PySem.F.entry_tuple_iterator_next ?_ (PySem.F.args_tuple_iterator_next_1 _))))
  show wpAny _ _ (field (.ref it) 0 >>= _) _ _ s
  refine wpAny_bind (wpAny_field ho hd (x := .ref t) rfl ?_)
  show wpAny _ _ (if (Value.ref t == Value.none) = true then _ else _) _ _ s
  rw [if_neg (show ¬ ((Value.ref t == Value.none) = true) from Bool.false_ne_true)]
  show wpAny _ _ (field (.ref it) 1 >>= _) _ _ s
  refine wpAny_bind (wpAny_field ho hd (x := .int i 0) rfl ?_)
  show wpAny _ _ (seqItems? (.ref t) >>= _) _ _ s
  refine wpAny_bind (wpAny_seqItems hol hdl ?_)
  simp only [Int.toNat_natCast, hx]
  refine wpAny_bind (wpAny_rule (wpAny_bind (wpAny_setField ho hd (by simp) ?_)))
  show wpAny _ _ (newExc (.type "StopIteration") [] >>= _) _ _ _
  refine wpAny_bind ?_
  simp only [newExc, newTuple]
  refine wpAny_bind (wpAny_newObj_type ?_ (by size_fits))
  refine wpAny_bind (m := firstArgMember _ _) (wpAny_of_eq (a := Value.none) (by first | rfl | (simp only [firstArgMember]; rfl)) ?_)
  refine wpAny_newObj_type ?_ (by size_fits)
  simp only [raiseNew]
  refine wpAny_bind (wpAny_handled ?_)
  first | rw [show A.in1.handled = none from hh] | rw [hh]
  refine wpAny_bind (wpAny_pure (wpAny_throw ?_))
  refine wpAny_bind (wpAny_isInstance (T := "StopIteration") (b := true) ⟨_, Heap.get?_push_size _ rfl, rfl⟩ isSubtype_stop ?_)
  refine wpAny_pure (hQ _ ⟨_, Heap.get?_push_of_some _ (Heap.get?_push_of_some _ (Heap.get?_update_self _ ho (Obj.isFreed_of_fields (Obj.data_mapFields hd _))))⟩ (((Heap.SameBut.update ..).extBut.push _).push _))
/-- the iterator's items go into a list -/
theorem ti_fill {xs : List V} {q : Addr} {A1 : Around} {Rs : Result → Shared → Prop} (hc : X.calm = true) (hA : A1.handled = none) (t1 : t ≠ it) (t2 : t ≠ q) : ∀ (m i : Nat) (H : Hp) (s : Shared), xs.length - i = m → i ≤ xs.length → Inv X pins σ H s → H it = some (TiO t it i) → SqT X.K H t xs → H q = some (.lst (xs.take i)) →
    (∀ H' s', Inv X pins σ H' s' → Kp [it, q] H H' → H' q = some (.lst xs) → Rs (.ok (.ret .none)) s') → codeAny (model X.prog X.w) A1 (.builtin "list.extend.loop" ⟨[.ref q, .ref it, .none], []⟩) Rs s := by
  intro m
  induction m with
  | zero =>
    intro i H s hm hi I ei ht eq hR
    have hin : i = xs.length := by omega
    subst hin
    obtain ⟨its, rv, p, hz⟩ := I.tuple ht
    have hl := rv.length
    refine codeAny_builtin PySem.F.entry_extend_loop ?_
    rw [Around.under_plainId PySem.F.plain_extend_loop _]
    show wpAny _ A1.in1 (pyNext (.ref it) >>= _) _ _ s
    refine wpAny_bind (ti_end hA (tiO_get I ei) (show s.heap.IsTuple t its.toArray from p) (by simp; omega) fun h' eo eb => ?_)
    have mu : Mut (H it) := by rw [ei]; exact True.intro
    have I1 : L2.Inv X pins σ (upd H it (TiE it)) { s with heap := h' } := I.write (x := it) (e := it) (t' := s.toks) mu (.inl rfl) (fun b o nb z => eb b o nb z) eo (tiE_ok eo)
    have qi : q ≠ it := fun e => by
      rw [e, ei] at eq
      cases eq
    refine wpAny_pure (hR _ _ I1 (Kp.put List.mem_cons_self) ?_)
    rw [upd_ne qi, eq, List.take_length]
  | succ m ih =>
    intro i H s hm hi I ei ht eq hR
    obtain ⟨its, rv, p, hz⟩ := I.tuple ht
    have hl := rv.length
    have hix : i < xs.length := by omega
    obtain ⟨u, hu, ru⟩ := rv.get (List.getElem?_eq_getElem hix)
    have qi : q ≠ it := fun e => by
      rw [e, ei] at eq
      cases eq
    refine codeAny_builtin PySem.F.entry_extend_loop ?_
    rw [Around.under_plainId PySem.F.plain_extend_loop _]
    show wpAny _ A1.in1 (pyNext (.ref it) >>= _) _ _ s
    refine wpAny_bind (wpAny_pyNext_tuple_item (tiO_get I ei) (show s.heap.IsTuple t its.toArray from p) (x := u) (by simpa using hu) fun h' st' sb => ?_)
    have mu : Mut (H it) := by rw [ei]; exact True.intro
    have I1 : L2.Inv X pins σ (upd H it (TiO t it (i + 1))) { s with heap := h' } := I.write (x := it) (e := it) (t' := s.toks) mu (.inl rfl) (fun b o nb z => (sb.2 b nb).trans z) ⟨_, st'.choose_spec.1⟩ (tiO_ok st')
    have eq1 : upd H it (TiO t it (i + 1)) q = some (.lst (xs.take i)) := by rw [upd_ne qi, eq]
    obtain ⟨z, its2, k, r2, hl2, e⟩ := I1.lstM eq1
    show wpAny _ A1.in1 (updateSeq q (·.push u) >>= _) _ _ _
    refine wpAny_bind (wpAny_updateSeq e rfl (wpAny_pure ⟨plainId_quiet PySem.F.plain_extend_loop _, ?_⟩) (by rw [List.size_toArray]; omega) (by show (its2.toArray.push u).size ≤ sizeLine + 1; rw [Array.size_push, List.size_toArray]; omega))
    have I2 := I1.lset (f := (·.push u)) (its := its2) (its' := its2 ++ [u]) (ys := xs.take i ++ [xs[i]]) (t' := s.toks) eq1 e (by simp) (r2.append (.cons ru .nil)) (by rw [List.length_append, List.length_take, List.length_singleton]; omega)
    have hI : it ≠ q := qi.symm
    refine ih (i + 1) _ _ (by omega) hix I2 ?_ ?_ ?_ fun H' s' I' k' e' => hR H' s' I' ?_ e'
    · rw [upd_ne hI, upd_same]
    · exact sqt_kp (sqt_kp ht (Kp.put (ex := [it]) List.mem_cons_self) (not_one t1)) (Kp.put (ex := [q]) List.mem_cons_self) (not_one t2)
    · rw [upd_same, ← List.take_succ_eq_append_getElem hix]
    · exact ((Kp.put List.mem_cons_self).trans (Kp.put (List.mem_cons_of_mem _ List.mem_cons_self))).trans k'
end
end Rd

set_option maxHeartbeats 4000000
/-! OwnList: list(o), o's own __iter__ returns an iterator over a tuple, with an own __len__. -/
namespace Rd
open PySem PySem.Spec L2 PyProof.Rows
section
variable {X : Cx} {pins : List (Addr × Obj)} {σ : L2.St} {H : Hp} {s : Shared} {a C dx f : Addr} {fs : List (Str × V)} {sp : Sp} {n : Nat} {E : Value → Shared → Prop} {A1 : Around}
theorem ol_hint {R : Hp → Prop} {Q : Bool → Shared → Prop} (sb : Sub X n A1.in1) (hm : Meth X.K C "__len__" f) (F : FnR X.prog X.w X.K X.mg X.base CX0 n f sp) (I : Inv X pins σ H s) (ea : H a = some (.ins C dx fs))
    (q : sp [.ref a] H (fun v H' => ∃ k : Int, v = .int k ∧ 0 ≤ k ∧ k < 1000 ∧ R H') E0) (hQ : ∀ b H' s', Inv X pins σ H' s' → R H' → Q b s') :
    wpAny (model X.prog X.w) A1 (Builtin.List.listLengthHint (.ref a)) Q E s := by
  obtain ⟨mA, J, _⟩ := ins_get I.hok ea
  obtain ⟨od, J, _⟩ := J.look
  obtain ⟨m, hF⟩ := I.fr
  unfold Builtin.List.listLengthHint
  refine wpAny_bind (wpAny_bind (J.type.here ((PySem.W.looks_findIn I.kIn hm.at_).here ?_)))
  refine PySem.W.KFB.if_not rfl ?_
  refine PySem.W.KFB.if_so rfl ?_
  refine wpAny_bind (wpAny_rule ?_)
  refine wpAny_bind (wpAny_attempt ?_)
  have e0 : Env0 X.prog X.w X.K X.mg X.base A1.in1 X.stack s H := by
    have e := I.env0
    exact ⟨by rw [sb.fr]; exact e.frames, e.mod, e.bs, e.bsz, e.funs, e.frf, e.hok, e.bare⟩
  refine PySem.W.len_K hF I.ok.mod.kin J hm.at_ hm.fn (wpAny_call (codeAny_mono (F A1.in1 X.stack s H [.ref a] [.ref a] _ E0 sb.room e0 (.cons rfl .nil) q) fun r s' z => ?_))
  cases r with
  | error e => exact False.elim z
  | ok fl =>
    cases fl with
    | ret u =>
      obtain ⟨z', H', I', rz, k, rfl, k0, k1, qz⟩ := I.after z
      obtain ⟨t, e⟩ := (show ∃ t, u = Value.int k t from rz)
      cases e
      refine ⟨⟨k0, by omega⟩, ?_⟩
      refine wpAny_bind (wpAny_pure ?_)
      refine PySem.W.KFB.if_not (decide_eq_false (by have : 1000 < sizeLine := by decide
                                                     omega)) ?_
      exact wpAny_pure (hQ _ H' _ (I'.tok _) qz)
    | next => exact False.elim z
    | brk => exact False.elim z
    | cont => exact False.elim z
/-- list(o): __iter__ gives an iterator over the tuple of xs, __len__ a number -/
def rListOwn (K : PySem.W.Frag) (C : Addr) (spI spL : Sp) : List V → Hp → VK → Prop := fun vs H Q => ∃ a dx fs t xs, vs = [.ref a] ∧ H a = some (.ins C dx fs) ∧ SqT K H t xs ∧
  ∀ q, H q = none → spI [.ref a] (upd H q (.lst [])) (fun v H1 => ∃ it, v = .ref it ∧ t ≠ it ∧ H1 it = some (TiO t it 0) ∧ Kp [] (upd H q (.lst [])) H1 ∧
    spL [.ref a] H1 (fun v H2 => ∃ k : Int, v = .int k ∧ 0 ≤ k ∧ k < 1000 ∧ Kp [] H1 H2 ∧ ∀ H3, Kp [it, q] H2 H3 → H3 q = some (.lst xs) → Q (.ref q) H3) E0) E0
theorem next_ti {it t : Addr} {i : Nat} {M : Model} {Q : Value → Shared → Prop} (h : s.heap.IsTupleIter it t i) (q : Q (.ref it) s) : PySem.W.OwitIt M A1 Q E (.ref it) s := by
  unfold PySem.W.OwitIt
  exact wpAny_specialOf h.typeIs PySem.F.slot_tuple_iterator_next.lookup q
variable {fi fl : Addr} {spI spL : Sp}
theorem call_listOwnT (hc : X.calm = true) (it_ : PySem.W.findIn X.K (.ref C) "__iter__" = some (some (.ref fi))) (itF : PySem.W.isFn X.K (.ref fi) = true) (FI : FnR X.prog X.w X.K X.mg X.base CX0 n fi spI)
    (hl : Meth X.K C "__len__" fl) (FL : FnR X.prog X.w X.K X.mg X.base CX0 n fl spL) (hr : Room (n + 3) X.A) : CallR X (.type "list") (rListOwn X.K C spI spL) := by
  intro pins s σ H xs us Q I rv h
  obtain ⟨a, dx, fs, t, xs, rfl, ha, ht, hq⟩ := h
  obtain ⟨u, rfl, ru⟩ := rv.one
  cases ru
  have sb : Sub X (n + 1) X.A.in1.in1 := (Sub.in1 (Sub.in1 (⟨hr, rfl⟩ : Sub X (n + 3) X.A)))
  have sb3 : Sub X n X.A.in1.in1.in1 := Sub.in1 sb
  refine callType_codes (Q₁ := fun obj s₁ => obj = .ref s.heap.objs.size ∧ s₁ = { s with heap := s.heap.push { cls := .type "list", data := .seq #[] } }) PySem.F.called_list (PySem.F.typeCall_list_1 _) PySem.F.entry_list_init
    (code_list_new _ ⟨rfl, rfl⟩) fun obj s₁ h₁ => ?_
  obtain ⟨rfl, rfl⟩ := h₁
  have hS : (s.heap.push { cls := .type "list", data := .seq #[] }).get? s.heap.objs.size = some { cls := .type "list", data := .seq #[] } := Heap.get?_push_size _ rfl
  refine ⟨⟨_, hS, rfl⟩, PySem.F.args_list_init_2 _ _, ?_⟩
  have fr : H s.heap.objs.size = none := I.hok.fresh (Nat.le_refl _)
  have hsp := hq _ fr
  have I1 : Inv X pins σ (upd H s.heap.objs.size (.lst [])) { s with heap := s.heap.push { cls := .type "list", data := .seq #[] } } := I.lnew (its := []) (t' := s.toks) .nil (Nat.zero_le _)
  show wpAny _ _ (do let old ← Builtin.List.listItems (.ref s.heap.objs.size); Builtin.List.listUpdate (.ref s.heap.objs.size) (fun _ => #[]); letGo old.toList.reverse; Builtin.List.listExtendWith (.ref s.heap.objs.size) (.ref a) .none) _ _ _
  refine wpAny_bind ?_
  unfold Builtin.List.listItems
  refine wpAny_bind (wpAny_seqItems hS rfl (wpAny_pure ?_))
  show wpAny _ _ (updateSeq s.heap.objs.size (fun _ => #[]) >>= fun _ => letGo (#[] : Array Value).toList.reverse >>= fun _ => Builtin.List.listExtendWith (.ref s.heap.objs.size) (.ref a) .none) _ _ _
  refine wpAny_bind (wpAny_updateSeq hS rfl ?_)
  have I2 := I1.lset (f := fun _ => #[]) (its := []) (its' := []) (ys := []) (t' := s.toks) upd_same hS rfl .nil (Nat.zero_le _)
  rw [upd_upd] at I2
  refine wpAny_bind (wpAny_letGo ?_)
  have ha2 : upd H s.heap.objs.size (.lst []) a = some (.ins C dx fs) := by rw [upd_ne (ne_of_none ha fr)]; exact ha
  have hne : s.heap.objs.size ≠ a := fun e => by rw [← e, fr] at ha; cases ha
  obtain ⟨mA, J, _⟩ := ins_get I2.hok ha2
  obtain ⟨od, J, _⟩ := J.look
  obtain ⟨m0, hF⟩ := I2.fr
  unfold Builtin.List.listExtendWith
  refine wpAny_bind (J.type.here ?_)
  have h1 : Builtin.List.listSameRef (.ref s.heap.objs.size) (.ref a) = false := by simp [Builtin.List.listSameRef, hne]
  have h2 : (Value.ref C == Value.type "list") = false := rfl
  have h3 : (Value.ref C == Value.type "tuple") = false := rfl
  simp only [h1, h2, h3, Bool.or_false, Bool.false_eq_true, if_false]
  refine wpAny_bind (PySem.W.owit_iter hF I2.ok.mod.kin J it_ itF ?_)
  have e := I2.env0
  refine wpAny_call (codeAny_mono (FI X.A.in1.in1 X.stack _ _ [.ref a] [.ref a] _ E0 (sb.room.mono (Nat.le_succ n)) ⟨by rw [sb.fr]; exact e.frames, e.mod, e.bs, e.bsz, e.funs, e.frf, e.hok, e.bare⟩ (.cons rfl .nil) hsp) fun r s' z => ?_)
  cases r with
  | error e => exact False.elim z
  | ok fo =>
    cases fo with
    | next => exact False.elim z
    | brk => exact False.elim z
    | cont => exact False.elim z
    | ret u =>
      obtain ⟨v, H1, I3, rv, it, rfl, ti, eit, k1, hsp2⟩ := I2.after z
      cases (show u = Value.ref it from rv)
      refine next_ti (tiO_get I3 eit) ?_
      refine wpAny_bind (wpAny_holding (ol_hint (E := _) (R := fun H2 => Kp [] H1 H2 ∧ ∀ H3, Kp [it, s.heap.objs.size] H2 H3 → H3 s.heap.objs.size = some (.lst xs) → Q (.ref s.heap.objs.size) H3) sb3 hl FL I3 (k1 _ _ ha2 not_nil) hsp2 fun b H2 s2 I4 hR => ?_))
      obtain ⟨k2, qq⟩ := hR
      have hq1 : (upd H s.heap.objs.size (.lst [])) s.heap.objs.size = some (.lst []) := upd_same
      have hq2 := k2 _ _ (k1 _ _ hq1 not_nil) not_nil
      have eit2 := k2 _ _ eit not_nil
      have tq : t ≠ s.heap.objs.size := fun e => by
        obtain ⟨its, rv, p, _⟩ := I.tuple ht
        obtain ⟨o, ho, _⟩ := p
        rw [e] at ho
        exact absurd ho (by rw [PyProof.Rows.new_of_ge (Nat.le_refl _)]; simp)
      have ht2 : SqT X.K H2 t xs := sqt_kp (sqt_kp (sqt_kp ht (Kp.new fr) not_nil) k1 not_nil) k2 not_nil
      refine wpAny_ite_split (fun _ => ?_) (fun _ => wpAny_pure ⟨plainId_quiet PySem.F.plain_extend_loop _, ti_fill (A1 := X.A.in1) hc (show X.A.in1.handled = none from I4.ok.hd hc) ti tq _ 0 H2 s2 rfl (Nat.zero_le _) I4 eit2 ht2 hq2 fun H3 s3 I5 k3 e3 => ⟨rfl, .ref s.heap.objs.size, H3, I5, rfl, qq H3 k3 e3⟩⟩)
      obtain ⟨z, its, k, r3, hl3, e3⟩ := I4.lstM hq2
      cases r3
      refine wpAny_bind (wpAny_rule ?_)
      refine wpAny_bind ?_
      show wpAny _ _ (updateSeq s.heap.objs.size (·.push .none) >>= fun _ => updateSeq s.heap.objs.size (·.pop)) _ _ _
      refine wpAny_bind (wpAny_updateSeq e3 rfl ?_)
      have J2 := I4.lset (f := (·.push Value.none)) (its' := [Value.none]) (ys := [.non]) (t' := s2.toks) hq2 e3 (by simp) (.cons rfl .nil) (by rw [List.length_singleton, sizeLine_eq]; decide)
      obtain ⟨z4, its4, k4, r4, hl4, e4⟩ := J2.lstM upd_same
      obtain ⟨u4, rfl, ru4⟩ := r4.one
      have J3 := J2.lset (f := (·.pop)) (its := [u4]) (its' := []) (ys := []) (t' := s2.toks) upd_same e4 (by rfl) .nil (Nat.zero_le _)
      rw [upd_upd] at J3
      have hH : upd H2 s.heap.objs.size (.lst []) = H2 := by
        funext b
        by_cases hb : b = s.heap.objs.size
        · rw [hb, upd_same, hq2]
        · rw [upd_ne hb]
      rw [hH] at J3
      refine wpAny_updateSeq e4 rfl ?_ (by show 1 ≤ sizeLine; rw [sizeLine_eq]; decide) (by show 0 ≤ sizeLine + 1; exact Nat.zero_le _)
      exact wpAny_pure ⟨plainId_quiet PySem.F.plain_extend_loop _, ti_fill (A1 := X.A.in1) hc (show X.A.in1.handled = none from I4.ok.hd hc) ti tq _ 0 H2 _ rfl (Nat.zero_le _) J3 eit2 ht2 hq2 fun H3 s3 I5 k3 e3 => ⟨rfl, .ref s.heap.objs.size, H3, I5, rfl, qq H3 k3 e3⟩⟩
end
end Rd

set_option maxHeartbeats 4000000
/-! OwnNe: a != b by an own __eq__. -/
namespace PySem.W
open PySem PySem.Spec PySem.Calls PyProof.Rows
section
variable {prog : Program} {w : World} {A : Around} {E : Value → Shared → Prop} {s : Shared} {K : Frag} {x C : Addr} {ox : Obj} {od : Option Obj} {name : Str} {id B : String}
theorem ifBoundB_K {M : Model} {args : List Value} {Q : Option Value → Shared → Prop} (X : K.In s.heap) (I : InstAt s.heap x ox C od) (hs : findIn K (.ref C) name = some (some (.builtin id))) (S : Slot B name id)
    (h : wpAny M A (call (.builtin id) (.ref x :: args)) (fun v => Q (some v)) E s) : wpAny M A (callSpecialIfBound? (.ref x) name args) Q E s := by
  simp only [callSpecialIfBound?, bindSpecialIfBound?]
  refine wpAny_holding (wpAny_bind (wpAny_bind (wpAny_bind (I.type.here ((looks_findIn X hs).here ?_)))))
  simp only [S.bind]
  refine wpAny_bind (wpAny_askSetting (wpAny_ite ?_))
  have fin : wpAny M A (call (.builtin id) ([.ref x] ++ args) >>= fun v => pure (some v)) Q E s := wpAny_bind (wpAny_mono h (fun v s' h' => wpAny_pure h') fun _ _ h' => h')
  split
  · exact wpAny_bind (wpAny_pure (wpAny_pure fin))
  · exact wpAny_tryCatch (wpAny_bind (wpAny_pure (wpAny_pure fin)))
theorem check_ne {rest : List Value} {Q : Unit → Shared → Prop} (X : K.In s.heap) (I : InstAt s.heap x ox C od) (hm : mroIn K C (.type "object") = some true) (ha : argsOk "object.__ne__" ⟨.ref x :: rest, []⟩) (hq : Q () s) :
    wpAny (model prog w) A (checkBuiltinCall "object.__ne__" ⟨.ref x :: rest, []⟩) Q E s := by
  simp only [checkBuiltinCall, F.cmpKind_ne, F.cmpSplit_ne]
  refine wpAny_bind ?_
  have L : Looks (model prog w) s.heap (isInstance (.ref x) (.type "object")) true := Looks.andThen I.type (looks_mroIn (M := model prog w) X hm)
  refine wpAny_mono (L.here (Q := fun b s' => b = true ∧ s' = s) ⟨rfl, rfl⟩) (fun b s' h => ?_) fun _ _ z => z
  obtain ⟨rfl, rfl⟩ := h
  refine KFB.if_not rfl ?_
  cases hsig : Manifest.signature? "object.__ne__" with
  | none => exact wpAny_pure hq
  | some sig =>
    simp only [argsOk, hsig] at ha
    have h2 : Bind.checkArgs "object.__ne__" sig ⟨.ref x :: rest, []⟩ = pure () := ha
    show wpAny _ A (Bind.checkArgs "object.__ne__" sig ⟨.ref x :: rest, []⟩) Q E _
    rw [h2]
    exact wpAny_pure hq
theorem objNe_K {b : Value} {f : Addr} (X : K.In s.heap) (I : InstAt s.heap x ox C od) (he : findIn K (.ref C) "__eq__" = some (some (.ref f))) (hf : isFn K (.ref f) = true) (hu : A.units < cLine) {Q : Fin → Shared → Prop}
    (hcall : wpAny (model prog w) A (call (.ref f) [.ref x, b]) (fun v s' => ∃ c, v = .bool c ∧ Q (.done (.ret (.bool (!c)))) s') E s) :
    wpAny (model prog w) A (Builtin.«object.__ne__» ⟨[.ref x, b], []⟩) Q E s := by
  unfold Builtin.«object.__ne__»
  repeat (first
    | with_reducible refine wpAny_cRoomFor hu ?_
    | (refine wpAny_bind (m := callSpecialIfBound? (.ref x) (Str.ofString "__eq__") [b])
        (ifBound_K X I he hf (wpAny_mono hcall (fun r s' hr => by
          obtain ⟨c, rfl, hq⟩ := hr
          repeat (first | exact hq | exact wpAny_pure hq | exact wpAny_truthy_bool hq | (refine wpAny_bind (m := truthy (.bool _)) (wpAny_truthy_bool ?_)) | wp_step)) fun _ _ e => e)))
    | wp_step)
theorem ne_K {b tb : Value} {f : Addr} {h₀ : Heap} {L : Addr} {m : Str → Option Value} {Q : Value → Shared → Prop} (hu : A.units + 1 < cLine) (F : Fr h₀ L s.heap m) (X₀ : K.In h₀) (I : InstAt s.heap x ox C od) (hb : Looks (model prog w) s.heap (typeOf b) tb) (hn : notFirst K C tb = true)
    (hne : findIn K (.ref C) "__ne__" = some (some (.builtin "object.__ne__"))) (he : findIn K (.ref C) "__eq__" = some (some (.ref f))) (hf : isFn K (.ref f) = true) (hm : mroIn K C (.type "object") = some true)
    (h : wpAny (model prog w) A.in1 (call (.ref f) [.ref x, b]) (fun v s' => ∃ c, v = .bool c ∧ Q (.bool (!c)) s') E s) : wpAny (model prog w) A (richCompare .NotEq (.ref x) b) Q E s := by
  have X := X₀.keeps F.keep
  have one : wpAny (model prog w) A (tryCompare (.ref x) "__ne__" b) (fun r s' => ∃ v, r = some v ∧ Q v s') E s := by
    simp only [tryCompare]
    refine wpAny_bind (ifBoundB_K X I hne PySem.F.cmp_object.ne (wpAny_call (codeAny_call_builtin PySem.F.cmp_object.ne.plain PySem.F.cmpEntry_ne
      (check_ne X I hm (PySem.F.cmpArgs_ne _ _) (objNe_K (A := A.in1) X I he hf hu (wpAny_mono h (fun v s' hv => ?_) fun _ _ e => e))))))
    obtain ⟨c, rfl, hq⟩ := hv
    exact ⟨c, rfl, wpAny_pure ⟨_, rfl, hq⟩⟩
  unfold richCompare
  simp only [oneThing_ref]
  refine wpAny_holding (wpAny_bind (wpAny_cRoomFor (Nat.lt_of_succ_lt hu) ?_))
  rw [cmpInfo_NotEq]
  refine wpAny_bind (I.type.here (wpAny_bind (hb.here ?_)))
  split
  · rename_i q
    have e : subIn K tb (.ref C) = some false := by
      rcases Bool.or_eq_true_iff.mp hn with e | e
      · rw [beq_iff_eq.mp e] at q; simp at q
      · exact beq_iff_eq.mp e
    refine wpAny_bind ((looks_subIn X e).here ?_)
    simp only [Bool.false_eq_true, if_false]
    refine wpAny_bind (wpAny_mono one (fun r s' z => ?_) fun _ _ e => e)
    obtain ⟨v, rfl, hq⟩ := z
    exact wpAny_pure hq
  · refine wpAny_bind (wpAny_pure ?_)
    simp only [Bool.false_eq_true, if_false]
    refine wpAny_bind (wpAny_mono one (fun r s' z => ?_) fun _ _ e => e)
    obtain ⟨v, rfl, hq⟩ := z
    exact wpAny_pure hq
end
end PySem.W

set_option maxHeartbeats 4000000
/-! OwnEq: != by an own __eq__; == of an own object and data; list(o) with K named. -/
namespace Rd
open PySem PySem.Spec L2
/-- x != y, both of the class at C -/
def rNeOwn (C : Addr) (sp : Sp) : R2 := fun x y H Q => ∃ a dx fs b dy gs, x = .ref a ∧ y = .ref b ∧ H a = some (.ins C dx fs) ∧ H b = some (.ins C dy gs) ∧ sp [.ref a, .ref b] H (fun z H' => ∃ c, z = .bl c ∧ Q (.bl (!c)) H') E0
/-- x == y, x of the class at C, y of another type -/
def rEqOth (K : PySem.W.Frag) (C : Addr) (sp : Sp) : R2 := fun x y H Q => ∃ a dx fs t, x = .ref a ∧ H a = some (.ins C dx fs) ∧ TyX K H y t ∧ PySem.W.notFirst K C t = true ∧ sp [.ref a, y] H (fun z H' => ∃ c, z = .bl c ∧ Q (.bl c) H') E0
section
variable {X : Cx} {n : Nat} {C f : Addr} {sp : Sp}
theorem op_neOwn (hm : Meth X.K C "__eq__" f) (F : FnR X.prog X.w X.K X.mg X.base CX0 n f sp) (hr : Room n X.A) (hne : PySem.W.findIn X.K (.ref C) "__ne__" = some (some (.builtin "object.__ne__"))) (ho : PySem.W.mroIn X.K C (.type "object") = some true)
    (hr1 : Room (n + 1) X.A) : OpR X (compareOp .NotEq) (rNeOwn C sp) := by
  intro pins s σ H x y v u Q I rx ry h
  obtain ⟨a, dx, fs, b, dy, gs, rfl, rfl, ea, eb, q⟩ := h
  cases (show v = Value.ref a from rx)
  cases (show u = Value.ref b from ry)
  obtain ⟨mA, O, _⟩ := ins_get I.hok ea
  obtain ⟨od, J, _⟩ := O.look
  obtain ⟨mB, O', _⟩ := ins_get I.hok eb
  obtain ⟨od', J', _⟩ := O'.look
  obtain ⟨m, hF⟩ := I.fr
  have nf : PySem.W.notFirst X.K C (.ref C) = true := by
    unfold PySem.W.notFirst
    simp
  refine PySem.W.ne_K (tb := .ref C) (by have := hr1.units; have := hr.units; omega) hF I.ok.mod.kin J J'.type nf hne hm.at_ hm.fn ho ?_
  refine wpAny_call (codeAny_mono (F X.A.in1 X.stack s H [.ref a, .ref b] [.ref a, .ref b] _ E0 hr1.in1 I.env0.in1 (.cons rfl (.cons rfl .nil)) q) fun r s' z => ?_)
  cases r with
  | error e => exact False.elim z
  | ok fl =>
    cases fl with
    | ret u =>
      obtain ⟨z', H', I', rz, c, rfl, qz⟩ := I.after z
      cases (show u = Value.bool c from rz)
      exact ⟨c, rfl, .bl (!c), H', I'.tok _, rfl, qz⟩
    | next => exact False.elim z
    | brk => exact False.elim z
    | cont => exact False.elim z
theorem op_eqOth (hm : Meth X.K C "__eq__" f) (F : FnR X.prog X.w X.K X.mg X.base CX0 n f sp) (hr : Room n X.A) : OpR X (compareOp .Eq) (rEqOth X.K C sp) := by
  intro pins s σ H x y v u Q I rx ry h
  obtain ⟨a, dx, fs, t, rfl, ea, ty, nf, q⟩ := h
  cases (show v = Value.ref a from rx)
  obtain ⟨mA, O, _⟩ := ins_get I.hok ea
  obtain ⟨od, J, _⟩ := O.look
  obtain ⟨P, Z, p, hx⟩ := kit_of I ry ty
  obtain ⟨m, hF⟩ := I.fr
  refine PySem.W.cmp_K (op := .Eq) (tb := t) hr.units0 hF I.ok.mod.kin J (Z.ty _ _ I.kIn p) nf hm.at_ hm.fn ?_
  refine wpAny_mono (wpAny_call (run_fnR (us := [.ref a, u]) (vs := [.ref a, y]) F hr pass0 I (.cons rfl (.cons ry .nil)) q)) (fun r s' z => ?_) fun _ _ x => x
  obtain ⟨z', H', I', rz, c, rfl, qz⟩ := z
  cases (show r = Value.bool c from rz)
  exact ⟨.bl c, H', I', rfl, qz⟩
theorem K_eqOth {K : PySem.W.Frag} (hK : X.K = K) (hm : Meth K C "__eq__" f) (F : FnR X.prog X.w K X.mg X.base CX0 n f sp) (hr : Room n X.A) : OpR X (compareOp .Eq) (rEqOth K C sp) := by
  subst hK
  exact op_eqOth hm F hr
theorem K_listOwn {K : PySem.W.Frag} {fi fl : Addr} {spI spL : Sp} (hK : X.K = K) (hc : X.calm = true) (hi : Meth K C "__iter__" fi) (FI : FnR X.prog X.w K X.mg X.base CX0 n fi spI)
    (hl : Meth K C "__len__" fl) (FL : FnR X.prog X.w K X.mg X.base CX0 n fl spL) (hr : Room (n + 3) X.A) : CallR X (.type "list") (rListOwn K C spI spL) := by
  subst hK
  exact call_listOwnT hc hi.at_ hi.fn FI hl FL hr
end
section
variable {H : Hp} {Q : VK} {C a b dx dy t : Addr} {fs gs : List (Str × V)} {sp spI spL : Sp} {y : V} {xs : List V} {K : PySem.W.Frag} {ty : Value} {c : Bool}
def kNeg (Q : VK) : VK := fun z H' => ∃ c, z = .bl c ∧ Q (.bl (!c)) H'
def kYes (Q : VK) : VK := fun z H' => ∃ c, z = .bl c ∧ Q (.bl c) H'
theorem r_neOwn (e : H a = some (.ins C dx fs)) (e' : H b = some (.ins C dy gs)) (q : sp [.ref a, .ref b] H (kNeg Q) E0) : rNeOwn C sp (.ref a) (.ref b) H Q := ⟨a, dx, fs, b, dy, gs, rfl, rfl, e, e', q⟩
theorem r_eqOwn (e : H a = some (.ins C dx fs)) (e' : H b = some (.ins C dy gs)) (q : sp [.ref a, .ref b] H (kYes Q) E0) : rEqOwn C sp (.ref a) (.ref b) H Q := ⟨a, dx, fs, b, dy, gs, rfl, rfl, e, e', q⟩
theorem r_eqOth (e : H a = some (.ins C dx fs)) (h : TyX K H y ty) (n : PySem.W.notFirst K C ty = true) (q : sp [.ref a, y] H (kYes Q) E0) : rEqOth K C sp (.ref a) y H Q := ⟨a, dx, fs, ty, rfl, e, h, n, q⟩
theorem r_kNeg (q : Q (.bl (!c)) H) : kNeg Q (.bl c) H := ⟨c, rfl, q⟩
theorem r_kYes (q : Q (.bl c) H) : kYes Q (.bl c) H := ⟨c, rfl, q⟩
/-- list(o) -/
def kLoI (spL : Sp) (a t : Addr) (xs : List V) (q : Addr) (H0 : Hp) (Q : VK) : VK := fun v H1 => ∃ it, v = .ref it ∧ t ≠ it ∧ H1 it = some (TiO t it 0) ∧ Kp [] H0 H1 ∧
    spL [.ref a] H1 (fun v H2 => ∃ k : Int, v = .int k ∧ 0 ≤ k ∧ k < 1000 ∧ Kp [] H1 H2 ∧ ∀ H3, Kp [it, q] H2 H3 → H3 q = some (.lst xs) → Q (.ref q) H3) E0
def kLoL (it q : Addr) (xs : List V) (H1 : Hp) (Q : VK) : VK := fun v H2 => ∃ k : Int, v = .int k ∧ 0 ≤ k ∧ k < 1000 ∧ Kp [] H1 H2 ∧ ∀ H3, Kp [it, q] H2 H3 → H3 q = some (.lst xs) → Q (.ref q) H3
theorem r_listOwn (e : H a = some (.ins C dx fs)) (ht : SqT K H t xs) (q : ∀ q H0, H q = none → Kp [] H H0 → H0 q = some (.lst []) → spI [.ref a] H0 (kLoI spL a t xs q H0 Q) E0) : rListOwn K C spI spL [.ref a] H Q := ⟨a, dx, fs, t, xs, rfl, e, ht, fun p n => q p _ n (Kp.new n) upd_same⟩
theorem r_kLoI {H0 : Hp} {it q : Addr} (n : t ≠ it) (e : H it = some (TiO t it 0)) (k : Kp [] H0 H) (h : spL [.ref a] H (kLoL it q xs H Q) E0) : kLoI spL a t xs q H0 Q (.ref it) H := ⟨it, rfl, n, e, k, h⟩
theorem r_kLoL {H1 : Hp} {it q : Addr} {k : Int} (k0 : 0 ≤ k) (k1 : k < 1000) (kk : Kp [] H1 H) (h : ∀ H3, Kp [it, q] H H3 → H3 q = some (.lst xs) → Q (.ref q) H3) : kLoL it q xs H1 Q (.int k) H := ⟨k, rfl, k0, k1, kk, h⟩
end
end Rd

set_option maxHeartbeats 4000000
/-! Fam: objects of some classes with a common base: ==, properties, str; super().m(..) of an own class. -/
namespace Rd
open PySem PySem.Spec L2 NdefX PyProof.Rows
/-! ### x == y by the base's __eq__ -/
def rEqFam (K : PySem.W.Frag) (S : Addr → Prop) (sp : Sp) : R2 := fun x y H Q => ∃ a C dx fs t, x = .ref a ∧ H a = some (.ins C dx fs) ∧ S C ∧ TyX K H y t ∧ PySem.W.notFirst K C t = true ∧ sp [.ref a, y] H (kYes Q) E0
def cStrFam (S : Addr → Prop) (sp : Sp) : R1 := fun xs H Q => ∃ a C dx fs, xs = [.ref a] ∧ H a = some (.ins C dx fs) ∧ S C ∧ sp [.ref a] H (fun z H' => ∃ y, z = .str y ∧ Q (.str y) H') E0
def kPropF (S : Addr → Prop) (sp : Sp) (Q : VK) : VK := fun x H1 => ∃ a C dx fs, x = .ref a ∧ H1 a = some (.ins C dx fs) ∧ S C ∧ sp [.ref a] H1 Q E0
def tPropF (S : Addr → Prop) (sp : Sp) (ta : TE) : TE := fun σ H Q => ta σ H (kPropF S sp Q)
section
variable {X : Cx} {n : Nat} {f p g : Addr} {sp : Sp} {S : Addr → Prop} {K : PySem.W.Frag}
theorem K_eqFam (hK : X.K = K) (hm : ∀ C, S C → Meth K C "__eq__" f) (F : FnR X.prog X.w K X.mg X.base CX0 n f sp) (hr : Room n X.A) : OpR X (compareOp .Eq) (rEqFam K S sp) := by
  subst hK
  intro pins s σ H x y v u Q I rx ry h
  obtain ⟨a, C, dx, fs, t, rfl, ea, hS, ty, nf, q⟩ := h
  exact op_eqOth (hm C hS) F hr pins s σ H _ y v u Q I rx ry ⟨a, dx, fs, t, rfl, ea, ty, nf, q⟩
theorem cr_strFam (hm : ∀ C, S C → Meth X.K C "__str__" f) (F : FnR X.prog X.w X.K X.mg X.base CX0 n f sp) (hr : Room (n + 2) X.A) : CallR X (.type "str") (cStrFam S sp) := by
  intro pins s σ H xs us Q I r h
  obtain ⟨a, C, dx, fs, rfl, ea, hS, q⟩ := h
  obtain ⟨u, rfl, ru⟩ := r.one
  cases (show u = Value.ref a from ru)
  obtain ⟨mA, O, _⟩ := ins_get I.hok ea
  obtain ⟨od, J, _⟩ := O.look
  have M := hm C hS
  refine PySem.W.kso_call hr.in1.in1.units0 I.kIn J M.at_ M.fn (wpAny_call (codeAny_mono (F X.A.in1.in1 X.stack s H [.ref a] [.ref a] _ E0 hr.in1.in1 I.env0.in1.in1 (.cons rfl .nil) q) fun r s' z => ?_))
  cases r with
  | error e => exact False.elim z
  | ok fl =>
    cases fl with
    | ret u =>
      obtain ⟨z', H', I', rz, y, rfl, qz⟩ := I.after z
      obtain ⟨t, e⟩ := (show ∃ t, u = Value.str y t from rz)
      subst e
      exact ⟨.str y, H', I', ⟨_, rfl⟩, qz⟩
    | next => exact False.elim z
    | brk => exact False.elim z
    | cont => exact False.elim z
theorem pe_propF {fd : FuncData} {ps : List Str} {e : Expr} {pos : Pos} {ta : TE} {nm : Str} (he : PE X e ta) (hc : ∀ C, S C → Cls X.K C ∧ PropOf X.K C nm p g) (F : FnOk X.prog X.w X.K X.mg X.base CX0 n g fd ps sp) (hr : Room (n + 1) X.A) (hb : Binds X.K fd ps [])
    (hab : attributeBase e nm X.env (eval e X.env) = eval e X.env := by rfl) : PE X (.Attribute e nm pos) (tPropF S sp ta) := by
  refine ⟨fun pins s σ H Q I h => ?_⟩
  refine attr_of hab (thn (he.run pins s σ H _ I h) fun u s1 ⟨x, H1, I1, rx, a, C, dx, fs, ex, ea, hS, q⟩ => ?_)
  subst ex
  obtain rfl : u = Value.ref a := rx
  obtain ⟨c, hp⟩ := hc C hS
  exact getprop_ok (dvs := []) I1 ea c hp F hr hb .nil pass0 q
end
section
variable {H : Hp} {Q : VK} {S : Addr → Prop} {sp : Sp} {K : PySem.W.Frag} {a C dx : Addr} {fs : List (Str × V)} {y : V} {t : Value} {σ : L2.St} {ta : TE}
theorem r_eqFam (e : H a = some (.ins C dx fs)) (hS : S C) (ty : TyX K H y t) (nf : PySem.W.notFirst K C t = true) (q : sp [.ref a, y] H (kYes Q) E0) : rEqFam K S sp (.ref a) y H Q := ⟨a, C, dx, fs, t, rfl, e, hS, ty, nf, q⟩
def kStr (Q : VK) : VK := fun z H' => ∃ y, z = .str y ∧ Q (.str y) H'
theorem r_kStr {y : Str} (q : Q (.str y) H) : kStr Q (.str y) H := ⟨y, rfl, q⟩
theorem r_strFam (e : H a = some (.ins C dx fs)) (hS : S C) (q : sp [.ref a] H (kStr Q) E0) : cStrFam S sp [.ref a] H Q := ⟨a, C, dx, fs, rfl, e, hS, q⟩
theorem r_propF (q : ta σ H (kPropF S sp Q)) : tPropF S sp ta σ H Q := q
theorem r_kPropF (e : H a = some (.ins C dx fs)) (hS : S C) (q : sp [.ref a] H Q E0) : kPropF S sp Q (.ref a) H := ⟨a, C, dx, fs, rfl, e, hS, q⟩
end
/-! ### a body at its own code: plain statements, then super().m(..) -/
structure PEat (X : Cx) (c : Code) (e : Expr) (te : TE) : Prop where
  run : ∀ (pins : List (Addr × Obj)) (s : Shared) (σ : L2.St) (H : Hp) (Q : VK), Inv X pins σ H s → te σ H Q → _root_.PySem.wpAt (model X.prog X.w) X.A c (eval e X.env) (EP X pins σ Q) X.xe s
section
variable {X : Cx} {c : Code} {st : Stmt} {rest : List Stmt} {t u : TS} {e : Expr} {te : TE} {pos : Pos}
theorem qs_cons (a : PS X st t) (b : QS X c rest u) : QS X c (st :: rest) (tSeq t u) := by
  constructor
  intro pins s σ H D I h
  refine _root_.PySem.ks_wpAt_execs_cons (wpAt_of_wpAny (thn (a.run pins s σ H _ I h) fun f s1 w => ?_))
  match f, w with
  | .next, ⟨σ', H', I', w'⟩ => exact b.run pins s1 σ' H' D I' w'
  | .ret _, w => exact w
  | .brk, w => exact w
  | .cont, w => exact w
def tDrp (te : TE) (u : TS) : TS := fun D σ H => te σ H fun _ H1 => u D σ H1
theorem qs_expr (a : PEat X c e te) (b : QS X c rest u) (hi : interactive X.env = false := by rfl) (hs : swapsWith e none pos.line X.env = pure false := by rfl) : QS X c (.Expr e pos :: rest) (tDrp te u) := by
  constructor
  intro pins s σ H D I h
  refine _root_.PySem.ks_wpAt_execs_cons (_root_.PySem.ks_wpAt_Expr_any (_root_.PySem.ks_wpAt_mono (a.run pins s σ H _ I h) (fun v s1 w => ?_) fun _ _ z => z) hi hs)
  obtain ⟨x, H1, I1, r1, q⟩ := w
  exact b.run pins s1 σ H1 D I1 q
theorem r_drp {nx bk ct : L2.St → Hp → Prop} {rt : VK} {σ : L2.St} {H : Hp} (q : te σ H fun _ H1 => u ⟨nx, rt, bk, ct⟩ σ H1) : tDrp te u ⟨nx, rt, bk, ct⟩ σ H := q
end
/-! ### super().m(e, ..) of an own class -/
/-- what is asked of the class at C, in a method of which (its code object at cda) super().name is called: the def at g -/
structure SupO (P : Program) (K : PySem.W.Frag) (mg : Str → Option Value) (C cda : Addr) (name : Str) (g : Addr) : Prop where
  cls : (PySem.W.clsIn K C).isSome = true
  up : PySem.W.ks_superIn K C C name = some (some (.ref g))
  ty : PySem.W.typeIn K (.ref g) = some (.type "function")
  fn : PySem.W.fnIn K g = true
  own : PySem.W.mroIn K C (.ref C) = some true
  opq : PySem.W.nsIn K cStatics "thirdparty.any" = some none
  zs : mg "super" = none
  file : ∃ ccl cdd vs ccs fl tf, K.lookup cda = some ⟨ccl, cdd, .fields vs, ccs⟩ ∧ vs[2]? = some (.str fl tf) ∧ (P.main.file == fl) = true
  top : (P.main.scope.names.lookup ("super" : Str)).isSome = false
def kSupO (sp : Sp) (a : Addr) (Q : VK) : List V → Hp → Prop := fun vs H1 => sp (.ref a :: vs) H1 Q E0
def tSupO (C : Addr) (sp : Sp) (ta : TA) : TE := fun σ H Q => ∃ a dx fs, σ[0]? = some (some (.ref a)) ∧ H a = some (.ins C dx fs) ∧ ta σ H (kSupO sp a Q)
theorem pe_sup {CX : CXT} {P : Program} {w : World} {K : PySem.W.Frag} {mg : Str → Option Value} {base : Heap} {f g cc cda C : Addr} {name qual m : Str} {params : Arguments} {body body' : List Stmt} {scope : Scope} {dV kV doc pm ct oc cl : Value} {an od cld : Option Addr}
    {osl csl : Array (Option Value)} {N : List Str} {A : Around} {outer : List Env} {s0 : Shared} {H0 : Hp} {E : XK} {ar : Arg} {p0 p1 p2 p4 : Pos} {pl : Sem Bool} {e1 : Expr} {es : List Expr} {ta : TA} {sp : Sp} {k : Nat}
    (lk : K.lookup f = some ⟨oc, od, .func (PySem.W.ksFn name qual params body scope dV kV doc pm an (.ref cda) ct cc), osl⟩) (cell : K.lookup cc = some ⟨cl, cld, .cell (some (.ref C)), csl⟩) (Z : SupO P K mg C cda m g)
    (F : FnR P w K mg base CX0 k g sp) (hr : Room k (ncx CX P w K mg base N ⟨name, qual, params, body, scope, [("__class__", cc)], cda⟩ f A outer s0 H0 E).A)
    (hat : (m == ("__class__" : Str)) = false)
    (hks : scope.names.lookup ("super" : Str) = some .globalImplicit) (hkc : scope.names.lookup ("__class__" : Str) = some .free) (hp : (params.posonlyargs ++ params.args).head? = some ar) (hN : N[0]? = some ar.arg)
    (hka : Loc scope ar.arg) (hk : scope.kind = .function)
    (ha : PA (ncx CX P w K mg base N ⟨name, qual, params, body, scope, [("__class__", cc)], cda⟩ f A outer s0 H0 E) (e1 :: es) ta)
    (he : eval (.Call (.Attribute (.Call (.Name "super" p0) [] [] p1) m p2) (e1 :: es) [] p4) (envF ⟨name, qual, params, body, scope, [("__class__", cc)], cda⟩ f s0.heap.objs.size) = (do
      let ov ← attributeBase (.Call (.Name "super" p0) [] [] p1) m (envF ⟨name, qual, params, body, scope, [("__class__", cc)], cda⟩ f s0.heap.objs.size) (eval (.Call (.Name "super" p0) [] [] p1) (envF ⟨name, qual, params, body, scope, [("__class__", cc)], cda⟩ f s0.heap.objs.size))
      standAt p2.atName
      let (fx, first) ← holding [ov] (getMethod ov m pl)
      callWith p4 fx first (backTo p4 (starEach (e1 :: es) (envF ⟨name, qual, params, body, scope, [("__class__", cc)], cda⟩ f s0.heap.objs.size))) []))
    (hst : starEach (e1 :: es) (envF ⟨name, qual, params, body, scope, [("__class__", cc)], cda⟩ f s0.heap.objs.size) = (false, eval e1 (envF ⟨name, qual, params, body, scope, [("__class__", cc)], cda⟩ f s0.heap.objs.size)) :: starEach es (envF ⟨name, qual, params, body, scope, [("__class__", cc)], cda⟩ f s0.heap.objs.size))
    (hpl : (backTo p4 (starEach es (envF ⟨name, qual, params, body, scope, [("__class__", cc)], cda⟩ f s0.heap.objs.size))).any (·.1) = false) :
    PEat (ncx CX P w K mg base N ⟨name, qual, params, body, scope, [("__class__", cc)], cda⟩ f A outer s0 H0 E) (.func body' (envF ⟨name, qual, params, body, scope, [("__class__", cc)], cda⟩ f s0.heap.objs.size))
      (.Call (.Attribute (.Call (.Name "super" p0) [] [] p1) m p2) (e1 :: es) [] p4) (tSupO C sp ta) := by
  constructor
  intro pins s σ H Q I ⟨a, dx, fs, hσ, hia, q⟩
  have KX := I.kIn
  obtain ⟨mA, O, _⟩ := ins_get I.hok hia
  obtain ⟨odx, J, _⟩ := O.look
  obtain ⟨ccl, cdd, vs, ccs, fl, tf, hcode, hvs, hfile⟩ := Z.file
  refine ks_wpAt_MethodCall (pl := pl) ?_ he
  obtain ⟨hh, gg, d, tk, os⟩ := s
  obtain ⟨cd, hcd⟩ := Option.isSome_iff_exists.mp Z.cls
  obtain ⟨oD, hD1, hD2⟩ : ∃ oD, hh.get? C = some oD ∧ oD.data = .cls cd := by
    unfold PySem.W.clsIn at hcd
    split at hcd
    · rename_i c d cd' sl ho
      cases hcd
      exact ⟨_, KX _ _ ho, rfl⟩
    · cases hcd
  refine ks_wpAt_super_base hks hkc hat rfl (KX _ _ lk) rfl hp rfl (KX _ _ hcode) rfl hvs hfile Z.top ?_
  obtain ⟨mb, hbn, hbv⟩ := I.ok.mod.blt
  have hbo : bootBuiltins "super" = some (.type "super") := by first | rfl | decide +kernel
  refine PySem.W.ks_loadName_global hk hks (Calls.loadGlobal_builtin (I.mod.glob.keeps I.bk) Z.zs (hbn.keeps I.bk) ((hbv ("super" : Str) (by decide +kernel)).trans hbo) ⟨rfl, ?_⟩)
  refine wpAny_loadName_free hk hkc rfl ⟨_, KX _ _ cell, rfl⟩ ?_
  obtain ⟨ml, hns, hl⟩ := I.loc
  obtain ⟨u, ru, lku⟩ := hl 0 ar.arg (.ref a) hN hσ (hka.elim .inl fun z => .inr (.inl z))
  obtain rfl : u = Value.ref a := ru
  refine wpAny_mono (Q := fun u s' => u = Value.ref a ∧ s' = ⟨hh, gg, d, tk, os⟩) (E := fun _ _ => False) ?_ (fun u s' z => ?_) fun _ _ z => z.elim
  · rcases lku with ⟨hkx, hm⟩ | ⟨hkx, cx, hcx, hcell⟩
    · exact wpAny_loadName_local hk hkx hns hm ⟨rfl, rfl⟩
    · rcases hkx with hkx | hkx
      · exact wpAny_loadName_cell hk hkx hcx hcell ⟨rfl, rfl⟩
      · rcases hka with z | z
        · exact absurd (z.symm.trans hkx) (by decide)
        · exact absurd (z.symm.trans hkx) (by decide)
  obtain ⟨rfl, rfl⟩ := z
  refine ks_wpAny_isType_cls hD1 hD2 ⟨rfl, ?_⟩
  refine ks_wpAny_call_super hD1 hD2 J.at_ J.cls (fun c z => ?_) (PySem.W.looks_mroIn KX Z.own) fun h' e1' kp => ?_
  · have := J.no
    unfold PySem.W.notCls at this
    rw [z] at this
    exact Bool.noConfusion this
  have I1 : Inv _ pins σ H ⟨h', gg, d, tk, os⟩ := I.kept (t' := tk) kp
  have KX1 := I1.kIn
  obtain ⟨mA1, O1, _⟩ := ins_get I1.hok hia
  obtain ⟨odx1, J1, _⟩ := O1.look
  obtain ⟨of, hof, hofc⟩ : ∃ of, h'.get? g = some of ∧ of.cls = .type "function" := by
    have ht' : (K.lookup g).map (·.cls) = some (.type "function") := Z.ty
    cases z : K.lookup g with
    | none => rw [z] at ht'; cases ht'
    | some of => rw [z] at ht'; exact ⟨of, KX1 _ _ z, Option.some.inj ht'⟩
  have up := Z.up
  unfold PySem.W.ks_superIn at up
  rw [hcd] at up
  refine ks_wpAny_getMethod_super e1' (PySem.W.looks_opaque KX1 Z.opq) (l₀ := cd.mro) (fun A Q E s k z => wpAny_bind ((PySem.W.looks_clsIn KX1 hcd) A _ E s k (wpAny_pure z))) rfl KX1 up hof hofc (PySem.W.ks_ne KX1 J1 hcd) hat ?_
  have k2 : ∀ b o, h'.get? b = some o → (h'.push (PySem.W.methodObj (.ref g) (.ref a))).get? b = some o := fun b o e => Heap.get?_push_of_some _ e
  have I2 : Inv _ pins σ H ⟨h'.push (PySem.W.methodObj (.ref g) (.ref a)), gg, d, tk + 1, os⟩ := I1.kept (t' := tk + 1) k2
  have hq : (h'.push (PySem.W.methodObj (.ref g) (.ref a))).get? h'.objs.size = some (PySem.W.methodObj (.ref g) (.ref a)) := Heap.get?_push_size _ rfl
  have fp : ∀ b ∈ [h'.objs.size], FpOk (ncx CX P w K mg base N ⟨name, qual, params, body, scope, [("__class__", cc)], cda⟩ f A outer s0 H0 E) pins H b := fun b mb' => by
    rw [List.mem_singleton.mp mb']
    exact I1.fpOk (Nat.le_refl _) (I1.hok.fresh (Nat.le_refl _))
  have I3 := I2.pinned fp fun b mb' => by
    rw [List.mem_singleton.mp mb']
    exact ⟨_, hq, fun v z => by cases z⟩
  have hst' : starEach (e1 :: es) (ncx CX P w K mg base N ⟨name, qual, params, body, scope, [("__class__", cc)], cda⟩ f A outer s0 H0 E).env = (false, eval e1 (envF ⟨name, qual, params, body, scope, [("__class__", cc)], cda⟩ f s0.heap.objs.size)) :: starEach es (envF ⟨name, qual, params, body, scope, [("__class__", cc)], cda⟩ f s0.heap.objs.size) := hst
  have go := ha.run p4 _ _ σ H _ I3 q
  rw [hst'] at go
  rw [hst']
  refine PySem.W.callWith_of (P := PySem.W.MethP K h'.objs.size g (.ref a)) (by show ((false || (backTo p4 (starEach es _)).any (·.1)) || false) = false; rw [hpl]; rfl) (PySem.W.keeps_M Z.fn) (Calls.evalArgs_plain (thn go fun us s3 w3 => ?_))
  obtain ⟨vs3, H1, I4, r, q2⟩ := w3
  have pin := (I4.pin (h'.objs.size, PySem.W.methodObj (.ref g) (.ref a)) (List.mem_append_right _ (List.mem_append_right _ (mem_pinsAt List.mem_cons_self hq)))).1
  refine ⟨⟨pin, I4.kIn⟩, ?_⟩
  have I5 := I4.unpinned
  exact wpAny_call (ks_codeAny_call_bound pin (run_fnR (us := .ref a :: us) (vs := .ref a :: vs3) F hr pass0 I5 (.cons rfl r) q2))
theorem r_supO {C a dx : Addr} {fs : List (Str × V)} {sp : Sp} {ta : TA} {σ : L2.St} {H : Hp} {Q : VK} (e : σ[0]? = some (some (.ref a))) (ha : H a = some (.ins C dx fs)) (q : ta σ H (kSupO sp a Q)) : tSupO C sp ta σ H Q := ⟨a, dx, fs, e, ha, q⟩
end Rd

set_option maxHeartbeats 4000000
/-! SupC: a def with the cell __class__ and cells of its own (names that a comprehension reads); super().m(..) in any context. -/
namespace Rd
open PySem PySem.Spec L2 NdefX PyProof.Rows
/-! ### own cells, behind what was captured -/
theorem cellsFrom_app : ∀ (names : List (Str × NameKind)) (n : Nat) (acc : List (Str × Addr)), cellsFrom n names acc = cellsFrom n names [] ++ acc
  | [], _, _ => rfl
  | (name, kind) :: r, n, acc => by
    unfold cellsFrom
    split
    · rw [cellsFrom_app r (n + 1) ((name, n) :: acc), cellsFrom_app r (n + 1) [(name, n)], List.append_assoc]
      rfl
    · exact cellsFrom_app r n acc
theorem mem_cellsFrom : ∀ (names : List (Str × NameKind)) (n : Nat) (y : Str) (c : Addr), (y, c) ∈ cellsFrom n names [] → (y, NameKind.cell) ∈ names
  | [], _, _, _, h => nomatch h
  | (name, kind) :: r, n, y, c, h => by
    unfold cellsFrom at h
    split at h
    · rename_i hk
      rw [cellsFrom_app] at h
      rcases List.mem_append.mp h with h | h
      · exact List.mem_cons_of_mem _ (mem_cellsFrom r _ y c h)
      · have := List.mem_singleton.mp h
        cases this
        rw [beq_iff_eq.mp hk]
        exact List.mem_cons_self
    · exact List.mem_cons_of_mem _ (mem_cellsFrom r _ y c h)
section
variable {M : Model} {A : Around} {E : Value → Shared → Prop} {s₀ s : Shared} {env : Env} {own : List (Str × Addr)}
theorem bindParamsD (f : Str × Value → PUnit → Sem (ForInStep PUnit)) (hf : ∀ n v u, f (n, v) u = (do storeName env n v; pure (.yield ⟨⟩))) (hk : env.scope.kind = .function) :
    ∀ (binds : List (Str × Value)) (m cm : Str → Option Value) (s : Shared) (Q : PUnit → Shared → Prop), InCallC s₀ env.locals m own cm s →
      (∀ x ∈ binds, env.kindOf x.1 = some .local ∨ (env.kindOf x.1 = some .cell ∧ ∃ c, env.cells.lookup x.1 = some c ∧ own.lookup x.1 = some c)) →
      (∀ s', InCallC s₀ env.locals (bindL env.kindOf binds m) own (bindC env.kindOf binds cm) s' → Q ⟨⟩ s') → wpAny M A (forIn binds ⟨⟩ f) Q E s
  | [], m, cm, s, Q, x, _, h => by rw [List.forIn_nil]; exact wpAny_pure (h s x)
  | (n, v) :: r, m, cm, s, Q, x, hkind, h => by
    rw [List.forIn_cons, hf]
    have hr : ∀ y ∈ r, env.kindOf y.1 = some .local ∨ (env.kindOf y.1 = some .cell ∧ ∃ c, env.cells.lookup y.1 = some c ∧ own.lookup y.1 = some c) := fun y hy => hkind y (List.mem_cons_of_mem _ hy)
    rcases hkind (n, v) List.mem_cons_self with hl | ⟨hl, c, hc, hc'⟩
    · refine wpAny_bind (wpAny_bind (wpAny_storeName_local hl x.toInCall.ns (fun h' hn' hs' => wpAny_pure (bindParamsD f hf hk r (fun y => if y = n then some v else m y) cm _ Q ⟨⟨?_, hn', fun b o e => ?_, x.toInCall.fresh⟩, fun k c hc => ?_, x.apart, x.above⟩ hr fun s'' x'' => h s'' ?_)) (by rw [hk]; rfl)))
      · obtain ⟨h₁, tk, rfl⟩ := x.toInCall.same
        exact ⟨h', _, rfl⟩
      · exact hs'.extBut b o (Nat.ne_of_lt (Nat.lt_of_lt_of_le (Heap.lt_size e) x.toInCall.fresh)) (x.toInCall.keep b o e)
      · exact (x.cell k c hc).sameBut hs' (Nat.ne_of_gt (x.above k c (PySem.mem_of_lookup hc)))
      · unfold bindL bindC; rw [if_pos hl, if_pos hl]; exact x''
    · have hnl : ¬ env.kindOf n = some .local := by rw [hl]; decide
      have hLc := x.above n c (PySem.mem_of_lookup hc')
      refine wpAny_bind (wpAny_bind (wpAny_storeName_cell hk hl hc (x.cell n c hc') fun h' hcl' hs' => wpAny_pure (bindParamsD f hf hk r m (fun y => if y = n then some v else cm y) _ Q ⟨⟨?_, x.toInCall.ns.sameBut hs' (Nat.ne_of_lt hLc), fun b o e => ?_, x.toInCall.fresh⟩, fun k c' hk' => ?_, x.apart, x.above⟩ hr fun s'' x'' => h s'' ?_)))
      · obtain ⟨h₁, tk, rfl⟩ := x.toInCall.same
        exact ⟨h', _, rfl⟩
      · exact hs'.extBut b o (Nat.ne_of_lt (Nat.lt_trans (Nat.lt_of_lt_of_le (Heap.lt_size e) x.toInCall.fresh) hLc)) (x.toInCall.keep b o e)
      · by_cases hkn : k = n
        · subst hkn
          rw [hc'] at hk'
          cases hk'
          simpa using hcl'
        · rw [if_neg hkn]
          exact (x.cell k c' hk').sameBut hs' fun e => hkn (name_of_addr x.apart (PySem.mem_of_lookup hk') (e ▸ PySem.mem_of_lookup hc'))
      · unfold bindL bindC; rw [if_neg hnl, if_neg hnl]; exact x''
theorem newFunctionEnvD {scope : Scope} {globals : Addr} {cl : List (Str × Addr)} {binds : List (Str × Value)} {qual : Str} {func : Option Addr} {code : Value} {builtins : Addr} {Q : Env → Shared → Prop}
    (hk : scope.kind = .function) (hkind : ∀ x ∈ binds, scope.names.lookup x.1 = some .local ∨ scope.names.lookup x.1 = some .cell)
    (hQ : ∀ env, env = newEnv scope s.heap.objs.size globals (cellsFrom (s.heap.objs.size + 1) scope.names cl) qual func code none builtins →
      ∀ s', InCallC s env.locals (bindL env.kindOf binds fun _ => none) (cellsFrom (s.heap.objs.size + 1) scope.names []) (bindC env.kindOf binds fun _ => none) s' → Q env s') :
    wpAny M A (newFunctionEnv scope globals cl binds qual func code none builtins) Q E s := by
  simp only [newFunctionEnv, Option.isSome_none, Bool.false_eq_true, if_false]
  refine wpAny_bind (wpAny_alloc ?_)
  refine wpAny_bind (wpAny_layCells _ (fun name kind cells => by cases hkc : kind == NameKind.cell <;> simp [hkc]) _ _ _ _ ?_)
  have ok := cellsFrom_ok scope.names (s.heap.push { cls := .type "frame", data := .dict #[] }) (s.heap.objs.size + 1) [] ⟨fun _ _ hm => (nomatch hm), List.Pairwise.nil⟩ (by rw [Heap.size_push]; exact Nat.le_refl _)
  rw [Heap.size_push] at ok
  rw [show ({ s with heap := s.heap.push { cls := .type "frame", data := .dict #[] } } : Shared).heap.objs.size = s.heap.objs.size + 1 from Heap.size_push ..]
  refine wpAny_bind (bindParamsD (s₀ := s) (env := newEnv scope s.heap.objs.size globals (cellsFrom (s.heap.objs.size + 1) scope.names cl) qual func code none builtins) (own := cellsFrom (s.heap.objs.size + 1) scope.names [])
    _ (fun _ _ _ => rfl) hk binds (fun _ => none) (fun _ => none) _ _
    ⟨⟨⟨_, _, rfl⟩, (Heap.Ns.new s.heap (.type "frame")).keeps (pushCells_keeps _ _), fun b o e => pushCells_keeps _ _ b o (Heap.get?_push_of_some _ e), Nat.le_refl _⟩,
      fun n c hc => (ok.empty n c (PySem.mem_of_lookup hc)).1, ok.apart, fun n c hm => (ok.empty n c hm).2⟩
    (fun x hx => (hkind x hx).elim .inl fun z => .inr ⟨z, ?_⟩) fun s' x => wpAny_pure (hQ _ rfl s' x))
  obtain ⟨c, e⟩ := cell_has (n := s.heap.objs.size + 1) z
  refine ⟨c, ?_, e⟩
  show (cellsFrom (s.heap.objs.size + 1) scope.names cl).lookup x.1 = some c
  rw [cellsFrom_app, List.lookup_append, e]
  rfl
end
/-! ### such a def's body -/
structure CScope (N ps fr : List Str) (sc : Scope) : Prop where
  kind : sc.kind = .function
  co : sc.isCoroutine = false
  gen : sc.isGenerator = false
  nd : N.Nodup
  pre : N.take (ps.length + fr.length) = ps ++ fr
  par : ∀ x ∈ ps, sc.names.lookup x = some .local ∨ sc.names.lookup x = some .cell
  free : ∀ y ∈ sc.names, y.2 = .free → y.1 ∈ fr
  frk : ∀ x ∈ fr, sc.names.lookup x = some .free
  nofr : ∀ y ∈ sc.names, y.2 = .cell → y.1 ∉ fr
def cscB (N ps fr : List Str) (sc : Scope) : Bool :=
  decide (sc.kind = .function) && !sc.isCoroutine && !sc.isGenerator && decide N.Nodup && decide (N.take (ps.length + fr.length) = ps ++ fr) && ps.all (fun x => decide (sc.names.lookup x = some .local) || decide (sc.names.lookup x = some .cell)) && sc.names.all (fun y => !decide (y.2 = .free) || decide (y.1 ∈ fr)) && fr.all (fun x => decide (sc.names.lookup x = some .free)) && sc.names.all (fun y => !decide (y.2 = .cell) || !decide (y.1 ∈ fr))
theorem cscope_by {N ps fr : List Str} {sc : Scope} (h : cscB N ps fr sc = true) : CScope N ps fr sc := by
  unfold cscB at h
  simp only [Bool.and_eq_true, Bool.not_eq_true', decide_eq_true_eq, List.all_eq_true, Bool.or_eq_true, decide_eq_false_iff_not] at h
  obtain ⟨⟨⟨⟨⟨⟨⟨⟨h1, h2⟩, h3⟩, h4⟩, h5⟩, h6⟩, h7⟩, h8⟩, h9⟩ := h
  exact ⟨h1, h2, h3, h4, h5, h6, fun y hy e => (h7 y hy).elim (fun z => absurd e z) id, h8, fun y hy e => (h9 y hy).elim (fun z => absurd e z) id⟩
/-- the context at its entry -/
def ccx (CX : CXT) (P : Program) (w : World) (K : PySem.W.Frag) (mg : Str → Option Value) (base : Heap) (N fr : List Str) (qual : Str) (scope : Scope) (cl : List (Str × Addr)) (cda f : Addr) (A : Around) (outer : List Env) (s : Shared) (H : Hp) (E : XK) : Cx where
  prog := P
  w := w
  K := K
  mg := mg
  base := base
  A := A.deeper (PySem.W.envX qual scope s.heap.objs.size f (.ref cda) (cellsFrom (s.heap.objs.size + 1) scope.names cl))
  N := N
  s_0 := s
  H_0 := H
  env := PySem.W.envX qual scope s.heap.objs.size f (.ref cda) (cellsFrom (s.heap.objs.size + 1) scope.names cl)
  outer := outer
  stack := PySem.W.envX qual scope s.heap.objs.size f (.ref cda) (cellsFrom (s.heap.objs.size + 1) scope.names cl) :: outer
  ex := []
  calm := true
  fn := fun y => !decide (y ∈ fr)
  pn := []
  xe := fun e s' => wpAny (model P w) (A.deeper (PySem.W.envX qual scope s.heap.objs.size f (.ref cda) (cellsFrom (s.heap.objs.size + 1) scope.names cl))) (leaving (PySem.W.envX qual scope s.heap.objs.size f (.ref cda) (cellsFrom (s.heap.objs.size + 1) scope.names cl)) e) (fun _ s'' => CX outer H s E e s'') (fun e' s'' => CX outer H s E e' s'') s'
section
variable {CX : CXT} {P : Program} {w : World} {K : PySem.W.Frag} {mg : Str → Option Value} {base : Heap} {N ps fr : List Str} {qual : Str} {scope : Scope} {cl : List (Str × Addr)} {cda f : Addr} {A : Around} {outer : List Env} {s s1 : Shared} {H : Hp} {E : XK} {us : List Value} {vs : List V} {ws : List (Option V)}
theorem inv_startC (S : CScope N ps fr scope) (hd : A.handled = none) (e0 : Env0 P w K mg base A outer s H) (hl : vs.length = ps.length) (r : Vals vs us) (C : CellsAt cl fr ws s.heap H) (hclf : ∀ y c, cl.lookup y = some c → y ∈ fr)
    (x : InCallC s s.heap.objs.size (bindL (fun n => scope.names.lookup n) (ps.zip us) fun _ => none) (cellsFrom (s.heap.objs.size + 1) scope.names []) (bindC (fun n => scope.names.lookup n) (ps.zip us) fun _ => none) s1) :
    Inv (ccx CX P w K mg base N fr qual scope cl cda f A outer s H E) [] (startF N vs ws) H s1 := by
  have hpl : ps.length + fr.length ≤ N.length := by
    have q := congrArg List.length S.pre
    rw [List.length_take, List.length_append] at q
    omega
  obtain ⟨h1, tk, rfl, kp⟩ := x.done
  have noA : ∀ b : Addr, b ∉ (ccx CX P w K mg base N fr qual scope cl cda f A outer s H E).ex := fun b z => absurd (show b ∈ ([] : List Addr) from z) (by simp)
  have cellK : ∀ {c : Addr} {v : Option Value}, s.heap.IsCell c v → h1.IsCell c v := fun {c v} ⟨o, ho, hd⟩ => ⟨o, kp _ _ ho, hd⟩
  -- where a name's cell comes from
  have part : ∀ {y : Str} {c : Addr}, (cellsFrom (s.heap.objs.size + 1) scope.names cl).lookup y = some c → (cellsFrom (s.heap.objs.size + 1) scope.names []).lookup y = some c ∨ cl.lookup y = some c := fun {y c} h => by
    rw [cellsFrom_app, List.lookup_append] at h
    cases e : (cellsFrom (s.heap.objs.size + 1) scope.names []).lookup y with
    | none =>
      rw [e] at h
      exact .inr h
    | some d =>
      rw [e] at h
      exact .inl h
  have ownL : ∀ {y : Str} {c : Addr}, (cellsFrom (s.heap.objs.size + 1) scope.names []).lookup y = some c → (cellsFrom (s.heap.objs.size + 1) scope.names cl).lookup y = some c := fun {y c} h => by
    rw [cellsFrom_app, List.lookup_append, h]
    rfl
  have noOwn : ∀ {y : Str}, y ∈ fr → (cellsFrom (s.heap.objs.size + 1) scope.names []).lookup y = none := fun {y} hy => by
    cases e : (cellsFrom (s.heap.objs.size + 1) scope.names []).lookup y with
    | none => rfl
    | some d => exact absurd hy (S.nofr _ (mem_cellsFrom _ _ _ _ (PySem.mem_of_lookup e)) rfl)
  have capL : ∀ {y : Str} {c : Addr}, y ∈ fr → cl.lookup y = some c → (cellsFrom (s.heap.objs.size + 1) scope.names cl).lookup y = some c := fun {y c} hy h => by
    rw [cellsFrom_app, List.lookup_append, noOwn hy]
    exact h
  have old : ∀ {y : Str} {c : Addr}, cl.lookup y = some c → c < s.heap.objs.size := fun {y c} h => let ⟨_, z⟩ := (C.all y c h).2; z.lt
  have big : ∀ {y : Str} {c : Addr}, (cellsFrom (s.heap.objs.size + 1) scope.names []).lookup y = some c → s.heap.objs.size < c := fun {y c} h => x.above y c (PySem.mem_of_lookup h)
  refine ⟨⟨e0.mod, S.kind, rfl, rfl, Nat.le_refl _, fun y z c h1 h2 => ?_, fun y hy => ?_, fun y c hf h => ?_, fun _ => hd, Around.frames_deeper e0.frames, .inr ⟨rfl, rfl⟩, fun b z => absurd z (noA b), e0.bs, e0.bsz, fun b _ _ => noA b, fun b z => absurd z (noA b), e0.funs, e0.frf⟩,
    rfl, e0.bare, Un.kept kp, ⟨_, x.toInCall.ns, fun i y v e1 e2 e3 => ?_⟩, fun y c h => ?_, e0.hok.fresh (Nat.le_refl _), fun y c h => ?_, fun q hq => absurd (show q ∈ ([] : List (Addr × Obj)) ++ [] from hq) (by simp), e0.hok.kept kp, ?_⟩
  · rcases part h1 with h1 | h1 <;> rcases part h2 with h2 | h2
    · exact name_of_addr x.apart (PySem.mem_of_lookup h1) (PySem.mem_of_lookup h2)
    · exact absurd (Nat.lt_trans (big h1) (old h2)) (Nat.lt_irrefl _)
    · exact absurd (Nat.lt_trans (big h2) (old h1)) (Nat.lt_irrefl _)
    · exact C.inj _ _ _ h1 h2
  · have hy : scope.names.lookup y = some .cell ∨ scope.names.lookup y = some .free := hy
    rcases hy with hy | hy
    · obtain ⟨c, e⟩ := cell_has (n := s.heap.objs.size + 1) hy
      exact ⟨c, ownL e⟩
    · have hm := S.free _ (PySem.mem_of_lookup hy) rfl
      obtain ⟨i, hi⟩ := List.mem_iff_getElem?.mp hm
      obtain ⟨c, hc, _⟩ := C.has i y hi
      exact ⟨c, capL hm hc⟩
  · have hf : (!decide (y ∈ fr)) = true := hf
    rcases part h with h | h
    · exact Nat.le_of_lt (big h)
    · have : y ∉ fr := by simpa using hf
      exact absurd (hclf y c h) this
  · have e1 : N[i]? = some y := e1
    have clen := C.len
    unfold startF at e2
    by_cases h1 : i < ps.length
    · have hq : (ps ++ fr)[i]? = some y := by
        rw [← S.pre, List.getElem?_take_of_lt (by omega)]
        exact e1
      rw [List.getElem?_append_left h1] at hq
      rw [List.getElem?_append_left (by rw [List.length_map]; omega), List.getElem?_map] at e2
      have ha : vs[i]? = some v := by
        cases e : vs[i]? with
        | none => rw [e] at e2; cases e2
        | some a => rw [e] at e2; cases e2; rfl
      obtain ⟨u, hu, rv⟩ := r.get ha
      have ndP : ps.Nodup := by
        have q := S.nd.sublist (List.take_sublist (ps.length + fr.length) N)
        rw [S.pre] at q
        exact (List.nodup_append.mp q).1
      refine ⟨u, rv, ?_⟩
      rcases S.par y (List.mem_of_getElem? hq) with k | k
      · exact .inl ⟨k, bindL_get ndP hq hu k⟩
      · obtain ⟨c, e⟩ := cell_has (n := s.heap.objs.size + 1) k
        refine .inr ⟨.inl k, c, ownL e, ?_⟩
        have q := x.cell y c e
        rw [bindC_get ndP hq hu (by show scope.names.lookup y ≠ _; rw [k]; decide)] at q
        exact q
    · rw [List.getElem?_append_right (by rw [List.length_map]; omega), List.length_map] at e2
      by_cases h2 : i < ps.length + fr.length
      · have hq : (ps ++ fr)[i]? = some y := by
          rw [← S.pre, List.getElem?_take_of_lt (by omega)]
          exact e1
        rw [List.getElem?_append_right (by omega)] at hq
        rw [List.getElem?_append_left (by omega), hl] at e2
        obtain ⟨c, hc, hv⟩ := C.has (i - ps.length) y hq
        obtain ⟨u, ru, hu⟩ := hv v e2
        have hm := List.mem_of_getElem? hq
        exact ⟨u, ru, .inr ⟨.inr (S.frk y hm), c, capL hm hc, cellK hu⟩⟩
      · rw [List.getElem?_append_right (by omega), List.getElem?_replicate] at e2
        split at e2 <;> cases e2
  · rcases part h with h | h
    · exact ⟨_, x.cell y c h⟩
    · obtain ⟨v, z⟩ := (C.all y c h).2
      exact ⟨v, cellK z⟩
  · rcases part h with h | h
    · exact e0.hok.fresh (Nat.le_of_lt (big h))
    · exact (C.all y c h).1
  · have clen := C.len
    unfold startF
    show _ = N.length
    rw [List.length_append, List.length_append, List.length_map, List.length_replicate]
    omega
end
theorem fn_supC {CX : CXT} {P : Program} {w : World} {K : PySem.W.Frag} {mg : Str → Option Value} {base : Heap} {k : Nat} {f cc cda : Addr} {name qual : Str} {params : Arguments} {body : List Stmt} {scope : Scope} {dV kV doc pm ct oc cl u : Value} {an od cld : Option Addr}
    {osl csl : Array (Option Value)} {N ps : List Str} {sp : Sp} (lk : K.lookup f = some ⟨oc, od, .func (PySem.W.ksFn name qual params body scope dV kV doc pm an (.ref cda) ct cc), osl⟩) (hcd : PySem.W.codeIn K (.ref cda) qual = true)
    (cell : K.lookup cc = some ⟨cl, cld, .cell (some u), csl⟩) (S : CScope N ps ["__class__"] scope)
    (len : ∀ vs H Q E, sp vs H Q E → vs.length = ps.length)
    (hbody : ∀ (A : Around) (outer : List Env) (s : Shared) (H : Hp) (vs : List V) (Q : VK) (E : XK), Room k (A.deeper (PySem.W.envX qual scope s.heap.objs.size f (.ref cda) (cellsFrom (s.heap.objs.size + 1) scope.names [("__class__", cc)]))) → sp vs H Q E →
      ∃ t, QS (ccx CX P w K mg base N ["__class__"] qual scope [("__class__", cc)] cda f A outer s H E) (.func body (PySem.W.envX qual scope s.heap.objs.size f (.ref cda) (cellsFrom (s.heap.objs.size + 1) scope.names [("__class__", cc)]))) body t ∧
        t { nx := fun _ H' => Q .non H', rt := Q } (startF N vs [none]) H) : FnOk P w K mg base CX (k + 1) f (PySem.W.ksFn name qual params body scope dV kV doc pm an (.ref cda) ct cc) ps sp := by
  refine ⟨len, fun A outer s H args us vs Q E hr e0 hb r hsp => ?_⟩
  have hl := len _ _ _ _ hsp
  have KX : K.In s.heap := e0.mod.kin.keeps fun b o e => (e0.bs b o e).1
  have lim : s.heap.NoLimit := e0.mod.nolimit.keeps fun b o e => (e0.bs b o e).1
  refine codeAny_call_function hr.depth (KX _ _ lk) rfl S.co S.gen rfl (PySem.W.codeRec_of KX hcd) (hb _ _ _ _ ?_)
  refine newFunctionEnvD S.kind (fun ⟨n, _⟩ hy => S.par n (List.of_mem_zip hy).1) fun env he s1 x => ?_
  subst he
  refine ⟨lim.keeps x.toInCall.keep, ?_⟩
  show codeAny _ _ (.func body (PySem.W.envX qual scope s.heap.objs.size f (.ref cda) (cellsFrom (s.heap.objs.size + 1) scope.names [("__class__", cc)]))) _ _
  refine ks_codeAny_funcAt ?_
  obtain ⟨t, ht, hq⟩ := hbody A outer s H vs Q E (hr.deeper _) hsp
  have hclf : ∀ (y : Str) (c : Addr), ([("__class__", cc)] : List (Str × Addr)).lookup y = some c → y ∈ (["__class__"] : List Str) := fun y c h => by
    have := PySem.mem_of_lookup h
    rw [List.mem_singleton] at this
    cases this
    exact List.mem_cons_self
  have I : Inv (ccx CX P w K mg base N ["__class__"] qual scope [("__class__", cc)] cda f A outer s H E) [] (startF N vs [none]) H s1 := inv_startC S hr.hd e0 hl r (cells_written e0 cell) hclf x
  refine ks_wpAt_mono (ht.run [] _ (startF N vs [none]) H _ I hq) (fun fl s' hs => ?_) fun e s' hs => hs
  have fin : ∀ {σ' : L2.St} {H' : Hp} {v : V} {u : Value}, Inv (ccx CX P w K mg base N ["__class__"] qual scope [("__class__", cc)] cda f A outer s H E) [] σ' H' s' → RelV v u → Q v H' → CE outer P w H s Q u s' := fun {σ' H' v u} J rv q => ⟨v, H', J.os, J.bare, J.base, J.hok, rv, q⟩
  match fl, hs with
  | .ret u, ⟨v, σ', H', J, rv, q⟩ => exact fin J rv q
  | .next, ⟨σ', H', J, q⟩ => exact fin (v := V.non) (u := Value.none) J rfl q
  | .brk, ⟨_, _, _, q⟩ => exact False.elim q
  | .cont, ⟨_, _, _, q⟩ => exact False.elim q
/-! ### super().m(..) in any context -/
theorem pe_supX {X : Cx} {f g cc cda C : Addr} {name qual m : Str} {params : Arguments} {body body' : List Stmt} {scope : Scope} {dV kV doc pm ct oc cl : Value} {an od cld : Option Addr}
    {osl csl : Array (Option Value)} {ar : Arg} {p0 p1 p2 p4 : Pos} {pl : Sem Bool} {e1 : Expr} {es : List Expr} {ta : TA} {sp : Sp} {k : Nat}
    (hfu : X.env.func = some f) (hco : X.env.code = .ref cda) (hclo : X.env.cells.lookup ("__class__" : Str) = some cc) (lk : X.K.lookup f = some ⟨oc, od, .func (PySem.W.ksFn name qual params body scope dV kV doc pm an (.ref cda) ct cc), osl⟩) (cell : X.K.lookup cc = some ⟨cl, cld, .cell (some (.ref C)), csl⟩) (Z : SupO X.prog X.K X.mg C cda m g)
    (F : FnR X.prog X.w X.K X.mg X.base CX0 k g sp) (hr : Room k X.A)
    (hat : (m == ("__class__" : Str)) = false)
    (hks : X.env.scope.names.lookup ("super" : Str) = some .globalImplicit) (hkc : X.env.scope.names.lookup ("__class__" : Str) = some .free) (hp : (params.posonlyargs ++ params.args).head? = some ar) (hN : X.N[0]? = some ar.arg)
    (hka : Loc X.env.scope ar.arg)
    (ha : PA X (e1 :: es) ta)
    (he : eval (.Call (.Attribute (.Call (.Name "super" p0) [] [] p1) m p2) (e1 :: es) [] p4) X.env = (do
      let ov ← attributeBase (.Call (.Name "super" p0) [] [] p1) m X.env (eval (.Call (.Name "super" p0) [] [] p1) X.env)
      standAt p2.atName
      let (fx, first) ← holding [ov] (getMethod ov m pl)
      callWith p4 fx first (backTo p4 (starEach (e1 :: es) X.env)) []))
    (hst : starEach (e1 :: es) X.env = (false, eval e1 X.env) :: starEach es X.env)
    (hpl : (backTo p4 (starEach es X.env)).any (·.1) = false) :
    PEat X (.func body' X.env)
      (.Call (.Attribute (.Call (.Name "super" p0) [] [] p1) m p2) (e1 :: es) [] p4) (tSupO C sp ta) := by
  constructor
  intro pins s σ H Q I ⟨a, dx, fs, hσ, hia, q⟩
  have KX := I.kIn
  obtain ⟨mA, O, _⟩ := ins_get I.hok hia
  obtain ⟨odx, J, _⟩ := O.look
  obtain ⟨ccl, cdd, vs, ccs, fl, tf, hcode, hvs, hfile⟩ := Z.file
  refine ks_wpAt_MethodCall (pl := pl) ?_ he
  obtain ⟨hh, gg, d, tk, os⟩ := s
  obtain ⟨cd, hcd⟩ := Option.isSome_iff_exists.mp Z.cls
  obtain ⟨oD, hD1, hD2⟩ : ∃ oD, hh.get? C = some oD ∧ oD.data = .cls cd := by
    unfold PySem.W.clsIn at hcd
    split at hcd
    · rename_i c d cd' sl ho
      cases hcd
      exact ⟨_, KX _ _ ho, rfl⟩
    · cases hcd
  refine ks_wpAt_super_base hks hkc hat hfu (KX _ _ lk) rfl hp hco (KX _ _ hcode) rfl hvs hfile Z.top ?_
  obtain ⟨mb, hbn, hbv⟩ := I.ok.mod.blt
  have hbo : bootBuiltins "super" = some (.type "super") := by first | rfl | decide +kernel
  refine PySem.W.ks_loadName_global I.ok.kind hks (Calls.loadGlobal_builtin (by rw [I.ok.glob]; exact I.mod.glob.keeps I.bk) Z.zs (by rw [I.ok.blt]; exact hbn.keeps I.bk) ((hbv ("super" : Str) (by decide +kernel)).trans hbo) ⟨rfl, ?_⟩)
  refine wpAny_loadName_free I.ok.kind hkc hclo ⟨_, KX _ _ cell, rfl⟩ ?_
  obtain ⟨ml, hns, hl⟩ := I.loc
  obtain ⟨u, ru, lku⟩ := hl 0 ar.arg (.ref a) hN hσ (hka.elim .inl fun z => .inr (.inl z))
  obtain rfl : u = Value.ref a := ru
  refine wpAny_mono (Q := fun u s' => u = Value.ref a ∧ s' = ⟨hh, gg, d, tk, os⟩) (E := fun _ _ => False) ?_ (fun u s' z => ?_) fun _ _ z => z.elim
  · rcases lku with ⟨hkx, hm⟩ | ⟨hkx, cx, hcx, hcell⟩
    · exact wpAny_loadName_local I.ok.kind hkx hns hm ⟨rfl, rfl⟩
    · rcases hkx with hkx | hkx
      · exact wpAny_loadName_cell I.ok.kind hkx hcx hcell ⟨rfl, rfl⟩
      · rcases hka with z | z
        · exact absurd (z.symm.trans hkx) (by decide)
        · exact absurd (z.symm.trans hkx) (by decide)
  obtain ⟨rfl, rfl⟩ := z
  refine ks_wpAny_isType_cls hD1 hD2 ⟨rfl, ?_⟩
  refine ks_wpAny_call_super hD1 hD2 J.at_ J.cls (fun c z => ?_) (PySem.W.looks_mroIn KX Z.own) fun h' e1' kp => ?_
  · have := J.no
    unfold PySem.W.notCls at this
    rw [z] at this
    exact Bool.noConfusion this
  have I1 : Inv _ pins σ H ⟨h', gg, d, tk, os⟩ := I.kept (t' := tk) kp
  have KX1 := I1.kIn
  obtain ⟨mA1, O1, _⟩ := ins_get I1.hok hia
  obtain ⟨odx1, J1, _⟩ := O1.look
  obtain ⟨of, hof, hofc⟩ : ∃ of, h'.get? g = some of ∧ of.cls = .type "function" := by
    have ht' : (X.K.lookup g).map (·.cls) = some (.type "function") := Z.ty
    cases z : X.K.lookup g with
    | none => rw [z] at ht'; cases ht'
    | some of => rw [z] at ht'; exact ⟨of, KX1 _ _ z, Option.some.inj ht'⟩
  have up := Z.up
  unfold PySem.W.ks_superIn at up
  rw [hcd] at up
  refine ks_wpAny_getMethod_super e1' (PySem.W.looks_opaque KX1 Z.opq) (l₀ := cd.mro) (fun A Q E s k z => wpAny_bind ((PySem.W.looks_clsIn KX1 hcd) A _ E s k (wpAny_pure z))) rfl KX1 up hof hofc (PySem.W.ks_ne KX1 J1 hcd) hat ?_
  have k2 : ∀ b o, h'.get? b = some o → (h'.push (PySem.W.methodObj (.ref g) (.ref a))).get? b = some o := fun b o e => Heap.get?_push_of_some _ e
  have I2 : Inv _ pins σ H ⟨h'.push (PySem.W.methodObj (.ref g) (.ref a)), gg, d, tk + 1, os⟩ := I1.kept (t' := tk + 1) k2
  have hq : (h'.push (PySem.W.methodObj (.ref g) (.ref a))).get? h'.objs.size = some (PySem.W.methodObj (.ref g) (.ref a)) := Heap.get?_push_size _ rfl
  have fp : ∀ b ∈ [h'.objs.size], FpOk X pins H b := fun b mb' => by
    rw [List.mem_singleton.mp mb']
    exact I1.fpOk (Nat.le_refl _) (I1.hok.fresh (Nat.le_refl _))
  have I3 := I2.pinned fp fun b mb' => by
    rw [List.mem_singleton.mp mb']
    exact ⟨_, hq, fun v z => by cases z⟩
  have hst' : starEach (e1 :: es) X.env = (false, eval e1 X.env) :: starEach es X.env := hst
  have go := ha.run p4 _ _ σ H _ I3 q
  rw [hst'] at go
  rw [hst']
  refine PySem.W.callWith_of (P := PySem.W.MethP X.K h'.objs.size g (.ref a)) (by show ((false || (backTo p4 (starEach es _)).any (·.1)) || false) = false; rw [hpl]; rfl) (PySem.W.keeps_M Z.fn) (Calls.evalArgs_plain (thn go fun us s3 w3 => ?_))
  obtain ⟨vs3, H1, I4, r, q2⟩ := w3
  have pin := (I4.pin (h'.objs.size, PySem.W.methodObj (.ref g) (.ref a)) (List.mem_append_right _ (List.mem_append_right _ (mem_pinsAt List.mem_cons_self hq)))).1
  refine ⟨⟨pin, I4.kIn⟩, ?_⟩
  have I5 := I4.unpinned
  exact wpAny_call (ks_codeAny_call_bound pin (run_fnR (us := .ref a :: us) (vs := .ref a :: vs3) F hr pass0 I5 (.cons rfl r) q2))
end Rd

set_option maxHeartbeats 4000000
/-! StrO: texts: slices, text * number, enumerate(text), min and max of two, str(x) of a number or a text, "".join. -/
namespace Rd
open PySem PySem.Spec PyProof.Rows L2
section
variable {H : Hp} {Q : VK} {X : Cx}
theorem r_slS {z : Str} {lo hi : Option Int} (h : z.length ≤ sizeLine) (q : Q (.str (cutS z lo hi)) H) : rSlS (.str z) lo hi H Q := ⟨z, rfl, h, q⟩
/-! text * number -/
def rMulS : R2 := fun x y H Q => ∃ z n, x = .str z ∧ y = .int n ∧ MulOk z n ∧ Q (.str (Txt.mul z n)) H
theorem op_mulS : OpR X (binaryOp .Mult) rMulS := by
  intro pins s σ H x y v u Q I rx ry h
  obtain ⟨z, n, rfl, rfl, ok, q⟩ := h
  obtain ⟨t, rfl⟩ := rx
  obtain ⟨t', rfl⟩ := ry
  exact SB.mul ok fun t' k => ⟨.str _, H, I.tok k, ⟨_, rfl⟩, q⟩
/-! str(x) of a number or a text -/
def strD : PyData → Str
  | .int i => toString i
  | .str x => x
  | _ => Str.empty
def strDOk : PyData → Prop
  | .int i => i.natAbs.log2 < 1920
  | .str _ => True
  | _ => False
def cStrIS : R1 := fun xs H Q => ∃ x d ex, xs = [x] ∧ Dt ex H x d ∧ strDOk d ∧ Q (.str (strD d)) H
theorem cr_strIS : CallR X (.type "str") cStrIS := by
  intro pins s σ H xs us Q I r h
  obtain ⟨x, d, ex, rfl, hd, ok, q⟩ := h
  cases hd with
  | int i => exact call_str_int pins s σ H _ us Q I r ⟨i, rfl, ok, q⟩
  | str z => exact SkE.call_str_str pins s σ H _ us Q I r ⟨z, rfl, q⟩
  | non => exact ok.elim
  | bl b => exact ok.elim
  | lst _ _ _ => exact ok.elim
  | tup _ _ _ => exact ok.elim
theorem r_strIS {x : V} {d : PyData} {ex : List Addr} (h : Dt ex H x d) (ok : strDOk d) (q : Q (.str (strD d)) H) : cStrIS [x] H Q := ⟨x, d, ex, rfl, h, ok, q⟩
/-! min, max of two texts -/
def slt (a b : Str) : Bool := decide (a.cps.toList < b.cps.toList)
def minS (a b : Str) : Str := if slt b a = true then b else a
def maxS (a b : Str) : Str := if slt a b = true then b else a
def cMin2S : R1 := fun xs H Q => ∃ a b, xs = [.str a, .str b] ∧ Q (.str (minS a b)) H
def cMax2S : R1 := fun xs H Q => ∃ a b, xs = [.str a, .str b] ∧ Q (.str (maxS a b)) H
def strsV (a b : Str) : Nat → Str := fun i => if i = 0 then a else b
theorem cmpOf_strs {prog : Program} {w : World} {A : Around} {a b : Str} {t u : Tok} : CmpOf prog w A .Lt (fun i v => (#[Value.str a t, Value.str b u] : Array Value)[i]? = some v) (fun i j => slt (strsV a b i) (strsV a b j)) := by
  intro i j vi vj s Q E hi hj hQ
  have at2 : ∀ {i : Nat} {v : Value}, (#[Value.str a t, Value.str b u] : Array Value)[i]? = some v → ∃ k, v = Value.str (strsV a b i) k := fun {i v} h => by
    match i, h with
    | 0, h => cases h; exact ⟨_, rfl⟩
    | 1, h => cases h; exact ⟨_, rfl⟩
    | i + 2, h => simp at h
  obtain ⟨k, rfl⟩ := at2 hi
  obtain ⟨k', rfl⟩ := at2 hj
  exact PySem.P.lt_str hQ
theorem cmpOf_strsG {prog : Program} {w : World} {A : Around} {a b : Str} {t u : Tok} : CmpOf prog w A .Gt (fun i v => (#[Value.str a t, Value.str b u] : Array Value)[i]? = some v) (fun i j => slt (strsV a b j) (strsV a b i)) := by
  intro i j vi vj s Q E hi hj hQ
  have at2 : ∀ {i : Nat} {v : Value}, (#[Value.str a t, Value.str b u] : Array Value)[i]? = some v → ∃ k, v = Value.str (strsV a b i) k := fun {i v} h => by
    match i, h with
    | 0, h => cases h; exact ⟨_, rfl⟩
    | 1, h => cases h; exact ⟨_, rfl⟩
    | i + 2, h => simp at h
  obtain ⟨k, rfl⟩ := at2 hi
  obtain ⟨k', rfl⟩ := at2 hj
  exact (show wpAny (model prog w) A (compareOp .Gt (.str (strsV a b i) k) (.str (strsV a b j) k')) Q E s from PySem.P.gt_str hQ)
theorem cr_min2S (hc : X.calm = true) : CallR X (.builtin "min") cMin2S := by
  intro pins s σ H xs us Q I r h
  obtain ⟨a, b, rfl, q⟩ := h
  obtain ⟨u, w', rfl, ⟨t, rfl⟩, ⟨t', rfl⟩⟩ := vals2 r
  have hh := I.ok.hd hc
  have hT : (s.heap.push { cls := .type "tuple", data := .seq #[.str a t, .str b t'] }).IsTuple s.heap.objs.size #[.str a t, .str b t'] := ⟨_, Heap.get?_push_size _ rfl, rfl, 0, rfl⟩
  refine call_min_two (wpAny_pyIter_tuple hT ?_)
  have hsz : (s.heap.push { cls := .type "tuple", data := .seq #[.str a t, .str b t'] }).objs.size = s.heap.objs.size + 1 := Heap.size_push ..
  refine ⟨_, [_, s.heap.objs.size], [_], _, _, _, _, rfl, Walks.tuple (A := X.A.in1) hh _ s.heap.objs.size (by rw [hsz]; exact Nat.ne_of_lt (Nat.lt_succ_self _)) #[.str a t, .str b t'],
    ⟨⟨_, Heap.get?_push_size _ rfl, rfl, rfl⟩, hT.push _⟩, fun d hd => ?_, by simp, cmpOf_strs, fun v h' tk hP hk => ?_⟩
  · show d < ((s.heap.push _).push _).objs.size
    rw [Heap.size_push, hsz]
    rcases List.mem_cons.mp hd with rfl | hd
    · rw [hsz]; exact Nat.lt_succ_self _
    · rcases List.mem_cons.mp hd with rfl | hd
      · exact Nat.lt_succ_of_lt (Nat.lt_succ_self _)
      · cases hd
  · refine ⟨.str (minS a b), H, I.kept fun c o e => hk c o (fun m => ?_) (Heap.get?_push_of_some _ (Heap.get?_push_of_some _ e)), ?_, q⟩
    · have := Heap.lt_size e
      rw [List.mem_singleton.mp m, hsz] at this
      exact absurd this (Nat.not_lt.mpr (Nat.le_succ _))
    · have e : argBest (fun i j => slt (strsV a b i) (strsV a b j)) (#[Value.str a t, Value.str b t'].size - 1) = if slt b a = true then 1 else 0 := rfl
      rw [e] at hP
      unfold minS
      cases c : slt b a
      · rw [c] at hP
        cases hP
        exact ⟨_, rfl⟩
      · rw [c] at hP
        cases hP
        exact ⟨_, rfl⟩
theorem cr_max2S (hc : X.calm = true) : CallR X (.builtin "max") cMax2S := by
  intro pins s σ H xs us Q I r h
  obtain ⟨a, b, rfl, q⟩ := h
  obtain ⟨u, w', rfl, ⟨t, rfl⟩, ⟨t', rfl⟩⟩ := vals2 r
  have hh := I.ok.hd hc
  have hT : (s.heap.push { cls := .type "tuple", data := .seq #[.str a t, .str b t'] }).IsTuple s.heap.objs.size #[.str a t, .str b t'] := ⟨_, Heap.get?_push_size _ rfl, rfl, 0, rfl⟩
  refine call_max_two (wpAny_pyIter_tuple hT ?_)
  have hsz : (s.heap.push { cls := .type "tuple", data := .seq #[.str a t, .str b t'] }).objs.size = s.heap.objs.size + 1 := Heap.size_push ..
  refine ⟨_, [_, s.heap.objs.size], [_], _, _, _, _, rfl, Walks.tuple (A := X.A.in1) hh _ s.heap.objs.size (by rw [hsz]; exact Nat.ne_of_lt (Nat.lt_succ_self _)) #[.str a t, .str b t'],
    ⟨⟨_, Heap.get?_push_size _ rfl, rfl, rfl⟩, hT.push _⟩, fun d hd => ?_, by simp, cmpOf_strsG, fun v h' tk hP hk => ?_⟩
  · show d < ((s.heap.push _).push _).objs.size
    rw [Heap.size_push, hsz]
    rcases List.mem_cons.mp hd with rfl | hd
    · rw [hsz]; exact Nat.lt_succ_self _
    · rcases List.mem_cons.mp hd with rfl | hd
      · exact Nat.lt_succ_of_lt (Nat.lt_succ_self _)
      · cases hd
  · refine ⟨.str (maxS a b), H, I.kept fun c o e => hk c o (fun m => ?_) (Heap.get?_push_of_some _ (Heap.get?_push_of_some _ e)), ?_, q⟩
    · have := Heap.lt_size e
      rw [List.mem_singleton.mp m, hsz] at this
      exact absurd this (Nat.not_lt.mpr (Nat.le_succ _))
    · have e : argBest (fun i j => slt (strsV a b j) (strsV a b i)) (#[Value.str a t, Value.str b t'].size - 1) = if slt a b = true then 1 else 0 := rfl
      rw [e] at hP
      unfold maxS
      cases c : slt a b
      · rw [c] at hP
        cases hP
        exact ⟨_, rfl⟩
      · rw [c] at hP
        cases hP
        exact ⟨_, rfl⟩
theorem r_min2S {a b : Str} (q : Q (.str (minS a b)) H) : cMin2S [.str a, .str b] H Q := ⟨a, b, rfl, q⟩
theorem r_max2S {a b : Str} (q : Q (.str (maxS a b)) H) : cMax2S [.str a, .str b] H Q := ⟨a, b, rfl, q⟩
end
/-! enumerate(text) -/
/-- a text, each sign in a new pair with its place -/
def Ies (x : Str) : It :=
  ⟨fun i _ => i < x.cps.size, fun i H v H' => ∃ T c, v = .ref T ∧ H T = none ∧ H' = upd H T (.tup [.int (i : Nat), .str ⟨#[c]⟩]) ∧ x.cps[i]? = some c, fun i _ => x.cps.size ≤ i⟩
theorem turn_es {P : Program} {w : World} {K : PySem.W.Frag} {elts : List Expr} {kk : Nat} {tpos : Pos} (x : Str) (t : Tok) (e it : Addr) (ty : String) (hty : ty = "str_ascii_iterator" ∨ ty = "str_iterator") :
    Turn P w K (.Tuple elts kk tpos) (Ies x) [e, it] e (fun i h => (∃ old, IsEnum h e it ((i : Nat) : Int) old) ∧ h.IsStrIter it ty x t i ∧ e ≠ it) := by
  have two : ∀ {b : Addr}, b ∈ [e, it] → b = e ∨ b = it := fun {b} hb => by simpa using hb
  have dr : ∀ {A : Around}, A.handled = none → Draws P w A it [it] x.cps.size (fun i v => ∃ c u, x.cps[i]? = some c ∧ v = .str ⟨#[c]⟩ u) (fun i h => h.IsStrIter it ty x t i) := fun {A} hh => by
    rcases hty with z | z
    · rw [z]; exact Draws.strAscii hh it x t
    · rw [z]; exact Draws.strWide hh it x t
  refine ⟨by simp, fun i h st b hb => ?_, fun i h h' st k => ?_, ?_, ?_, fun A i s Q E st q => ?_⟩
  · obtain ⟨⟨old, he⟩, ⟨o, ho, hc, hd⟩, _⟩ := st
    rcases two hb with rfl | rfl
    · exact ⟨_, he, fun v z => nomatch z⟩
    · exact ⟨o, ho, fun v z => by rw [hd] at z; cases z⟩
  · obtain ⟨⟨old, he⟩, hi, hne⟩ := st
    exact ⟨⟨old, k e (by simp) _ he⟩, (let ⟨o, ho, r⟩ := hi; ⟨o, k it (by simp) o ho, r⟩), hne⟩
  · intro X hP hw hK hc i pins s σ H E I hf st hg
    subst hP hw hK
    obtain ⟨⟨old, he⟩, hit, hne⟩ := st
    have big : e < s.heap.objs.size ∧ it < s.heap.objs.size := ⟨Heap.lt_size he, by obtain ⟨_, z, _⟩ := hit; exact Heap.lt_size z⟩
    refine wpAny_pyNext_enum_itemC (dr (A := X.A.in1) (I.ok.hd hc)) he hit hg hne (by simp [hne]) fun y h1 tk hy ho hst hT hsz hk => ?_
    obtain ⟨c, k, hcx, rfl⟩ := hy
    refine ⟨_, rfl, wpAny_letOwnedTupleGo_enum (s := { s with heap := h1, toks := tk + 1 }) ho fun h2 he2 sb => ?_⟩
    have hT2 := (sb.2 _ (Nat.ne_of_gt big.1)).trans hT
    have new : ObjOk X.prog X.w (upd H s.heap.objs.size (.tup [.int (i : Nat), .str ⟨#[c]⟩])) h2 s.heap.objs.size (.tup [.int (i : Nat), .str ⟨#[c]⟩]) := ⟨by show 2 ≤ sizeLine; decide, [.int i tk, .str ⟨#[c]⟩ k], .cons ⟨_, rfl⟩ (.cons ⟨_, rfl⟩ .nil), ⟨_, hT2, rfl, _, rfl⟩⟩
    have I1 : Inv X pins σ (upd H s.heap.objs.size (.tup [.int (i : Nat), .str ⟨#[c]⟩])) { s with heap := h2, toks := tk + 1 } :=
      I.turnedNew (ch := [e, it]) (fun b ob hb z => (sb.2 b (fun w => hb (by simp [w]))).trans (hk b ob (fun w => hb (by simp [w])) (fun w => hb (by simp [w])) z)) hf (Nat.le_refl _) new
    refine ⟨.ref s.heap.objs.size, _, I1, rfl, ⟨_, c, rfl, I.hok.fresh (Nat.le_refl _), rfl, hcx⟩, ⟨⟨.str ⟨#[c]⟩ k, ?_⟩, (let ⟨o, ho, r⟩ := hst; ⟨o, (sb.2 it (Ne.symm hne)).trans ho, r⟩), hne⟩, fun b hb => ?_⟩
    · have e1 : ((i + 1 : Nat) : Int) = (i : Int) + 1 := by omega
      rw [e1]
      exact he2
    · have hb' : b < s.heap.objs.size := (two hb).elim (fun z => z ▸ big.1) fun z => z ▸ big.2
      rw [upd_ne (Nat.ne_of_lt hb')]
      exact (hf b hb).1
  · intro X hP hw hK hc i pins s σ H E I hf st hg
    subst hP hw hK
    obtain ⟨⟨old, he⟩, hit, hne⟩ := st
    have D := dr (A := X.A.in1) (I.ok.hd hc)
    have D' : Draws X.prog X.w X.A.in1 it [it] i (fun _ _ => True) (fun j h => j = i ∧ h.IsStrIter it ty x t i) :=
      ⟨fun _ _ st => let ⟨o, ho, _⟩ := st.2; ⟨o, ho⟩, fun _ _ _ st hk => ⟨st.1, let ⟨o, ho, r⟩ := st.2; ⟨o, hk it (by simp) o ho, r⟩⟩, fun j _ _ _ hj st _ => absurd st.1 (Nat.ne_of_lt hj),
        fun s Q E st hE => by
          have hn : x.cps[i]? = none := Array.getElem?_eq_none hg
          rcases hty with z | z
          · rw [z] at st
            exact wpAny_nextOf_ascii_end (A := X.A.in1) (I.ok.hd hc) st.2 hn hE
          · rw [z] at st
            exact wpAny_nextOf_wide_end (A := X.A.in1) (I.ok.hd hc) st.2 hn hE⟩
    obtain ⟨f0, f1, f2, f3, f4, f5⟩ := hf it (by simp)
    exact wpAny_pyNext_enum_endD D' he ⟨rfl, hit⟩ fun h' eb => ⟨rfl, I.turned (t' := s.toks) (fun b o hb z => eb b o hb z) f0 f1 f3 f4 f5⟩
  · obtain ⟨⟨_, he⟩, _⟩ := st
    exact wpAny_pyIter_enum he q
def cEnumS (R : It → Hp → Prop) : List V → Hp → Prop := fun vs H1 => ∃ x, vs = [.str x] ∧ R (Ies x) H1
def iEnumS (ta : TA) : TI := fun σ H R => ta σ H (cEnumS R)
theorem K_enumS {X : Cx} {K : PySem.W.Frag} (hK : X.K = K) {e : Expr} {ta : TA} {p pos tpos : Pos} {elts : List Expr} {kk : Nat} (hg : Gl X "enumerate") (hm : X.mg "enumerate" = none) (ha : PA X [e] ta) (hs : starEach [e] X.env = [(false, eval e X.env)] := by rfl) :
    PI X (.Tuple elts kk tpos) (.Call (.Name "enumerate" p) [e] [] pos) (iEnumS ta) := by
  subst hK
  constructor
  intro pins s σ H R I h
  refine Call_ (ld_blt I hg hm boot_enumerate (PyProof.Rows.callWith_type1 (thn (ha.run pos pins s σ H _ I h) fun us s1 ⟨vs, H1, I1, r1, q1⟩ => ?_) hs rfl))
  obtain ⟨x, rfl, q⟩ := q1
  obtain ⟨u, rfl, ru⟩ := r1.one
  obtain ⟨t, rfl⟩ := (show ∃ t, u = Value.str x t from ru)
  have fresh : ∀ b ∈ [s1.heap.objs.size + 1, s1.heap.objs.size], FpOk X pins H1 b := fun b m => by
    have le : s1.heap.objs.size ≤ b := by
      rcases List.mem_cons.mp m with z | z
      · omega
      · rw [List.mem_singleton.mp z]
        exact Nat.le_refl _
    exact I1.fpOk le (I1.hok.fresh le)
  have hty : strIterType x = "str_ascii_iterator" ∨ strIterType x = "str_iterator" := by
    unfold strIterType
    split
    · exact .inl rfl
    · exact .inr rfl
  exact call_enumerate_str fun h' he hit _ hk => wpAny_pyIter_enum he ⟨_, _, _, _, H1, rfl, I1.kept (t' := s1.toks) hk, turn_es x t _ _ _ hty, ⟨⟨.none, he⟩, hit, Nat.succ_ne_self _⟩, fresh, q⟩
section
variable {σ : L2.St} {H : Hp} {tr : TA} {R : It → Hp → Prop} {z : Str}
theorem r_enumS (q : tr σ H (cEnumS R)) : iEnumS tr σ H R := q
theorem r_cEnumS (q : R (Ies z) H) : cEnumS R [.str z] H := ⟨z, rfl, q⟩
theorem walk_es : Walk (Ies z) z.cps.size (fun _ => True) (YPair (fun i => some (.int (i : Nat))) (fun i => z.cps[i]?.map fun c => .str ⟨#[c]⟩)) := by
  refine ⟨fun i _ hi _ => hi, fun _ _ => Nat.le_refl _, fun i H v H' _ _ ⟨T, c, h1, h2, h3, h4⟩ => ⟨T, .int (i : Nat), .str ⟨#[c]⟩, h1, h2, h3, rfl, ?_⟩⟩
  show z.cps[i]?.map (fun c => V.str ⟨#[c]⟩) = some (V.str ⟨#[c]⟩)
  rw [h4]
  rfl
end
end Rd

set_option maxHeartbeats 4000000
/-! Fam2: families of classes: their defs as users see them; C(k = v, ..); defs with super() of an own class. -/
namespace Rd
open PySem PySem.Spec L2 NdefX PyProof.Rows
def FamS (l : List Addr) : Addr → Prop := fun C => C ∈ l
theorem FamS.hd {C : Addr} {l : List Addr} : FamS (C :: l) C := List.mem_cons_self
theorem FamS.tl {C D : Addr} {l : List Addr} (h : FamS l C) : FamS (D :: l) C := List.mem_cons_of_mem _ h
theorem fam_nil {p : Addr → Prop} : ∀ C, FamS [] C → p C := fun _ h => nomatch h
theorem fam_cons {p : Addr → Prop} {D : Addr} {l : List Addr} (h : p D) (t : ∀ C, FamS l C → p C) : ∀ C, FamS (D :: l) C → p C := fun C m => by
  rcases List.mem_cons.mp m with e | m
  · exact e ▸ h
  · exact t C m
def UseMF (P : Program) (w : World) (K : PySem.W.Frag) (mg : Str → Option Value) (base : Heap) (n : Nat) (S : Addr → Prop) (m : Str) (sp : Sp) : Prop := ∃ f, FnR P w K mg base CX0 n f sp ∧ ∀ C, S C → Meth K C m f
def UseP (P : Program) (w : World) (K : PySem.W.Frag) (mg : Str → Option Value) (base : Heap) (n : Nat) (S : Addr → Prop) (m : Str) (ps : List Str) (sp : Sp) : Prop := ∃ p g fd, FnOk P w K mg base CX0 n g fd ps sp ∧ Binds K fd ps [] ∧ ∀ C, S C → Cls K C ∧ PropOf K C m p g
/-- a class by its __init__, whose arguments may come by name -/
def UseCK (P : Program) (w : World) (K : PySem.W.Frag) (mg : Str → Option Value) (base : Heap) (n : Nat) (x : Str) (C : Addr) (ps : List Str) (sp : Sp) : Prop := ∃ f fd, FnOk P w K mg base (L2.CX P w) n f fd ps sp ∧ Mk K C f ∧ mg x = some (.ref C) ∧ Binds K fd ps [] ∧
  (∀ (s : Shared) (us ws : List Value), (us ++ ws).length = ps.length → us.length = 1 → BindsTo s fd ⟨us, (ps.drop 1).zip ws⟩ (ps.zip (us ++ ws))) ∧
  ∀ (s : Shared) (us ws : List Value), (us ++ ws).length = ps.length → us.length = 1 → BindsTo s fd ⟨us, (ps.drop 1).reverse.zip ws⟩ (ps.zip (us ++ ws.reverse))
theorem UseCK.x {P : Program} {w : World} {K : PySem.W.Frag} {mg : Str → Option Value} {base : Heap} {n : Nat} {x : Str} {C : Addr} {ps : List Str} {sp : Sp} (U : UseCK P w K mg base n x C ps sp) : UseCX P w K mg base n x C sp := by
  obtain ⟨f, fd, F, M, g, b, _, _⟩ := U
  exact ⟨f, fnrX F b, M, g⟩
theorem passAtL {X : Cx} (σ : L2.St) : PassesAt (L2.CX X.prog X.w) X σ E0 := fun pins H s e s' I c => passL pins σ H s e s' I c
/-! ### C(k = v, ..) -/
def kMakeK (C : Addr) (m : Nat) (sp : Sp) (gV : List V → List V) (E : XK) (Q : VK) : List V → Hp → Prop := fun zs H2 => zs.length = m ∧ ∀ x dx, H2 x = none → H2 dx = none → dx ≠ x → sp (.ref x :: gV zs) (upd (upd H2 dx (.own x)) x (.ins C dx [])) (kMade x Q) E
def tMakeKS (C : Addr) (m : Nat) (sp : Sp) (gV : List V → List V) (E : L2.St → XK) (tk : TA) : TE := fun σ H Q => tk σ H (kMakeK C m sp gV (E σ) Q)
section
variable {X : Cx} {k n : Nat} {C : Addr} {ps ks : List Str} {sp : Sp} {E : L2.St → XK} {x : Str} {p pos : Pos} {kws : List Keyword} {tk : TA}
theorem pe_makeKO {f : Addr} {fd : FuncData} {g : List Value → List Value} {gV : List V → List V} (F : FnOk X.prog X.w X.K X.mg X.base (L2.CX X.prog X.w) k f fd ps sp) (M : Mk X.K C f) (hr : Room (k + 1) X.A) (hg : Gl X x) (hm : X.mg x = some (.ref C))
    (hb : ∀ (s : Shared) (us ws : List Value), us.length = 1 → ws.length = ks.length → BindsTo s fd ⟨us, ks.zip ws⟩ (ps.zip (us ++ g ws))) (hrel : ∀ {zs : List V} {ws : List Value}, Vals zs ws → Vals (gV zs) (g ws)) (hx : ∀ σ, PassesAt (L2.CX X.prog X.w) X σ (E σ)) (hkw : PK X kws tk)
    (hall : (backToKw pos (keywordEach kws X.env)).all (·.1.isSome) = true := by rfl) (hks : (backToKw pos (keywordEach kws X.env)).filterMap (·.1) = ks := by rfl) (hdb : (x == ("__debug__" : Str)) = false := by decide)
    (hpl : ((backTo pos (starEach [] X.env)).any (·.1) || (backToKw pos (keywordEach kws X.env)).any (·.1.isNone)) = false := by rfl) :
    PE X (.Call (.Name x p) [] kws pos) (tMakeKS C ks.length sp gV E tk) := by
  refine ⟨fun pins s σ H Q I h => ?_⟩
  refine wpAny_Call_Name_kw (ld_glob I hg hm ?_ hdb)
  refine PySem.W.callWith_KW0 (h₀ := X.base) I.ok.mod.kin M.kp hall ?_ hpl
  refine thn (hkw.run pos pins s σ H _ I h) fun ws s ⟨zs, H, I, rz, l2, h⟩ => ⟨I.kIn, ?_⟩
  rw [hks]
  have hq := h (s.heap.objs.size + 1) s.heap.objs.size (I.hok.fresh (Nat.le_succ _)) (I.hok.fresh (Nat.le_refl _)) (Nat.ne_of_lt (Nat.lt_succ_self _))
  have I2 := Inv.made (C := C) I
  have r2 : Vals (V.ref (s.heap.objs.size + 1) :: gV zs) (Value.ref (s.heap.objs.size + 1) :: g ws) := .cons rfl (hrel rz)
  refine wpAny_call (make_map (f := f) I.kIn M.makes M.init (beq_iff_eq.mp M.fn) (codeAny_mono (F.run _ X.stack _ _ ⟨[Value.ref (s.heap.objs.size + 1)], ks.zip ws⟩ (Value.ref (s.heap.objs.size + 1) :: g ws) _ _ (E σ) (hr.make C [] (ks.zip ws))
    (I2.env0.make C [] (ks.zip ws)) (hb _ [Value.ref (s.heap.objs.size + 1)] ws rfl (rz.length.symm.trans l2)) r2 hq) fun r s' hq' => ?_))
  cases r with
  | error e => exact hx σ pins _ _ e s' I2 hq'
  | ok fl =>
    cases fl with
    | ret u =>
      obtain ⟨v, H', I3, rv, ev, q3⟩ := I2.after hq'
      subst ev
      exact ⟨rv, ⟨V.ref (s.heap.objs.size + 1), H', I3, rfl, q3⟩⟩
    | next => exact False.elim hq'
    | brk => exact False.elim hq'
    | cont => exact False.elim hq'
/-- all arguments by name, in the def's order -/
theorem pe_makeKS (U : UseCK X.prog X.w X.K X.mg X.base k x C ps sp) (hr : Room (k + 1) X.A) (hg : Gl X x) (hp : ps.length = ks.length + 1) (hps : ps.drop 1 = ks) (hx : ∀ σ, PassesAt (L2.CX X.prog X.w) X σ (E σ)) (hkw : PK X kws tk)
    (hall : (backToKw pos (keywordEach kws X.env)).all (·.1.isSome) = true := by rfl) (hks : (backToKw pos (keywordEach kws X.env)).filterMap (·.1) = ks := by rfl) (hdb : (x == ("__debug__" : Str)) = false := by decide)
    (hpl : ((backTo pos (starEach [] X.env)).any (·.1) || (backToKw pos (keywordEach kws X.env)).any (·.1.isNone)) = false := by rfl) :
    PE X (.Call (.Name x p) [] kws pos) (tMakeKS C ks.length sp id E tk) := by
  obtain ⟨f, fd, F, M, hm, _, hb, _⟩ := U
  refine pe_makeKO (g := id) F M hr hg hm (fun s us ws l1 l2 => ?_) (fun r => r) hx hkw hall hks hdb hpl
  have := hb s us ws (by rw [List.length_append, l1, l2, hp, Nat.add_comm]) l1
  rw [hps] at this
  exact this
/-- all arguments by name, in the other order -/
theorem pe_makeKR (U : UseCK X.prog X.w X.K X.mg X.base k x C ps sp) (hr : Room (k + 1) X.A) (hg : Gl X x) (hp : ps.length = ks.length + 1) (hps : (ps.drop 1).reverse = ks) (hx : ∀ σ, PassesAt (L2.CX X.prog X.w) X σ (E σ)) (hkw : PK X kws tk)
    (hall : (backToKw pos (keywordEach kws X.env)).all (·.1.isSome) = true := by rfl) (hks : (backToKw pos (keywordEach kws X.env)).filterMap (·.1) = ks := by rfl) (hdb : (x == ("__debug__" : Str)) = false := by decide)
    (hpl : ((backTo pos (starEach [] X.env)).any (·.1) || (backToKw pos (keywordEach kws X.env)).any (·.1.isNone)) = false := by rfl) :
    PE X (.Call (.Name x p) [] kws pos) (tMakeKS C ks.length sp List.reverse E tk) := by
  obtain ⟨f, fd, F, M, hm, _, _, hb⟩ := U
  have vrev : ∀ {zs : List V} {ws : List Value}, Vals zs ws → Vals zs.reverse ws.reverse := fun r => by
    induction r with
    | nil => exact .nil
    | cons a _ ih =>
      rw [List.reverse_cons, List.reverse_cons]
      exact ih.append (.cons a .nil)
  refine pe_makeKO (g := List.reverse) F M hr hg hm (fun s us ws l1 l2 => ?_) vrev hx hkw hall hks hdb hpl
  have := hb s us ws (by rw [List.length_append, l1, l2, hp, Nat.add_comm]) l1
  rw [hps] at this
  exact this
end
section
variable {C : Addr} {m : Nat} {sp : Sp} {gV : List V → List V} {E : L2.St → XK} {tk : TA} {σ : L2.St} {H : Hp} {Q : VK} {zs : List V} {Ex : XK}
theorem r_makeKS (q : tk σ H (kMakeK C m sp gV (E σ) Q)) : tMakeKS C m sp gV E tk σ H Q := q
theorem r_kMakeK (h : zs.length = m) (q : ∀ a dx H', H a = none → Kp [] H H' → H' a = some (.ins C dx []) → sp (.ref a :: gV zs) H' (kMade a Q) Ex) : kMakeK C m sp gV Ex Q zs H := ⟨h, fun a dx n n' d =>
  q a dx _ n ((Kp.new n').trans (Kp.new (by rw [upd_ne d.symm]; exact n))) upd_same⟩
end
/-! ### a def of the text in a class over an own class, which calls super().m -/
structure SFunO (P : Program) (K : PySem.W.Frag) (mg : Str → Option Value) (name qual : Str) (st : Stmt) (C f : Addr) (fd : FuncData) (m : Str) (g : Addr) : Prop where
  ex : ∃ (oc kV doc pm ct cl : Value) (od an cld : Option Addr) (cda cc : Addr) (osl csl : Array (Option Value)), fd = PySem.W.ksFn name qual (defArgs st) (defBody st) (defScope st) .none kV doc pm an (.ref cda) ct cc ∧
    K.lookup f = some ⟨oc, od, .func (PySem.W.ksFn name qual (defArgs st) (defBody st) (defScope st) .none kV doc pm an (.ref cda) ct cc), osl⟩ ∧ PySem.W.codeIn K (.ref cda) qual = true ∧ K.lookup cc = some ⟨cl, cld, .cell (some (.ref C)), csl⟩ ∧ SupO P K mg C cda m g
theorem nf_self {K : PySem.W.Frag} {C : Addr} : PySem.W.notFirst K C (.ref C) = true := by
  unfold PySem.W.notFirst
  simp
end Rd

set_option maxHeartbeats 4000000
/-! Tx: more readings as rules: o[i] = v, "".join, isinstance of an own class. -/
namespace Rd
open PySem PySem.Spec L2 StX
section
variable {σ : L2.St} {H : Hp} {Q : VK} {QS : L2.St → Hp → Prop} {to ti te : TE} {t : TSet} {v x : V} {r : V → List V → Hp → VK → Prop} {K : PySem.W.Frag} {z : Str} {p : Addr}
theorem r_gsub (q : to σ H fun o H1 => ti σ H1 fun i H2 => t o i v H2 fun H3 => QS σ H3) : gSub to ti t v σ H QS := q
theorem r_setL {N : Hp → Prop} {xs : List V} {k : Int} {j : Nat} (e : H p = some (.lst xs)) (h : ixN xs.length k = some j) (q : ∀ H', Kp [p] H H' → H' p = some (.lst (xs.set j v)) → N H') : rSetL (.ref p) (.int k) v H N :=
  ⟨p, xs, k, j, rfl, rfl, e, h, q _ (Kp.put (by simp)) upd_same⟩
theorem r_kAndV1 {tb : TE} {b : Bool} (h : b = true) (q : tb σ H Q) : kAndV tb σ Q (.bl b) H := by
  subst h
  exact ⟨true, rfl, q⟩
theorem r_kAndV0 {tb : TE} {b : Bool} (h : b = false) (q : Q (.bl false) H) : kAndV tb σ Q (.bl b) H := by
  subst h
  exact ⟨false, rfl, q⟩
def kM1 (r : V → List V → Hp → VK → Prop) (te : TE) (σ : L2.St) (Q : VK) : VK := fun x H1 => (∃ a, x = .str a) ∧ te σ H1 fun y H2 => r x [y] H2 Q
theorem r_m1 (q : to σ H (kM1 r te σ Q)) : tM1 r to te σ H Q := q
theorem r_kM1 (q : te σ H fun y H2 => r (.str z) [y] H2 Q) : kM1 r te σ Q (.str z) H := ⟨⟨z, rfl⟩, q⟩
def rJoinS (K : PySem.W.Frag) : V → List V → Hp → VK → Prop := fun x xs H Q => ∃ a p, ∃ ys : List Str, x = .str a ∧ xs = [.ref p] ∧ (SqL K H p (ys.map V.str) ∨ SqT K H p (ys.map V.str)) ∧ (ys.map (·.length)).sum + ys.length * a.length ≤ 16777216 ∧ Q (.str (Txt.join a ys)) H
theorem r_joinL {ys : List Str} (h : SqL K H p (ys.map V.str)) (hz : (ys.map (·.length)).sum + ys.length * z.length ≤ 16777216) (q : Q (.str (Txt.join z ys)) H) : rJoinS K (.str z) [.ref p] H Q := ⟨z, p, ys, rfl, rfl, .inl h, hz, q⟩
theorem sum_le {ys : List Str} {m : Nat} (h : ∀ y ∈ ys, y.length ≤ m) : (ys.map (·.length)).sum ≤ ys.length * m := by
  induction ys with
  | nil => exact Nat.zero_le _
  | cons y ys ih =>
    have h1 := h y List.mem_cons_self
    have h2 := ih fun z hz => h z (List.mem_cons_of_mem _ hz)
    rw [List.map_cons, List.sum_cons, List.length_cons, Nat.succ_mul]
    omega
theorem str_length (z : Str) : z.length = z.cps.toList.length := (Array.length_toList).symm
theorem str_append (a b : Str) : (a ++ b).cps = a.cps ++ b.cps := rfl
theorem str_append_length (a b : Str) : (a ++ b).length = a.length + b.length := Array.size_append
end
end Rd

set_option maxHeartbeats 4000000
/-! StatM: C.m(e, ..), m a staticmethod of the class at C. -/
namespace Rd
open PySem PySem.Spec L2 PyProof.Rows
/-- C.m is a staticmethod: its record at p, its def at g -/
structure SMet (K : PySem.W.Frag) (C : Addr) (mc : Value) (m : Str) (p g : Addr) : Prop where
  at_ : PySem.W.findCls K (.ref C) mc m = some (.get (.builtin "staticmethod.__get__") (.ref p) .none (.ref C))
  rc : ∃ rest, PySem.W.recIn K p "staticmethod" = some (.ref g :: rest)
  kp : PySem.W.keepIn K (.ref g) = true
def kSMeth (C : Addr) (sp : Sp) (E : XK) (t : TA) (σ : L2.St) (Q : VK) : VK := fun x H1 => x = .ref C ∧ t σ H1 fun vs H2 => sp vs H2 Q E
def tSMeth (C : Addr) (sp : Sp) (E : L2.St → XK) (ta : TE) (t : TA) : TE := fun σ H Q => ta σ H (kSMeth C sp (E σ) t σ Q)
def UseSM (P : Program) (w : World) (K : PySem.W.Frag) (mg : Str → Option Value) (base : Heap) (n : Nat) (C : Addr) (m : Str) (sp : Sp) : Prop := ∃ mc p g, FnR P w K mg base (L2.CX P w) n g sp ∧ ClX.CRead K C mc ∧ SMet K C mc m p g
section
variable {X : Cx} {k : Nat} {C p g : Addr} {mc : Value} {sp : Sp} {E : L2.St → XK} {o e : Expr} {es : List Expr} {m : Str} {pos apos : Pos} {ta : TE} {t : TA} {pl : Sem Bool}
theorem run_fnAt {CX : CXT} {f : Addr} {pins : List (Addr × Obj)} {σ : L2.St} {H : Hp} {s : Shared} {Q : VK} {E : XK} {us : List Value} {vs : List V} (F : FnR X.prog X.w X.K X.mg X.base CX k f sp) (hr : Room k X.A) (hx : PassesAt CX X σ E) (I : Inv X pins σ H s)
    (r : Vals vs us) (h : sp vs H Q E) : wpAny (model X.prog X.w) X.A (call (.ref f) us) (EP X pins σ Q) X.xe s := by
  refine wpAny_call (codeAny_mono (F X.A X.stack s H us vs Q E hr I.env0 r h) fun z s' hz => ?_)
  match z, hz with
  | .error u, hz => exact hx pins _ _ u s' I hz
  | .ok (.ret u), hz =>
    obtain ⟨v, H', I3, rv, q3⟩ := I.after hz
    exact ⟨v, H', I3, rv, q3⟩
  | .ok .next, hz => exact hz.elim
  | .ok .brk, hz => exact hz.elim
  | .ok .cont, hz => exact hz.elim
theorem pe_smeth (he : PE X o ta) (r : ClX.CRead X.K C mc) (c : SMet X.K C mc m p g) (F : FnR X.prog X.w X.K X.mg X.base (L2.CX X.prog X.w) k g sp) (hr : Room k X.A) (hx : ∀ σ, PassesAt (L2.CX X.prog X.w) X σ (E σ)) (ha : PA X (e :: es) t)
    (hst : starEach (e :: es) X.env = (false, eval e X.env) :: starEach es X.env := by rfl) (hpl : (backTo pos (starEach es X.env)).any (·.1) = false := by rfl)
    (ht : eval (.Call (.Attribute o m apos) (e :: es) [] pos) X.env = (do
      let ov ← eval o X.env
      standAt apos.atName
      let (f, first) ← holding [ov] (getMethod ov m pl)
      callWith pos f first (backTo pos (starEach (e :: es) X.env)) (backToKw pos (keywordEach [] X.env))) := by rfl) :
    PE X (.Call (.Attribute o m apos) (e :: es) [] pos) (tSMeth C sp E ta t) := by
  refine ⟨fun pins s σ H Q I h => ?_⟩
  refine PySem.W.methodCall_KW (pl := pl) (thn (he.run pins s σ H _ I h) fun u s1 ⟨x, H1, I1, rx, ex, q⟩ => ?_) ht
  subst ex
  obtain rfl : u = Value.ref C := rx
  obtain ⟨rest, hp⟩ := c.rc
  refine PySem.W.method_cls I1.kIn r.ga (PySem.W.cls_bind I1.kIn r.rd c.at_ ?_)
  refine wpAny_call (PySem.W.sm_get (s := { s1 with toks := s1.toks + 1 }) I1.kIn hp (PySem.W.handed_on rfl ?_))
  have I2 := I1.tok (s1.toks + 1)
  refine PySem.W.callWith_K (h₀ := X.base) I2.ok.mod.kin c.kp (thn (ha.run pos pins _ σ H1 _ I2 q) fun us s3 ⟨vs, H2, I3, rv, q2⟩ => ⟨I3.kIn, ?_⟩) hst hpl
  exact run_fnAt F hr (hx σ) I3 rv q2
end
section
variable {C : Addr} {sp : Sp} {E : L2.St → XK} {Ex : XK} {ta : TE} {t : TA} {σ : L2.St} {H : Hp} {Q : VK}
theorem r_smeth (q : ta σ H (kSMeth C sp (E σ) t σ Q)) : tSMeth C sp E ta t σ H Q := q
theorem r_kSMeth (q : t σ H fun vs H2 => sp vs H2 Q Ex) : kSMeth C sp Ex t σ Q (.ref C) H := ⟨rfl, q⟩
end
end Rd

set_option maxHeartbeats 4000000
/-! ExcB: own exception classes over ValueError, LookupError, RuntimeError, as values: made by position and by name, their fields, isinstance. -/
namespace Rd
open PySem PySem.Spec L2 NdefX PyProof.Rows
/-! ### the bases -/
structure ExcBase (B newId initId : String) (t : List Value) : Prop where
  facts : ExcBaseFacts B newId initId t
  kx : PySem.W.KxsFacts B initId
  pass : ∀ self, refuseLoop self "__setattr__" t = pure ()
  obj : t.contains (.type "object") = true
  ne : t.isEmpty = false
theorem base_VE : ExcBase "ValueError" "ValueError.__new__" "ValueError.__init__" [.type "ValueError", .type "Exception", .type "BaseException", .type "object"] := ⟨F.excBase_ValueError, PySem.W.kxs_ValueError, fun s => F.store_ValueError.passes s, by decide +kernel, rfl⟩
theorem base_LE : ExcBase "LookupError" "LookupError.__new__" "LookupError.__init__" [.type "LookupError", .type "Exception", .type "BaseException", .type "object"] := ⟨F.excBase_LookupError, PySem.W.kxs_LookupError, fun s => F.store_LookupError.passes s, by decide +kernel, rfl⟩
theorem base_RE : ExcBase "RuntimeError" "RuntimeError.__new__" "RuntimeError.__init__" [.type "RuntimeError", .type "Exception", .type "BaseException", .type "object"] := ⟨F.excBase_RuntimeError, PySem.W.kxs_RuntimeError, fun s => F.store_RuntimeError.passes s, by decide +kernel, rfl⟩
/-- own classes, then the base's mro -/
def refsT (t : List Value) : List Value → Bool
  | .ref _ :: r => refsT t r
  | l => l == t
theorem refsT_cases (t : List Value) : ∀ l : List Value, refsT t l = true → (∃ c r, l = .ref c :: r ∧ refsT t r = true) ∨ l = t
  | [], e => .inr (beq_iff_eq.mp e)
  | .ref c :: r, e => .inl ⟨c, r, rfl, e⟩
  | .none :: _, e => .inr (beq_iff_eq.mp e)
  | .ellipsis :: _, e => .inr (beq_iff_eq.mp e)
  | .notImplemented :: _, e => .inr (beq_iff_eq.mp e)
  | .bool _ :: _, e => .inr (beq_iff_eq.mp e)
  | .int _ _ :: _, e => .inr (beq_iff_eq.mp e)
  | .float _ _ :: _, e => .inr (beq_iff_eq.mp e)
  | .str _ _ :: _, e => .inr (beq_iff_eq.mp e)
  | .bytes _ _ :: _, e => .inr (beq_iff_eq.mp e)
  | .type _ :: _, e => .inr (beq_iff_eq.mp e)
  | .builtin _ :: _, e => .inr (beq_iff_eq.mp e)
section
variable {B newId initId : String} {t : List Value} (Z : ExcBase B newId initId t)
include Z
theorem refsT_pass (self : Value) : ∀ l : List Value, refsT t l = true → refuseLoop self "__setattr__" l = pure () := by
  intro l
  induction l with
  | nil =>
    intro e
    have e' : ([] : List Value) = t := beq_iff_eq.mp e
    have := Z.ne
    rw [← e'] at this
    cases this
  | cons a r ih =>
    intro e
    rcases refsT_cases t (a :: r) e with ⟨c, r', q, h⟩ | q
    · obtain ⟨rfl, rfl⟩ := List.cons.inj q
      rw [refuseLoop_ref]
      exact ih h
    · rw [q]
      exact Z.pass self
theorem refsT_contains (X : String) : ∀ l : List Value, refsT t l = true → l.contains (.type X) = t.contains (.type X) := by
  intro l
  induction l with
  | nil =>
    intro e
    have e' : ([] : List Value) = t := beq_iff_eq.mp e
    rw [e']
  | cons a r ih =>
    intro e
    rcases refsT_cases t (a :: r) e with ⟨c, r', q, h⟩ | q
    · obtain ⟨rfl, rfl⟩ := List.cons.inj q
      rw [List.contains_cons, ih h]
      rfl
    · rw [q]
theorem refsT_ne {l : List Value} (e : refsT t l = true) : l.isEmpty = false := by
  cases l with
  | nil =>
    have e' : ([] : List Value) = t := beq_iff_eq.mp e
    have := Z.ne
    rw [← e'] at this
    cases this
  | cons _ _ => rfl
end
end Rd
namespace PySem
namespace HandSPX
open Builtin Builtin.ObjectAttr Rd
section
variable {prog : Program} {w : World} {A : Around} {E : Value → Shared → Prop} {R : Result → Shared → Prop} {hp : Heap} {g : Array GenState} {d : Drawn} {t : Nat} {os : OsState}
theorem exc_osaT {B newId initId : String} {tl : List Value} (Z : ExcBase B newId initId tl) {K : W.Frag} {name : Str} {tk : Tok} {v : Value} {x C : Addr} {fv : Array Value} {cd : ClassData}
    (X : K.In hp) (hx : hp.get? x = some { cls := .ref C, data := .fields fv }) (hcd : W.clsIn K C = some cd) (hm : refsT tl cd.mro = true) (hh : cd.hasDict = true) (ha : W.findIn K (.ref C) name = some none)
    (hq : ∀ h' tk' dx, (∀ b o, b ≠ x → hp.get? b = some o → h'.get? b = some o) → hp.objs.size ≤ dx → dx ≠ x → h'.get? x = some { cls := .ref C, dict := some dx, data := .fields fv } →
      h'.Ns1 dx (fun y => if y = name then some v else none) → R (.ok (.ret .none)) ⟨h', g, d, tk', os⟩) :
    codeAny (model prog w) A (.call (.builtin "object.__setattr__") ⟨[.ref x, .str name tk, v], []⟩) R ⟨hp, g, d, t, os⟩ := by
  have I : W.InstAt hp x { cls := .ref C, data := .fields fv } C none := ⟨hx, rfl, rfl, trivial⟩
  have SF := F.store_object
  have ne := refsT_ne Z hm
  have hob : cd.mro.contains (.type "object") = true := (refsT_contains Z "object" _ hm).trans Z.obj
  have hxs : x ≠ hp.objs.size := Nat.ne_of_lt (Heap.lt_size hx)
  have sub : W.Looks (model prog w) hp (isInstance (.ref x) (.type "object")) true := I.type.andThen (W.looks_mroIn X (by unfold W.mroIn; rw [hcd, Option.bind_some, if_neg (by rw [ne]; decide), hob]))
  refine codeAny_call_builtin SF.slot.plain SF.entry (@W.check_slot (model prog w) _ _ ⟨hp, g, d, t, os⟩ "object.__setattr__" "object" "__setattr__" (.ref x) [.str name tk, v] [] _ SF.kind SF.split sub (SF.args (.ref x) (.str name tk) v) ?_)
  have hmr : W.Looks (model prog w) hp (mroOf (.ref C)) cd.mro := (W.looks_clsIn X hcd).andThen .now
  have L3 : W.Looks (model prog w) hp (storeTaker? none) none := .now
  have hcls : W.Looks (model prog w) hp (classData C) cd := W.looks_clsIn X hcd
  rw [W.osa_eq, refuse_eq]
  refine wpAny_bind (wpAny_bind (I.type.at (wpAny_bind (hmr.at ?_))))
  rw [refsT_pass Z _ _ hm]
  refine wpAny_pure (wpAny_bind (I.type.at (wpAny_bind ((W.looks_findIn X ha).at (wpAny_bind (L3.at ?_))))))
  show wpAny _ _ (storeInOwnDict (.ref x) (.ref C) (.str name tk) name v false) _ _ _
  obtain ⟨nm, bs, mro, ns, qn, hd, sn, sb, ab, col, del⟩ := cd
  dsimp only at hh
  subst hh
  unfold storeInOwnDict ownDictForStores
  repeat (first | with_reducible refine store_in_new ?_ ?_ | with_reducible refine wpAny_loadPart_at hx ?_ | with_reducible refine hcls.at ?_ | wp_step)
  · exact ⟨_, #[], _, (Heap.get?_update_ne _ _ _ _ hxs.symm).trans (Heap.get?_push_at rfl rfl), rfl, fun e he => absurd he (by simp), fun _ => rfl⟩
  · intro h' tk' hn' hs
    have hx₁ : (hp.push { cls := .type "dict", data := .dict #[] }).get? x = some { cls := .ref C, data := .fields fv } := Heap.get?_push_of_some _ hx
    refine hq h' tk' hp.objs.size (fun b o hb ho => ?_) (Nat.le_refl _) hxs.symm ?_ hn'
    · exact (hs.2 b (Nat.ne_of_lt (Heap.lt_size ho))).trans ((Heap.get?_update_ne _ _ _ _ hb).trans (Heap.get?_push_of_some _ ho))
    · exact (hs.2 x hxs).trans (Heap.get?_update_self _ hx₁ rfl)
end
end HandSPX
namespace OEX
open PySem.W PySem.Calls PyProof.Rows PySem.HandSPX
open Builtin Builtin.ObjectAttr Rd
section
variable {prog : Program} {w : World} {A : Around} {E : Value → Shared → Prop} {R : Result → Shared → Prop} {hp : Heap} {g : Array GenState} {d : Drawn} {t : Nat} {os : OsState}
theorem osa_oldT {B newId initId : String} {tl : List Value} (Z : ExcBase B newId initId tl) {K : W.Frag} {name : Str} {tk : Tok} {v : Value} {x C dx : Addr} {fv : Array Value} {cd : ClassData} {m0 : Str → Option Value} {nl : List Str}
    (X : K.In hp) (hx : hp.get? x = some { cls := .ref C, dict := some dx, data := .fields fv }) (hns : hp.Ns1 dx m0) (hw : Within m0 nl) (hz : nl.length ≤ 1000) (hcd : W.clsIn K C = some cd) (hm : refsT tl cd.mro = true) (hh : cd.hasDict = true)
    (ha : W.findIn K (.ref C) name = some none)
    (hq : ∀ h' tk', (∀ b o, b ≠ dx → hp.get? b = some o → h'.get? b = some o) → h'.Ns1 dx (fun y => if y = name then some v else m0 y) → R (.ok (.ret .none)) ⟨h', g, d, tk', os⟩) :
    codeAny (model prog w) A (.call (.builtin "object.__setattr__") ⟨[.ref x, .str name tk, v], []⟩) R ⟨hp, g, d, t, os⟩ := by
  obtain ⟨oD, esD, epD, hoD, hdD, _⟩ := hns.count hw
  have I : W.InstAt hp x { cls := .ref C, dict := some dx, data := .fields fv } C (some oD) := ⟨hx, rfl, rfl, hoD⟩
  have SF := F.store_object
  have ne := refsT_ne Z hm
  have hob : cd.mro.contains (.type "object") = true := (refsT_contains Z "object" _ hm).trans Z.obj
  have sub : W.Looks (model prog w) hp (isInstance (.ref x) (.type "object")) true := I.type.andThen (W.looks_mroIn X (by unfold W.mroIn; rw [hcd, Option.bind_some, if_neg (by rw [ne]; decide), hob]))
  refine codeAny_call_builtin SF.slot.plain SF.entry (@W.check_slot (model prog w) _ _ ⟨hp, g, d, t, os⟩ "object.__setattr__" "object" "__setattr__" (.ref x) [.str name tk, v] [] _ SF.kind SF.split sub (SF.args (.ref x) (.str name tk) v) ?_)
  have hmr : W.Looks (model prog w) hp (mroOf (.ref C)) cd.mro := (W.looks_clsIn X hcd).andThen .now
  have L3 : W.Looks (model prog w) hp (storeTaker? none) none := .now
  have hcls : W.Looks (model prog w) hp (classData C) cd := W.looks_clsIn X hcd
  rw [W.osa_eq, refuse_eq]
  refine wpAny_bind (wpAny_bind (I.type.at (wpAny_bind (hmr.at ?_))))
  rw [refsT_pass Z _ _ hm]
  refine wpAny_pure (wpAny_bind (I.type.at (wpAny_bind ((W.looks_findIn X ha).at (wpAny_bind (L3.at ?_))))))
  show wpAny _ _ (storeInOwnDict (.ref x) (.ref C) (.str name tk) name v false) _ _ _
  obtain ⟨nm, bs, mro, ns, qn, hd, sn, sb, ab, col, del⟩ := cd
  dsimp only at hh
  subst hh
  unfold storeInOwnDict ownDictForStores
  repeat (first | with_reducible refine store_in_old hns hw hz ?_ | with_reducible refine wpAny_loadPart_at hx ?_ | with_reducible refine hcls.at ?_ | wp_step)
  intro h' tk' hn' hs
  exact hq h' tk' (fun b o hb ho => (hs.2 b hb).trans ho) hn'
end
end OEX
end PySem

set_option maxHeartbeats 4000000
/-! ExcK: an own exception class called with keywords. -/
namespace PySem
namespace HandSPX
open Builtin Builtin.ObjectAttr
section
variable {M : Model} {A : Around} {E : Value → Shared → Prop} {h : Heap} {g : Array GenState} {d : Drawn} {t : Nat} {os : OsState}
variable {nm q : Str} {C N : Addr} {bs bm bmB : List Value} {hdct : Bool} {sn : List Str} {sub : List Value} {ab : Bool} {col : Option Bool} {dd : Option Addr} {k0 k1 k2 k3 k5 : Option Value} {B newId initId : String}
theorem check_new_kw (F : ExcBaseFacts B newId initId bmB) (hT : ∀ X : String, bm.contains (.type X) = bmB.contains (.type X)) {rest : List Value} {kw : List (Str × Value)} {Q : Unit → Shared → Prop}
    (hC : h.get? C = some (excClassObj nm q C N bs bm hdct sn sub ab col dd k0 k1 k2 k3 k5 newId)) (hq : Q () ⟨h, g, d, t, os⟩) : wpAny M A (checkBuiltinCall newId ⟨.ref C :: rest, kw⟩) Q E ⟨h, g, d, t, os⟩ := by
  have hcont : (Value.ref C :: bm).contains (.type B) = true := by rw [List.contains_cons, hT, F.hasB, Bool.or_true]
  have hstar := F.noStar
  simp only [checkBuiltinCall, F.newKind, F.newSplit, F.newRow]
  repeat (first | refine wpAny_loadPart_at hC ?_ | (refine wpAny_isSubtype_exc hC ?_; rw [hcont]) | refine wpAny_staticBase_exc hC ?_ | refine wpAny_madeBy_exc hC ?_ | simp only [bne_self_eq_false, Bool.false_eq_true, if_false] | wp_step)
  exact hq
end
section
variable {prog : Program} {w : World} {A : Around} {E : Value → Shared → Prop} {R : Result → Shared → Prop} {h : Heap} {g : Array GenState} {d : Drawn} {t : Nat} {os : OsState}
variable {nm q : Str} {C N : Addr} {bs bm bmB : List Value} {hdct : Bool} {sn : List Str} {sub : List Value} {ab : Bool} {col : Option Bool} {dd : Option Addr} {k0 k1 k2 k3 k5 : Option Value} {B newId initId : String}
theorem new_kw (F : ExcBaseFacts B newId initId bmB) (hT : ∀ X : String, bm.contains (.type X) = bmB.contains (.type X)) {rest : List Value} {kw : List (Str × Value)}
    (hC : h.get? C = some (excClassObj nm q C N bs bm hdct sn sub ab col dd k0 k1 k2 k3 k5 newId))
    (hq : R (.ok (.ret (.ref (h.objs.size + 1)))) ⟨(h.push { cls := .type "tuple", data := .seq rest.toArray }).push
      { cls := .ref C, data := .fields #[.ref h.objs.size, .none, .none, .none, .bool false, .none] }, g, d, t, os⟩) (hrest : rest.length ≤ sizeLine) :
    codeAny (model prog w) A (.builtin newId ⟨.ref C :: rest, kw⟩) R ⟨h, g, d, t, os⟩ := by
  have hends := F.ends
  have hcB : (Value.ref C :: bm).contains (.type B) = true := by rw [List.contains_cons, hT, F.hasB, Bool.or_true]
  have hcA : (Value.ref C :: bm).contains (.type "AttributeError") = false := by rw [List.contains_cons, hT, F.noAttr]; rfl
  have hcN : (Value.ref C :: bm).contains (.type "NameError") = false := by rw [List.contains_cons, hT, F.noName]; rfl
  refine codeAny_builtinAt F.entry ?_
  unfold Builtin.«BaseException.__new__»
  refine wpAt_bind ?_
  show wpAt _ _ _ (stack >>= _) _ _ _
  refine wpAt_bind (wpAt_stack fun p below => wpAt_of_wpAny ?_)
  wp_walk
  refine wpAt_of_wpAny ?_
  rw [F.owner]
  repeat (first | with_reducible refine wpAny_madeHere_exc F.canon hC ?_ | with_reducible refine wpAny_loadPart_at hC ?_ | (with_reducible refine wpAny_isSubtype_exc hC ?_; first | rw [hcB] | rw [hcA] | rw [hcN]) | wp_step)
  show R _ _
  rw [Heap.size_push]
  exact hq
theorem type_call_kw (F : ExcBaseFacts B newId initId bmB) (hT : ∀ X : String, bm.contains (.type X) = bmB.contains (.type X)) {rest : List Value} {kw : List (Str × Value)} {fI : Addr} {Q : Fin → Shared → Prop}
    (hC : h.get? C = some (excClassObj nm q C N bs bm hdct sn sub ab col dd k0 k1 k2 k3 k5 newId))
    (hi : W.Looks (model prog w) h (typeLookup (.ref C) "__init__") (some (.ref fI))) (hb : ∀ self, W.Looks (model prog w) h (bindSpecial (.ref fI) self) (.ref fI, [self])) (hrest : rest.length ≤ sizeLine)
    (hq : codeAny (model prog w) A (.call (.ref fI) ⟨.ref (h.objs.size + 1) :: rest, kw⟩)
      (fun r s' => match r with | .ok (.ret v) => v = .none ∧ Q (.done (.ret (.ref (h.objs.size + 1)))) s' | .ok _ => False | .error e => E e s')
      ⟨(h.push (W.kdv_tup rest)).push (excO C h.objs.size), g, d, t, os⟩) :
    wpAny (model prog w) A (Builtin.«type.__call__» ⟨.ref C :: rest, kw⟩) Q E ⟨h, g, d, t, os⟩ := by
  repeat (first | with_reducible refine wpAny_loadPart_at hC ?_ | with_reducible refine wpAny_madeBy_exc hC ?_ | wp_step)
  refine codeAny_call_builtin_code (Code.quiet_builtin _ F.quiet) (check_new_kw F hT hC ?_)
  refine new_kw F hT hC ?_ hrest
  show wpAny _ _ _ _ _ _
  have k : ∀ b o, h.get? b = some o → ((h.push (W.kdv_tup rest)).push (excO C h.objs.size)).get? b = some o := fun b o e => Heap.get?_push_of_some _ (Heap.get?_push_of_some _ e)
  have hC₁ := k _ _ hC
  have hget : ((h.push (W.kdv_tup rest)).push (excO C h.objs.size)).get? (h.objs.size + 1) = some (excO C h.objs.size) := by heap_get
  have hcC : (Value.ref C :: bm).contains (.ref C) = true := by simp
  have i1 := hi.keeps k
  have b1 := (hb (.ref (h.objs.size + 1))).keeps k
  unfold isInstance
  repeat (first | with_reducible refine wpAny_loadPart_at hget ?_ | (with_reducible refine wpAny_isSubtype_exc hC₁ ?_; rw [hcC]) | wp_step)
  show wpAny _ _ (typeLookup (.ref C) _) _ _ _
  refine i1.at ?_
  refine wpAny_holding (wpAny_bind (b1.at ?_))
  refine wpAny_bind (wpAny_call (codeAny_mono hq fun r s' z => ?_))
  rcases r with e | (v | _ | _ | _) <;> first | exact z | exact z.elim | skip
  obtain ⟨rfl, z⟩ := z
  first
    | exact wpAny_pure (wpAny_pure z)
    | (wp_walk; exact z)
theorem call_kw (F : ExcBaseFacts B newId initId bmB) (hT : ∀ X : String, bm.contains (.type X) = bmB.contains (.type X)) {rest : List Value} {kw : List (Str × Value)} {fI : Addr}
    (hC : h.get? C = some (excClassObj nm q C N bs bm hdct sn sub ab col dd k0 k1 k2 k3 k5 newId))
    (hi : W.Looks (model prog w) h (typeLookup (.ref C) "__init__") (some (.ref fI))) (hb : ∀ self, W.Looks (model prog w) h (bindSpecial (.ref fI) self) (.ref fI, [self])) (hrest : rest.length ≤ sizeLine)
    (hq : codeAny (model prog w) (A.under (.builtin "type.__call__" ⟨.ref C :: rest, kw⟩)) (.call (.ref fI) ⟨.ref (h.objs.size + 1) :: rest, kw⟩) (W.InitBack (h.objs.size + 1) R)
      ⟨(h.push (W.kdv_tup rest)).push (excO C h.objs.size), g, d, t, os⟩) :
    codeAny (model prog w) A (.call (.ref C) ⟨rest, kw⟩) R ⟨h, g, d, t, os⟩ := by
  have f1 := tc_lookup
  have f2 := tc_bind (.ref C)
  have f3 := tc_sub
  have hTy : (⟨h, g, d, t, os⟩ : Shared).TypeIs (.ref C) "type" := ⟨_, hC, rfl⟩
  have typ : W.Looks (model prog w) h (isInstance (.ref C) (.type "type")) true := by
    unfold isInstance
    exact ((W.Looks.ld hC).andThen .now).andThen (W.Looks.of_pure f3)
  refine codeAny_of_tree ?_
  show wpAny _ _ (callAny (.ref C) _) _ _ _
  repeat (any_goals (first | assumption | with_reducible refine wpAny_loadPart_at hC ?_ | wp_step))
  refine ⟨rfl, ?_⟩
  refine codeAny_call_builtin_at (Code.quiet_builtin _ (by decide +kernel)) entry_typeCall (W.check_slot tc_kind tc_split typ (W.tc_args _ _ _) (type_call_kw F hT hC hi hb hrest ?_))
  refine codeAny_mono hq fun r s' z => ?_
  rcases r with e | (v | _ | _ | _) <;> exact z
end
end HandSPX
end PySem

set_option maxHeartbeats 4000000
/-! ExcV: exceptions of own classes (over ValueError, LookupError, RuntimeError) as values. -/
namespace Rd
open PySem PySem.Spec L2 NdefX PyProof.Rows
structure OexB (K : PySem.W.Frag) (C : Addr) (newId : String) (t : List Value) : Prop where
  cls : ∃ nm q N bs bm sn sub ab col dd k0 k1 k2 k3 k5, K.lookup C = some (excClassObj nm q C N bs bm true sn sub ab col dd k0 k1 k2 k3 k5 newId) ∧ refsT t bm = true
  sa : PySem.W.findIn K (.ref C) "__setattr__" = some (some (.builtin "object.__setattr__"))
  exC : PySem.W.subIn K (.ref C) (.type "BaseException") = some true
  tyC : PySem.W.typeIn K (.ref C) = some (.type "type")
  kC : PySem.W.keepIn K (.ref C) = true
section
variable {X : Cx} {pins : List (Addr × Obj)} {σ : L2.St} {H : Hp} {s : Shared} {a C dx : Addr} {f : Str} {y : V} {u : Value} {fs : List (Str × V)} {Q : Unit → Shared → Prop} {E : Value → Shared → Prop} {A : Around} {B newId initId : String} {tl : List Value}
theorem ost_newB (Z : ExcBase B newId initId tl) (T : OexB X.K C newId tl) (I : Inv X pins σ H s) (e : H a = some (exo a C none)) (hno : PySem.W.findIn X.K (.ref C) f = some none) (ry : RelV y u)
    (h : ∀ dx s', H dx = none → dx ≠ a → Inv X pins σ (upd (upd H dx (exd dx [(f, y)])) a (exo a C (some dx))) s' → Q () s') : wpAny (model X.prog X.w) A (setAttr (.ref a) f u) Q E s := by
  obtain ⟨nm, q, N, bs, bm, sn, sub, ab, col, dd, k0, k1, k2, k3, k5, hC, hbm⟩ := T.cls
  have hcl : PySem.W.clsIn X.K C = some { name := nm, bases := bs, mro := .ref C :: bm, ns := N, qualname := q, hasDict := true, slotNames := sn, subclasses := sub, abstract := ab, collection := col, hasDel := false } := by unfold PySem.W.clsIn; rw [hC] <;> rfl
  obtain ⟨t1, ho⟩ := exo_at I.hok e
  obtain ⟨hp, g, d, t, os⟩ := s
  refine PySem.W.set_plain I.kIn (ox := { cls := .ref C, dict := none, data := .fields #[.ref t1, .none, .none, .none, .bool false, .none] }) (od := none) ⟨ho, rfl, rfl, trivial⟩ T.sa ?_
  refine PySem.HandSPX.exc_osaT Z I.kIn ho hcl (show refsT tl (.ref C :: bm) = true from hbm) rfl hno (fun h' tk' dx k dn dne hx hn => ?_)
  have hnd : H dx = none := I.hok.fresh dn
  have nd : ∀ {b : Addr} {o : Obj}, hp.get? b = some o → b ≠ dx := fun {b o} q => Nat.ne_of_lt (Nat.lt_of_lt_of_le (Heap.lt_size q) dn)
  have na : ∀ {b : Addr}, H b = none → b ≠ a := fun {b} n z => by
    rw [z, e] at n
    cases n
  have Un1 : Un X.fs [] H (upd (upd H dx (exd dx [(f, y)])) a (exo a C (some dx))) hp h' := {
    keep := fun b o q n _ _ => k b o (na n) q
    slot := fun b o q n _ _ => ⟨o.slots, k b o (na n) q⟩
    free := fun b o q n _ => by rw [upd_ne (na n), upd_ne (nd q)]; exact n
    there := fun b o q _ => by
      by_cases hb : b = a
      · exact ⟨_, by rw [hb]; exact hx⟩
      · exact ⟨o, k b o hb q⟩
    tups := fun b xs q => by rw [upd_ne (at_ne e q exo_tup), upd_ne (ne_of_none q hnd)]; exact q
    frzs := fun b o v q => by rw [upd_ne (at_ne e q exo_frz), upd_ne (ne_of_none q hnd)]; exact q
    tbls := fun b ps q => ⟨#[], by rw [upd_ne (at_ne e q exo_tbl), upd_ne (ne_of_none q hnd), q]; simp⟩ }
  refine h dx _ hnd dne (I.un (t' := tk') Un1 fun b o q => ?_)
  by_cases hb : b = a
  · subst hb
    rw [upd_same] at q
    cases q
    exact exo_ok hx
  · rw [upd_ne hb] at q
    by_cases hd : b = dx
    · subst hd
      rw [upd_same] at q
      cases q
      exact exd_ok hn (relO_put (fs := []) ry fun g => True.intro)
    · rw [upd_ne hd] at q
      exact (I.hok b o q).stay (fun c v hc z => k c v (by
          rcases hc with hc | hc
          · rw [hc]
            exact hb
          · exact at_ne e hc exo_own) z)
        (fun c hc => by rw [upd_ne (at_ne e hc exo_own), upd_ne (ne_of_none hc hnd)]; exact hc) (fun c xs hc => by rw [upd_ne (at_ne e hc exo_tup), upd_ne (ne_of_none hc hnd)]; exact hc)
theorem ost_oldB (Z : ExcBase B newId initId tl) (T : OexB X.K C newId tl) (I : Inv X pins σ H s) (e : H a = some (exo a C (some dx))) (ed : H dx = some (exd dx fs)) (hl : fs.length ≤ 900) (hno : PySem.W.findIn X.K (.ref C) f = some none) (ry : RelV y u)
    (h : ∀ s', Inv X pins σ (upd H dx (exd dx ((f, y) :: fs))) s' → Q () s') : wpAny (model X.prog X.w) A (setAttr (.ref a) f u) Q E s := by
  obtain ⟨nm, q, N, bs, bm, sn, sub, ab, col, dd, k0, k1, k2, k3, k5, hC, hbm⟩ := T.cls
  have hcl : PySem.W.clsIn X.K C = some { name := nm, bases := bs, mro := .ref C :: bm, ns := N, qualname := q, hasDict := true, slotNames := sn, subclasses := sub, abstract := ab, collection := col, hasDel := false } := by unfold PySem.W.clsIn; rw [hC] <;> rfl
  obtain ⟨t1, ho⟩ := exo_at I.hok e
  obtain ⟨mA, hns, rel⟩ := exd_at I.hok ed
  have hw := within_of rel
  obtain ⟨hp, g, d, t, os⟩ := s
  obtain ⟨oD, _, _, hoD, _, _⟩ := hns.count hw
  refine PySem.W.set_plain I.kIn (ox := { cls := .ref C, dict := some dx, data := .fields #[.ref t1, .none, .none, .none, .bool false, .none] }) (od := some oD) ⟨ho, rfl, rfl, hoD⟩ T.sa ?_
  refine PySem.OEX.osa_oldT Z I.kIn ho hns hw (by rw [List.length_map]; omega) hcl (show refsT tl (.ref C :: bm) = true from hbm) rfl hno (fun h' tk' k hn => ?_)
  have hd : ∃ o, h'.get? dx = some o := by
    obtain ⟨o, _, _, e', _⟩ := hn
    exact ⟨o, e'⟩
  exact h _ (I.write (t' := tk') (x := dx) (e := dx) (o := exd dx ((f, y) :: fs)) (by rw [ed]; exact True.intro) (.inl rfl) k hd (exd_ok hn (relO_put ry rel)))
end
/-- self.f = e -/
def tOstB (newId : String) (tl : List Value) (K : PySem.W.Frag) (f : Str) (to te : TE) : TS := fun D σ H => te σ H fun y H1 => to σ H1 fun x H2 => ∃ a C : Addr, x = .ref a ∧ OexB K C newId tl ∧ PySem.W.findIn K (.ref C) f = some none ∧
  ((H2 a = some (exo a C none) ∧ ∀ dx, H2 dx = none → dx ≠ a → D.nx σ (upd (upd H2 dx (exd dx [(f, y)])) a (exo a C (some dx)))) ∨
    ∃ (dx : Addr) (fs : List (Str × V)), H2 a = some (exo a C (some dx)) ∧ H2 dx = some (exd dx fs) ∧ fs.length ≤ 900 ∧ D.nx σ (upd H2 dx (exd dx ((f, y) :: fs))))
section
variable {X : Cx} {o e : Expr} {to te : TE} {f : Str} {p' pos : Pos} {B newId initId : String} {tl : List Value}
theorem ps_ostB (Z : ExcBase B newId initId tl) (ho : PE X o to) (he : PE X e te) (hs : swapsWith e (some (.Attribute o f p')) pos.line X.env = pure false := by rfl) : PS X (.Assign [.Attribute o f p'] e pos) (tOstB newId tl X.K f to te) := by
  refine ⟨fun pins s σ H D I h => ?_⟩
  refine plainObj_wpAny_Assign_Attribute (thn (he.run pins s σ H _ I h) fun v s1 ⟨y, H1, I1, r1, q1⟩ => thn (ho.run pins s1 σ H1 _ I1 q1) fun u s2 ⟨x, H2, I2, r2, a, C, ex, T, hno, q⟩ => ?_) hs
  subst ex
  obtain rfl : u = Value.ref a := r2
  rcases q with ⟨ea, q⟩ | ⟨dx, fs, ea, ed, hl, q⟩
  · exact ost_newB Z T I2 ea hno r1 fun dx s' n ne J => ⟨σ, _, J, q dx n ne⟩
  · exact ost_oldB Z T I2 ea ed hl hno r1 fun s' J => ⟨σ, _, J, q⟩
end
theorem r_ostB {newId : String} {tl : List Value} {K : PySem.W.Frag} {fld : Str} {i j : Nat} {nx bk ct : L2.St → Hp → Prop} {rt : VK} {σ : L2.St} {H : Hp} {a C : Addr} {v : V} (e : σ[i]? = some (some (.ref a))) (e' : σ[j]? = some (some v)) (T : OexB K C newId tl) (n : PySem.W.findIn K (.ref C) fld = some none) (ha : H a = some (exo a C none))
    (q : ∀ dx H', H dx = none → dx ≠ a → Kp [a] H H' → H' a = some (exo a C (some dx)) → H' dx = some (exd dx [(fld, v)]) → nx σ H') : tOstB newId tl K fld (tVar i) (tVar j) ⟨nx, rt, bk, ct⟩ σ H :=
  ⟨v, e', .ref a, e, a, C, rfl, T, n, .inl ⟨ha, fun dx nd ne => q dx _ nd ne (fun b o eb hb => by
    have hba : b ≠ a := fun z => hb (List.mem_singleton.mpr z)
    have hbd : b ≠ dx := fun z => by
      rw [z, nd] at eb
      cases eb
    rw [upd_ne hba, upd_ne hbd]
    exact eb) upd_same (by rw [upd_ne ne, upd_same])⟩⟩
theorem r_ostB2 {newId : String} {tl : List Value} {K : PySem.W.Frag} {fld : Str} {i j : Nat} {nx bk ct : L2.St → Hp → Prop} {rt : VK} {σ : L2.St} {H : Hp} {a C dx : Addr} {v : V} {fs : List (Str × V)} (e : σ[i]? = some (some (.ref a))) (e' : σ[j]? = some (some v)) (T : OexB K C newId tl) (n : PySem.W.findIn K (.ref C) fld = some none) (ha : H a = some (exo a C (some dx)))
    (hd : H dx = some (exd dx fs)) (hl : fs.length ≤ 900) (q : ∀ H', Kp [dx] H H' → H' dx = some (exd dx ((fld, v) :: fs)) → nx σ H') : tOstB newId tl K fld (tVar i) (tVar j) ⟨nx, rt, bk, ct⟩ σ H :=
  ⟨v, e', .ref a, e, a, C, rfl, T, n, .inr ⟨dx, fs, ha, hd, hl, q _ (Kp.put (by simp)) upd_same⟩⟩
/-! ### super().__init__(text) -/
structure SupCB (P : Program) (K : PySem.W.Frag) (mg : Str → Option Value) (C cda : Addr) (B newId initId : String) (tl : List Value) : Prop where
  oex : OexB K C newId tl
  up : PySem.W.ks_superIn K C C "__init__" = some (some (.builtin initId))
  sub : PySem.W.subIn K (.ref C) (.type B) = some true
  own : PySem.W.mroIn K C (.ref C) = some true
  opq : PySem.W.nsIn K cStatics "thirdparty.any" = some none
  zs : mg "super" = none
  file : ∃ ccl cdd vs ccs fl tf, K.lookup cda = some ⟨ccl, cdd, .fields vs, ccs⟩ ∧ vs[2]? = some (.str fl tf) ∧ (P.main.file == fl) = true
  top : (P.main.scope.names.lookup ("super" : Str)).isSome = false
theorem qs_supB {CX : CXT} {P : Program} {w : World} {K : PySem.W.Frag} {mg : Str → Option Value} {base : Heap} {f cc cda C : Addr} {name qual : Str} {params : Arguments} {body body' : List Stmt} {scope : Scope} {dV kV doc pm ct oc cl : Value} {an od cld : Option Addr}
    {osl csl : Array (Option Value)} {N : List Str} {A : Around} {outer : List Env} {s0 : Shared} {H0 : Hp} {E : XK} {ar : Arg} {p0 p1 p2 p3 p4 p5 : Pos} {m : Str} {j : Nat} {pl : Sem Bool} {rest : List Stmt} {t : TS} {B newId initId : String} {tl : List Value} (Zb : ExcBase B newId initId tl)
    (lk : K.lookup f = some ⟨oc, od, .func (PySem.W.ksFn name qual params body scope dV kV doc pm an (.ref cda) ct cc), osl⟩) (cell : K.lookup cc = some ⟨cl, cld, .cell (some (.ref C)), csl⟩) (Z : SupCB P K mg C cda B newId initId tl)
    (hks : scope.names.lookup ("super" : Str) = some .globalImplicit) (hkc : scope.names.lookup ("__class__" : Str) = some .free) (hp : (params.posonlyargs ++ params.args).head? = some ar) (hN : N[0]? = some ar.arg)
    (hka : scope.names.lookup ar.arg = some .local) (hk : scope.kind = .function)
    (hi : interactive (envF ⟨name, qual, params, body, scope, [("__class__", cc)], cda⟩ f s0.heap.objs.size) = false)
    (hs : swapsWith (.Call (.Attribute (.Call (.Name "super" p0) [] [] p1) "__init__" p2) [.Constant (.str m) j p3] [] p4) none p5.line (envF ⟨name, qual, params, body, scope, [("__class__", cc)], cda⟩ f s0.heap.objs.size) = pure false)
    (he : eval (.Call (.Attribute (.Call (.Name "super" p0) [] [] p1) "__init__" p2) [.Constant (.str m) j p3] [] p4) (envF ⟨name, qual, params, body, scope, [("__class__", cc)], cda⟩ f s0.heap.objs.size) = (do
      let ov ← attributeBase (.Call (.Name "super" p0) [] [] p1) "__init__" (envF ⟨name, qual, params, body, scope, [("__class__", cc)], cda⟩ f s0.heap.objs.size) (eval (.Call (.Name "super" p0) [] [] p1) (envF ⟨name, qual, params, body, scope, [("__class__", cc)], cda⟩ f s0.heap.objs.size))
      standAt p2.atName
      let (fx, first) ← holding [ov] (getMethod ov "__init__" pl)
      callWith p4 fx first (backTo p4 (starEach [.Constant (.str m) j p3] (envF ⟨name, qual, params, body, scope, [("__class__", cc)], cda⟩ f s0.heap.objs.size))) []))
    (hst : starEach [.Constant (.str m) j p3] (envF ⟨name, qual, params, body, scope, [("__class__", cc)], cda⟩ f s0.heap.objs.size) = [(false, eval (.Constant (.str m) j p3) (envF ⟨name, qual, params, body, scope, [("__class__", cc)], cda⟩ f s0.heap.objs.size))])
    (hr : QS (ncx CX P w K mg base N ⟨name, qual, params, body, scope, [("__class__", cc)], cda⟩ f A outer s0 H0 E) (.func body' (envF ⟨name, qual, params, body, scope, [("__class__", cc)], cda⟩ f s0.heap.objs.size)) rest t) :
    QS (ncx CX P w K mg base N ⟨name, qual, params, body, scope, [("__class__", cc)], cda⟩ f A outer s0 H0 E) (.func body' (envF ⟨name, qual, params, body, scope, [("__class__", cc)], cda⟩ f s0.heap.objs.size))
      (.Expr (.Call (.Attribute (.Call (.Name "super" p0) [] [] p1) "__init__" p2) [.Constant (.str m) j p3] [] p4) p5 :: rest) (tSupI C t) := by
  constructor
  intro pins s σ H D I ⟨a, hσ, ha, q⟩
  have KX := I.kIn
  obtain ⟨t1, ho⟩ := exo_at I.hok ha
  obtain ⟨ccl, cdd, vs, ccs, fl, tf, hcode, hvs, hfile⟩ := Z.file
  obtain ⟨nm, qq, N', bs, bm, sn, sub, ab, col, dd, k0, k1, k2, k3, k5, hC, hbm⟩ := Z.oex.cls
  refine ks_wpAt_execs_cons (ks_wpAt_Expr_any (ks_wpAt_MethodCall (pl := pl) ?_ he) hi hs)
  obtain ⟨hh, g, d, tk, os⟩ := s
  have hD1 := KX _ _ hC
  refine ks_wpAt_super_base hks hkc (by decide) rfl (KX _ _ lk) rfl hp rfl (KX _ _ hcode) rfl hvs hfile Z.top ?_
  obtain ⟨mb, hbn, hbv⟩ := I.ok.mod.blt
  have hbo : bootBuiltins "super" = some (.type "super") := by first | rfl | decide +kernel
  refine W.ks_loadName_global hk hks (Calls.loadGlobal_builtin (I.mod.glob.keeps I.bk) Z.zs (hbn.keeps I.bk) ((hbv ("super" : Str) (by decide +kernel)).trans hbo) ⟨rfl, ?_⟩)
  refine wpAny_loadName_free hk hkc rfl ⟨_, KX _ _ cell, rfl⟩ ?_
  obtain ⟨ml, hns, hl⟩ := I.loc
  obtain ⟨u, ru, lku⟩ := hl 0 ar.arg (.ref a) hN hσ (.inl hka)
  have hm : ml ar.arg = some u := by
    rcases lku with ⟨_, z⟩ | ⟨z, _⟩
    · exact z
    · rcases z with z | z
      · exact absurd (hka.symm.trans z) (by decide)
      · exact absurd (hka.symm.trans z) (by decide)
  obtain rfl : u = Value.ref a := ru
  refine wpAny_loadName_local hk hka hns hm ?_
  refine ks_wpAny_isType_cls hD1 rfl ⟨rfl, ?_⟩
  refine ks_wpAny_call_super hD1 rfl ho rfl (fun c z => nomatch z) (W.looks_mroIn KX Z.own) fun h' e1 kp => ?_
  have I1 : Inv _ pins σ H ⟨h', g, d, tk, os⟩ := I.kept (t' := tk) kp
  have KX1 := I1.kIn
  have ho1 := kp _ _ ho
  have J : W.InstAt h' a (HandSPX.excO C t1) C none := ⟨ho1, rfl, rfl, trivial⟩
  have up := Z.up
  cases hc : W.clsIn K C with
  | none =>
    unfold W.ks_superIn at up
    rw [hc] at up
    cases up
  | some cd =>
    unfold W.ks_superIn at up
    rw [hc] at up
    refine W.kxs_getMethod Zb.kx e1 (W.looks_opaque KX1 Z.opq) (l₀ := cd.mro) (fun A Q E s k z => wpAny_bind ((W.looks_clsIn KX1 hc) A _ E s k (wpAny_pure z))) rfl KX1 up (J.type.andThen (W.looks_subIn KX1 Z.sub)) (W.ks_ne KX1 J hc) (by decide) ?_
    have k2 : ∀ b o, h'.get? b = some o → (h'.push (W.kxs_mw initId a)).get? b = some o := fun b o e => Heap.get?_push_of_some _ e
    have I2 : Inv _ pins σ H ⟨h'.push (W.kxs_mw initId a), g, d, tk + 1, os⟩ := I1.kept (t' := tk + 1) k2
    have hu : (h'.push (W.kxs_mw initId a)).get? h'.objs.size = some (W.kxs_mw initId a) := Heap.get?_push_size _ rfl
    have hst' : starEach [.Constant (.str m) j p3] (ncx CX P w K mg base N ⟨name, qual, params, body, scope, [("__class__", cc)], cda⟩ f A outer s0 H0 E).env = [(false, eval (.Constant (.str m) j p3) (ncx CX P w K mg base N ⟨name, qual, params, body, scope, [("__class__", cc)], cda⟩ f A outer s0 H0 E).env)] := hst
    rw [hst']
    refine W.kxs_callWith (i := initId) (x := a) rfl (Calls.evalArgs_plain (Calls.spliced_cons (Calls.Constant_str (pos := p3) (k := j) (Calls.spliced_nil ⟨hu, ?_⟩))))
    refine mw_call Zb.facts (I2.kIn _ _ hC) (k2 _ _ ho1) hu (by show 1 ≤ sizeLine; decide) fun h3 t2 k3 e3 => ?_
    have J3 := (I2.tok (tk + 1 + 1)).write (t' := tk + 1 + 1) (x := a) (e := a) (o := exo a C none) (by rw [ha]; exact True.intro) (.inl rfl) k3 ⟨_, e3⟩ (exo_ok e3)
    have eu : upd H a (exo a C none) = H := by
      funext b
      by_cases hb : b = a
      · rw [hb, upd_same, ha]
      · rw [upd_ne hb]
    rw [eu] at J3
    exact hr.run pins _ σ H D J3 q
/-! ### C(e, ..), C(k = v, ..) as values -/
structure UseV (P : Program) (w : World) (K : PySem.W.Frag) (mg : Str → Option Value) (base : Heap) (k : Nat) (x : Str) (C : Addr) (ps : List Str) (sp : Sp) : Prop where
  ex : ∃ B newId initId tl fI fd, ExcBase B newId initId tl ∧ OexB K C newId tl ∧ PySem.W.findIn K (.ref C) "__init__" = some (some (.ref fI)) ∧ PySem.W.typeIn K (.ref fI) = some (.type "function") ∧ FnOk P w K mg base CX0 k fI fd ps sp ∧
    (∀ (s : Shared) (us : List Value), us.length = ps.length → BindsTo s fd ⟨us, []⟩ (ps.zip us)) ∧
    (∀ (s : Shared) (us ws : List Value), (us ++ ws).length = ps.length → us.length = 1 → BindsTo s fd ⟨us, (ps.drop 1).zip ws⟩ (ps.zip (us ++ ws))) ∧
    ∀ (s : Shared) (us ws : List Value), (us ++ ws).length = ps.length → us.length = 1 → BindsTo s fd ⟨us, (ps.drop 1).reverse.zip ws⟩ (ps.zip (us ++ ws.reverse))
  gC : mg x = some (.ref C)
  ec : ExcC K C
def kMkW (C : Addr) (sp : Sp) (Q : VK) : List V → Hp → Prop := fun vs H1 => vs.length ≤ 1000 ∧ ∀ a, H1 a = none → sp (.ref a :: vs) (upd H1 a (exo a C none)) (kMade a Q) E0
def kMkV (n : Nat) (gV : List V → List V) (C : Addr) (sp : Sp) (Q : VK) : List V → Hp → Prop := fun us H1 => us.length = n ∧ kMkW C sp Q (gV us) H1
theorem r_kMkV {n : Nat} {gV : List V → List V} {C : Addr} {sp : Sp} {Q : VK} {us : List V} {H : Hp} (hn : us.length = n) (h : (gV us).length ≤ 1000) (q : ∀ a H', H a = none → Kp [] H H' → H' a = some (exo a C none) → sp (.ref a :: gV us) H' (kMade a Q) E0) : kMkV n gV C sp Q us H :=
  ⟨hn, h, fun a n => q a _ n (Kp.new n) upd_same⟩
def tMkV (n : Nat) (C : Addr) (sp : Sp) (gV : List V → List V) (t : TA) : TE := fun σ H Q => t σ H (kMkV n gV C sp Q)
theorem r_mkV {n : Nat} {C : Addr} {sp : Sp} {gV : List V → List V} {t : TA} {σ : L2.St} {H : Hp} {Q : VK} (q : t σ H (kMkV n gV C sp Q)) : tMkV n C sp gV t σ H Q := q
section
variable {X : Cx} {k : Nat} {C : Addr} {ps ks : List Str} {sp : Sp} {x : Str} {e : Expr} {es : List Expr} {t tk : TA} {p pos : Pos} {kws : List Keyword}
theorem run_mkV {B newId initId : String} {tl : List Value} {fI : Addr} {fd : FuncData} {pins : List (Addr × Obj)} {σ : L2.St} {H1 : Hp} {s1 : Shared} {Q : VK} {us : List Value} {kw : List (Str × Value)} {gs : List Value} {vs : List V} (Z : ExcBase B newId initId tl) (T : OexB X.K C newId tl)
    (iC : PySem.W.findIn X.K (.ref C) "__init__" = some (some (.ref fI))) (tI : PySem.W.typeIn X.K (.ref fI) = some (.type "function")) (F1 : FnOk X.prog X.w X.K X.mg X.base CX0 k fI fd ps sp) (hr : Room (k + 1) X.A)
    (hb : ∀ (s : Shared) (v : Value), BindsTo s fd ⟨v :: us, kw⟩ (ps.zip (v :: gs))) (hus : us.length ≤ sizeLine) (I1 : Inv X pins σ H1 s1) (r1 : Vals vs gs) (q1 : kMkW C sp Q vs H1) :
    wpAny (model X.prog X.w) X.A (call (.ref C) us kw) (EP X pins σ Q) X.xe s1 := by
  obtain ⟨nm, q, N, bs, bm, sn, sub, ab, col, dd, k0, k1, k2, k3, k5, hC, hbm⟩ := T.cls
  obtain ⟨hp, g, dr, tk, os⟩ := s1
  have hsz : hp.objs.size ≤ hp.objs.size + 1 := Nat.le_succ _
  have hn : H1 (hp.objs.size + 1) = none := I1.hok.fresh hsz
  have hq := q1.2 (hp.objs.size + 1) hn
  have kk : ∀ b o, hp.get? b = some o → ((hp.push (PySem.W.kdv_tup us)).push (PySem.HandSPX.excO C hp.objs.size)).get? b = some o := fun b o e => Heap.get?_push_of_some _ (Heap.get?_push_of_some _ e)
  have hget : ((hp.push (PySem.W.kdv_tup us)).push (PySem.HandSPX.excO C hp.objs.size)).get? (hp.objs.size + 1) = some (PySem.HandSPX.excO C hp.objs.size) := by heap_get
  have I2 : Inv X pins σ (upd H1 (hp.objs.size + 1) (exo (hp.objs.size + 1) C none)) ⟨(hp.push (PySem.W.kdv_tup us)).push (PySem.HandSPX.excO C hp.objs.size), g, dr, tk, os⟩ :=
    I1.laid (t' := tk) (a := hp.objs.size + 1) (o := exo (hp.objs.size + 1) C none) (h' := (hp.push (PySem.W.kdv_tup us)).push (PySem.HandSPX.excO C hp.objs.size)) kk hsz (exo_ok hget)
  have r2 : Vals (V.ref (hp.objs.size + 1) :: vs) (Value.ref (hp.objs.size + 1) :: gs) := .cons rfl r1
  refine wpAny_call (PySem.HandSPX.call_kw Z.facts (fun Y => refsT_contains Z Y bm hbm) (I1.kIn _ _ hC) (PySem.W.looks_findIn I1.kIn iC) (fun self => PySem.W.bind_fn I1.kIn self tI) hus
    (codeAny_mono (F1.run _ X.stack _ _ ⟨Value.ref (hp.objs.size + 1) :: us, kw⟩ (Value.ref (hp.objs.size + 1) :: gs) _ _ E0 (hr.make C us kw) (I2.env0.make C us kw) (hb _ _) r2 hq) fun r s' hq' => ?_))
  cases r with
  | error er => exact pass0 (X := X) pins σ _ _ er s' I2 hq'
  | ok fl =>
    cases fl with
    | ret u =>
      obtain ⟨v, H', I3, rv, ev, q3⟩ := I2.after hq'
      subst ev
      exact ⟨rv, ⟨V.ref (hp.objs.size + 1), H', I3, rfl, q3⟩⟩
    | next => exact False.elim hq'
    | brk => exact False.elim hq'
    | cont => exact False.elim hq'
theorem pe_mkV (U : UseV X.prog X.w X.K X.mg X.base k x C ps sp) (hr : Room (k + 1) X.A) (hg : Gl X x) (hl : (e :: es).length + 1 = ps.length) (ha : PA X (e :: es) t) (hdb : (x == ("__debug__" : Str)) = false := by decide)
    (he : starEach (e :: es) X.env = (false, eval e X.env) :: starEach es X.env := by rfl) (hpl : (backTo pos (starEach es X.env)).any (·.1) = false := by rfl) : PE X (.Call (.Name x p) (e :: es) [] pos) (tMkV (e :: es).length C sp id t) := by
  obtain ⟨B, newId, initId, tl, fI, fd, Z, T, iC, tI, F1, hb, _, _⟩ := U.ex
  constructor
  intro pins s σ H Q I h
  refine wpAny_Call_Name_kw (ld_glob I hg U.gC ?_ hdb)
  refine PySem.W.callWith_K (h₀ := X.base) I.ok.mod.kin T.kC (thn (ha.run pos pins s σ H _ I h) fun us s1 ⟨vs, H1, I1, r1, hlen, q1⟩ => ⟨I1.kIn, ?_⟩) he hpl
  have hul : us.length = (e :: es).length := r1.length.symm.trans hlen
  exact run_mkV Z T iC tI F1 hr (fun s v => hb s (v :: us) (by rw [List.length_cons, hul, hl])) (by
    show us.length ≤ sizeLine
    have h9 : vs.length ≤ 1000 := q1.1
    rw [hul, sizeLine_eq]
    omega) I1 r1 q1
theorem pe_mkV0 (U : UseV X.prog X.w X.K X.mg X.base k x C ps sp) (hr : Room (k + 1) X.A) (hg : Gl X x) (hl : ps.length = 1) (hdb : (x == ("__debug__" : Str)) = false := by decide) : PE X (.Call (.Name x p) [] [] pos) (tMkV 0 C sp id tNil) := by
  obtain ⟨B, newId, initId, tl, fI, fd, Z, T, iC, tI, F1, hb, _, _⟩ := U.ex
  constructor
  intro pins s σ H Q I h
  refine wpAny_Call_Name_kw (ld_glob I hg U.gC ?_ hdb)
  refine PySem.W.callWith_K0 (first := []) I.kIn T.kC ?_
  exact run_mkV Z T iC tI F1 hr (fun s v => hb s [v] (by rw [hl]; rfl)) (by rw [sizeLine_eq]; decide) I .nil h.2
theorem pe_mkVK {g : List Value → List Value} {gV : List V → List V} {B newId initId : String} {tl : List Value} {fI : Addr} {fd : FuncData} (Z : ExcBase B newId initId tl) (T : OexB X.K C newId tl) (iC : PySem.W.findIn X.K (.ref C) "__init__" = some (some (.ref fI))) (tI : PySem.W.typeIn X.K (.ref fI) = some (.type "function"))
    (F1 : FnOk X.prog X.w X.K X.mg X.base CX0 k fI fd ps sp) (hm : X.mg x = some (.ref C)) (hr : Room (k + 1) X.A) (hg : Gl X x)
    (hb : ∀ (s : Shared) (v : Value) (ws : List Value), ws.length = ks.length → BindsTo s fd ⟨[v], ks.zip ws⟩ (ps.zip (v :: g ws))) (hrel : ∀ {zs : List V} {ws : List Value}, Vals zs ws → Vals (gV zs) (g ws)) (hkw : PK X kws tk)
    (hall : (backToKw pos (keywordEach kws X.env)).all (·.1.isSome) = true := by rfl) (hks : (backToKw pos (keywordEach kws X.env)).filterMap (·.1) = ks := by rfl) (hdb : (x == ("__debug__" : Str)) = false := by decide)
    (hpl : ((backTo pos (starEach [] X.env)).any (·.1) || (backToKw pos (keywordEach kws X.env)).any (·.1.isNone)) = false := by rfl) :
    PE X (.Call (.Name x p) [] kws pos) (tMkV ks.length C sp gV tk) := by
  refine ⟨fun pins s σ H Q I h => ?_⟩
  refine wpAny_Call_Name_kw (ld_glob I hg hm ?_ hdb)
  refine PySem.W.callWith_KW0 (h₀ := X.base) I.ok.mod.kin T.kC hall ?_ hpl
  refine thn (hkw.run pos pins s σ H _ I h) fun ws s ⟨zs, H, I, rz, l2, h⟩ => ⟨I.kIn, ?_⟩
  rw [hks]
  exact run_mkV (us := []) Z T iC tI F1 hr (fun s v => hb s v ws (rz.length.symm.trans l2)) (Nat.zero_le _) I (hrel rz) h
end
section
variable {X : Cx} {k : Nat} {C : Addr} {ps : List Str} {sp : Sp} {x : Str} {tk : TA} {p pos : Pos} {kws : List Keyword}
theorem pe_mkVS (ks : List Str) (U : UseV X.prog X.w X.K X.mg X.base k x C ps sp) (hr : Room (k + 1) X.A) (hg : Gl X x) (hp : ps.length = ks.length + 1) (hps : ps.drop 1 = ks) (hkw : PK X kws tk)
    (hall : (backToKw pos (keywordEach kws X.env)).all (·.1.isSome) = true := by rfl) (hks : (backToKw pos (keywordEach kws X.env)).filterMap (·.1) = ks := by rfl) (hdb : (x == ("__debug__" : Str)) = false := by decide)
    (hpl : ((backTo pos (starEach [] X.env)).any (·.1) || (backToKw pos (keywordEach kws X.env)).any (·.1.isNone)) = false := by rfl) :
    PE X (.Call (.Name x p) [] kws pos) (tMkV ks.length C sp id tk) := by
  obtain ⟨B, newId, initId, tl, fI, fd, Z, T, iC, tI, F1, _, hb, _⟩ := U.ex
  refine pe_mkVK (ks := ks) (g := id) Z T iC tI F1 U.gC hr hg (fun s v ws l2 => ?_) (fun r => r) hkw hall hks hdb hpl
  have := hb s [v] ws (by rw [List.length_append, l2, hp, Nat.add_comm]; rfl) rfl
  rw [hps] at this
  exact this
theorem pe_mkVR (ks : List Str) (U : UseV X.prog X.w X.K X.mg X.base k x C ps sp) (hr : Room (k + 1) X.A) (hg : Gl X x) (hp : ps.length = ks.length + 1) (hps : (ps.drop 1).reverse = ks) (hkw : PK X kws tk)
    (hall : (backToKw pos (keywordEach kws X.env)).all (·.1.isSome) = true := by rfl) (hks : (backToKw pos (keywordEach kws X.env)).filterMap (·.1) = ks := by rfl) (hdb : (x == ("__debug__" : Str)) = false := by decide)
    (hpl : ((backTo pos (starEach [] X.env)).any (·.1) || (backToKw pos (keywordEach kws X.env)).any (·.1.isNone)) = false := by rfl) :
    PE X (.Call (.Name x p) [] kws pos) (tMkV ks.length C sp List.reverse tk) := by
  obtain ⟨B, newId, initId, tl, fI, fd, Z, T, iC, tI, F1, _, _, hb⟩ := U.ex
  have vrev : ∀ {zs : List V} {ws : List Value}, Vals zs ws → Vals zs.reverse ws.reverse := fun r => by
    induction r with
    | nil => exact .nil
    | cons a _ ih =>
      rw [List.reverse_cons, List.reverse_cons]
      exact ih.append (.cons a .nil)
  refine pe_mkVK (ks := ks) (g := List.reverse) Z T iC tI F1 U.gC hr hg (fun s v ws l2 => ?_) vrev hkw hall hks hdb hpl
  have := hb s [v] ws (by rw [List.length_append, l2, hp, Nat.add_comm]; rfl) rfl
  rw [hps] at this
  exact this
end
/-! ### fields, isinstance -/
/-- an exception as a value: its fields -/
def ExAt (C : Addr) (H : Hp) (a : Addr) (fs : List (Str × V)) : Prop := (H a = some (exo a C none) ∧ fs = []) ∨ ∃ dx, H a = some (exo a C (some dx)) ∧ H dx = some (exd dx fs)
theorem ExAt.kp {C : Addr} {H H' : Hp} {a : Addr} {fs : List (Str × V)} (h : ExAt C H a fs) (k : Kp [] H H') : ExAt C H' a fs := by
  rcases h with ⟨h, e⟩ | ⟨dx, h, e⟩
  · exact .inl ⟨k _ _ h not_nil, e⟩
  · exact .inr ⟨dx, k _ _ h not_nil, k _ _ e not_nil⟩
def kOfl (K : PySem.W.Frag) (f : Str) (Q : VK) : VK := fun x H1 => ∃ a C fs v, x = .ref a ∧ ExAt C H1 a fs ∧ XfC K C ∧ PySem.W.findIn K (.ref C) f = some none ∧ fs.lookup f = some v ∧ Q v H1
def tOfl (K : PySem.W.Frag) (f : Str) (te : TE) : TE := fun σ H Q => te σ H (kOfl K f Q)
def rIsiO (K : PySem.W.Frag) : R1 := fun xs H Q => ∃ (a C : Addr) (fs : List (Str × V)) (c : V) (cv : Value) (b : Bool), xs = [.ref a, c] ∧ ExAt C H a fs ∧ ExcC K C ∧ ClsV c cv ∧ PySem.W.kitOne K (.ref C) cv = some b ∧ Q (.bl b) H
section
variable {X : Cx} {K : PySem.W.Frag} {e : Expr} {te : TE} {n : Str} {pos : Pos}
theorem exat_inst {pins : List (Addr × Obj)} {σ : L2.St} {H : Hp} {s : Shared} {C a : Addr} {fs : List (Str × V)} (I : Inv X pins σ H s) (h : ExAt C H a fs) : ∃ oe od, PySem.W.InstAt s.heap a oe C od := by
  rcases h with ⟨h, _⟩ | ⟨dx, h, e⟩
  · obtain ⟨t1, ho⟩ := exo_at I.hok h
    exact ⟨_, none, ho, rfl, rfl, trivial⟩
  · obtain ⟨t1, ho⟩ := exo_at I.hok h
    obtain ⟨mA, hns, _⟩ := exd_at I.hok e
    obtain ⟨od, hod, _⟩ := lookIn_ns hns
    exact ⟨_, some od, ho, rfl, rfl, hod⟩
theorem K_ofl (hK : X.K = K) (he : PE X e te) (hb : attributeBase e n X.env (eval e X.env) = eval e X.env := by rfl) : PE X (.Attribute e n pos) (tOfl K n te) := by
  subst hK
  refine ⟨fun pins s σ H Q I h => ?_⟩
  refine attr_of hb (thn (he.run pins s σ H _ I h) fun u s1 ⟨x, H1, I1, rx, a, C, fs, v, ex, hA, T, hno, l, q⟩ => ?_)
  subst ex
  obtain rfl : u = Value.ref a := rx
  rcases hA with ⟨_, e⟩ | ⟨dx, ha, ed⟩
  · rw [e] at l
    cases l
  · obtain ⟨t1, ho⟩ := exo_at I1.hok ha
    obtain ⟨mA, hns, hr⟩ := exd_at I1.hok ed
    obtain ⟨od, hod, hl⟩ := lookIn_ns hns
    obtain ⟨u, hu, ru⟩ := RelO.some_of (v := v) (o := mA n) (by rw [← l]; exact hr n)
    have J : PySem.W.InstAt s1.heap a _ C (some od) := ⟨ho, rfl, rfl, hod⟩
    exact HandSPX.exc_get I1.kIn J T.ga T.gg T.exC (PySem.W.findObj_own T.hdC hno rfl (by rw [hl, hu])) (handed_of ru) ⟨v, H1, I1.tok _, ru, q⟩
theorem K_isiO (hK : X.K = K) : CallR X (.builtin "isinstance") (rIsiO K) := by
  subst hK
  rintro pins s σ H xs us Q I r ⟨a, C, fs, c, cv, b, rfl, hA, T, k, e, q⟩
  obtain ⟨u1, u2, rfl, r1, r2⟩ := vals2 r
  cases (show u1 = Value.ref a from r1)
  have e2 := k.eq r2
  subst e2
  obtain ⟨oe, od, J⟩ := exat_inst I hA
  obtain ⟨cd, hc, _⟩ := PySem.W.any_some T.hd
  exact PySem.W.kia_one (PySem.W.kitx_exc (by rw [hc]; rfl) T.hg T.hk T.hs T.ha T.hn T.ht T.hm) I.kIn J e (fun z => nomatch z) fun tk => ⟨.bl b, H, I.kept (t' := tk) fun _ _ z => z, rfl, q⟩
end
section
variable {K : PySem.W.Frag} {H : Hp} {Q : VK} {C a : Addr} {fs : List (Str × V)} {f : Str} {v c : V} {cv : Value} {b : Bool} {te : TE} {σ : L2.St}
theorem r_ofl (q : te σ H (kOfl K f Q)) : tOfl K f te σ H Q := q
theorem r_kOfl (h : ExAt C H a fs) (T : XfC K C) (n : PySem.W.findIn K (.ref C) f = some none) (l : fs.lookup f = some v) (q : Q v H) : kOfl K f Q (.ref a) H := ⟨a, C, fs, v, rfl, h, T, n, l, q⟩
theorem r_isiO (h : ExAt C H a fs) (T : ExcC K C) (k : ClsV c cv) (e : PySem.W.kitOne K (.ref C) cv = some b) (q : Q (.bl b) H) : rIsiO K [.ref a, c] H Q := ⟨a, C, fs, c, cv, b, rfl, h, T, k, e, q⟩
end
/-! ### __init__ of such a class: its fields are what was passed -/
structure SFunB (P : Program) (K : PySem.W.Frag) (mg : Str → Option Value) (qual : Str) (st : Stmt) (C f : Addr) (fd : FuncData) (B newId initId : String) (tl : List Value) : Prop where
  ex : ∃ (oc kV doc pm ct cl : Value) (od an cld : Option Addr) (cda cc : Addr) (osl csl : Array (Option Value)), fd = PySem.W.ksFn "__init__" qual (defArgs st) (defBody st) (defScope st) .none kV doc pm an (.ref cda) ct cc ∧
    K.lookup f = some ⟨oc, od, .func (PySem.W.ksFn "__init__" qual (defArgs st) (defBody st) (defScope st) .none kV doc pm an (.ref cda) ct cc), osl⟩ ∧ PySem.W.codeIn K (.ref cda) qual = true ∧ K.lookup cc = some ⟨cl, cld, .cell (some (.ref C)), csl⟩ ∧ SupCB P K mg C cda B newId initId tl
/-- just made: its dict is new to H -/
def ExNew (C : Addr) (H H' : Hp) (a : Addr) (fs : List (Str × V)) : Prop := (H' a = some (exo a C none) ∧ fs = []) ∨ ∃ dx, H dx = none ∧ H' a = some (exo a C (some dx)) ∧ H' dx = some (exd dx fs)
theorem ExNew.at {C : Addr} {H H' : Hp} {a : Addr} {fs : List (Str × V)} (h : ExNew C H H' a fs) : ExAt C H' a fs := h.elim .inl fun ⟨dx, _, e⟩ => .inr ⟨dx, e⟩
def sp_ev (fs : List Str) (C : Addr) : Sp := fun vs H Q _ => ∃ (a : Addr) (us : List V), vs = .ref a :: us ∧ us.length = fs.length ∧ H a = some (exo a C none) ∧ ∀ H', Kp [a] H H' → ExNew C H H' a (fs.zip us).reverse → Q .non H'
theorem r_kMkE {n : Nat} {gV : List V → List V} {C : Addr} {fs : List Str} {Q : VK} {us : List V} {H : Hp} (hn : us.length = n) (h : (gV us).length = fs.length) (h9 : fs.length ≤ 1000) (q : ∀ a H', H a = none → Kp [] H H' → ExAt C H' a (fs.zip (gV us)).reverse → Q (.ref a) H') : kMkV n gV C (sp_ev fs C) Q us H :=
  r_kMkV hn (by rw [h]; exact h9) fun a H1 na k e => ⟨a, gV us, rfl, h, e, fun H2 k2 x => r_kMade (q a H2 na (k.nil.trans k2 |>.drop na) x.at)⟩
end Rd

set_option maxHeartbeats 4000000
/-! ExcW: families of exception classes: what their lookups tell (isinstance among them). -/
namespace Rd
open PySem PySem.Spec L2 NdefX PyProof.Rows
structure ExL (K : PySem.W.Frag) (nm : Str) (C : Addr) (bm : List Value) (newId : String) : Prop where
  ex : ∃ q N bs sn sub ab col dd k0 k1 k2 k3 k5, K.lookup C = some (excClassObj nm q C N bs bm true sn sub ab col dd k0 k1 k2 k3 k5 newId)
section
variable {K : PySem.W.Frag} {nm nm' : Str} {C D : Addr} {bm bm' : List Value} {n n' : String}
theorem ExL.cls (h : ExL K nm C bm n) : ∃ bs N q sn sub ab col, PySem.W.clsIn K C = some { name := nm, bases := bs, mro := .ref C :: bm, ns := N, qualname := q, hasDict := true, slotNames := sn, subclasses := sub, abstract := ab, collection := col, hasDel := false } := by
  obtain ⟨q, N, bs, sn, sub, ab, col, dd, k0, k1, k2, k3, k5, e⟩ := h.ex
  refine ⟨bs, N, q, sn, sub, ab, col, ?_⟩
  unfold PySem.W.clsIn
  rw [e] <;> rfl
theorem ExL.mro (h : ExL K nm C bm n) (v : Value) : PySem.W.mroIn K C v = some ((Value.ref C :: bm).contains v) := by
  obtain ⟨bs, N, q, sn, sub, ab, col, e⟩ := h.cls
  unfold PySem.W.mroIn
  rw [e]
  rfl
theorem ExL.sub (h : ExL K nm C bm n) (v : Value) : PySem.W.subIn K (.ref C) v = some ((Value.ref C :: bm).contains v) := h.mro v
theorem ExL.ty (h : ExL K nm C bm n) : PySem.W.typeIn K (.ref C) = some (.type "type") := by
  obtain ⟨q, N, bs, sn, sub, ab, col, dd, k0, k1, k2, k3, k5, e⟩ := h.ex
  show (K.lookup C).map (·.cls) = _
  rw [e]
  rfl
theorem ExL.hd (h : ExL K nm C bm n) : PySem.W.hasDictIn K C = true := by
  obtain ⟨bs, N, q, sn, sub, ab, col, e⟩ := h.cls
  unfold PySem.W.hasDictIn
  rw [e]
  rfl
theorem ExL.ne (h : ExL K nm C bm n) (h' : ExL K nm' D bm' n') (m : nm ≠ nm') : C ≠ D := by
  rintro rfl
  obtain ⟨q, N, bs, sn, sub, ab, col, dd, k0, k1, k2, k3, k5, e⟩ := h.ex
  obtain ⟨q', N', bs', sn', sub', ab', col', dd', j0, j1, j2, j3, j5, e'⟩ := h'.ex
  rw [e] at e'
  injection e' with e'
  injection e' with _ _ e' _
  injection e' with e'
  injection e' with e' _
  exact m e'
theorem ref_beq {a b : Addr} : (Value.ref a == Value.ref b) = decide (a = b) := by
  by_cases c : a = b
  · subst c
    rw [decide_eq_true rfl]
    exact beq_self_eq_true _
  · rw [decide_eq_false c]
    exact beq_eq_false_iff_ne.mpr fun e => c (Value.ref.inj e)
theorem ExL.kit (h : ExL K nm C bm n) (h' : ExL K nm' D bm' n') : PySem.W.kitOne K (.ref C) (.ref D) = some ((Value.ref C :: bm).contains (.ref D)) := by
  unfold PySem.W.kitOne
  by_cases c : C = D
  · subst c
    rw [if_pos (beq_self_eq_true _), List.contains_cons, beq_self_eq_true]
    rfl
  · rw [if_neg (by rw [ref_beq, decide_eq_false c]; decide)]
    obtain ⟨bs, N, q, sn, sub, ab, col, e⟩ := h'.cls
    show (if ((PySem.W.clsIn K D).isSome && PySem.W.typeIn K (.ref D) == some (.type "type")) = true then PySem.W.subIn K (.ref C) (.ref D) else none) = _
    rw [e, h'.ty, h.sub, if_pos]
    exact beq_self_eq_true _
theorem ExL.kitT (h : ExL K nm C bm n) {T : String} (m : PySem.W.kitMeta T = true) : PySem.W.kitOne K (.ref C) (.type T) = some ((Value.ref C :: bm).contains (.type T)) := by
  unfold PySem.W.kitOne
  rw [if_neg (by
    have e : (Value.ref C == Value.type T) = false := beq_eq_false_iff_ne.mpr fun e => nomatch e
    rw [e]
    decide)]
  show (if PySem.W.kitMeta T = true then PySem.W.subIn K (.ref C) (.type T) else none) = _
  rw [if_pos m, h.sub]
end
end Rd

set_option maxHeartbeats 4000000
/-! Cm2: raise X(e) of any base; methods of a family of classes, each with its own def; instances called; a, b = super().m(..); X(e, *y). -/
namespace Rd
open PySem PySem.Spec L2 StX NdefX PyProof.Rows
/-! ### readings for Cm -/
section
variable {σ : L2.St} {H : Hp} {Q : VK} {a p d : Addr} {K : PySem.W.Frag} {kvs : List (Key × V)} {nds : List (Str × Int)} {ex : List Addr} {x v : V} {xs : List V}
theorem r_kItems (e : H a = some (.dK kvs)) (q : ∀ p H', H p = none → Kp [] H H' → H' p = some (DX.itemsO p a) → Q (.ref p) H') : kBM0 K "dict" rItemsK Q (.ref a) H :=
  ⟨.inr (.inr (.inl ⟨rfl, .inl ⟨_, e⟩⟩)), a, kvs, rfl, rfl, e, fun p n => q p _ n (Kp.new n) upd_same⟩
theorem paired_dt {H : Hp} {l : Addr} (el : ∀ t o, H t = some (HO.tup o) → t ≠ l) : ∀ {ts : List Addr} {nds : List (Str × Int)}, Paired (fun t q => H t = some (.tup [.str q.1, .int q.2])) ts nds → DtAll [l] H (ts.map V.ref) (nds.map ndD)
  | _, _, .nil => .nil
  | _, _, .cons h t => .cons (.tup (fun m => el _ _ h (List.mem_singleton.mp m)) h (.cons (.str _) (.cons (.int _) .nil))) (paired_dt el t)
theorem r_sortN (ep : H p = some (DX.itemsO p a)) (ea : H a = some (.dK (ndK nds))) (q : ∀ l H' xs, H l = none → Kp [] H H' → H' l = some (.lst xs) → DtAll [l] H' xs ((srtN nds).map ndD) → Q (.ref l) H') : rSortN [.ref p] H Q :=
  ⟨p, a, nds, rfl, ep, ea, fun H' l ts k nl el _ pr => q l H' _ nl (fun b o e _ => k b o e) el (paired_dt (fun t o et z => by
    rw [z, el] at et
    cases et) pr)⟩
/-! dict(pairs) -/
def cDictP (K : PySem.W.Frag) : R1 := fun xs H Q => ∃ (a : Addr) (ps : List Addr) (kvs : List (Key × V)), xs = [.ref a] ∧ SqL K H a (ps.map V.ref) ∧ Paired (fun p kv => SqT K H p [kV kv.1, kv.2]) ps kvs ∧
    ∀ p, H p = none → Q (.ref p) (upd H p (.dK (mergeK [] kvs)))
theorem K_dictP {X : Cx} (hK : X.K = K) (hc : X.calm = true) : CallR X (.type "dict") (cDictP K) := by
  subst hK
  exact call_dictP hc
theorem dt_refs {K : PySem.W.Frag} : ∀ {xs : List V} {nds : List (Str × Int)}, DtAll ex H xs (nds.map ndD) → ∃ ps : List Addr, xs = ps.map V.ref ∧ Paired (fun p kv => SqT K H p [kV kv.1, kv.2]) ps (ndK nds)
  | [], [], _ => ⟨[], rfl, .nil⟩
  | [], _ :: _, h => by cases h
  | _ :: _, [], h => by cases h
  | x :: xs, q :: nds, h => by
    cases h with
    | cons h1 h2 =>
      obtain ⟨ps, rfl, pr⟩ := dt_refs (K := K) h2
      obtain ⟨t, rfl, _, et⟩ := h1.pair
      exact ⟨t :: ps, rfl, .cons (SqT.of et) pr⟩
theorem putK_new {kvs : List (Key × V)} {k : Key} {v : V} (h : k ∉ kvs.map (·.1)) : putK kvs k v = kvs ++ [(k, v)] := by
  unfold putK
  rw [if_neg]
  intro z
  obtain ⟨q, hq, e⟩ := List.any_eq_true.mp z
  exact h (List.mem_map.mpr ⟨q, hq, of_decide_eq_true e⟩)
theorem mergeK_nodup : ∀ (kvs acc : List (Key × V)), ((acc ++ kvs).map (·.1)).Nodup → mergeK acc kvs = acc ++ kvs
  | [], acc, _ => by simp [mergeK]
  | q :: kvs, acc, h => by
    have hq : q.1 ∉ acc.map (·.1) := fun m => by
      rw [List.map_append, List.nodup_append] at h
      exact h.2.2 _ m q.1 (List.mem_map.mpr ⟨q, List.mem_cons_self, rfl⟩) rfl
    have e : mergeK acc (q :: kvs) = mergeK (putK acc q.1 q.2) kvs := rfl
    rw [e, putK_new hq, mergeK_nodup kvs _ (by simpa using h)]
    simp
theorem ndK_keys {nds : List (Str × Int)} (h : (nds.map Prod.fst).Nodup) : ((ndK nds).map (·.1)).Nodup := by
  have e : (ndK nds).map (·.1) = (nds.map Prod.fst).map (Sum.inr : Str → Key) := by
    unfold ndK
    rw [List.map_map, List.map_map]
    rfl
  rw [e]
  exact List.Pairwise.map _ (fun a b n z => n (Sum.inr.inj z)) h
theorem merge_nds {nds : List (Str × Int)} (h : (nds.map Prod.fst).Nodup) : mergeK [] (ndK nds) = ndK nds := by
  rw [mergeK_nodup _ _ (by simpa using ndK_keys h)]
  rfl
theorem r_dictP (hq : SqL K H a xs) (hd : DtAll ex H xs (nds.map ndD)) (hn : (nds.map Prod.fst).Nodup) (q : ∀ p H', H p = none → Kp [] H H' → H' p = some (.dK (ndK nds)) → Q (.ref p) H') : cDictP K [.ref a] H Q := by
  obtain ⟨ps, rfl, pr⟩ := dt_refs (K := K) hd
  refine ⟨a, ps, ndK nds, rfl, hq, pr, fun p n => ?_⟩
  rw [merge_nds hn]
  exact q p _ n (Kp.new n) upd_same
/-! d[k] = v as a target -/
theorem r_setD {z : Str} {R : Hp → Prop} (e : H a = some (.dK kvs)) (h : kvs.length < sizeLine) (q : ∀ H', Kp [a] H H' → H' a = some (.dK (putK kvs (Sum.inr z) v)) → R H') : rSetD (.ref a) (.str z) v H R :=
  ⟨a, _, rfl, .inl ⟨kvs, Sum.inr z, e, rfl, h, rfl⟩, q _ (Kp.put (by simp)) upd_same⟩
end
/-! ### raise X(e), X an own class over any of the bases -/
def kMkR (fs : List Str) (C : Addr) (Q : XK) : List V → Hp → Prop := fun vs H1 => vs.length = fs.length ∧ fs ≠ [] ∧ fs.length ≤ 1000 ∧ ∀ d H', H1 d = none → Kp [] H1 H' → H' d = some (.xd (fs.zip vs).reverse) → Q (.ref C) (some d) H'
def tMkR (fs : List Str) (C : Addr) (t : TA) : L2.St → Hp → XK → Prop := fun σ H Q => t σ H (kMkR fs C Q)
def tRaiseV (fs : List Str) (C : Addr) (W : WX) (ta : TA) : TS := fun _ σ H => ta σ H (kMkR fs C fun cls d H' => W cls d σ H')
section
variable {X : Cx} {k : Nat} {C : Addr} {ps fs : List Str} {x : Str} {e : Expr} {es : List Expr} {t : TA} {p pos pos2 : Pos} {W : WX}
theorem pmk_V (U : UseV X.prog X.w X.K X.mg X.base k x C ps (sp_ev fs C)) (hr : Room (k + 1) X.A) (hg : Gl X x) (ha : PA X (e :: es) t) (hdb : (x == ("__debug__" : Str)) = false := by decide)
    (he : starEach (e :: es) X.env = (false, eval e X.env) :: starEach es X.env := by rfl) (hpl : (backTo pos (starEach es X.env)).any (·.1) = false := by rfl) : PMk X (.Call (.Name x p) (e :: es) [] pos) (tMkR fs C t) := by
  obtain ⟨B, newId, initId, tl, fI, fd, Z, T, iC, tI, F1, hb, _, _⟩ := U.ex
  intro pins s σ H Q I h
  obtain ⟨nm, q, N, bs, bm, sn, sub, ab, col, dd, k0, k1, k2, k3, k5, hC, hbm⟩ := T.cls
  refine wpAny_Call_Name_kw (ld_glob I hg U.gC ?_ hdb)
  refine PySem.W.callWith_K (h₀ := X.base) I.ok.mod.kin T.kC (thn (ha.run pos pins s σ H _ I h) fun us s1 ⟨vs, H1, I1, r1, hvl, hfs, h9, q1⟩ => ⟨I1.kIn, ?_⟩) he hpl
  show wpAny _ _ (call (.ref C) us) _ _ _
  obtain ⟨hp, g, dr, tk, os⟩ := s1
  have hsz : hp.objs.size ≤ hp.objs.size + 1 := Nat.le_succ _
  have hn : H1 (hp.objs.size + 1) = none := I1.hok.fresh hsz
  have hq : sp_ev fs C (.ref (hp.objs.size + 1) :: vs) (upd H1 (hp.objs.size + 1) (exo (hp.objs.size + 1) C none))
      (fun v H2 => v = .non ∧ ∃ (d : Addr) (gs : List (Str × V)), H2 (hp.objs.size + 1) = some (exo (hp.objs.size + 1) C (some d)) ∧ H2 d = some (exd d gs) ∧ H1 d = none ∧ Q (.ref C) (some d) (upd (del H2 (hp.objs.size + 1)) d (.xd gs))) E0 := by
    refine ⟨_, vs, rfl, hvl, upd_same, fun H2 k2 hx => ⟨rfl, ?_⟩⟩
    rcases hx with ⟨_, ez⟩ | ⟨d, nd, e1, e2⟩
    · have := congrArg List.length ez
      rw [List.length_reverse, List.length_zip, hvl, Nat.min_self] at this
      exact absurd (List.length_eq_zero_iff.mp this) hfs
    · have da : d ≠ hp.objs.size + 1 := fun z => by
        rw [z, upd_same] at nd
        cases nd
      have n1 : H1 d = none := by
        rw [upd_ne da] at nd
        exact nd
      refine ⟨d, _, e1, e2, n1, q1 d _ n1 (fun b o eb _ => ?_) upd_same⟩
      have hbd : b ≠ d := ne_of_none eb n1
      have hba : b ≠ hp.objs.size + 1 := ne_of_none eb hn
      rw [upd_ne hbd, del_ne hba]
      exact k2 b o (by rw [upd_ne hba]; exact eb) (not_one hba)
  have kk : ∀ b o, hp.get? b = some o → ((hp.push (PySem.W.kdv_tup us)).push (PySem.HandSPX.excO C hp.objs.size)).get? b = some o := fun b o e => Heap.get?_push_of_some _ (Heap.get?_push_of_some _ e)
  have hget : ((hp.push (PySem.W.kdv_tup us)).push (PySem.HandSPX.excO C hp.objs.size)).get? (hp.objs.size + 1) = some (PySem.HandSPX.excO C hp.objs.size) := by heap_get
  have I2 : Inv X pins σ (upd H1 (hp.objs.size + 1) (exo (hp.objs.size + 1) C none)) ⟨(hp.push (PySem.W.kdv_tup us)).push (PySem.HandSPX.excO C hp.objs.size), g, dr, tk, os⟩ :=
    I1.laid (t' := tk) (a := hp.objs.size + 1) (o := exo (hp.objs.size + 1) C none) (h' := (hp.push (PySem.W.kdv_tup us)).push (PySem.HandSPX.excO C hp.objs.size)) kk hsz (exo_ok hget)
  have r2 : Vals (V.ref (hp.objs.size + 1) :: vs) (Value.ref (hp.objs.size + 1) :: us) := .cons rfl r1
  have hus : us.length ≤ sizeLine := by
    rw [← r1.length, hvl]
    exact Nat.le_trans h9 (by decide)
  refine wpAny_call (PySem.HandSPX.call_kw Z.facts (fun Y => refsT_contains Z Y bm hbm) (I1.kIn _ _ hC) (PySem.W.looks_findIn I1.kIn iC) (fun self => PySem.W.bind_fn I1.kIn self tI) hus
    (codeAny_mono (F1.run _ X.stack _ _ ⟨Value.ref (hp.objs.size + 1) :: us, []⟩ (Value.ref (hp.objs.size + 1) :: us) _ _ E0 (hr.make C us []) (I2.env0.make C us []) (hb _ (Value.ref (hp.objs.size + 1) :: us) (by rw [← r2.length]; exact F1.len _ _ _ _ hq)) r2 hq) fun r s' hq' => ?_))
  cases r with
  | error er => exact pass0 (X := X) pins σ _ _ er s' I2 hq'
  | ok fl =>
    cases fl with
    | ret u =>
      obtain ⟨v, H2, os2, bare2, un2, hok2, rv, ev, d, gs, ea, ed, hd1, q2⟩ := hq'
      subst ev
      obtain ⟨h2, g2, d2, t2, os'⟩ := s'
      exact ⟨rv, mk_end (raises_own T.exC T.tyC) I1 hsz kk un2 hok2 os2 bare2 ea ed hd1 q2⟩
    | next => exact False.elim hq'
    | brk => exact False.elim hq'
    | cont => exact False.elim hq'
theorem ps_raiseV (U : UseV X.prog X.w X.K X.mg X.base k x C ps (sp_ev fs C)) (hr : Room (k + 1) X.A) (hc : X.calm = true) (tk : Takes X W) (hg : Gl X x) (ha : PA X (e :: es) t) (hdb : (x == ("__debug__" : Str)) = false := by decide)
    (he : starEach (e :: es) X.env = (false, eval e X.env) :: starEach es X.env := by rfl) (hpl : (backTo pos (starEach es X.env)).any (·.1) = false := by rfl) :
    PS X (.Raise (some (.Call (.Name x p) (e :: es) [] pos)) none pos2) (tRaiseV fs C W t) := ps_raise hc tk (pmk_V U hr hg ha hdb he hpl)
end
theorem r_raiseV {fs : List Str} {C : Addr} {W : WX} {ta : TA} {D : Ends} {σ : L2.St} {H : Hp} (q : ta σ H (kMkR fs C fun cls d H' => W cls d σ H')) : tRaiseV fs C W ta D σ H := q
theorem r_kMkR1 {C : Addr} {fld : Str} {Q : XK} {v : V} {H : Hp} (q : ∀ d H', H d = none → Kp [] H H' → H' d = some (.xd [(fld, v)]) → Q (.ref C) (some d) H') : kMkR [fld] C Q [v] H := ⟨rfl, (fun z => nomatch z), by show 1 ≤ 1000; decide, q⟩
theorem ExL.exm {K : PySem.W.Frag} {nm : Str} {C : Addr} {bm : List Value} {n : String} (h : ExL K nm C bm n) (e : PySem.W.subIn K (.ref C) (.type "BaseException") = some true) : PySem.W.exmOne K (.ref C) (.ref C) = some true :=
  PySem.W.exm_ref e h.hd h.ty (by rw [h.sub, List.contains_cons, beq_self_eq_true]; rfl)
/-! ### methods of a family of classes -/
def kMethF (S : List Addr) (m : Str) (sp : Nat → Sp) (E : XK) (t : TA) (σ : L2.St) (Q : VK) : VK := fun x H1 => ∃ a C dx fs k, x = .ref a ∧ S[k]? = some C ∧ H1 a = some (.ins C dx fs) ∧ fs.lookup m = none ∧ t σ H1 fun vs H2 => sp k (x :: vs) H2 Q E
def tMethF (S : List Addr) (m : Str) (sp : Nat → Sp) (E : L2.St → XK) (ta : TE) (t : TA) : TE := fun σ H Q => ta σ H (kMethF S m sp (E σ) t σ Q)
/-- each class has its own def of the name, with a promise by its place -/
def UseMV (P : Program) (w : World) (K : PySem.W.Frag) (mg : Str → Option Value) (base : Heap) (n : Nat) (S : List Addr) (m : Str) (sp : Nat → Sp) : Prop := ∀ k C, S[k]? = some C → Cls K C ∧ ∃ f, FnR P w K mg base CX0 n f (sp k) ∧ Meth K C m f
theorem umv_nil {p : Nat → Addr → Prop} : ∀ k C, ([] : List Addr)[k]? = some C → p k C := fun k C h => by simp at h
theorem umv_cons {p : Nat → Addr → Prop} {D : Addr} {l : List Addr} (h : p 0 D) (t : ∀ k C, l[k]? = some C → p (k + 1) C) : ∀ k C, (D :: l)[k]? = some C → p k C
  | 0, _, e => Option.some.inj e ▸ h
  | k + 1, C, e => t k C e
section
variable {X : Cx} {k : Nat} {S : List Addr} {m : Str} {sp : Nat → Sp} {o e : Expr} {es : List Expr} {ta : TE} {t : TA} {apos pos : Pos} {pl : Sem Bool}
theorem pe_methF (he : PE X o ta) (U : UseMV X.prog X.w X.K X.mg X.base k S m sp) (hr : Room k X.A) (ha : PA X (e :: es) t)
    (hst : starEach (e :: es) X.env = (false, eval e X.env) :: starEach es X.env := by rfl) (hpl : (backTo pos (starEach es X.env)).any (·.1) = false := by rfl)
    (ht : eval (.Call (.Attribute o m apos) (e :: es) [] pos) X.env = (do
      let ov ← eval o X.env
      standAt apos.atName
      let (f, first) ← holding [ov] (getMethod ov m pl)
      callWith pos f first (backTo pos (starEach (e :: es) X.env)) (backToKw pos (keywordEach [] X.env))) := by rfl) :
    PE X (.Call (.Attribute o m apos) (e :: es) [] pos) (tMethF S m sp (fun _ => E0) ta t) := by
  refine ⟨fun pins s σ H Q I h => ?_⟩
  refine PySem.W.methodCall_KW (pl := pl) (thn (he.run pins s σ H _ I h) fun u s1 ⟨x, H1, I1, rx, a, C, dx, fs, i, ex, hS, ea, l, q⟩ => ?_) ht
  subst ex
  obtain rfl : u = Value.ref a := rx
  obtain ⟨c, f, F, hm⟩ := U i C hS
  refine getmeth_ok I1 ea c hm l ?_
  refine PySem.W.callWith_K (first := [.ref a]) (h₀ := X.base) I.ok.mod.kin hm.kp (thn (ha.run pos pins s1 σ H1 _ I1 q) fun us s2 ⟨vs, H2, I2, r, q2⟩ => ⟨I2.kIn, ?_⟩) hst hpl
  exact wpAny_call (run_fnR (us := .ref a :: us) (vs := .ref a :: vs) F hr pass0 I2 (.cons rfl r) q2)
theorem pe_methF0 (he : PE X o ta) (U : UseMV X.prog X.w X.K X.mg X.base k S m sp) (hr : Room k X.A)
    (ht : eval (.Call (.Attribute o m apos) [] [] pos) X.env = (do
      let ov ← eval o X.env
      standAt apos.atName
      let (f, first) ← holding [ov] (getMethod ov m pl)
      callWith pos f first (backTo pos (starEach [] X.env)) (backToKw pos (keywordEach [] X.env))) := by rfl) :
    PE X (.Call (.Attribute o m apos) [] [] pos) (tMethF S m sp (fun _ => E0) ta tNil) := by
  refine ⟨fun pins s σ H Q I h => ?_⟩
  refine PySem.W.methodCall_KW (pl := pl) (thn (he.run pins s σ H _ I h) fun u s1 ⟨x, H1, I1, rx, a, C, dx, fs, i, ex, hS, ea, l, q⟩ => ?_) ht
  subst ex
  obtain rfl : u = Value.ref a := rx
  obtain ⟨c, f, F, hm⟩ := U i C hS
  refine getmeth_ok I1 ea c hm l ?_
  refine PySem.W.callWith_K0 (first := [.ref a]) I1.kIn hm.kp ?_
  exact wpAny_call (run_fnR (us := [.ref a]) (vs := [.ref a]) F hr pass0 I1 (.cons rfl .nil) q)
end
section
variable {S : List Addr} {m : Str} {sp : Nat → Sp} {k : Nat} {E : L2.St → XK} {Ex : XK} {ta : TE} {t : TA} {σ : L2.St} {H : Hp} {Q : VK} {a C dx : Addr} {fs : List (Str × V)}
theorem r_methF (q : ta σ H (kMethF S m sp (E σ) t σ Q)) : tMethF S m sp E ta t σ H Q := q
theorem r_kMethF (hS : S[k]? = some C) (e : H a = some (.ins C dx fs)) (l : fs.lookup m = none) (q : t σ H fun vs H2 => sp k (.ref a :: vs) H2 Q Ex) : kMethF S m sp Ex t σ Q (.ref a) H := ⟨a, C, dx, fs, k, rfl, hS, e, l, q⟩
end
/-! ### x(e), x an instance of a family's class -/
def UseCV (P : Program) (w : World) (K : PySem.W.Frag) (mg : Str → Option Value) (base : Heap) (n : Nat) (S : Addr → Prop) (sp : Sp) : Prop := ∃ g, FnR P w K mg base (L2.CX P w) n g sp ∧ ∀ C, S C → CallO K C g
def kCallF (S : Addr → Prop) (sp : Sp) (E : XK) (a : Addr) (Q : VK) : List V → Hp → Prop := fun vs H2 => (∃ C dx fs, S C ∧ H2 a = some (.ins C dx fs)) ∧ sp (.ref a :: vs) H2 Q E
def kCallX (S : Addr → Prop) (sp : Sp) (E : XK) (t : TA) (σ : L2.St) (Q : VK) : VK := fun y H1 => ∃ a, y = .ref a ∧ t σ H1 (kCallF S sp E a Q)
def tCallF (S : Addr → Prop) (sp : Sp) (E : L2.St → XK) (tf : TE) (t : TA) : TE := fun σ H Q => tf σ H (kCallX S sp (E σ) t σ Q)
section
variable {X : Cx} {k : Nat} {S : Addr → Prop} {sp : Sp} {E : L2.St → XK} {fe e : Expr} {es : List Expr} {tf : TE} {t : TA} {pos : Pos}
theorem pe_callF (hf : PE X fe tf) (U : UseCV X.prog X.w X.K X.mg X.base k S sp) (hr : Room k X.A) (hx : ∀ σ, PassesAt (L2.CX X.prog X.w) X σ (E σ)) (ha : PA X (e :: es) t)
    (ht : eval (.Call fe (e :: es) [] pos) X.env = (do callWith pos (← eval fe X.env) [] (backTo pos (starEach (e :: es) X.env)) (backToKw pos (keywordEach [] X.env))) := by rfl)
    (he : starEach (e :: es) X.env = (false, eval e X.env) :: starEach es X.env := by rfl) (hpl : (backTo pos (starEach es X.env)).any (·.1) = false := by rfl) : PE X (.Call fe (e :: es) [] pos) (tCallF S sp E tf t) := by
  refine ⟨fun pins s σ H Q I h => ?_⟩
  refine Call_ (thn (hf.run pins s σ H _ I h) fun u s1 ⟨y, H1, I1, ry, a, ey, q⟩ => ?_) ht
  subst ey
  obtain rfl : u = Value.ref a := ry
  obtain ⟨g, F, hc⟩ := U
  refine callO_with (thn (ha.run pos pins s1 σ H1 _ I1 q) fun us s2 ⟨vs, H2, I2, r, ⟨C, dx, fs, hS, hi⟩, q2⟩ => ?_) he hpl
  obtain ⟨ox, od, J, hd⟩ := insC_at I2 (.inr ⟨dx, fs, hi⟩ : InsC X H2 a C)
  refine ⟨⟨C, ox, od, J, hd⟩, ?_⟩
  have c := hc C hS
  refine wpAny_call (PySem.W.kco_code I2.kIn J hd c.at_ c.fn c.fi (codeAny_mono (F X.A X.stack s2 H2 (.ref a :: us) (.ref a :: vs) Q (E σ) hr I2.env0 (.cons rfl r) q2) fun z s' hz => ?_))
  match z, hz with
  | .error u, hz => exact hx σ pins _ _ u s' I2 hz
  | .ok (.ret u), hz =>
    obtain ⟨v, H', I3, rv, q3⟩ := I2.after hz
    exact ⟨v, H', I3, rv, q3⟩
  | .ok .next, hz => exact hz.elim
  | .ok .brk, hz => exact hz.elim
  | .ok .cont, hz => exact hz.elim
end
section
variable {S : Addr → Prop} {sp : Sp} {E : L2.St → XK} {Ex : XK} {tf : TE} {t : TA} {σ : L2.St} {H : Hp} {Q : VK} {a C dx : Addr} {fs : List (Str × V)} {vs : List V}
theorem r_callF (q : tf σ H (kCallX S sp (E σ) t σ Q)) : tCallF S sp E tf t σ H Q := q
theorem r_kCallX (q : t σ H (kCallF S sp Ex a Q)) : kCallX S sp Ex t σ Q (.ref a) H := ⟨a, rfl, q⟩
theorem r_kCallF (hS : S C) (e : H a = some (.ins C dx fs)) (q : sp (.ref a :: vs) H Q Ex) : kCallF S sp Ex a Q vs H := ⟨⟨C, dx, fs, hS, e⟩, q⟩
end
/-! ### a, b = super().m(..) -/
theorem wpAt_Assign_stores {prog : Program} {w : World} {A : Around} {c : Code} {E : Value → Shared → Prop} {s : Shared} {env : Env} {targets : List Expr} {value : Expr} {pos : Pos} {Q : Flow → Shared → Prop}
    (h : _root_.PySem.wpAt (model prog w) A c (eval value env) (fun v s₁ => wpAny (model prog w) A (assignAll v ((assignEach targets env).map (·.2))) (fun _ => Q .next) E s₁) E s)
    (hs : swapsWithSole targets value pos.line env = pure false) (hw : swappedStores targets value env = pure none) : _root_.PySem.wpAt (model prog w) A c (exec (.Assign targets value pos) env) Q E s := by
  rw [exec_Assign_arm]
  refine _root_.PySem.wpAt_bind (_root_.PySem.wpAt_of_wpAny (wpAny_standAt ?_))
  rw [hs]
  refine _root_.PySem.wpAt_bind (_root_.PySem.wpAt_of_wpAny (wpAny_pure ?_))
  rw [if_neg (by decide)]
  refine _root_.PySem.wpAt_bind (_root_.PySem.ks_wpAt_mono h (fun v s₁ h₁ => _root_.PySem.wpAt_of_wpAny ?_) fun _ _ x => x)
  rw [hw]
  refine wpAny_bind (wpAny_pure ?_)
  show wpAny _ A (do assignAll v ((assignEach targets env).map (·.2)); pure .next) Q E s₁
  exact wpAny_bind (wpAny_mono h₁ (fun _ _ x => wpAny_pure x) fun _ _ x => x)
section
variable {X : Cx} {c : Code} {rest : List Stmt} {u : TS} {e tg : Expr} {te : TE} {g : TG} {pos : Pos}
theorem qs_asg (a : PEat X c e te) (hg : PG X tg g) (b : QS X c rest u) (hs : swapsWithSole [tg] e pos.line X.env = pure false := by rfl) (hw : swappedStores [tg] e X.env = pure none := by rfl)
    (h1 : (assignEach [tg] X.env).map (·.2) = [assign tg X.env] := by rfl) : QS X c (.Assign [tg] e pos :: rest) (tSeq (tAsg te g) u) := by
  constructor
  intro pins s σ H D I h
  refine _root_.PySem.ks_wpAt_execs_cons (wpAt_Assign_stores (_root_.PySem.ks_wpAt_mono (a.run pins s σ H _ I h) (fun v s1 w => ?_) fun _ _ z => z) hs hw)
  obtain ⟨x, H1, I1, r1, q1⟩ := w
  rw [h1]
  exact thn (hg.run pins s1 σ H1 x v _ I1 r1 q1) fun _ s2 ⟨σ', H', I', w'⟩ => b.run pins s2 σ' H' D I' w'
end
/-! ### what a def f(self, a, *v, **d) binds -/
theorem bind_starkw2 {B : List Value → Sem (List (Str × Value))} {p1 p2 pv pd : Str} (h0 : ∀ a b, B [a, b] = (newTuple [] >>= fun t => (alloc ({ cls := .type "dict", data := .dict #[] } : Obj) : Sem Addr) >>= fun d => pure [(p1, a), (p2, b), (pv, t), (pd, Value.ref d)]))
    (h1 : ∀ a b r rs, B (a :: b :: r :: rs) = (newTuple (r :: rs) >>= fun t => (alloc ({ cls := .type "dict", data := .dict #[] } : Obj) : Sem Addr) >>= fun d => pure [(p1, a), (p2, b), (pv, t), (pd, Value.ref d)])) :
    ∀ us rest : List Value, us.length = [p1, p2].length → B (us ++ rest) = (newTuple rest >>= fun t => (alloc ({ cls := .type "dict", data := .dict #[] } : Obj) : Sem Addr) >>= fun d => pure ([p1, p2].zip us ++ [(pv, t), (pd, Value.ref d)]))
  | [a, b], [], _ => h0 a b
  | [a, b], r :: rs, _ => h1 a b r rs
/-! ### X(e, *y), X an own class -/
section
variable {X : Cx} {CX : CXT} {k : Nat} {f C : Addr} {sp : Sp} {E : XK} {x : Str} {e : Expr} {es : List Expr} {t : TA} {p pos : Pos}
theorem pe_makeRS (M : Mk X.K C f) (F : FnR X.prog X.w X.K X.mg X.base CX k f sp) (hr : Room (k + 1) X.A) (hg : Gl X x) (hm : X.mg x = some (.ref C)) (hx : Passes CX X E) (ha : PA X (e :: es) t) (hdb : (x == ("__debug__" : Str)) = false := by decide)
    (he : starEach (e :: es) X.env = (false, eval e X.env) :: starEach es X.env := by rfl) (hst : (backTo pos (starEach es X.env)).any (·.1) = true := by rfl) : PE X (.Call (.Name x p) (e :: es) [] pos) (tMakeR C sp E t) := by
  refine ⟨fun pins s σ H Q I h => ?_⟩
  refine wpAny_Call_Name_kw (ld_glob I hg hm ?_ hdb)
  refine PySem.W.callWith_S2 (h₀ := X.base) I.ok.mod.kin M.kp (thn (ha.run pos pins s σ H _ I h) fun us s1 ⟨vs, H1, I1, r, q⟩ => ⟨I1.kIn, ?_⟩) he hst
  exact run_makeR M F hr hx I1 r q
end
section
variable {K : PySem.W.Frag} {te : TE} {t : TA} {σ : L2.St} {H : Hp} {QA : List V → Hp → Prop} {p : Addr} {xs : List V}
def kStar (K : PySem.W.Frag) (t : TA) (σ : L2.St) (QA : List V → Hp → Prop) : VK := fun x H1 => ∃ p xs, x = V.ref p ∧ (SqT K H1 p xs ∨ SqL K H1 p xs) ∧ t σ H1 fun ys H2 => QA (xs ++ ys) H2
theorem r_star (q : te σ H (kStar K t σ QA)) : tStar K te t σ H QA := q
theorem r_kStarT (h : SqT K H p xs) (q : t σ H fun ys H2 => QA (xs ++ ys) H2) : kStar K t σ QA (.ref p) H := ⟨p, xs, rfl, .inl h, q⟩
theorem r_kStarL (h : SqL K H p xs) (q : t σ H fun ys H2 => QA (xs ++ ys) H2) : kStar K t σ QA (.ref p) H := ⟨p, xs, rfl, .inr h, q⟩
end
end Rd

set_option maxHeartbeats 4000000
/-! Mx: tuples of a number and then numbers or texts, as the number says: sorted lists of them, sorted dicts with such keys. -/
namespace Rd
open PySem PySem.Spec L2 StX PyProof.Rows
open PySem.W (EachIs SortsAt sortVals sortVals_each sortLe sortVals_length KatLex kat_nil kat_cons kat_yes kat_no kat_go kat_lt kat_kind KatTups)
abbrev Tk := Int ⊕ List Nat
def tkOf : Key → Tk
  | .inl n => .inl n
  | .inr x => .inr x.cps.toList
def goodT : List Tk → Bool
  | .inl n :: r => if n < 3 then r.all Sum.isLeft else r.all Sum.isRight
  | _ => false
def itv : Value → Option Tk
  | .int n _ => some (.inl n)
  | .str x _ => some (.inr x.cps.toList)
  | _ => none
def itvs : List Value → Option (List Tk)
  | [] => some []
  | v :: r => (itv v).bind fun a => (itvs r).map (a :: ·)
theorem itvs_cons {v : Value} {r : List Value} {l : List Tk} (h : itvs (v :: r) = some l) : ∃ a l', itv v = some a ∧ itvs r = some l' ∧ l = a :: l' := by
  have h' : ((itv v).bind fun a => (itvs r).map (a :: ·)) = some l := h
  cases e : itv v with
  | none =>
    rw [e] at h'
    cases h'
  | some a =>
    rw [e] at h'
    cases e2 : itvs r with
    | none =>
      rw [e2] at h'
      cases h'
    | some l' =>
      rw [e2] at h'
      exact ⟨a, l', rfl, rfl, (Option.some.inj h').symm⟩
theorem itv_shape {v : Value} {a : Tk} (h : itv v = some a) : (∃ n t, v = .int n t ∧ a = .inl n) ∨ ∃ x t, v = .str x t ∧ a = .inr x.cps.toList := by
  cases v with
  | int n t => exact .inl ⟨n, t, rfl, (Option.some.inj h).symm⟩
  | str x t => exact .inr ⟨x, t, rfl, (Option.some.inj h).symm⟩
  | _ => cases h
def mxKey (h : Heap) : Value → Option (List Tk)
  | .ref a => match h.get? a with
    | some o => match o.data with
      | .seq xs _ => match itvs xs.toList with
        | some l => if goodT l = true then some l else none
        | none => none
      | _ => none
    | none => none
  | _ => none
@[reducible] def mxKind (h : Heap) : PyProof.Rows.KeyKind where
  toKeyOrd := listOrd itemOrd
  keyOf := mxKey h
  dflt := []
theorem mxKey_some {h : Heap} {v : Value} {l : List Tk} (hv : mxKey h v = some l) : ∃ a o xs n, v = .ref a ∧ h.get? a = some o ∧ o.data = .seq xs n ∧ itvs xs.toList = some l ∧ goodT l = true := by
  cases v with
  | ref a =>
    simp only [mxKey] at hv
    cases ho : h.get? a with
    | none => rw [ho] at hv; cases hv
    | some o =>
      rw [ho] at hv
      cases hd : o.data with
      | seq xs n =>
        simp only [hd] at hv
        cases hi : itvs xs.toList with
        | none => rw [hi] at hv; cases hv
        | some l' =>
          rw [hi] at hv
          dsimp only at hv
          by_cases g : goodT l' = true
          · rw [if_pos g] at hv
            cases hv
            exact ⟨a, o, xs, n, rfl, ho, hd, hi, g⟩
          · rw [if_neg g] at hv
            cases hv
      | _ => simp [hd] at hv
  | _ => simp [mxKey] at hv
theorem mxKey_at {h : Heap} {a : Addr} {o : Obj} {xs : Array Value} {n : Nat} {l : List Tk} (ho : h.get? a = some o) (hd : o.data = .seq xs n) (hi : itvs xs.toList = some l) (g : goodT l = true) : mxKey h (.ref a) = some l := by
  simp only [mxKey, ho, hd, hi, g, if_true]
def Cmp : List Tk → List Tk → Prop
  | x :: r, y :: t => x.isLeft = y.isLeft ∧ (x = y → Cmp r t)
  | _, _ => True
theorem cmp_of (b : Bool) : ∀ {l m : List Tk}, (∀ x ∈ l, x.isLeft = b) → (∀ x ∈ m, x.isLeft = b) → Cmp l m
  | [], _, _, _ => True.intro
  | _ :: _, [], _, _ => True.intro
  | x :: r, y :: t, h, g => ⟨(h x List.mem_cons_self).trans (g y List.mem_cons_self).symm, fun _ => cmp_of b (fun z m => h z (List.mem_cons_of_mem _ m)) fun z m => g z (List.mem_cons_of_mem _ m)⟩
theorem right_left {x : Tk} (h : x.isRight = true) : x.isLeft = false := by cases x <;> first | rfl | cases h
theorem good_cmp : ∀ {l m : List Tk}, goodT l = true → goodT m = true → Cmp l m
  | .inl n :: r, .inl k :: t, h, g => ⟨rfl, fun e => by
    have e : n = k := Sum.inl.inj e
    subst e
    have h : (if n < 3 then r.all Sum.isLeft else r.all Sum.isRight) = true := h
    have g : (if n < 3 then t.all Sum.isLeft else t.all Sum.isRight) = true := g
    by_cases c : n < 3
    · rw [if_pos c] at h g
      exact cmp_of true (fun x m => List.all_eq_true.mp h x m) fun x m => List.all_eq_true.mp g x m
    · rw [if_neg c] at h g
      exact cmp_of false (fun x m => right_left (List.all_eq_true.mp h x m)) fun x m => right_left (List.all_eq_true.mp g x m)⟩
  | [], _, h, _ => by cases h
  | .inr _ :: _, _, h, _ => by cases h
  | .inl _ :: _, [], _, h => by cases h
  | .inl _ :: _, .inr _ :: _, _, h => by cases h
section
variable {prog : Program} {w : World} {A : Around} {E : Value → Shared → Prop} {s : Shared}
theorem mx_lex {b fin : Bool} {Q : Bool → Shared → Prop} : ∀ (ps qs : List Value) (i : Nat) (as bs : List Tk),
    itvs ps = some as → itvs qs = some bs → Cmp as bs → fin = decide (ps.length < qs.length) → Q (lexLt itemOrd as bs) s → KatLex prog w A b fin Q (ps.zip qs) i s
  | [], [], i, as, bs, ha, hb, _, hf, h => by
    have ea : [] = as := Option.some.inj ha
    have eb : [] = bs := Option.some.inj hb
    subst ea; subst eb
    have e : fin = false := by rw [hf]; rfl
    subst e
    exact kat_nil h
  | [], q :: qs, i, as, bs, ha, hb, _, hf, h => by
    have ea : [] = as := Option.some.inj ha
    obtain ⟨x, l', _, _, eb⟩ := itvs_cons hb
    subst ea; subst eb
    have e : fin = true := by rw [hf]; exact decide_eq_true (Nat.succ_pos _)
    subst e
    exact kat_nil h
  | p :: ps, [], i, as, bs, ha, hb, _, hf, h => by
    have eb : [] = bs := Option.some.inj hb
    obtain ⟨x, l', _, _, ea⟩ := itvs_cons ha
    subst ea; subst eb
    have e : fin = false := by rw [hf]; exact decide_eq_false (Nat.not_lt_zero _)
    subst e
    exact kat_nil h
  | p :: ps, q :: qs, i, as, bs, ha, hb, hc, hf, h => by
    have hf' : fin = decide (ps.length < qs.length) := by
      rw [hf]; simp only [List.length_cons, Nat.add_lt_add_iff_right]
    obtain ⟨x, as', hx, ha', rfl⟩ := itvs_cons ha
    obtain ⟨y, bs', hy, hb', rfl⟩ := itvs_cons hb
    obtain ⟨hs, hc'⟩ := hc
    rcases itv_shape hx with ⟨n, t, rfl, rfl⟩ | ⟨u, t, rfl, rfl⟩
    · rcases itv_shape hy with ⟨m, t', rfl, rfl⟩ | ⟨v, t', rfl, rfl⟩
      · refine kat_cons (wpAny_eqBool_int (kat_go (fun e => kat_yes ?_) fun e => kat_no ?_))
        · have hnm : n = m := by simpa using e
          subst hnm
          rw [lex_self] at h
          exact mx_lex ps qs (i + 1) as' bs' ha' hb' (hc' rfl) hf' h
        · have hnm : ¬ n = m := by simpa using e
          rw [lex_diff (fun z => hnm (Sum.inl.inj z))] at h
          exact oneLt_any_int h
      · cases hs
    · rcases itv_shape hy with ⟨m, t', rfl, rfl⟩ | ⟨v, t', rfl, rfl⟩
      · cases hs
      · refine kat_cons (wpAny_eqBool_str (kat_go (fun e => kat_yes ?_) fun e => kat_no ?_))
        · have huv : u = v := of_decide_eq_true e
          subst huv
          rw [lex_self] at h
          exact mx_lex ps qs (i + 1) as' bs' ha' hb' (hc' rfl) hf' h
        · have huv : ¬ u = v := of_decide_eq_false e
          have hne : u.cps.toList ≠ v.cps.toList := fun hl => huv (PySem.W.str_of_cps hl)
          rw [lex_diff (fun z => hne (Sum.inr.inj z))] at h
          exact oneLt_any_str h
theorem mx_ltAt : PyProof.Rows.H.LtAt prog w A s (mxKind s.heap) (tuples' true) := by
  intro E x y as bs Q hx hy h
  obtain ⟨a₁, o₁, xs, n, rfl, ho₁, hd₁, hi₁, g₁⟩ := mxKey_some hx
  obtain ⟨a₂, o₂, ys, k, rfl, ho₂, hd₂, hi₂, g₂⟩ := mxKey_some hy
  exact kat_lt ho₁ hd₁ ho₂ hd₂ (mx_lex xs.toList ys.toList 0 as bs hi₁ hi₂ (good_cmp g₁ g₂) (by rw [Array.length_toList, Array.length_toList]) h)
/-- a value is a tuple with these items -/
def MxAt (h : Heap) (v : Value) (l : List Tk) : Prop := ∃ a o xs n, v = .ref a ∧ h.get? a = some o ∧ o.cls = .type "tuple" ∧ o.data = .seq xs n ∧ itvs xs.toList = some l
theorem MxAt.key {h : Heap} {v : Value} {l : List Tk} (m : MxAt h v l) (g : goodT l = true) : (mxKind h).keyOf v = some l := by
  obtain ⟨a, o, xs, n, rfl, ho, _, hd, hi⟩ := m
  exact mxKey_at ho hd hi g
theorem MxAt.keeps {h h' : Heap} {v : Value} {l : List Tk} (m : MxAt h v l) (k : ∀ b o, o.cls = .type "tuple" → h.get? b = some o → h'.get? b = some o) : MxAt h' v l := by
  obtain ⟨a, o, xs, n, rfl, ho, hc, hd, hi⟩ := m
  exact ⟨a, o, xs, n, rfl, k a o hc ho, hc, hd, hi⟩
theorem mx_tups {h : Heap} : ∀ {vs : List Value} {ls : List (List Tk)}, EachIs (MxAt h) vs ls → (∀ l ∈ ls, goodT l = true) → ∃ fs, KatTups h vs fs ∧ fs.length = vs.length ∧ ∀ f ∈ fs, ∃ n t, f = Value.int n t
  | _, _, .nil, _ => ⟨[], KatTups.nil, rfl, fun f m => nomatch m⟩
  | _, _, .cons (b := l) ⟨a, o, xs, n, ev, ho, hc, hd, hi⟩ t, hg => by
    obtain ⟨fs, h1, h2, h3⟩ := mx_tups t fun l m => hg l (List.mem_cons_of_mem _ m)
    have g := hg l List.mem_cons_self
    cases hx : xs.toList with
    | nil =>
      rw [hx] at hi
      cases hi
      cases g
    | cons f fr =>
      rw [hx] at hi
      obtain ⟨x, l', hf, _, rfl⟩ := itvs_cons hi
      have e0 : xs[0]? = some f := by rw [← Array.getElem?_toList, hx]; rfl
      rcases itv_shape hf with ⟨m, t', rfl, rfl⟩ | ⟨u, t', rfl, rfl⟩
      · refine ⟨Value.int m t' :: fs, ?_, by rw [List.length_cons, List.length_cons, h2], fun f hm => ?_⟩
        · rw [ev]
          exact KatTups.cons ho hc hd e0 h1
        · rcases List.mem_cons.mp hm with rfl | hm
          · exact ⟨m, t', rfl⟩
          · exact h3 f hm
      · cases g
theorem sorts_mx {vs : List Value} {ls : List (List Tk)} (e : EachIs (MxAt s.heap) vs ls) (hg : ∀ l ∈ ls, goodT l = true) : SortsAt prog w A s (mxKind s.heap) vs := by
  refine ⟨fun v hv => ?_, tuples' true, mx_ltAt, fun h2 E Q hq => ?_⟩
  · obtain ⟨l, hl, m⟩ := e.left v hv
    exact ⟨l, m.key (hg l hl)⟩
  · obtain ⟨fs, t1, t2, t3⟩ := mx_tups e hg
    have e' : (Value.type "int" != Value.type "tuple") = true := by first | rfl | decide
    refine kat_kind (T := Value.type "int") t1 (by omega) (fun v hv => ?_) rfl (by rw [e']; exact hq)
    obtain ⟨k, t, rfl⟩ := t3 v hv
    exact PySem.W.Looks.of_pure rfl
end
/-! ### the calls -/
def toks (k : List Key) : List Tk := k.map tkOf
def goodK (k : List Key) : Bool := goodT (toks k)
def mxLe {β : Type} (f : β → List Key) (a b : β) : Bool := sortLe (listOrd itemOrd) false (fun z => toks (f z)) a b
def srtK (ks : List (List Key)) : List (List Key) := ks.mergeSort (mxLe id)
theorem srtK_perm (ks : List (List Key)) : (srtK ks).Perm ks := List.mergeSort_perm _ _
theorem srtK_maps {β : Type} (f : β → List Key) (l : List β) : (l.mergeSort (mxLe f)).map f = srtK (l.map f) :=
  PySem.W.sort_maps (r := mxLe f) (s := mxLe id) f (l := l) (fun _ _ _ _ => rfl)
theorem vals_itvs : ∀ {ks : List Key} {us : List Value}, Vals (ks.map kV) us → itvs us = some (toks ks)
  | [], _, h => by
    cases h
    rfl
  | k :: ks, _, h => by
    cases h with
    | cons r t =>
      have ih := vals_itvs t
      cases k with
      | inl n =>
        obtain ⟨t', rfl⟩ := r
        show ((itv (Value.int n t')).bind fun a => (itvs _).map (a :: ·)) = _
        rw [ih]
        rfl
      | inr x =>
        obtain ⟨t', rfl⟩ := r
        show ((itv (Value.str x t')).bind fun a => (itvs _).map (a :: ·)) = _
        rw [ih]
        rfl
theorem each_ofv {β : Type} {f : β → Addr} {R : Value → β → Prop} : ∀ {zs : List β} {us : List Value}, Vals (zs.map fun z => V.ref (f z)) us → (∀ z ∈ zs, R (.ref (f z)) z) → EachIs R us zs
  | [], _, h, _ => by
    cases h
    exact .nil
  | z :: zs, _, h, g => by
    cases h with
    | cons r t =>
      cases r
      exact .cons (g z List.mem_cons_self) (each_ofv t fun b m => g b (List.mem_cons_of_mem _ m))
theorem each_maps2 {β γ : Type} {f : β → γ} {R : Value → γ → Prop} : ∀ {zs : List β} {us : List Value}, EachIs (fun u z => R u (f z)) us zs → EachIs R us (zs.map f)
  | _, _, .nil => .nil
  | _, _, .cons h t => .cons h (each_maps2 t)
theorem vals_ofe {β : Type} {f : β → Addr} : ∀ {zs : List β} {us : List Value}, EachIs (fun u z => u = Value.ref (f z)) us zs → Vals (zs.map fun z => V.ref (f z)) us
  | _, _, .nil => .nil
  | _, _, .cons h t => .cons h (vals_ofe t)
def rSortM (K : PySem.W.Frag) : List V → Hp → VK → Prop := fun vs H Q => ∃ (a : Addr) (zs : List (Addr × List Key)), vs = [.ref a] ∧ SqL K H a (zs.map fun z => V.ref z.1) ∧ (∀ z ∈ zs, H z.1 = some (.tup (z.2.map kV))) ∧ (∀ z ∈ zs, goodK z.2 = true) ∧ zs.length ≤ sizeLine ∧
  ∀ p, H p = none → Q (.ref p) (upd H p (.lst ((zs.mergeSort (mxLe Prod.snd)).map fun z => V.ref z.1)))
def rSortMD : List V → Hp → VK → Prop := fun vs H Q => ∃ (a : Addr) (kvs : List (List Key × V)), vs = [.ref a] ∧ Rd H a (.dT kvs) ∧ (∀ q ∈ kvs, goodK q.1 = true) ∧
  ∀ p ts, H p = none → Paired (fun t k => H t = some (.tup (k.map kV))) ts (srtK (kvs.map Prod.fst)) → Q (.ref p) (upd H p (.lst (ts.map V.ref)))
section
variable {X : Cx} {pins : List (Addr × Obj)} {σ : L2.St} {H : Hp} {s : Shared}
theorem mx_of (I : Inv X pins σ H s) {a : Addr} {k : List Key} (e : H a = some (.tup (k.map kV))) : MxAt s.heap (.ref a) (toks k) := by
  obtain ⟨_, its, r, o, h1, h2, n, h3⟩ := (show ObjOk X.prog X.w H s.heap a (.tup (k.map kV)) from I.hok a _ e)
  exact ⟨a, o, its.toArray, n, rfl, h1, h2, h3, by simpa using vals_itvs r⟩
theorem cr_sortM : CallR X (.builtin "sorted") (rSortM X.K) := by
  intro pins s σ H vs us Q I r h
  obtain ⟨a, zs, rfl, hs, ht, hg, hl, q⟩ := h
  obtain ⟨its, rv, hp, _⟩ := I.list hs
  rw [Vals.ref1 r]
  have hlen0 : its.length = zs.length := by
    have := rv.length
    rw [List.length_map] at this
    omega
  have kp : ∀ b o, o.cls = .type "tuple" → s.heap.get? b = some o → (PySem.W.sortingHeap (PySem.W.copyHeap s.heap its) (s.heap.objs.size + 1) its).get? b = some o := fun b o _ e => PySem.W.sorting_copy_old e
  have e1 : EachIs (fun u z => MxAt (PySem.W.sortingHeap (PySem.W.copyHeap s.heap its) (s.heap.objs.size + 1) its) u (toks z.2) ∧ u = Value.ref z.1 ∧ goodK z.2 = true) its zs :=
    each_ofv (f := Prod.fst) rv fun z m => ⟨(mx_of I (ht z m)).keeps kp, rfl, hg z m⟩
  refine PySem.W.sorted_vals (κ := mxKind (PySem.W.sortingHeap (PySem.W.copyHeap s.heap its) (s.heap.objs.size + 1) its)) hp.isList (sorts_mx (ls := zs.map fun z => toks z.2) (each_maps2 (e1.mono fun _ _ h => h.1)) fun l m => ?_) (by omega) ?_
  · obtain ⟨z, m', rfl⟩ := List.mem_map.mp m
    exact hg z m'
  have e2 := sortVals_each (κ := mxKind (PySem.W.sortingHeap (PySem.W.copyHeap s.heap its) (s.heap.objs.size + 1) its)) (rev := false) (R := fun u z => u = Value.ref z.1) (fun z : Addr × List Key => toks z.2) (e1.mono fun _ _ h => h.2.1) (e1.mono fun _ _ h => h.1.key h.2.2)
  obtain ⟨ep, he'⟩ := PyProof.Rows.sortedAll_at s.heap its (sortVals (mxKind (PySem.W.sortingHeap (PySem.W.copyHeap s.heap its) (s.heap.objs.size + 1) its)) false its its).toArray
  have hlen : ((zs.mergeSort (mxLe Prod.snd)).map fun z => V.ref z.1).length ≤ sizeLine := by
    rw [List.length_map, List.length_mergeSort]
    exact hl
  exact ⟨.ref _, upd H (s.heap.objs.size + 1) (.lst ((zs.mergeSort (mxLe Prod.snd)).map fun z => V.ref z.1)), I.laid (t' := s.toks) (fun _ _ => PyProof.Rows.sortedAll_old) (Nat.le_succ _) ⟨hlen, _, ep, vals_ofe (f := Prod.fst) e2, he'⟩, rfl, q _ (I.hok.fresh (Nat.le_succ _))⟩
theorem K_sortM {K : PySem.W.Frag} (hK : X.K = K) : CallR X (.builtin "sorted") (rSortM K) := by
  subst hK
  exact cr_sortM
theorem cr_sortMD (hc : X.calm = true) : CallR X (.builtin "sorted") rSortMD := by
  intro pins s σ H vs us Q I r h
  obtain ⟨d, kvs, rfl, hd, hg, q⟩ := h
  obtain rfl := Vals.ref1 r
  obtain ⟨z, hs, ks, pr, o, es, ep, ho, hx, hdt, he, hn⟩ := (show ObjOk X.prog X.w H s.heap d (.dT kvs) from hd.ok I.hok)
  have l1 : es.size = ks.length := size_of_entries he
  have l2 : kvs.length = ks.length := Paired.length pr
  refine Calls.call_function_entry PyProof.Rows.kind_sorted PyProof.Rows.plain_sorted PyProof.Rows.entry_sorted (PyProof.Rows.args_sorted1 _) ?_
  unfold Builtin.«sorted»
  refine wpAny_bind (m := checkCount "sorted" 1 1 _) (wpAny_pure ?_)
  refine wpAny_bind (PySem.W.kdu_collect (A := X.A.in1) (kdl_raw hs hx hdt) (I.ok.hd hc) ho (by omega) fun h' tk acc hk hacc => ?_)
  have ea : acc.toList = ks.map fun x => Value.ref x.2.1 := by
    have hl : acc.toList.length = ks.length := by rw [Array.length_toList, hacc.1]; exact l1
    apply List.ext_getElem?
    intro j
    rw [List.getElem?_map]
    cases hj : acc.toList[j]? with
    | none =>
      have h1 := List.getElem?_eq_none_iff.mp hj
      rw [List.getElem?_eq_none (by omega)]
      rfl
    | some v =>
      obtain ⟨en, hen, hv⟩ := hacc.2 j v (by rw [← Array.getElem?_toList]; exact hj)
      have qe := entry_at he j
      rw [hen] at qe
      cases hb : ks[j]? with
      | none =>
        rw [hb] at qe
        cases (show some en = none from qe)
      | some b =>
        rw [hb] at qe
        have e2 : en = entryOfKey (tupleKind (mixKind X.prog X.w)) b := Option.some.inj qe
        rw [hv, e2]
        rfl
  have I1 : Inv X pins σ H { s with heap := h', toks := tk } := I.kept hk
  have hal : acc.toList.length = ks.length := by rw [ea, List.length_map]
  refine wpAny_bind (wpAny_newList ?_ (by omega))
  have hoL : (h'.push (seqObj "list" acc.toList.toArray 0)).get? h'.objs.size = some (seqObj "list" acc.toList.toArray 0) := Heap.get?_push_size _ rfl
  show wpAny _ _ _ _ _ { s with heap := h'.push (seqObj "list" acc.toList.toArray 0), toks := tk }
  -- what the keys are
  have hks : ∀ x ∈ ks, H x.2.1 = some (.tup (x.1.map kV)) ∧ goodK x.1 = true := by
    intro x m
    obtain ⟨j, hj⟩ := List.mem_iff_getElem?.mp m
    have hjk : j < kvs.length := by
      rw [l2]
      exact (List.getElem?_eq_some_iff.mp hj).1
    obtain ⟨x', hx', r1, r2, _⟩ := LiI.paired_get pr (List.getElem?_eq_getElem hjk)
    have ee : x' = x := Option.some.inj (hx'.symm.trans hj)
    subst ee
    rw [← r1]
    exact ⟨r2, hg _ (List.getElem_mem hjk)⟩
  have hkeys : ks.map Prod.fst = kvs.map Prod.fst := by
    refine List.ext_getElem? fun j => ?_
    rw [List.getElem?_map, List.getElem?_map]
    by_cases hj : j < kvs.length
    · obtain ⟨x', hx', r1, _, _⟩ := LiI.paired_get pr (List.getElem?_eq_getElem hj)
      rw [hx', List.getElem?_eq_getElem hj]
      exact congrArg some r1.symm
    · rw [List.getElem?_eq_none (by omega), List.getElem?_eq_none (by omega)]
      rfl
  generalize hh2 : h'.push (seqObj "list" acc.toList.toArray 0) = h2 at hoL ⊢
  have k1 : ∀ b o, h'.get? b = some o → h2.get? b = some o := fun b o e => by rw [← hh2]; exact Heap.get?_push_of_some _ e
  have ne0 : ∀ b o, h'.get? b = some o → b ≠ h'.objs.size := fun b o e => Nat.ne_of_lt (Heap.lt_size e)
  have e1 : EachIs (fun u x => MxAt (PySem.W.sortingHeap h2 h'.objs.size acc.toList) u (toks x.1) ∧ u = Value.ref x.2.1 ∧ goodK x.1 = true) acc.toList ks := by
    rw [ea]
    refine each_of_maps fun x m => ?_
    have mz : MxAt h' (.ref x.2.1) (toks x.1) := mx_of I1 (hks x m).1
    exact ⟨mz.keeps fun b o _ e => PySem.W.sortingHeap_old (ne0 b o e) (k1 b o e), rfl, (hks x m).2⟩
  refine wpAny_bind (wpAny_holding (wpAny_call_entry PyProof.Rows.slot_list_sort ⟨_, hoL, rfl⟩ PyProof.Rows.entry_list_sort
    (PySem.W.list_sort_vals (s := { s with heap := h2, toks := tk }) (κ := mxKind (PySem.W.sortingHeap h2 h'.objs.size acc.toList)) hoL (sorts_mx (s := { s with heap := PySem.W.sortingHeap h2 h'.objs.size acc.toList, toks := tk }) (ls := ks.map fun x => toks x.1) (each_maps2 (e1.mono fun _ _ h => h.1)) fun l m => ?_) (by omega) ⟨_, rfl, ?_⟩)
    (PyProof.Rows.args_list_sort _)))
  · obtain ⟨x, m', rfl⟩ := List.mem_map.mp m
    exact (hks x m').2
  have e2 := sortVals_each (κ := mxKind (PySem.W.sortingHeap h2 h'.objs.size acc.toList)) (rev := false) (R := fun u x => u = Value.ref x.2.1) (fun x : List Key × Addr × Value => toks x.1) (e1.mono fun _ _ h => h.2.1) (e1.mono fun _ _ h => h.1.key h.2.2)
  obtain ⟨eF, heF⟩ := PyProof.Rows.sortedHeap_at (vs := acc.toList) (out := (sortVals (mxKind (PySem.W.sortingHeap h2 h'.objs.size acc.toList)) false acc.toList acc.toList).toArray) hoL
  have hlen : ((ks.mergeSort (mxLe Prod.fst)).map fun x => V.ref x.2.1).length ≤ sizeLine := by
    rw [List.length_map, List.length_mergeSort]
    omega
  refine wpAny_pure ⟨_, rfl, .ref h'.objs.size, upd H h'.objs.size (.lst (((ks.mergeSort (mxLe Prod.fst)).map fun x => x.2.1).map V.ref)), I1.laid (t' := tk) (fun b u e => ?_) (Nat.le_refl _)
    (show ObjOk X.prog X.w _ _ _ (.lst _) from ⟨?_, _, eF, ?_, heF⟩), rfl, q _ ((ks.mergeSort (mxLe Prod.fst)).map fun x => x.2.1) (I1.hok.fresh (Nat.le_refl _)) ?_⟩
  · exact (PyProof.Rows.sortedHeap_old (ne0 b u e) (Heap.lt_size (k1 b u e))).trans (k1 b u e)
  · rw [List.map_map]
    exact hlen
  · rw [List.map_map]
    exact vals_ofe (f := fun x : List Key × Addr × Value => x.2.1) e2
  · rw [← hkeys, ← srtK_maps Prod.fst ks]
    exact paired_maps fun x m => (hks x ((List.mergeSort_perm _ _).mem_iff.mp m)).1
end
end Rd

set_option maxHeartbeats 4000000
/-! DcT: dict comprehensions whose keys are tuples of numbers and texts; d[k] of such a dict. -/
namespace Rd
open PySem PySem.Spec L2 StX PyProof.Rows
/-! ### a pair put into a dict by a comprehension -/
theorem c_put {X : Cx} {pins : List (Addr × Obj)} {σ : L2.St} {H H' : Hp} {s : Shared} {E : Value → Shared → Prop} {D : Addr} {y v : V} {u r : Value} {Q : Unit → Shared → Prop} (hu : X.A.units + 1 < cLine) (I : Inv X pins σ H s) (g : DPut H D y v H')
    (ry : RelV y u) (rv : RelV v r) (h : ∀ s', Inv X pins σ H' s' → Q () s') : wpAny (model X.prog X.w) X.A (dictSet D u r) Q E s := by
  rcases g with ⟨kvs, k, e, ey, l, eH⟩ | ⟨kvs, k, b, e, ey, eb, l, eH⟩
  · subst ey eH
    exact d_dictSet I e l ry rv h
  · subst ey eH
    cases (show u = Value.ref b from ry)
    obtain ⟨z, hd, xs, rel, dd⟩ := dt_of I.hok e
    have hz : xs.length ≤ sizeLine := by rw [← Paired.length rel]; exact z
    have hl : (putK kvs k v).length ≤ sizeLine := by have := length_putK kvs k v; omega
    refine wpAny_dictSet_heap (hsz := hz) (show X.A.units < cLine by omega) (key_of I.hok eb) dd fun h' dd' hs => h _ ?_
    obtain ⟨q, es, ep, hq, h2, h3, h4, _, h5⟩ := dd'
    refine d_write I (by rw [e]; exact True.intro) hs ⟨q, hq⟩ ⟨hl, hd, _, (rel.put k eb rv).keeps fun c ys ec => ?_, q, es, ep, hq, h2, h3, h4, h5⟩
    rw [upd_ne (ne_of ec e (fun z => nomatch z))]
    exact ec
/-- {k: v for target in iter if ..}, the keys tuples -/
def kDcT (g : TG) (tt : TT) (tk tv : TE) (vs : List Nat) (σ : L2.St) (Q : VK) : It → Hp → Prop := fun J H1 => ∀ D, H1 D = none → ∃ W : Nat → Nat → Hp → Prop, (∃ m, W 0 m (upd H1 D (.dT []))) ∧ ∀ i m H, W i m H →
  (J.stop i H ∧ Q (.ref D) H) ∨ (J.go i H ∧ ∃ Nx : Hp → Prop, (∀ H', Nx H' → ∃ m', m' < m ∧ W (i + 1) m' H') ∧ ∀ x H', J.yld i H x H' → g x (wipe σ vs) H' fun σ2 H2 => wipe σ2 vs = wipe σ vs ∧ tt σ2 H2 fun b H3 =>
    if b = true then tk σ2 H3 fun y H4 => tv σ2 H4 fun z H5 => ∃ H6, DPut H5 D y z H6 ∧ Nx H6 else Nx H3)
def tDcT (wi : TI) (g : TG) (tt : TT) (tk tv : TE) (vs : List Nat) : TE := fun σ H Q => wi σ H (kDcT g tt tk tv vs σ Q)
section
variable {X : Cx}
theorem pe_dcT {kx vx tg iter : Expr} {ifs : List Expr} {scope : Scope} {own : List (Str × Nat)} {pos : Pos} {wi : TI} {g : TG} {tt : TT} {tk tv : TE} (hu : X.A.units + 1 < cLine) (hc : X.calm = true) (hN : X.N.Nodup) (hi : PI X tg iter wi) (ok : BlkOk X.N X.env.scope scope own)
    (hg : ∀ (s : Shared) (H : Hp) (C : Addr) (cl : List (Str × Addr)) (fp : List Addr), PG (X.blk s H scope (compEnvC scope cl C X.env) fp) tg g) (ht : ∀ (s : Shared) (H : Hp) (C : Addr) (cl : List (Str × Addr)) (fp : List Addr), PTs (X.blk s H scope (compEnvC scope cl C X.env) fp) ifs tt)
    (hk : ∀ (s : Shared) (H : Hp) (C : Addr) (cl : List (Str × Addr)) (fp : List Addr), PE (X.blk s H scope (compEnvC scope cl C X.env) fp) kx tk)
    (he : ∀ (s : Shared) (H : Hp) (C : Addr) (cl : List (Str × Addr)) (fp : List Addr), PE (X.blk s H scope (compEnvC scope cl C X.env) fp) vx tv) (hs : ∀ x, foldedSetIterable iter X.env x = pure x := by intro _; rfl) :
    PE X (.DictComp kx vx [⟨tg, iter, ifs, 0⟩] scope pos) (tDcT wi g tt tk tv (own.map (·.2))) := by
  refine ⟨fun pins s σ H Q I h => ?_⟩
  rw [arm_eval_DictComp]
  have free : ∀ y ∈ scope.names, y.2 = .free → ∃ c, X.env.cells.lookup y.1 = some c := fun y hy e => by
    rcases ok.free y hy e with k | k
    · exact I.ok.has _ (.inl k)
    · exact I.ok.has _ (.inr k)
  refine wpAny_comprehension_free rfl hs (closure_ok free) ok.kind (fun y hy e => by rw [ok.uniq y hy, e])
    (thn (hi.run pins s σ H _ I h) fun xv s1 hx => thn hx fun itv s2 h2 => ?_)
  obtain ⟨it, fp, tn, J, H2, rfl, I2, T, st2, f2, q⟩ := h2
  refine wpAny_newObj_type (newEnv_comp ?_)
  generalize hD : s2.heap.objs.size = D
  have hDn : H2 D = none := I2.hok.fresh (Nat.le_of_eq hD)
  obtain ⟨W, ⟨m0, w0⟩, turn⟩ := q D hDn
  -- the dict, empty
  generalize hs3 : ({ s2 with heap := s2.heap.push { cls := .type "dict", data := .dict #[] } } : Shared) = s3
  have h3 : s3.heap = s2.heap.push { cls := .type "dict", data := .dict #[] } := by rw [← hs3]
  have I3 : Inv X pins σ (upd H2 D (.dT [])) s3 := by
    rw [← hs3]
    refine I2.laid (t' := s2.toks) (fun b o e => Heap.get?_push_of_some _ e) (Nat.le_of_eq hD) ?_
    rw [← hD]
    exact dt_empty s2.heap I2.big
  have old : ∀ b ∈ fp, b < s2.heap.objs.size := fun b hb =>
    let ⟨_, e, _⟩ := T.obj _ _ st2 b hb
    Heap.lt_size e
  have f3 : ∀ b ∈ fp, FpOk X pins (upd H2 D (.dT [])) b ∧ b < s3.heap.objs.size := fun b hb => by
    refine ⟨⟨?_, (f2 b hb).2⟩, by rw [h3, Heap.size_push]; exact Nat.lt_succ_of_lt (old b hb)⟩
    rw [upd_ne (by rw [← hD]; exact Nat.ne_of_lt (old b hb))]
    exact (f2 b hb).1
  have st3 : tn 0 s3.heap := T.keep _ _ _ st2 fun b _ o e => by rw [h3]; exact Heap.get?_push_of_some _ e
  have I4 := block_start I3 ok hN f3
  -- what is read within the block
  have pg := hg s3 (upd H2 D (.dT [])) s3.heap.objs.size (cellsFrom (s3.heap.objs.size + 1) scope.names (cloFrom X.env.cells scope.names [])) fp
  have pt := ht s3 (upd H2 D (.dT [])) s3.heap.objs.size (cellsFrom (s3.heap.objs.size + 1) scope.names (cloFrom X.env.cells scope.names [])) fp
  have pk := hk s3 (upd H2 D (.dT [])) s3.heap.objs.size (cellsFrom (s3.heap.objs.size + 1) scope.names (cloFrom X.env.cells scope.names [])) fp
  have pv := he s3 (upd H2 D (.dT [])) s3.heap.objs.size (cellsFrom (s3.heap.objs.size + 1) scope.names (cloFrom X.env.cells scope.names [])) fp
  show codeAny _ _ (.compStart (.DictComp kx vx [⟨tg, iter, ifs, 0⟩] scope pos) 0 (.ref it) (.ref D) (compEnvC scope (cellsFrom (s3.heap.objs.size + 1) scope.names (cloFrom X.env.cells scope.names [])) s3.heap.objs.size X.env)) (compPost (model X.prog X.w) X.A X.xe none (EP X pins σ Q) (.ref D) s3.heap.objs.size) { s3 with heap := pushCells (s3.heap.push { cls := .type "dict", data := .dict #[] }) scope.names }
  have nfp : ∀ b ∈ fp, (upd H2 D (.dT [])) b = none := fun b hb => (f3 b hb).1.1
  generalize hce : compEnvC scope (cellsFrom (s3.heap.objs.size + 1) scope.names (cloFrom X.env.cells scope.names [])) s3.heap.objs.size X.env = ce at I4 pg pt pk pv ⊢
  have cL : ce.locals = s3.heap.objs.size := by subst hce; rfl
  generalize hH3 : upd H2 D (.dT []) = H3 at I3 I4 pg pt pk pv w0 nfp f3
  generalize hs4 : ({ s3 with heap := pushCells (s3.heap.push { cls := .type "dict", data := .dict #[] }) scope.names } : Shared) = s4 at I4 ⊢
  have st4 : tn 0 s4.heap := T.keep _ _ _ st3 fun b _ o e => by rw [← hs4]; exact pushCells_keeps _ _ _ _ (Heap.get?_push_of_some _ e)
  have stat : ∀ {σ' : L2.St} {H' : Hp} {s' : Shared}, Inv (X.blk s3 H3 scope ce fp) [] σ' H' s' → (∀ b ∈ fp, H' b = none) → ∀ b ∈ fp, FpOk (X.blk s3 H3 scope ce fp) [] H' b := fun {σ' H' s'} I' hn b hb =>
    ⟨hn b hb, (I'.ok.exf b hb).1, I'.ok.exfs b hb, .inl hb, fun x c e => (I'.ok.exf b hb).2 x c e, fun p hp => absurd (show p ∈ ([] : List (Addr × Obj)) ++ [] from hp) (by simp)⟩
  refine codeAny_compStart_dict ?_ (T.self X.A 0 _ _ _ st4 ?_)
  all_goals
    refine compLoop_anyD (fun n s' => ∃ i H', Inv (X.blk s3 H3 scope ce fp) [] (wipe σ (own.map (·.2))) H' s' ∧ tn i s'.heap ∧ (∀ b ∈ fp, H' b = none) ∧ W i n H') ?_ m0 ⟨0, H3, I4, st4, nfp, w0⟩
    rintro n s5 ⟨i, H5, I5, st5, n5, w5⟩
    rcases turn i n H5 w5 with ⟨stop, qq⟩ | ⟨go, Nx, hNx, step⟩
    · refine thnF (T.done (X.blk s3 H3 scope ce fp) rfl rfl rfl hc i [] s5 _ H5 (fun _ _ => False) I5 (stat I5 n5) st5 stop) fun r s6 ⟨hr, I6⟩ => ?_
      subst hr
      have I7 : Inv X pins σ H5 s6 := I3.call' (ch := fp) I6.os I6.base I6.hok I6.bare fun b hb => ⟨(f3 b hb).1.2.2.2.1, (f3 b hb).1.2.1, (f3 b hb).1.2.2.2.2.1, (f3 b hb).1.2.2.2.2.2⟩
      have nC : H5 s3.heap.objs.size = none := by
        have z : H5 ce.locals = none := I6.free
        rw [cL] at z
        exact z
      obtain ⟨m, hn, _⟩ := I6.loc
      have hn : s6.heap.Ns ce.locals m := hn
      rw [cL] at hn
      refine ⟨m, hn, fun h'' sb => ?_⟩
      obtain ⟨g0, g1, g2, g3, g4, g5⟩ := I3.fpOk (Nat.le_refl _) nC
      exact ⟨.ref D, H5, I7.turned (t' := s6.toks) (fun b o hb e => (sb.2 b hb).trans e) g0 g1 g3 g4 g5, rfl, qq⟩
    · refine thnF (T.item (X.blk s3 H3 scope ce fp) rfl rfl rfl hc i [] s5 _ H5 (fun _ _ => False) I5 (stat I5 n5) st5 go) fun r s6 ⟨u, hr, h6⟩ => ?_
      subst hr
      refine thnF h6 fun _ s7 ⟨x, H7, I7, r7, y7, st7, n7⟩ => ?_
      refine thnF (pg.run _ s7 _ H7 x u _ (I7.pinned (stat I7 n7) (T.obj _ _ st7)) r7 (step x H7 y7)) fun _ s8 ⟨σ8, H8, I8, hw8, q8⟩ => ?_
      refine thnF (pt.run _ s8 σ8 H8 _ I8 q8) fun b s9 ⟨H9, I9, q9⟩ => ?_
      have fin : ∀ {s' : Shared} {H' : Hp}, Inv (X.blk s3 H3 scope ce fp) ([] ++ pinsAt fp s7.heap) σ8 H' s' → Nx H' → ∃ m, m < n ∧ ∃ i H', Inv (X.blk s3 H3 scope ce fp) [] (wipe σ (own.map (·.2))) H' s' ∧ tn i s'.heap ∧ (∀ b ∈ fp, H' b = none) ∧ W i m H' := fun {s' H'} I' nx => by
        obtain ⟨m', hm, w'⟩ := hNx H' nx
        have pin' : ∀ b ∈ fp, ∀ o, s7.heap.get? b = some o → s'.heap.get? b = some o ∧ H' b = none := fun b hb o e =>
          let z := I'.pin (b, o) (List.mem_append_right _ (List.mem_append_right _ (mem_pinsAt hb e)))
          ⟨z.1, z.2.1⟩
        refine ⟨m', hm, i + 1, H', (I'.unpinned (pins := [])).weak (by rw [← hw8, wipe_length]) (fun j v e => ?_), T.keep _ _ _ st7 fun b hb o e => (pin' b hb o e).1, fun b hb => ?_, w'⟩
        · rw [← hw8] at e
          exact (wipe_some e).1
        · obtain ⟨o, e, _⟩ := T.obj _ _ st7 b hb
          exact (pin' b hb o e).2
      cases b with
      | false =>
        simp only [Bool.false_eq_true, if_false] at q9 ⊢
        exact fin I9 q9
      | true =>
        simp only [if_true] at q9 ⊢
        refine thnF (pk.run _ s9 σ8 H9 _ I9 q9) fun z s10 ⟨yk, H10, I10, r10, q10⟩ => ?_
        refine thnF (pv.run _ s10 σ8 H10 _ I10 q10) fun z2 s11 ⟨yv, H11, I11, r11, H12, hp, nx⟩ => ?_
        exact c_put (X := X.blk s3 H3 scope ce fp) hu I11 hp r10 r11 fun s12 I12 => fin I12 nx
end
end Rd

set_option maxHeartbeats 4000000
/-! OwnFor: loops and comprehensions over an object whose own __iter__ returns a list's iterator. -/
namespace Rd
open PySem PySem.Spec L2 PyProof.Rows ItX
/-! ### a base as large as is wanted -/
def freedObj : Obj := { cls := .none, data := .freed }
def padB (N : Nat) (b : Heap) : Heap := { b with objs := b.objs ++ Array.replicate (N - b.objs.size) freedObj }
theorem padB_get (N : Nat) (b : Heap) (a : Addr) : (padB N b).get? a = b.get? a := by
  unfold padB Heap.get?
  dsimp only
  rw [Array.getElem?_append]
  by_cases h : a < b.objs.size
  · rw [if_pos h]
  · rw [if_neg h, Array.getElem?_eq_none (Nat.le_of_not_lt h), Array.getElem?_replicate]
    by_cases h2 : a - b.objs.size < N - b.objs.size
    · rw [if_pos h2]
      rfl
    · rw [if_neg h2]
theorem padB_size {N : Nat} {b : Heap} (h : b.objs.size ≤ N) : (padB N b).objs.size = N := by
  show (b.objs ++ Array.replicate (N - b.objs.size) freedObj).size = N
  rw [Array.size_append, Array.size_replicate]
  omega
/-- a def whose results know the base's size -/
def FnY (P : Program) (w : World) (K : PySem.W.Frag) (mg : Str → Option Value) (k : Nat) (f : Addr) (sp : Nat → Sp) : Prop := ∀ base : Heap, K.In base → base.Ns mainGlobals mg → FnR P w K mg base CX0 k f (sp base.objs.size)
theorem env_pad {P : Program} {w : World} {K : PySem.W.Frag} {mg : Str → Option Value} {base : Heap} {A : Around} {outer : List Env} {s : Shared} {H : Hp} {N : Nat} (e : Env0 P w K mg base A outer s H) (hf : ∀ L ∈ frs outer, base.get? L = none) (h : base.objs.size ≤ N) (hN : N ≤ s.heap.objs.size) : Env0 P w K mg (padB N base) A outer s H := by
  have k : ∀ b o, base.get? b = some o → (padB N base).get? b = some o := fun b o q => (padB_get N base b).trans q
  obtain ⟨e1, ⟨m1, m2, ⟨mb, m3, m4⟩, m5⟩, e3, e4, e5, e6, e7, e8⟩ := e
  exact ⟨e1, ⟨m1.keeps k, m2.keeps k, ⟨mb, m3.keeps k, m4⟩, m5.keeps k⟩, fun b o q => e3 b o ((padB_get N base b).symm.trans q), by rw [padB_size h]; exact hN, funFrames_none e5 fun L hL => (padB_get N base L).trans (hf L hL), e6, e7, e8⟩
/-! ### iter(list), young -/
section
variable {X : Cx}
theorem call_iterB : CallR X (.builtin "iter") (rIterN X.K X.base.objs.size) := by
  intro pins s σ H xs us Q I r h
  obtain ⟨l, zs, rfl, hq, q⟩ := h
  obtain ⟨u, rfl, ru⟩ := vals1 r
  cases ru
  obtain ⟨its, rv, pl, hz⟩ := I.list hq
  refine GNX.call_iter pl.isList ?_
  exact ⟨.ref s.heap.objs.size, _, I.laid (t' := s.toks) (fun b u e => Heap.get?_push_of_some _ e) (Nat.le_refl _) (itO_ok (Heap.get?_push_size _ rfl)), rfl, q _ (I.hok.fresh (Nat.le_refl _)) (Nat.le_trans I.ok.bsz I.sz)⟩
theorem K_iterB {K : PySem.W.Frag} {base : Heap} (hK : X.K = K) (hB : X.base = base) : CallR X (.builtin "iter") (rIterN K base.objs.size) := by
  subst hK hB
  exact call_iterB
theorem r_iterB {K : PySem.W.Frag} {H : Hp} {Q : VK} {l : Addr} {zs : List V} {N : Nat} (h : SqL K H l zs) (q : ∀ it, H it = none → N ≤ it → Q (.ref it) (upd H it (ItO l it 0))) : rIterN K N [.ref l] H Q := ⟨l, zs, rfl, h, q⟩
end
/-! ### over an object -/
def kOwn (K : PySem.W.Frag) (C : Addr) (sp : Sp) (N : Nat) (R : It → Hp → Prop) : VK := fun v H1 => ∃ a dx fs l, v = .ref a ∧ H1 a = some (.ins C dx fs) ∧
  sp [.ref a] H1 (fun u H2 => ∃ it, u = .ref it ∧ H1 it = none ∧ N ≤ it ∧ H2 = upd H1 it (ItO l it 0) ∧ R (Itl K l) H1) E0
def iOwn (K : PySem.W.Frag) (C : Addr) (sp : Nat → Sp) (N : Nat) (td : TE) : TI := fun σ H R => td σ H (kOwn K C (sp N) N R)
theorem itlF_0 (K : PySem.W.Frag) (l : Addr) : ItlF K l 0 = Itl K l := by
  unfold ItlF
  simp only [Nat.zero_add]
section
variable {X : Cx}
theorem pi_own {tg e : Expr} {td : TE} {C f : Addr} {sp : Nat → Sp} {n : Nat} (he : PE X e td) (it_ : PySem.W.findIn X.K (.ref C) "__iter__" = some (some (.ref f))) (itF : PySem.W.isFn X.K (.ref f) = true) (FI : FnY X.prog X.w X.K X.mg n f sp) (hr : Room n X.A) :
    PI X tg e (iOwn X.K C sp X.s_0.heap.objs.size td) := by
  refine ⟨fun pins s σ H R I h => ?_⟩
  refine thn (he.run pins s σ H _ I h) fun u s1 ⟨v, H1, I1, rv, a, dx, fs, l, ev, ha, q⟩ => ?_
  subst ev
  cases rv
  obtain ⟨mA, J, _⟩ := ins_get I1.hok ha
  obtain ⟨od, J, _⟩ := J.look
  obtain ⟨m0, hF⟩ := I1.fr
  refine PySem.W.owit_iter hF I1.ok.mod.kin J it_ itF ?_
  have e := I1.env0
  have hfr : ∀ L ∈ frs X.stack, X.base.get? L = none := fun L hL => by
    cases q : X.base.get? L with
    | none => rfl
    | some o => exact absurd hL (fun z => by
        have := I1.stack.mem z
        rw [q] at this
        cases this.1)
  have e' := env_pad (N := X.s_0.heap.objs.size) e hfr I1.ok.bsz I1.sz
  have k : ∀ b o, X.base.get? b = some o → (padB X.s_0.heap.objs.size X.base).get? b = some o := fun b o q => (padB_get _ X.base b).trans q
  have F := FI (padB X.s_0.heap.objs.size X.base) (I1.ok.mod.kin.keeps k) (I1.ok.mod.glob.keeps k)
  rw [padB_size I1.ok.bsz] at F
  refine wpAny_call (codeAny_mono (F X.A X.stack s1 H1 [.ref a] [.ref a] _ E0 hr e' (.cons rfl .nil) q) fun r s' z => ?_)
  cases r with
  | error e => exact False.elim z
  | ok fl =>
    cases fl with
    | next => exact False.elim z
    | brk => exact False.elim z
    | cont => exact False.elim z
    | ret u =>
      obtain ⟨v, H2, I2, rv, it, rfl, hn, hN, rfl, qR⟩ := I1.after z
      cases (show u = Value.ref it from rv)
      have hi : upd H1 it (ItO l it 0) it = some (ItO l it 0) := upd_same
      have eo := itO_get I2 hi
      have st : s'.heap.IsListIter it l (0 + 0) := ⟨_, eo, rfl, rfl⟩
      have hty : s'.TypeIs (.ref it) "list_iterator" := ⟨_, eo, rfl⟩
      have hi' := hi
      unfold ItO at hi'
      have I3 := inv_drop I2 hi'
      have ed : dropH (upd H1 it (ItO l it 0)) it = H1 := dropH_upd hn
      have fp := inv_fp I2 hi hN
      rw [ed] at I3 fp
      unfold PySem.W.OwitIt
      refine wpAny_specialOf hty slot_listiter_next.lookup ?_
      refine ⟨it, [it], (fun i h => h.IsListIter it l (0 + i)), Itl X.K l, H1, rfl, I3, ?_, st, fun b hb => ?_, qR⟩
      · rw [← itlF_0]
        exact turn_listF l it 0
      · have e : b = it := by simpa using hb
        rw [e]
        exact fp
end
end Rd

set_option maxHeartbeats 4000000
/-! Lc2: [e for x in a for y in b]. -/
namespace Rd
open PySem PySem.Spec L2 StX
def kIn2 (g1 : TG) (tt1 : TT) (te : TE) (vs1 : List Nat) (σ2 : St) (D : Addr) (Nx : Hp → Prop) : It → Hp → Prop := fun J1 H4 => ∃ W1 : Nat → Nat → Hp → Prop, (∃ m, W1 0 m H4) ∧ ∀ j k H, W1 j k H →
  (J1.stop j H ∧ Nx H) ∨ (J1.go j H ∧ ∃ Nx1 : Hp → Prop, (∀ H', Nx1 H' → ∃ k', k' < k ∧ W1 (j + 1) k' H') ∧ ∀ x H', J1.yld j H x H' → g1 x (wipe σ2 vs1) H' (kTurn tt1 te (wipe σ2 vs1) vs1 D Nx1))
def kKeep2 (wi1 : TI) (g1 : TG) (tt1 : TT) (te : TE) (vs1 : List Nat) (σ2 : St) (D : Addr) (Nx : Hp → Prop) : Bool → Hp → Prop := fun b H3 => if b = true then wi1 σ2 H3 (kIn2 g1 tt1 te vs1 σ2 D Nx) else Nx H3
def kTurn2 (tt : TT) (wi1 : TI) (g1 : TG) (tt1 : TT) (te : TE) (vs vs1 : List Nat) (σ0 : St) (D : Addr) (Nx : Hp → Prop) : St → Hp → Prop := fun σ2 H2 => wipe σ2 vs = σ0 ∧ tt σ2 H2 (kKeep2 wi1 g1 tt1 te vs1 σ2 D Nx)
def kLc2 (g : TG) (tt : TT) (wi1 : TI) (g1 : TG) (tt1 : TT) (te : TE) (vs vs1 : List Nat) (σ : St) (Q : VK) : It → Hp → Prop := fun J H1 => ∀ D, H1 D = none → ∃ W : Nat → Nat → Hp → Prop, (∃ m, W 0 m (upd H1 D (.lst []))) ∧ ∀ i m H, W i m H →
  (J.stop i H ∧ Q (.ref D) H) ∨ (J.go i H ∧ ∃ Nx : Hp → Prop, (∀ H', Nx H' → ∃ m', m' < m ∧ W (i + 1) m' H') ∧ ∀ x H', J.yld i H x H' → g x (wipe σ vs) H' (kTurn2 tt wi1 g1 tt1 te vs vs1 (wipe σ vs) D Nx))
section
variable {σ : St} {H : Hp} {Q : VK} {wi wi1 : TI} {g g1 : TG} {tt tt1 : TT} {te : TE} {vs vs1 : List Nat} {J J1 : It} {n : Nat} {G : Hp → Prop} {Y : Nat → Hp → V → Hp → Prop} {D p : Addr} {K : PySem.W.Frag} {xs : List V}
theorem r_lc2 (q : wi σ H (kLc2 g tt wi1 g1 tt1 te vs vs1 σ Q)) : tLc2 wi g tt wi1 g1 tt1 te vs vs1 σ H Q := q
theorem r_kTurn2 {σ0 : St} {Nx : Hp → Prop} (h : wipe σ vs = σ0) (q : tt σ H (kKeep2 wi1 g1 tt1 te vs1 σ D Nx)) : kTurn2 tt wi1 g1 tt1 te vs vs1 σ0 D Nx σ H := ⟨h, q⟩
theorem r_kKeep2 {Nx : Hp → Prop} {b : Bool} (h : b = true) (q : wi1 σ H (kIn2 g1 tt1 te vs1 σ D Nx)) : kKeep2 wi1 g1 tt1 te vs1 σ D Nx b H := by
  subst h
  exact q
theorem r_kLc2 (w : Walk J n G Y) (Pv : Addr → Nat → List V → Hp → Prop) (h0 : ∀ D H', H D = none → Kp [] H H' → H' D = some (.lst []) → Pv D 0 [] H') (hG : ∀ D i acc H', i ≤ n → Pv D i acc H' → G H')
    (hs : ∀ D i acc x H' H'', H D = none → i < n → H' D = some (.lst acc) → Pv D i acc H' → Y i H' x H'' → g x (wipe σ vs) H'' (kTurn2 tt wi1 g1 tt1 te vs vs1 (wipe σ vs) D (kN (Pv D (i + 1)) D)))
    (hd : ∀ D acc H', H D = none → H' D = some (.lst acc) → Pv D n acc H' → Q (.ref D) H') : kLc2 g tt wi1 g1 tt1 te vs vs1 σ Q J H := by
  intro D hD
  refine ⟨fun i m H => m = n - i ∧ i ≤ n ∧ kN (Pv D i) D H, ⟨n, by simp, Nat.zero_le _, [], upd_same, h0 D _ hD (Kp.new hD) upd_same⟩, ?_⟩
  rintro i m H' ⟨rfl, hi, acc, e, pv⟩
  have q := hG D i acc H' hi pv
  by_cases hlt : i < n
  · exact .inr ⟨w.goes i H' hlt q, kN (Pv D (i + 1)) D, fun H'' p' => ⟨n - (i + 1), by omega, rfl, hlt, p'⟩, fun x H'' y => hs D i acc x H' H'' hD hlt e pv (w.yields i H' x H'' hlt q y)⟩
  · have ei : i = n := by omega
    subst ei
    exact .inl ⟨w.stops H' q, hd D acc H' hD e pv⟩
theorem r_kIn2 (w : Walk J1 n G Y) (Pv : Nat → List V → Hp → Prop) {PN : List V → Hp → Prop} {acc0 : List V} (e0 : H D = some (.lst acc0)) (h0 : Pv 0 acc0 H) (hG : ∀ i acc H', i ≤ n → Pv i acc H' → G H')
    (hs : ∀ i acc x H' H'', i < n → H' D = some (.lst acc) → Pv i acc H' → Y i H' x H'' → g1 x (wipe σ vs1) H'' (kTurn tt1 te (wipe σ vs1) vs1 D (kN (Pv (i + 1)) D)))
    (hd : ∀ acc H', H' D = some (.lst acc) → Pv n acc H' → PN acc H') : kIn2 g1 tt1 te vs1 σ D (kN PN D) J1 H := by
  refine ⟨fun i m H => m = n - i ∧ i ≤ n ∧ kN (Pv i) D H, ⟨n, by simp, Nat.zero_le _, acc0, e0, h0⟩, ?_⟩
  rintro i m H' ⟨rfl, hi, acc, e, pv⟩
  have q := hG i acc H' hi pv
  by_cases hlt : i < n
  · exact .inr ⟨w.goes i H' hlt q, kN (Pv (i + 1)) D, fun H'' p' => ⟨n - (i + 1), by omega, rfl, hlt, p'⟩, fun x H'' y => hs i acc x H' H'' hlt e pv (w.yields i H' x H'' hlt q y)⟩
  · have ei : i = n := by omega
    subst ei
    exact .inl ⟨w.stops H' q, acc, e, hd acc H' e pv⟩
theorem r_kLc2Q (Pv : Addr → Nat → List V → Hp → Prop) (hq : Sq K H p xs) (h0 : ∀ D H', H D = none → Kp [] H H' → H' D = some (.lst []) → Pv D 0 [] H') (hG : ∀ D i acc H', i ≤ xs.length → Pv D i acc H' → Kp [] H H')
    (hs : ∀ D (i : Nat) acc x H', H D = none → xs[i]? = some x → H' D = some (.lst acc) → Pv D i acc H' → g x (wipe σ vs) H' (kTurn2 tt wi1 g1 tt1 te vs vs1 (wipe σ vs) D (kN (Pv D (i + 1)) D)))
    (hd : ∀ D acc H', H D = none → H' D = some (.lst acc) → Pv D xs.length acc H' → Q (.ref D) H') : cWQ K (kLc2 g tt wi1 g1 tt1 te vs vs1 σ Q) (.ref p) H := by
  rcases hq with h | h
  · refine r_cWQl h (r_kLc2 walk_list Pv h0 (fun D i acc H' hi p => sql_kp h (hG D i acc H' hi p) not_nil) (fun D i acc x H' H'' hD hi e hp y => ?_) hd)
    obtain ⟨rfl, ey⟩ := y
    exact hs D i acc x _ hD ey e hp
  · refine r_cWQt h (r_kLc2 walk_tup Pv h0 (fun D i acc H' hi p => sqt_kp h (hG D i acc H' hi p) not_nil) (fun D i acc x H' H'' hD hi e hp y => ?_) hd)
    obtain ⟨rfl, ey⟩ := y
    exact hs D i acc x _ hD ey e hp
theorem r_kIn2R {m : Nat} (Pv : Nat → List V → Hp → Prop) {PN : List V → Hp → Prop} {acc0 : List V} (e0 : H D = some (.lst acc0)) (h0 : Pv 0 acc0 H)
    (hs : ∀ (i : Nat) acc H', i < m → H' D = some (.lst acc) → Pv i acc H' → g1 (.int (i : Int)) (wipe σ vs1) H' (kTurn tt1 te (wipe σ vs1) vs1 D (kN (Pv (i + 1)) D)))
    (hd : ∀ acc H', H' D = some (.lst acc) → Pv m acc H' → PN acc H') : kIn2 g1 tt1 te vs1 σ D (kN PN D) (Itr 0 m) H := by
  refine r_kIn2 walk_range Pv e0 h0 (fun _ _ _ _ _ => trivial) (fun i acc x H' H'' hi e hp y => ?_) hd
  obtain ⟨rfl, rfl⟩ := y
  have e' : V.int ((0 : Int) + (i : Int)) = V.int (i : Int) := congrArg V.int (by omega)
  show g1 (V.int ((0 : Int) + (i : Int))) (wipe σ vs1) _ _
  rw [e']
  exact hs i acc _ hi e hp
end
end Rd

set_option maxHeartbeats 4000000
/-! SlM: readings for dict comprehensions with tuple keys and d[k]; classmethods; cls(*xs). -/
namespace Rd
open PySem PySem.Spec L2 PyProof.Rows
section
variable {σ : L2.St} {H : Hp} {Q : VK} {wi : TI} {g : TG} {tt : TT} {tk tv : TE} {vs : List Nat} {J : It} {n : Nat} {G : Hp → Prop} {Y : Nat → Hp → V → Hp → Prop} {p : Addr} {K : PySem.W.Frag} {xs : List V} {x y : V}
def kNT (Pv : List (List Key × V) → Hp → Prop) (D : Addr) : Hp → Prop := fun H' => ∃ kvs, H' D = some (.dT kvs) ∧ Pv kvs H'
def kPutT (D : Addr) (N : Hp → Prop) (y : V) : VK := fun z H5 => ∃ H6, DPut H5 D y z H6 ∧ N H6
def kKeepT (tk tv : TE) (σ : L2.St) (D : Addr) (N : Hp → Prop) : Bool → Hp → Prop := fun b H3 => if b = true then tk σ H3 (fun y H4 => tv σ H4 (kPutT D N y)) else N H3
def kTurnT (tt : TT) (tk tv : TE) (σ0 : L2.St) (vs : List Nat) (D : Addr) (N : Hp → Prop) : L2.St → Hp → Prop := fun σ2 H2 => wipe σ2 vs = σ0 ∧ tt σ2 H2 (kKeepT tk tv σ2 D N)
theorem r_dcT (q : wi σ H (kDcT g tt tk tv vs σ Q)) : tDcT wi g tt tk tv vs σ H Q := q
theorem r_kTurnT {σ0 : L2.St} {D : Addr} {N : Hp → Prop} (h : wipe σ vs = σ0) (q : tt σ H (kKeepT tk tv σ D N)) : kTurnT tt tk tv σ0 vs D N σ H := ⟨h, q⟩
theorem r_kKeepT1 {D : Addr} {N : Hp → Prop} {b : Bool} (h : b = true) (q : tk σ H (fun y H4 => tv σ H4 (kPutT D N y))) : kKeepT tk tv σ D N b H := by
  subst h
  exact q
theorem r_kPutT {D b : Addr} {kvs : List (List Key × V)} {k : List Key} {Pv : List (List Key × V) → Hp → Prop} (e : H D = some (.dT kvs)) (eb : H b = some (.tup (k.map kV))) (h : kvs.length < sizeLine) (q : ∀ H5, Kp [D] H H5 → H5 D = some (.dT (putK kvs k y)) → Pv (putK kvs k y) H5) : kPutT D (kNT Pv D) (.ref b) y H :=
  ⟨_, DPut.t e eb h, _, upd_same, q _ (Kp.put (by simp)) upd_same⟩
theorem r_kDcT (w : Walk J n G Y) (Pv : Addr → Nat → List (List Key × V) → Hp → Prop) (h0 : ∀ D H', H D = none → Kp [] H H' → H' D = some (.dT []) → Pv D 0 [] H') (hG : ∀ D i acc H', i ≤ n → Pv D i acc H' → G H')
    (hs : ∀ D i acc x H' H'', H D = none → i < n → H' D = some (.dT acc) → Pv D i acc H' → Y i H' x H'' → g x (wipe σ vs) H'' (kTurnT tt tk tv (wipe σ vs) vs D (kNT (Pv D (i + 1)) D)))
    (hd : ∀ D acc H', H D = none → H' D = some (.dT acc) → Pv D n acc H' → Q (.ref D) H') : kDcT g tt tk tv vs σ Q J H := by
  intro D hD
  refine ⟨fun i m H' => m = n - i ∧ i ≤ n ∧ kNT (Pv D i) D H', ⟨n, by simp, Nat.zero_le _, [], upd_same, h0 D _ hD (Kp.new hD) upd_same⟩, ?_⟩
  rintro i m H' ⟨rfl, hi, acc, e, p⟩
  have q := hG D i acc H' hi p
  by_cases hlt : i < n
  · exact .inr ⟨w.goes i H' hlt q, kNT (Pv D (i + 1)) D, fun H2 p' => ⟨n - (i + 1), by omega, rfl, hlt, p'⟩, fun x H2 y => hs D i acc x H' H2 hD hlt e p (w.yields i H' x H2 hlt q y)⟩
  · have e' : i = n := by omega
    subst e'
    exact .inl ⟨w.stops H' q, hd D acc H' hD e p⟩
theorem r_kDcTT (Pv : Addr → Nat → List (List Key × V) → Hp → Prop) (h0 : ∀ D H', H D = none → Kp [] H H' → H' D = some (.dT []) → Pv D 0 [] H') (hG : ∀ D i acc H', i ≤ xs.length → Pv D i acc H' → SqT K H' p xs)
    (hs : ∀ D (i : Nat) acc x H', H D = none → xs[i]? = some x → H' D = some (.dT acc) → Pv D i acc H' → g x (wipe σ vs) H' (kTurnT tt tk tv (wipe σ vs) vs D (kNT (Pv D (i + 1)) D)))
    (hd : ∀ D acc H', H D = none → H' D = some (.dT acc) → Pv D xs.length acc H' → Q (.ref D) H') : kDcT g tt tk tv vs σ Q (Itt K p) H := by
  refine r_kDcT walk_tup Pv h0 hG (fun D i acc x H' H'' hD hi e hp y => ?_) hd
  obtain ⟨rfl, ey⟩ := y
  exact hs D i acc x _ hD ey e hp
theorem r_kDGT {D b : Addr} {kvs : List (List Key × V)} {k : List Key} {v : V} (e : H D = some (.dT kvs)) (eb : H b = some (.tup (k.map kV))) (hv : valV kvs k = some v) (q : Q v H) : kDG Q (.ref D) (.ref b) H :=
  ⟨D, v, rfl, hv ▸ DGet.t e eb, q⟩
/-- iteration over an object -/
theorem r_own {C : Addr} {sp : Nat → Sp} {N : Nat} {td : TE} {R : It → Hp → Prop} (q : td σ H (kOwn K C (sp N) N R)) : iOwn K C sp N td σ H R := q
theorem r_sortMD {a : Addr} {kvs : List (List Key × V)} (e : H a = some (.dT kvs)) (hg : ∀ q ∈ kvs, goodK q.1 = true) (q : ∀ p H' ts, H p = none → Kp [] H H' → H' p = some (.lst (ts.map V.ref)) → Paired (fun t k => H t = some (.tup (k.map kV))) ts (srtK (kvs.map Prod.fst)) → Q (.ref p) H') : rSortMD [.ref a] H Q :=
  ⟨a, kvs, rfl, .inl e, hg, fun p ts n h => q p _ ts n (Kp.new n) upd_same h⟩
end
/-! ### C.m(e, ..), m a classmethod -/
def kCMeth (C : Addr) (sp : Sp) (E : XK) (t : TA) (σ : L2.St) (Q : VK) : VK := fun x H1 => x = .ref C ∧ t σ H1 fun vs H2 => sp (.ref C :: vs) H2 Q E
def tCMethR (C : Addr) (sp : Sp) (E : XK) (ta : TE) (t : TA) : TE := fun σ H Q => ta σ H (kCMeth C sp E t σ Q)
def UseCM (P : Program) (w : World) (K : PySem.W.Frag) (mg : Str → Option Value) (base : Heap) (n : Nat) (C : Addr) (m : Str) (sp : Sp) : Prop := ∃ mc p g, FnR P w K mg base CX0 n g sp ∧ ClX.CRead K C mc ∧ ClX.CMet K C mc m p g
def UseIt (P : Program) (w : World) (K : PySem.W.Frag) (mg : Str → Option Value) (n : Nat) (C : Addr) (sp : Nat → Sp) : Prop := ∃ f, FnY P w K mg n f sp ∧ PySem.W.findIn K (.ref C) "__iter__" = some (some (.ref f)) ∧ PySem.W.isFn K (.ref f) = true
section
variable {X : Cx} {CX : CXT} {k : Nat} {C p g : Addr} {mc : Value} {sp : Sp} {E : XK} {o e : Expr} {es : List Expr} {m : Str} {pos apos : Pos} {ta : TE} {t : TA} {pl : Sem Bool}
theorem pe_cmethR (he : PE X o ta) (r : ClX.CRead X.K C mc) (c : ClX.CMet X.K C mc m p g) (F : FnR X.prog X.w X.K X.mg X.base CX k g sp) (hr : Room k X.A) (hx : Passes CX X E) (ha : PA X (e :: es) t)
    (hst : starEach (e :: es) X.env = (false, eval e X.env) :: starEach es X.env := by rfl) (hpl : (backTo pos (starEach es X.env)).any (·.1) = false := by rfl)
    (ht : eval (.Call (.Attribute o m apos) (e :: es) [] pos) X.env = (do
      let ov ← eval o X.env
      standAt apos.atName
      let (f, first) ← holding [ov] (getMethod ov m pl)
      callWith pos f first (backTo pos (starEach (e :: es) X.env)) (backToKw pos (keywordEach [] X.env))) := by rfl) :
    PE X (.Call (.Attribute o m apos) (e :: es) [] pos) (tCMethR C sp E ta t) := ClX.pe_cmeth he r c F hr hx ha hst hpl ht
end
section
variable {C : Addr} {sp : Sp} {E : XK} {ta : TE} {t : TA} {σ : L2.St} {H : Hp} {Q : VK}
theorem r_cmeth (q : ta σ H (kCMeth C sp E t σ Q)) : tCMethR C sp E ta t σ H Q := q
theorem r_kCMeth (q : t σ H fun vs H2 => sp (.ref C :: vs) H2 Q E) : kCMeth C sp E t σ Q (.ref C) H := ⟨rfl, q⟩
end
/-! ### X(*xs); cls(*xs), cls a local name that holds a class -/
def kMakeS1 (K : PySem.W.Frag) (C : Addr) (sp : Sp) (E : XK) (Q : VK) : VK := fun y H1 => ∃ a xs, y = V.ref a ∧ (SqT K H1 a xs ∨ SqL K H1 a xs) ∧ ∀ x dx, H1 x = none → H1 dx = none → dx ≠ x → sp (V.ref x :: xs) (upd (upd H1 dx (.own x)) x (.ins C dx [])) (kMade x Q) E
def tMakeS1 (K : PySem.W.Frag) (C : Addr) (sp : Sp) (E : XK) (te : TE) : TE := fun σ H Q => te σ H (kMakeS1 K C sp E Q)
def tMakeV (K : PySem.W.Frag) (i : Nat) (C : Addr) (sp : Sp) (E : XK) (te : TE) : TE := fun σ H Q => σ[i]? = some (some (.ref C)) ∧ te σ H (kMakeS1 K C sp E Q)
section
variable {X : Cx} {CX : CXT} {k i : Nat} {f C : Addr} {sp : Sp} {E : XK} {x : Str} {e : Expr} {te : TE} {p q0 pos : Pos} {K : PySem.W.Frag}
theorem pe_makeVS (hK : X.K = K) (M : Mk K C f) (F : FnR X.prog X.w X.K X.mg X.base CX k f sp) (hr : Room (k + 1) X.A) (hN : X.N[i]? = some x) (hv : Vis X.env.scope x) (hx : Passes CX X E) (he : PE X e te)
    (hd : (x == ("__debug__" : Str)) = false := by decide) (hcd : (x == ("__classdict__" : Str)) = false := by decide)
    (hst : starEach [.Starred e q0] X.env = [(true, eval e X.env)] := by rfl) : PE X (.Call (.Name x p) [.Starred e q0] [] pos) (tMakeV K i C sp E te) := by
  subst hK
  refine ⟨fun pins s σ H Q I h => ?_⟩
  obtain ⟨hs, h⟩ := h
  refine wpAny_Call_Name_kw (thn ((pe_var (pos := p) (i := i) hN hv hd hcd).run pins s σ H (fun v H1 => v = .ref C ∧ H1 = H) I ⟨.ref C, hs, rfl, rfl⟩) fun u s1 ⟨v, H1, I1, r1, ev, eH⟩ => ?_)
  subst ev
  rw [eH] at I1
  cases r1
  refine PySem.W.callWith_S (h₀ := X.base) I1.ok.mod.kin M.kp (thn (he.run pins s1 σ H _ I1 h) fun v s2 ⟨y, H2, I2, ry, a, xs, ey, hxs, q⟩ => ?_) hst
  subst ey
  obtain rfl : v = Value.ref a := ry
  exact StX.star_any I2 hxs fun us s3 I3 rv => ⟨I3.kIn, StX.run_makeR M F hr hx I3 rv q⟩
theorem pe_makeS1 (hK : X.K = K) (M : Mk K C f) (F : FnR X.prog X.w X.K X.mg X.base CX k f sp) (hr : Room (k + 1) X.A) (hg : Gl X x) (hm : X.mg x = some (.ref C)) (hx : Passes CX X E) (he : PE X e te) (hdb : (x == ("__debug__" : Str)) = false := by decide)
    (hst : starEach [.Starred e q0] X.env = [(true, eval e X.env)] := by rfl) : PE X (.Call (.Name x p) [.Starred e q0] [] pos) (tMakeS1 K C sp E te) := by
  subst hK
  refine ⟨fun pins s σ H Q I h => ?_⟩
  refine wpAny_Call_Name_kw (ld_glob I hg hm ?_ hdb)
  refine PySem.W.callWith_S (h₀ := X.base) I.ok.mod.kin M.kp (thn (he.run pins s σ H _ I h) fun v s2 ⟨y, H2, I2, ry, a, xs, ey, hxs, q⟩ => ?_) hst
  subst ey
  obtain rfl : v = Value.ref a := ry
  exact StX.star_any I2 hxs fun us s3 I3 rv => ⟨I3.kIn, StX.run_makeR M F hr hx I3 rv q⟩
end
section
variable {K : PySem.W.Frag} {C a : Addr} {sp : Sp} {E : XK} {te : TE} {σ : L2.St} {H : Hp} {Q : VK} {i : Nat} {xs : List V}
theorem r_makeS1 (q : te σ H (kMakeS1 K C sp E Q)) : tMakeS1 K C sp E te σ H Q := q
theorem r_makeV (h : σ[i]? = some (some (.ref C))) (q : te σ H (kMakeS1 K C sp E Q)) : tMakeV K i C sp E te σ H Q := ⟨h, q⟩
theorem r_kMakeS1 (h : SqL K H a xs) (q : ∀ x dx H', H x = none → Kp [] H H' → H' x = some (.ins C dx []) → sp (V.ref x :: xs) H' (kMade x Q) E) : kMakeS1 K C sp E Q (.ref a) H :=
  ⟨a, xs, rfl, .inr h, fun x dx n1 n2 ne => q x dx _ n1 ((Kp.new (ex := []) n2).trans (Kp.new (by rw [upd_ne (fun e => ne e.symm)]; exact n1))) upd_same⟩
end
/-! ### iteration; is True -/
theorem K_pown {X : Cx} {K : PySem.W.Frag} {tg e : Expr} {td : TE} {C f : Addr} {sp : Nat → Sp} {n : Nat} (hK : X.K = K) (he : PE X e td) (it_ : PySem.W.findIn K (.ref C) "__iter__" = some (some (.ref f))) (itF : PySem.W.isFn K (.ref f) = true) (FI : FnY X.prog X.w K X.mg n f sp) (hr : Room n X.A) :
    PI X tg e (iOwn K C sp X.s_0.heap.objs.size td) := by
  subst hK
  exact pi_own he it_ itF FI hr
def rIsBl : R2 := fun x y H Q => ∃ a b, x = .bl a ∧ y = .bl b ∧ Q (.bl (a == b)) H
theorem op_isBl {X : Cx} : OpR X (compareOp .Is) rIsBl := by
  intro pins s σ H x y v u Q I rx ry h
  obtain ⟨a, b, rfl, rfl, q⟩ := h
  cases rx
  cases ry
  refine wpAny_is_plain rfl ⟨.bl (a == b), H, I, ?_, q⟩
  cases a <;> cases b <;> rfl
theorem r_isBl {a b : Bool} {H : Hp} {Q : VK} (q : Q (.bl (a == b)) H) : rIsBl (.bl a) (.bl b) H Q := ⟨a, b, rfl, rfl, q⟩
theorem r_kOwn {K : PySem.W.Frag} {C : Addr} {sp : Sp} {N : Nat} {R : It → Hp → Prop} {H : Hp} {a dx l : Addr} {fs : List (Str × V)} (e : H a = some (.ins C dx fs)) (q : sp [.ref a] H (fun u H2 => ∃ it, u = .ref it ∧ H it = none ∧ N ≤ it ∧ H2 = upd H it (ItO l it 0) ∧ R (Itl K l) H) E0) : kOwn K C sp N R (.ref a) H :=
  ⟨a, dx, fs, l, rfl, e, q⟩
/-! ### list(range(n)) -/
def kLR1 (Q : VK) : VK := fun x H1 => ∃ n, x = .int n ∧ RgOk 0 n ∧ ∀ q, H1 q = none → Q (.ref q) (upd H1 q (.lst (rgV 0 n)))
def tLR1 (ta : TE) : TE := fun σ H Q => ta σ H (kLR1 Q)
theorem pe_lr1 {X : Cx} {a : Expr} {ta : TE} {p q p2 q2 : Pos} (hc : X.calm = true) (hg : Gl X "list") (hm : X.mg "list" = none) (hg2 : Gl X "range") (hm2 : X.mg "range" = none) (ha : PE X a ta) (na : starEach [a] X.env = (false, eval a X.env) :: starEach [] X.env := by rfl)
    (nb : starEach [Expr.Call (.Name "range" p2) [a] [] q2] X.env = (false, eval (Expr.Call (.Name "range" p2) [a] [] q2) X.env) :: starEach [] X.env := by rfl) : PE X (.Call (.Name "list" p) [.Call (.Name "range" p2) [a] [] q2] [] q) (tLR1 ta) :=
  ⟨fun pins s σ H Q I h => (pe_listRg hc hg hm (prg_1 hg2 hm2 ha na) nb).run pins s σ H Q I h⟩
theorem r_lr1 {ta : TE} {σ : L2.St} {H : Hp} {Q : VK} (q : ta σ H (kLR1 Q)) : tLR1 ta σ H Q := q
theorem r_kLR1 {n : Nat} {H : Hp} {Q : VK} (h : n ≤ 10000) (q : ∀ p H', H p = none → Kp [] H H' → H' p = some (.lst ((List.range n).map fun i => V.int (i : Nat))) → Q (.ref p) H') : kLR1 Q (.int (n : Int)) H := by
  refine ⟨n, rfl, RgOk.of_le (by omega) (by omega) (by omega) (by omega), fun p hn => ?_⟩
  have e : rgV 0 (n : Int) = (List.range n).map fun i => V.int (i : Nat) := by
    unfold rgV
    have : ((n : Int) - 0).toNat = n := by omega
    rw [this]
    refine List.map_congr_left fun i _ => ?_
    exact congrArg V.int (by omega)
  rw [e]
  exact q p _ hn (Kp.new hn) upd_same
/-! ### two fors over lists -/
section
variable {σ : L2.St} {H : Hp} {Q : VK} {wi1 : TI} {g g1 : TG} {tt tt1 : TT} {te : TE} {vs vs1 : List Nat} {D p : Addr} {K : PySem.W.Frag} {xs : List V}
theorem r_kLc2L (Pv : Addr → Nat → List V → Hp → Prop) (h0 : ∀ D H', H D = none → Kp [] H H' → H' D = some (.lst []) → Pv D 0 [] H') (hG : ∀ D i acc H', i ≤ xs.length → Pv D i acc H' → SqL K H' p xs)
    (hs : ∀ D (i : Nat) acc x H', H D = none → xs[i]? = some x → H' D = some (.lst acc) → Pv D i acc H' → g x (wipe σ vs) H' (kTurn2 tt wi1 g1 tt1 te vs vs1 (wipe σ vs) D (kN (Pv D (i + 1)) D)))
    (hd : ∀ D acc H', H D = none → H' D = some (.lst acc) → Pv D xs.length acc H' → Q (.ref D) H') : kLc2 g tt wi1 g1 tt1 te vs vs1 σ Q (Itl K p) H := by
  refine r_kLc2 walk_list Pv h0 hG (fun D i acc x H' H'' hD hi e hp y => ?_) hd
  obtain ⟨rfl, ey⟩ := y
  exact hs D i acc x _ hD ey e hp
theorem r_kIn2L (Pv : Nat → List V → Hp → Prop) {PN : List V → Hp → Prop} {acc0 : List V} (e0 : H D = some (.lst acc0)) (h0 : Pv 0 acc0 H) (hG : ∀ i acc H', i ≤ xs.length → Pv i acc H' → SqL K H' p xs)
    (hs : ∀ (i : Nat) acc x H', xs[i]? = some x → H' D = some (.lst acc) → Pv i acc H' → g1 x (wipe σ vs1) H' (kTurn tt1 te (wipe σ vs1) vs1 D (kN (Pv (i + 1)) D)))
    (hd : ∀ acc H', H' D = some (.lst acc) → Pv xs.length acc H' → PN acc H') : kIn2 g1 tt1 te vs1 σ D (kN PN D) (Itl K p) H := by
  refine r_kIn2 walk_list Pv e0 h0 hG (fun i acc x H' H'' hi e hp y => ?_) hd
  obtain ⟨rfl, ey⟩ := y
  exact hs i acc x _ ey e hp
end
/-! ### l.extend(m); x < y of texts -/
theorem r_extend {K : PySem.W.Frag} {H : Hp} {Q : VK} {p a : Addr} {xs ys : List V} (e : H p = some (.lst xs)) (e' : H a = some (.lst ys)) (h : xs.length + ys.length ≤ sizeLine) (q : ∀ H', Kp [p] H H' → H' p = some (.lst (xs ++ ys)) → Q .non H') : rExtend (.ref p) [.ref a] H Q :=
  ⟨p, a, xs, ys, rfl, rfl, e, e', h, q _ (Kp.put (by simp)) upd_same⟩
def rLtS : R2 := fun x y H Q => ∃ i j, x = .str i ∧ y = .str j ∧ Q (.bl (slt i j)) H
theorem op_ltS {X : Cx} : OpR X (compareOp .Lt) rLtS := fun pins s σ H x y v u Q I rx ry h => op_lt_str pins s σ H x y v u Q I rx ry h
theorem r_ltS {i j : Str} {H : Hp} {Q : VK} (q : Q (.bl (slt i j)) H) : rLtS (.str i) (.str j) H Q := ⟨i, j, rfl, rfl, q⟩
end Rd

set_option maxHeartbeats 4000000
/-! LstEq: == of lists whose items have an own __eq__, whatever it says. -/
namespace GQB
open PySem PySem.SeqAt GQ
open AutoSeq1 (wpAny_loadPart')
open MeetsSeq MeetsSeq2 MeetsSeq3 SeqRoads2
section
variable {prog : Program} {w : World} {A : Around} {R : Result → Shared → Prop}
/-- at each turn the two lists are read anew: N items each; the i-th two are equal or not -/
def ListB (prog : Program) (w : World) (A : Around) (E : Value → Shared → Prop) (l b : Addr) (N : Nat) (I : Nat → Shared → Prop) (Fl : Shared → Prop) : Prop :=
  ∀ i s, I i s → ∃ (items items2 : Array Value) (n n2 : Nat), s.heap.get? l = some { cls := .type "list", data := .seq items n } ∧ s.heap.get? b = some { cls := .type "list", data := .seq items2 n2 } ∧ items.size = N ∧ items2.size = N ∧
    ∀ (h1 : i < items.size) (h2 : i < items2.size), wpAny (model prog w) A.in1 (eqBool items[i] items2[i]) (fun r s' => (r = true ∧ I (i + 1) s') ∨ (r = false ∧ Fl s')) E s
/-- the two lists with N items each -/
def LstsN (l b : Addr) (N : Nat) (s : Shared) : Prop := ∃ (items items2 : Array Value) (n n2 : Nat), s.heap.get? l = some { cls := .type "list", data := .seq items n } ∧ s.heap.get? b = some { cls := .type "list", data := .seq items2 n2 } ∧ items.size = N ∧ items2.size = N
theorem eq_loopB (l b : Addr) (N : Nat) (I : Nat → Shared → Prop) (Fl : Shared → Prop) (hl : ListB prog w A (fun e s' => R (.error e) s') l b N I Fl)
    (fin : ∀ s, I N s → R (.ok (.ret (.bool true))) s) (no : ∀ s, Fl s → LstsN l b N s ∧ R (.ok (.ret (.bool false))) s) (k : Nat) :
    ∀ i : Nat, N - i = k → i ≤ N → ∀ s, I i s →
      wpAny (model prog w) A.in1 (Builtin.«list.__eq__.loop» ⟨[.ref l, .ref b, rawInt i, rawInt 2], []⟩) (FinOf prog w A R) (fun e s' => R (.error e) s') s := by
  induction k with
  | zero =>
    intro i hk hi s h
    obtain ⟨items, items2, n, n2, hl1, hb1, hs1, hs2, _⟩ := hl _ _ h
    have hi' : i = N := by omega
    have hR : R (.ok (.ret (.bool true))) s := fin s (hi' ▸ h)
    obtain ⟨hp, g, d, tk, os⟩ := s
    wp_walk using wpAny_loadPart' hl1, wpAny_loadPart' hb1
    have hi1 : items[((i : Nat) : Int).toNat]? = none := by simp; omega
    have hi2 : items2[((i : Nat) : Int).toNat]? = none := by simp; omega
    rw [hi1, hi2]
    wp_walk using wpAny_loadPart' hl1, wpAny_loadPart' hb1
    show R (.ok (.ret (.bool (items.size == items2.size)))) _
    rw [hs1, hs2]
    simpa using hR
  | succ k ih =>
    intro i hk hi s h
    obtain ⟨items, items2, n, n2, hl1, hb1, hs1, hs2, turn⟩ := hl _ _ h
    have hlt : i < items.size := by omega
    have hlt2 : i < items2.size := by omega
    have ht := turn hlt hlt2
    obtain ⟨hp, g, d, tk, os⟩ := s
    wp_walk using wpAny_loadPart' hl1, wpAny_loadPart' hb1
    have hi1 : items[((i : Nat) : Int).toNat]? = some items[i] := by simp [hlt]
    have hi2 : items2[((i : Nat) : Int).toNat]? = some items2[i] := by simp [hlt2]
    have hc : ((i : Int) + 1) = ((i + 1 : Nat) : Int) := by omega
    rw [hi1, hi2]
    refine wpAny_bind (wpAny_mono ht (fun r s2 h2 => ?_) fun _ _ x => x)
    rcases h2 with ⟨hr, h2⟩ | ⟨hr, h2⟩
    · subst hr
      have hrec := ih (i + 1) (by omega) (by omega) s2 h2
      obtain ⟨hp2, g2, d2, tk2, os2⟩ := s2
      wp_walk
      rw [hc]
      exact ⟨plainId_quiet plain_eq_loop _, codeAny_builtin entry_eq_loop (by
        rw [Around.under_plainId plain_eq_loop _]
        exact hrec)⟩
    · subst hr
      obtain ⟨⟨is1, is2, m1, m2, g1, g2', z1, z2⟩, hR⟩ := no s2 h2
      have j1 : is1[((i : Nat) : Int).toNat]? = some (is1[i]'(by omega)) := by
        rw [Int.toNat_natCast]
        exact Array.getElem?_eq_getElem _
      have j2 : is2[((i : Nat) : Int).toNat]? = some (is2[i]'(by omega)) := by
        rw [Int.toNat_natCast]
        exact Array.getElem?_eq_getElem _
      obtain ⟨hp2, g2, d2, tk2, os2⟩ := s2
      wp_walk using wpAny_loadPart' g1, wpAny_loadPart' g2'
      rw [j1, j2]
      wp_walk
      exact hR
theorem list_eqB (l b : Addr) (N : Nat) (I : Nat → Shared → Prop) (Fl : Shared → Prop) (hl : ListB prog w A (fun e s' => R (.error e) s') l b N I Fl)
    (fin : ∀ s, I N s → R (.ok (.ret (.bool true))) s) (no : ∀ s, Fl s → LstsN l b N s ∧ R (.ok (.ret (.bool false))) s) {s : Shared} (h : I 0 s) :
    wpAny (model prog w) A.in1 (Builtin.«list.__eq__» ⟨[.ref l, .ref b], []⟩) (FinOf prog w A R) (fun e s' => R (.error e) s') s := by
  obtain ⟨items, items2, n, n2, hl1, hb1, hs1, hs2, _⟩ := hl _ _ h
  have hrec := eq_loopB (A := A) (R := R) l b N I Fl hl fin no _ 0 rfl (Nat.zero_le _) s h
  obtain ⟨hp, g, d, tk, os⟩ := s
  have f3 := AutoSeq1.sub_list_list
  have hne : ¬ (items.size != items2.size) = true := by simp [hs1, hs2]
  wp_walk using wpAny_loadPart' hl1, wpAny_loadPart' hb1
  exact ⟨plainId_quiet plain_eq_loop _, codeAny_builtin entry_eq_loop (by
    rw [Around.under_plainId plain_eq_loop _]
    exact hrec)⟩
/-- lists of different lengths -/
theorem list_eqN (l b : Addr) (items items2 : Array Value) (n n2 : Nat) {s : Shared} (hl1 : s.heap.get? l = some { cls := .type "list", data := .seq items n }) (hb1 : s.heap.get? b = some { cls := .type "list", data := .seq items2 n2 }) (hne : (items.size != items2.size) = true)
    (no : R (.ok (.ret (.bool false))) s) : wpAny (model prog w) A.in1 (Builtin.«list.__eq__» ⟨[.ref l, .ref b], []⟩) (FinOf prog w A R) (fun e s' => R (.error e) s') s := by
  obtain ⟨hp, g, d, tk, os⟩ := s
  have f3 := AutoSeq1.sub_list_list
  wp_walk using wpAny_loadPart' hl1, wpAny_loadPart' hb1
  exact no
end
section
variable {prog : Program} {w : World} {A : Around} {E : Value → Shared → Prop} {s : Shared}
theorem rc_listB {l b : Addr} {N : Nat} {Q : Value → Shared → Prop} (hu : A.units < cLine) (I : Nat → Shared → Prop) (Fl : Shared → Prop) (hl : ListB prog w A E l b N I Fl)
    (fin : ∀ s, I N s → Q (.bool true) s) (no : ∀ s, Fl s → LstsN l b N s ∧ Q (.bool false) s) (h : I 0 s) : wpAny (model prog w) A (richCompare .Eq (.ref l) (.ref b)) Q E s := by
  obtain ⟨items, items2, n, n2, hl1, hb1, _, _, _⟩ := hl _ _ h
  refine wpAny_richCompare_same_room (op := .Eq) ⟨_, hl1, rfl⟩ ⟨_, hb1, rfl⟩ F.slot_list_eq (call_here F.slot_list_eq ⟨_, hl1, rfl⟩ F.entry_list_eq (F.args_list_eq_2 _ _) ?_) hu
  exact list_eqB (R := wants (fun v s' => v ≠ .notImplemented ∧ Q v s') E) l b N I Fl hl (fun s' q => ⟨(fun x => nomatch x), fin s' q⟩) (fun s' q => ⟨(no s' q).1, (fun x => nomatch x), (no s' q).2⟩) h
theorem rc_listN {l b : Addr} {items items2 : Array Value} {n n2 : Nat} {Q : Value → Shared → Prop} (hu : A.units < cLine) (hl1 : s.heap.get? l = some { cls := .type "list", data := .seq items n }) (hb1 : s.heap.get? b = some { cls := .type "list", data := .seq items2 n2 }) (hne : (items.size != items2.size) = true)
    (no : Q (.bool false) s) : wpAny (model prog w) A (richCompare .Eq (.ref l) (.ref b)) Q E s := by
  refine wpAny_richCompare_same_room (op := .Eq) ⟨_, hl1, rfl⟩ ⟨_, hb1, rfl⟩ F.slot_list_eq (call_here F.slot_list_eq ⟨_, hl1, rfl⟩ F.entry_list_eq (F.args_list_eq_2 _ _) ?_) hu
  exact list_eqN (R := wants (fun v s' => v ≠ .notImplemented ∧ Q v s') E) l b items items2 n n2 hl1 hb1 hne ⟨(fun x => nomatch x), no⟩
end
section
variable {prog : Program} {w : World} {A : Around} {R : Result → Shared → Prop}
/-- at each turn the list is read anew: the i-th item is the one sought, or not -/
def ListC (prog : Program) (w : World) (A : Around) (E : Value → Shared → Prop) (l : Addr) (x : Value) (N : Nat) (I : Nat → Shared → Prop) (Fl : Shared → Prop) : Prop :=
  ∀ i s, I i s → ∃ (items : Array Value) (n : Nat), s.heap.get? l = some { cls := .type "list", data := .seq items n } ∧ items.size = N ∧
    ∀ (h1 : i < items.size), wpAny (model prog w) A.in1 (eqBool items[i] x) (fun r s' => (r = false ∧ I (i + 1) s') ∨ (r = true ∧ Fl s')) E s
theorem contains_loopB (l : Addr) (x : Value) (N : Nat) (I : Nat → Shared → Prop) (Fl : Shared → Prop) (hl : ListC prog w A (fun e s' => R (.error e) s') l x N I Fl)
    (fin : ∀ s, I N s → R (.ok (.ret (.bool false))) s) (yes : ∀ s, Fl s → R (.ok (.ret (.bool true))) s) (k : Nat) :
    ∀ i : Nat, N - i = k → i ≤ N → ∀ s, I i s →
      wpAny (model prog w) A.in1 (Builtin.«list.__contains__.loop» ⟨[.ref l, x, rawInt i], []⟩) (FinOf prog w A R) (fun e s' => R (.error e) s') s := by
  induction k with
  | zero =>
    intro i hk hi s h
    obtain ⟨items, n, hl1, hs1, _⟩ := hl _ _ h
    have hi' : i = N := by omega
    have hR : R (.ok (.ret (.bool false))) s := fin s (hi' ▸ h)
    obtain ⟨hp, g, d, tk, os⟩ := s
    wp_walk using wpAny_loadPart' hl1
    have hi1 : items[((i : Nat) : Int).toNat]? = none := by simp; omega
    rw [hi1]
    wp_walk
    exact hR
  | succ k ih =>
    intro i hk hi s h
    obtain ⟨items, n, hl1, hs1, turn⟩ := hl _ _ h
    have hlt : i < items.size := by omega
    have ht := turn hlt
    obtain ⟨hp, g, d, tk, os⟩ := s
    wp_walk using wpAny_loadPart' hl1
    have hi1 : items[((i : Nat) : Int).toNat]? = some items[i] := by simp [hlt]
    have hc : ((i : Int) + 1) = ((i + 1 : Nat) : Int) := by omega
    rw [hi1]
    refine wpAny_bind (wpAny_mono ht (fun r s2 h2 => ?_) fun _ _ x => x)
    rcases h2 with ⟨hr, h2⟩ | ⟨hr, h2⟩
    · subst hr
      have hrec := ih (i + 1) (by omega) (by omega) s2 h2
      obtain ⟨hp2, g2, d2, tk2, os2⟩ := s2
      wp_walk
      rw [hc]
      exact ⟨plainId_quiet plain_contains_loop _, codeAny_builtin entry_contains_loop (by
        rw [Around.under_plainId plain_contains_loop _]
        exact hrec)⟩
    · subst hr
      have hR := yes s2 h2
      obtain ⟨hp2, g2, d2, tk2, os2⟩ := s2
      wp_walk
      exact hR
theorem list_containsB (l : Addr) (x : Value) (N : Nat) (I : Nat → Shared → Prop) (Fl : Shared → Prop) (hl : ListC prog w A (fun e s' => R (.error e) s') l x N I Fl)
    (fin : ∀ s, I N s → R (.ok (.ret (.bool false))) s) (yes : ∀ s, Fl s → R (.ok (.ret (.bool true))) s) {s : Shared} (h : I 0 s) :
    wpAny (model prog w) A.in1 (Builtin.«list.__contains__» ⟨[.ref l, x], []⟩) (FinOf prog w A R) (fun e s' => R (.error e) s') s := by
  obtain ⟨items, n, hl1, hs1, _⟩ := hl _ _ h
  have hrec := contains_loopB (A := A) (R := R) l x N I Fl hl fin yes _ 0 rfl (Nat.zero_le _) s h
  obtain ⟨hp, g, d, tk, os⟩ := s
  wp_walk using wpAny_loadPart' hl1
  exact ⟨plainId_quiet plain_contains_loop _, codeAny_builtin entry_contains_loop (by
    rw [Around.under_plainId plain_contains_loop _]
    exact hrec)⟩
end
section
variable {prog : Program} {w : World} {A : Around} {E : Value → Shared → Prop} {s : Shared}
theorem in_listB {l : Addr} {x : Value} {N : Nat} {Q : Value → Shared → Prop} (I : Nat → Shared → Prop) (Fl : Shared → Prop) (hl : ListC prog w A E l x N I Fl)
    (fin : ∀ s, I N s → Q (.bool false) s) (yes : ∀ s, Fl s → Q (.bool true) s) (h : I 0 s) : wpAny (model prog w) A (compareOp .In x (.ref l)) Q E s := by
  obtain ⟨items, n, hl1, _, _⟩ := hl _ _ h
  show wpAny _ A (do return .bool (← contains (.ref l) x)) Q E s
  refine wpAny_bind (wpAny_contains_slot ⟨_, hl1, rfl⟩ F.slot_list_contains (call_here F.slot_list_contains ⟨_, hl1, rfl⟩ F.entry_list_contains (F.args_list_contains_2 _ _) ?_))
  exact list_containsB (R := wants _ E) l x N I Fl hl (fun s' q => wpAny_truthy_bool (wpAny_pure (fin s' q))) (fun s' q => wpAny_truthy_bool (wpAny_pure (yes s' q))) h
theorem notIn_listB {l : Addr} {x : Value} {N : Nat} {Q : Value → Shared → Prop} (I : Nat → Shared → Prop) (Fl : Shared → Prop) (hl : ListC prog w A E l x N I Fl)
    (fin : ∀ s, I N s → Q (.bool true) s) (yes : ∀ s, Fl s → Q (.bool false) s) (h : I 0 s) : wpAny (model prog w) A (compareOp .NotIn x (.ref l)) Q E s := by
  obtain ⟨items, n, hl1, _, _⟩ := hl _ _ h
  show wpAny _ A (do return .bool (!(← contains (.ref l) x))) Q E s
  refine wpAny_bind (wpAny_contains_slot ⟨_, hl1, rfl⟩ F.slot_list_contains (call_here F.slot_list_contains ⟨_, hl1, rfl⟩ F.entry_list_contains (F.args_list_contains_2 _ _) ?_))
  exact list_containsB (R := wants _ E) l x N I Fl hl (fun s' q => wpAny_truthy_bool (wpAny_pure (fin s' q))) (fun s' q => wpAny_truthy_bool (wpAny_pure (yes s' q))) h
end
end GQB
namespace Rd
open PySem PySem.Spec L2
/-- how two values compare, by the abstract heap, which stays -/
abbrev EqvB := V → V → Hp → Bool → Prop
def EqB (X : Cx) (n : Nat) (D : EqvB) : Prop :=
  ∀ (A : Around) (pins : List (Addr × Obj)) (s : Shared) (σ : St) (H : Hp) (x y : V) (u v : Value) (b : Bool), Sub X n A → Inv X pins σ H s → RelV x u → RelV y v → D x y H b →
    wpAny (model X.prog X.w) A (eqBool u v) (fun r s' => r = b ∧ Inv X pins σ H s') X.xe s
/-- objects of a family, by their own == -/
def DFam (K : PySem.W.Frag) (S : Addr → Prop) (sp : Sp) : EqvB := fun x y H b => ∃ a C dx fs a' C' dx' fs', x = .ref a ∧ y = .ref a' ∧ H a = some (.ins C dx fs) ∧ S C ∧ H a' = some (.ins C' dx' fs') ∧ PySem.W.notFirst K C (.ref C') = true ∧
  (a = a' → b = true) ∧ sp [.ref a, .ref a'] H (fun v H' => v = .bl b ∧ H' = H) E0
/-- item by item: how each two compare -/
def PrsB (D : EqvB) (xs ys : List V) (bs : List Bool) (H : Hp) : Prop := xs.length = ys.length ∧ bs.length = xs.length ∧ ∀ (i : Nat) x y b, xs[i]? = some x → ys[i]? = some y → bs[i]? = some b → D x y H b
/-- list == list -/
def rEqLB (D : EqvB) : R2 := fun x y H Q => ∃ p q xs ys, x = .ref p ∧ y = .ref q ∧ H p = some (.lst xs) ∧ H q = some (.lst ys) ∧ ((xs.length ≠ ys.length ∧ Q (.bl false) H) ∨ ∃ bs : List Bool, PrsB D xs ys bs H ∧ Q (.bl (bs.all id)) H)
/-- x in list, x not in list -/
def rInLB (D : EqvB) (neg : Bool) : R2 := fun x y H Q => ∃ (q : Addr) (ys : List V) (bs : List Bool), y = .ref q ∧ H q = some (.lst ys) ∧ bs.length = ys.length ∧ (∀ (i : Nat) z b, ys[i]? = some z → bs[i]? = some b → D z x H b) ∧ Q (.bl (bs.any id != neg)) H
section
variable {X : Cx} {n : Nat} {f : Addr} {sp : Sp} {S : Addr → Prop} {D : EqvB}
theorem eqB_fam (hm : ∀ C, S C → Meth X.K C "__eq__" f) (F : FnR X.prog X.w X.K X.mg X.base CX0 n f sp) : EqB X n (DFam X.K S sp) := by
  intro A pins s σ H x y u v b sb I rx ry d
  obtain ⟨a, C, dx, fs, a', C', dx', fs', rfl, rfl, ea, hS, ea', nf, hab, q⟩ := d
  cases (show u = Value.ref a from rx)
  cases (show v = Value.ref a' from ry)
  by_cases e : a = a'
  · subst e
    rw [hab rfl]
    exact SeqAt.EqAt.same (A := A) (s := s) (.ref a) X.prog X.w X.xe _ ⟨rfl, I⟩
  · refine GQ.eqBool_refG e ?_
    obtain ⟨mA, O, _⟩ := ins_get I.hok ea
    obtain ⟨od, J, _⟩ := O.look
    obtain ⟨mB, O', _⟩ := ins_get I.hok ea'
    obtain ⟨od', J', _⟩ := O'.look
    obtain ⟨m, hF⟩ := I.fr
    have M := hm C hS
    have e0 : Env0 X.prog X.w X.K X.mg X.base A X.stack s H := by
      have e := I.env0
      exact ⟨by rw [sb.fr]; exact e.frames, e.mod, e.bs, e.bsz, e.funs, e.frf, e.hok, e.bare⟩
    refine PySem.W.cmp_K (op := .Eq) (tb := .ref C') sb.room.units0 hF I.ok.mod.kin J J'.type nf M.at_ M.fn ?_
    refine wpAny_call (codeAny_mono (F A X.stack s H [.ref a, .ref a'] [.ref a, .ref a'] _ E0 sb.room e0 (.cons rfl (.cons rfl .nil)) q) fun r s' z => ?_)
    cases r with
    | error e => exact False.elim z
    | ok fl =>
      cases fl with
      | ret u =>
        obtain ⟨z', H', I', rz, ez, eH⟩ := I.after z
        subst ez
        subst eH
        cases (show u = Value.bool b from rz)
        exact ⟨b, rfl, rfl, I'⟩
      | next => exact False.elim z
      | brk => exact False.elim z
      | cont => exact False.elim z
theorem vals_at {xs : List V} {its : List Value} (r : Vals xs its) {i : Nat} (h : i < its.toArray.size) : ∃ x, xs[i]? = some x ∧ RelV x its.toArray[i] := by
  have h' : i < its.length := by simpa using h
  have k : i < xs.length := by rw [r.length]; exact h'
  obtain ⟨u, hu, ru⟩ := r.get (List.getElem?_eq_getElem k)
  have g : its[i]? = some its.toArray[i] := by
    rw [List.getElem?_eq_getElem h'] <;> simp
  rw [g] at hu
  rw [Option.some.inj hu]
  exact ⟨_, List.getElem?_eq_getElem k, ru⟩
theorem take_allB {bs : List Bool} {i : Nat} {b : Bool} (h : bs[i]? = some b) (a : (bs.take i).all id = true) (hb : b = true) : (bs.take (i + 1)).all id = true := by
  rw [List.take_add_one, h, List.all_append, a, hb]
  rfl
theorem op_eqLB (h : EqB X n D) (hr : Room (n + 1) X.A) : OpR X (compareOp .Eq) (rEqLB D) := by
  intro pins s σ H x y v u Q I rx ry hq
  obtain ⟨p, q, xs, ys, rfl, rfl, hp, hq', c⟩ := hq
  cases (show v = Value.ref p from rx)
  cases (show u = Value.ref q from ry)
  show wpAny (model X.prog X.w) X.A (richCompare .Eq (.ref p) (.ref q)) (EP X pins σ Q) X.xe s
  rcases c with ⟨ne, qf⟩ | ⟨bs, ⟨h1, h2, h3⟩, qt⟩
  · obtain ⟨z, its, k, r, e⟩ := I.hok p _ hp
    obtain ⟨z2, its2, k2, r2, e2⟩ := I.hok q _ hq'
    refine GQB.rc_listN hr.units0 e e2 ?_ ⟨.bl false, H, I, rfl, qf⟩
    rw [List.size_toArray, List.size_toArray, ← r.length, ← r2.length]
    simpa using ne
  · refine GQB.rc_listB (N := xs.length) hr.units0 (fun i s' => Inv X pins σ H s' ∧ (bs.take i).all id = true) (fun s' => Inv X pins σ H s' ∧ bs.all id = false) (fun i s' ⟨I1, ha⟩ => ?_) (fun s' ⟨I1, ha⟩ => ?_) (fun s' ⟨I1, ha⟩ => ?_) ⟨I, rfl⟩
    · obtain ⟨z, its, k, r, e⟩ := I1.hok p _ hp
      obtain ⟨z2, its2, k2, r2, e2⟩ := I1.hok q _ hq'
      refine ⟨its.toArray, its2.toArray, k, k2, e, e2, by rw [List.size_toArray, ← r.length], by rw [List.size_toArray, ← r2.length, ← h1], fun l1 l2 => ?_⟩
      obtain ⟨x, hx, rx⟩ := vals_at r l1
      obtain ⟨y, hy, ry⟩ := vals_at r2 l2
      have li : i < bs.length := by
        have := (List.getElem?_eq_some_iff.mp hx).1
        omega
      have hb : bs[i]? = some bs[i] := List.getElem?_eq_getElem li
      refine wpAny_mono (h X.A.in1 pins s' σ H x y _ _ bs[i] ⟨hr.in1, rfl⟩ I1 rx ry (h3 i x y _ hx hy hb)) (fun r s2 z => ?_) fun _ _ x => x
      obtain ⟨rfl, I2⟩ := z
      cases hc : bs[i] with
      | true => exact .inl ⟨rfl, I2, take_allB hb ha hc⟩
      | false =>
        refine .inr ⟨rfl, I2, ?_⟩
        rw [List.all_eq_false]
        exact ⟨bs[i], List.getElem_mem li, by rw [hc]; decide⟩
    · rw [← h2, List.take_length] at ha
      rw [ha] at qt
      exact ⟨.bl true, H, I1, rfl, qt⟩
    · rw [ha] at qt
      obtain ⟨z, its, k, r, e⟩ := I1.hok p _ hp
      obtain ⟨z2, its2, k2, r2, e2⟩ := I1.hok q _ hq'
      exact ⟨⟨its.toArray, its2.toArray, k, k2, e, e2, by rw [List.size_toArray, ← r.length], by rw [List.size_toArray, ← r2.length, ← h1]⟩, .bl false, H, I1, rfl, qt⟩
theorem take_anyB {bs : List Bool} {i : Nat} {b : Bool} (h : bs[i]? = some b) (a : (bs.take i).any id = false) (hb : b = false) : (bs.take (i + 1)).any id = false := by
  rw [List.take_add_one, h, List.any_append, a, hb]
  rfl
theorem lc_of (h : EqB X n D) (hr : Room (n + 1) X.A) {pins : List (Addr × Obj)} {σ : St} {H : Hp} {x : V} {v : Value} {q : Addr} {ys : List V} {bs : List Bool} (rx : RelV x v) (hq : H q = some (.lst ys)) (hl : bs.length = ys.length)
    (hD : ∀ (i : Nat) z b, ys[i]? = some z → bs[i]? = some b → D z x H b) : GQB.ListC X.prog X.w X.A X.xe q v ys.length (fun i s' => Inv X pins σ H s' ∧ (bs.take i).any id = false) (fun s' => Inv X pins σ H s' ∧ bs.any id = true) := by
  rintro i s' ⟨I1, ha⟩
  obtain ⟨z, its, k, r, e⟩ := I1.hok q _ hq
  refine ⟨its.toArray, k, e, by rw [List.size_toArray, ← r.length], fun l1 => ?_⟩
  obtain ⟨y, hy, ry⟩ := vals_at r l1
  have li : i < bs.length := by
    have := (List.getElem?_eq_some_iff.mp hy).1
    omega
  have hb : bs[i]? = some bs[i] := List.getElem?_eq_getElem li
  refine wpAny_mono (h X.A.in1 pins s' σ H y x _ _ bs[i] ⟨hr.in1, rfl⟩ I1 ry rx (hD i y _ hy hb)) (fun r s2 z => ?_) fun _ _ x => x
  obtain ⟨rfl, I2⟩ := z
  cases hc : bs[i] with
  | false => exact .inl ⟨rfl, I2, take_anyB hb ha hc⟩
  | true =>
    refine .inr ⟨rfl, I2, ?_⟩
    rw [List.any_eq_true]
    exact ⟨bs[i], List.getElem_mem li, by rw [hc]; rfl⟩
theorem op_inLB (h : EqB X n D) (hr : Room (n + 1) X.A) : OpR X (compareOp .In) (rInLB D false) := by
  intro pins s σ H x y v u Q I rx ry hq
  obtain ⟨q, ys, bs, rfl, hq', hl, hD, qt⟩ := hq
  cases (show u = Value.ref q from ry)
  refine GQB.in_listB _ _ (lc_of h hr rx hq' hl hD) (fun s' ⟨I1, ha⟩ => ?_) (fun s' ⟨I1, ha⟩ => ?_) ⟨I, rfl⟩
  · rw [← hl, List.take_length] at ha
    rw [ha] at qt
    exact ⟨.bl false, H, I1, rfl, qt⟩
  · rw [ha] at qt
    exact ⟨.bl true, H, I1, rfl, qt⟩
theorem op_ninLB (h : EqB X n D) (hr : Room (n + 1) X.A) : OpR X (compareOp .NotIn) (rInLB D true) := by
  intro pins s σ H x y v u Q I rx ry hq
  obtain ⟨q, ys, bs, rfl, hq', hl, hD, qt⟩ := hq
  cases (show u = Value.ref q from ry)
  refine GQB.notIn_listB _ _ (lc_of h hr rx hq' hl hD) (fun s' ⟨I1, ha⟩ => ?_) (fun s' ⟨I1, ha⟩ => ?_) ⟨I, rfl⟩
  · rw [← hl, List.take_length] at ha
    rw [ha] at qt
    exact ⟨.bl true, H, I1, rfl, qt⟩
  · rw [ha] at qt
    exact ⟨.bl false, H, I1, rfl, qt⟩
variable {K : PySem.W.Frag}
theorem K_eqLF (hK : X.K = K) (hm : ∀ C, S C → Meth K C "__eq__" f) (F : FnR X.prog X.w K X.mg X.base CX0 n f sp) (hr : Room (n + 1) X.A) : OpR X (compareOp .Eq) (rEqLB (DFam K S sp)) := by
  subst hK
  exact op_eqLB (eqB_fam hm F) hr
theorem K_inLF (hK : X.K = K) (hm : ∀ C, S C → Meth K C "__eq__" f) (F : FnR X.prog X.w K X.mg X.base CX0 n f sp) (hr : Room (n + 1) X.A) : OpR X (compareOp .In) (rInLB (DFam K S sp) false) := by
  subst hK
  exact op_inLB (eqB_fam hm F) hr
theorem K_ninLF (hK : X.K = K) (hm : ∀ C, S C → Meth K C "__eq__" f) (F : FnR X.prog X.w K X.mg X.base CX0 n f sp) (hr : Room (n + 1) X.A) : OpR X (compareOp .NotIn) (rInLB (DFam K S sp) true) := by
  subst hK
  exact op_ninLB (eqB_fam hm F) hr
end
section
variable {H : Hp} {Q : VK} {D : EqvB} {x : V} {p q : Addr} {xs ys : List V} {bs : List Bool} {neg : Bool}
theorem r_eqLN (hp : H p = some (.lst xs)) (hq : H q = some (.lst ys)) (ne : xs.length ≠ ys.length) (h : Q (.bl false) H) : rEqLB D (.ref p) (.ref q) H Q := ⟨p, q, xs, ys, rfl, rfl, hp, hq, .inl ⟨ne, h⟩⟩
theorem r_eqLB (hp : H p = some (.lst xs)) (hq : H q = some (.lst ys)) (hb : PrsB D xs ys bs H) (h : Q (.bl (bs.all id)) H) : rEqLB D (.ref p) (.ref q) H Q := ⟨p, q, xs, ys, rfl, rfl, hp, hq, .inr ⟨bs, hb, h⟩⟩
theorem r_inLB (hq : H q = some (.lst ys)) (hl : bs.length = ys.length) (hD : ∀ (i : Nat) z b, ys[i]? = some z → bs[i]? = some b → D z x H b) (h : Q (.bl (bs.any id != neg)) H) : rInLB D neg x (.ref q) H Q := ⟨q, ys, bs, rfl, hq, hl, hD, h⟩
end
/-! for k in range(m, n) -/
section
variable {σ : St} {H : Hp} {g : TG} {tb : TS} {nx bk ct : St → Hp → Prop} {rt : VK}
theorem r_kForR2 {a : Int} {m : Nat} (Pv : Nat → St → Hp → Prop) (h0 : Pv 0 σ H)
    (hs : ∀ (i : Nat) σ H, i < m → Pv i σ H → g (.int (a + (i : Int))) σ H fun σ2 H2 => tb ⟨Pv (i + 1), rt, nx, Pv (i + 1)⟩ σ2 H2) (hd : ∀ σ H, Pv m σ H → nx σ H) : kFor g tb ⟨nx, rt, bk, ct⟩ σ (Itr a m) H := by
  refine r_kFor walk_range Pv h0 (fun _ _ _ _ _ => trivial) (fun i x σ H H' hi hp y => ?_) hd
  obtain ⟨rfl, rfl⟩ := y
  exact hs i σ _ hi hp
end
end Rd

set_option maxHeartbeats 4000000
/-! OpOwn: x & y .. by an own method; the truth of an object by an own __len__; x in list, by data; x == y, y of any type, of a family. -/
namespace PySem.W
open PySem PySem.Calls PyProof.Rows Builtin
section
variable {prog : Program} {w : World} {A : Around} {E : Value → Shared → Prop} {s : Shared} {K : Frag} {x C L f : Addr} {h₀ : Heap} {m : Str → Option Value} {ox : Obj} {od : Option Obj}
theorem truthy_len {Q : Bool → Shared → Prop} (F : Fr h₀ L s.heap m) (X₀ : K.In h₀) (I : InstAt s.heap x ox C od) (hs : findIn K (.ref C) "__bool__" = some none) (hl : findIn K (.ref C) "__len__" = some (some (.ref f))) (hf : isFn K (.ref f) = true)
    (h : wpAny (model prog w) A.in1 (call (.ref f) [.ref x]) (LenBack (fun v s' => ∃ n t, v = .int n t ∧ Q (n != 0) s')) E s) : wpAny (model prog w) A (truthy (.ref x)) Q E s := by
  have X := X₀.keeps F.keep
  unfold truthy
  refine wpAny_bind (m := callSpecial? (.ref x) (Str.ofString "__bool__")) (wpAny_bind (wpAny_bind (I.type.here ((looks_findIn X hs).here (wpAny_pure ?_)))))
  refine wpAny_bind (wpAny_bind (I.type.here ((looks_findIn X hl).here ?_)))
  refine wpAny_bind (wpAny_runValue (codeAny_builtin entry_len ?_))
  unfold Builtin.«len»
  refine wpAny_bind (m := oneArg "len" _) (wpAny_pure ?_)
  refine wpAny_bind (m := callSpecial? (.ref x) (Str.ofString "__len__")) (special_fn X I hl (beq_iff_eq.mp hf) (wpAny_mono h (fun r s' hr => ?_) fun _ _ y => y))
  cases r <;> first | exact hr.elim | skip
  rename_i n u
  obtain ⟨⟨h0, h1⟩, n', t', e, hq⟩ := hr
  refine wpAny_bind (wpAny_holding (wpAny_pure ?_))
  refine wpAny_bind (wpAny_letGo ?_)
  show wpAny _ _ (if n < 0 then _ else _) _ _ _
  rw [if_neg (by omega)]
  show wpAny _ _ (if n ≥ 2 ^ 63 then _ else _) _ _ _
  rw [if_neg (by omega)]
  cases e
  exact wpAny_bind (wpAny_mkInt (wpAny_pure (wpAny_pure hq)))
end
end PySem.W
namespace Rd
open PySem PySem.Spec L2 StX
/-! ### x & y .. -/
def rBinOwn (S : Addr → Prop) (sp : Sp) : R2 := fun x y H Q => ∃ a C dx fs b dy gs, x = .ref a ∧ y = .ref b ∧ S C ∧ H a = some (.ins C dx fs) ∧ H b = some (.ins C dy gs) ∧ sp [.ref a, .ref b] H (fun v H' => (∃ p, v = .ref p) ∧ Q v H') E0
/-! ### truth by __len__ -/
def rTruOwn (S : Addr → Prop) (sp : Sp) : V → Hp → (Bool → Hp → Prop) → Prop := fun x H Q => ∃ a C dx fs, x = .ref a ∧ S C ∧ H a = some (.ins C dx fs) ∧ sp [.ref a] H (fun z H' => ∃ k : Int, z = .int k ∧ 0 ≤ k ∧ k < 9223372036854775808 ∧ Q (k != 0) H') E0
def tTruOwn (S : Addr → Prop) (sp : Sp) (ta : TE) : TT := fun σ H Q => ta σ H fun x H' => rTruOwn S sp x H' Q
def tNotOwn (S : Addr → Prop) (sp : Sp) (ta : TE) : TE := fun σ H Q => ta σ H fun x H' => rTruOwn S sp x H' fun b H2 => Q (.bl (!b)) H2
/-! ### x in list, by data -/
def DData (K : PySem.W.Frag) : EqvB := fun x y H b => ∃ d e, Dp K H x d ∧ Dp K H y e ∧ SeqAt.shaped d = true ∧ SeqAt.shaped e = true ∧ PyData.eqv d e = b
section
variable {X : Cx} {n : Nat} {f : Addr} {sp : Sp} {S : Addr → Prop} {K : PySem.W.Frag}
theorem K_binFam (hK : X.K = K) {op : Operator} {nm : Str} (hn : PySem.dunder op.info.2 = nm) (hm : ∀ C, S C → Meth K C nm f) (hc : ∀ C, S C → PySem.W.selfFirst K C = true) (F : FnR X.prog X.w K X.mg X.base CX0 n f sp) (hr : Room n X.A) : OpR X (binaryOp op) (rBinOwn S sp) := by
  subst hK
  intro pins s σ H x y v u Q I rx ry h
  obtain ⟨a, C, dx, fs, b, dy, gs, rfl, rfl, hS, ea, eb, q⟩ := h
  cases (show v = Value.ref a from rx)
  cases (show u = Value.ref b from ry)
  obtain ⟨mA, O, _⟩ := ins_get I.hok ea
  obtain ⟨od, J, _⟩ := O.look
  obtain ⟨mB, O', _⟩ := ins_get I.hok eb
  obtain ⟨od', J', _⟩ := O'.look
  obtain ⟨m, hF⟩ := I.fr
  have M := hm C hS
  refine PySem.W.binop_K hF I.ok.mod.kin J J'.type (hc C hS) (hn ▸ M.at_) M.fn ?_
  refine wpAny_mono (wpAny_call (run_fnR (us := [.ref a, .ref b]) (vs := [.ref a, .ref b]) F hr pass0 I (.cons rfl (.cons rfl .nil)) q)) (fun r s' z => ?_) fun _ _ x => x
  obtain ⟨z', H', I', rz, ⟨p, rfl⟩, qz⟩ := z
  cases (show r = Value.ref p from rz)
  exact ⟨.ref p, H', I', rfl, qz⟩
theorem tru_own (hK : X.K = K) (hb : ∀ C, S C → PySem.W.findIn K (.ref C) "__bool__" = some none) (hm : ∀ C, S C → Meth K C "__len__" f) (F : FnR X.prog X.w K X.mg X.base CX0 n f sp) (hr : Room (n + 1) X.A) : TruR X (rTruOwn S sp) := by
  subst hK
  intro pins s σ H x v Q I rx h
  obtain ⟨a, C, dx, fs, rfl, hS, ea, q⟩ := h
  cases (show v = Value.ref a from rx)
  obtain ⟨mA, O, _⟩ := ins_get I.hok ea
  obtain ⟨od, J, _⟩ := O.look
  obtain ⟨m, hF⟩ := I.fr
  have M := hm C hS
  refine PySem.W.truthy_len hF I.ok.mod.kin J (hb C hS) M.at_ M.fn ?_
  refine wpAny_call (codeAny_mono (F X.A.in1 X.stack s H [.ref a] [.ref a] _ E0 hr.in1 I.env0.in1 (.cons rfl .nil) q) fun r s' z => ?_)
  cases r with
  | error e => exact False.elim z
  | ok fl =>
    cases fl with
    | ret u =>
      obtain ⟨z', H', I', rz, k, rfl, k0, k1, qz⟩ := I.after z
      obtain ⟨t, e⟩ := (show ∃ t, u = Value.int k t from rz)
      cases e
      exact ⟨⟨k0, k1⟩, k, _, rfl, H', I'.tok _, qz⟩
    | next => exact False.elim z
    | brk => exact False.elim z
    | cont => exact False.elim z
theorem eqB_data (hK : X.K = K) : EqB X 0 (DData K) := by
  subst hK
  intro A pins s σ H x y u v b sb I rx ry h
  obtain ⟨d, e, hd, he, sd, se, rfl⟩ := h
  obtain ⟨as, r1⟩ := Dp.reads I d x u hd rx
  obtain ⟨bs, r2⟩ := Dp.reads I e y v he ry
  exact SeqAt.eqAt_reads d e A s u v as bs r1 r2 (SeqAt.canLay_of_shaped sd) (SeqAt.canLay_of_shaped se) (SeqAt.room_of_shaped sd sb.room.units) X.prog X.w X.xe _ ⟨rfl, I⟩
theorem K_inD (hK : X.K = K) (hr : Room 1 X.A) : OpR X (compareOp .In) (rInLB (DData K) false) := op_inLB (eqB_data hK) hr
theorem K_ninD (hK : X.K = K) (hr : Room 1 X.A) : OpR X (compareOp .NotIn) (rInLB (DData K) true) := op_ninLB (eqB_data hK) hr
/-! not e, e an object with an own __len__ -/
open PyProof.Rows in
theorem pe_notOwn {a : Expr} {ta : TE} {pos : Pos} (hK : X.K = K) (hb : ∀ C, S C → PySem.W.findIn K (.ref C) "__bool__" = some none) (hm : ∀ C, S C → Meth K C "__len__" f) (F : FnR X.prog X.w K X.mg X.base CX0 n f sp) (hr : Room (n + 1) X.A) (ha : PE X a ta) : PE X (.UnaryOp .Not a pos) (tNotOwn S sp ta) := by
  refine ⟨fun pins s σ H Q I h => ?_⟩
  refine UnaryOp_ (thn (ha.run pins s σ H _ I h) fun v s1 ⟨x, H1, I1, r1, q1⟩ => ?_)
  refine not_of (wpAny_mono (tru_own hK hb hm F hr pins s1 σ H1 x v _ I1 r1 q1) (fun b s2 z => ?_) fun _ _ z => z)
  obtain ⟨H2, I2, q2⟩ := z
  exact ⟨.bl (!b), H2, I2, rfl, q2⟩
theorem pt_truOwn {a : Expr} {ta : TE} (hK : X.K = K) (hb : ∀ C, S C → PySem.W.findIn K (.ref C) "__bool__" = some none) (hm : ∀ C, S C → Meth K C "__len__" f) (F : FnR X.prog X.w K X.mg X.base CX0 n f sp) (hr : Room (n + 1) X.A) (ha : PE X a ta) (he : ∀ whole, isTrue a X.env whole = (do let v ← whole; standAt a.pos; holding [v] (truthy v)) := by intro _; rfl) :
    PT X a (tTruOwn S sp ta) := pt_truthR ha (tru_own hK hb hm F hr) he
end
/-! a, b, c = x, y, z -/
theorem r_par3 {i j l : Nat} {ta : TA} {σ : L2.St} {H : Hp} {nx bk ct : L2.St → Hp → Prop} {rt : VK} (q : ta σ H fun vs H1 => ∃ u v w, vs = [u, v, w] ∧ nx (((σ.set i (some u)).set j (some v)).set l (some w)) H1) : tPar3 i j l ta ⟨nx, rt, bk, ct⟩ σ H := q
/-! X() -/
theorem pe_makeR0 {X : Cx} {CX : CXT} {k : Nat} {f C : Addr} {sp : Sp} {E : XK} {x : Str} {p pos : Pos} (M : Mk X.K C f) (F : FnR X.prog X.w X.K X.mg X.base CX k f sp) (hr : Room (k + 1) X.A) (hg : Gl X x) (hm : X.mg x = some (.ref C)) (hx : Passes CX X E)
    (hdb : (x == ("__debug__" : Str)) = false := by decide) : PE X (.Call (.Name x p) [] [] pos) (tMakeR C sp E tNil) := by
  refine ⟨fun pins s σ H Q I h => ?_⟩
  refine wpAny_Call_Name_kw (ld_glob I hg hm ?_ hdb)
  exact PySem.W.callWith_K0 I.kIn M.kp (run_makeR (us := []) M F hr hx I .nil h)
section
variable {H : Hp} {Q : VK} {QB : Bool → Hp → Prop} {S : Addr → Prop} {sp : Sp} {C C' a b dx dy : Addr} {fs gs : List (Str × V)} {K : PySem.W.Frag} {ex ex' : List Addr} {x y : V} {d e : PyData} {n : Nat} {σ : L2.St} {ta : TE}
def kObj (Q : VK) : VK := fun v H' => (∃ p, v = .ref p) ∧ Q v H'
def kNum (QB : Bool → Hp → Prop) : VK := fun z H' => ∃ k : Int, z = .int k ∧ 0 ≤ k ∧ k < 9223372036854775808 ∧ QB (k != 0) H'
theorem r_binOwn (hS : S C) (e : H a = some (.ins C dx fs)) (e' : H b = some (.ins C dy gs)) (q : sp [.ref a, .ref b] H (kObj Q) E0) : rBinOwn S sp (.ref a) (.ref b) H Q := ⟨a, C, dx, fs, b, dy, gs, rfl, rfl, hS, e, e', q⟩
theorem r_kObj {p : Addr} (q : Q (.ref p) H) : kObj Q (.ref p) H := ⟨⟨p, rfl⟩, q⟩
theorem r_truOwn (hS : S C) (e : H a = some (.ins C dx fs)) (q : sp [.ref a] H (kNum QB) E0) : rTruOwn S sp (.ref a) H QB := ⟨a, C, dx, fs, rfl, hS, e, q⟩
theorem r_tTruOwn (q : ta σ H fun x H' => rTruOwn S sp x H' QB) : tTruOwn S sp ta σ H QB := q
theorem r_notOwn (q : ta σ H fun x H' => rTruOwn S sp x H' fun b H2 => Q (.bl (!b)) H2) : tNotOwn S sp ta σ H Q := q
theorem r_kNum {k : Int} (h0 : 0 ≤ k) (h1 : k < 9223372036854775808) (q : QB (k != 0) H) : kNum QB (.int k) H := ⟨k, rfl, h0, h1, q⟩
theorem ddata (hx : Dt ex H x d) (hy : Dt ex' H y e) (sx : Shp n d) (sy : Shp n e) (hn : n ≤ 64) : DData K x y H (PyData.eqv d e) := ⟨d, e, hx.dp, hy.dp, sx.ok hn, sy.ok hn, rfl⟩
end
end Rd

namespace My
open PySem L2 Rd StX
def top (i : Nat) : Stmt := PySem.Challenge.pw_silentswaps_k53_sets_of_slips.main.body.getD i (.Pass ⟨0, 0, 0, 0⟩)
local macro_rules | `(tactic| walk_at "s") => `(tactic| (first
  | (with_reducible refine r_seq ?_)
  | (with_reducible refine r_asg ?_)
  | ((with_reducible refine' r_var (v := ?v) ?hv ?_); (case hv => exact rfl))
  | (with_reducible refine r_c ?_)
  | (with_reducible refine r_name ?_)
  | (with_reducible refine r_op ?_)
  | (with_reducible refine r_un ?_)
  | (with_reducible refine r_consA ?_)
  | (with_reducible refine r_nilA ?_)
  | (with_reducible refine r_I0 ?_)
  | (with_reducible refine r_U ?_)
  | (with_reducible refine r_eqI ?_)
  | (with_reducible refine r_neI ?_)
  | (with_reducible refine r_test ?_)
  | (with_reducible refine r_tB ?_)
  | (with_reducible refine r_kB ?_)
  | (with_reducible refine r_ifS ?_)
  | (with_reducible refine r_if ?_)
  | (with_reducible refine r_and ?_)
  | (with_reducible refine r_or ?_)
  | (with_reducible refine r_not ?_)
  | (with_reducible refine r_ret ?_)
  | (with_reducible refine r_retN ?_)
  | (with_reducible refine r_next ?_)
  | (with_reducible refine r_drop ?_)
  | (with_reducible refine r_brk ?_)
  | (with_reducible refine r_cont ?_)
  | (with_reducible refine r_andV ?_)
  | (with_reducible refine r_orV ?_)
  | (with_reducible refine r_notV ?_)
  | (with_reducible refine r_kNotV ?_)
  | (with_reducible refine r_lst ?_)
  | (with_reducible refine r_tup ?_)
  | (with_reducible refine r_dget ?_)
  | (with_reducible refine r_dput ?_)
  | (with_reducible refine r_use ?_)
  | (with_reducible refine r_cb ?_)
  | (with_reducible refine r_par ?_)
  | (with_reducible refine r_int ?_)
  | (with_reducible refine r_abs ?_)
  | (with_reducible refine r_max2 ?_)
  | (with_reducible refine r_min2 ?_)
  | (with_reducible refine r_pnil ?_)
  | (with_reducible refine r_pcons ?_)
  | (with_reducible refine r_eqS ?_)
  | (with_reducible refine r_neS ?_)
  | (with_reducible refine r_for ?_)
  | (with_reducible refine r_rng1 ?_)
  | (with_reducible refine r_rng2 ?_)
  | (with_reducible refine r_wl ?_)
  | (with_reducible refine r_wt ?_)
  | (with_reducible refine r_wq ?_)
  | (with_reducible refine r_ws ?_)
  | (with_reducible refine r_cWS ?_)
  | (with_reducible refine r_enum ?_)
  | (with_reducible refine r_zip ?_)
  | (with_reducible refine r_lc ?_)
  | (with_reducible refine r_dc ?_)
  | ((with_reducible refine r_kTurn ?ht ?_); (case ht => rfl))
  | ((with_reducible refine r_kTurnD ?ht ?_); (case ht => rfl))
  | (with_reducible refine r_yes ?_)
  | ((with_reducible refine r_kKeep1 ?hk ?_); (case hk => rfl))
  | ((with_reducible refine r_kKeepD1 ?hk ?_); (case hk => rfl))
  | (with_reducible refine r_gcons ?_)
  | (with_reducible refine r_gnil ?_)
  | (with_reducible refine r_bm ?_)
  | (with_reducible refine r_bm0 ?_)
  | (with_reducible refine r_fld ?_)
  | (with_reducible refine r_sfld ?_)
  | (with_reducible refine r_methR ?_)
  | (with_reducible refine r_makeR ?_)
  | (with_reducible refine r_chain ?_)))
local macro_rules | `(tactic| walk_at "S") => `(tactic| repeat walk_at "s")
local macro_rules | `(tactic| walk_at "D") => `(tactic| repeat' (first
  | exact AD_nil
  | refine AD_cons ?_ (fun _ _ => ?_)
  | refine ED_tup ?_ (Nat.le_trans (m := 100) (Nat.le_of_ble_eq_true rfl) (by decide))
  | refine ED_lst ?_ (Nat.le_trans (m := 100) (Nat.le_of_ble_eq_true rfl) (by decide))
  | exact ED_c (by constructor)
  | exact ED_var rfl (by constructor)))
local macro_rules | `(tactic| walk_at "N") => `(tactic| repeat' (first
  | exact AN_nil
  | refine AN_cons ?_ (fun _ _ => ?_)
  | refine EN_tup ?_ (Nat.le_trans (m := 100) (Nat.le_of_ble_eq_true rfl) (by decide))
  | refine EN_lst ?_ (Nat.le_trans (m := 100) (Nat.le_of_ble_eq_true rfl) (by decide))
  | exact EN_c (fun _ => by constructor)
  | exact EN_var rfl (fun _ => by constructor)))

/-- what the walk asks of the module's names -/
structure Txt (K : PySem.W.Frag) (mg : Str → Option Value) (C_Swap : Addr) (C_Leave : Addr) (C_Double : Addr) (C_Names : Addr) (C_Drop : Addr) (C_Slips : Addr) (C_BadSlip : Addr) (C_Slip : Addr) (G_SLIP_WORDS : Addr) : Prop where
  z_ValueError : mg "ValueError" = none
  z_LookupError : mg "LookupError" = none
  z_all : mg "all" = none
  z_list : mg "list" = none
  z_enumerate : mg "enumerate" = none
  z_range : mg "range" = none
  z_tuple : mg "tuple" = none
  z_dict : mg "dict" = none
  z_iter : mg "iter" = none
  z_len : mg "len" = none
  z_any : mg "any" = none
  z_int : mg "int" = none
  z_max : mg "max" = none
  z_sorted : mg "sorted" = none
  z_isinstance : mg "isinstance" = none
  z_str : mg "str" = none
  z_min : mg "min" = none
  z_abs : mg "abs" = none
  z_super : mg "super" = none
  c_Swap : Cls K C_Swap
  v_Swap : ∃ u, mg "Swap" = some u ∧ RelV (.ref C_Swap) u
  na_Swap_parts : NoAttr K C_Swap "parts"
  c_Leave : Cls K C_Leave
  v_Leave : ∃ u, mg "Leave" = some u ∧ RelV (.ref C_Leave) u
  na_Leave_parts : NoAttr K C_Leave "parts"
  c_Double : Cls K C_Double
  v_Double : ∃ u, mg "Double" = some u ∧ RelV (.ref C_Double) u
  na_Double_parts : NoAttr K C_Double "parts"
  c_Names : Cls K C_Names
  v_Names : ∃ u, mg "Names" = some u ∧ RelV (.ref C_Names) u
  na_Names_parts : NoAttr K C_Names "parts"
  c_Drop : Cls K C_Drop
  v_Drop : ∃ u, mg "Drop" = some u ∧ RelV (.ref C_Drop) u
  na_Drop_parts : NoAttr K C_Drop "parts"
  c_Slips : Cls K C_Slips
  v_Slips : ∃ u, mg "Slips" = some u ∧ RelV (.ref C_Slips) u
  na_Slips_kept : NoAttr K C_Slips "kept"
  v_BadSlip : ∃ u, mg "BadSlip" = some u ∧ RelV (.ref C_BadSlip) u
  v_Slip : ∃ u, mg "Slip" = some u ∧ RelV (.ref C_Slip) u
  i_BadSlip : ExcC K C_BadSlip
  fc_Slip : ∀ C, (FamS [C_Swap, C_Leave, C_Double, C_Names, C_Drop]) C → Cls K C
  fn_Slip_parts : ∀ C, (FamS [C_Swap, C_Leave, C_Double, C_Names, C_Drop]) C → NoAttr K C "parts"
  cl_Slip : ∀ C, (FamS [C_Swap, C_Leave, C_Double, C_Names, C_Drop]) C → PySem.W.findIn K (.ref C) "__class__" = some (some (.builtin "object.__class__"))
  ob_Slip : ∀ C, (FamS [C_Swap, C_Leave, C_Double, C_Names, C_Drop]) C → PySem.W.mroIn K C (.type "object") = some true
  ki_Slip : ∀ C, (FamS [C_Swap, C_Leave, C_Double, C_Names, C_Drop]) C → PySem.W.kitOne K (.ref C) (.ref C_Slip) = some true
  gt_Slip : PySem.W.specialIn K (.builtin "object.__class__") "__get__" = some (some (.builtin "getset_descriptor.__get__"))
  tk_Slip : PySem.W.takesIn K (.builtin "object.__class__") = some true
  nf_Slip : ∀ C, (FamS [C_Swap, C_Leave, C_Double, C_Names, C_Drop]) C → ∀ D, (FamS [C_Swap, C_Leave, C_Double, C_Names, C_Drop]) D → PySem.W.notFirst K C (.ref D) = true
  fc_Slips : ∀ C, (FamS [C_Slips]) C → Cls K C
  fn_Slips_kept : ∀ C, (FamS [C_Slips]) C → NoAttr K C "kept"
  cl_Slips : ∀ C, (FamS [C_Slips]) C → PySem.W.findIn K (.ref C) "__class__" = some (some (.builtin "object.__class__"))
  ob_Slips : ∀ C, (FamS [C_Slips]) C → PySem.W.mroIn K C (.type "object") = some true
  ki_Slips : ∀ C, (FamS [C_Slips]) C → PySem.W.kitOne K (.ref C) (.ref C_Slips) = some true
  nlist_Slips : ∀ C, (FamS [C_Slips]) C → PySem.W.notFirst K C (.type "list") = true
  klist_Slips : PySem.W.kitOne K (.type "list") (.ref C_Slips) = some false
  gt_Slips : PySem.W.specialIn K (.builtin "object.__class__") "__get__" = some (some (.builtin "getset_descriptor.__get__"))
  tk_Slips : PySem.W.takesIn K (.builtin "object.__class__") = some true
  nf_Slips : ∀ C, (FamS [C_Slips]) C → ∀ D, (FamS [C_Slips]) D → PySem.W.notFirst K C (.ref D) = true
  sf_Slips : PySem.W.selfFirst K C_Slips = true
  nb_Slips : PySem.W.findIn K (.ref C_Slips) "__bool__" = some none
  g_SLIP_WORDS : ∃ u, mg "SLIP_WORDS" = some u ∧ RelV (.ref G_SLIP_WORDS) u
  q_SLIP_WORDS : ∀ H, SqT K H G_SLIP_WORDS [V.str "swap", V.str "leave", V.str "double", V.str "names", V.str "drop"]
section
variable {P : Program} {w : World} {K : PySem.W.Frag} {mg : Str → Option Value} {base : Heap}
variable {C_Swap : Addr} {C_Leave : Addr} {C_Double : Addr} {C_Names : Addr} {C_Drop : Addr} {C_Slips : Addr} {C_BadSlip : Addr} {C_Slip : Addr} {G_SLIP_WORDS : Addr}

open NdefX
local macro_rules | `(tactic| walk_at "s") => `(tactic| (first
  | (with_reducible refine r_sl ?_)
  | (with_reducible refine r_kS1 ?_)
  | (with_reducible refine r_kS2 ?_)
  | (with_reducible refine r_kS3 ?_)
  | (with_reducible refine r_noPart ?_)
  | (with_reducible refine r_part ?_)
  | (with_reducible refine r_kPart ?_)
  | (with_reducible refine r_gsub ?_)
  | (with_reducible refine r_m1 ?_)
  | (with_reducible refine r_kM1 ?_)
  | (with_reducible refine r_propF ?_)
  | (with_reducible refine r_drp ?_)
  | (with_reducible refine r_min2S ?_)
  | (with_reducible refine r_max2S ?_)
  | (with_reducible refine r_enumS ?_)
  | (with_reducible refine r_cEnumS ?_)
  | (with_reducible refine r_makeKS ?_)
  | (with_reducible refine r_makeS ?_)))

local macro_rules | `(tactic| walk_at "s") => `(tactic| (first
  | (with_reducible refine r_mkV ?_)
  | (with_reducible refine r_ofl ?_)
  | (with_reducible refine r_methF ?_)
  | (with_reducible refine r_callF ?_)
  | (with_reducible refine r_star ?_)
  | (with_reducible refine r_smeth ?_)
  | (with_reducible refine r_kSMeth ?_)))

local macro_rules | `(tactic| walk_at "s") => `(tactic| (first
  | (with_reducible refine r_dcT ?_)
  | ((with_reducible refine r_kTurnT ?ht ?_); (case ht => rfl))
  | ((with_reducible refine r_kKeepT1 ?hk ?_); (case hk => rfl))
  | (with_reducible refine r_own ?_)
  | (with_reducible refine r_cmeth ?_)
  | (with_reducible refine r_kCMeth ?_)
  | (with_reducible refine r_makeS1 ?_)
  | ((with_reducible refine r_makeV ?hv ?_); (case hv => rfl))
  | (with_reducible refine r_isBl ?_)
  | (with_reducible refine r_ltS ?_)
  | (with_reducible refine r_lr1 ?_)
  | (with_reducible refine r_lc2 ?_)
  | ((with_reducible refine r_kTurn2 ?ht ?_); (case ht => rfl))
  | ((with_reducible refine r_kKeep2 ?hk ?_); (case hk => rfl))))

local macro_rules | `(tactic| walk_at "s") => `(tactic| (first
  | (with_reducible refine r_tTruOwn ?_)
  | (with_reducible refine r_notOwn ?_)
  | (with_reducible refine r_par3 ?_)))

theorem kit_self {K : PySem.W.Frag} {C : Addr} : PySem.W.kitOne K (.ref C) (.ref C) = some true := by
  unfold PySem.W.kitOne
  rw [if_pos]
  exact beq_self_eq_true _
/-! ### the draws: a list of two numbers -/
def BagL (H : Hp) (p : Addr) : Prop := ∃ d b : Int, H p = some (.lst [.int d, .int b])
theorem BagL.kp {H H' : Hp} {p : Addr} {ex : List Addr} (b : BagL H p) (k : Kp ex H H') (m : p ∉ ex) : BagL H' p := by
  obtain ⟨d, s, e⟩ := b
  exact ⟨d, s, k _ _ e m⟩
theorem BagL.some {H : Hp} {p : Addr} (b : BagL H p) : ∃ o, H p = Option.some o := by
  obtain ⟨d, s, e⟩ := b
  exact ⟨_, e⟩
theorem cdivw {i j : Int} (h : 0 < j) (h2 : j < 2 ^ 200) : CDivW i j := wide_div h (by omega : j.natAbs < 2 ^ 200) (by decide) (by decide)
/-- _law_bag(script, at): a new bag -/
def sp__law_bag (K : PySem.W.Frag) : Sp := fun vs H Q _ => ∃ (a : Addr) (ns : List Int) (k : Nat), vs = [.ref a, .int (k : Int)] ∧ SqL K H a (ns.map V.int) ∧ ns.length ≤ 63 ∧ k ≤ 1000 ∧
  ∀ p H', H p = none → Kp [] H H' → BagL H' p → Q (.ref p) H'
/-- _law_take(bag, many): some number from 0 to below many; nothing but the bag changes -/
def sp__law_take (_K : PySem.W.Frag) : Sp := fun vs H Q _ => ∃ (p : Addr) (m : Int), vs = [.ref p, .int m] ∧ BagL H p ∧ 0 < m ∧ m < 2 ^ 200 ∧
  ∀ (r : Int) H', 0 ≤ r → r < m → Kp [p] H H' → BagL H' p → Q (.int r) H'
abbrev s__law_take : Stmt := top 27
theorem sc__law_take : FnScope ["_law_bag_here", "_law_many", "_law_digit"] ["_law_bag_here", "_law_many"] (defScope s__law_take) :=
  ⟨rfl, rfl, rfl, by decide +kernel, rfl, by decide +kernel, by decide +kernel⟩
theorem ok__law_take {f : Addr} {fd : FuncData} (F : Fun K "_law_take" "_law_take" s__law_take f fd) (T : Txt K mg C_Swap C_Leave C_Double C_Names C_Drop C_Slips C_BadSlip C_Slip G_SLIP_WORDS) :
    FnOk P w K mg base CX0 2 f fd ["_law_bag_here", "_law_many"] (sp__law_take K) := by
  refine F.ok sc__law_take (fun vs H Q E h => ?_) (fun cdv A outer s H vs Q E hr h => ?_)
  · obtain ⟨p, m, rfl, _⟩ := h
    rfl
  · obtain ⟨p, m, rfl, hb, h0, h1, q⟩ := h
    obtain ⟨d, b, e⟩ := hb
    have hu := hu_of hr
    have hu64 := hr.units
    refine ⟨_, (pss_cons (ps_if (pt_cmpR op_gt (pe_ix (K_ixL (K := K) rfl) (pv 0) pe_int (fun _ _ => rfl)) pe_int (nomark _))
          (pss_cons (ps_set (i := 2) sc__law_take.nd rfl (by first | exact Or.inl rfl | exact Or.inr rfl) (pe_op op_modN (pe_callTy cr_int (by rfl) T.z_int (by decide +kernel) (pa_cons (pe_ix (K_ixL (K := K) rfl) (pv 0) pe_int (fun _ _ => rfl)) pa_nil)) (pv 1)))
          (pss_cons (ps_asg (pe_op op_fdivW (pe_ix (K_ixL (K := K) rfl) (pv 0) pe_int (fun _ _ => rfl)) (pv 1)) (pg_sub (pv 0) pe_int set_list))
          (pss_one (ps_ret (pv 2)))))
          pss_nil)
        (pss_cons (ps_asg (pe_op op_modN (pe_callTy cr_int (by rfl) T.z_int (by decide +kernel) (pa_cons (pe_op op_add (pe_op op_mul (pe_ix (K_ixL (K := K) rfl) (pv 0) pe_int (fun _ _ => rfl)) pe_int) pe_int) pa_nil)) pe_int) (pg_sub (pv 0) pe_int set_list))
        (pss_one (ps_ret (pe_op op_modN (pe_op op_fdivW (pe_op op_modN (pe_callTy cr_int (by rfl) T.z_int (by decide +kernel) (pa_cons (pe_op op_mul (pe_op op_fdivW (pe_ix (K_ixL (K := K) rfl) (pv 0) pe_int (fun _ _ => rfl)) pe_int) pe_int) pa_nil)) pe_int) pe_int) (pv 1)))))), ?_⟩
    walk_at "S"
    refine r_ixL (SqL.of e) (atI_nat (j := 0) rfl) ?_
    walk_at "S"
    refine r_kIfS (fun c => ?_) (fun c => ?_)
    · walk_at "S"
      refine r_ixL (SqL.of e) (atI_nat (j := 0) rfl) ?_
      walk_at "S"
      refine r_I (by omega) ?_
      walk_at "S"
      refine r_ixL (SqL.of e) (atI_nat (j := 0) rfl) ?_
      walk_at "S"
      refine r_I (cdivw h0 h1) ?_
      walk_at "S"
      refine r_setL e rfl fun H1 k1 e1 => ?_
      walk_at "S"
      exact q _ _ (Int.fmod_nonneg_of_pos _ h0) (Int.fmod_lt_of_pos _ h0) k1 ⟨_, _, e1⟩
    · walk_at "S"
      refine r_ixL (SqL.of e) (atI_nat (j := 1) rfl) ?_
      walk_at "S"
      refine r_I (.inr (by decide)) ?_
      walk_at "S"
      refine r_I (by decide) ?_
      walk_at "S"
      refine r_setL e rfl fun H1 k1 e1 => ?_
      walk_at "S"
      refine r_ixL (SqL.of e1) (atI_nat (j := 1) rfl) ?_
      walk_at "S"
      refine r_I (cdivw (by decide) (by decide)) ?_
      walk_at "S"
      refine r_I (.inr (by decide)) ?_
      walk_at "S"
      refine r_I (by decide) ?_
      walk_at "S"
      refine r_I (cdivw (by decide) (by decide)) ?_
      walk_at "S"
      refine r_I (by omega) ?_
      exact q _ _ (Int.fmod_nonneg_of_pos _ h0) (Int.fmod_lt_of_pos _ h0) k1 ⟨_, _, e1⟩
abbrev s__law_bag : Stmt := top 26
theorem sc__law_bag : FnScope ["_law_script", "_law_at", "_law_cell", "_law_blend", "_law_k", "_law_each"] ["_law_script", "_law_at"] (defScope s__law_bag) :=
  ⟨rfl, rfl, rfl, by decide +kernel, rfl, by decide +kernel, by decide +kernel⟩
theorem ok__law_bag {f : Addr} {fd : FuncData} (F : Fun K "_law_bag" "_law_bag" s__law_bag f fd) (T : Txt K mg C_Swap C_Leave C_Double C_Names C_Drop C_Slips C_BadSlip C_Slip G_SLIP_WORDS) :
    FnOk P w K mg base CX0 2 f fd ["_law_script", "_law_at"] (sp__law_bag K) := by
  refine F.ok sc__law_bag (fun vs H Q E h => ?_) (fun cdv A outer s H vs Q E hr h => ?_)
  · obtain ⟨a, ns, k, rfl, _⟩ := h
    rfl
  · obtain ⟨a, ns, k, rfl, hS, hn, hk, q⟩ := h
    have hu := hu_of hr
    have hu64 := hr.units
    refine ⟨_, (pss_cons (ps_set (i := 2) sc__law_bag.nd rfl (by first | exact Or.inl rfl | exact Or.inr rfl) (pe_cutE (pe_ifExp (pt_cmpR op_lt (pv 1) (pe_callB (K_len (K := K) rfl) (by rfl) T.z_len (by decide +kernel) (pa_cons (pv 0) pa_nil)) (nomark _)) (pe_ix (K_ixL (K := K) rfl) (pv 0) (pv 1) (fun _ _ => rfl)) pe_int)))
        (pss_cons (ps_set (i := 3) sc__law_bag.nd rfl (by first | exact Or.inl rfl | exact Or.inr rfl) (pe_op op_add (pe_op op_mul pe_int (pv 1)) pe_int))
        (pss_cons (ps_for PassesOwn.never (by rfl) (K_enum (K := K) rfl (by rfl) T.z_enumerate (pa_cons (pe_slice (K_slL (K := K) rfl) (pv 0) po_none (po_some pe_int)) pa_nil)) (K_gtup (K := K) (n := 2) rfl (by rfl) (pgs_cons (pg_name (i := 4) sc__law_bag.nd rfl (by first | exact Or.inl rfl | exact Or.inr rfl)) (pgs_cons (pg_name (i := 5) sc__law_bag.nd rfl (by first | exact Or.inl rfl | exact Or.inr rfl)) pgs_nil)))
          (pss_one (ps_set (i := 3) sc__law_bag.nd rfl (by first | exact Or.inl rfl | exact Or.inr rfl) (pe_op op_modN (pe_callTy cr_int (by rfl) T.z_int (by decide +kernel) (pa_cons (pe_op op_add (pe_op op_add (pe_op op_add (pe_op op_mul (pv 3) pe_int) (pe_op op_modN (pe_callTy cr_int (by rfl) T.z_int (by decide +kernel) (pa_cons (pv 5) pa_nil)) pe_int)) (pe_op op_mul pe_int (pv 4))) pe_int) pa_nil)) pe_int))))
        (pss_one (ps_ret (pe_lst (pa_cons (pe_ifExp (pt_cmpR op_ge (pe_callB cr_abs (by rfl) T.z_abs (by decide +kernel) (pa_cons (pv 2) pa_nil)) (pe_op op_pow pe_int pe_int) (nomark _)) (pe_callB cr_abs (by rfl) T.z_abs (by decide +kernel) (pa_cons (pv 2) pa_nil)) pe_int) (pa_cons (pv 3) pa_nil)))))))), ?_⟩
    walk_at "S"
    refine r_cutE (fun x H' => H = H' ∧ ∃ z, x = V.int z) ?_ ?_
    · walk_at "S"
      refine r_lenL hS ?_
      walk_at "S"
      refine r_kIf (fun c => ?_) (fun c => ?_)
      all_goals walk_at "S"
      · have c' : (k : Int) < ((ns.map V.int).length : Nat) := of_decide_eq_true c
        obtain ⟨v, hv, hm, _⟩ := atI_in (l := ns.map V.int) (i := (k : Int)) (by omega) c'
        obtain ⟨z, _, rfl⟩ := List.mem_map.mp hm
        exact r_ixL hS hv ⟨rfl, z, rfl⟩
      · exact ⟨rfl, 0, rfl⟩
    rintro x H' ⟨rfl, z, rfl⟩
    walk_at "S"
    refine r_I (.inl (by decide)) ?_
    walk_at "S"
    refine r_slL hS fun l H1 nl k1 e1 => ?_
    rw [show (some (40 : Int)) = some ((40 : Nat) : Int) from rfl, cut_to] at e1
    refine r_cEnum (SqL.of e1) ?_
    have hlen : ((ns.map V.int).take 40).length ≤ 40 := List.length_take_le _ _
    refine r_kFor (walk_enum (xs := (ns.map V.int).take 40)) (fun i σ' H' => ∃ (b : Int) (v4 v5 : Option V), σ' = [some (.ref a), some (.int (k : Int)), some (.int z), some (.int b), v4, v5] ∧ Kp [] H1 H') ⟨_, none, none, rfl, Kp.refl _ _⟩ (fun i σ' H' _ h => ?_) ?_ ?_
    · obtain ⟨_, _, _, _, k2⟩ := h
      exact SqL.of (k2 _ _ e1 not_nil)
    · rintro i x σ' H2 H3 hi ⟨b, v4, v5, rfl, k2⟩ ⟨t, u, v, rfl, nt, rfl, hu, hx⟩
      cases hu
      have hx' : (ns.map V.int)[i]? = some v := by
        have e : ((ns.map V.int).take 40)[i]? = some v := hx
        rw [List.getElem?_take] at e
        split at e
        · exact e
        · cases e
      obtain ⟨y, _, rfl⟩ := map_at hx'
      refine r_gtup (SqT.of upd_same) rfl ?_
      walk_at "S"
      refine r_I (.inr (by decide)) ?_
      walk_at "S"
      refine r_I (by decide) ?_
      walk_at "S"
      refine r_I (.inl (by decide)) ?_
      walk_at "S"
      refine r_I (by decide) ?_
      walk_at "S"
      exact ⟨_, _, _, rfl, k2.trans (Kp.new nt)⟩
    · rintro σ' H2 ⟨b, v4, v5, rfl, k2⟩
      walk_at "S"
      refine r_I ⟨by decide, by decide, by decide⟩ ?_
      walk_at "S"
      refine r_kIf (fun c => ?_) (fun c => ?_)
      all_goals
        walk_at "S"
        refine r_kLst (xs := [V.int _, V.int _]) (by show 2 ≤ sizeLine; decide) fun p H3 np k3 e3 => ?_
        exact q p H3 ((k1.trans k2).free np not_nil) ((k1.trans k2).trans k3) ⟨_, _, e3⟩

/-- _law_of(bag, some), some a list: one of its items -/
def sp__law_of (K : PySem.W.Frag) : Sp := fun vs H Q _ => ∃ (p a : Addr) (xs : List V), vs = [.ref p, .ref a] ∧ BagL H p ∧ SqL K H a xs ∧ a ≠ p ∧ 0 < xs.length ∧ xs.length ≤ 1000000 ∧
  ∀ (v : V) H', v ∈ xs → Kp [p] H H' → BagL H' p → Q v H'
abbrev s__law_of : Stmt := top 28
theorem sc__law_of : FnScope ["_law_bag_here", "_law_some"] ["_law_bag_here", "_law_some"] (defScope s__law_of) :=
  ⟨rfl, rfl, rfl, by decide +kernel, rfl, by decide +kernel, by decide +kernel⟩
theorem ok__law_of {f : Addr} {fd : FuncData} (F : Fun K "_law_of" "_law_of" s__law_of f fd) (T : Txt K mg C_Swap C_Leave C_Double C_Names C_Drop C_Slips C_BadSlip C_Slip G_SLIP_WORDS) (U__law_take : Use P w K mg base 2 "_law_take" ["_law_bag_here", "_law_many"] (sp__law_take K)) :
    FnOk P w K mg base CX0 4 f fd ["_law_bag_here", "_law_some"] (sp__law_of K) := by
  refine F.ok sc__law_of (fun vs H Q E h => ?_) (fun cdv A outer s H vs Q E hr h => ?_)
  · obtain ⟨p, a, xs, rfl, _⟩ := h
    rfl
  · obtain ⟨p, a, xs, rfl, hb, hS, hap, h0, h1, q⟩ := h
    have hu := hu_of hr
    have hu64 := hr.units
    refine ⟨_, (pss_one (ps_ret (pe_ix (K_ixL (K := K) rfl) (pv 1) (pe_use U__law_take (hr.mono (by first | decide | omega)) (by rfl) (pa_cons (pv 0) (pa_cons (pe_callB (K_len (K := K) rfl) (by rfl) T.z_len (by decide +kernel) (pa_cons (pv 1) pa_nil)) pa_nil))) (fun _ _ => rfl)))), ?_⟩
    walk_at "S"
    refine r_lenL hS ?_
    walk_at "S"
    refine ⟨p, _, rfl, hb, by omega, by omega, fun r H1 r0 r1 k1 b1 => ?_⟩
    obtain ⟨v, hv, hm, _⟩ := atI_in (l := xs) r0 r1
    refine r_ixL (sql_kp hS k1 (not_one hap)) hv ?_
    exact q v H1 hm k1 b1

/-! ### slips: objects of five classes, each with its parts -/
/-- the class at the place of the key's number -/
def FamK (CS : List Addr) (ds : List PyData) (C : Addr) : Prop := ∃ k : Nat, ds.head? = some (.int (k : Int)) ∧ CS[k]? = some C
theorem FamK.fam {CS : List Addr} {ds : List PyData} {C : Addr} (h : FamK CS ds C) : FamS CS C := let ⟨_, _, e⟩ := h; List.mem_of_getElem? e
def SlipAt (CS : List Addr) (H : Hp) (a : Addr) (ds : List PyData) : Prop := ∃ C dx p, FamK CS ds C ∧ H a = some (.ins C dx [("parts", .ref p)]) ∧ Dt [] H (.ref p) (.tuple ds)
theorem SlipAt.kp {CS : List Addr} {H H' : Hp} {a : Addr} {ds : List PyData} (h : SlipAt CS H a ds) (k : Kp [] H H') : SlipAt CS H' a ds := by
  obtain ⟨C, dx, p, hS, e, d⟩ := h
  exact ⟨C, dx, p, hS, k _ _ e not_nil, d.mono k⟩
/-- behind __init__: the parts are a new tuple -/
def kParts (Q : VK) (H : Hp) (a C dx : Addr) (ws : List V) : Prop := ∀ p H', H p = none → Kp [a] H H' → H' a = some (.ins C dx [("parts", .ref p)]) → H' p = some (.tup ws) → Q .non H'
/-- a new slip, as its maker sees it -/
theorem parts_made {CS : List Addr} {Q : VK} {H H1 : Hp} {a C dx : Addr} {ws : List V} {ds : List PyData} (hS : FamK CS ds C) (n : H a = none) (k : Kp [] H H1) (al : ∀ H', DtAll [] H' ws ds) (q : ∀ H', Kp [] H H' → SlipAt CS H' a ds → Q (.ref a) H') : kParts (kMade a Q) H1 a C dx ws := fun p H' _ k2 ea ep =>
  r_kMade (q H' (Kp.drop (k.nil.trans k2) n) ⟨C, dx, p, hS, ea, .tup not_nil ep (al H')⟩)
def spb_Slip___init__ (CS : List Addr) : Sp := fun vs H Q _ => ∃ a p C dx, vs = [.ref a, .ref p] ∧ H a = some (.ins C dx []) ∧ FamS CS C ∧ ∀ H', Kp [a] H H' → H' a = some (.ins C dx [("parts", .ref p)]) → Q .non H'
def sp_Slip___init__ (CS : List Addr) : Sp := fun vs H Q _ => ∃ a C dx ws, vs = .ref a :: ws ∧ H a = some (.ins C dx []) ∧ FamS CS C ∧ ws.length ≤ 1000 ∧ kParts Q H a C dx ws
abbrev s_Slip___init__ : Stmt := inClass (top 15) 0
theorem sc_Slip___init__ : FnScope ["self", "parts"] ["self", "parts"] (defScope s_Slip___init__) :=
  ⟨rfl, rfl, rfl, by decide +kernel, rfl, by decide +kernel, by decide +kernel⟩
theorem ok_Slip___init__ {f : Addr} {fd : FuncData} (F : Fun K "__init__" "Slip.__init__" s_Slip___init__ f fd) (T : Txt K mg C_Swap C_Leave C_Double C_Names C_Drop C_Slips C_BadSlip C_Slip G_SLIP_WORDS) :
    FnR P w K mg base CX0 2 f (sp_Slip___init__ [C_Swap, C_Leave, C_Double, C_Names, C_Drop]) := by
  obtain ⟨oc, od, kV, doc, pm, an, cdv, ct, osl, rfl, lk, hcd⟩ := F.ex
  refine FnR.imp (fn_star (ps := ["self"]) (pv := "parts") lk hcd sc_Slip___init__ cxUp_none (bind_star1 (B := fun us => bindArgs (PySem.W.fnOf "__init__" "Slip.__init__" (defArgs s_Slip___init__) (defBody s_Slip___init__) (defScope s_Slip___init__) .none kV doc pm an cdv ct) ⟨us, []⟩) (fun _ => rfl) (fun _ _ _ => rfl)) (sp := spb_Slip___init__ [C_Swap, C_Leave, C_Double, C_Names, C_Drop]) (fun A outer s H vs Q E hr h => ?_)) (fun vs H Q E h => ?_)
  · obtain ⟨a, p, C, dx, rfl, ha, hS, q⟩ := h
    have hu := hu_of hr
    have hu64 := hr.units
    refine ⟨_, (pss_one (ps_fld (pv 0) (pv 1) rfl)), ?_⟩
    walk_at "S"
    exact r_kSF ha (T.fc_Slip C hS) (T.fn_Slip_parts C hS) (by decide : 0 < 1000) fun H' k e => q H' k e
  · obtain ⟨a, C, dx, ws, rfl, ha, hS, hl, q⟩ := h
    refine ⟨[.ref a], ws, rfl, rfl, Nat.le_trans hl (by decide), fun p np => ⟨a, p, C, dx, rfl, (Kp.new (ex := []) np) _ _ ha not_nil, hS, fun H' k e => ?_⟩⟩
    have ap : p ≠ a := fun z => by
      rw [z, ha] at np
      cases np
    exact q p H' np ((Kp.new np).trans k) e (k _ _ upd_same (not_one ap))
def sp_Slip_key (CS : List Addr) : Sp := fun vs H Q _ => ∃ a ds, vs = [.ref a] ∧ SlipAt CS H a ds ∧ ∀ p, Dt [] H (.ref p) (.tuple ds) → Q (.ref p) H
abbrev s_Slip_key : Stmt := inClass (top 15) 1
theorem sc_Slip_key : FnScope ["self"] ["self"] (defScope s_Slip_key) :=
  ⟨rfl, rfl, rfl, by decide +kernel, rfl, by decide +kernel, by decide +kernel⟩
theorem ok_Slip_key {f : Addr} {fd : FuncData} (F : Fun K "key" "Slip.key" s_Slip_key f fd) (T : Txt K mg C_Swap C_Leave C_Double C_Names C_Drop C_Slips C_BadSlip C_Slip G_SLIP_WORDS) :
    FnOk P w K mg base CX0 2 f fd ["self"] (sp_Slip_key [C_Swap, C_Leave, C_Double, C_Names, C_Drop]) := by
  refine F.ok sc_Slip_key (fun vs H Q E h => ?_) (fun cdv A outer s H vs Q E hr h => ?_)
  · obtain ⟨a, ds, rfl, _⟩ := h
    rfl
  · obtain ⟨a, ds, rfl, ⟨C, dx, p, hS, e, d⟩, q⟩ := h
    have hu := hu_of hr
    have hu64 := hr.units
    refine ⟨_, (pss_one (ps_ret (K_fld (K := K) rfl (pv 0) rfl))), ?_⟩
    walk_at "S"
    exact r_kFld e (T.fc_Slip C hS.fam) (T.fn_Slip_parts C hS.fam) rfl (q p d)
def slipWords : List Str := ["swap", "leave", "double", "names", "drop"]
/-- the text of a slip -/
def slipText (k : Nat) (ds : List PyData) : Str := Txt.join " " (slipWords.getD k "" :: ds.map strD)
theorem cut_1 {xs : List V} : cutV xs (some 1) none = xs.drop 1 := cut_from 1
abbrev s_BadSlip___init__ : Stmt := inClass (top 5) 0
theorem ok_BadSlip___init__ {f : Addr} {fd : FuncData} {C : Addr} (F : SFun P K mg "BadSlip.__init__" s_BadSlip___init__ C f fd) (nf : PySem.W.findIn K (.ref C) "what" = some none) : FnOk P w K mg base CX0 1 f fd ["self", "what"] (sp_exc1 "what" C) := by
  obtain ⟨oc, kV, doc, pm, ct, cl, od, an, cld, cda, cc, osl, csl, rfl, lk, hcd, cell, Z⟩ := F.ex
  refine fn_sup (N := ["self", "what", "__class__"]) lk hcd cell (nscope_by (by decide +kernel)) (fun vs H Q E h => ?_) (fun A outer s H vs Q E hr h => ?_)
  · obtain ⟨a, v, rfl, _⟩ := h
    rfl
  · obtain ⟨a, v, rfl, ha, q⟩ := h
    exact ⟨_, qs_sup (params := defArgs s_BadSlip___init__) (body := defBody s_BadSlip___init__) (scope := defScope s_BadSlip___init__) (pl := _) lk cell Z rfl rfl rfl rfl rfl rfl rfl rfl rfl rfl (qs_of (pss_one (ps_ost (pv 0) (pv 1) rfl))), r_sup rfl ha (r_ost rfl rfl Z.oex nf ha q)⟩
def mnI (i j : Int) : Int := if j < i then j else i
def mxI (i j : Int) : Int := if j > i then j else i
/-- an exchange of places -/
def sp_Swap___init__ (C CB : Addr) : Sp := fun vs H Q E => ∃ a dx i j, vs = [.ref a, .int i, .int j] ∧ H a = some (.ins C dx []) ∧ (i ≠ j → kParts Q H a C dx [.int 0, .int (mnI i j), .int (mxI i j)]) ∧
  (i = j → ∀ d H', H d = none → Kp [] H H' → H' d = some (.xd [("what", .int i)]) → E (.ref CB) (some d) H')
/-- an exchange of names -/
def sp_Names___init__ (C CB : Addr) : Sp := fun vs H Q E => ∃ a dx i j, vs = [.ref a, .str i, .str j] ∧ H a = some (.ins C dx []) ∧ (i ≠ j → kParts Q H a C dx [.int 3, .str (minS i j), .str (maxS i j)]) ∧
  (i = j → ∀ d H', H d = none → Kp [] H H' → H' d = some (.xd [("what", .str i)]) → E (.ref CB) (some d) H')
def sp_Leave___init__ (C : Addr) : Sp := fun vs H Q _ => ∃ a dx v, vs = [.ref a, v] ∧ H a = some (.ins C dx []) ∧ kParts Q H a C dx [.int 1, v]
def sp_Double___init__ (C : Addr) : Sp := fun vs H Q _ => ∃ a dx v, vs = [.ref a, v] ∧ H a = some (.ins C dx []) ∧ kParts Q H a C dx [.int 2, v]
def sp_Drop___init__ (C : Addr) : Sp := fun vs H Q _ => ∃ a dx v, vs = [.ref a, v] ∧ H a = some (.ins C dx []) ∧ kParts Q H a C dx [.int 4, v]
abbrev s_Swap___init__ : Stmt := inClass (top 16) 0
theorem ok_Swap___init__ {f : Addr} {fd : FuncData} {fs_Slip : Addr} (F : SFunO P K mg "__init__" "Swap.__init__" s_Swap___init__ C_Swap f fd "__init__" fs_Slip) (T : Txt K mg C_Swap C_Leave C_Double C_Names C_Drop C_Slips C_BadSlip C_Slip G_SLIP_WORDS) (R_Slip___init__ : FnR P w K mg base CX0 2 fs_Slip (sp_Slip___init__ [C_Swap, C_Leave, C_Double, C_Names, C_Drop])) (U_BadSlip : Exc1 P w K mg base 1 "BadSlip" "what" C_BadSlip) :
    FnOk P w K mg base (L2.CX P w) 4 f fd ["self", "first", "second"] (sp_Swap___init__ C_Swap C_BadSlip) := by
  obtain ⟨oc, kV, doc, pm, ct, cl, od, an, cld, cda, cc, osl, csl, rfl, lk, hcd, cell, Z⟩ := F.ex
  refine fn_sup (N := ["self", "first", "second", "__class__"]) lk hcd cell (nscope_by (by decide +kernel)) (fun vs H Q E h => ?_) (fun A outer s H vs Q E hr h => ?_)
  · obtain ⟨a, dx, i, j, rfl, _⟩ := h
    rfl
  · obtain ⟨a, dx, i, j, rfl, ha, h1, h2⟩ := h
    have hu := hu_of hr
    have hu64 := hr.units
    refine ⟨_, (qs_cons (ps_if (pt_cmpR op_eq (pv 1) (pv 2) (nomark _))
          (pss_one (ps_raise1 U_BadSlip (hr.mono (by first | decide | omega)) (by rfl) (takes_of rfl rfl rfl rfl) (by rfl) (pa_cons (pv 1) pa_nil)))
          pss_nil)
        (qs_expr (pe_sup (params := defArgs s_Swap___init__) (body := defBody s_Swap___init__) (scope := defScope s_Swap___init__) (pl := _) lk cell Z R_Slip___init__ (hr.mono (by first | decide | omega)) (by decide) rfl rfl rfl rfl (by first | exact Or.inl rfl | exact Or.inr rfl) rfl (pa_cons pe_int (pa_cons (pe_callB (cr_min2 rfl) (by rfl) T.z_min (by decide +kernel) (pa_cons (pv 1) (pa_cons (pv 2) pa_nil))) (pa_cons (pe_callB (cr_max2 rfl) (by rfl) T.z_max (by decide +kernel) (pa_cons (pv 1) (pa_cons (pv 2) pa_nil))) pa_nil))) rfl rfl rfl)
        (qs_of pss_nil))), ?_⟩
    walk_at "S"
    refine r_kIfS (fun c => ?_) (fun c => ?_)
    · refine r_raise1 ?_
      walk_at "S"
      exact r_kMkO fun d H' nd k e => h2 (of_decide_eq_true c) d H' nd k e
    · walk_at "S"
      refine r_supO rfl ha ?_
      walk_at "S"
      exact ⟨a, C_Swap, dx, _, rfl, ha, .hd, by show 3 ≤ 1000; decide, h1 (of_decide_eq_false c)⟩
abbrev s_Names___init__ : Stmt := inClass (top 19) 0
theorem ok_Names___init__ {f : Addr} {fd : FuncData} {fs_Slip : Addr} (F : SFunO P K mg "__init__" "Names.__init__" s_Names___init__ C_Names f fd "__init__" fs_Slip) (T : Txt K mg C_Swap C_Leave C_Double C_Names C_Drop C_Slips C_BadSlip C_Slip G_SLIP_WORDS) (R_Slip___init__ : FnR P w K mg base CX0 2 fs_Slip (sp_Slip___init__ [C_Swap, C_Leave, C_Double, C_Names, C_Drop])) (U_BadSlip : Exc1 P w K mg base 1 "BadSlip" "what" C_BadSlip) :
    FnOk P w K mg base (L2.CX P w) 4 f fd ["self", "first", "second"] (sp_Names___init__ C_Names C_BadSlip) := by
  obtain ⟨oc, kV, doc, pm, ct, cl, od, an, cld, cda, cc, osl, csl, rfl, lk, hcd, cell, Z⟩ := F.ex
  refine fn_sup (N := ["self", "first", "second", "__class__"]) lk hcd cell (nscope_by (by decide +kernel)) (fun vs H Q E h => ?_) (fun A outer s H vs Q E hr h => ?_)
  · obtain ⟨a, dx, i, j, rfl, _⟩ := h
    rfl
  · obtain ⟨a, dx, i, j, rfl, ha, h1, h2⟩ := h
    have hu := hu_of hr
    have hu64 := hr.units
    refine ⟨_, (qs_cons (ps_if (pt_cmpR op_eq (pv 1) (pv 2) (nomark _))
          (pss_one (ps_raise1 U_BadSlip (hr.mono (by first | decide | omega)) (by rfl) (takes_of rfl rfl rfl rfl) (by rfl) (pa_cons (pv 1) pa_nil)))
          pss_nil)
        (qs_expr (pe_sup (params := defArgs s_Names___init__) (body := defBody s_Names___init__) (scope := defScope s_Names___init__) (pl := _) lk cell Z R_Slip___init__ (hr.mono (by first | decide | omega)) (by decide) rfl rfl rfl rfl (by first | exact Or.inl rfl | exact Or.inr rfl) rfl (pa_cons pe_int (pa_cons (pe_callB (cr_min2S rfl) (by rfl) T.z_min (by decide +kernel) (pa_cons (pv 1) (pa_cons (pv 2) pa_nil))) (pa_cons (pe_callB (cr_max2S rfl) (by rfl) T.z_max (by decide +kernel) (pa_cons (pv 1) (pa_cons (pv 2) pa_nil))) pa_nil))) rfl rfl rfl)
        (qs_of pss_nil))), ?_⟩
    walk_at "S"
    refine r_kIfS (fun c => ?_) (fun c => ?_)
    · refine r_raise1 ?_
      walk_at "S"
      exact r_kMkO fun d H' nd k e => h2 (of_decide_eq_true c) d H' nd k e
    · walk_at "S"
      refine r_supO rfl ha ?_
      walk_at "S"
      exact ⟨a, C_Names, dx, _, rfl, ha, .tl (.tl (.tl .hd)), by show 3 ≤ 1000; decide, h1 (of_decide_eq_false c)⟩
abbrev s_Leave___init__ : Stmt := inClass (top 17) 0
theorem ok_Leave___init__ {f : Addr} {fd : FuncData} {fs_Slip : Addr} (F : SFunO P K mg "__init__" "Leave.__init__" s_Leave___init__ C_Leave f fd "__init__" fs_Slip) (T : Txt K mg C_Swap C_Leave C_Double C_Names C_Drop C_Slips C_BadSlip C_Slip G_SLIP_WORDS) (R_Slip___init__ : FnR P w K mg base CX0 2 fs_Slip (sp_Slip___init__ [C_Swap, C_Leave, C_Double, C_Names, C_Drop])) :
    FnOk P w K mg base (L2.CX P w) 4 f fd ["self", "place"] (sp_Leave___init__ C_Leave) := by
  obtain ⟨oc, kV, doc, pm, ct, cl, od, an, cld, cda, cc, osl, csl, rfl, lk, hcd, cell, Z⟩ := F.ex
  refine fn_sup (N := ["self", "place", "__class__"]) lk hcd cell (nscope_by (by decide +kernel)) (fun vs H Q E h => ?_) (fun A outer s H vs Q E hr h => ?_)
  · obtain ⟨a, dx, v, rfl, _⟩ := h
    rfl
  · obtain ⟨a, dx, v, rfl, ha, h1⟩ := h
    have hu := hu_of hr
    have hu64 := hr.units
    refine ⟨_, (qs_expr (pe_sup (params := defArgs s_Leave___init__) (body := defBody s_Leave___init__) (scope := defScope s_Leave___init__) (pl := _) lk cell Z R_Slip___init__ (hr.mono (by first | decide | omega)) (by decide) rfl rfl rfl rfl (by first | exact Or.inl rfl | exact Or.inr rfl) rfl (pa_cons pe_int (pa_cons (pv 1) pa_nil)) rfl rfl rfl)
        (qs_of pss_nil)), ?_⟩
    walk_at "S"
    refine r_supO rfl ha ?_
    walk_at "S"
    exact ⟨a, C_Leave, dx, _, rfl, ha, .tl .hd, by show 2 ≤ 1000; decide, h1⟩
abbrev s_Double___init__ : Stmt := inClass (top 18) 0
theorem ok_Double___init__ {f : Addr} {fd : FuncData} {fs_Slip : Addr} (F : SFunO P K mg "__init__" "Double.__init__" s_Double___init__ C_Double f fd "__init__" fs_Slip) (T : Txt K mg C_Swap C_Leave C_Double C_Names C_Drop C_Slips C_BadSlip C_Slip G_SLIP_WORDS) (R_Slip___init__ : FnR P w K mg base CX0 2 fs_Slip (sp_Slip___init__ [C_Swap, C_Leave, C_Double, C_Names, C_Drop])) :
    FnOk P w K mg base (L2.CX P w) 4 f fd ["self", "place"] (sp_Double___init__ C_Double) := by
  obtain ⟨oc, kV, doc, pm, ct, cl, od, an, cld, cda, cc, osl, csl, rfl, lk, hcd, cell, Z⟩ := F.ex
  refine fn_sup (N := ["self", "place", "__class__"]) lk hcd cell (nscope_by (by decide +kernel)) (fun vs H Q E h => ?_) (fun A outer s H vs Q E hr h => ?_)
  · obtain ⟨a, dx, v, rfl, _⟩ := h
    rfl
  · obtain ⟨a, dx, v, rfl, ha, h1⟩ := h
    have hu := hu_of hr
    have hu64 := hr.units
    refine ⟨_, (qs_expr (pe_sup (params := defArgs s_Double___init__) (body := defBody s_Double___init__) (scope := defScope s_Double___init__) (pl := _) lk cell Z R_Slip___init__ (hr.mono (by first | decide | omega)) (by decide) rfl rfl rfl rfl (by first | exact Or.inl rfl | exact Or.inr rfl) rfl (pa_cons pe_int (pa_cons (pv 1) pa_nil)) rfl rfl rfl)
        (qs_of pss_nil)), ?_⟩
    walk_at "S"
    refine r_supO rfl ha ?_
    walk_at "S"
    exact ⟨a, C_Double, dx, _, rfl, ha, .tl (.tl .hd), by show 2 ≤ 1000; decide, h1⟩
abbrev s_Drop___init__ : Stmt := inClass (top 20) 0
theorem ok_Drop___init__ {f : Addr} {fd : FuncData} {fs_Slip : Addr} (F : SFunO P K mg "__init__" "Drop.__init__" s_Drop___init__ C_Drop f fd "__init__" fs_Slip) (T : Txt K mg C_Swap C_Leave C_Double C_Names C_Drop C_Slips C_BadSlip C_Slip G_SLIP_WORDS) (R_Slip___init__ : FnR P w K mg base CX0 2 fs_Slip (sp_Slip___init__ [C_Swap, C_Leave, C_Double, C_Names, C_Drop])) :
    FnOk P w K mg base (L2.CX P w) 4 f fd ["self", "word"] (sp_Drop___init__ C_Drop) := by
  obtain ⟨oc, kV, doc, pm, ct, cl, od, an, cld, cda, cc, osl, csl, rfl, lk, hcd, cell, Z⟩ := F.ex
  refine fn_sup (N := ["self", "word", "__class__"]) lk hcd cell (nscope_by (by decide +kernel)) (fun vs H Q E h => ?_) (fun A outer s H vs Q E hr h => ?_)
  · obtain ⟨a, dx, v, rfl, _⟩ := h
    rfl
  · obtain ⟨a, dx, v, rfl, ha, h1⟩ := h
    have hu := hu_of hr
    have hu64 := hr.units
    refine ⟨_, (qs_expr (pe_sup (params := defArgs s_Drop___init__) (body := defBody s_Drop___init__) (scope := defScope s_Drop___init__) (pl := _) lk cell Z R_Slip___init__ (hr.mono (by first | decide | omega)) (by decide) rfl rfl rfl rfl (by first | exact Or.inl rfl | exact Or.inr rfl) rfl (pa_cons pe_int (pa_cons (pv 1) pa_nil)) rfl rfl rfl)
        (qs_of pss_nil)), ?_⟩
    walk_at "S"
    refine r_supO rfl ha ?_
    walk_at "S"
    exact ⟨a, C_Drop, dx, _, rfl, ha, .tl (.tl (.tl (.tl .hd))), by show 2 ≤ 1000; decide, h1⟩

/-! ### slips as their == compares them -/
def sp_Slip___eq__ (CS : List Addr) : Sp := fun vs H Q _ => ∃ a b ds es, vs = [.ref a, .ref b] ∧ SlipAt CS H a ds ∧ SlipAt CS H b es ∧ Shp 1 (.tuple ds) ∧ Shp 1 (.tuple es) ∧ Q (.bl (PyData.eqv (.tuple ds) (.tuple es))) H
abbrev s_Slip___eq__ : Stmt := inClass (top 15) 2
theorem sc_Slip___eq__ : FnScope ["self", "other"] ["self", "other"] (defScope s_Slip___eq__) :=
  ⟨rfl, rfl, rfl, by decide +kernel, rfl, by decide +kernel, by decide +kernel⟩
theorem ok_Slip___eq__ {f : Addr} {fd : FuncData} (F : Fun K "__eq__" "Slip.__eq__" s_Slip___eq__ f fd) (T : Txt K mg C_Swap C_Leave C_Double C_Names C_Drop C_Slips C_BadSlip C_Slip G_SLIP_WORDS) :
    FnOk P w K mg base CX0 2 f fd ["self", "other"] (sp_Slip___eq__ [C_Swap, C_Leave, C_Double, C_Names, C_Drop]) := by
  refine F.ok sc_Slip___eq__ (fun vs H Q E h => ?_) (fun cdv A outer s H vs Q E hr h => ?_)
  · obtain ⟨a, b, ds, es, rfl, _⟩ := h
    rfl
  · obtain ⟨a, b, ds, es, rfl, ⟨C, dx, p, hS, e, d⟩, ⟨C', dy, p', hS', e', d'⟩, sd, se, q⟩ := h
    have hu := hu_of hr
    have hu64 := hr.units
    refine ⟨_, (pss_one (ps_ret (pe_and (pe_callB (K_isi (K := K) rfl) (by rfl) T.z_isinstance (by decide +kernel) (pa_cons (pv 1) (pa_cons (pe_globE T.v_Slip (by rfl)) pa_nil))) (pe_one (pe_cmpR (K_eqD (K := K) rfl hu64) (K_fld (K := K) rfl (pv 0) rfl) (K_fld (K := K) rfl (pv 1) rfl) (nomark _)))))), ?_⟩
    have hF := hS.fam
    have hF' := hS'.fam
    walk_at "S"
    refine ⟨.ref b, .ref C_Slip, .ref C', .ref C_Slip, true, rfl, .own _, .base (.ins e' (T.fc_Slip C' hF') (T.cl_Slip C' hF') T.gt_Slip T.tk_Slip (T.ob_Slip C' hF')), T.ki_Slip C' hF', ?_⟩
    refine r_kAndV (fun _ => ?_) (fun z => nomatch z)
    walk_at "S"
    refine r_kFld e (T.fc_Slip C hF) (T.fn_Slip_parts C hF) rfl ?_
    walk_at "S"
    refine r_kFld e' (T.fc_Slip C' hF') (T.fn_Slip_parts C' hF') rfl ?_
    exact r_eqD d d' sd se (by decide) q

/-! ### str of a slip -/
def sp_Slip___str__ (CS : List Addr) : Sp := fun vs H Q _ => ∃ (a : Addr) (k : Nat) (ds : List PyData), vs = [.ref a] ∧ SlipAt CS H a (.int (k : Int) :: ds) ∧ k < 5 ∧ ds ≠ [] ∧ ds.length ≤ 2 ∧ (∀ d ∈ ds, strDOk d ∧ (strD d).length ≤ 1000) ∧ ∀ H', Kp [] H H' → Q (.str (slipText k ds)) H'
abbrev s_Slip___str__ : Stmt := inClass (top 15) 3
theorem sc_Slip___str__ : FnScope ["self", "part"] ["self"] (defScope s_Slip___str__) :=
  ⟨rfl, rfl, rfl, by decide +kernel, rfl, by decide +kernel, by decide +kernel⟩
theorem ok_Slip___str__ {f : Addr} {fd : FuncData} (F : Fun K "__str__" "Slip.__str__" s_Slip___str__ f fd) (T : Txt K mg C_Swap C_Leave C_Double C_Names C_Drop C_Slips C_BadSlip C_Slip G_SLIP_WORDS) :
    FnOk P w K mg base CX0 2 f fd ["self"] (sp_Slip___str__ [C_Swap, C_Leave, C_Double, C_Names, C_Drop]) := by
  refine F.ok sc_Slip___str__ (fun vs H Q E h => ?_) (fun cdv A outer s H vs Q E hr h => ?_)
  · obtain ⟨a, k, ds, rfl, _⟩ := h
    rfl
  · obtain ⟨a, k, ds, rfl, ⟨C, dx, p, hS, e, d⟩, hk, hne, h2, hok, q⟩ := h
    have hu := hu_of hr
    have hu64 := hr.units
    refine ⟨_, (pss_one (ps_ret (K_join (K := K) rfl pe_str (pe_op op_cat (pe_lst (pa_cons (pe_ix (K_ixT (K := K) rfl) (pe_globE T.g_SLIP_WORDS (by rfl)) (pe_ix (K_ixT (K := K) rfl) (K_fld (K := K) rfl (pv 0) rfl) pe_int (fun _ _ => rfl)) (fun _ _ => rfl)) pa_nil)) (pe_lc (own := [("part", 1)]) (by rfl) sc_Slip___str__.nd (K_pit (K := K) rfl (pe_slice (K_slT (K := K) rfl) (K_fld (K := K) rfl (pv 0) rfl) (po_some pe_int) po_none)) (blkOk_by (own := [("part", 1)]) (N := ["self", "part"]) (sc := defScope s_Slip___str__) (by decide +kernel)) (fun _ _ _ _ _ => (pg_name (i := 1) sc_Slip___str__.nd rfl (by first | exact Or.inl rfl | exact Or.inr rfl))) (fun _ _ _ _ _ => pts_nil) (fun _ _ _ _ _ => (pe_callTy cr_strIS (by rfl) T.z_str (by decide +kernel) (pa_cons (pv 1) pa_nil)))))))), ?_⟩
    have hC := T.fc_Slip C hS.fam
    have hN := T.fn_Slip_parts C hS.fam
    obtain ⟨p', xs, ep, _, et, al⟩ := d.tuple
    cases ep
    cases al with
    | cons h0 al =>
    rename_i vs
    cases h0
    have hlen := al.length
    have hpos : 0 < ds.length := List.length_pos_iff.mpr hne
    walk_at "S"
    refine r_kFld e hC hN rfl ?_
    walk_at "S"
    refine r_ixT (SqT.of et) (atI_nat (j := 0) rfl) ?_
    walk_at "S"
    have hw : atI (slipWords.map V.str) (k : Int) = some (V.str (slipWords.getD k "")) := by
      refine atI_nat ?_
      match k, hk with
      | 0, _ => rfl
      | 1, _ => rfl
      | 2, _ => rfl
      | 3, _ => rfl
      | 4, _ => rfl
    refine r_ixT (T.q_SLIP_WORDS H) hw ?_
    walk_at "S"
    refine r_kLst (xs := [V.str (slipWords.getD k "")]) (by show 1 ≤ sizeLine; decide) fun l H1 nl k1 el => ?_
    walk_at "S"
    refine r_kFld (k1 _ _ e not_nil) hC hN rfl ?_
    walk_at "S"
    refine r_slT (SqT.of (k1 _ _ et not_nil)) (fun z => ?_) fun b H2 nb k2 eb => ?_
    · have z1 : (if (1 : Int) < 0 then ((1 : Int) + ((V.int (k : Int) :: vs).length : Int)).toNat else min ((1 : Int).toNat) (V.int (k : Int) :: vs).length) = 0 := z.1
      rw [if_neg (by decide), List.length_cons] at z1
      have : (1 : Int).toNat = 1 := rfl
      omega
    rw [cut_1] at eb
    have eb : H2 b = some (.tup vs) := eb
    have al2 := al.mono (k1.trans k2)
    refine r_cWT (SqT.of eb) ?_
    refine r_kLcT (fun D j ac H' => Kp [] H2 H' ∧ ac = ((ds.take j).map strD).map V.str) (fun D H' nD k e => ⟨k, rfl⟩) (fun D j ac H' _ h => SqT.of (h.1 _ _ eb not_nil)) ?_ ?_
    · rintro D j ac x H4 nD hx eD ⟨k4, rfl⟩
      obtain ⟨d, hd, hxd⟩ := al2.at hx
      walk_at "S"
      refine r_strIS (hxd.mono k4) (hok d (mem_at hd)).1 ?_
      refine r_kApp eD ?_ fun H5 k5 e5 => ⟨k4.step nD k5, ?_⟩
      · rw [List.length_map, List.length_map, List.length_take]
        have : 10 < sizeLine := by decide
        omega
      · rw [take_map _ hd, List.map_append]
        rfl
    rintro D ac H3 nD eD ⟨k3, rfl⟩
    rw [hlen, List.take_length] at eD
    walk_at "S"
    have el3 := (k2.trans k3) _ _ el not_nil
    refine r_cat el3 eD ?_ fun r H5 nr k5 er => ?_
    · rw [List.length_map, List.length_map]
      have : 10 < sizeLine := by decide
      show 1 + ds.length ≤ sizeLine
      omega
    walk_at "S"
    have hsum : (((slipWords.getD k "" :: ds.map strD).map (·.length)).sum ≤ 3000) := by
      have h1 := sum_le (ys := ds.map strD) (m := 1000) fun y hy => by
        obtain ⟨d, hd, rfl⟩ := List.mem_map.mp hy
        exact (hok d hd).2
      rw [List.length_map] at h1
      have h3 : (slipWords.getD k "").length ≤ 6 := by
        match k, hk with
        | 0, _ => decide
        | 1, _ => decide
        | 2, _ => decide
        | 3, _ => decide
        | 4, _ => decide
      rw [List.map_cons, List.sum_cons]
      omega
    refine ⟨" ", r, slipWords.getD k "" :: ds.map strD, rfl, rfl, .inl (SqL.of er), ?_, ?_⟩
    · have h4 : (slipWords.getD k "" :: ds.map strD).length ≤ 3 := by
        rw [List.length_cons, List.length_map]
        omega
      have h5 : (Str.ofString " ").length = 1 := rfl
      rw [h5]
      omega
    · exact q H5 (k1.trans (k2.trans (k3.trans k5)))

/-! ### drawn names -/
def SignOk (c : Nat) : Prop := 97 ≤ c ∧ c ≤ 122
/-- a name of at most n signs, with an x -/
def NameX (n : Nat) (w : Str) : Prop := 120 ∈ w.cps.toList ∧ (∀ c ∈ w.cps.toList, SignOk c) ∧ w.length ≤ n
def lawLetters : Str := "abcdefghijklmnopqrstuvw"
theorem lawLetters_ok : ∀ c ∈ lawLetters.cps.toList, SignOk c := by
  have e : lawLetters.cps.toList = [97, 98, 99, 100, 101, 102, 103, 104, 105, 106, 107, 108, 109, 110, 111, 112, 113, 114, 115, 116, 117, 118, 119] := by decide +kernel
  rw [e]
  intro c hc
  simp only [List.mem_cons, List.not_mem_nil, or_false] at hc
  unfold SignOk
  omega
theorem lawLetters_len : lawLetters.cps.toList.length = 23 := by decide +kernel
theorem app_list (a b : Str) : (a ++ b).cps.toList = a.cps.toList ++ b.cps.toList := Array.toList_append
theorem empty_list : (Str.ofString "").cps.toList = [] := by decide +kernel
theorem join_empty' : ∀ ys : List Str, (Str.join (Str.ofString "") ys).cps.toList = (ys.map fun y => y.cps.toList).flatten
  | [] => rfl
  | [y] => by
    show y.cps.toList = _
    simp
  | y :: z :: ys => by
    have ih := join_empty' (z :: ys)
    show ((y ++ Str.ofString "") ++ Str.join (Str.ofString "") (z :: ys)).cps.toList = _
    rw [app_list, app_list, ih, empty_list, List.append_nil]
    simp
theorem join_empty (ys : List Str) : (Txt.join (Str.ofString "") ys).cps.toList = (ys.map fun y => y.cps.toList).flatten := by
  rw [TL.join_eq]
  exact join_empty' ys
theorem cut_mem {z : Str} {lo hi : Option Int} : ∀ c ∈ (cutS z lo hi).cps.toList, c ∈ z.cps.toList := fun c h => by
  have h' : c ∈ ((z.cps.toList.drop (HT.sIx z.length 0 lo)).take (HT.sIx z.length z.length hi - HT.sIx z.length 0 lo)) := h
  exact List.mem_of_mem_drop (List.mem_of_mem_take h')
theorem mul_ok {c : Nat} {n : Int} (h : n = 1 ∨ n = 2) : MulOk ⟨#[c]⟩ n := by
  rcases h with rfl | rfl
  · exact ⟨by decide, fun _ z => by simp at z, fun _ z => by simp at z⟩
  · exact ⟨by decide, fun _ _ => by show ¬ (((1 : Nat) : Int) > (2 ^ 63 - 1) / 2); decide, fun _ _ => by
      show decide (1 * 2 > sizeLine) = false
      decide⟩
theorem mul_list {c : Nat} {n : Int} (h : n = 1 ∨ n = 2) : (∀ x ∈ (Txt.mul ⟨#[c]⟩ n).cps.toList, x = c) ∧ (Txt.mul ⟨#[c]⟩ n).length ≤ 2 := by
  rcases h with rfl | rfl
  · refine ⟨fun x hx => ?_, ?_⟩
    · have hx : x ∈ [c] := hx
      simpa using hx
    · show (#[c] : Array Nat).size ≤ 2
      simp
  · refine ⟨fun x hx => ?_, ?_⟩
    · have hx : x ∈ [c, c] := hx
      simpa using hx
    · show (#[c, c] : Array Nat).size ≤ 2
      simp
theorem mul_head {c : Nat} {n : Int} (h : n = 1 ∨ n = 2) : (Txt.mul ⟨#[c]⟩ n).cps.toList[0]? = some c := by
  rcases h with rfl | rfl <;> rfl
theorem at_behind {l m r : List Nat} {c : Nat} (h : m[0]? = some c) : (l ++ (m ++ r))[l.length]? = some c := by
  rw [List.getElem?_append_right (Nat.le_refl _), Nat.sub_self]
  cases m with
  | nil => simp at h
  | cons x m => exact h
theorem lawLetters_nodup : lawLetters.cps.toList.Nodup := by decide +kernel
/-- words that differ at one place -/
theorem nodup_at {ws : List Str} {n : Nat} (hl : ws.length = 23) (h : ∀ (j : Nat) (w : Str), ws[j]? = some w → w.cps.toList[n]? = lawLetters.cps.toList[j]?) : ws.Nodup := by
  refine List.pairwise_iff_getElem.mpr fun i j hi hj hij e => ?_
  have h1 := h i ws[i] (List.getElem?_eq_getElem hi)
  have h2 := h j ws[j] (List.getElem?_eq_getElem hj)
  rw [e] at h1
  have := (List.getElem?_inj (by rw [lawLetters_len]; omega) lawLetters_nodup).mp (h1.symm.trans h2)
  omega
def sp__law_words (_K : PySem.W.Frag) : Sp := fun vs H Q _ => ∃ (p : Addr), vs = [.ref p] ∧ BagL H p ∧
  ∀ (l : Addr) (ws : List Str) H', H l = none → Kp [p] H H' → H' l = some (.lst (ws.map V.str)) → BagL H' p → ws.length = 23 → (∀ w ∈ ws, NameX 7 w) → ws.Nodup → Q (.ref l) H'
abbrev s__law_words : Stmt := top 30
theorem sc__law_words : FnScope ["_law_bag_here", "_law_letters", "_law_turn", "_law_body", "_law_at", "_law_more", "_law_k", "_law_tag"] ["_law_bag_here"] (defScope s__law_words) :=
  ⟨rfl, rfl, rfl, by decide +kernel, rfl, by decide +kernel, by decide +kernel⟩
theorem ok__law_words {f : Addr} {fd : FuncData} (F : Fun K "_law_words" "_law_words" s__law_words f fd) (T : Txt K mg C_Swap C_Leave C_Double C_Names C_Drop C_Slips C_BadSlip C_Slip G_SLIP_WORDS) (U__law_take : Use P w K mg base 2 "_law_take" ["_law_bag_here", "_law_many"] (sp__law_take K)) :
    FnOk P w K mg base CX0 4 f fd ["_law_bag_here"] (sp__law_words K) := by
  refine F.ok sc__law_words (fun vs H Q E h => ?_) (fun cdv A outer s H vs Q E hr h => ?_)
  · obtain ⟨p, rfl, _⟩ := h
    rfl
  · obtain ⟨p, rfl, hb, q⟩ := h
    have hu := hu_of hr
    have hu64 := hr.units
    refine ⟨_, (pss_cons (ps_set (i := 1) sc__law_words.nd rfl (by first | exact Or.inl rfl | exact Or.inr rfl) pe_str)
        (pss_cons (ps_set (i := 3) sc__law_words.nd rfl (by first | exact Or.inl rfl | exact Or.inr rfl) (K_join (K := K) rfl pe_str (pe_lc (own := [("_law_turn", 2)]) (by rfl) sc__law_words.nd (pi_range1 (by rfl) T.z_range (pa_cons (pe_use U__law_take (hr.mono (by first | decide | omega)) (by rfl) (pa_cons (pv 0) (pa_cons pe_int pa_nil))) pa_nil)) (blkOk_by (own := [("_law_turn", 2)]) (N := ["_law_bag_here", "_law_letters", "_law_turn", "_law_body", "_law_at", "_law_more", "_law_k", "_law_tag"]) (sc := defScope s__law_words) (by decide +kernel)) (fun _ _ _ _ _ => (pg_name (i := 2) sc__law_words.nd rfl (by first | exact Or.inl rfl | exact Or.inr rfl))) (fun _ _ _ _ _ => pts_nil) (fun _ _ _ _ _ => (pe_ix ix_str (pv 1) (pe_use U__law_take (hr.mono (by first | decide | omega)) (by rfl) (pa_cons (pv 0) (pa_cons pe_int pa_nil))) (fun _ _ => rfl))))))
        (pss_cons (ps_asg (pe_tup (pa_cons (pe_use U__law_take (hr.mono (by first | decide | omega)) (by rfl) (pa_cons (pv 0) (pa_cons (pe_op op_add (pe_callB cr_lenS (by rfl) T.z_len (by decide +kernel) (pa_cons (pv 3) pa_nil)) pe_int) pa_nil))) (pa_cons (pe_use U__law_take (hr.mono (by first | decide | omega)) (by rfl) (pa_cons (pv 0) (pa_cons pe_int pa_nil))) pa_nil))) (K_gtup (K := K) (n := 2) rfl (by rfl) (pgs_cons (pg_name (i := 4) sc__law_words.nd rfl (by first | exact Or.inl rfl | exact Or.inr rfl)) (pgs_cons (pg_name (i := 5) sc__law_words.nd rfl (by first | exact Or.inl rfl | exact Or.inr rfl)) pgs_nil))))
        (pss_one (ps_ret (pe_lc (own := [("_law_k", 6), ("_law_tag", 7)]) (by rfl) sc__law_words.nd (K_enumS (K := K) rfl (by rfl) T.z_enumerate (pa_cons (pv 1) pa_nil)) (blkOk_by (own := [("_law_k", 6), ("_law_tag", 7)]) (N := ["_law_bag_here", "_law_letters", "_law_turn", "_law_body", "_law_at", "_law_more", "_law_k", "_law_tag"]) (sc := defScope s__law_words) (by decide +kernel)) (fun _ _ _ _ _ => (K_gtup (K := K) (n := 2) rfl (by rfl) (pgs_cons (pg_name (i := 6) sc__law_words.nd rfl (by first | exact Or.inl rfl | exact Or.inr rfl)) (pgs_cons (pg_name (i := 7) sc__law_words.nd rfl (by first | exact Or.inl rfl | exact Or.inr rfl)) pgs_nil)))) (fun _ _ _ _ _ => pts_nil) (fun _ _ _ _ _ => (pe_op op_addT (pe_op op_addT (pe_op op_addT (pe_slice sl_str (pv 3) po_none (po_some (pv 4))) (pe_op op_mulS (pv 7) (pe_op op_add pe_int (pe_op op_mul (pv 5) (pe_op op_modN (pe_callTy cr_int (by rfl) T.z_int (by decide +kernel) (pa_cons (pv 6) pa_nil)) pe_int))))) pe_str) (pe_slice sl_str (pv 3) (po_some (pv 4)) po_none))))))))), ?_⟩
    have big : 1000 ≤ sizeLine := by decide
    have hpD : ∀ {H1 : Hp} {D : Addr}, BagL H1 p → H1 D = none → D ≠ p := fun {H1 D} b n => by
      obtain ⟨o, ho⟩ := b.some
      exact ne_none ho n |>.symm.symm
    walk_at "S"
    refine ⟨p, _, rfl, hb, by decide, by decide, fun r H1 r0 r1 k1 b1 => ?_⟩
    refine r_cRng1 (by omega) ?_
    refine r_kLcR (fun D i acc H' => ∃ ys : List Str, acc = ys.map V.str ∧ Kp [p] H1 H' ∧ BagL H' p ∧ ys.length = i ∧ ∀ y ∈ ys, (∀ c ∈ y.cps.toList, SignOk c) ∧ y.length ≤ 1) (fun D H' nD k e => ⟨[], rfl, k.nil, b1.kp k not_nil, rfl, fun y m => nomatch m⟩) ?_ ?_
    · rintro D i acc H2 nD hi eD ⟨ys, rfl, k2, b2, hy, hys⟩
      have Dp := hpD b1 nD
      walk_at "S"
      refine ⟨p, _, rfl, b2, by decide, by decide, fun m H3 m0 m1 k3 b3 => ?_⟩
      obtain ⟨c, hc, hm, _⟩ := atI_in (l := lawLetters.cps.toList) m0 (by rw [lawLetters_len]; exact m1)
      refine r_ixS (z := lawLetters) (by decide) hc ?_
      refine r_kApp (k3 _ _ eD (not_one Dp)) ?_ fun H4 k4 e4 => ⟨ys ++ [⟨#[c]⟩], by rw [List.map_append]; rfl, (k2.trans k3).step nD k4, b3.kp k4 (not_one Dp.symm), by rw [List.length_append, hy]; rfl, fun y hm' => ?_⟩
      · rw [List.length_map]
        omega
      · rcases List.mem_append.mp hm' with h | h
        · exact hys y h
        · rw [List.mem_singleton.mp h]
          refine ⟨fun c' hc' => ?_, Nat.le_refl 1⟩
          have hc' : c' ∈ [c] := hc'
          rw [List.mem_singleton.mp hc']
          exact lawLetters_ok c hm
    rintro D acc H2 nD eD ⟨ys, rfl, k2, b2, hy, hys⟩
    have Dp := hpD b1 nD
    have hs := sum_le (ys := ys) (m := 1) fun y hy => (hys y hy).2
    have e0 : (Str.ofString "").length = 0 := rfl
    refine ⟨"", D, ys, rfl, rfl, .inl (SqL.of eD), ?_, ?_⟩
    · rw [e0]
      omega
    generalize hB : Txt.join (Str.ofString "") ys = B
    have hBl : B.cps.toList = (ys.map fun y => y.cps.toList).flatten := hB ▸ join_empty ys
    have hBok : ∀ c ∈ B.cps.toList, SignOk c := fun c hc => by
      rw [hBl] at hc
      obtain ⟨l, hl, hcl⟩ := List.mem_flatten.mp hc
      obtain ⟨y, my, rfl⟩ := List.mem_map.mp hl
      exact (hys y my).1 c hcl
    have hBlen : B.length ≤ 4 := by
      rw [Rd.str_length, hBl, List.length_flatten, List.map_map]
      have : (ys.map (List.length ∘ fun y : Str => y.cps.toList)) = ys.map (·.length) := List.map_congr_left fun y _ => (Rd.str_length y).symm
      rw [this]
      omega
    walk_at "S"
    refine r_lenS (by omega) ?_
    walk_at "S"
    refine ⟨p, _, rfl, b2, by omega, by omega, fun at' H3 at0 at1 k3 b3 => ?_⟩
    walk_at "S"
    refine ⟨p, _, rfl, b3, by decide, by decide, fun mo H4 mo0 mo1 k4 b4 => ?_⟩
    walk_at "S"
    refine r_kTup (xs := [V.int at', V.int mo]) (by show 2 ≤ sizeLine; decide) fun t H5 nt k5 et => ?_
    refine r_gtup (SqT.of et) rfl ?_
    walk_at "S"
    have b5 := b4.kp k5 not_nil
    refine r_kLc walk_es (fun D2 i acc H' => ∃ ws : List Str, acc = ws.map V.str ∧ Kp [p] H5 H' ∧ BagL H' p ∧ ws.length = i ∧ (∀ w ∈ ws, NameX 7 w) ∧ ∀ (j : Nat) (w : Str), ws[j]? = some w → w.cps.toList[(cutS B none (some at')).cps.toList.length]? = lawLetters.cps.toList[j]?) (fun D2 H' nD2 k e => ⟨[], rfl, k.nil, b5.kp k not_nil, rfl, (fun w m => nomatch m), fun j w h => by simp at h⟩) (fun _ _ _ _ _ _ => trivial) ?_ ?_
    · rintro D2 i acc x H6 H7 nD2 hi eD2 ⟨ws, rfl, k6, b6, hw, hws, hat⟩ ⟨t2, u, v, rfl, nt2, rfl, hu, hx⟩
      cases hu
      have Dp2 := hpD b5 nD2
      obtain ⟨c, hc, hv⟩ : ∃ c, lawLetters.cps[i]? = some c ∧ v = .str ⟨#[c]⟩ := by
        have hx : lawLetters.cps[i]?.map (fun c => V.str ⟨#[c]⟩) = some v := hx
        cases hcc : lawLetters.cps[i]? with
        | none =>
          rw [hcc] at hx
          cases hx
        | some c =>
          rw [hcc] at hx
          exact ⟨c, rfl, (Option.some.inj hx).symm⟩
      subst hv
      have hcm : SignOk c := lawLetters_ok c (by
        have := Array.mem_of_getElem? hc
        exact Array.mem_toList_iff.mpr this)
      refine r_gtup (SqT.of upd_same) rfl ?_
      walk_at "S"
      refine r_slS (by omega) ?_
      walk_at "S"
      refine r_I (by decide) ?_
      have e2 : ((i : Int)).fmod 2 = 0 ∨ ((i : Int)).fmod 2 = 1 := by
        have h0 := Int.fmod_nonneg_of_pos (i : Int) (b := 2) (by decide)
        have h1 := Int.fmod_lt_of_pos (i : Int) (b := 2) (by decide)
        omega
      have em : mo = 0 ∨ mo = 1 := by omega
      have en : 1 + mo * ((i : Int)).fmod 2 = 1 ∨ 1 + mo * ((i : Int)).fmod 2 = 2 := by
        rcases e2 with h | h <;> rcases em with h' | h' <;> rw [h, h'] <;> decide
      walk_at "S"
      refine r_I (.inl (by omega)) ?_
      walk_at "S"
      refine ⟨_, _, rfl, rfl, mul_ok en, ?_⟩
      obtain ⟨hml, hmn⟩ := mul_list (c := c) en
      have hmh := mul_head (c := c) en
      generalize Txt.mul ⟨#[c]⟩ (1 + mo * ((i : Int)).fmod 2) = M at hml hmn hmh
      have hl1 := Nat.le_trans (cutS_length B none (some at')) hBlen
      have hl2 := Nat.le_trans (cutS_length B (some at') none) hBlen
      have hx1 : (Str.ofString "x").length = 1 := rfl
      refine r_addT (by omega) ?_
      walk_at "S"
      refine r_addT (by rw [str_append_length, hx1]; omega) ?_
      walk_at "S"
      refine r_slS (by omega) ?_
      refine r_addT (by rw [str_append_length, str_append_length, hx1]; omega) ?_
      have kk : Kp [] H6 (upd H6 t2 (.tup [.int (i : Nat), .str ⟨#[c]⟩])) := Kp.new nt2
      refine r_kApp (kk _ _ eD2 not_nil) ?_ fun H8 k8 e8 => ⟨ws ++ [_], by rw [List.map_append]; rfl, (k6.trans kk.nil).step nD2 k8, (b6.kp kk not_nil).kp k8 (not_one Dp2.symm), by rw [List.length_append, hw]; rfl, fun w hm' => ?_, fun j w hj => ?_⟩
      · rw [List.length_map]
        have hi : i < lawLetters.cps.size := hi
        have : lawLetters.cps.size = 23 := by decide +kernel
        omega
      · rcases List.mem_append.mp hm' with h | h
        · exact hws w h
        · rw [List.mem_singleton.mp h]
          have ex : (Str.ofString "x").cps.toList = [120] := by decide +kernel
          refine ⟨?_, fun c' hc' => ?_, ?_⟩
          · rw [app_list, app_list, app_list, ex]
            simp
          · rw [app_list, app_list, app_list, ex] at hc'
            simp only [List.mem_append, List.mem_singleton] at hc'
            rcases hc' with ((h | h) | h) | h
            · exact hBok c' (cut_mem c' h)
            · rw [hml c' h]
              exact hcm
            · rw [h]
              exact ⟨by decide, by decide⟩
            · exact hBok c' (cut_mem c' h)
          · rw [str_append_length, str_append_length, str_append_length, hx1]
            have h1 : (cutS B none (some at')).length + (cutS B (some at') none).length ≤ 4 := by
              have e1 : (cutS B none (some at')).length = (B.cps.toList.take at'.toNat).length := by
                rw [Rd.str_length]
                have : at' = ((at'.toNat : Nat) : Int) := by omega
                have e : (cutS B none (some at')).cps.toList = (B.cps.toList.drop (HT.sIx B.length 0 none)).take (HT.sIx B.length B.length (some at') - HT.sIx B.length 0 none) := rfl
                rw [e, this, HT.sIx_nat, HT.sIx_none, List.drop_zero, Nat.sub_zero, List.length_take, List.length_take, Int.toNat_natCast, Rd.str_length]
                omega
              have e3 : (cutS B (some at') none).length = (B.cps.toList.drop at'.toNat).length := by
                rw [Rd.str_length]
                have : at' = ((at'.toNat : Nat) : Int) := by omega
                have e : (cutS B (some at') none).cps.toList = (B.cps.toList.drop (HT.sIx B.length 0 (some at'))).take (HT.sIx B.length B.length none - HT.sIx B.length 0 (some at')) := rfl
                rw [e, this, HT.sIx_nat, HT.sIx_none, List.length_take, List.length_drop, List.length_drop, Int.toNat_natCast, Rd.str_length]
                omega
              rw [e1, e3, List.length_take, List.length_drop, ← Rd.str_length]
              omega
            omega
      · by_cases hjw : j < ws.length
        · rw [List.getElem?_append_left hjw] at hj
          exact hat j w hj
        · have hj' : j = ws.length := by
            have := lt_at hj
            rw [List.length_append, List.length_singleton] at this
            omega
          subst hj'
          rw [List.getElem?_append_right (Nat.le_refl _), Nat.sub_self] at hj
          have hj : _ = w := Option.some.inj hj
          subst hj
          rw [app_list, app_list, app_list, List.append_assoc, List.append_assoc, at_behind hmh, hw]
          rw [← hc]
          exact (Array.getElem?_toList).symm
    · rintro D2 acc H6 nD2 eD2 ⟨ws, rfl, k6, b6, hw, hws, hat⟩
      have k05 : Kp [p] H H5 := (k1.trans k2).trans ((k3.trans k4).trans k5.nil)
      exact q D2 ws H6 (k05.free nD2 (not_one (hpD b5 nD2))) (k05.trans k6) eD2 b6 (by rw [hw]; decide +kernel) hws (nodup_at (by rw [hw]; decide +kernel) hat)

/-! ### a slip's parts -/
/-- what a slip's parts are: a number of its kind, then numbers or texts -/
structure PartsOk (k : Nat) (ds : List PyData) : Prop where
  lt : k < 5
  ne : ds ≠ []
  two : ds.length ≤ 2
  ok : ∀ d ∈ ds, strDOk d ∧ (strD d).length ≤ 1000 ∧ Shp 0 d ∧ isBool d = false
theorem PartsOk.shp {k : Nat} {ds : List PyData} (h : PartsOk k ds) : Shp 1 (.tuple (.int (k : Int) :: ds)) := Shp.tuple (n := 0) fun d m => by
  rcases List.mem_cons.mp m with e | m
  · rw [e]
    exact Shp.int _ 0
  · exact (h.ok d m).2.2.1
theorem PartsOk.bool {k : Nat} {ds : List PyData} (h : PartsOk k ds) : ∀ d ∈ (PyData.int (k : Int) :: ds), isBool d = false := fun d m => by
  rcases List.mem_cons.mp m with e | m
  · rw [e]
    rfl
  · exact (h.ok d m).2.2.2
theorem eqv_self {n : Nat} {d : PyData} (s : Shp n d) : PyData.eqv d d = true := SeqAt.eqv_refl d s.1
theorem any_false : ∀ (n : Nat), (List.replicate n false).any id = false
  | 0 => rfl
  | n + 1 => by
    rw [List.replicate_succ, List.any_cons, any_false n]
    rfl

/-! ### the order of texts; texts of slips; == of parts -/
theorem lt_tri : ∀ a b : List Nat, ¬ a < b → ¬ b < a → a = b
  | [], [], _, _ => rfl
  | [], _ :: _, h, _ => absurd (List.nil_lt_cons _ _) h
  | _ :: _, [], _, h => absurd (List.nil_lt_cons _ _) h
  | x :: a, y :: b, h1, h2 => by
    rw [List.cons_lt_cons_iff] at h1 h2
    have e : x = y := by
      rcases Nat.lt_trichotomy x y with h | h | h
      · exact absurd (.inl h) h1
      · exact h
      · exact absurd (.inl h) h2
    subst e
    rw [lt_tri a b (fun h => h1 (.inr ⟨rfl, h⟩)) (fun h => h2 (.inr ⟨rfl, h⟩))]
theorem lt_asy : ∀ a b : List Nat, a < b → ¬ b < a
  | [], [], h, _ => absurd h (List.not_lt_nil _)
  | [], _ :: _, _, h => absurd h (List.not_lt_nil _)
  | _ :: _, [], h, _ => absurd h (List.not_lt_nil _)
  | x :: a, y :: b, h1, h2 => by
    rw [List.cons_lt_cons_iff] at h1 h2
    rcases h1 with h1 | ⟨rfl, h1⟩
    · rcases h2 with h2 | ⟨rfl, h2⟩ <;> omega
    · rcases h2 with h2 | ⟨_, h2⟩
      · omega
      · exact lt_asy a b h1 h2
theorem str_ext {a b : Str} (h : a.cps.toList = b.cps.toList) : a = b := by
  obtain ⟨x⟩ := a
  obtain ⟨y⟩ := b
  exact congrArg Str.mk (Array.toList_inj.mp h)
theorem slt_tri {a b : Str} (h1 : slt a b = false) (h2 : slt b a = false) : a = b := str_ext (lt_tri _ _ (of_decide_eq_false h1) (of_decide_eq_false h2))
theorem slt_asy {a b : Str} (h1 : slt a b = true) : slt b a = false := decide_eq_false (lt_asy _ _ (of_decide_eq_true h1))
theorem minS_comm (a b : Str) : minS a b = minS b a := by
  unfold minS
  cases h1 : slt a b
  · cases h2 : slt b a
    · rw [slt_tri h1 h2]
    · rfl
  · rw [slt_asy h1]
    rfl
theorem maxS_comm (a b : Str) : maxS a b = maxS b a := by
  unfold maxS
  cases h1 : slt a b
  · cases h2 : slt b a
    · rw [slt_tri h1 h2]
    · rfl
  · rw [slt_asy h1]
    rfl
theorem mnI_comm (a b : Int) : mnI a b = mnI b a := by
  unfold mnI
  split <;> split <;> omega
theorem mxI_comm (a b : Int) : mxI a b = mxI b a := by
  unfold mxI
  split <;> split <;> omega
theorem minS_or (a b : Str) : minS a b = a ∨ minS a b = b := by
  unfold minS
  split
  · exact .inr rfl
  · exact .inl rfl
theorem maxS_or (a b : Str) : maxS a b = a ∨ maxS a b = b := by
  unfold maxS
  split
  · exact .inr rfl
  · exact .inl rfl
/-- the other one is the lesser or the greater -/
theorem mm_snd (a b : Str) : minS a b = b ∨ maxS a b = b := by
  unfold minS maxS
  cases h1 : slt a b
  · cases h2 : slt b a
    · exact .inl (slt_tri h1 h2)
    · exact .inl rfl
  · exact .inr rfl
theorem str_assoc (a b c : Str) : a ++ b ++ c = a ++ (b ++ c) := congrArg Str.mk Array.append_assoc
theorem text2 (k : Nat) (d : PyData) (w : Str) (h : w = slipWords.getD k "" ++ Str.ofString " ") : w ++ strD d = slipText k [d] := by
  unfold slipText
  rw [TL.join_eq, h]
  rfl
theorem text3 (k : Nat) (d e : PyData) (w : Str) (h : w = slipWords.getD k "" ++ Str.ofString " ") : w ++ strD d ++ Str.ofString " " ++ strD e = slipText k [d, e] := by
  unfold slipText
  rw [TL.join_eq, h]
  show _ = slipWords.getD k "" ++ Str.ofString " " ++ (strD d ++ Str.ofString " " ++ strD e)
  simp only [str_assoc]
theorem eqv3 (a b c a' b' c' : PyData) : PyData.eqv (.tuple [a, b, c]) (.tuple [a', b', c']) = (PyData.eqv a a' && (PyData.eqv b b' && (PyData.eqv c c' && true))) := rfl
theorem eqv2 (a b a' b' : PyData) : PyData.eqv (.tuple [a, b]) (.tuple [a', b']) = (PyData.eqv a a' && (PyData.eqv b b' && true)) := rfl
theorem eqvI (a b : Int) : PyData.eqv (.int a) (.int b) = (a == b) := rfl
theorem eqvS (a b : Str) : PyData.eqv (.str a) (.str b) = (a == b) := rfl
theorem digit_ok (i : Int) (h0 : 0 ≤ i) (h1 : i ≤ 10) : i.natAbs.log2 < 1920 ∧ (strD (.int i)).length ≤ 1000 := by
  obtain ⟨n, rfl⟩ : ∃ n : Nat, i = n := ⟨i.toNat, by omega⟩
  have hn : n ≤ 10 := by omega
  match n, hn with
  | 0, _ => exact ⟨by decide, by decide +kernel⟩
  | 1, _ => exact ⟨by decide, by decide +kernel⟩
  | 2, _ => exact ⟨by decide, by decide +kernel⟩
  | 3, _ => exact ⟨by decide, by decide +kernel⟩
  | 4, _ => exact ⟨by decide, by decide +kernel⟩
  | 5, _ => exact ⟨by decide, by decide +kernel⟩
  | 6, _ => exact ⟨by decide, by decide +kernel⟩
  | 7, _ => exact ⟨by decide, by decide +kernel⟩
  | 8, _ => exact ⟨by decide, by decide +kernel⟩
  | 9, _ => exact ⟨by decide, by decide +kernel⟩
  | 10, _ => exact ⟨by decide, by decide +kernel⟩
theorem partI {i : Int} (h0 : 0 ≤ i) (h1 : i ≤ 10) : strDOk (.int i) ∧ (strD (.int i)).length ≤ 1000 ∧ Shp 0 (.int i) ∧ isBool (.int i) = false := ⟨(digit_ok i h0 h1).1, (digit_ok i h0 h1).2, Shp.int i 0, rfl⟩
theorem NameX.strOk {n : Nat} {w : Str} (h : NameX n w) : PyData.strOk w = true := strOk_of (m := 122) (fun c hc => (h.2.1 c hc).2) (by decide)
theorem NameX.mono {n m : Nat} {w : Str} (h : NameX n w) (le : n ≤ m) : NameX m w := ⟨h.1, h.2.1, Nat.le_trans h.2.2 le⟩
theorem NameX.y {n : Nat} {w : Str} (h : NameX n w) : NameX (n + 1) (w ++ Str.ofString "y") := by
  have ey : (Str.ofString "y").cps.toList = [121] := by decide +kernel
  refine ⟨?_, fun c hc => ?_, ?_⟩
  · rw [app_list]
    exact List.mem_append_left _ h.1
  · rw [app_list, ey] at hc
    rcases List.mem_append.mp hc with m | m
    · exact h.2.1 c m
    · rw [List.mem_singleton.mp m]
      exact ⟨by decide, by decide⟩
  · rw [str_append_length]
    exact Nat.succ_le_succ h.2.2
theorem ne_y (w : Str) : w ≠ w ++ Str.ofString "y" := fun e => by
  have := congrArg Str.length e
  rw [str_append_length] at this
  have h1 : (Str.ofString "y").length = 1 := rfl
  omega
theorem partS {n : Nat} {w : Str} (h : NameX n w) (hn : n ≤ 1000) : strDOk (.str w) ∧ (strD (.str w)).length ≤ 1000 ∧ Shp 0 (.str w) ∧ isBool (.str w) = false := ⟨trivial, Nat.le_trans h.2.2 hn, Shp.str h.strOk 0, rfl⟩
theorem minS_name {n : Nat} {a b : Str} (ha : NameX n a) (hb : NameX n b) : NameX n (minS a b) := by
  rcases minS_or a b with h | h
  · rw [h]; exact ha
  · rw [h]; exact hb
theorem maxS_name {n : Nat} {a b : Str} (ha : NameX n a) (hb : NameX n b) : NameX n (maxS a b) := by
  rcases maxS_or a b with h | h
  · rw [h]; exact ha
  · rw [h]; exact hb
def yy : Str := Str.ofString "yy"
theorem not_yy {n : Nat} {w : Str} (h : NameX n w) : w ≠ yy := fun e => by
  have h1 := h.1
  have ey : yy.cps.toList = [121, 121] := by decide +kernel
  rw [e, ey] at h1
  exact absurd h1 (by decide)
/-- names, one of them "yy", are others than two names with x -/
theorem yy_other {n : Nat} {a c d : Str} (hc : NameX n c) (hd : NameX n d) : (minS a yy == minS c d && (maxS a yy == maxS c d && true)) = false := by
  rw [Bool.and_true]
  cases h1 : (minS a yy == minS c d) with
  | false => rfl
  | true =>
    cases h2 : (maxS a yy == maxS c d) with
    | false => rfl
    | true =>
      have e1 := beq_iff_eq.mp h1
      have e2 := beq_iff_eq.mp h2
      exfalso
      rcases mm_snd a yy with h | h
      · rw [h] at e1
        exact not_yy (minS_name hc hd) e1.symm
      · rw [h] at e2
        exact not_yy (maxS_name hc hd) e2.symm

/-! ### slips as their users make and compare them -/
section
variable {H : Hp} {Q : VK} {i j : Int} {x y : Str} {v : V} {d : PyData}
abbrev swapD (i j : Int) : List PyData := [.int 0, .int (mnI i j), .int (mxI i j)]
abbrev namesD (x y : Str) : List PyData := [.int 3, .str (minS x y), .str (maxS x y)]
theorem swap_made {CS : List Addr} {CB C : Addr} {a dx : Addr} {H1 : Hp} (hS : FamK CS (swapD i j) C) (n : H a = none) (k : Kp [] H H1) (e : H1 a = some (.ins C dx [])) (ne : i ≠ j) (q : ∀ a H', Kp [] H H' → SlipAt CS H' a (swapD i j) → Q (.ref a) H') : sp_Swap___init__ C CB [.ref a, .int i, .int j] H1 (kMade a Q) E0 :=
  ⟨a, dx, i, j, rfl, e, fun _ => parts_made hS n k (fun _ => .cons (.int _) (.cons (.int _) (.cons (.int _) .nil))) (fun H' => q a H'), fun z => absurd z ne⟩
theorem names_made {CS : List Addr} {CB C : Addr} {a dx : Addr} {H1 : Hp} (hS : FamK CS (namesD x y) C) (n : H a = none) (k : Kp [] H H1) (e : H1 a = some (.ins C dx [])) (ne : x ≠ y) (q : ∀ a H', Kp [] H H' → SlipAt CS H' a (namesD x y) → Q (.ref a) H') : sp_Names___init__ C CB [.ref a, .str x, .str y] H1 (kMade a Q) E0 :=
  ⟨a, dx, x, y, rfl, e, fun _ => parts_made hS n k (fun _ => .cons (.int _) (.cons (.str _) (.cons (.str _) .nil))) (fun H' => q a H'), fun z => absurd z ne⟩
theorem swap_ok {i j : Int} (h0 : 0 ≤ i) (h1 : i ≤ 10) (g0 : 0 ≤ j) (g1 : j ≤ 10) : PartsOk 0 [.int (mnI i j), .int (mxI i j)] := ⟨by decide, (fun z => nomatch z), Nat.le_refl 2, fun d m => by
  have e1 : 0 ≤ mnI i j ∧ mnI i j ≤ 10 := by
    unfold mnI
    split <;> omega
  have e2 : 0 ≤ mxI i j ∧ mxI i j ≤ 10 := by
    unfold mxI
    split <;> omega
  rcases List.mem_cons.mp m with rfl | m
  · exact partI e1.1 e1.2
  · rw [List.mem_singleton.mp m]
    exact partI e2.1 e2.2⟩
theorem names_ok {n : Nat} {x y : Str} (hx : NameX n x) (hy : NameX n y) (hn : n ≤ 1000) : PartsOk 3 [.str (minS x y), .str (maxS x y)] := ⟨by decide, (fun z => nomatch z), Nat.le_refl 2, fun d m => by
  rcases List.mem_cons.mp m with rfl | m
  · exact partS (minS_name hx hy) hn
  · rw [List.mem_singleton.mp m]
    exact partS (maxS_name hx hy) hn⟩
theorem shp_swap (i j : Int) : Shp 1 (.tuple (swapD i j)) := Shp.tuple (n := 0) fun d m => by
  simp only [List.mem_cons, List.not_mem_nil, or_false] at m
  rcases m with rfl | rfl | rfl <;> exact Shp.int _ 0
theorem shp_names {x y : Str} (hx : PyData.strOk x = true) (hy : PyData.strOk y = true) : Shp 1 (.tuple (namesD x y)) := Shp.tuple (n := 0) fun d m => by
  simp only [List.mem_cons, List.not_mem_nil, or_false] at m
  rcases m with rfl | rfl | rfl
  · exact Shp.int _ 0
  · rcases minS_or x y with h | h <;> rw [h] <;> first | exact Shp.str hx 0 | exact Shp.str hy 0
  · rcases maxS_or x y with h | h <;> rw [h] <;> first | exact Shp.str hx 0 | exact Shp.str hy 0
end
theorem one_ok {k : Nat} {d : PyData} (hk : k < 5) (h : strDOk d ∧ (strD d).length ≤ 1000 ∧ Shp 0 d ∧ isBool d = false) : PartsOk k [d] := ⟨hk, (fun z => nomatch z), (by decide : 1 ≤ 2), fun e m => by
  rw [List.mem_singleton.mp m]
  exact h⟩
def partD (x : Nat × PyData) : List PyData := [.int (x.1 : Int), x.2]
theorem leave_made {CS : List Addr} {C a dx : Addr} {H H1 : Hp} {Q : VK} {v : V} {d : PyData} {k : Nat} (hS : FamK CS (partD (k, d)) C) (n : H a = none) (kp : Kp [] H H1) (hv : ∀ H', Dt [] H' v d) (q : ∀ a H', Kp [] H H' → SlipAt CS H' a (partD (k, d)) → Q (.ref a) H') : kParts (kMade a Q) H1 a C dx [.int (k : Int), v] :=
  parts_made hS n kp (fun H' => .cons (.int _) (.cons (hv H') .nil)) (fun H' => q a H')

/-! ### names: one to eight letters a to z, none of them reserved -/
def reserved : List Str := ["kind", "def", "set", "ask", "call", "again", "check", "mean", "if", "else", "end", "return", "refuse", "is", "self", "cls"]
def letters : Str := "abcdefghijklmnopqrstuvwxyz"
def NameOk (w : Str) : Prop := 1 ≤ w.cps.toList.length ∧ w.cps.toList.length ≤ 8 ∧ (∀ c ∈ w.cps.toList, 97 ≤ c ∧ c ≤ 122) ∧ w ∉ reserved

/-! ### words and names of data -/
theorem letters_iff (c : Nat) : c ∈ letters.cps.toList ↔ 97 ≤ c ∧ c ≤ 122 := by
  have e : letters.cps.toList = List.range' 97 26 := by decide +kernel
  rw [e, List.mem_range'_1]
  omega
def isWord : PyData → Bool
  | .str w => decide (1 ≤ w.length) && decide (w.length ≤ 8) && w.cps.toList.all fun c => decide (c ∈ letters.cps.toList)
  | _ => false
def isName : PyData → Bool
  | .str w => isWord (.str w) && !decide (w ∈ reserved)
  | _ => false
theorem isWord_eq (w : Str) : isWord (.str w) = (decide (1 ≤ w.length) && decide (w.length ≤ 8) && w.cps.toList.all fun c => decide (c ∈ letters.cps.toList)) := rfl
theorem isName_eq (w : Str) : isName (.str w) = (isWord (.str w) && !decide (w ∈ reserved)) := rfl
theorem isName_iff (w : Str) : isName (.str w) = true ↔ NameOk w := by
  have e : isName (.str w) = ((decide (1 ≤ w.length) && decide (w.length ≤ 8) && w.cps.toList.all fun c => decide (c ∈ letters.cps.toList)) && !decide (w ∈ reserved)) := rfl
  unfold NameOk
  rw [e, str_length]
  simp only [Bool.and_eq_true, decide_eq_true_eq, List.all_eq_true, Bool.not_eq_true', decide_eq_false_iff_not, letters_iff]
  constructor
  · rintro ⟨⟨⟨a, b⟩, c⟩, d⟩
    exact ⟨a, b, c, d⟩
  · rintro ⟨a, b, c, d⟩
    exact ⟨⟨⟨a, b⟩, c⟩, d⟩
theorem isName_str {d : PyData} (h : isName d = true) : ∃ w, d = .str w := by
  cases d <;> first | exact ⟨_, rfl⟩ | cases h

end
/-! ### the slip that some pieces of a text tell -/
open PySem.Spec in
def digits : Str := "0123456789"
def isPlace (p : Str) : Bool := decide (p.length = 1) && p.cps.toList.all fun c => decide (c ∈ digits.cps.toList)
def digOf (p : Str) : Int := ((p.cps.toList.getD 0 48 : Nat) : Int) - 48
def nameB (p : Str) : Bool := isName (.str p)
/-- the key of the slip, or none -/
def slipKey : List Str → Option (Nat × List PyData)
  | [w, a, b] =>
    if w = "swap" then (if (isPlace a && isPlace b && !decide (a = b)) = true then some (0, [.int (mnI (digOf a) (digOf b)), .int (mxI (digOf a) (digOf b))]) else none)
    else if w = "names" then (if (nameB a && nameB b && !decide (a = b)) = true then some (3, [.str (minS a b), .str (maxS a b)]) else none) else none
  | [w, a] =>
    if w = "leave" then (if isPlace a = true then some (1, [.int (digOf a)]) else none)
    else if w = "double" then (if isPlace a = true then some (2, [.int (digOf a)]) else none)
    else if w = "drop" then (if nameB a = true then some (4, [.str a]) else none) else none
  | _ => none
/-- the five shapes -/
inductive Tells : List Str → Nat → List PyData → Prop
  | swap {a b : Str} : isPlace a = true → isPlace b = true → a ≠ b → Tells ["swap", a, b] 0 [.int (mnI (digOf a) (digOf b)), .int (mxI (digOf a) (digOf b))]
  | names {a b : Str} : nameB a = true → nameB b = true → a ≠ b → Tells ["names", a, b] 3 [.str (minS a b), .str (maxS a b)]
  | leave {a : Str} : isPlace a = true → Tells ["leave", a] 1 [.int (digOf a)]
  | double {a : Str} : isPlace a = true → Tells ["double", a] 2 [.int (digOf a)]
  | drop {a : Str} : nameB a = true → Tells ["drop", a] 4 [.str a]
theorem w_ne : (("names" : Str) = "swap") = False ∧ (("double" : Str) = "leave") = False ∧ (("drop" : Str) = "leave") = False ∧ (("drop" : Str) = "double") = False := by
  refine ⟨?_, ?_, ?_, ?_⟩ <;> exact eq_false (by decide +kernel)
theorem Tells.key {ps : List Str} {k : Nat} {ds : List PyData} (h : Tells ps k ds) : slipKey ps = some (k, ds) := by
  cases h with
  | swap h1 h2 h3 => simp [slipKey, h1, h2, h3]
  | names h1 h2 h3 => simp [slipKey, w_ne, h1, h2, h3]
  | leave h1 => simp [slipKey, h1]
  | double h1 => simp [slipKey, w_ne, h1]
  | drop h1 => simp [slipKey, w_ne, h1]
theorem Tells.of {ps : List Str} {k : Nat} {ds : List PyData} (h : slipKey ps = some (k, ds)) : Tells ps k ds := by
  unfold slipKey at h
  split at h
  · split at h
    · rename_i e
      subst e
      split at h
      · rename_i c
        simp only [Bool.and_eq_true, Bool.not_eq_true', decide_eq_false_iff_not] at c
        cases h
        exact .swap c.1.1 c.1.2 c.2
      · cases h
    · split at h
      · rename_i e
        subst e
        split at h
        · rename_i c
          simp only [Bool.and_eq_true, Bool.not_eq_true', decide_eq_false_iff_not] at c
          cases h
          exact .names c.1.1 c.1.2 c.2
        · cases h
      · cases h
  · split at h
    · rename_i e
      subst e
      split at h
      · rename_i c
        cases h
        exact .leave c
      · cases h
    · split at h
      · rename_i e
        subst e
        split at h
        · rename_i c
          cases h
          exact .double c
        · cases h
      · split at h
        · rename_i e
          subst e
          split at h
          · rename_i c
            cases h
            exact .drop c
          · cases h
        · cases h
  · cases h
/-! the steps by which it is found -/
def manyOf (w : Str) : Nat := if w ∈ ([("swap" : Str), "names"] : List Str) then 3 else 2
def byPlace (w : Str) : Bool := decide (w ∈ ([("swap" : Str), "leave", "double"] : List Str))
def okP (w p : Str) : Bool := if byPlace w = true then isPlace p else nameB p
/-- what is left when the word and the number of pieces are right -/
theorem shape_of {w : Str} {rest : List Str} (hw : w ∈ slipWords) (hl : (w :: rest).length = manyOf w) :
    (∃ a b, (w = "swap" ∨ w = "names") ∧ rest = [a, b]) ∨ (∃ a, (w = "leave" ∨ w = "double" ∨ w = "drop") ∧ rest = [a]) := by
  have two : rest.length = 2 → ∃ a b, rest = [a, b] := fun h => by
    match rest, h with
    | [a, b], _ => exact ⟨a, b, rfl⟩
  have one : rest.length = 1 → ∃ a, rest = [a] := fun h => by
    match rest, h with
    | [a], _ => exact ⟨a, rfl⟩
  have hw' : w = "swap" ∨ w = "leave" ∨ w = "double" ∨ w = "names" ∨ w = "drop" := by
    simpa [slipWords] using hw
  have m0 : manyOf "swap" = 3 := by decide +kernel
  have m1 : manyOf "names" = 3 := by decide +kernel
  have m2 : manyOf "leave" = 2 := by decide +kernel
  have m3 : manyOf "double" = 2 := by decide +kernel
  have m4 : manyOf "drop" = 2 := by decide +kernel
  rw [List.length_cons] at hl
  rcases hw' with rfl | rfl | rfl | rfl | rfl
  · rw [m0] at hl
    obtain ⟨a, b, e⟩ := two (by omega)
    exact .inl ⟨a, b, .inl rfl, e⟩
  · rw [m2] at hl
    obtain ⟨a, e⟩ := one (by omega)
    exact .inr ⟨a, .inl rfl, e⟩
  · rw [m3] at hl
    obtain ⟨a, e⟩ := one (by omega)
    exact .inr ⟨a, .inr (.inl rfl), e⟩
  · rw [m1] at hl
    obtain ⟨a, b, e⟩ := two (by omega)
    exact .inl ⟨a, b, .inr rfl, e⟩
  · rw [m4] at hl
    obtain ⟨a, e⟩ := one (by omega)
    exact .inr ⟨a, .inr (.inr rfl), e⟩
theorem key_word {w : Str} {rest : List Str} (h : slipKey (w :: rest) ≠ none) : w ∈ slipWords ∧ (w :: rest).length = manyOf w := by
  cases e : slipKey (w :: rest) with
  | none => exact absurd e h
  | some x =>
    obtain ⟨k, ds⟩ := x
    have m0 : manyOf "swap" = 3 := by decide +kernel
    have m1 : manyOf "names" = 3 := by decide +kernel
    have m2 : manyOf "leave" = 2 := by decide +kernel
    have m3 : manyOf "double" = 2 := by decide +kernel
    have m4 : manyOf "drop" = 2 := by decide +kernel
    cases Tells.of e with
    | swap h1 h2 h3 => exact ⟨by simp [slipWords], by rw [m0]; rfl⟩
    | names h1 h2 h3 => exact ⟨by simp [slipWords], by rw [m1]; rfl⟩
    | leave h1 => exact ⟨by simp [slipWords], by rw [m2]; rfl⟩
    | double h1 => exact ⟨by simp [slipWords], by rw [m3]; rfl⟩
    | drop h1 => exact ⟨by simp [slipWords], by rw [m4]; rfl⟩
theorem by0 : byPlace "swap" = true ∧ byPlace "leave" = true ∧ byPlace "double" = true ∧ byPlace "names" = false ∧ byPlace "drop" = false := by decide +kernel
theorem key_all {w : Str} {rest : List Str} (h : slipKey (w :: rest) ≠ none) : rest.all (okP w) = true := by
  cases e : slipKey (w :: rest) with
  | none => exact absurd e h
  | some x =>
    obtain ⟨k, ds⟩ := x
    cases Tells.of e with
    | swap h1 h2 h3 => simp [okP, by0, h1, h2]
    | names h1 h2 h3 => simp [okP, by0, h1, h2]
    | leave h1 => simp [okP, by0, h1]
    | double h1 => simp [okP, by0, h1]
    | drop h1 => simp [okP, by0, h1]
theorem key_dup {w a : Str} {rest : List Str} (h : slipKey (w :: a :: rest) ≠ none) : a ∉ rest := by
  cases e : slipKey (w :: a :: rest) with
  | none => exact absurd e h
  | some x =>
    obtain ⟨k, ds⟩ := x
    cases Tells.of e with
    | swap h1 h2 h3 => simpa using h3
    | names h1 h2 h3 => simpa using h3
    | leave h1 => exact List.not_mem_nil
    | double h1 => exact List.not_mem_nil
    | drop h1 => exact List.not_mem_nil
theorem key_some {w a : Str} {rest : List Str} (hw : w ∈ slipWords) (hl : (w :: a :: rest).length = manyOf w) (ha : (a :: rest).all (okP w) = true) (hd : a ∉ rest) : ∃ k ds, slipKey (w :: a :: rest) = some (k, ds) := by
  rcases shape_of hw hl with ⟨x, y, hw', e⟩ | ⟨x, hw', e⟩
  · cases e
    simp only [List.all_cons, List.all_nil, Bool.and_true, Bool.and_eq_true] at ha
    have hd : a ≠ y := by simpa using hd
    rcases hw' with rfl | rfl
    · simp only [okP, by0, if_true] at ha
      exact ⟨_, _, (Tells.swap ha.1 ha.2 hd).key⟩
    · simp only [okP, by0] at ha
      exact ⟨_, _, (Tells.names (by simpa using ha.1) (by simpa using ha.2) hd).key⟩
  · cases e
    simp only [List.all_cons, List.all_nil, Bool.and_true] at ha
    rcases hw' with rfl | rfl | rfl
    · simp only [okP, by0, if_true] at ha
      exact ⟨_, _, (Tells.leave ha).key⟩
    · simp only [okP, by0, if_true] at ha
      exact ⟨_, _, (Tells.double ha).key⟩
    · simp only [okP, by0] at ha
      exact ⟨_, _, (Tells.drop (by simpa using ha)).key⟩
/-! places -/
theorem digits_list : digits.cps.toList = [48, 49, 50, 51, 52, 53, 54, 55, 56, 57] := by decide +kernel
theorem place_at {p : Str} (h : isPlace p = true) : ∃ c, 48 ≤ c ∧ c ≤ 57 ∧ p = ⟨#[c]⟩ := by
  unfold isPlace at h
  rw [Bool.and_eq_true, decide_eq_true_eq] at h
  obtain ⟨h1, h2⟩ := h
  rw [Rd.str_length] at h1
  cases e : p.cps.toList with
  | nil =>
    rw [e] at h1
    cases h1
  | cons c r =>
    rw [e] at h1 h2
    have hr : r = [] := by
      cases r with
      | nil => rfl
      | cons _ _ => simp at h1
    subst hr
    rw [List.all_cons, List.all_nil, Bool.and_true, decide_eq_true_eq, digits_list] at h2
    simp only [List.mem_cons, List.not_mem_nil, or_false] at h2
    exact ⟨c, by omega, by omega, str_ext e⟩
theorem place_one {c : Nat} (h0 : 48 ≤ c) (h1 : c ≤ 57) : isPlace ⟨#[c]⟩ = true := by
  have hm : c ∈ digits.cps.toList := by
    rw [digits_list]
    simp only [List.mem_cons, List.not_mem_nil, or_false]
    omega
  show (decide (1 = 1) && (decide (c ∈ digits.cps.toList) && true)) = true
  rw [decide_eq_true hm]
  rfl
theorem dig_one (c : Nat) : digOf ⟨#[c]⟩ = (c : Int) - 48 := rfl
theorem dig_range {p : Str} (h : isPlace p = true) : 0 ≤ digOf p ∧ digOf p ≤ 9 := by
  obtain ⟨c, h0, h1, rfl⟩ := place_at h
  rw [dig_one]
  omega
theorem dig_inj {p q : Str} (h : isPlace p = true) (g : isPlace q = true) (e : digOf p = digOf q) : p = q := by
  obtain ⟨c, h0, h1, rfl⟩ := place_at h
  obtain ⟨d, g0, g1, rfl⟩ := place_at g
  rw [dig_one, dig_one] at e
  have : c = d := by omega
  rw [this]
theorem dig_text {p : Str} (h : isPlace p = true) : PySem.intText? p = some (digOf p) ∧ p.length ≤ 640 := by
  obtain ⟨c, h0, h1, rfl⟩ := place_at h
  refine ⟨?_, by show 1 ≤ 640; decide⟩
  rw [dig_one]
  obtain ⟨n, rfl⟩ : ∃ n, c = 48 + n := ⟨c - 48, by omega⟩
  have hn : n ≤ 9 := by omega
  match n, hn with
  | 0, _ => decide +kernel
  | 1, _ => decide +kernel
  | 2, _ => decide +kernel
  | 3, _ => decide +kernel
  | 4, _ => decide +kernel
  | 5, _ => decide +kernel
  | 6, _ => decide +kernel
  | 7, _ => decide +kernel
  | 8, _ => decide +kernel
  | 9, _ => decide +kernel
/-- the sign of a number from 0 to 9 -/
theorem text_dig {i : Int} (h0 : 0 ≤ i) (h1 : i ≤ 9) : isPlace (strD (.int i)) = true ∧ digOf (strD (.int i)) = i := by
  obtain ⟨n, rfl⟩ : ∃ n : Nat, i = n := ⟨i.toNat, by omega⟩
  have hn : n ≤ 9 := by omega
  match n, hn with
  | 0, _ => exact ⟨by decide +kernel, by decide +kernel⟩
  | 1, _ => exact ⟨by decide +kernel, by decide +kernel⟩
  | 2, _ => exact ⟨by decide +kernel, by decide +kernel⟩
  | 3, _ => exact ⟨by decide +kernel, by decide +kernel⟩
  | 4, _ => exact ⟨by decide +kernel, by decide +kernel⟩
  | 5, _ => exact ⟨by decide +kernel, by decide +kernel⟩
  | 6, _ => exact ⟨by decide +kernel, by decide +kernel⟩
  | 7, _ => exact ⟨by decide +kernel, by decide +kernel⟩
  | 8, _ => exact ⟨by decide +kernel, by decide +kernel⟩
  | 9, _ => exact ⟨by decide +kernel, by decide +kernel⟩
theorem nameB_ok {p : Str} (h : nameB p = true) : (∀ c ∈ p.cps.toList, 97 ≤ c ∧ c ≤ 122) ∧ p.length ≤ 8 := by
  have h2 := (isName_iff p).mp h
  exact ⟨h2.2.2.1, by rw [Rd.str_length]; exact h2.2.1⟩
theorem nameX_B {n : Nat} {w : Str} (h : NameX n w) (hn : n ≤ 8) : nameB w = true := by
  refine (isName_iff w).mpr ⟨?_, ?_, h.2.1, fun m => ?_⟩
  · exact List.length_pos_of_mem h.1
  · rw [← Rd.str_length]
    exact Nat.le_trans h.2.2 hn
  · have no : ∀ r ∈ reserved, 120 ∉ r.cps.toList := by decide +kernel
    exact no w m h.1
theorem minB {a b : Str} (ha : nameB a = true) (hb : nameB b = true) : nameB (minS a b) = true ∧ nameB (maxS a b) = true := by
  constructor
  · rcases minS_or a b with h | h <;> rw [h] <;> assumption
  · rcases maxS_or a b with h | h <;> rw [h] <;> assumption
theorem mm_ne {a b : Str} (h : a ≠ b) : minS a b ≠ maxS a b := by
  unfold minS maxS
  cases h1 : slt b a
  · cases h2 : slt a b
    · exact absurd (slt_tri h2 h1) h
    · exact h
  · rw [slt_asy h1]
    exact h.symm
theorem mm_idem {a b : Str} (h : a ≠ b) : minS (minS a b) (maxS a b) = minS a b ∧ maxS (minS a b) (maxS a b) = maxS a b := by
  unfold minS maxS
  cases h1 : slt b a
  · cases h2 : slt a b
    · exact absurd (slt_tri h2 h1) h
    · simp [h1, h2]
  · simp [h1, slt_asy h1]
theorem mi_ne {a b : Int} (h : a ≠ b) : mnI a b < mxI a b := by
  unfold mnI mxI
  split <;> split <;> omega
theorem mi_idem {a b : Int} : mnI (mnI a b) (mxI a b) = mnI a b ∧ mxI (mnI a b) (mxI a b) = mxI a b := by
  unfold mnI mxI
  constructor <;> (repeat' split) <;> omega
/-- a slip in its own form -/
def KeyOk (k : Nat) (ds : List PyData) : Prop := Tells (slipWords.getD k "" :: ds.map strD) k ds
theorem partN {w : Str} (h : nameB w = true) : strDOk (.str w) ∧ (strD (.str w)).length ≤ 1000 ∧ Shp 0 (.str w) ∧ isBool (.str w) = false := by
  have h1 := nameB_ok h
  exact ⟨trivial, Nat.le_trans h1.2 (by decide), Shp.str (strOk_of (m := 122) (fun c hc => (h1.1 c hc).2) (by decide)) 0, rfl⟩
theorem KeyOk.swap {i j : Int} (h0 : 0 ≤ i) (h1 : i ≤ 9) (g0 : 0 ≤ j) (g1 : j ≤ 9) (ne : i ≠ j) : KeyOk 0 [.int (mnI i j), .int (mxI i j)] := by
  have e1 : 0 ≤ mnI i j ∧ mnI i j ≤ 9 := by
    unfold mnI
    split <;> omega
  have e2 : 0 ≤ mxI i j ∧ mxI i j ≤ 9 := by
    unfold mxI
    split <;> omega
  have t1 := text_dig e1.1 e1.2
  have t2 := text_dig e2.1 e2.2
  have t := Tells.swap t1.1 t2.1 (fun e => by
    have := congrArg digOf e
    rw [t1.2, t2.2] at this
    have := mi_ne ne
    omega)
  rw [t1.2, t2.2, mi_idem.1, mi_idem.2] at t
  exact t
theorem KeyOk.names {a b : Str} (ha : nameB a = true) (hb : nameB b = true) (ne : a ≠ b) : KeyOk 3 [.str (minS a b), .str (maxS a b)] := by
  have t := Tells.names (minB ha hb).1 (minB ha hb).2 (mm_ne ne)
  rw [(mm_idem ne).1, (mm_idem ne).2] at t
  exact t
theorem KeyOk.leave {i : Int} (h0 : 0 ≤ i) (h1 : i ≤ 9) : KeyOk 1 [.int i] := by
  have t1 := text_dig h0 h1
  have t := Tells.leave t1.1
  rw [t1.2] at t
  exact t
theorem KeyOk.double {i : Int} (h0 : 0 ≤ i) (h1 : i ≤ 9) : KeyOk 2 [.int i] := by
  have t1 := text_dig h0 h1
  have t := Tells.double t1.1
  rw [t1.2] at t
  exact t
theorem KeyOk.drop {a : Str} (h : nameB a = true) : KeyOk 4 [.str a] := Tells.drop h
theorem Tells.own {ps : List Str} {k : Nat} {ds : List PyData} (h : Tells ps k ds) : KeyOk k ds := by
  cases h with
  | swap h1 h2 h3 => exact KeyOk.swap (dig_range h1).1 (dig_range h1).2 (dig_range h2).1 (dig_range h2).2 fun e => h3 (dig_inj h1 h2 e)
  | names h1 h2 h3 => exact KeyOk.names h1 h2 h3
  | leave h1 => exact KeyOk.leave (dig_range h1).1 (dig_range h1).2
  | double h1 => exact KeyOk.double (dig_range h1).1 (dig_range h1).2
  | drop h1 => exact KeyOk.drop h1
theorem Tells.parts {ps : List Str} {k : Nat} {ds : List PyData} (h : Tells ps k ds) : PartsOk k ds := by
  cases h with
  | swap h1 h2 h3 => exact swap_ok (dig_range h1).1 (by have := (dig_range h1).2; omega) (dig_range h2).1 (by have := (dig_range h2).2; omega)
  | names h1 h2 h3 => exact ⟨by decide, (fun z => nomatch z), Nat.le_refl 2, fun d m => by
      rcases List.mem_cons.mp m with rfl | m
      · exact partN (minB h1 h2).1
      · rw [List.mem_singleton.mp m]
        exact partN (minB h1 h2).2⟩
  | leave h1 => exact one_ok (k := 1) (by decide) (partI (dig_range h1).1 (by have := (dig_range h1).2; omega))
  | double h1 => exact one_ok (k := 2) (by decide) (partI (dig_range h1).1 (by have := (dig_range h1).2; omega))
  | drop h1 => exact one_ok (k := 4) (by decide) (partN h1)
theorem Tells.free {ps : List Str} {k : Nat} {ds : List PyData} (h : Tells ps k ds) : ps ≠ [] ∧ ∀ p ∈ ps, 32 ∉ p.cps.toList := by
  have pl : ∀ {p : Str}, isPlace p = true → 32 ∉ p.cps.toList := fun {p} hp m => by
    obtain ⟨c, h0, h1, rfl⟩ := place_at hp
    have : 32 ∈ [c] := m
    rw [List.mem_singleton] at this
    omega
  have nm : ∀ {p : Str}, nameB p = true → 32 ∉ p.cps.toList := fun {p} hp m => by
    have := (nameB_ok hp).1 32 m
    omega
  have ws : ∀ w ∈ slipWords, 32 ∉ w.cps.toList := by decide +kernel
  cases h with
  | swap h1 h2 h3 =>
    refine ⟨(fun z => nomatch z), fun p m => ?_⟩
    simp only [List.mem_cons, List.not_mem_nil, or_false] at m
    rcases m with rfl | rfl | rfl
    · exact ws _ (by simp [slipWords])
    · exact pl h1
    · exact pl h2
  | names h1 h2 h3 =>
    refine ⟨(fun z => nomatch z), fun p m => ?_⟩
    simp only [List.mem_cons, List.not_mem_nil, or_false] at m
    rcases m with rfl | rfl | rfl
    · exact ws _ (by simp [slipWords])
    · exact nm h1
    · exact nm h2
  | leave h1 =>
    refine ⟨(fun z => nomatch z), fun p m => ?_⟩
    simp only [List.mem_cons, List.not_mem_nil, or_false] at m
    rcases m with rfl | rfl
    · exact ws _ (by simp [slipWords])
    · exact pl h1
  | double h1 =>
    refine ⟨(fun z => nomatch z), fun p m => ?_⟩
    simp only [List.mem_cons, List.not_mem_nil, or_false] at m
    rcases m with rfl | rfl
    · exact ws _ (by simp [slipWords])
    · exact pl h1
  | drop h1 =>
    refine ⟨(fun z => nomatch z), fun p m => ?_⟩
    simp only [List.mem_cons, List.not_mem_nil, or_false] at m
    rcases m with rfl | rfl
    · exact ws _ (by simp [slipWords])
    · exact nm h1
/-- pieces without blanks, joined by blanks and split again -/
theorem split_join_blank {ps : List Str} (hne : ps ≠ []) (h : ∀ p ∈ ps, 32 ∉ p.cps.toList) : Txt.split (Txt.join (Str.ofString " ") ps) (Str.ofString " ") = ps := by
  have eb : (Str.ofString " ") = SX.S [32] := by decide +kernel
  have em : ps = (ps.map fun p => p.cps.toList).map SX.S := by
    rw [List.map_map]
    have : (SX.S ∘ fun p : Str => p.cps.toList) = id := funext fun p => str_ext rfl
    rw [this, List.map_id]
  rw [eb]
  rw [em, SX.join_S, SX.split_S (List.cons_ne_nil _ _) rfl, SX.spl_join]
  · intro z
    exact hne (List.map_eq_nil_iff.mp z)
  · intro p m
    obtain ⟨q, hq, rfl⟩ := List.mem_map.mp m
    exact h q hq
theorem KeyOk.again {k : Nat} {ds : List PyData} (h : KeyOk k ds) : slipKey (Txt.split (slipText k ds) (Str.ofString " ")) = some (k, ds) := by
  have f := Tells.free h
  unfold slipText
  rw [split_join_blank f.1 f.2]
  exact Tells.key h

/-! ### what a slip asks of arguments, and what it makes of them -/
def intOf : PyData → Int
  | .int i => i
  | _ => 0
def strOf : PyData → Str
  | .str x => x
  | _ => Str.empty
/-- the slips that there are -/
inductive KS : Nat → List PyData → Prop
  | sw {i j : Nat} : i < j → j ≤ 9 → KS 0 [.int (i : Int), .int (j : Int)]
  | lv {i : Nat} : i ≤ 9 → KS 1 [.int (i : Int)]
  | db {i : Nat} : i ≤ 9 → KS 2 [.int (i : Int)]
  | nm {a b : Str} : a ≠ b → nameB a = true → nameB b = true → minS a b = a → maxS a b = b → KS 3 [.str a, .str b]
  | dr {a : Str} : nameB a = true → KS 4 [.str a]
theorem KS.key {k : Nat} {ds : List PyData} (h : KS k ds) : KeyOk k ds := by
  cases h with
  | @sw i j h1 h2 =>
    have := KeyOk.swap (i := i) (j := j) (by omega) (by omega) (by omega) (by omega) (by omega)
    have e1 : mnI (i : Int) (j : Int) = i := by
      unfold mnI
      rw [if_neg (by omega)]
    have e2 : mxI (i : Int) (j : Int) = j := by
      unfold mxI
      rw [if_pos (by omega)]
    rw [e1, e2] at this
    exact this
  | lv h1 => exact KeyOk.leave (by omega) (by omega)
  | db h1 => exact KeyOk.double (by omega) (by omega)
  | @nm a b h1 h2 h3 h4 h5 =>
    have := KeyOk.names h2 h3 h1
    rw [h4, h5] at this
    exact this
  | dr h1 => exact KeyOk.drop h1
theorem KS.lt {k : Nat} {ds : List PyData} (h : KS k ds) : k < 5 := h.key.parts.lt
theorem KS.two {k : Nat} {ds : List PyData} (h : KS k ds) : ds ≠ [] ∧ ds.length ≤ 2 := ⟨h.key.parts.ne, h.key.parts.two⟩
theorem KS.shp {k : Nat} {ds : List PyData} (h : KS k ds) : Shp 1 (.tuple (.int (k : Int) :: ds)) := h.key.parts.shp
def fitsD (k : Nat) (ds : List PyData) (m : Nat) (ws : List Str) : Bool := if k < 3 then ds.all fun d => decide (intOf d < (m : Int)) else ds.all fun d => decide (strOf d ∈ ws)
def valOf (nds : List (Str × Int)) (w : Str) : Int := ((nds.find? fun q => decide (q.1 = w)).map Prod.snd).getD 0
def swapL (i j : Nat) (ixs : List Int) : List Int := (ixs.set i (ixs.getD j 0)).set j (ixs.getD i 0)
def dblL (i : Nat) (ixs : List Int) : List Int := ixs.take i ++ [ixs.getD i 0] ++ ixs.drop i
def turnN (a b : Str) (nds : List (Str × Int)) : List (Str × Int) := nds.map fun q => (q.1, if q.1 = a then valOf nds b else if q.1 = b then valOf nds a else q.2)
def dropN (a : Str) (nds : List (Str × Int)) : List (Str × Int) := nds.filter fun q => !decide (q.1 = a)
def movedI : Nat → List PyData → List Int → List Int
  | 0, [.int i, .int j], ixs => swapL i.toNat j.toNat ixs
  | 1, [.int i], ixs => ixs.eraseIdx i.toNat
  | 2, [.int i], ixs => dblL i.toNat ixs
  | _, _, ixs => ixs
def movedN : Nat → List PyData → List (Str × Int) → List (Str × Int)
  | 3, [.str a, .str b], nds => turnN a b nds
  | 4, [.str a], nds => dropN a nds
  | _, _, nds => nds
theorem movedI_len (k : Nat) (ds : List PyData) (ixs : List Int) : (movedI k ds ixs).length ≤ ixs.length + 1 := by
  unfold movedI
  split
  · unfold swapL
    rw [List.length_set, List.length_set]
    omega
  · rename_i i
    have := List.length_eraseIdx_le ixs i.toNat
    omega
  · unfold dblL
    rw [List.length_append, List.length_append, List.length_take, List.length_drop, List.length_singleton]
    omega
  · omega
theorem movedN_keys (k : Nat) (ds : List PyData) (nds : List (Str × Int)) : ((movedN k ds nds).map Prod.fst).Sublist (nds.map Prod.fst) := by
  unfold movedN
  split
  · unfold turnN
    rw [List.map_map]
    exact List.Sublist.refl _
  · unfold dropN
    exact (List.filter_sublist).map _
  · exact List.Sublist.refl _
theorem valV_nds (w : Str) : ∀ nds : List (Str × Int), w ∈ nds.map Prod.fst → valV (ndK nds) (Sum.inr w) = some (.int (valOf nds w))
  | [], h => nomatch h
  | q :: nds, h => by
    by_cases c : q.1 = w
    · subst c
      unfold ndK valOf
      rw [List.map_cons, valV_pos rfl, List.find?_cons, decide_eq_true rfl]
      rfl
    · have hm : w ∈ nds.map Prod.fst := by
        rcases List.mem_cons.mp h with e | e
        · exact absurd e.symm c
        · exact e
      have ih := valV_nds w nds hm
      unfold ndK valOf at ih ⊢
      rw [List.map_cons, valV_neg (fun z => c (Sum.inr.inj z)), ih, List.find?_cons, decide_eq_false c]
theorem valOf_of {nds : List (Str × Int)} {q : Str × Int} (hn : (nds.map Prod.fst).Nodup) (h : q ∈ nds) : valOf nds q.1 = q.2 := by
  induction nds with
  | nil => exact nomatch h
  | cons x nds ih =>
    rw [List.map_cons, List.nodup_cons] at hn
    unfold valOf at ih ⊢
    rw [List.find?_cons]
    rcases List.mem_cons.mp h with rfl | h
    · rw [decide_eq_true rfl]
      rfl
    · have c : ¬ x.1 = q.1 := fun z => hn.1 (z ▸ List.mem_map.mpr ⟨q, h, rfl⟩)
      rw [decide_eq_false c]
      exact ih hn.2 h
/-- one name's number is stored -/
theorem putK_nds {w : Str} {n : Int} : ∀ {nds : List (Str × Int)}, w ∈ nds.map Prod.fst → putK (ndK nds) (Sum.inr w) (.int n) = ndK (nds.map fun q => (q.1, if q.1 = w then n else q.2)) := by
  intro nds h
  unfold putK
  have hany : (ndK nds).any (fun kv => decide (kv.1 = Sum.inr w)) = true := by
    obtain ⟨q, hq, e⟩ := List.mem_map.mp h
    exact List.any_eq_true.mpr ⟨(Sum.inr q.1, .int q.2), List.mem_map.mpr ⟨q, hq, rfl⟩, decide_eq_true (by rw [e])⟩
  rw [if_pos hany]
  unfold ndK
  rw [List.map_map, List.map_map]
  refine List.map_congr_left fun q _ => ?_
  show (if (Sum.inr q.1 : Key) = Sum.inr w then _ else _) = _
  by_cases c : q.1 = w
  · rw [if_pos (by rw [c])]
    show (_, _) = (Sum.inr q.1, V.int (if q.1 = w then n else q.2))
    rw [if_pos c]
  · rw [if_neg (fun z => c (Sum.inr.inj z))]
    show (_, _) = (Sum.inr q.1, V.int (if q.1 = w then n else q.2))
    rw [if_neg c]
theorem map_keys (f : Str × Int → Int) (nds : List (Str × Int)) : (nds.map fun q => (q.1, f q)).map Prod.fst = nds.map Prod.fst := by
  rw [List.map_map]
  rfl

/-! ### a slip's text is short -/
theorem text_len {k : Nat} {ds : List PyData} (h : PartsOk k ds) (hs : ∀ d ∈ ds, (strD d).length ≤ 8) : (slipText k ds).length ≤ 500 := by
  unfold slipText
  rw [TL.join_eq]
  have h1 := StrLaws.join_length_le (Str.ofString " ") (slipWords.getD k "" :: ds.map strD)
  have h2 := sum_le (ys := ds.map strD) (m := 8) fun y hy => by
    obtain ⟨d, hd, rfl⟩ := List.mem_map.mp hy
    exact hs d hd
  have h3 : (slipWords.getD k "").length ≤ 6 := by
    have hk := h.lt
    match k, hk with
    | 0, _ => decide
    | 1, _ => decide
    | 2, _ => decide
    | 3, _ => decide
    | 4, _ => decide
  have h4 := h.two
  have h5 : (Str.ofString " ").length = 1 := rfl
  rw [List.length_map] at h2
  rw [List.map_cons, List.sum_cons, List.length_cons, List.length_map, h5] at h1
  omega
theorem Tells.short {ps : List Str} {k : Nat} {ds : List PyData} (h : Tells ps k ds) : ∀ d ∈ ds, (strD d).length ≤ 8 := by
  have one : ∀ {i : Int}, 0 ≤ i → i ≤ 9 → (strD (.int i)).length ≤ 8 := fun {i} h0 h1 => by
    obtain ⟨c, _, _, e⟩ := place_at (text_dig h0 h1).1
    rw [e]
    show 1 ≤ 8
    decide
  cases h with
  | @swap a b h1 h2 h3 =>
    have r1 := dig_range h1
    have r2 := dig_range h2
    have e1 : 0 ≤ mnI (digOf a) (digOf b) ∧ mnI (digOf a) (digOf b) ≤ 9 := by
      unfold mnI
      split <;> omega
    have e2 : 0 ≤ mxI (digOf a) (digOf b) ∧ mxI (digOf a) (digOf b) ≤ 9 := by
      unfold mxI
      split <;> omega
    intro d m
    rcases List.mem_cons.mp m with rfl | m
    · exact one e1.1 e1.2
    · rw [List.mem_singleton.mp m]
      exact one e2.1 e2.2
  | names h1 h2 h3 =>
    intro d m
    rcases List.mem_cons.mp m with rfl | m
    · exact (nameB_ok (minB h1 h2).1).2
    · rw [List.mem_singleton.mp m]
      exact (nameB_ok (minB h1 h2).2).2
  | leave h1 =>
    intro d m
    rw [List.mem_singleton.mp m]
    exact one (dig_range h1).1 (dig_range h1).2
  | double h1 =>
    intro d m
    rw [List.mem_singleton.mp m]
    exact one (dig_range h1).1 (dig_range h1).2
  | drop h1 =>
    intro d m
    rw [List.mem_singleton.mp m]
    exact (nameB_ok h1).2

/-! ### keys of slips as keys of a dict; sorted, each once -/
abbrev SK := Nat × List PyData
def pdKey : PyData → Key
  | .int n => .inl n
  | .str x => .inr x
  | _ => .inl 0
def keyL (q : SK) : List Key := .inl (q.1 : Int) :: q.2.map pdKey
def pdS (q : SK) : List PyData := .int (q.1 : Int) :: q.2
def Flat (d : PyData) : Prop := (∃ n, d = .int n) ∨ ∃ x, d = .str x
theorem KS.flat {k : Nat} {ds : List PyData} (h : KS k ds) : ∀ d ∈ ds, Flat d := by
  intro d m
  cases h <;> simp only [List.mem_cons, List.not_mem_nil, or_false] at m <;> first
    | (rcases m with rfl | rfl <;> first | exact .inl ⟨_, rfl⟩ | exact .inr ⟨_, rfl⟩)
    | (subst m; first | exact .inl ⟨_, rfl⟩ | exact .inr ⟨_, rfl⟩)
theorem dt_flat {ex : List Addr} {H : Hp} : ∀ {vs : List V} {ds : List PyData}, DtAll ex H vs ds → (∀ d ∈ ds, Flat d) → vs = (ds.map pdKey).map kV
  | _, _, .nil, _ => rfl
  | _, _, .cons h t, g => by
    rw [dt_flat t fun d m => g d (List.mem_cons_of_mem _ m)]
    rcases g _ List.mem_cons_self with ⟨n, rfl⟩ | ⟨x, rfl⟩ <;> cases h <;> rfl
theorem flat_dt {ex : List Addr} {H : Hp} : ∀ {ds : List PyData}, (∀ d ∈ ds, Flat d) → DtAll ex H ((ds.map pdKey).map kV) ds
  | [], _ => .nil
  | d :: ds, g => by
    refine .cons ?_ (flat_dt fun d m => g d (List.mem_cons_of_mem _ m))
    rcases g d List.mem_cons_self with ⟨n, rfl⟩ | ⟨x, rfl⟩
    · exact .int n
    · exact .str x
theorem keyL_tup {H : Hp} {p : Addr} {q : SK} (hk : KS q.1 q.2) (h : Dt [] H (.ref p) (.tuple (pdS q))) : H p = some (.tup ((keyL q).map kV)) := by
  obtain ⟨p', xs, ep, _, et, al⟩ := h.tuple
  cases ep
  rw [et, dt_flat al fun d m => by
    rcases List.mem_cons.mp m with rfl | m
    · exact .inl ⟨_, rfl⟩
    · exact hk.flat d m]
  rfl
theorem keyL_dt {ex : List Addr} {H : Hp} {p : Addr} {q : SK} (hk : KS q.1 q.2) (n : p ∉ ex) (h : H p = some (.tup ((keyL q).map kV))) : Dt ex H (.ref p) (.tuple (pdS q)) :=
  .tup n h (flat_dt (ds := pdS q) fun d m => by
    rcases List.mem_cons.mp m with rfl | m
    · exact .inl ⟨_, rfl⟩
    · exact hk.flat d m)
theorem pdKey_inj {d e : PyData} (hd : Flat d) (he : Flat e) (h : pdKey d = pdKey e) : d = e := by
  rcases hd with ⟨n, rfl⟩ | ⟨x, rfl⟩ <;> rcases he with ⟨m, rfl⟩ | ⟨y, rfl⟩
  · exact congrArg PyData.int (Sum.inl.inj h)
  · cases h
  · cases h
  · exact congrArg PyData.str (Sum.inr.inj h)
theorem pdKeys_inj : ∀ {l m : List PyData}, (∀ d ∈ l, Flat d) → (∀ d ∈ m, Flat d) → l.map pdKey = m.map pdKey → l = m
  | [], [], _, _, _ => rfl
  | [], _ :: _, _, _, h => by cases h
  | _ :: _, [], _, _, h => by cases h
  | d :: l, e :: m, hl, hm, h => by
    have h1 := (List.cons.inj h).1
    have h2 := (List.cons.inj h).2
    rw [pdKey_inj (hl d List.mem_cons_self) (hm e List.mem_cons_self) h1, pdKeys_inj (fun d m => hl d (List.mem_cons_of_mem _ m)) (fun d k => hm d (List.mem_cons_of_mem _ k)) h2]
theorem keyL_inj {q r : SK} (hq : KS q.1 q.2) (hr : KS r.1 r.2) (h : keyL q = keyL r) : q = r := by
  obtain ⟨k, ds⟩ := q
  obtain ⟨j, es⟩ := r
  have h1 : ((k : Nat) : Int) = (j : Int) := Sum.inl.inj (List.cons.inj h).1
  have h1 : k = j := by omega
  have h2 := pdKeys_inj hq.flat hr.flat (List.cons.inj h).2
  rw [h1]
  exact congrArg _ h2
theorem keyL_good {q : SK} (hk : KS q.1 q.2) : goodK (keyL q) = true := by
  obtain ⟨k, ds⟩ := q
  have hk : KS k ds := hk
  cases hk <;> rfl
/-- sorted by key -/
def srtQ (l : List SK) : List SK := l.mergeSort (mxLe keyL)
theorem srtQ_perm (l : List SK) : (srtQ l).Perm l := List.mergeSort_perm _ _
theorem srtQ_keys (l : List SK) : (srtQ l).map keyL = srtK (l.map keyL) := srtK_maps keyL l
theorem tkOf_inj {a b : Key} (h : tkOf a = tkOf b) : a = b := by
  cases a <;> cases b
  · exact congrArg Sum.inl (Sum.inl.inj h)
  · cases h
  · cases h
  · exact congrArg Sum.inr (PySem.W.str_of_cps (Sum.inr.inj h))
theorem toks_inj : ∀ {k l : List Key}, toks k = toks l → k = l
  | [], [], _ => rfl
  | [], _ :: _, h => by cases h
  | _ :: _, [], h => by cases h
  | a :: k, b :: l, h => by rw [tkOf_inj (List.cons.inj h).1, toks_inj (List.cons.inj h).2]
theorem mxLe_anti {q r : SK} (hq : KS q.1 q.2) (hr : KS r.1 r.2) (h1 : mxLe keyL q r = true) (h2 : mxLe keyL r q = true) : q = r := by
  have h1' : (!PyProof.Rows.lexLt PyProof.Rows.itemOrd (toks (keyL r)) (toks (keyL q))) = true := h1
  have h2' : (!PyProof.Rows.lexLt PyProof.Rows.itemOrd (toks (keyL q)) (toks (keyL r))) = true := h2
  exact keyL_inj hq hr (toks_inj (PyProof.Rows.lex_total _ _ (by simpa using h2') (by simpa using h1')))
theorem srtQ_pw (l : List SK) : (srtQ l).Pairwise fun a b => mxLe keyL a b = true :=
  PySem.W.sort_pairwise (PySem.W.sortLe_total (PyProof.Rows.listOrd PyProof.Rows.itemOrd) false fun q : SK => toks (keyL q)) l
theorem srtQ_of_perm {l l' : List SK} (hp : l.Perm l') (hk : ∀ q ∈ l, KS q.1 q.2) : srtQ l = srtQ l' := by
  refine List.Perm.eq_of_pairwise (le := fun a b => mxLe keyL a b = true) (fun a b ha hb h1 h2 => ?_) (srtQ_pw l) (srtQ_pw l') ((srtQ_perm l).trans (hp.trans (srtQ_perm l').symm))
  exact mxLe_anti (hk a ((srtQ_perm l).mem_iff.mp ha)) (hk b (hp.mem_iff.mpr ((srtQ_perm l').mem_iff.mp hb))) h1 h2
/-- each once, where it came first -/
def insQ (acc : List SK) (q : SK) : List SK := if (acc.any fun r => decide (keyL r = keyL q)) = true then acc else acc ++ [q]
theorem any_key {β : Type} {f : β → List Key} {k : List Key} {l : List β} : (l.any fun r => decide (f r = k)) = true ↔ k ∈ l.map f := by
  rw [List.any_eq_true]
  constructor
  · rintro ⟨q, hq, e⟩
    exact List.mem_map.mpr ⟨q, hq, of_decide_eq_true e⟩
  · intro h
    obtain ⟨q, hq, e⟩ := List.mem_map.mp h
    exact ⟨q, hq, decide_eq_true e⟩
def uniqQ (l : List SK) : List SK := l.foldl insQ []
theorem uniqQ_snoc (l : List SK) (q : SK) : uniqQ (l ++ [q]) = insQ (uniqQ l) q := by
  unfold uniqQ
  rw [List.foldl_append]
  rfl
theorem insQ_sub {acc : List SK} {q x : SK} (h : x ∈ insQ acc q) : x ∈ acc ∨ x = q := by
  unfold insQ at h
  split at h
  · exact .inl h
  · rcases List.mem_append.mp h with h | h
    · exact .inl h
    · exact .inr (List.mem_singleton.mp h)
theorem foldQ_sub : ∀ {l acc : List SK} {x : SK}, x ∈ l.foldl insQ acc → x ∈ acc ∨ x ∈ l
  | [], _, _, h => .inl h
  | q :: l, acc, x, h => by
    rcases foldQ_sub (l := l) h with h | h
    · rcases insQ_sub h with h | rfl
      · exact .inl h
      · exact .inr List.mem_cons_self
    · exact .inr (List.mem_cons_of_mem _ h)
theorem uniqQ_sub {l : List SK} {x : SK} (h : x ∈ uniqQ l) : x ∈ l := by
  rcases foldQ_sub h with h | h
  · cases h
  · exact h
theorem foldQ_len : ∀ {l acc : List SK}, (l.foldl insQ acc).length ≤ acc.length + l.length
  | [], _ => Nat.le_refl _
  | q :: l, acc => by
    have h := foldQ_len (l := l) (acc := insQ acc q)
    have h2 : (insQ acc q).length ≤ acc.length + 1 := by
      unfold insQ
      split
      · omega
      · rw [List.length_append]
        exact Nat.le_refl _
    show (l.foldl insQ (insQ acc q)).length ≤ _
    rw [List.length_cons]
    omega
theorem uniqQ_len (l : List SK) : (uniqQ l).length ≤ l.length := by
  have := foldQ_len (l := l) (acc := [])
  rw [List.length_nil] at this
  show (l.foldl insQ []).length ≤ _
  omega
theorem foldQ_nodup : ∀ {l acc : List SK}, ((acc ++ l).map keyL).Nodup → l.foldl insQ acc = acc ++ l
  | [], acc, _ => (List.append_nil acc).symm
  | q :: l, acc, h => by
    have hq : keyL q ∉ acc.map keyL := fun m => by
      rw [List.map_append, List.nodup_append] at h
      exact h.2.2 _ m _ (List.mem_map.mpr ⟨q, List.mem_cons_self, rfl⟩) rfl
    have e : insQ acc q = acc ++ [q] := by
      unfold insQ
      rw [if_neg (fun h => hq (any_key.mp h))]
    show l.foldl insQ (insQ acc q) = _
    rw [e, foldQ_nodup (by rw [List.append_assoc]; exact h), List.append_assoc]
    rfl
theorem uniqQ_nodup {l : List SK} (h : (l.map keyL).Nodup) : uniqQ l = l := foldQ_nodup (acc := []) h
/-- a pair put into a dict -/
theorem putK_keys {kvs : List (List Key × V)} {k : List Key} {v : V} : (putK kvs k v).map Prod.fst = if (kvs.any fun kv => decide (kv.1 = k)) = true then kvs.map Prod.fst else kvs.map Prod.fst ++ [k] := by
  unfold putK
  by_cases c : (kvs.any fun kv => decide (kv.1 = k)) = true
  · rw [if_pos c, if_pos c, List.map_map]
    refine List.map_congr_left fun q _ => ?_
    show (if q.1 = k then (q.1, v) else q).1 = q.1
    split <;> rfl
  · rw [if_neg c, if_neg c, List.map_append]
    rfl
theorem put_uniq {kvs : List (List Key × V)} {l : List SK} {q : SK} {v : V} (h : kvs.map Prod.fst = (uniqQ l).map keyL) : (putK kvs (keyL q) v).map Prod.fst = (uniqQ (l ++ [q])).map keyL := by
  rw [putK_keys, uniqQ_snoc]
  unfold insQ
  by_cases c : keyL q ∈ kvs.map Prod.fst
  · rw [if_pos (any_key (f := Prod.fst).mpr c), if_pos (any_key.mpr (h ▸ c)), h]
  · rw [if_neg (fun z => c (any_key (f := Prod.fst).mp z)), if_neg (fun z => c (h ▸ any_key.mp z)), h, List.map_append]
    rfl

section
open NdefX
variable {P : Program} {w : World} {K : PySem.W.Frag} {mg : Str → Option Value} {base : Heap}
variable {C_Swap : Addr} {C_Leave : Addr} {C_Double : Addr} {C_Names : Addr} {C_Drop : Addr} {C_Slips : Addr} {C_BadSlip : Addr} {C_Slip : Addr} {G_SLIP_WORDS : Addr}
local macro_rules | `(tactic| walk_at "s") => `(tactic| (first
  | (with_reducible refine r_seq ?_)
  | (with_reducible refine r_asg ?_)
  | ((with_reducible refine' r_var (v := ?v) ?hv ?_); (case hv => exact rfl))
  | (with_reducible refine r_c ?_)
  | (with_reducible refine r_name ?_)
  | (with_reducible refine r_op ?_)
  | (with_reducible refine r_un ?_)
  | (with_reducible refine r_consA ?_)
  | (with_reducible refine r_nilA ?_)
  | (with_reducible refine r_I0 ?_)
  | (with_reducible refine r_U ?_)
  | (with_reducible refine r_eqI ?_)
  | (with_reducible refine r_neI ?_)
  | (with_reducible refine r_test ?_)
  | (with_reducible refine r_tB ?_)
  | (with_reducible refine r_kB ?_)
  | (with_reducible refine r_ifS ?_)
  | (with_reducible refine r_if ?_)
  | (with_reducible refine r_and ?_)
  | (with_reducible refine r_or ?_)
  | (with_reducible refine r_not ?_)
  | (with_reducible refine r_ret ?_)
  | (with_reducible refine r_retN ?_)
  | (with_reducible refine r_next ?_)
  | (with_reducible refine r_drop ?_)
  | (with_reducible refine r_brk ?_)
  | (with_reducible refine r_cont ?_)
  | (with_reducible refine r_andV ?_)
  | (with_reducible refine r_orV ?_)
  | (with_reducible refine r_notV ?_)
  | (with_reducible refine r_kNotV ?_)
  | (with_reducible refine r_lst ?_)
  | (with_reducible refine r_tup ?_)
  | (with_reducible refine r_dget ?_)
  | (with_reducible refine r_dput ?_)
  | (with_reducible refine r_use ?_)
  | (with_reducible refine r_cb ?_)
  | (with_reducible refine r_par ?_)
  | (with_reducible refine r_int ?_)
  | (with_reducible refine r_abs ?_)
  | (with_reducible refine r_max2 ?_)
  | (with_reducible refine r_min2 ?_)
  | (with_reducible refine r_pnil ?_)
  | (with_reducible refine r_pcons ?_)
  | (with_reducible refine r_eqS ?_)
  | (with_reducible refine r_neS ?_)
  | (with_reducible refine r_for ?_)
  | (with_reducible refine r_rng1 ?_)
  | (with_reducible refine r_rng2 ?_)
  | (with_reducible refine r_wl ?_)
  | (with_reducible refine r_wt ?_)
  | (with_reducible refine r_wq ?_)
  | (with_reducible refine r_ws ?_)
  | (with_reducible refine r_cWS ?_)
  | (with_reducible refine r_enum ?_)
  | (with_reducible refine r_zip ?_)
  | (with_reducible refine r_lc ?_)
  | (with_reducible refine r_dc ?_)
  | ((with_reducible refine r_kTurn ?ht ?_); (case ht => rfl))
  | ((with_reducible refine r_kTurnD ?ht ?_); (case ht => rfl))
  | (with_reducible refine r_yes ?_)
  | ((with_reducible refine r_kKeep1 ?hk ?_); (case hk => rfl))
  | ((with_reducible refine r_kKeepD1 ?hk ?_); (case hk => rfl))
  | (with_reducible refine r_gcons ?_)
  | (with_reducible refine r_gnil ?_)
  | (with_reducible refine r_bm ?_)
  | (with_reducible refine r_bm0 ?_)
  | (with_reducible refine r_fld ?_)
  | (with_reducible refine r_sfld ?_)
  | (with_reducible refine r_methR ?_)
  | (with_reducible refine r_makeR ?_)
  | (with_reducible refine r_chain ?_)))
local macro_rules | `(tactic| walk_at "S") => `(tactic| repeat walk_at "s")
local macro_rules | `(tactic| walk_at "D") => `(tactic| repeat' (first
  | exact AD_nil
  | refine AD_cons ?_ (fun _ _ => ?_)
  | refine ED_tup ?_ (Nat.le_trans (m := 100) (Nat.le_of_ble_eq_true rfl) (by decide))
  | refine ED_lst ?_ (Nat.le_trans (m := 100) (Nat.le_of_ble_eq_true rfl) (by decide))
  | exact ED_c (by constructor)
  | exact ED_var rfl (by constructor)))
local macro_rules | `(tactic| walk_at "N") => `(tactic| repeat' (first
  | exact AN_nil
  | refine AN_cons ?_ (fun _ _ => ?_)
  | refine EN_tup ?_ (Nat.le_trans (m := 100) (Nat.le_of_ble_eq_true rfl) (by decide))
  | refine EN_lst ?_ (Nat.le_trans (m := 100) (Nat.le_of_ble_eq_true rfl) (by decide))
  | exact EN_c (fun _ => by constructor)
  | exact EN_var rfl (fun _ => by constructor)))

local macro_rules | `(tactic| walk_at "s") => `(tactic| (first
  | (with_reducible refine r_sl ?_)
  | (with_reducible refine r_kS1 ?_)
  | (with_reducible refine r_kS2 ?_)
  | (with_reducible refine r_kS3 ?_)
  | (with_reducible refine r_noPart ?_)
  | (with_reducible refine r_part ?_)
  | (with_reducible refine r_kPart ?_)
  | (with_reducible refine r_gsub ?_)
  | (with_reducible refine r_m1 ?_)
  | (with_reducible refine r_kM1 ?_)
  | (with_reducible refine r_propF ?_)
  | (with_reducible refine r_drp ?_)
  | (with_reducible refine r_min2S ?_)
  | (with_reducible refine r_max2S ?_)
  | (with_reducible refine r_enumS ?_)
  | (with_reducible refine r_cEnumS ?_)
  | (with_reducible refine r_makeKS ?_)
  | (with_reducible refine r_makeS ?_)))

local macro_rules | `(tactic| walk_at "s") => `(tactic| (first
  | (with_reducible refine r_mkV ?_)
  | (with_reducible refine r_ofl ?_)
  | (with_reducible refine r_methF ?_)
  | (with_reducible refine r_callF ?_)
  | (with_reducible refine r_star ?_)
  | (with_reducible refine r_smeth ?_)
  | (with_reducible refine r_kSMeth ?_)))

local macro_rules | `(tactic| walk_at "s") => `(tactic| (first
  | (with_reducible refine r_dcT ?_)
  | ((with_reducible refine r_kTurnT ?ht ?_); (case ht => rfl))
  | ((with_reducible refine r_kKeepT1 ?hk ?_); (case hk => rfl))
  | (with_reducible refine r_own ?_)
  | (with_reducible refine r_cmeth ?_)
  | (with_reducible refine r_kCMeth ?_)
  | (with_reducible refine r_makeS1 ?_)
  | ((with_reducible refine r_makeV ?hv ?_); (case hv => rfl))
  | (with_reducible refine r_isBl ?_)
  | (with_reducible refine r_ltS ?_)
  | (with_reducible refine r_lr1 ?_)
  | (with_reducible refine r_lc2 ?_)
  | ((with_reducible refine r_kTurn2 ?ht ?_); (case ht => rfl))
  | ((with_reducible refine r_kKeep2 ?hk ?_); (case hk => rfl))))

local macro_rules | `(tactic| walk_at "s") => `(tactic| (first
  | (with_reducible refine r_tTruOwn ?_)
  | (with_reducible refine r_notOwn ?_)
  | (with_reducible refine r_par3 ?_)))

/-! ### sets of slips -/
/-- slips at addresses -/
def SlipsL (CS : List Addr) (H : Hp) (ads : List Addr) (qs : List SK) : Prop := Paired (fun b q => SlipAt CS H b (pdS q) ∧ KS q.1 q.2) ads qs
theorem SlipsL.kp {CS : List Addr} {H H' : Hp} {ads : List Addr} {qs : List SK} (h : SlipsL CS H ads qs) (k : Kp [] H H') : SlipsL CS H' ads qs := Paired.mapP h fun _ _ z => ⟨z.1.kp k, z.2⟩
theorem SlipsL.len {CS : List Addr} {H : Hp} {ads : List Addr} {qs : List SK} (h : SlipsL CS H ads qs) : ads.length = qs.length := Paired.length h
theorem SlipsL.at {CS : List Addr} {H : Hp} {ads : List Addr} {qs : List SK} {i : Nat} {b : Addr} (h : SlipsL CS H ads qs) (e : ads[i]? = some b) : ∃ q, qs[i]? = some q ∧ SlipAt CS H b (pdS q) ∧ KS q.1 q.2 := LiI.paired_get h e
theorem SlipsL.ks {CS : List Addr} {H : Hp} : ∀ {ads : List Addr} {qs : List SK}, SlipsL CS H ads qs → ∀ q ∈ qs, KS q.1 q.2
  | _, _, .nil, q, m => nomatch m
  | _, _, .cons h t, q, m => by
    rcases List.mem_cons.mp m with rfl | m
    · exact h.2
    · exact SlipsL.ks t q m
/-- a set of slips -/
def SetAt (C : Addr) (CS : List Addr) (H : Hp) (a : Addr) (qs : List SK) : Prop := ∃ dx l ads, H a = some (.ins C dx [("kept", .ref l)]) ∧ H l = some (.lst (ads.map V.ref)) ∧ SlipsL CS H ads qs
theorem SetAt.kp {C : Addr} {CS : List Addr} {H H' : Hp} {a : Addr} {qs : List SK} (h : SetAt C CS H a qs) (k : Kp [] H H') : SetAt C CS H' a qs := by
  obtain ⟨dx, l, ads, e1, e2, e3⟩ := h
  exact ⟨dx, l, ads, k _ _ e1 not_nil, k _ _ e2 not_nil, e3.kp k⟩
def spb_Slips___init__ (C : Addr) (CS : List Addr) : Sp := fun vs H Q _ => ∃ (a dx p : Addr) (ads : List Addr) (qs : List SK), vs = [.ref a, .ref p] ∧ H a = some (.ins C dx []) ∧ H p = some (.tup (ads.map V.ref)) ∧ SlipsL CS H ads qs ∧ qs.length ≤ 1000 ∧
  ∀ H', Kp [a] H H' → SetAt C CS H' a (srtQ (uniqQ qs)) → Q .non H'
def sp_Slips___init__ (C : Addr) (CS : List Addr) : Sp := fun vs H Q _ => ∃ (a dx : Addr) (ads : List Addr) (qs : List SK), vs = .ref a :: ads.map V.ref ∧ H a = some (.ins C dx []) ∧ SlipsL CS H ads qs ∧ qs.length ≤ 1000 ∧
  ∀ H', Kp [a] H H' → SetAt C CS H' a (srtQ (uniqQ qs)) → Q .non H'
theorem ins_not_tup {H : Hp} {a p C dx : Addr} {fs : List (Str × V)} {xs : List V} (e : H a = some (.ins C dx fs)) (e' : H p = some (.tup xs)) : p ≠ a := fun z => by
  rw [z, e] at e'
  cases e'
theorem SlipAt.by {CS : List Addr} {H H' : Hp} {a b C dx : Addr} {ds : List PyData} (h : SlipAt CS H b ds) (ea : H a = some (.ins C dx [])) (k : Kp [a] H H') : SlipAt CS H' b ds := by
  obtain ⟨C0, dx0, p, hF, eb, hd⟩ := h
  have ba : b ≠ a := fun z => by
    rw [z, ea] at eb
    cases eb
  exact ⟨C0, dx0, p, hF, k _ _ eb (not_one ba), ((Dt.skip' ea (fun _ z => nomatch z) (fun _ z => nomatch z) _ _ hd).mono k).less fun _ m => nomatch m⟩
theorem SlipsL.by {CS : List Addr} {H H' : Hp} {a C dx : Addr} {ads : List Addr} {qs : List SK} (h : SlipsL CS H ads qs) (ea : H a = some (.ins C dx [])) (k : Kp [a] H H') : SlipsL CS H' ads qs := Paired.mapP h fun _ _ z => ⟨z.1.by ea k, z.2⟩
theorem SlipAt.lst {CS : List Addr} {H H' : Hp} {D b : Addr} {acc : List V} {q : SK} (h : SlipAt CS H b (pdS q)) (hk : KS q.1 q.2) (e : H D = some (.lst acc)) (k : Kp [D] H H') : SlipAt CS H' b (pdS q) := by
  obtain ⟨C0, dx0, p, hF, eb, hd⟩ := h
  have bD : b ≠ D := fun z => by
    rw [z, e] at eb
    cases eb
  have et := keyL_tup hk hd
  have pD : p ≠ D := fun z => by
    rw [z, e] at et
    cases et
  exact ⟨C0, dx0, p, hF, k _ _ eb (not_one bD), keyL_dt hk not_nil (k _ _ et (not_one pD))⟩
theorem SlipsL.lst {CS : List Addr} {H H' : Hp} {D : Addr} {acc : List V} {ads : List Addr} {qs : List SK} (h : SlipsL CS H ads qs) (e : H D = some (.lst acc)) (k : Kp [D] H H') : SlipsL CS H' ads qs := Paired.mapP h fun _ _ z => ⟨z.1.lst z.2 e k, z.2⟩
abbrev s_Slips___init__ : Stmt := inClass (top 24) 0
theorem sc_Slips___init__ : FnScope ["self", "slips", "slip", "by_key", "key"] ["self", "slips"] (defScope s_Slips___init__) :=
  ⟨rfl, rfl, rfl, by decide +kernel, rfl, by decide +kernel, by decide +kernel⟩
theorem ok_Slips___init__ {f : Addr} {fd : FuncData} (F : Fun K "__init__" "Slips.__init__" s_Slips___init__ f fd) (T : Txt K mg C_Swap C_Leave C_Double C_Names C_Drop C_Slips C_BadSlip C_Slip G_SLIP_WORDS) (U_Slip_key : UseP P w K mg base 2 (FamS [C_Swap, C_Leave, C_Double, C_Names, C_Drop]) "key" ["self"] (sp_Slip_key [C_Swap, C_Leave, C_Double, C_Names, C_Drop])) :
    FnR P w K mg base CX0 4 f (sp_Slips___init__ C_Slips [C_Swap, C_Leave, C_Double, C_Names, C_Drop]) := by
  obtain ⟨oc, od, kV, doc, pm, an, cdv, ct, osl, rfl, lk, hcd⟩ := F.ex
  refine FnR.imp (fn_star (ps := ["self"]) (pv := "slips") lk hcd sc_Slips___init__ cxUp_none (bind_star1 (B := fun us => bindArgs (PySem.W.fnOf "__init__" "Slips.__init__" (defArgs s_Slips___init__) (defBody s_Slips___init__) (defScope s_Slips___init__) .none kV doc pm an cdv ct) ⟨us, []⟩) (fun _ => rfl) (fun _ _ _ => rfl)) (sp := spb_Slips___init__ C_Slips [C_Swap, C_Leave, C_Double, C_Names, C_Drop]) (fun A outer s H vs Q E hr h => ?_)) (fun vs H Q E h => ?_)
  · obtain ⟨a, dx, p, ads, qs, rfl, ha, hp, hs, hl, q⟩ := h
    obtain ⟨p_Slip_key, g_Slip_key, fd_Slip_key, F_Slip_key, B_Slip_key, C_Slip_key⟩ := U_Slip_key
    have hu := hu_of hr
    have hu64 := hr.units
    refine ⟨_, (pss_cons (ps_set (i := 3) sc_Slips___init__.nd rfl (by first | exact Or.inl rfl | exact Or.inr rfl) (pe_dcT (own := [("slip", 2)]) hu (by rfl) sc_Slips___init__.nd (K_pit (K := K) rfl (pv 1)) (blkOk_by (own := [("slip", 2)]) (N := ["self", "slips", "slip", "by_key", "key"]) (sc := defScope s_Slips___init__) (by decide +kernel)) (fun _ _ _ _ _ => (pg_name (i := 2) sc_Slips___init__.nd rfl (by first | exact Or.inl rfl | exact Or.inr rfl))) (fun _ _ _ _ _ => pts_nil) (fun _ _ _ _ _ => (pe_propF (S := (FamS [C_Swap, C_Leave, C_Double, C_Names, C_Drop])) (pv 2) C_Slip_key F_Slip_key (hr.mono (by first | decide | omega)) B_Slip_key rfl)) (fun _ _ _ _ _ => (pv 2))))
        (pss_one (ps_fld (pv 0) (pe_lc (own := [("key", 4)]) (by rfl) sc_Slips___init__.nd (K_pil (K := K) rfl (pe_callB (cr_sortMD rfl) (by rfl) T.z_sorted (by decide +kernel) (pa_cons (pv 3) pa_nil))) (blkOk_by (own := [("key", 4)]) (N := ["self", "slips", "slip", "by_key", "key"]) (sc := defScope s_Slips___init__) (by decide +kernel)) (fun _ _ _ _ _ => (pg_name (i := 4) sc_Slips___init__.nd rfl (by first | exact Or.inl rfl | exact Or.inr rfl))) (fun _ _ _ _ _ => pts_nil) (fun _ _ _ _ _ => (pe_dget hu (pv 3) (pv 4) (fun _ _ => rfl)))) rfl))), ?_⟩
    have hC := T.c_Slips
    have hlen : (ads.map V.ref).length = qs.length := by rw [List.length_map, hs.len]
    walk_at "S"
    refine r_cWT (SqT.of hp) ?_
    refine r_kDcTT (fun D i acc H' => Kp [] H H' ∧ acc.map Prod.fst = (uniqQ (qs.take i)).map keyL ∧ ∀ q ∈ qs.take i, ∃ b, valV acc (keyL q) = some (.ref b) ∧ SlipAt [C_Swap, C_Leave, C_Double, C_Names, C_Drop] H b (pdS q)) (fun D H' nD k e => ⟨k, rfl, fun q m => nomatch m⟩) (fun D i acc H' _ h => SqT.of (h.1 _ _ hp not_nil)) ?_ ?_
    · rintro D i acc x H1 nD hx eD ⟨k1, hkeys, hv⟩
      obtain ⟨b, hb, rfl⟩ := map_at hx
      obtain ⟨q0, hq0, hsl, hks⟩ := hs.at hb
      walk_at "S"
      obtain ⟨C0, dx0, p0, hF, eb, hd0⟩ := id (hsl.kp k1)
      refine r_kPropF eb hF.fam ⟨b, _, rfl, hsl.kp k1, fun p1 hd1 => ?_⟩
      walk_at "S"
      have hacc : acc.length ≤ qs.length := by
        have h1 := congrArg List.length hkeys
        rw [List.length_map, List.length_map] at h1
        have h2 := uniqQ_len (qs.take i)
        rw [List.length_take] at h2
        omega
      refine r_kPutT eD (keyL_tup hks hd1) (by
        have : 2000 ≤ sizeLine := by decide
        omega) fun H2 k2 e2 => ⟨k1.step nD k2, ?_, ?_⟩
      · rw [take_more hq0]
        exact put_uniq hkeys
      · intro q m
        rw [take_more hq0] at m
        rw [valV_put]
        by_cases c : keyL q = keyL q0
        · refine ⟨b, if_pos c, ?_⟩
          have hq : KS q.1 q.2 := by
            rcases List.mem_append.mp m with m | m
            · exact hs.ks q (List.mem_of_mem_take m)
            · rw [List.mem_singleton.mp m]
              exact hks
          rw [keyL_inj hq hks c]
          exact hsl
        · rw [if_neg c]
          rcases List.mem_append.mp m with m | m
          · exact hv q m
          · exact absurd (congrArg keyL (List.mem_singleton.mp m)) c
    rintro D acc H1 nD eD ⟨k1, hkeys, hv⟩
    rw [hlen, List.take_length] at hkeys hv
    have hks := hs.ks
    walk_at "S"
    refine r_sortMD eD (fun q0 m => ?_) fun l H2 ts nl k2 el pr => ?_
    · have : q0.1 ∈ (uniqQ qs).map keyL := hkeys ▸ List.mem_map.mpr ⟨q0, m, rfl⟩
      obtain ⟨r, hr, e⟩ := List.mem_map.mp this
      rw [← e]
      exact keyL_good (hks r (uniqQ_sub hr))
    rw [hkeys, ← srtQ_keys] at pr
    have hsq : ∀ r ∈ srtQ (uniqQ qs), r ∈ qs := fun r m => uniqQ_sub ((srtQ_perm _).mem_iff.mp m)
    have htl : ts.length = (srtQ (uniqQ qs)).length := by rw [Paired.length pr, List.length_map]
    have hql : (srtQ (uniqQ qs)).length ≤ qs.length := by
      rw [(srtQ_perm _).length_eq]
      exact uniqQ_len qs
    generalize hR : srtQ (uniqQ qs) = rs at pr hsq htl hql q
    refine r_cWL (SqL.of el) ?_
    refine r_kLcL (fun D2 j acc2 H' => Kp [] H2 H' ∧ ∃ as, acc2 = as.map V.ref ∧ SlipsL [C_Swap, C_Leave, C_Double, C_Names, C_Drop] H as (rs.take j)) (fun D2 H' nD2 k e => ⟨k, [], rfl, .nil⟩) (fun D2 j acc2 H' _ h => SqL.of (h.1 _ _ el not_nil)) ?_ ?_
    · rintro D2 j acc2 x H3 nD2 hx eD2 ⟨k3, as, rfl, has⟩
      obtain ⟨t, ht, rfl⟩ := map_at hx
      obtain ⟨kk, hkk, et⟩ := LiI.paired_get pr ht
      obtain ⟨r, hr, rfl⟩ := map_at hkk
      obtain ⟨b, hb, hsb⟩ := hv r (hsq r (mem_at hr))
      have hj := lt_at hr
      walk_at "S"
      refine r_kDGT ((k2.trans k3) _ _ eD not_nil) ((k2.trans k3) _ _ et not_nil) hb ?_
      refine r_kApp eD2 (by
        rw [List.length_map, has.len, List.length_take]
        have : 2000 ≤ sizeLine := by decide
        omega) fun H4 k4 e4 => ⟨k3.step nD2 k4, as ++ [b], by rw [List.map_append]; rfl, ?_⟩
      rw [take_more hr]
      exact Paired.snoc has ⟨hsb, hks r (hsq r (mem_at hr))⟩
    rintro D2 acc2 H3 nD2 eD2 ⟨k3, as, rfl, has⟩
    rw [List.length_map, htl, List.take_length] at has
    have k03 := k1.trans (k2.trans k3)
    walk_at "S"
    refine r_kSF (k03 _ _ ha not_nil) hC T.na_Slips_kept (by decide : 0 < 1000) fun H4 k4 e4 => ?_
    walk_at "S"
    have nD0 : D2 ≠ a := ne_none (k2 _ _ (k1 _ _ ha not_nil) not_nil) nD2
    exact q H4 (k03.nil.trans k4) ⟨_, D2, as, e4, k4 _ _ eD2 (not_one nD0), (has.kp k03).by (k03 _ _ ha not_nil) k4⟩
  · obtain ⟨a, dx, ads, qs, rfl, ha, hs, hl, q⟩ := h
    refine ⟨[.ref a], ads.map V.ref, rfl, rfl, by rw [List.length_map, hs.len]; exact Nat.le_trans hl (by decide), fun p np => ⟨a, dx, p, ads, qs, rfl, (Kp.new (ex := []) np) _ _ ha not_nil, upd_same, hs.kp (Kp.new np), hl, fun H' k h => q H' ((Kp.new np).trans k) h⟩⟩
/-- iter(..): a young iterator over the list -/
def sp_Slips___iter__ (C : Addr) (N : Nat) : Sp := fun vs H Q _ => ∃ (a dx l : Addr) (xs : List V), vs = [.ref a] ∧ H a = some (.ins C dx [("kept", .ref l)]) ∧ SqL K H l xs ∧ ∀ it, H it = none → N ≤ it → Q (.ref it) (upd H it (ItO l it 0))
abbrev s_Slips___iter__ : Stmt := inClass (top 24) 2
theorem sc_Slips___iter__ : FnScope ["self"] ["self"] (defScope s_Slips___iter__) :=
  ⟨rfl, rfl, rfl, by decide +kernel, rfl, by decide +kernel, by decide +kernel⟩
theorem ok_Slips___iter__ {f : Addr} {fd : FuncData} (F : Fun K "__iter__" "Slips.__iter__" s_Slips___iter__ f fd) (T : Txt K mg C_Swap C_Leave C_Double C_Names C_Drop C_Slips C_BadSlip C_Slip G_SLIP_WORDS) :
    FnOk P w K mg base CX0 2 f fd ["self"] (sp_Slips___iter__ (K := K) C_Slips base.objs.size) := by
  refine F.ok sc_Slips___iter__ (fun vs H Q E h => ?_) (fun cdv A outer s H vs Q E hr h => ?_)
  · obtain ⟨a, dx, l, xs, rfl, _⟩ := h
    rfl
  · obtain ⟨a, dx, l, xs, rfl, ha, hl, q⟩ := h
    have hu := hu_of hr
    have hu64 := hr.units
    refine ⟨_, (pss_one (ps_ret (pe_callB (K_iterB (K := K) (base := base) rfl rfl) (by rfl) T.z_iter (by decide +kernel) (pa_cons (K_fld (K := K) rfl (pv 0) rfl) pa_nil)))), ?_⟩
    have hC := T.c_Slips
    walk_at "S"
    refine r_kFld ha hC T.na_Slips_kept rfl ?_
    walk_at "S"
    refine r_iterB hl fun it n1 n2 => ?_
    walk_at "S"
    exact q it n1 n2
/-- what is iterated over -/
theorem r_over {R : It → Hp → Prop} {C a : Addr} {CS : List Addr} {H : Hp} {qs : List SK} {N : Nat} (h : SetAt C CS H a qs) (q : ∀ (l : Addr) (ads : List Addr), H l = some (.lst (ads.map V.ref)) → SlipsL CS H ads qs → R (Itl K l) H) : kOwn K C (sp_Slips___iter__ (K := K) C N) N R (.ref a) H := by
  obtain ⟨dx, l, ads, e1, e2, e3⟩ := h
  exact r_kOwn e1 ⟨a, dx, l, _, rfl, e1, SqL.of e2, fun it n1 n2 => ⟨it, rfl, n1, n2, rfl, q l ads e2 e3⟩⟩

/-! ### any things in a drawn order -/
def sp__law_mixed : Sp := fun vs H Q _ => ∃ (p a : Addr) (ws : List V), vs = [.ref p, .ref a] ∧ BagL H p ∧ SqL K H a ws ∧ ws.length ≤ 1000 ∧
  ∀ l H' (us : List V), us.Perm ws → H l = none → Kp [p] H H' → H' l = some (.lst us) → BagL H' p → Q (.ref l) H'
theorem perm_erase {α : Type} : ∀ (l : List α) (i : Nat) (h : i < l.length), (l[i] :: l.eraseIdx i).Perm l
  | [], _, h => absurd h (Nat.not_lt_zero _)
  | _ :: _, 0, _ => List.Perm.refl _
  | x :: l, i + 1, h => (List.Perm.swap x (l[i]'(Nat.lt_of_succ_lt_succ h)) (l.eraseIdx i)).trans ((perm_erase l i (Nat.lt_of_succ_lt_succ h)).cons x)
theorem perm_pop {α : Type} {us ls ws : List α} {i : Nat} {y : α} (h : (us ++ ls).Perm ws) (e : ls[i]? = some y) : ((us ++ [y]) ++ ls.eraseIdx i).Perm ws := by
  have hi := lt_at e
  have hy : ls[i] = y := by
    rw [List.getElem?_eq_getElem hi] at e
    exact Option.some.inj e
  have h1 : (y :: ls.eraseIdx i).Perm ls := by
    have := perm_erase ls i hi
    rw [hy] at this
    exact this
  rw [List.append_assoc]
  exact (List.Perm.append_left us h1).trans h
abbrev s__law_mixed : Stmt := top 29
theorem sc__law_mixed : FnScope ["_law_bag_here", "_law_things", "_law_left", "_law_found", "_law_turn"] ["_law_bag_here", "_law_things"] (defScope s__law_mixed) :=
  ⟨rfl, rfl, rfl, by decide +kernel, rfl, by decide +kernel, by decide +kernel⟩
theorem ok__law_mixed {f : Addr} {fd : FuncData} (F : Fun K "_law_mixed" "_law_mixed" s__law_mixed f fd) (T : Txt K mg C_Swap C_Leave C_Double C_Names C_Drop C_Slips C_BadSlip C_Slip G_SLIP_WORDS) (U__law_take : Use P w K mg base 2 "_law_take" ["_law_bag_here", "_law_many"] (sp__law_take K)) :
    FnOk P w K mg base CX0 4 f fd ["_law_bag_here", "_law_things"] (sp__law_mixed (K := K)) := by
  refine F.ok sc__law_mixed (fun vs H Q E h => ?_) (fun cdv A outer s H vs Q E hr h => ?_)
  · obtain ⟨p, a, ws, rfl, _⟩ := h
    rfl
  · obtain ⟨p, a, ws, rfl, hb, hS, hl, q⟩ := h
    have hu := hu_of hr
    have hu64 := hr.units
    refine ⟨_, (pss_cons (ps_par (i := 2) (j := 3) (by rfl) sc__law_mixed.nd rfl rfl (by decide) rfl rfl (pa_cons (pe_callTy (K_list (K := K) rfl) (by rfl) T.z_list (by decide +kernel) (pa_cons (pv 1) pa_nil)) (pa_cons (pe_lst pa_nil) pa_nil)) (by rfl))
        (pss_cons (ps_for PassesOwn.never (by rfl) (pi_range1 (by rfl) T.z_range (pa_cons (pe_callB (K_len (K := K) rfl) (by rfl) T.z_len (by decide +kernel) (pa_cons (pv 2) pa_nil)) pa_nil)) (pg_name (i := 4) sc__law_mixed.nd rfl (by first | exact Or.inl rfl | exact Or.inr rfl))
          (pss_one (ps_expr (K_bm (K := K) rfl PySem.F.plainAttrs_list PySem.F.slot_list_append PySem.F.type_list_append mt_append (pv 3) (pa_cons (K_bm (K := K) rfl PySem.F.plainAttrs_list PySem.F.slot_list_pop PySem.F.type_list_pop mt_popAt (pv 2) (pa_cons (pe_use U__law_take (hr.mono (by first | decide | omega)) (by rfl) (pa_cons (pv 0) (pa_cons (pe_callB (K_len (K := K) rfl) (by rfl) T.z_len (by decide +kernel) (pa_cons (pv 2) pa_nil)) pa_nil))) pa_nil)) pa_nil)))))
        (pss_one (ps_ret (pv 3))))), ?_⟩
    have big : 3000 ≤ sizeLine := by decide
    walk_at "S"
    refine r_listL hS fun L H1 nL k1 eL => ?_
    walk_at "S"
    refine r_kLst (xs := []) (Nat.zero_le _) fun F H2 nF k2 eF => ?_
    walk_at "S"
    refine ⟨_, _, rfl, ?_⟩
    walk_at "S"
    have eL2 := k2 _ _ eL not_nil
    refine r_lenL (SqL.of eL2) ?_
    walk_at "S"
    refine r_cRng1 (by omega) ?_
    have b2 := (hb.kp k1 not_nil).kp k2 not_nil
    obtain ⟨ob, hob⟩ := hb.some
    have Lp : L ≠ p := ne_none hob nL
    have Fp : F ≠ p := ne_none (k1 _ _ hob not_nil) nF
    have FL : F ≠ L := ne_none eL nF
    have FLn : H F = none := k1.free nF not_nil
    refine r_kForR (fun i σ' H' => ∃ (v4 : Option V) (ls us : List V), σ' = [some (.ref p), some (.ref a), some (.ref L), some (.ref F), v4] ∧ H' L = some (.lst ls) ∧ H' F = some (.lst us) ∧ (us ++ ls).Perm ws ∧ us.length = i ∧ Kp [p] H H' ∧ BagL H' p)
      ⟨none, ws, [], rfl, eL2, eF, List.Perm.refl _, rfl, (k1.trans k2).nil, b2⟩ ?_ ?_
    · rintro i σ' H3 hi ⟨v4, ls, us, rfl, e3L, e3F, hp, hu, k3, b3⟩
      have hlen : us.length + ls.length = ws.length := by
        rw [← List.length_append]
        exact hp.length_eq
      have hi : i < ws.length := by
        have : (ws.length : Int).toNat = ws.length := by omega
        omega
      walk_at "S"
      refine r_kBMl (SqL.of e3F) ?_
      walk_at "S"
      refine r_kBMl (SqL.of e3L) ?_
      walk_at "S"
      refine r_lenL (SqL.of e3L) ?_
      walk_at "S"
      refine ⟨p, _, rfl, b3, by omega, by omega, fun r H4 r0 r1 k4 b4 => ?_⟩
      have e4L := k4 _ _ e3L (not_one Lp)
      have hr : r.toNat < ls.length := by omega
      walk_at "S"
      refine r_popAt (y := ls[r.toNat]) e4L r0 (by omega) (by omega) (List.getElem?_eq_getElem hr) fun H5 k5 e5 => ?_
      walk_at "S"
      have e5F := k5 _ _ (k4 _ _ e3F (not_one Fp)) (not_one FL)
      refine r_append e5F (by omega) fun H6 k6 e6 => ?_
      walk_at "S"
      refine ⟨_, _, us ++ [ls[r.toNat]], rfl, k6 _ _ e5 (not_one FL.symm), e6, perm_pop hp (List.getElem?_eq_getElem hr), by rw [List.length_append, hu]; rfl, ((k3.trans k4).step nL k5).step FLn k6, (b4.kp k5 (not_one Lp.symm)).kp k6 (not_one Fp.symm)⟩
    · rintro σ' H3 ⟨v4, ls, us, rfl, e3L, e3F, hp, hu, k3, b3⟩
      have hlen : us.length + ls.length = ws.length := by
        rw [← List.length_append]
        exact hp.length_eq
      have : (ws.length : Int).toNat = ws.length := by omega
      have hls : ls = [] := List.eq_nil_of_length_eq_zero (by omega)
      subst hls
      rw [List.append_nil] at hp
      walk_at "S"
      exact q F H3 us hp FLn k3 e3F b3

end
/-! ### keys compared; how many slips there are -/
theorem eqv_flat : ∀ {ds es : List PyData}, (∀ d ∈ ds, Flat d) → (∀ d ∈ es, Flat d) → PyData.eqvAll ds es = decide (ds.map pdKey = es.map pdKey)
  | [], [], _, _ => rfl
  | [], _ :: _, _, _ => rfl
  | _ :: _, [], _, _ => rfl
  | d :: ds, e :: es, hd, he => by
    have ih := eqv_flat (ds := ds) (es := es) (fun x m => hd x (List.mem_cons_of_mem _ m)) (fun x m => he x (List.mem_cons_of_mem _ m))
    have h1 : PyData.eqv d e = decide (pdKey d = pdKey e) := by
      rcases hd d List.mem_cons_self with ⟨n, rfl⟩ | ⟨x, rfl⟩ <;> rcases he e List.mem_cons_self with ⟨m, rfl⟩ | ⟨y, rfl⟩
      · show (n == m) = decide ((Sum.inl n : Key) = Sum.inl m)
        by_cases c : n = m
        · subst c; simp
        · rw [decide_eq_false (fun z => c (Sum.inl.inj z))]
          exact beq_eq_false_iff_ne.mpr c
      · show false = decide ((Sum.inl n : Key) = Sum.inr y)
        rw [decide_eq_false (fun z => nomatch z)]
      · show false = decide ((Sum.inr x : Key) = Sum.inl m)
        rw [decide_eq_false (fun z => nomatch z)]
      · show (x == y) = decide ((Sum.inr x : Key) = Sum.inr y)
        by_cases c : x = y
        · subst c; simp
        · rw [decide_eq_false (fun z => c (Sum.inr.inj z))]
          exact beq_eq_false_iff_ne.mpr c
    show (PyData.eqv d e && PyData.eqvAll ds es) = _
    rw [ih, h1, List.map_cons, List.map_cons]
    by_cases c1 : pdKey d = pdKey e
    · by_cases c2 : ds.map pdKey = es.map pdKey
      · rw [decide_eq_true c1, decide_eq_true c2, decide_eq_true (by rw [c1, c2])]
        rfl
      · rw [decide_eq_false c2, Bool.and_false, decide_eq_false (fun z => c2 (List.cons.inj z).2)]
    · rw [decide_eq_false c1, Bool.false_and, decide_eq_false (fun z => c1 (List.cons.inj z).1)]
theorem pdS_keys (q : SK) : (pdS q).map pdKey = keyL q := rfl
theorem eqv_keys {q r : SK} (hq : KS q.1 q.2) (hr : KS r.1 r.2) : PyData.eqv (.tuple (pdS q)) (.tuple (pdS r)) = decide (keyL q = keyL r) := by
  have h : PyData.eqv (.tuple (pdS q)) (.tuple (pdS r)) = PyData.eqvAll (pdS q) (pdS r) := rfl
  rw [h, eqv_flat (fun d m => ?_) (fun d m => ?_)]
  · rfl
  · rcases List.mem_cons.mp m with rfl | m
    · exact .inl ⟨_, rfl⟩
    · exact hq.flat d m
  · rcases List.mem_cons.mp m with rfl | m
    · exact .inl ⟨_, rfl⟩
    · exact hr.flat d m
def memQ (q : SK) (rs : List SK) : Bool := rs.any fun r => decide (keyL r = keyL q)
theorem memQ_iff {q : SK} {rs : List SK} : memQ q rs = true ↔ keyL q ∈ rs.map keyL := any_key

/-! ### lists of keys, as the law makes them -/
def KeysL (H : Hp) (ts : List Addr) (qs : List SK) : Prop := Paired (fun t q => H t = some (.tup ((keyL q).map kV)) ∧ KS q.1 q.2) ts qs
theorem KeysL.kp {H H' : Hp} {ts : List Addr} {qs : List SK} (h : KeysL H ts qs) (k : Kp [] H H') : KeysL H' ts qs := Paired.mapP h fun _ _ z => ⟨k _ _ z.1 not_nil, z.2⟩
theorem KeysL.lst {H H' : Hp} {D : Addr} {acc : List V} {ts : List Addr} {qs : List SK} (h : KeysL H ts qs) (e : H D = some (.lst acc)) (k : Kp [D] H H') : KeysL H' ts qs := Paired.mapP h fun _ _ z => ⟨k _ _ z.1 (not_one fun w => by
  have := z.1
  rw [w, e] at this
  cases this), z.2⟩
theorem KeysL.len {H : Hp} {ts : List Addr} {qs : List SK} (h : KeysL H ts qs) : ts.length = qs.length := Paired.length h
theorem KeysL.app {H : Hp} : ∀ {as bs : List Addr} {ps qs : List SK}, KeysL H as ps → KeysL H bs qs → KeysL H (as ++ bs) (ps ++ qs)
  | _, _, _, _, .nil, g => g
  | _, _, _, _, .cons h t, g => .cons h (KeysL.app t g)
theorem KeysL.snoc {H : Hp} {as : List Addr} {ps : List SK} {t : Addr} {q : SK} (h : KeysL H as ps) (e : H t = some (.tup ((keyL q).map kV))) (k : KS q.1 q.2) : KeysL H (as ++ [t]) (ps ++ [q]) := h.app (.cons ⟨e, k⟩ .nil)
theorem KeysL.ks {H : Hp} : ∀ {as : List Addr} {ps : List SK}, KeysL H as ps → ∀ q ∈ ps, KS q.1 q.2
  | _, _, .nil, q, m => nomatch m
  | _, _, .cons h t, q, m => by
    rcases List.mem_cons.mp m with rfl | m
    · exact h.2
    · exact KeysL.ks t q m
def keyT (q : SK) : PyData := .tuple (pdS q)
theorem KeysL.dt {H : Hp} : ∀ {as : List Addr} {ps : List SK}, KeysL H as ps → DtAll [] H (as.map V.ref) (ps.map keyT)
  | _, _, .nil => .nil
  | _, _, .cons h t => .cons (keyL_dt h.2 not_nil h.1) (KeysL.dt t)
theorem KeysL.zip {H : Hp} : ∀ {as : List Addr} {ps : List SK}, KeysL H as ps → (as.zip ps).map Prod.fst = as ∧ (as.zip ps).map Prod.snd = ps ∧ ∀ z ∈ as.zip ps, H z.1 = some (.tup ((keyL z.2).map kV)) ∧ KS z.2.1 z.2.2
  | _, _, .nil => ⟨rfl, rfl, fun z m => nomatch m⟩
  | _, _, .cons h t => by
    obtain ⟨e1, e2, e3⟩ := KeysL.zip t
    refine ⟨by rw [List.zip_cons_cons, List.map_cons, e1], by rw [List.zip_cons_cons, List.map_cons, e2], fun z m => ?_⟩
    rw [List.zip_cons_cons] at m
    rcases List.mem_cons.mp m with rfl | m
    · exact h
    · exact e3 z m
theorem keysl_maps {H : Hp} : ∀ {ms : List (Addr × SK)}, (∀ z ∈ ms, H z.1 = some (.tup ((keyL z.2).map kV)) ∧ KS z.2.1 z.2.2) → KeysL H (ms.map Prod.fst) (ms.map Prod.snd)
  | [], _ => .nil
  | z :: ms, h => .cons (h z List.mem_cons_self) (keysl_maps fun z m => h z (List.mem_cons_of_mem _ m))
theorem r_sortM {K : PySem.W.Frag} {H : Hp} {Q : VK} {a : Addr} {ts : List Addr} {qs : List SK} (h : SqL K H a (ts.map V.ref)) (hk : KeysL H ts qs) (hl : qs.length ≤ 5000) (q : ∀ l ts' H', H l = none → Kp [] H H' → H' l = some (.lst (ts'.map V.ref)) → KeysL H' ts' (srtQ qs) → Q (.ref l) H') : rSortM K [.ref a] H Q := by
  obtain ⟨e1, e2, e3⟩ := hk.zip
  have big : 5000 ≤ sizeLine := by decide
  have s1 : ((ts.zip qs).map fun z => (z.1, keyL z.2)).mergeSort (mxLe Prod.snd) = ((ts.zip qs).mergeSort (mxLe fun z => keyL z.2)).map fun z => (z.1, keyL z.2) :=
    (PySem.W.sort_maps (r := mxLe fun z : Addr × SK => keyL z.2) (s := mxLe Prod.snd) (fun z : Addr × SK => (z.1, keyL z.2)) (l := ts.zip qs) (fun _ _ _ _ => rfl)).symm
  have s2 : ((ts.zip qs).mergeSort (mxLe fun z => keyL z.2)).map Prod.snd = srtQ qs := by
    have := PySem.W.sort_maps (r := mxLe fun z : Addr × SK => keyL z.2) (s := mxLe keyL) Prod.snd (l := ts.zip qs) (fun _ _ _ _ => rfl)
    rw [this, e2]
    rfl
  refine ⟨a, (ts.zip qs).map fun z => (z.1, keyL z.2), rfl, ?_, ?_, ?_, ?_, fun p hn => ?_⟩
  · have : ((ts.zip qs).map fun z => (z.1, keyL z.2)).map (fun z => V.ref z.1) = ts.map V.ref := by
      rw [List.map_map]
      have : (ts.zip qs).map ((fun z => V.ref z.1) ∘ fun z => (z.1, keyL z.2)) = ((ts.zip qs).map Prod.fst).map V.ref := by rw [List.map_map]; rfl
      rw [this, e1]
    rw [this]
    exact h
  · intro z m
    obtain ⟨y, hy, rfl⟩ := List.mem_map.mp m
    exact (e3 y hy).1
  · intro z m
    obtain ⟨y, hy, rfl⟩ := List.mem_map.mp m
    exact keyL_good (e3 y hy).2
  · rw [List.length_map]
    have := congrArg List.length e2
    rw [List.length_map] at this
    omega
  · rw [s1, List.map_map]
    have e4 : ((ts.zip qs).mergeSort (mxLe fun z => keyL z.2)).map ((fun z => V.ref z.1) ∘ fun z => (z.1, keyL z.2)) = (((ts.zip qs).mergeSort (mxLe fun z => keyL z.2)).map Prod.fst).map V.ref := by rw [List.map_map]; rfl
    rw [e4]
    refine q p _ _ hn (Kp.new hn) upd_same ?_
    have hk2 : KeysL H (((ts.zip qs).mergeSort (mxLe fun z => keyL z.2)).map Prod.fst) (srtQ qs) := by
      rw [← s2]
      exact keysl_maps fun z m => e3 z ((List.mergeSort_perm _ _).mem_iff.mp m)
    exact hk2.kp (Kp.new hn)
theorem range_above (i : Nat) : ∀ n : Nat, (List.range n).filter (fun j => decide (i < j)) = (List.range (n - (i + 1))).map fun j => i + 1 + j
  | 0 => by simp
  | n + 1 => by
    rw [List.range_succ, List.filter_append, range_above i n]
    by_cases c : i < n
    · have e : n + 1 - (i + 1) = (n - (i + 1)) + 1 := by omega
      rw [e, List.range_succ, List.map_append]
      have : i + 1 + (n - (i + 1)) = n := by omega
      simp [c, this]
    · have e : n + 1 - (i + 1) = n - (i + 1) := by omega
      rw [e]
      simp [c]

/-! ### sets of keys: sorted, each once -/
def canon (l : List SK) : List SK := srtQ (uniqQ l)
def AllKS (l : List SK) : Prop := ∀ q ∈ l, KS q.1 q.2
theorem insQ_ks {acc : List SK} {q : SK} (ha : AllKS acc) (hq : KS q.1 q.2) : AllKS (insQ acc q) := fun x m => by
  rcases insQ_sub m with h | rfl
  · exact ha x h
  · exact hq
theorem insQ_mem {acc : List SK} {q x : SK} (ha : AllKS acc) (hq : KS q.1 q.2) : x ∈ insQ acc q ↔ x ∈ acc ∨ x = q := by
  refine ⟨insQ_sub, fun h => ?_⟩
  unfold insQ
  split
  · rename_i c
    rcases h with h | rfl
    · exact h
    · obtain ⟨r, hr, e⟩ := List.mem_map.mp (any_key.mp c)
      rw [← keyL_inj (ha r hr) hq e]
      exact hr
  · rcases h with h | rfl
    · exact List.mem_append.mpr (.inl h)
    · exact List.mem_append.mpr (.inr (List.mem_singleton.mpr rfl))
theorem foldQ_mem : ∀ {l acc : List SK} {x : SK}, AllKS acc → AllKS l → (x ∈ l.foldl insQ acc ↔ x ∈ acc ∨ x ∈ l)
  | [], _, _, _, _ => by simp
  | q :: l, acc, x, ha, hl => by
    have hq := hl q List.mem_cons_self
    show x ∈ l.foldl insQ (insQ acc q) ↔ _
    rw [foldQ_mem (insQ_ks ha hq) (fun r m => hl r (List.mem_cons_of_mem _ m)), insQ_mem ha hq, List.mem_cons, or_assoc]
theorem uniqQ_mem {l : List SK} (hl : AllKS l) {x : SK} : x ∈ uniqQ l ↔ x ∈ l := by
  unfold uniqQ
  rw [foldQ_mem (fun _ (m : _ ∈ []) => by cases m) hl]
  simp
theorem insQ_nodup {acc : List SK} {q : SK} (h : (acc.map keyL).Nodup) : ((insQ acc q).map keyL).Nodup := by
  unfold insQ
  split
  · exact h
  · rename_i c
    rw [List.map_append, List.nodup_append]
    refine ⟨h, List.nodup_cons.mpr ⟨(fun z => nomatch z), List.nodup_nil⟩, fun a ha b hb e => c ?_⟩
    rw [List.map_cons, List.map_nil, List.mem_singleton] at hb
    exact any_key.mpr (hb ▸ e ▸ ha)
theorem foldQ_nd : ∀ {l acc : List SK}, (acc.map keyL).Nodup → ((l.foldl insQ acc).map keyL).Nodup
  | [], _, h => h
  | q :: l, acc, h => foldQ_nd (l := l) (insQ_nodup (q := q) h)
theorem uniqQ_nd (l : List SK) : ((uniqQ l).map keyL).Nodup := foldQ_nd List.nodup_nil
theorem nodup_of_map {α β : Type} {f : α → β} {l : List α} (h : (l.map f).Nodup) : l.Nodup := (List.pairwise_map.mp h).imp fun n e => n (congrArg f e)
theorem canon_mem {l : List SK} (hl : AllKS l) {x : SK} : x ∈ canon l ↔ x ∈ l := by
  unfold canon
  rw [(srtQ_perm _).mem_iff, uniqQ_mem hl]
theorem canon_ks {l : List SK} (hl : AllKS l) : AllKS (canon l) := fun q m => hl q ((canon_mem hl).mp m)
theorem canon_len (l : List SK) : (canon l).length ≤ l.length := by
  unfold canon
  rw [(srtQ_perm _).length_eq]
  exact uniqQ_len l
theorem canon_ext {l m : List SK} (hl : AllKS l) (hm : AllKS m) (h : ∀ q, q ∈ l ↔ q ∈ m) : canon l = canon m := by
  refine srtQ_of_perm ((List.perm_ext_iff_of_nodup (nodup_of_map (uniqQ_nd l)) (nodup_of_map (uniqQ_nd m))).mpr fun q => ?_) fun q z => hl q (uniqQ_sub z)
  rw [uniqQ_mem hl, uniqQ_mem hm, h]
theorem canon_nil : canon [] = [] := List.eq_nil_of_length_eq_zero (Nat.le_zero.mp (canon_len []))
theorem canon_eq {l m : List SK} (hl : AllKS l) (hm : AllKS m) : canon l = canon m ↔ ∀ q, q ∈ l ↔ q ∈ m :=
  ⟨fun e q => by rw [← canon_mem hl, e, canon_mem hm], canon_ext hl hm⟩
theorem keys_inj : ∀ {l m : List SK}, AllKS l → AllKS m → l.map keyL = m.map keyL → l = m
  | [], [], _, _, _ => rfl
  | [], _ :: _, _, _, h => by cases h
  | _ :: _, [], _, _, h => by cases h
  | q :: l, r :: m, hl, hm, h => by
    rw [keyL_inj (hl q List.mem_cons_self) (hm r List.mem_cons_self) (List.cons.inj h).1, keys_inj (fun x z => hl x (List.mem_cons_of_mem _ z)) (fun x z => hm x (List.mem_cons_of_mem _ z)) (List.cons.inj h).2]
theorem memQ_mem {q : SK} {l : List SK} (hq : KS q.1 q.2) (hl : AllKS l) : memQ q l = true ↔ q ∈ l := by
  rw [memQ_iff]
  refine ⟨fun h => ?_, fun h => List.mem_map.mpr ⟨q, h, rfl⟩⟩
  obtain ⟨r, hr, e⟩ := List.mem_map.mp h
  rw [← keyL_inj (hl r hr) hq e]
  exact hr
theorem memQ_false {q : SK} {l : List SK} (hq : KS q.1 q.2) (hl : AllKS l) : memQ q l = false ↔ q ∉ l := by
  rw [← memQ_mem hq hl]
  simp
/-! each once of sorted keys: those that differ from the one before -/
theorem uniqQ_sublist : ∀ (l acc : List SK), (l.foldl insQ acc).Sublist (acc ++ l)
  | [], acc => by
    rw [List.append_nil]
    exact List.Sublist.refl _
  | q :: l, acc => by
    refine (uniqQ_sublist l (insQ acc q)).trans ?_
    unfold insQ
    split
    · exact List.Sublist.append (List.Sublist.refl _) (List.sublist_cons_self _ _)
    · rw [List.append_assoc]
      exact List.Sublist.refl _
theorem due_canon {l : List SK} (hl : AllKS l) : uniqQ (srtQ l) = canon l := by
  have hs : AllKS (srtQ l) := fun q m => hl q ((srtQ_perm l).mem_iff.mp m)
  have s1 : (uniqQ (srtQ l)).Pairwise fun a b => mxLe keyL a b = true := (srtQ_pw l).sublist (uniqQ_sublist (srtQ l) [])
  refine List.Perm.eq_of_pairwise (le := fun a b => mxLe keyL a b = true) (fun a b ha hb h1 h2 => ?_) s1 (srtQ_pw _) ?_
  · exact mxLe_anti (hs a (uniqQ_sub ha)) (canon_ks hl b hb) h1 h2
  · refine (List.perm_ext_iff_of_nodup (nodup_of_map (uniqQ_nd _)) ((srtQ_perm _).nodup_iff.mpr (nodup_of_map (uniqQ_nd l)))).mpr fun q => ?_
    rw [uniqQ_mem hs, (srtQ_perm l).mem_iff, (srtQ_perm (uniqQ l)).mem_iff, uniqQ_mem hl]
theorem pw_at {α : Type} {R : α → α → Prop} {l : List α} (h : l.Pairwise R) {i j : Nat} {x y : α} (hx : l[i]? = some x) (hy : l[j]? = some y) (ij : i < j) : R x y := by
  obtain ⟨hi, rfl⟩ := List.getElem?_eq_some_iff.mp hx
  obtain ⟨hj, rfl⟩ := List.getElem?_eq_some_iff.mp hy
  exact List.pairwise_iff_getElem.mp h i j hi hj ij
theorem due_step {l : List SK} (hl : AllKS l) {i : Nat} {q : SK} (hq : (srtQ l)[i]? = some q) : (memQ q (uniqQ ((srtQ l).take i)) = true) ↔ ∃ r, 0 < i ∧ (srtQ l)[i - 1]? = some r ∧ r = q := by
  have hs : AllKS (srtQ l) := fun q m => hl q ((srtQ_perm l).mem_iff.mp m)
  have ht : AllKS ((srtQ l).take i) := fun q m => hs q (List.mem_of_mem_take m)
  rw [memQ_mem (hs q (mem_at hq)) (fun r m => ht r (uniqQ_sub m)), uniqQ_mem ht]
  constructor
  · intro m
    obtain ⟨j, hj, e⟩ := List.getElem_of_mem m
    rw [List.length_take] at hj
    have hji : j < i := by omega
    have ej : (srtQ l)[j]? = some q := by
      rw [List.getElem_take] at e
      rw [← e]
      exact List.getElem?_eq_getElem _
    have hi : i - 1 < (srtQ l).length := by
      have := lt_at hq
      omega
    refine ⟨(srtQ l)[i - 1], by omega, List.getElem?_eq_getElem hi, ?_⟩
    have er : (srtQ l)[i - 1]? = some (srtQ l)[i - 1] := List.getElem?_eq_getElem hi
    by_cases c : j = i - 1
    · rw [c, er] at ej
      exact Option.some.inj ej
    · refine mxLe_anti (hs _ (mem_at er)) (hs q (mem_at hq)) (pw_at (srtQ_pw l) er hq (by omega)) (pw_at (srtQ_pw l) ej er (by omega))
  · rintro ⟨r, h0, hr, rfl⟩
    refine List.mem_iff_getElem?.mpr ⟨i - 1, ?_⟩
    rw [List.getElem?_take, if_pos (by omega)]
    exact hr
/-! the sets' own operators -/
theorem perm_map_inv {α β : Type} {f : α → β} {us vs : List β} (p : us.Perm vs) : ∀ l : List α, vs = l.map f → ∃ l' : List α, l'.Perm l ∧ us = l'.map f := by
  induction p with
  | nil =>
    intro l e
    exact ⟨l, List.Perm.refl _, e⟩
  | cons x p ih =>
    intro l e
    cases l with
    | nil => cases e
    | cons a l =>
      have e1 := (List.cons.inj e).1
      have e2 := (List.cons.inj e).2
      subst e1
      obtain ⟨l', hp, rfl⟩ := ih l e2
      exact ⟨a :: l', hp.cons a, rfl⟩
  | swap x y t =>
    intro l e
    match l, e with
    | a :: b :: l, e =>
      have e1 := (List.cons.inj e).1
      have e2 := (List.cons.inj (List.cons.inj e).2).1
      have e3 := (List.cons.inj (List.cons.inj e).2).2
      subst e1
      subst e2
      subst e3
      exact ⟨b :: a :: l, List.Perm.swap a b l, rfl⟩
  | trans p q ihp ihq =>
    intro l e
    obtain ⟨l1, h1, rfl⟩ := ihq l e
    obtain ⟨l2, h2, rfl⟩ := ihp l1 rfl
    exact ⟨l2, h2.trans h1, rfl⟩
theorem texts_sum {qs : List SK} (h : AllKS qs) : ((qs.map fun q => (slipText q.1 q.2).length).sum ≤ qs.length * 500) := by
  induction qs with
  | nil => exact Nat.le_refl _
  | cons q l ih =>
    have h1 := ih fun r m => h r (List.mem_cons_of_mem _ m)
    have hk := h q List.mem_cons_self
    have h2 : (slipText q.1 q.2).length ≤ 500 := text_len hk.key.parts (Tells.short hk.key)
    rw [List.map_cons, List.sum_cons, List.length_cons, Nat.succ_mul]
    omega
theorem texts_fit {qs : List SK} (h : AllKS qs) (hl : qs.length ≤ 1000) : (((qs.map fun q => slipText q.1 q.2).map (·.length)).sum + (qs.map fun q => slipText q.1 q.2).length * (Str.ofString ", ").length ≤ 16777216) := by
  have h1 := texts_sum h
  rw [List.map_map, List.length_map]
  have h2 : (Str.ofString ", ").length = 2 := rfl
  have h3 : ((qs.map ((·.length) ∘ fun q => slipText q.1 q.2)).sum ≤ qs.length * 500) := h1
  rw [h2]
  omega

section
open NdefX
variable {P : Program} {w : World} {K : PySem.W.Frag} {mg : Str → Option Value} {base : Heap}
variable {C_Swap : Addr} {C_Leave : Addr} {C_Double : Addr} {C_Names : Addr} {C_Drop : Addr} {C_Slips : Addr} {C_BadSlip : Addr} {C_Slip : Addr} {G_SLIP_WORDS : Addr}
local macro_rules | `(tactic| walk_at "s") => `(tactic| (first
  | (with_reducible refine r_seq ?_)
  | (with_reducible refine r_asg ?_)
  | ((with_reducible refine' r_var (v := ?v) ?hv ?_); (case hv => exact rfl))
  | (with_reducible refine r_c ?_)
  | (with_reducible refine r_name ?_)
  | (with_reducible refine r_op ?_)
  | (with_reducible refine r_un ?_)
  | (with_reducible refine r_consA ?_)
  | (with_reducible refine r_nilA ?_)
  | (with_reducible refine r_I0 ?_)
  | (with_reducible refine r_U ?_)
  | (with_reducible refine r_eqI ?_)
  | (with_reducible refine r_neI ?_)
  | (with_reducible refine r_test ?_)
  | (with_reducible refine r_tB ?_)
  | (with_reducible refine r_kB ?_)
  | (with_reducible refine r_ifS ?_)
  | (with_reducible refine r_if ?_)
  | (with_reducible refine r_and ?_)
  | (with_reducible refine r_or ?_)
  | (with_reducible refine r_not ?_)
  | (with_reducible refine r_ret ?_)
  | (with_reducible refine r_retN ?_)
  | (with_reducible refine r_next ?_)
  | (with_reducible refine r_drop ?_)
  | (with_reducible refine r_brk ?_)
  | (with_reducible refine r_cont ?_)
  | (with_reducible refine r_andV ?_)
  | (with_reducible refine r_orV ?_)
  | (with_reducible refine r_notV ?_)
  | (with_reducible refine r_kNotV ?_)
  | (with_reducible refine r_lst ?_)
  | (with_reducible refine r_tup ?_)
  | (with_reducible refine r_dget ?_)
  | (with_reducible refine r_dput ?_)
  | (with_reducible refine r_use ?_)
  | (with_reducible refine r_cb ?_)
  | (with_reducible refine r_par ?_)
  | (with_reducible refine r_int ?_)
  | (with_reducible refine r_abs ?_)
  | (with_reducible refine r_max2 ?_)
  | (with_reducible refine r_min2 ?_)
  | (with_reducible refine r_pnil ?_)
  | (with_reducible refine r_pcons ?_)
  | (with_reducible refine r_eqS ?_)
  | (with_reducible refine r_neS ?_)
  | (with_reducible refine r_for ?_)
  | (with_reducible refine r_rng1 ?_)
  | (with_reducible refine r_rng2 ?_)
  | (with_reducible refine r_wl ?_)
  | (with_reducible refine r_wt ?_)
  | (with_reducible refine r_wq ?_)
  | (with_reducible refine r_ws ?_)
  | (with_reducible refine r_cWS ?_)
  | (with_reducible refine r_enum ?_)
  | (with_reducible refine r_zip ?_)
  | (with_reducible refine r_lc ?_)
  | (with_reducible refine r_dc ?_)
  | ((with_reducible refine r_kTurn ?ht ?_); (case ht => rfl))
  | ((with_reducible refine r_kTurnD ?ht ?_); (case ht => rfl))
  | (with_reducible refine r_yes ?_)
  | ((with_reducible refine r_kKeep1 ?hk ?_); (case hk => rfl))
  | ((with_reducible refine r_kKeepD1 ?hk ?_); (case hk => rfl))
  | (with_reducible refine r_gcons ?_)
  | (with_reducible refine r_gnil ?_)
  | (with_reducible refine r_bm ?_)
  | (with_reducible refine r_bm0 ?_)
  | (with_reducible refine r_fld ?_)
  | (with_reducible refine r_sfld ?_)
  | (with_reducible refine r_methR ?_)
  | (with_reducible refine r_makeR ?_)
  | (with_reducible refine r_chain ?_)))
local macro_rules | `(tactic| walk_at "S") => `(tactic| repeat walk_at "s")
local macro_rules | `(tactic| walk_at "D") => `(tactic| repeat' (first
  | exact AD_nil
  | refine AD_cons ?_ (fun _ _ => ?_)
  | refine ED_tup ?_ (Nat.le_trans (m := 100) (Nat.le_of_ble_eq_true rfl) (by decide))
  | refine ED_lst ?_ (Nat.le_trans (m := 100) (Nat.le_of_ble_eq_true rfl) (by decide))
  | exact ED_c (by constructor)
  | exact ED_var rfl (by constructor)))
local macro_rules | `(tactic| walk_at "N") => `(tactic| repeat' (first
  | exact AN_nil
  | refine AN_cons ?_ (fun _ _ => ?_)
  | refine EN_tup ?_ (Nat.le_trans (m := 100) (Nat.le_of_ble_eq_true rfl) (by decide))
  | refine EN_lst ?_ (Nat.le_trans (m := 100) (Nat.le_of_ble_eq_true rfl) (by decide))
  | exact EN_c (fun _ => by constructor)
  | exact EN_var rfl (fun _ => by constructor)))

local macro_rules | `(tactic| walk_at "s") => `(tactic| (first
  | (with_reducible refine r_sl ?_)
  | (with_reducible refine r_kS1 ?_)
  | (with_reducible refine r_kS2 ?_)
  | (with_reducible refine r_kS3 ?_)
  | (with_reducible refine r_noPart ?_)
  | (with_reducible refine r_part ?_)
  | (with_reducible refine r_kPart ?_)
  | (with_reducible refine r_gsub ?_)
  | (with_reducible refine r_m1 ?_)
  | (with_reducible refine r_kM1 ?_)
  | (with_reducible refine r_propF ?_)
  | (with_reducible refine r_drp ?_)
  | (with_reducible refine r_min2S ?_)
  | (with_reducible refine r_max2S ?_)
  | (with_reducible refine r_enumS ?_)
  | (with_reducible refine r_cEnumS ?_)
  | (with_reducible refine r_makeKS ?_)
  | (with_reducible refine r_makeS ?_)))

local macro_rules | `(tactic| walk_at "s") => `(tactic| (first
  | (with_reducible refine r_mkV ?_)
  | (with_reducible refine r_ofl ?_)
  | (with_reducible refine r_methF ?_)
  | (with_reducible refine r_callF ?_)
  | (with_reducible refine r_star ?_)
  | (with_reducible refine r_smeth ?_)
  | (with_reducible refine r_kSMeth ?_)))

local macro_rules | `(tactic| walk_at "s") => `(tactic| (first
  | (with_reducible refine r_dcT ?_)
  | ((with_reducible refine r_kTurnT ?ht ?_); (case ht => rfl))
  | ((with_reducible refine r_kKeepT1 ?hk ?_); (case hk => rfl))
  | (with_reducible refine r_own ?_)
  | (with_reducible refine r_cmeth ?_)
  | (with_reducible refine r_kCMeth ?_)
  | (with_reducible refine r_makeS1 ?_)
  | ((with_reducible refine r_makeV ?hv ?_); (case hv => rfl))
  | (with_reducible refine r_isBl ?_)
  | (with_reducible refine r_ltS ?_)
  | (with_reducible refine r_lr1 ?_)
  | (with_reducible refine r_lc2 ?_)
  | ((with_reducible refine r_kTurn2 ?ht ?_); (case ht => rfl))
  | ((with_reducible refine r_kKeep2 ?hk ?_); (case hk => rfl))))

local macro_rules | `(tactic| walk_at "s") => `(tactic| (first
  | (with_reducible refine r_tTruOwn ?_)
  | (with_reducible refine r_notOwn ?_)
  | (with_reducible refine r_par3 ?_)))

/-! ### sets of slips compared -/
theorem kV_inj {a b : Key} (h : kV a = kV b) : a = b := by
  cases a <;> cases b
  · exact congrArg Sum.inl (V.int.inj h)
  · cases h
  · cases h
  · exact congrArg Sum.inr (V.str.inj h)
theorem kVs_inj : ∀ {k l : List Key}, k.map kV = l.map kV → k = l
  | [], [], _ => rfl
  | [], _ :: _, h => by cases h
  | _ :: _, [], h => by cases h
  | a :: k, b :: l, h => by rw [kV_inj (List.cons.inj h).1, kVs_inj (List.cons.inj h).2]
theorem slip_same {CS : List Addr} {H : Hp} {a : Addr} {q r : SK} (hA : SlipAt CS H a (pdS q)) (hB : SlipAt CS H a (pdS r)) (hq : KS q.1 q.2) (hr : KS r.1 r.2) : q = r := by
  obtain ⟨C, dx, p, _, e, d⟩ := hA
  obtain ⟨C', dx', p', _, e', d'⟩ := hB
  rw [e] at e'
  cases e'
  have h1 := keyL_tup hq d
  have h2 := keyL_tup hr d'
  rw [h1] at h2
  exact keyL_inj hq hr (kVs_inj (HO.tup.inj (Option.some.inj h2)))
theorem slip_eqv {CS : List Addr} {H : Hp} {a b : Addr} {q r : SK} (nf : ∀ C, FamS CS C → ∀ D, FamS CS D → PySem.W.notFirst K C (.ref D) = true) (hA : SlipAt CS H a (pdS q)) (hq : KS q.1 q.2) (hB : SlipAt CS H b (pdS r)) (hr : KS r.1 r.2) :
    DFam K (FamS CS) (sp_Slip___eq__ CS) (.ref a) (.ref b) H (decide (keyL q = keyL r)) := by
  obtain ⟨C, dx, p, hS, e, _⟩ := id hA
  obtain ⟨D, dy, p', hS', e', _⟩ := id hB
  refine ⟨a, C, dx, _, b, D, dy, _, rfl, rfl, e, hS.fam, e', nf C hS.fam D hS'.fam, fun z => ?_, a, b, pdS q, pdS r, rfl, hA, hB, hq.shp, hr.shp, ?_, rfl⟩
  · subst z
    exact decide_eq_true (congrArg keyL (slip_same hA hB hq hr))
  · rw [eqv_keys hq hr]
theorem zip_all : ∀ {qs rs : List SK}, qs.length = rs.length → (List.zipWith (fun q r => decide (keyL q = keyL r)) qs rs).all id = decide (qs.map keyL = rs.map keyL)
  | [], [], _ => rfl
  | [], _ :: _, h => by cases h
  | _ :: _, [], h => by cases h
  | q :: qs, r :: rs, h => by
    have ih := zip_all (qs := qs) (rs := rs) (Nat.succ.inj h)
    rw [List.zipWith_cons_cons, List.all_cons, ih, List.map_cons, List.map_cons]
    by_cases c1 : keyL q = keyL r
    · by_cases c2 : qs.map keyL = rs.map keyL
      · rw [decide_eq_true c2, decide_eq_true c1, decide_eq_true (by rw [c1, c2])]
        rfl
      · rw [decide_eq_false c2, Bool.and_false, decide_eq_false (fun z => c2 (List.cons.inj z).2)]
    · rw [decide_eq_false c1, decide_eq_false (fun z => c1 (List.cons.inj z).1)]
      rfl
theorem any_mem (q : SK) (rs : List SK) : (rs.map fun r => decide (keyL r = keyL q)).any id = memQ q rs := by
  rw [List.any_map]
  rfl

/-! ### sets of slips: their methods (the operators are printed by set_gen.py) -/
theorem slips_app {CS : List Addr} {H : Hp} : ∀ {as bs : List Addr} {ps qs : List SK}, SlipsL CS H as ps → SlipsL CS H bs qs → SlipsL CS H (as ++ bs) (ps ++ qs)
  | _, _, _, _, .nil, g => g
  | _, _, _, _, .cons h t, g => .cons h (slips_app t g)
def sp_Slips___len__ (C : Addr) (CS : List Addr) : Sp := fun vs H Q _ => ∃ (a : Addr) (qs : List SK), vs = [.ref a] ∧ SetAt C CS H a qs ∧ Q (.int (qs.length : Nat)) H
abbrev s_Slips___len__ : Stmt := inClass (top 24) 3
theorem sc_Slips___len__ : FnScope ["self"] ["self"] (defScope s_Slips___len__) :=
  ⟨rfl, rfl, rfl, by decide +kernel, rfl, by decide +kernel, by decide +kernel⟩
theorem ok_Slips___len__ {f : Addr} {fd : FuncData} (F : Fun K "__len__" "Slips.__len__" s_Slips___len__ f fd) (T : Txt K mg C_Swap C_Leave C_Double C_Names C_Drop C_Slips C_BadSlip C_Slip G_SLIP_WORDS) :
    FnOk P w K mg base CX0 2 f fd ["self"] (sp_Slips___len__ C_Slips [C_Swap, C_Leave, C_Double, C_Names, C_Drop]) := by
  refine F.ok sc_Slips___len__ (fun vs H Q E h => ?_) (fun cdv A outer s H vs Q E hr h => ?_)
  · obtain ⟨a, qs, rfl, _⟩ := h
    rfl
  · obtain ⟨a, qs, rfl, ⟨dx, l, ads, ea, el, hl⟩, q⟩ := h
    have hu := hu_of hr
    have hu64 := hr.units
    refine ⟨_, (pss_one (ps_ret (pe_callB (K_len (K := K) rfl) (by rfl) T.z_len (by decide +kernel) (pa_cons (K_fld (K := K) rfl (pv 0) rfl) pa_nil)))), ?_⟩
    have hC := T.c_Slips
    walk_at "S"
    refine r_kFld ea hC T.na_Slips_kept rfl ?_
    walk_at "S"
    refine r_lenL (SqL.of el) ?_
    rw [List.length_map, hl.len]
    exact q
def sp_Slips___eq__ (C : Addr) (CS : List Addr) : Sp := fun vs H Q _ => ∃ (a : Addr) (qs : List SK) (y : V), vs = [.ref a, y] ∧ SetAt C CS H a qs ∧
  ((∃ b rs, y = .ref b ∧ SetAt C CS H b rs ∧ Q (.bl (decide (qs.map keyL = rs.map keyL))) H) ∨ (∃ t, TyX K H y t ∧ PySem.W.kitOne K t (.ref C) = some false ∧ Q (.bl false) H))
abbrev s_Slips___eq__ : Stmt := inClass (top 24) 4
theorem sc_Slips___eq__ : FnScope ["self", "other"] ["self", "other"] (defScope s_Slips___eq__) :=
  ⟨rfl, rfl, rfl, by decide +kernel, rfl, by decide +kernel, by decide +kernel⟩
theorem ok_Slips___eq__ {f : Addr} {fd : FuncData} (F : Fun K "__eq__" "Slips.__eq__" s_Slips___eq__ f fd) (T : Txt K mg C_Swap C_Leave C_Double C_Names C_Drop C_Slips C_BadSlip C_Slip G_SLIP_WORDS) (U_Slip___eq__ : UseMF P w K mg base 2 (FamS [C_Swap, C_Leave, C_Double, C_Names, C_Drop]) "__eq__" (sp_Slip___eq__ [C_Swap, C_Leave, C_Double, C_Names, C_Drop])) :
    FnOk P w K mg base CX0 4 f fd ["self", "other"] (sp_Slips___eq__ (K := K) C_Slips [C_Swap, C_Leave, C_Double, C_Names, C_Drop]) := by
  refine F.ok sc_Slips___eq__ (fun vs H Q E h => ?_) (fun cdv A outer s H vs Q E hr h => ?_)
  · obtain ⟨a, qs, y, rfl, _⟩ := h
    rfl
  · obtain ⟨a, qs, y, rfl, ⟨dx, l, ads, ea, el, hl⟩, hc⟩ := h
    obtain ⟨f_Slip___eq__, R_Slip___eq__, M_Slip___eq__⟩ := U_Slip___eq__
    have hu := hu_of hr
    have hu64 := hr.units
    refine ⟨_, (pss_one (ps_ret (pe_and (pe_callB (K_isi (K := K) rfl) (by rfl) T.z_isinstance (by decide +kernel) (pa_cons (pv 1) (pa_cons (pe_globE T.v_Slips (by rfl)) pa_nil))) (pe_one (pe_cmpR (K_eqLF (K := K) (S := (FamS [C_Swap, C_Leave, C_Double, C_Names, C_Drop])) rfl M_Slip___eq__ R_Slip___eq__ (hr.mono (by first | decide | omega))) (K_fld (K := K) rfl (pv 0) rfl) (K_fld (K := K) rfl (pv 1) rfl) (nomark _)))))), ?_⟩
    have hC := T.c_Slips
    have hM : FamS [C_Slips] C_Slips := .hd
    walk_at "S"
    rcases hc with ⟨b, rs, rfl, ⟨dy, m, bds, eb, em, hm⟩, q⟩ | ⟨t, ty, kf, q⟩
    · refine ⟨.ref b, .ref C_Slips, .ref C_Slips, .ref C_Slips, true, rfl, .own _, .base (.ins eb hC (T.cl_Slips _ hM) T.gt_Slips T.tk_Slips (T.ob_Slips _ hM)), T.ki_Slips _ hM, ?_⟩
      refine r_kAndV (fun _ => ?_) (fun z => nomatch z)
      walk_at "S"
      refine r_kFld ea hC T.na_Slips_kept rfl ?_
      walk_at "S"
      refine r_kFld eb hC T.na_Slips_kept rfl ?_
      by_cases c : qs.length = rs.length
      · refine r_eqLB (bs := List.zipWith (fun q r => decide (keyL q = keyL r)) qs rs) el em ⟨?_, ?_, fun i x y b hx hy hb => ?_⟩ ?_
        · rw [List.length_map, List.length_map, hl.len, hm.len, c]
        · rw [List.length_zipWith, List.length_map, hl.len, c, Nat.min_self]
        · obtain ⟨x', hx', rfl⟩ := map_at hx
          obtain ⟨y', hy', rfl⟩ := map_at hy
          obtain ⟨q0, hq0, hsq, hkq⟩ := hl.at hx'
          obtain ⟨r0, hr0, hsr, hkr⟩ := hm.at hy'
          rw [List.getElem?_zipWith, hq0, hr0] at hb
          have hb : some (decide (keyL q0 = keyL r0)) = some b := hb
          rw [← Option.some.inj hb]
          exact slip_eqv T.nf_Slip hsq hkq hsr hkr
        · rw [zip_all c]
          exact q
      · refine r_eqLN el em (by rw [List.length_map, List.length_map, hl.len, hm.len]; exact c) ?_
        rw [decide_eq_false (fun z => c (by have := congrArg List.length z; rw [List.length_map, List.length_map] at this; exact this))] at q
        exact q
    · refine ⟨y, .ref C_Slips, t, .ref C_Slips, false, rfl, .own _, ty, kf, ?_⟩
      exact r_kAndV (fun z => nomatch z) (fun _ => q)
/-- sets == sets, as their users see it -/
theorem r_eqSets {H : Hp} {Q : VK} {CC a b : Addr} {CS : List Addr} {qs rs : List SK} (hC : Cls K CC) (cl : PySem.W.findIn K (.ref CC) "__class__" = some (some (.builtin "object.__class__"))) (gt : PySem.W.specialIn K (.builtin "object.__class__") "__get__" = some (some (.builtin "getset_descriptor.__get__"))) (tk : PySem.W.takesIn K (.builtin "object.__class__") = some true) (ob : PySem.W.mroIn K CC (.type "object") = some true)
    (ha : SetAt CC CS H a qs) (hb : SetAt CC CS H b rs) (q : Q (.bl (decide (qs.map keyL = rs.map keyL))) H) : rEqFam K (FamS [CC]) (sp_Slips___eq__ (K := K) CC CS) (.ref a) (.ref b) H Q := by
  obtain ⟨dx, l, ads, ea, _⟩ := id ha
  obtain ⟨dy, m, bds, eb, _⟩ := id hb
  exact r_eqFam ea .hd (.base (.ins eb hC cl gt tk ob)) nf_self ⟨a, qs, .ref b, rfl, ha, .inl ⟨b, rs, rfl, hb, _, rfl, q⟩⟩
/-- a set == a list -/
theorem r_eqSetL {H : Hp} {Q : VK} {CC a p : Addr} {CS : List Addr} {qs : List SK} {xs : List V} (ki : PySem.W.kitOne K (.type "list") (.ref CC) = some false) (nf : PySem.W.notFirst K CC (.type "list") = true) (ha : SetAt CC CS H a qs) (hp : H p = some (.lst xs)) (q : Q (.bl false) H) : rEqFam K (FamS [CC]) (sp_Slips___eq__ (K := K) CC CS) (.ref a) (.ref p) H Q := by
  obtain ⟨dx, l, ads, ea, _⟩ := id ha
  exact r_eqFam ea .hd (.base (.lst hp)) nf ⟨a, qs, .ref p, rfl, ha, .inr ⟨_, .base (.lst hp), ki, _, rfl, q⟩⟩
theorem r_eqSlips {H : Hp} {Q : VK} {CS : List Addr} {a b : Addr} {q0 r0 : SK} (fc : ∀ C, FamS CS C → Cls K C) (cl : ∀ C, FamS CS C → PySem.W.findIn K (.ref C) "__class__" = some (some (.builtin "object.__class__"))) (gt : PySem.W.specialIn K (.builtin "object.__class__") "__get__" = some (some (.builtin "getset_descriptor.__get__"))) (tk : PySem.W.takesIn K (.builtin "object.__class__") = some true)
    (ob : ∀ C, FamS CS C → PySem.W.mroIn K C (.type "object") = some true) (nf : ∀ C, FamS CS C → ∀ D, FamS CS D → PySem.W.notFirst K C (.ref D) = true)
    (hA : SlipAt CS H a (pdS q0)) (hq : KS q0.1 q0.2) (hB : SlipAt CS H b (pdS r0)) (hr : KS r0.1 r0.2) (q : Q (.bl (decide (keyL q0 = keyL r0))) H) : rEqFam K (FamS CS) (sp_Slip___eq__ CS) (.ref a) (.ref b) H Q := by
  obtain ⟨C, dx, p, hS, e, _⟩ := id hA
  obtain ⟨D, dy, p', hS', e', _⟩ := id hB
  refine r_eqFam e hS.fam (.base (.ins e' (fc D hS'.fam) (cl D hS'.fam) gt tk (ob D hS'.fam))) (nf C hS.fam D hS'.fam) ⟨a, b, pdS q0, pdS r0, rfl, hA, hB, hq.shp, hr.shp, _, rfl, ?_⟩
  rw [eqv_keys hq hr]
  exact q
def sp_Slips___contains__ (C : Addr) (CS : List Addr) : Sp := fun vs H Q _ => ∃ (a b : Addr) (qs : List SK) (q0 : SK), vs = [.ref a, .ref b] ∧ SetAt C CS H a qs ∧ SlipAt CS H b (pdS q0) ∧ KS q0.1 q0.2 ∧ qs.length ≤ 1000 ∧ ∀ H', Kp [] H H' → Q (.bl (memQ q0 qs)) H'
abbrev s_Slips___contains__ : Stmt := inClass (top 24) 5
theorem sc_Slips___contains__ : FnScope ["self", "slip", "one"] ["self", "slip"] (defScope s_Slips___contains__) :=
  ⟨rfl, rfl, rfl, by decide +kernel, rfl, by decide +kernel, by decide +kernel⟩
theorem ok_Slips___contains__ {f : Addr} {fd : FuncData} (F : Fun K "__contains__" "Slips.__contains__" s_Slips___contains__ f fd) (T : Txt K mg C_Swap C_Leave C_Double C_Names C_Drop C_Slips C_BadSlip C_Slip G_SLIP_WORDS) (U_Slip___eq__ : UseMF P w K mg base 2 (FamS [C_Swap, C_Leave, C_Double, C_Names, C_Drop]) "__eq__" (sp_Slip___eq__ [C_Swap, C_Leave, C_Double, C_Names, C_Drop])) :
    FnOk P w K mg base CX0 4 f fd ["self", "slip"] (sp_Slips___contains__ C_Slips [C_Swap, C_Leave, C_Double, C_Names, C_Drop]) := by
  refine F.ok sc_Slips___contains__ (fun vs H Q E h => ?_) (fun cdv A outer s H vs Q E hr h => ?_)
  · obtain ⟨a, b, qs, q0, rfl, _⟩ := h
    rfl
  · obtain ⟨a, b, qs, q0, rfl, ⟨dx, l, ads, ea, el, hl⟩, hB, hk, hlen, q⟩ := h
    obtain ⟨f_Slip___eq__, R_Slip___eq__, M_Slip___eq__⟩ := U_Slip___eq__
    have hu := hu_of hr
    have hu64 := hr.units
    refine ⟨_, (pss_one (ps_ret (pe_callB (K_any (K := K) rfl rfl) (by rfl) T.z_any (by decide +kernel) (pa_cons (pe_lc (own := [("one", 2)]) (by rfl) sc_Slips___contains__.nd (K_pil (K := K) rfl (K_fld (K := K) rfl (pv 0) rfl)) (blkOk_by (own := [("one", 2)]) (N := ["self", "slip", "one"]) (sc := defScope s_Slips___contains__) (by decide +kernel)) (fun _ _ _ _ _ => (pg_name (i := 2) sc_Slips___contains__.nd rfl (by first | exact Or.inl rfl | exact Or.inr rfl))) (fun _ _ _ _ _ => pts_nil) (fun _ _ _ _ _ => (pe_cmpR (K_eqFam (K := K) (S := (FamS [C_Swap, C_Leave, C_Double, C_Names, C_Drop])) rfl M_Slip___eq__ R_Slip___eq__ (hr.mono (by first | decide | omega))) (pv 1) (pv 2) (nomark _)))) pa_nil)))), ?_⟩
    have hC := T.c_Slips
    have big : 5000 ≤ sizeLine := by decide
    walk_at "S"
    refine r_kFld ea hC T.na_Slips_kept rfl ?_
    refine r_cWL (SqL.of el) ?_
    refine r_kLcL (fun D i acc H' => Kp [] H H' ∧ acc = ((qs.take i).map fun r => decide (keyL q0 = keyL r)).map V.bl) (fun D H' nD k e => ⟨k, rfl⟩) (fun D i acc H' _ h => SqL.of (h.1 _ _ el not_nil)) ?_ ?_
    · rintro D i acc x H1 nD hx eD ⟨k1, rfl⟩
      obtain ⟨x', hx', rfl⟩ := map_at hx
      obtain ⟨r0, hr0, hsr, hkr⟩ := hl.at hx'
      walk_at "S"
      refine r_eqSlips T.fc_Slip T.cl_Slip T.gt_Slip T.tk_Slip T.ob_Slip T.nf_Slip (hB.kp k1) hk (hsr.kp k1) hkr ?_
      refine r_kApp eD (by
        simp only [List.length_map, List.length_take]
        omega) fun H2 k2 e2 => ⟨k1.step nD k2, ?_⟩
      rw [take_map _ hr0, List.map_append]
      rfl
    rintro D acc H1 nD eD ⟨k1, rfl⟩
    rw [List.length_map, hl.len, List.take_length] at eD
    walk_at "S"
    refine r_any (SqL.of eD) ?_
    have e : ((qs.map fun r => decide (keyL q0 = keyL r)).any id) = memQ q0 qs := by
      rw [List.any_map]
      unfold memQ
      congr 1
      funext r
      exact decide_eq_decide.mpr eq_comm
    rw [e]
    exact q H1 k1
def slipT (q : SK) : Str := slipText q.1 q.2
theorem slipT_len {q : SK} (h : KS q.1 q.2) : (slipT q).length ≤ 500 := text_len h.key.parts (Tells.short h.key)
def sp_Slips___str__ (C : Addr) (CS : List Addr) : Sp := fun vs H Q _ => ∃ (a : Addr) (qs : List SK), vs = [.ref a] ∧ SetAt C CS H a qs ∧ qs.length ≤ 1000 ∧ ∀ H', Kp [] H H' → Q (.str (Txt.join ", " (qs.map slipT))) H'
abbrev s_Slips___str__ : Stmt := inClass (top 24) 6
theorem sc_Slips___str__ : FnScope ["self", "slip"] ["self"] (defScope s_Slips___str__) :=
  ⟨rfl, rfl, rfl, by decide +kernel, rfl, by decide +kernel, by decide +kernel⟩
theorem ok_Slips___str__ {f : Addr} {fd : FuncData} (F : Fun K "__str__" "Slips.__str__" s_Slips___str__ f fd) (T : Txt K mg C_Swap C_Leave C_Double C_Names C_Drop C_Slips C_BadSlip C_Slip G_SLIP_WORDS) (U_Slip___str__ : UseMF P w K mg base 2 (FamS [C_Swap, C_Leave, C_Double, C_Names, C_Drop]) "__str__" (sp_Slip___str__ [C_Swap, C_Leave, C_Double, C_Names, C_Drop])) :
    FnOk P w K mg base CX0 5 f fd ["self"] (sp_Slips___str__ C_Slips [C_Swap, C_Leave, C_Double, C_Names, C_Drop]) := by
  refine F.ok sc_Slips___str__ (fun vs H Q E h => ?_) (fun cdv A outer s H vs Q E hr h => ?_)
  · obtain ⟨a, qs, rfl, _⟩ := h
    rfl
  · obtain ⟨a, qs, rfl, ⟨dx, l, ads, ea, el, hl⟩, hlen, q⟩ := h
    obtain ⟨f_Slip___str__, R_Slip___str__, M_Slip___str__⟩ := U_Slip___str__
    have hu := hu_of hr
    have hu64 := hr.units
    refine ⟨_, (pss_one (ps_ret (K_join (K := K) rfl pe_str (pe_lc (own := [("slip", 1)]) (by rfl) sc_Slips___str__.nd (K_pil (K := K) rfl (K_fld (K := K) rfl (pv 0) rfl)) (blkOk_by (own := [("slip", 1)]) (N := ["self", "slip"]) (sc := defScope s_Slips___str__) (by decide +kernel)) (fun _ _ _ _ _ => (pg_name (i := 1) sc_Slips___str__.nd rfl (by first | exact Or.inl rfl | exact Or.inr rfl))) (fun _ _ _ _ _ => pts_nil) (fun _ _ _ _ _ => (pe_callTy (cr_strFam (S := (FamS [C_Swap, C_Leave, C_Double, C_Names, C_Drop])) M_Slip___str__ R_Slip___str__ (hr.mono (by first | decide | omega))) (by rfl) T.z_str (by decide +kernel) (pa_cons (pv 1) pa_nil))))))), ?_⟩
    have hC := T.c_Slips
    have big : 5000 ≤ sizeLine := by decide
    walk_at "S"
    refine r_kFld ea hC T.na_Slips_kept rfl ?_
    refine r_cWL (SqL.of el) ?_
    refine r_kLcL (fun D i acc H' => Kp [] H H' ∧ acc = ((qs.take i).map slipT).map V.str) (fun D H' nD k e => ⟨k, rfl⟩) (fun D i acc H' _ h => SqL.of (h.1 _ _ el not_nil)) ?_ ?_
    · rintro D i acc x H1 nD hx eD ⟨k1, rfl⟩
      obtain ⟨x', hx', rfl⟩ := map_at hx
      obtain ⟨r0, hr0, hsr, hkr⟩ := hl.at hx'
      obtain ⟨C0, dx0, p0, hF, eb, hd0⟩ := id (hsr.kp k1)
      walk_at "S"
      refine r_strFam eb hF.fam ⟨x', r0.1, r0.2, rfl, hsr.kp k1, hkr.lt, hkr.two.1, hkr.two.2, fun d m => ⟨(hkr.key.parts.ok d m).1, (hkr.key.parts.ok d m).2.1⟩, fun H2 k2 => ?_⟩
      refine ⟨_, rfl, ?_⟩
      refine r_kApp (k2 _ _ eD not_nil) (by
        simp only [List.length_map, List.length_take]
        omega) fun H3 k3 e3 => ⟨(k1.trans k2).step nD k3, ?_⟩
      rw [take_map _ hr0, List.map_append]
      rfl
    rintro D acc H1 nD eD ⟨k1, rfl⟩
    rw [List.length_map, hl.len, List.take_length] at eD
    walk_at "S"
    refine r_joinL (SqL.of eD) (texts_fit hl.ks hlen) ?_
    exact q H1 k1
def sp_Slips___or__ (C : Addr) (CS : List Addr) : Sp := fun vs H Q _ => ∃ (a b : Addr) (qs rs : List SK), vs = [.ref a, .ref b] ∧ SetAt C CS H a qs ∧ SetAt C CS H b rs ∧ qs.length ≤ 100 ∧ rs.length ≤ 100 ∧ ∀ c H', H c = none → Kp [] H H' → SetAt C CS H' c (canon (qs ++ rs)) → Q (.ref c) H'
abbrev s_Slips___or__ : Stmt := inClass (top 24) 8
theorem sc_Slips___or__ : FnScope ["self", "other", "found"] ["self", "other"] (defScope s_Slips___or__) :=
  ⟨rfl, rfl, rfl, by decide +kernel, rfl, by decide +kernel, by decide +kernel⟩
theorem ok_Slips___or__ {f : Addr} {fd : FuncData} (F : Fun K "__or__" "Slips.__or__" s_Slips___or__ f fd) (T : Txt K mg C_Swap C_Leave C_Double C_Names C_Drop C_Slips C_BadSlip C_Slip G_SLIP_WORDS) (U_Slips___init__ : UseC P w K mg base 4 "Slips" C_Slips (sp_Slips___init__ C_Slips [C_Swap, C_Leave, C_Double, C_Names, C_Drop])) :
    FnOk P w K mg base CX0 6 f fd ["self", "other"] (sp_Slips___or__ C_Slips [C_Swap, C_Leave, C_Double, C_Names, C_Drop]) := by
  refine F.ok sc_Slips___or__ (fun vs H Q E h => ?_) (fun cdv A outer s H vs Q E hr h => ?_)
  · obtain ⟨a, b, qs, rs, rfl, _⟩ := h
    rfl
  · obtain ⟨a, b, qs, rs, rfl, ⟨dx, l, ads, ea, el, hl⟩, ⟨dy, m, bds, eb, em, hm⟩, hq, hr', q⟩ := h
    obtain ⟨f_Slips___init__, R_Slips___init__, M_Slips___init__, g_Slips___init__⟩ := U_Slips___init__
    have hu := hu_of hr
    have hu64 := hr.units
    refine ⟨_, (pss_cons (ps_set (i := 2) sc_Slips___or__.nd rfl (by first | exact Or.inl rfl | exact Or.inr rfl) (pe_op op_cat (K_fld (K := K) rfl (pv 0) rfl) (K_fld (K := K) rfl (pv 1) rfl)))
        (pss_one (ps_ret (pe_makeS1 (K := K) rfl M_Slips___init__ R_Slips___init__ (hr.mono (by first | decide | omega)) (by rfl) g_Slips___init__ pass0 (pv 2))))), ?_⟩
    have hC := T.c_Slips
    have big : 5000 ≤ sizeLine := by decide
    have hal := hl.len
    have hbl := hm.len
    walk_at "S"
    refine r_kFld ea hC T.na_Slips_kept rfl ?_
    walk_at "S"
    refine r_kFld eb hC T.na_Slips_kept rfl ?_
    refine r_cat el em (by
      rw [List.length_map, List.length_map]
      omega) fun F H1 nF k1 eF => ?_
    rw [← List.map_append] at eF
    have hsF : SlipsL [C_Swap, C_Leave, C_Double, C_Names, C_Drop] H1 (ads ++ bds) (qs ++ rs) := slips_app (hl.kp k1) (hm.kp k1)
    walk_at "S"
    refine r_kMakeS1 (SqL.of eF) fun x dx' Hm nx km ex => ⟨x, dx', ads ++ bds, _, rfl, ex, hsF.kp km, by rw [List.length_append]; omega, fun Hn kn hset => r_kMade ?_⟩
    exact q x Hn ((k1).free nx not_nil) ((k1).trans (km.trans' kn nx)) hset
def sp_Slips___and__ (C : Addr) (CS : List Addr) : Sp := fun vs H Q _ => ∃ (a b : Addr) (qs rs : List SK), vs = [.ref a, .ref b] ∧ SetAt C CS H a qs ∧ SetAt C CS H b rs ∧ qs.length ≤ 100 ∧ rs.length ≤ 100 ∧ ∀ c H', H c = none → Kp [] H H' → SetAt C CS H' c (canon (qs.filter (fun q => memQ q rs))) → Q (.ref c) H'
abbrev s_Slips___and__ : Stmt := inClass (top 24) 7
theorem sc_Slips___and__ : FnScope ["self", "other", "slip", "found"] ["self", "other"] (defScope s_Slips___and__) :=
  ⟨rfl, rfl, rfl, by decide +kernel, rfl, by decide +kernel, by decide +kernel⟩
theorem ok_Slips___and__ {f : Addr} {fd : FuncData} (F : Fun K "__and__" "Slips.__and__" s_Slips___and__ f fd) (T : Txt K mg C_Swap C_Leave C_Double C_Names C_Drop C_Slips C_BadSlip C_Slip G_SLIP_WORDS) (U_Slip___eq__ : UseMF P w K mg base 2 (FamS [C_Swap, C_Leave, C_Double, C_Names, C_Drop]) "__eq__" (sp_Slip___eq__ [C_Swap, C_Leave, C_Double, C_Names, C_Drop])) (U_Slips___init__ : UseC P w K mg base 4 "Slips" C_Slips (sp_Slips___init__ C_Slips [C_Swap, C_Leave, C_Double, C_Names, C_Drop])) :
    FnOk P w K mg base CX0 6 f fd ["self", "other"] (sp_Slips___and__ C_Slips [C_Swap, C_Leave, C_Double, C_Names, C_Drop]) := by
  refine F.ok sc_Slips___and__ (fun vs H Q E h => ?_) (fun cdv A outer s H vs Q E hr h => ?_)
  · obtain ⟨a, b, qs, rs, rfl, _⟩ := h
    rfl
  · obtain ⟨a, b, qs, rs, rfl, ⟨dx, l, ads, ea, el, hl⟩, ⟨dy, m, bds, eb, em, hm⟩, hq, hr', q⟩ := h
    obtain ⟨f_Slip___eq__, R_Slip___eq__, M_Slip___eq__⟩ := U_Slip___eq__
    obtain ⟨f_Slips___init__, R_Slips___init__, M_Slips___init__, g_Slips___init__⟩ := U_Slips___init__
    have hu := hu_of hr
    have hu64 := hr.units
    refine ⟨_, (pss_cons (ps_setLc (i := 3) (own := [("slip", 2)]) (by rfl) sc_Slips___and__.nd rfl rfl (sw_true rfl rfl rfl (by decide +kernel)) (K_pil (K := K) rfl (K_fld (K := K) rfl (pv 0) rfl)) (blkOk_by (own := [("slip", 2)]) (N := ["self", "other", "slip", "found"]) (sc := defScope s_Slips___and__) (by decide +kernel)) (fun _ _ _ _ _ => (pg_name (i := 2) sc_Slips___and__.nd rfl (by first | exact Or.inl rfl | exact Or.inr rfl))) (fun _ _ _ _ _ => pts_one (pt_cmpR (K_inLF (K := K) (S := (FamS [C_Swap, C_Leave, C_Double, C_Names, C_Drop])) rfl M_Slip___eq__ R_Slip___eq__ (hr.mono (by first | decide | omega))) (pv 2) (K_fld (K := K) rfl (pv 1) rfl) (by with_unfolding_all rfl))) (fun _ _ _ _ _ => (pv 2)))
        (pss_one (ps_ret (pe_makeS1 (K := K) rfl M_Slips___init__ R_Slips___init__ (hr.mono (by first | decide | omega)) (by rfl) g_Slips___init__ pass0 (pv 3))))), ?_⟩
    have hC := T.c_Slips
    have big : 5000 ≤ sizeLine := by decide
    have hal := hl.len
    have hbl := hm.len
    walk_at "S"
    refine r_kFld ea hC T.na_Slips_kept rfl ?_
    refine r_cWL (SqL.of ((Kp.refl [] H) _ _ el not_nil)) ?_
    refine r_kLcL (fun D i acc H' => Kp [] H H' ∧ ∃ as, acc = as.map V.ref ∧ SlipsL [C_Swap, C_Leave, C_Double, C_Names, C_Drop] H' as ((qs.take i).filter (fun q => memQ q rs))) (fun D H' nD k e => ⟨k, [], rfl, .nil⟩) (fun D i acc H' _ h => SqL.of (h.1 _ _ ((Kp.refl [] H) _ _ el not_nil) not_nil)) ?_ ?_
    · rintro D i acc x Hx nD hx eD ⟨kx, as, rfl, has⟩
      obtain ⟨x', hx', rfl⟩ := map_at hx
      obtain ⟨q0, hq0, hsq, hkq⟩ := hl.at hx'
      have k0x := (Kp.refl [] H).trans kx
      have hfl := take_filter (fun q => memQ q rs) hq0
      have hle := has.len
      have hle2 := List.length_filter_le (fun q => memQ q rs) (qs.take i)
      rw [List.length_take] at hle2
      have hlt := lt_at hq0
      walk_at "S"
      refine r_kFld (k0x _ _ eb not_nil) hC T.na_Slips_kept rfl ?_
      refine r_inLB (bs := rs.map fun r => decide (keyL r = keyL q0)) (k0x _ _ em not_nil) (by rw [List.length_map, List.length_map, hm.len]) (fun j z b hz hb => ?_) ?_
      · obtain ⟨z', hz', rfl⟩ := map_at hz
        obtain ⟨r0, hr0, hsr, hkr⟩ := hm.at hz'
        rw [List.getElem?_map, hr0] at hb
        have hb : some (decide (keyL r0 = keyL q0)) = some b := hb
        rw [← Option.some.inj hb]
        exact slip_eqv T.nf_Slip (hsr.kp k0x) hkr (hsq.kp k0x) hkq
      rw [any_mem]
      walk_at "S"
      refine r_kKeep (fun c => ?_) (fun c => ?_)
      · have c : (fun q => memQ q rs) q0 = true := by
          show memQ q0 rs = true
          cases hz : memQ q0 rs <;> rw [hz] at c <;> first | rfl | cases c
        walk_at "S"
        refine r_kApp eD (by
          rw [List.length_map]
          omega) fun Hy ky ey => ⟨kx.step nD ky, as ++ [x'], by rw [List.map_append]; rfl, ?_⟩
        rw [hfl, if_pos c]
        exact Paired.snoc (has.lst eD ky) ⟨(hsq.kp k0x).lst hkq eD ky, hkq⟩
      · have c : ¬ (fun q => memQ q rs) q0 = true := by
          show ¬ memQ q0 rs = true
          cases hz : memQ q0 rs <;> rw [hz] at c <;> first | (intro w; cases w; done) | cases c
        refine ⟨_, eD, kx, as, rfl, ?_⟩
        rw [hfl, if_neg c, List.append_nil]
        exact has
    rintro F acc H1 nF eF ⟨k1, fs1, rfl, hf1⟩
    rw [List.length_map, hl.len, List.take_length] at hf1
    walk_at "S"
    refine r_kMakeS1 (SqL.of eF) fun x dx' Hm nx km ex => ⟨x, dx', fs1, _, rfl, ex, hf1.kp km, Nat.le_trans (List.length_filter_le _ _) (by omega), fun Hn kn hset => r_kMade ?_⟩
    exact q x Hn ((k1).free nx not_nil) ((k1).trans (km.trans' kn nx)) hset
def sp_Slips___sub__ (C : Addr) (CS : List Addr) : Sp := fun vs H Q _ => ∃ (a b : Addr) (qs rs : List SK), vs = [.ref a, .ref b] ∧ SetAt C CS H a qs ∧ SetAt C CS H b rs ∧ qs.length ≤ 100 ∧ rs.length ≤ 100 ∧ ∀ c H', H c = none → Kp [] H H' → SetAt C CS H' c (canon (qs.filter (fun q => !memQ q rs))) → Q (.ref c) H'
abbrev s_Slips___sub__ : Stmt := inClass (top 24) 9
theorem sc_Slips___sub__ : FnScope ["self", "other", "slip", "found"] ["self", "other"] (defScope s_Slips___sub__) :=
  ⟨rfl, rfl, rfl, by decide +kernel, rfl, by decide +kernel, by decide +kernel⟩
theorem ok_Slips___sub__ {f : Addr} {fd : FuncData} (F : Fun K "__sub__" "Slips.__sub__" s_Slips___sub__ f fd) (T : Txt K mg C_Swap C_Leave C_Double C_Names C_Drop C_Slips C_BadSlip C_Slip G_SLIP_WORDS) (U_Slip___eq__ : UseMF P w K mg base 2 (FamS [C_Swap, C_Leave, C_Double, C_Names, C_Drop]) "__eq__" (sp_Slip___eq__ [C_Swap, C_Leave, C_Double, C_Names, C_Drop])) (U_Slips___init__ : UseC P w K mg base 4 "Slips" C_Slips (sp_Slips___init__ C_Slips [C_Swap, C_Leave, C_Double, C_Names, C_Drop])) :
    FnOk P w K mg base CX0 6 f fd ["self", "other"] (sp_Slips___sub__ C_Slips [C_Swap, C_Leave, C_Double, C_Names, C_Drop]) := by
  refine F.ok sc_Slips___sub__ (fun vs H Q E h => ?_) (fun cdv A outer s H vs Q E hr h => ?_)
  · obtain ⟨a, b, qs, rs, rfl, _⟩ := h
    rfl
  · obtain ⟨a, b, qs, rs, rfl, ⟨dx, l, ads, ea, el, hl⟩, ⟨dy, m, bds, eb, em, hm⟩, hq, hr', q⟩ := h
    obtain ⟨f_Slip___eq__, R_Slip___eq__, M_Slip___eq__⟩ := U_Slip___eq__
    obtain ⟨f_Slips___init__, R_Slips___init__, M_Slips___init__, g_Slips___init__⟩ := U_Slips___init__
    have hu := hu_of hr
    have hu64 := hr.units
    refine ⟨_, (pss_cons (ps_setLc (i := 3) (own := [("slip", 2)]) (by rfl) sc_Slips___sub__.nd rfl rfl (sw_true rfl rfl rfl (by decide +kernel)) (K_pil (K := K) rfl (K_fld (K := K) rfl (pv 0) rfl)) (blkOk_by (own := [("slip", 2)]) (N := ["self", "other", "slip", "found"]) (sc := defScope s_Slips___sub__) (by decide +kernel)) (fun _ _ _ _ _ => (pg_name (i := 2) sc_Slips___sub__.nd rfl (by first | exact Or.inl rfl | exact Or.inr rfl))) (fun _ _ _ _ _ => pts_one (pt_cmpR (K_ninLF (K := K) (S := (FamS [C_Swap, C_Leave, C_Double, C_Names, C_Drop])) rfl M_Slip___eq__ R_Slip___eq__ (hr.mono (by first | decide | omega))) (pv 2) (K_fld (K := K) rfl (pv 1) rfl) (by with_unfolding_all rfl))) (fun _ _ _ _ _ => (pv 2)))
        (pss_one (ps_ret (pe_makeS1 (K := K) rfl M_Slips___init__ R_Slips___init__ (hr.mono (by first | decide | omega)) (by rfl) g_Slips___init__ pass0 (pv 3))))), ?_⟩
    have hC := T.c_Slips
    have big : 5000 ≤ sizeLine := by decide
    have hal := hl.len
    have hbl := hm.len
    walk_at "S"
    refine r_kFld ea hC T.na_Slips_kept rfl ?_
    refine r_cWL (SqL.of ((Kp.refl [] H) _ _ el not_nil)) ?_
    refine r_kLcL (fun D i acc H' => Kp [] H H' ∧ ∃ as, acc = as.map V.ref ∧ SlipsL [C_Swap, C_Leave, C_Double, C_Names, C_Drop] H' as ((qs.take i).filter (fun q => !memQ q rs))) (fun D H' nD k e => ⟨k, [], rfl, .nil⟩) (fun D i acc H' _ h => SqL.of (h.1 _ _ ((Kp.refl [] H) _ _ el not_nil) not_nil)) ?_ ?_
    · rintro D i acc x Hx nD hx eD ⟨kx, as, rfl, has⟩
      obtain ⟨x', hx', rfl⟩ := map_at hx
      obtain ⟨q0, hq0, hsq, hkq⟩ := hl.at hx'
      have k0x := (Kp.refl [] H).trans kx
      have hfl := take_filter (fun q => !memQ q rs) hq0
      have hle := has.len
      have hle2 := List.length_filter_le (fun q => !memQ q rs) (qs.take i)
      rw [List.length_take] at hle2
      have hlt := lt_at hq0
      walk_at "S"
      refine r_kFld (k0x _ _ eb not_nil) hC T.na_Slips_kept rfl ?_
      refine r_inLB (bs := rs.map fun r => decide (keyL r = keyL q0)) (k0x _ _ em not_nil) (by rw [List.length_map, List.length_map, hm.len]) (fun j z b hz hb => ?_) ?_
      · obtain ⟨z', hz', rfl⟩ := map_at hz
        obtain ⟨r0, hr0, hsr, hkr⟩ := hm.at hz'
        rw [List.getElem?_map, hr0] at hb
        have hb : some (decide (keyL r0 = keyL q0)) = some b := hb
        rw [← Option.some.inj hb]
        exact slip_eqv T.nf_Slip (hsr.kp k0x) hkr (hsq.kp k0x) hkq
      rw [any_mem]
      walk_at "S"
      refine r_kKeep (fun c => ?_) (fun c => ?_)
      · have c : (fun q => !memQ q rs) q0 = true := by
          show (!memQ q0 rs) = true
          cases hz : memQ q0 rs <;> rw [hz] at c <;> first | rfl | cases c
        walk_at "S"
        refine r_kApp eD (by
          rw [List.length_map]
          omega) fun Hy ky ey => ⟨kx.step nD ky, as ++ [x'], by rw [List.map_append]; rfl, ?_⟩
        rw [hfl, if_pos c]
        exact Paired.snoc (has.lst eD ky) ⟨(hsq.kp k0x).lst hkq eD ky, hkq⟩
      · have c : ¬ (fun q => !memQ q rs) q0 = true := by
          show ¬ (!memQ q0 rs) = true
          cases hz : memQ q0 rs <;> rw [hz] at c <;> first | (intro w; cases w; done) | cases c
        refine ⟨_, eD, kx, as, rfl, ?_⟩
        rw [hfl, if_neg c, List.append_nil]
        exact has
    rintro F acc H1 nF eF ⟨k1, fs1, rfl, hf1⟩
    rw [List.length_map, hl.len, List.take_length] at hf1
    walk_at "S"
    refine r_kMakeS1 (SqL.of eF) fun x dx' Hm nx km ex => ⟨x, dx', fs1, _, rfl, ex, hf1.kp km, Nat.le_trans (List.length_filter_le _ _) (by omega), fun Hn kn hset => r_kMade ?_⟩
    exact q x Hn ((k1).free nx not_nil) ((k1).trans (km.trans' kn nx)) hset
def sp_Slips___xor__ (C : Addr) (CS : List Addr) : Sp := fun vs H Q _ => ∃ (a b : Addr) (qs rs : List SK), vs = [.ref a, .ref b] ∧ SetAt C CS H a qs ∧ SetAt C CS H b rs ∧ qs.length ≤ 100 ∧ rs.length ≤ 100 ∧ ∀ c H', H c = none → Kp [] H H' → SetAt C CS H' c (canon (qs.filter (fun q => !memQ q rs) ++ rs.filter (fun q => !memQ q qs))) → Q (.ref c) H'
abbrev s_Slips___xor__ : Stmt := inClass (top 24) 10
theorem sc_Slips___xor__ : FnScope ["self", "other", "slip", "found"] ["self", "other"] (defScope s_Slips___xor__) :=
  ⟨rfl, rfl, rfl, by decide +kernel, rfl, by decide +kernel, by decide +kernel⟩
theorem ok_Slips___xor__ {f : Addr} {fd : FuncData} (F : Fun K "__xor__" "Slips.__xor__" s_Slips___xor__ f fd) (T : Txt K mg C_Swap C_Leave C_Double C_Names C_Drop C_Slips C_BadSlip C_Slip G_SLIP_WORDS) (U_Slip___eq__ : UseMF P w K mg base 2 (FamS [C_Swap, C_Leave, C_Double, C_Names, C_Drop]) "__eq__" (sp_Slip___eq__ [C_Swap, C_Leave, C_Double, C_Names, C_Drop])) (U_Slips___init__ : UseC P w K mg base 4 "Slips" C_Slips (sp_Slips___init__ C_Slips [C_Swap, C_Leave, C_Double, C_Names, C_Drop])) :
    FnOk P w K mg base CX0 6 f fd ["self", "other"] (sp_Slips___xor__ C_Slips [C_Swap, C_Leave, C_Double, C_Names, C_Drop]) := by
  refine F.ok sc_Slips___xor__ (fun vs H Q E h => ?_) (fun cdv A outer s H vs Q E hr h => ?_)
  · obtain ⟨a, b, qs, rs, rfl, _⟩ := h
    rfl
  · obtain ⟨a, b, qs, rs, rfl, ⟨dx, l, ads, ea, el, hl⟩, ⟨dy, m, bds, eb, em, hm⟩, hq, hr', q⟩ := h
    obtain ⟨f_Slip___eq__, R_Slip___eq__, M_Slip___eq__⟩ := U_Slip___eq__
    obtain ⟨f_Slips___init__, R_Slips___init__, M_Slips___init__, g_Slips___init__⟩ := U_Slips___init__
    have hu := hu_of hr
    have hu64 := hr.units
    refine ⟨_, (pss_cons (ps_setLc (i := 3) (own := [("slip", 2)]) (by rfl) sc_Slips___xor__.nd rfl rfl (sw_true rfl rfl rfl (by decide +kernel)) (K_pil (K := K) rfl (K_fld (K := K) rfl (pv 0) rfl)) (blkOk_by (own := [("slip", 2)]) (N := ["self", "other", "slip", "found"]) (sc := defScope s_Slips___xor__) (by decide +kernel)) (fun _ _ _ _ _ => (pg_name (i := 2) sc_Slips___xor__.nd rfl (by first | exact Or.inl rfl | exact Or.inr rfl))) (fun _ _ _ _ _ => pts_one (pt_cmpR (K_ninLF (K := K) (S := (FamS [C_Swap, C_Leave, C_Double, C_Names, C_Drop])) rfl M_Slip___eq__ R_Slip___eq__ (hr.mono (by first | decide | omega))) (pv 2) (K_fld (K := K) rfl (pv 1) rfl) (by with_unfolding_all rfl))) (fun _ _ _ _ _ => (pv 2)))
        (pss_cons (ps_set (i := 3) sc_Slips___xor__.nd rfl (by first | exact Or.inl rfl | exact Or.inr rfl) (pe_op op_cat (pv 3) (pe_lc (own := [("slip", 2)]) (by rfl) sc_Slips___xor__.nd (K_pil (K := K) rfl (K_fld (K := K) rfl (pv 1) rfl)) (blkOk_by (own := [("slip", 2)]) (N := ["self", "other", "slip", "found"]) (sc := defScope s_Slips___xor__) (by decide +kernel)) (fun _ _ _ _ _ => (pg_name (i := 2) sc_Slips___xor__.nd rfl (by first | exact Or.inl rfl | exact Or.inr rfl))) (fun _ _ _ _ _ => pts_one (pt_cmpR (K_ninLF (K := K) (S := (FamS [C_Swap, C_Leave, C_Double, C_Names, C_Drop])) rfl M_Slip___eq__ R_Slip___eq__ (hr.mono (by first | decide | omega))) (pv 2) (K_fld (K := K) rfl (pv 0) rfl) (by with_unfolding_all rfl))) (fun _ _ _ _ _ => (pv 2)))))
        (pss_one (ps_ret (pe_makeS1 (K := K) rfl M_Slips___init__ R_Slips___init__ (hr.mono (by first | decide | omega)) (by rfl) g_Slips___init__ pass0 (pv 3)))))), ?_⟩
    have hC := T.c_Slips
    have big : 5000 ≤ sizeLine := by decide
    have hal := hl.len
    have hbl := hm.len
    walk_at "S"
    refine r_kFld ea hC T.na_Slips_kept rfl ?_
    refine r_cWL (SqL.of ((Kp.refl [] H) _ _ el not_nil)) ?_
    refine r_kLcL (fun D i acc H' => Kp [] H H' ∧ ∃ as, acc = as.map V.ref ∧ SlipsL [C_Swap, C_Leave, C_Double, C_Names, C_Drop] H' as ((qs.take i).filter (fun q => !memQ q rs))) (fun D H' nD k e => ⟨k, [], rfl, .nil⟩) (fun D i acc H' _ h => SqL.of (h.1 _ _ ((Kp.refl [] H) _ _ el not_nil) not_nil)) ?_ ?_
    · rintro D i acc x Hx nD hx eD ⟨kx, as, rfl, has⟩
      obtain ⟨x', hx', rfl⟩ := map_at hx
      obtain ⟨q0, hq0, hsq, hkq⟩ := hl.at hx'
      have k0x := (Kp.refl [] H).trans kx
      have hfl := take_filter (fun q => !memQ q rs) hq0
      have hle := has.len
      have hle2 := List.length_filter_le (fun q => !memQ q rs) (qs.take i)
      rw [List.length_take] at hle2
      have hlt := lt_at hq0
      walk_at "S"
      refine r_kFld (k0x _ _ eb not_nil) hC T.na_Slips_kept rfl ?_
      refine r_inLB (bs := rs.map fun r => decide (keyL r = keyL q0)) (k0x _ _ em not_nil) (by rw [List.length_map, List.length_map, hm.len]) (fun j z b hz hb => ?_) ?_
      · obtain ⟨z', hz', rfl⟩ := map_at hz
        obtain ⟨r0, hr0, hsr, hkr⟩ := hm.at hz'
        rw [List.getElem?_map, hr0] at hb
        have hb : some (decide (keyL r0 = keyL q0)) = some b := hb
        rw [← Option.some.inj hb]
        exact slip_eqv T.nf_Slip (hsr.kp k0x) hkr (hsq.kp k0x) hkq
      rw [any_mem]
      walk_at "S"
      refine r_kKeep (fun c => ?_) (fun c => ?_)
      · have c : (fun q => !memQ q rs) q0 = true := by
          show (!memQ q0 rs) = true
          cases hz : memQ q0 rs <;> rw [hz] at c <;> first | rfl | cases c
        walk_at "S"
        refine r_kApp eD (by
          rw [List.length_map]
          omega) fun Hy ky ey => ⟨kx.step nD ky, as ++ [x'], by rw [List.map_append]; rfl, ?_⟩
        rw [hfl, if_pos c]
        exact Paired.snoc (has.lst eD ky) ⟨(hsq.kp k0x).lst hkq eD ky, hkq⟩
      · have c : ¬ (fun q => !memQ q rs) q0 = true := by
          show ¬ (!memQ q0 rs) = true
          cases hz : memQ q0 rs <;> rw [hz] at c <;> first | (intro w; cases w; done) | cases c
        refine ⟨_, eD, kx, as, rfl, ?_⟩
        rw [hfl, if_neg c, List.append_nil]
        exact has
    rintro F acc H1 nF eF ⟨k1, fs1, rfl, hf1⟩
    rw [List.length_map, hl.len, List.take_length] at hf1
    walk_at "S"
    refine r_kFld (k1 _ _ eb not_nil) hC T.na_Slips_kept rfl ?_
    refine r_cWL (SqL.of ((k1) _ _ em not_nil)) ?_
    refine r_kLcL (fun D i acc H' => Kp [] H1 H' ∧ ∃ as, acc = as.map V.ref ∧ SlipsL [C_Swap, C_Leave, C_Double, C_Names, C_Drop] H' as ((rs.take i).filter (fun q => !memQ q qs))) (fun D H' nD k e => ⟨k, [], rfl, .nil⟩) (fun D i acc H' _ h => SqL.of (h.1 _ _ ((k1) _ _ em not_nil) not_nil)) ?_ ?_
    · rintro D i acc x Hx nD hx eD ⟨kx, as, rfl, has⟩
      obtain ⟨x', hx', rfl⟩ := map_at hx
      obtain ⟨q0, hq0, hsq, hkq⟩ := hm.at hx'
      have k0x := (k1).trans kx
      have hfl := take_filter (fun q => !memQ q qs) hq0
      have hle := has.len
      have hle2 := List.length_filter_le (fun q => !memQ q qs) (rs.take i)
      rw [List.length_take] at hle2
      have hlt := lt_at hq0
      walk_at "S"
      refine r_kFld (k0x _ _ ea not_nil) hC T.na_Slips_kept rfl ?_
      refine r_inLB (bs := qs.map fun r => decide (keyL r = keyL q0)) (k0x _ _ el not_nil) (by rw [List.length_map, List.length_map, hl.len]) (fun j z b hz hb => ?_) ?_
      · obtain ⟨z', hz', rfl⟩ := map_at hz
        obtain ⟨r0, hr0, hsr, hkr⟩ := hl.at hz'
        rw [List.getElem?_map, hr0] at hb
        have hb : some (decide (keyL r0 = keyL q0)) = some b := hb
        rw [← Option.some.inj hb]
        exact slip_eqv T.nf_Slip (hsr.kp k0x) hkr (hsq.kp k0x) hkq
      rw [any_mem]
      walk_at "S"
      refine r_kKeep (fun c => ?_) (fun c => ?_)
      · have c : (fun q => !memQ q qs) q0 = true := by
          show (!memQ q0 qs) = true
          cases hz : memQ q0 qs <;> rw [hz] at c <;> first | rfl | cases c
        walk_at "S"
        refine r_kApp eD (by
          rw [List.length_map]
          omega) fun Hy ky ey => ⟨kx.step nD ky, as ++ [x'], by rw [List.map_append]; rfl, ?_⟩
        rw [hfl, if_pos c]
        exact Paired.snoc (has.lst eD ky) ⟨(hsq.kp k0x).lst hkq eD ky, hkq⟩
      · have c : ¬ (fun q => !memQ q qs) q0 = true := by
          show ¬ (!memQ q0 qs) = true
          cases hz : memQ q0 qs <;> rw [hz] at c <;> first | (intro w; cases w; done) | cases c
        refine ⟨_, eD, kx, as, rfl, ?_⟩
        rw [hfl, if_neg c, List.append_nil]
        exact has
    rintro G acc H2 nG eG ⟨k2, fs2, rfl, hf2⟩
    rw [List.length_map, hm.len, List.take_length] at hf2
    have l1 := hf1.len
    have l2 := hf2.len
    have l3 := List.length_filter_le (fun q => !memQ q rs) qs
    have l4 := List.length_filter_le (fun q => !memQ q qs) rs
    refine r_cat (k2 _ _ eF not_nil) eG (by
      rw [List.length_map, List.length_map]
      omega) fun U H3 nU k3 eU => ?_
    rw [← List.map_append] at eU
    have hsF := slips_app (hf1.kp (k2.trans k3)) (hf2.kp k3)
    have k13 := k1.trans (k2.trans k3)
    walk_at "S"
    refine r_kMakeS1 (SqL.of eU) fun x dx' Hm nx km ex => ⟨x, dx', fs1 ++ fs2, _, rfl, ex, hsF.kp km, by rw [List.length_append]; omega, fun Hn kn hset => r_kMade ?_⟩
    exact q x Hn ((k13).free nx not_nil) ((k13).trans (km.trans' kn nx)) hset

def sp_Slips_is_within (C : Addr) (CS : List Addr) : Sp := fun vs H Q _ => ∃ (a b : Addr) (qs rs : List SK), vs = [.ref a, .ref b] ∧ SetAt C CS H a qs ∧ SetAt C CS H b rs ∧ qs.length ≤ 1000 ∧ ∀ H', Kp [] H H' → Q (.bl (qs.all fun q => memQ q rs)) H'
abbrev s_Slips_is_within : Stmt := inClass (top 24) 11
theorem sc_Slips_is_within : FnScope ["self", "other", "slip"] ["self", "other"] (defScope s_Slips_is_within) :=
  ⟨rfl, rfl, rfl, by decide +kernel, rfl, by decide +kernel, by decide +kernel⟩
theorem ok_Slips_is_within {f : Addr} {fd : FuncData} (F : Fun K "is_within" "Slips.is_within" s_Slips_is_within f fd) (T : Txt K mg C_Swap C_Leave C_Double C_Names C_Drop C_Slips C_BadSlip C_Slip G_SLIP_WORDS) (U_Slip___eq__ : UseMF P w K mg base 2 (FamS [C_Swap, C_Leave, C_Double, C_Names, C_Drop]) "__eq__" (sp_Slip___eq__ [C_Swap, C_Leave, C_Double, C_Names, C_Drop])) :
    FnOk P w K mg base CX0 4 f fd ["self", "other"] (sp_Slips_is_within C_Slips [C_Swap, C_Leave, C_Double, C_Names, C_Drop]) := by
  refine F.ok sc_Slips_is_within (fun vs H Q E h => ?_) (fun cdv A outer s H vs Q E hr h => ?_)
  · obtain ⟨a, b, qs, rs, rfl, _⟩ := h
    rfl
  · obtain ⟨a, b, qs, rs, rfl, ⟨dx, l, ads, ea, el, hl⟩, ⟨dy, m, bds, eb, em, hm⟩, hlen, q⟩ := h
    obtain ⟨f_Slip___eq__, R_Slip___eq__, M_Slip___eq__⟩ := U_Slip___eq__
    have hu := hu_of hr
    have hu64 := hr.units
    refine ⟨_, (pss_one (ps_ret (pe_callB (K_all (K := K) rfl rfl) (by rfl) T.z_all (by decide +kernel) (pa_cons (pe_lc (own := [("slip", 2)]) (by rfl) sc_Slips_is_within.nd (K_pil (K := K) rfl (K_fld (K := K) rfl (pv 0) rfl)) (blkOk_by (own := [("slip", 2)]) (N := ["self", "other", "slip"]) (sc := defScope s_Slips_is_within) (by decide +kernel)) (fun _ _ _ _ _ => (pg_name (i := 2) sc_Slips_is_within.nd rfl (by first | exact Or.inl rfl | exact Or.inr rfl))) (fun _ _ _ _ _ => pts_nil) (fun _ _ _ _ _ => (pe_cmpR (K_inLF (K := K) (S := (FamS [C_Swap, C_Leave, C_Double, C_Names, C_Drop])) rfl M_Slip___eq__ R_Slip___eq__ (hr.mono (by first | decide | omega))) (pv 2) (K_fld (K := K) rfl (pv 1) rfl) (by with_unfolding_all rfl)))) pa_nil)))), ?_⟩
    have hC := T.c_Slips
    have big : 5000 ≤ sizeLine := by decide
    walk_at "S"
    refine r_kFld ea hC T.na_Slips_kept rfl ?_
    refine r_cWL (SqL.of el) ?_
    refine r_kLcL (fun D i acc H' => Kp [] H H' ∧ acc = ((qs.take i).map fun q => memQ q rs).map V.bl) (fun D H' nD k e => ⟨k, rfl⟩) (fun D i acc H' _ h => SqL.of (h.1 _ _ el not_nil)) ?_ ?_
    · rintro D i acc x H1 nD hx eD ⟨k1, rfl⟩
      obtain ⟨x', hx', rfl⟩ := map_at hx
      obtain ⟨q0, hq0, hsq, hkq⟩ := hl.at hx'
      walk_at "S"
      refine r_kFld (k1 _ _ eb not_nil) hC T.na_Slips_kept rfl ?_
      refine r_inLB (bs := rs.map fun r => decide (keyL r = keyL q0)) (k1 _ _ em not_nil) (by rw [List.length_map, List.length_map, hm.len]) (fun j z b hz hb => ?_) ?_
      · obtain ⟨z', hz', rfl⟩ := map_at hz
        obtain ⟨r0, hr0, hsr, hkr⟩ := hm.at hz'
        rw [List.getElem?_map, hr0] at hb
        have hb : some (decide (keyL r0 = keyL q0)) = some b := hb
        rw [← Option.some.inj hb]
        exact slip_eqv T.nf_Slip (hsr.kp k1) hkr (hsq.kp k1) hkq
      rw [any_mem]
      refine r_kApp eD (by
        simp only [List.length_map, List.length_take]
        omega) fun H2 k2 e2 => ⟨k1.step nD k2, ?_⟩
      rw [take_map _ hq0, List.map_append]
      cases memQ q0 rs <;> rfl
    rintro D acc H1 nD eD ⟨k1, rfl⟩
    rw [List.length_map, hl.len, List.take_length] at eD
    walk_at "S"
    refine r_all (SqL.of eD) ?_
    rw [List.all_map]
    exact q H1 k1


end
section
open NdefX
variable {P : Program} {w : World} {K : PySem.W.Frag} {mg : Str → Option Value} {base : Heap}
variable {C_Swap : Addr} {C_Leave : Addr} {C_Double : Addr} {C_Names : Addr} {C_Drop : Addr} {C_Slips : Addr} {C_BadSlip : Addr} {C_Slip : Addr} {G_SLIP_WORDS : Addr}
local macro_rules | `(tactic| walk_at "s") => `(tactic| (first
  | (with_reducible refine r_seq ?_)
  | (with_reducible refine r_asg ?_)
  | ((with_reducible refine' r_var (v := ?v) ?hv ?_); (case hv => exact rfl))
  | (with_reducible refine r_c ?_)
  | (with_reducible refine r_name ?_)
  | (with_reducible refine r_op ?_)
  | (with_reducible refine r_un ?_)
  | (with_reducible refine r_consA ?_)
  | (with_reducible refine r_nilA ?_)
  | (with_reducible refine r_I0 ?_)
  | (with_reducible refine r_U ?_)
  | (with_reducible refine r_eqI ?_)
  | (with_reducible refine r_neI ?_)
  | (with_reducible refine r_test ?_)
  | (with_reducible refine r_tB ?_)
  | (with_reducible refine r_kB ?_)
  | (with_reducible refine r_ifS ?_)
  | (with_reducible refine r_if ?_)
  | (with_reducible refine r_and ?_)
  | (with_reducible refine r_or ?_)
  | (with_reducible refine r_not ?_)
  | (with_reducible refine r_ret ?_)
  | (with_reducible refine r_retN ?_)
  | (with_reducible refine r_next ?_)
  | (with_reducible refine r_drop ?_)
  | (with_reducible refine r_brk ?_)
  | (with_reducible refine r_cont ?_)
  | (with_reducible refine r_andV ?_)
  | (with_reducible refine r_orV ?_)
  | (with_reducible refine r_notV ?_)
  | (with_reducible refine r_kNotV ?_)
  | (with_reducible refine r_lst ?_)
  | (with_reducible refine r_tup ?_)
  | (with_reducible refine r_dget ?_)
  | (with_reducible refine r_dput ?_)
  | (with_reducible refine r_use ?_)
  | (with_reducible refine r_cb ?_)
  | (with_reducible refine r_par ?_)
  | (with_reducible refine r_int ?_)
  | (with_reducible refine r_abs ?_)
  | (with_reducible refine r_max2 ?_)
  | (with_reducible refine r_min2 ?_)
  | (with_reducible refine r_pnil ?_)
  | (with_reducible refine r_pcons ?_)
  | (with_reducible refine r_eqS ?_)
  | (with_reducible refine r_neS ?_)
  | (with_reducible refine r_for ?_)
  | (with_reducible refine r_rng1 ?_)
  | (with_reducible refine r_rng2 ?_)
  | (with_reducible refine r_wl ?_)
  | (with_reducible refine r_wt ?_)
  | (with_reducible refine r_wq ?_)
  | (with_reducible refine r_ws ?_)
  | (with_reducible refine r_cWS ?_)
  | (with_reducible refine r_enum ?_)
  | (with_reducible refine r_zip ?_)
  | (with_reducible refine r_lc ?_)
  | (with_reducible refine r_dc ?_)
  | ((with_reducible refine r_kTurn ?ht ?_); (case ht => rfl))
  | ((with_reducible refine r_kTurnD ?ht ?_); (case ht => rfl))
  | (with_reducible refine r_yes ?_)
  | ((with_reducible refine r_kKeep1 ?hk ?_); (case hk => rfl))
  | ((with_reducible refine r_kKeepD1 ?hk ?_); (case hk => rfl))
  | (with_reducible refine r_gcons ?_)
  | (with_reducible refine r_gnil ?_)
  | (with_reducible refine r_bm ?_)
  | (with_reducible refine r_bm0 ?_)
  | (with_reducible refine r_fld ?_)
  | (with_reducible refine r_sfld ?_)
  | (with_reducible refine r_methR ?_)
  | (with_reducible refine r_makeR ?_)
  | (with_reducible refine r_chain ?_)))
local macro_rules | `(tactic| walk_at "S") => `(tactic| repeat walk_at "s")
local macro_rules | `(tactic| walk_at "D") => `(tactic| repeat' (first
  | exact AD_nil
  | refine AD_cons ?_ (fun _ _ => ?_)
  | refine ED_tup ?_ (Nat.le_trans (m := 100) (Nat.le_of_ble_eq_true rfl) (by decide))
  | refine ED_lst ?_ (Nat.le_trans (m := 100) (Nat.le_of_ble_eq_true rfl) (by decide))
  | exact ED_c (by constructor)
  | exact ED_var rfl (by constructor)))
local macro_rules | `(tactic| walk_at "N") => `(tactic| repeat' (first
  | exact AN_nil
  | refine AN_cons ?_ (fun _ _ => ?_)
  | refine EN_tup ?_ (Nat.le_trans (m := 100) (Nat.le_of_ble_eq_true rfl) (by decide))
  | refine EN_lst ?_ (Nat.le_trans (m := 100) (Nat.le_of_ble_eq_true rfl) (by decide))
  | exact EN_c (fun _ => by constructor)
  | exact EN_var rfl (fun _ => by constructor)))

local macro_rules | `(tactic| walk_at "s") => `(tactic| (first
  | (with_reducible refine r_sl ?_)
  | (with_reducible refine r_kS1 ?_)
  | (with_reducible refine r_kS2 ?_)
  | (with_reducible refine r_kS3 ?_)
  | (with_reducible refine r_noPart ?_)
  | (with_reducible refine r_part ?_)
  | (with_reducible refine r_kPart ?_)
  | (with_reducible refine r_gsub ?_)
  | (with_reducible refine r_m1 ?_)
  | (with_reducible refine r_kM1 ?_)
  | (with_reducible refine r_propF ?_)
  | (with_reducible refine r_drp ?_)
  | (with_reducible refine r_min2S ?_)
  | (with_reducible refine r_max2S ?_)
  | (with_reducible refine r_enumS ?_)
  | (with_reducible refine r_cEnumS ?_)
  | (with_reducible refine r_makeKS ?_)
  | (with_reducible refine r_makeS ?_)))

local macro_rules | `(tactic| walk_at "s") => `(tactic| (first
  | (with_reducible refine r_mkV ?_)
  | (with_reducible refine r_ofl ?_)
  | (with_reducible refine r_methF ?_)
  | (with_reducible refine r_callF ?_)
  | (with_reducible refine r_star ?_)
  | (with_reducible refine r_smeth ?_)
  | (with_reducible refine r_kSMeth ?_)))

local macro_rules | `(tactic| walk_at "s") => `(tactic| (first
  | (with_reducible refine r_dcT ?_)
  | ((with_reducible refine r_kTurnT ?ht ?_); (case ht => rfl))
  | ((with_reducible refine r_kKeepT1 ?hk ?_); (case hk => rfl))
  | (with_reducible refine r_own ?_)
  | (with_reducible refine r_cmeth ?_)
  | (with_reducible refine r_kCMeth ?_)
  | (with_reducible refine r_makeS1 ?_)
  | ((with_reducible refine r_makeV ?hv ?_); (case hv => rfl))
  | (with_reducible refine r_isBl ?_)
  | (with_reducible refine r_ltS ?_)
  | (with_reducible refine r_lr1 ?_)
  | (with_reducible refine r_lc2 ?_)
  | ((with_reducible refine r_kTurn2 ?ht ?_); (case ht => rfl))
  | ((with_reducible refine r_kKeep2 ?hk ?_); (case hk => rfl))))

local macro_rules | `(tactic| walk_at "s") => `(tactic| (first
  | (with_reducible refine r_tTruOwn ?_)
  | (with_reducible refine r_notOwn ?_)
  | (with_reducible refine r_par3 ?_)))

/-! ### the law's own keys, sets and texts -/
/-- a key, as the law holds it -/
theorem key_at {H : Hp} {kt : Addr} {k : Nat} {ds : List PyData} (h : Dt [] H (.ref kt) (.tuple (.int (k : Int) :: ds))) : ∃ vs, H kt = some (.tup (.int (k : Int) :: vs)) ∧ DtAll [] H vs ds := by
  obtain ⟨p, zs, ep, _, et, al⟩ := h.tuple
  cases ep
  cases al with
  | cons h0 al =>
    cases h0
    exact ⟨_, et, al⟩

theorem r_rest {H : Hp} {Q : VK} {p : Addr} {v : V} {vs : List V} (et : H p = some (.tup (v :: vs))) (q : ∀ b H', H b = none → Kp [] H H' → H' b = some (.tup vs) → Q (.ref b) H') : rSlT K (.ref p) (some 1) none H Q := by
  refine r_slT (SqT.of et) (fun z => ?_) fun b H2 nb k2 eb => ?_
  · have z1 : (if (1 : Int) < 0 then ((1 : Int) + ((v :: vs).length : Int)).toNat else min ((1 : Int).toNat) (v :: vs).length) = 0 := z.1
    rw [if_neg (by decide), List.length_cons] at z1
    have : (1 : Int).toNat = 1 := rfl
    omega
  rw [cut_1] at eb
  exact q b H2 nb k2 eb

theorem hw_words {k : Nat} (hk : k < 5) : atI (slipWords.map V.str) (k : Int) = some (V.str (slipWords.getD k "")) := by
  refine atI_nat ?_
  match k, hk with
  | 0, _ => rfl
  | 1, _ => rfl
  | 2, _ => rfl
  | 3, _ => rfl
  | 4, _ => rfl

def sp__law_slip (CS : List Addr) : Sp := fun vs H Q _ => ∃ (kt : Addr) (k : Nat) (ds : List PyData), vs = [.ref kt] ∧ Dt [] H (.ref kt) (.tuple (.int (k : Int) :: ds)) ∧ KS k ds ∧ ∀ a H', Kp [] H H' → SlipAt CS H' a (.int (k : Int) :: ds) → Q (.ref a) H'
abbrev s__law_slip : Stmt := top 33
theorem sc__law_slip : FnScope ["_law_key_here"] ["_law_key_here"] (defScope s__law_slip) :=
  ⟨rfl, rfl, rfl, by decide +kernel, rfl, by decide +kernel, by decide +kernel⟩
theorem ok__law_slip {f : Addr} {fd : FuncData} (F : Fun K "_law_slip" "_law_slip" s__law_slip f fd) (T : Txt K mg C_Swap C_Leave C_Double C_Names C_Drop C_Slips C_BadSlip C_Slip G_SLIP_WORDS) (U_Swap___init__ : UseCK P w K mg base 4 "Swap" C_Swap ["self", "first", "second"] (sp_Swap___init__ C_Swap C_BadSlip)) (U_Leave___init__ : UseCK P w K mg base 4 "Leave" C_Leave ["self", "place"] (sp_Leave___init__ C_Leave)) (U_Double___init__ : UseCK P w K mg base 4 "Double" C_Double ["self", "place"] (sp_Double___init__ C_Double)) (U_Names___init__ : UseCK P w K mg base 4 "Names" C_Names ["self", "first", "second"] (sp_Names___init__ C_Names C_BadSlip)) (U_Drop___init__ : UseCK P w K mg base 4 "Drop" C_Drop ["self", "word"] (sp_Drop___init__ C_Drop)) :
    FnOk P w K mg base CX0 6 f fd ["_law_key_here"] (sp__law_slip [C_Swap, C_Leave, C_Double, C_Names, C_Drop]) := by
  refine F.ok sc__law_slip (fun vs H Q E h => ?_) (fun cdv A outer s H vs Q E hr h => ?_)
  · obtain ⟨kt, k, ds, rfl, _⟩ := h
    rfl
  · obtain ⟨kt, k, ds, rfl, hd, hk, q⟩ := h
    obtain ⟨f_Swap___init__, R_Swap___init__, M_Swap___init__, g_Swap___init__⟩ := U_Swap___init__.x
    obtain ⟨f_Leave___init__, R_Leave___init__, M_Leave___init__, g_Leave___init__⟩ := U_Leave___init__.x
    obtain ⟨f_Double___init__, R_Double___init__, M_Double___init__, g_Double___init__⟩ := U_Double___init__.x
    obtain ⟨f_Names___init__, R_Names___init__, M_Names___init__, g_Names___init__⟩ := U_Names___init__.x
    obtain ⟨f_Drop___init__, R_Drop___init__, M_Drop___init__, g_Drop___init__⟩ := U_Drop___init__.x
    have hu := hu_of hr
    have hu64 := hr.units
    refine ⟨_, (pss_cons (ps_if (pt_cmpR op_eq (pe_ix (K_ixT (K := K) rfl) (pv 0) pe_int (fun _ _ => rfl)) pe_int (nomark _))
          (pss_one (ps_ret (pe_makeR M_Swap___init__ R_Swap___init__ (hr.mono (by first | decide | omega)) (by rfl) g_Swap___init__ passL (pa_cons (pe_ix (K_ixT (K := K) rfl) (pv 0) pe_int (fun _ _ => rfl)) (pa_cons (pe_ix (K_ixT (K := K) rfl) (pv 0) pe_int (fun _ _ => rfl)) pa_nil)))))
          pss_nil)
        (pss_cons (ps_if (pt_cmpR op_eq (pe_ix (K_ixT (K := K) rfl) (pv 0) pe_int (fun _ _ => rfl)) pe_int (nomark _))
          (pss_one (ps_ret (pe_makeR M_Leave___init__ R_Leave___init__ (hr.mono (by first | decide | omega)) (by rfl) g_Leave___init__ passL (pa_cons (pe_ix (K_ixT (K := K) rfl) (pv 0) pe_int (fun _ _ => rfl)) pa_nil))))
          pss_nil)
        (pss_cons (ps_if (pt_cmpR op_eq (pe_ix (K_ixT (K := K) rfl) (pv 0) pe_int (fun _ _ => rfl)) pe_int (nomark _))
          (pss_one (ps_ret (pe_makeR M_Double___init__ R_Double___init__ (hr.mono (by first | decide | omega)) (by rfl) g_Double___init__ passL (pa_cons (pe_ix (K_ixT (K := K) rfl) (pv 0) pe_int (fun _ _ => rfl)) pa_nil))))
          pss_nil)
        (pss_cons (ps_if (pt_cmpR op_eq (pe_ix (K_ixT (K := K) rfl) (pv 0) pe_int (fun _ _ => rfl)) pe_int (nomark _))
          (pss_one (ps_ret (pe_makeR M_Names___init__ R_Names___init__ (hr.mono (by first | decide | omega)) (by rfl) g_Names___init__ passL (pa_cons (pe_ix (K_ixT (K := K) rfl) (pv 0) pe_int (fun _ _ => rfl)) (pa_cons (pe_ix (K_ixT (K := K) rfl) (pv 0) pe_int (fun _ _ => rfl)) pa_nil)))))
          pss_nil)
        (pss_one (ps_ret (pe_makeR M_Drop___init__ R_Drop___init__ (hr.mono (by first | decide | omega)) (by rfl) g_Drop___init__ passL (pa_cons (pe_ix (K_ixT (K := K) rfl) (pv 0) pe_int (fun _ _ => rfl)) pa_nil)))))))), ?_⟩
    obtain ⟨vs, et, hal⟩ := key_at hd
    have x0 : ∀ {Q : VK}, Q (.int (k : Int)) H → rIxT K (.ref kt) (.int 0) H Q := fun q => r_ixT (SqT.of et) (atI_nat (j := 0) rfl) q
    have x1 : ∀ {Q : VK} {v : V}, vs[0]? = some v → Q v H → rIxT K (.ref kt) (.int 1) H Q := fun e q => r_ixT (SqT.of et) (atI_nat (j := 1) e) q
    have x2 : ∀ {Q : VK} {v : V}, vs[1]? = some v → Q v H → rIxT K (.ref kt) (.int 2) H Q := fun e q => r_ixT (SqT.of et) (atI_nat (j := 2) e) q
    walk_at "S"
    refine x0 ?_
    walk_at "S"
    cases hk with
    | @sw i j h1 h2 =>
      cases hal with
      | cons h0 hal =>
      cases hal with
      | cons h1' hal =>
      cases hal
      cases h0
      cases h1'
      refine r_kIfS1 (by decide) ?_
      walk_at "S"
      refine x1 rfl ?_
      walk_at "S"
      refine x2 rfl ?_
      walk_at "S"
      refine r_kMake fun o dx H1 n1 k1 e1 => swap_made (CS := [C_Swap, C_Leave, C_Double, C_Names, C_Drop]) ⟨0, rfl, rfl⟩ n1 k1 e1 (by omega) fun o H1 k1 s1 => ?_
      have e1 : mnI (i : Int) (j : Int) = i := by
        unfold mnI
        rw [if_neg (by omega)]
      have e2 : mxI (i : Int) (j : Int) = j := by
        unfold mxI
        rw [if_pos (by omega)]
      unfold swapD at s1
      rw [e1, e2] at s1
      exact q o H1 k1 s1
    | @lv i h1 =>
      cases hal with
      | cons h0 hal =>
      cases hal
      cases h0
      refine r_kIfS0 (by decide) ?_
      walk_at "S"
      refine x0 ?_
      walk_at "S"
      refine r_kIfS1 (by decide) ?_
      walk_at "S"
      refine x1 rfl ?_
      walk_at "S"
      exact r_kMake fun o dx H1 n1 k1 e1 => ⟨o, dx, _, rfl, e1, leave_made (k := 1) (d := .int (i : Int)) ⟨1, rfl, rfl⟩ n1 k1 (fun _ => .int _) fun o H1 k1 s1 => q o H1 k1 s1⟩
    | @db i h1 =>
      cases hal with
      | cons h0 hal =>
      cases hal
      cases h0
      refine r_kIfS0 (by decide) ?_
      walk_at "S"
      refine x0 ?_
      walk_at "S"
      refine r_kIfS0 (by decide) ?_
      walk_at "S"
      refine x0 ?_
      walk_at "S"
      refine r_kIfS1 (by decide) ?_
      walk_at "S"
      refine x1 rfl ?_
      walk_at "S"
      exact r_kMake fun o dx H1 n1 k1 e1 => ⟨o, dx, _, rfl, e1, leave_made (k := 2) (d := .int (i : Int)) ⟨2, rfl, rfl⟩ n1 k1 (fun _ => .int _) fun o H1 k1 s1 => q o H1 k1 s1⟩
    | @nm a b hne ha hb e1 e2 =>
      cases hal with
      | cons h0 hal =>
      cases hal with
      | cons h1' hal =>
      cases hal
      cases h0
      cases h1'
      refine r_kIfS0 (by decide) ?_
      walk_at "S"
      refine x0 ?_
      walk_at "S"
      refine r_kIfS0 (by decide) ?_
      walk_at "S"
      refine x0 ?_
      walk_at "S"
      refine r_kIfS0 (by decide) ?_
      walk_at "S"
      refine x0 ?_
      walk_at "S"
      refine r_kIfS1 (by decide) ?_
      walk_at "S"
      refine x1 rfl ?_
      walk_at "S"
      refine x2 rfl ?_
      walk_at "S"
      refine r_kMake fun o dx H1 n1 k1 e1' => names_made (CS := [C_Swap, C_Leave, C_Double, C_Names, C_Drop]) ⟨3, rfl, rfl⟩ n1 k1 e1' hne fun o H1 k1 s1 => ?_
      unfold namesD at s1
      rw [e1, e2] at s1
      exact q o H1 k1 s1
    | @dr a h1 =>
      cases hal with
      | cons h0 hal =>
      cases hal
      cases h0
      refine r_kIfS0 (by decide) ?_
      walk_at "S"
      refine x0 ?_
      walk_at "S"
      refine r_kIfS0 (by decide) ?_
      walk_at "S"
      refine x0 ?_
      walk_at "S"
      refine r_kIfS0 (by decide) ?_
      walk_at "S"
      refine x0 ?_
      walk_at "S"
      refine r_kIfS0 (by decide) ?_
      walk_at "S"
      refine x1 rfl ?_
      walk_at "S"
      exact r_kMake fun o dx H1 n1 k1 e1 => ⟨o, dx, _, rfl, e1, leave_made (k := 4) (d := .str a) ⟨4, rfl, rfl⟩ n1 k1 (fun _ => .str _) fun o H1 k1 s1 => q o H1 k1 s1⟩

theorem key_dt {H : Hp} {t : Addr} {q : SK} (e : H t = some (.tup ((keyL q).map kV))) (h : KS q.1 q.2) : Dt [] H (.ref t) (.tuple (.int (q.1 : Int) :: q.2)) := keyL_dt h not_nil e
theorem KeysL.at {H : Hp} {ts : List Addr} {qs : List SK} {i : Nat} {t : Addr} (h : KeysL H ts qs) (e : ts[i]? = some t) : ∃ q, qs[i]? = some q ∧ H t = some (.tup ((keyL q).map kV)) ∧ KS q.1 q.2 := LiI.paired_get h e
theorem canon_app {l m : List SK} (hl : AllKS l) (hm : AllKS m) : canon (canon l ++ canon m) = canon (l ++ m) := by
  refine canon_ext (fun q z => ?_) (fun q z => ?_) fun q => ?_
  · rcases List.mem_append.mp z with z | z
    · exact canon_ks hl q z
    · exact canon_ks hm q z
  · rcases List.mem_append.mp z with z | z
    · exact hl q z
    · exact hm q z
  · rw [List.mem_append, List.mem_append, canon_mem hl, canon_mem hm]
theorem ks_take {l : List SK} (h : AllKS l) (i : Nat) : AllKS (l.take i) := fun q m => h q (List.mem_of_mem_take m)
theorem ks_one {q : SK} (h : KS q.1 q.2) : AllKS [q] := fun r m => by rw [List.mem_singleton.mp m]; exact h
theorem ks_app {l m : List SK} (h : AllKS l) (g : AllKS m) : AllKS (l ++ m) := fun q z => (List.mem_append.mp z).elim (h q) (g q)
def sp__law_text : Sp := fun vs H Q _ => ∃ (t : Addr) (q : SK), vs = [.ref t] ∧ H t = some (.tup ((keyL q).map kV)) ∧ KS q.1 q.2 ∧ ∀ H', Kp [] H H' → Q (.str (slipT q)) H'
abbrev s__law_text : Stmt := top 36
theorem sc__law_text : FnScope ["_law_key_here", "_law_part"] ["_law_key_here"] (defScope s__law_text) :=
  ⟨rfl, rfl, rfl, by decide +kernel, rfl, by decide +kernel, by decide +kernel⟩
theorem ok__law_text {f : Addr} {fd : FuncData} (F : Fun K "_law_text" "_law_text" s__law_text f fd) (T : Txt K mg C_Swap C_Leave C_Double C_Names C_Drop C_Slips C_BadSlip C_Slip G_SLIP_WORDS) :
    FnOk P w K mg base CX0 2 f fd ["_law_key_here"] (sp__law_text) := by
  refine F.ok sc__law_text (fun vs H Q E h => ?_) (fun cdv A outer s H vs Q E hr h => ?_)
  · obtain ⟨t, q, rfl, _⟩ := h
    rfl
  · obtain ⟨t, q0, rfl, et0, hk, q⟩ := h
    have hu := hu_of hr
    have hu64 := hr.units
    refine ⟨_, (pss_one (ps_ret (K_join (K := K) rfl pe_str (pe_op op_cat (pe_lst (pa_cons (pe_ix (K_ixL (K := K) rfl) (pe_lst (pa_cons pe_str (pa_cons pe_str (pa_cons pe_str (pa_cons pe_str (pa_cons pe_str pa_nil)))))) (pe_ix (K_ixT (K := K) rfl) (pv 0) pe_int (fun _ _ => rfl)) (fun _ _ => rfl)) pa_nil)) (pe_lc (own := [("_law_part", 1)]) (by rfl) sc__law_text.nd (K_pit (K := K) rfl (pe_slice (K_slT (K := K) rfl) (pv 0) (po_some pe_int) po_none)) (blkOk_by (own := [("_law_part", 1)]) (N := ["_law_key_here", "_law_part"]) (sc := defScope s__law_text) (by decide +kernel)) (fun _ _ _ _ _ => (pg_name (i := 1) sc__law_text.nd rfl (by first | exact Or.inl rfl | exact Or.inr rfl))) (fun _ _ _ _ _ => pts_nil) (fun _ _ _ _ _ => (pe_callTy cr_strIS (by rfl) T.z_str (by decide +kernel) (pa_cons (pv 1) pa_nil)))))))), ?_⟩
    have big : 5000 ≤ sizeLine := by decide
    obtain ⟨vs, et, hal⟩ := key_at (key_dt et0 hk)
    have hvl := hal.length
    have htwo := hk.two.2
    walk_at "S"
    refine r_kLst (xs := slipWords.map V.str) (by show 5 ≤ sizeLine; decide) fun W H1 nW k1 eW => ?_
    walk_at "S"
    refine r_ixT (SqT.of (k1 _ _ et not_nil)) (atI_nat (j := 0) rfl) ?_
    refine r_ixL (SqL.of eW) (hw_words hk.lt) ?_
    walk_at "S"
    refine r_kLst (xs := [V.str (slipWords.getD q0.1 "")]) (by show 1 ≤ sizeLine; decide) fun W2 H2 nW2 k2 eW2 => ?_
    walk_at "S"
    have k02 := k1.trans k2
    refine r_rest (k02 _ _ et not_nil) fun b H3 nb k3 eb => ?_
    have k03 := k02.trans k3
    refine r_cWT (SqT.of eb) ?_
    refine r_kLcT (fun D j ac H' => Kp [] H3 H' ∧ ac = ((q0.2.take j).map strD).map V.str) (fun D H' nD k e => ⟨k, rfl⟩) (fun D j ac H' _ h => SqT.of (h.1 _ _ eb not_nil)) ?_ ?_
    · rintro D j ac x Ha nD hx eD ⟨ka, rfl⟩
      obtain ⟨d, hd', hxd⟩ := hal.at hx
      walk_at "S"
      refine r_strIS ((hxd.mono k03).mono ka) (hk.key.parts.ok d (mem_at hd')).1 ?_
      refine r_kApp eD ?_ fun Hb kb eb' => ⟨ka.step nD kb, ?_⟩
      · rw [List.length_map, List.length_map, List.length_take]
        omega
      · rw [take_map _ hd', List.map_append]
        rfl
    rintro D2 ac Ha nD2 eD2 ⟨ka, rfl⟩
    rw [hvl, List.take_length] at eD2
    walk_at "S"
    refine r_cat ((k3.trans ka) _ _ eW2 not_nil) eD2 ?_ fun r Hb nr kb er => ?_
    · rw [List.length_map, List.length_map]
      show 1 + q0.2.length ≤ sizeLine
      omega
    walk_at "S"
    refine ⟨" ", r, slipWords.getD q0.1 "" :: q0.2.map strD, rfl, rfl, .inl (SqL.of er), ?_, ?_⟩
    · have h1 := sum_le (ys := q0.2.map strD) (m := 1000) fun y hy => by
        obtain ⟨d, hd, rfl⟩ := List.mem_map.mp hy
        exact (hk.key.parts.ok d hd).2.1
      rw [List.length_map] at h1
      have h3 : (slipWords.getD q0.1 "").length ≤ 6 := by
        have hk5 : q0.1 < 5 := hk.lt
        generalize q0.1 = k at hk5
        match k, hk5 with
        | 0, _ => decide
        | 1, _ => decide
        | 2, _ => decide
        | 3, _ => decide
        | 4, _ => decide
      rw [List.map_cons, List.sum_cons, List.length_cons, List.length_map]
      have h5 : (Str.ofString " ").length = 1 := rfl
      rw [h5]
      omega
    · exact q _ (k03.trans (ka.trans kb))
def sp__law_set (C : Addr) (CS : List Addr) : Sp := fun vs H Q _ => ∃ (p : Addr) (ts : List Addr) (ks : List SK), vs = [.ref p] ∧ H p = some (.lst (ts.map V.ref)) ∧ KeysL H ts ks ∧ ks.length ≤ 60 ∧ ∀ a H', H a = none → Kp [] H H' → SetAt C CS H' a (canon ks) → Q (.ref a) H'
abbrev s__law_set : Stmt := top 35
theorem sc__law_set : FnScope ["_law_keys", "_law_made", "_law_key_here"] ["_law_keys"] (defScope s__law_set) :=
  ⟨rfl, rfl, rfl, by decide +kernel, rfl, by decide +kernel, by decide +kernel⟩
theorem ok__law_set {f : Addr} {fd : FuncData} (F : Fun K "_law_set" "_law_set" s__law_set f fd) (T : Txt K mg C_Swap C_Leave C_Double C_Names C_Drop C_Slips C_BadSlip C_Slip G_SLIP_WORDS) (U_Slips___init__ : UseC P w K mg base 4 "Slips" C_Slips (sp_Slips___init__ C_Slips [C_Swap, C_Leave, C_Double, C_Names, C_Drop])) (U_Slips___or__ : UseMF P w K mg base 6 (FamS [C_Slips]) "__or__" (sp_Slips___or__ C_Slips [C_Swap, C_Leave, C_Double, C_Names, C_Drop])) (U__law_slip : Use P w K mg base 6 "_law_slip" ["_law_key_here"] (sp__law_slip [C_Swap, C_Leave, C_Double, C_Names, C_Drop])) :
    FnOk P w K mg base CX0 8 f fd ["_law_keys"] (sp__law_set C_Slips [C_Swap, C_Leave, C_Double, C_Names, C_Drop]) := by
  refine F.ok sc__law_set (fun vs H Q E h => ?_) (fun cdv A outer s H vs Q E hr h => ?_)
  · obtain ⟨p, ts, ks, rfl, _⟩ := h
    rfl
  · obtain ⟨p, ts, ks, rfl, ep, hts, hl, q⟩ := h
    obtain ⟨f_Slips___init__, R_Slips___init__, M_Slips___init__, g_Slips___init__⟩ := U_Slips___init__
    obtain ⟨f_Slips___or__, R_Slips___or__, M_Slips___or__⟩ := U_Slips___or__
    have hu := hu_of hr
    have hu64 := hr.units
    refine ⟨_, (pss_cons (ps_set (i := 1) sc__law_set.nd rfl (by first | exact Or.inl rfl | exact Or.inr rfl) (pe_makeR0 M_Slips___init__ R_Slips___init__ (hr.mono (by first | decide | omega)) (by rfl) g_Slips___init__ pass0))
        (pss_cons (ps_for PassesOwn.never (by rfl) (K_pil (K := K) rfl (pv 0)) (pg_name (i := 2) sc__law_set.nd rfl (by first | exact Or.inl rfl | exact Or.inr rfl))
          (pss_one (ps_set (i := 1) sc__law_set.nd rfl (by first | exact Or.inl rfl | exact Or.inr rfl) (pe_op (K_binFam (K := K) (S := (FamS [C_Slips])) (op := .BitOr) (nm := "__or__") rfl (by rfl) M_Slips___or__ (fam_cons T.sf_Slips fam_nil) R_Slips___or__ (hr.mono (by first | decide | omega))) (pv 1) (pe_makeR M_Slips___init__ R_Slips___init__ (hr.mono (by first | decide | omega)) (by rfl) g_Slips___init__ pass0 (pa_cons (pe_use U__law_slip (hr.mono (by first | decide | omega)) (by rfl) (pa_cons (pv 2) pa_nil)) pa_nil))))))
        (pss_one (ps_ret (pv 1))))), ?_⟩
    have hks := hts.ks
    walk_at "S"
    refine r_kMake fun o dx H1 n1 k1 e1 => ⟨o, dx, [], [], rfl, e1, .nil, by decide, fun H2 k2 hset => r_kMade ?_⟩
    have k02 : Kp [] H H2 := k1.trans' k2 n1
    walk_at "S"
    refine r_cWL (SqL.of (k02 _ _ ep not_nil)) ?_
    refine r_kForL (fun i σ' H' => ∃ m s2, σ' = [some (.ref p), some (.ref m), s2] ∧ H m = none ∧ Kp [] H H' ∧ SetAt C_Slips [C_Swap, C_Leave, C_Double, C_Names, C_Drop] H' m (canon (ks.take i))) ⟨o, _, rfl, n1, k02, hset⟩ (fun i σ' H' _ ⟨_, _, _, _, k, _⟩ => SqL.of (k _ _ ep not_nil)) ?_ ?_
    · rintro i x σ' H3 hx ⟨m, s2, rfl, nm, k3, hset3⟩
      obtain ⟨t, ht, rfl⟩ := map_at hx
      obtain ⟨q0, hq0, et, hk⟩ := hts.at ht
      walk_at "S"
      refine ⟨t, q0.1, q0.2, rfl, key_dt (k3 _ _ et not_nil) hk, hk, fun b H4 k4 hb => ?_⟩
      walk_at "S"
      refine r_kMake fun o dx H5 n5 k5 e5 => ⟨o, dx, [b], [q0], rfl, e5, .cons ⟨hb.kp k5, hk⟩ .nil, by show 1 ≤ 1000; decide, fun H6 k6 hone => r_kMade ?_⟩
      have k46 : Kp [] H4 H6 := k5.trans' k6 n5
      have k36 := k4.trans k46
      have hset6 := hset3.kp k36
      obtain ⟨dxm, lm, am, em, _⟩ := id hset6
      obtain ⟨dxo, lo, ao, eo, _⟩ := id hone
      refine r_binOwn .hd em eo ⟨m, o, _, _, rfl, hset6, hone, ?_, ?_, fun c H7 nc k7 hc => r_kObj ?_⟩
      · have := canon_len (ks.take i)
        rw [List.length_take] at this
        omega
      · exact Nat.le_trans (canon_len [q0]) (by show 1 ≤ 100; decide)
      walk_at "S"
      have k37 := k36.trans k7
      refine ⟨c, _, rfl, (k3.trans k36).free nc not_nil, k3.trans k37, ?_⟩
      rw [take_more hq0, ← canon_app (ks_take hks i) (ks_one hk)]
      exact hc
    · rintro σ' H3 ⟨m, s2, rfl, nm, k3, hset3⟩
      rw [List.length_map, hts.len, List.take_length] at hset3
      walk_at "S"
      exact q m H3 nm k3 hset3

end
section
open NdefX
variable {P : Program} {w : World} {K : PySem.W.Frag} {mg : Str → Option Value} {base : Heap}
variable {C_Swap : Addr} {C_Leave : Addr} {C_Double : Addr} {C_Names : Addr} {C_Drop : Addr} {C_Slips : Addr} {C_BadSlip : Addr} {C_Slip : Addr} {G_SLIP_WORDS : Addr}
local macro_rules | `(tactic| walk_at "s") => `(tactic| (first
  | (with_reducible refine r_seq ?_)
  | (with_reducible refine r_asg ?_)
  | ((with_reducible refine' r_var (v := ?v) ?hv ?_); (case hv => exact rfl))
  | (with_reducible refine r_c ?_)
  | (with_reducible refine r_name ?_)
  | (with_reducible refine r_op ?_)
  | (with_reducible refine r_un ?_)
  | (with_reducible refine r_consA ?_)
  | (with_reducible refine r_nilA ?_)
  | (with_reducible refine r_I0 ?_)
  | (with_reducible refine r_U ?_)
  | (with_reducible refine r_eqI ?_)
  | (with_reducible refine r_neI ?_)
  | (with_reducible refine r_test ?_)
  | (with_reducible refine r_tB ?_)
  | (with_reducible refine r_kB ?_)
  | (with_reducible refine r_ifS ?_)
  | (with_reducible refine r_if ?_)
  | (with_reducible refine r_and ?_)
  | (with_reducible refine r_or ?_)
  | (with_reducible refine r_not ?_)
  | (with_reducible refine r_ret ?_)
  | (with_reducible refine r_retN ?_)
  | (with_reducible refine r_next ?_)
  | (with_reducible refine r_drop ?_)
  | (with_reducible refine r_brk ?_)
  | (with_reducible refine r_cont ?_)
  | (with_reducible refine r_andV ?_)
  | (with_reducible refine r_orV ?_)
  | (with_reducible refine r_notV ?_)
  | (with_reducible refine r_kNotV ?_)
  | (with_reducible refine r_lst ?_)
  | (with_reducible refine r_tup ?_)
  | (with_reducible refine r_dget ?_)
  | (with_reducible refine r_dput ?_)
  | (with_reducible refine r_use ?_)
  | (with_reducible refine r_cb ?_)
  | (with_reducible refine r_par ?_)
  | (with_reducible refine r_int ?_)
  | (with_reducible refine r_abs ?_)
  | (with_reducible refine r_max2 ?_)
  | (with_reducible refine r_min2 ?_)
  | (with_reducible refine r_pnil ?_)
  | (with_reducible refine r_pcons ?_)
  | (with_reducible refine r_eqS ?_)
  | (with_reducible refine r_neS ?_)
  | (with_reducible refine r_for ?_)
  | (with_reducible refine r_rng1 ?_)
  | (with_reducible refine r_rng2 ?_)
  | (with_reducible refine r_wl ?_)
  | (with_reducible refine r_wt ?_)
  | (with_reducible refine r_wq ?_)
  | (with_reducible refine r_ws ?_)
  | (with_reducible refine r_cWS ?_)
  | (with_reducible refine r_enum ?_)
  | (with_reducible refine r_zip ?_)
  | (with_reducible refine r_lc ?_)
  | (with_reducible refine r_dc ?_)
  | ((with_reducible refine r_kTurn ?ht ?_); (case ht => rfl))
  | ((with_reducible refine r_kTurnD ?ht ?_); (case ht => rfl))
  | (with_reducible refine r_yes ?_)
  | ((with_reducible refine r_kKeep1 ?hk ?_); (case hk => rfl))
  | ((with_reducible refine r_kKeepD1 ?hk ?_); (case hk => rfl))
  | (with_reducible refine r_gcons ?_)
  | (with_reducible refine r_gnil ?_)
  | (with_reducible refine r_bm ?_)
  | (with_reducible refine r_bm0 ?_)
  | (with_reducible refine r_fld ?_)
  | (with_reducible refine r_sfld ?_)
  | (with_reducible refine r_methR ?_)
  | (with_reducible refine r_makeR ?_)
  | (with_reducible refine r_chain ?_)))
local macro_rules | `(tactic| walk_at "S") => `(tactic| repeat walk_at "s")
local macro_rules | `(tactic| walk_at "D") => `(tactic| repeat' (first
  | exact AD_nil
  | refine AD_cons ?_ (fun _ _ => ?_)
  | refine ED_tup ?_ (Nat.le_trans (m := 100) (Nat.le_of_ble_eq_true rfl) (by decide))
  | refine ED_lst ?_ (Nat.le_trans (m := 100) (Nat.le_of_ble_eq_true rfl) (by decide))
  | exact ED_c (by constructor)
  | exact ED_var rfl (by constructor)))
local macro_rules | `(tactic| walk_at "N") => `(tactic| repeat' (first
  | exact AN_nil
  | refine AN_cons ?_ (fun _ _ => ?_)
  | refine EN_tup ?_ (Nat.le_trans (m := 100) (Nat.le_of_ble_eq_true rfl) (by decide))
  | refine EN_lst ?_ (Nat.le_trans (m := 100) (Nat.le_of_ble_eq_true rfl) (by decide))
  | exact EN_c (fun _ => by constructor)
  | exact EN_var rfl (fun _ => by constructor)))

local macro_rules | `(tactic| walk_at "s") => `(tactic| (first
  | (with_reducible refine r_sl ?_)
  | (with_reducible refine r_kS1 ?_)
  | (with_reducible refine r_kS2 ?_)
  | (with_reducible refine r_kS3 ?_)
  | (with_reducible refine r_noPart ?_)
  | (with_reducible refine r_part ?_)
  | (with_reducible refine r_kPart ?_)
  | (with_reducible refine r_gsub ?_)
  | (with_reducible refine r_m1 ?_)
  | (with_reducible refine r_kM1 ?_)
  | (with_reducible refine r_propF ?_)
  | (with_reducible refine r_drp ?_)
  | (with_reducible refine r_min2S ?_)
  | (with_reducible refine r_max2S ?_)
  | (with_reducible refine r_enumS ?_)
  | (with_reducible refine r_cEnumS ?_)
  | (with_reducible refine r_makeKS ?_)
  | (with_reducible refine r_makeS ?_)))

local macro_rules | `(tactic| walk_at "s") => `(tactic| (first
  | (with_reducible refine r_mkV ?_)
  | (with_reducible refine r_ofl ?_)
  | (with_reducible refine r_methF ?_)
  | (with_reducible refine r_callF ?_)
  | (with_reducible refine r_star ?_)
  | (with_reducible refine r_smeth ?_)
  | (with_reducible refine r_kSMeth ?_)))

local macro_rules | `(tactic| walk_at "s") => `(tactic| (first
  | (with_reducible refine r_dcT ?_)
  | ((with_reducible refine r_kTurnT ?ht ?_); (case ht => rfl))
  | ((with_reducible refine r_kKeepT1 ?hk ?_); (case hk => rfl))
  | (with_reducible refine r_own ?_)
  | (with_reducible refine r_cmeth ?_)
  | (with_reducible refine r_kCMeth ?_)
  | (with_reducible refine r_makeS1 ?_)
  | ((with_reducible refine r_makeV ?hv ?_); (case hv => rfl))
  | (with_reducible refine r_isBl ?_)
  | (with_reducible refine r_ltS ?_)
  | (with_reducible refine r_lr1 ?_)
  | (with_reducible refine r_lc2 ?_)
  | ((with_reducible refine r_kTurn2 ?ht ?_); (case ht => rfl))
  | ((with_reducible refine r_kKeep2 ?hk ?_); (case hk => rfl))))

local macro_rules | `(tactic| walk_at "s") => `(tactic| (first
  | (with_reducible refine r_tTruOwn ?_)
  | (with_reducible refine r_notOwn ?_)
  | (with_reducible refine r_par3 ?_)))

/-! ### a drawn key -/
def sp__law_key : Sp := fun vs H Q _ => ∃ (p l : Addr) (ws : List Str), vs = [.ref p, .ref l] ∧ BagL H p ∧ H l = some (.lst (ws.map V.str)) ∧ l ≠ p ∧ (∀ w ∈ ws, nameB w = true) ∧ 0 < ws.length ∧ ws.length ≤ 100 ∧
  ∀ (t : Addr) (q : SK) H', KS q.1 q.2 → H t = none → Kp [p] H H' → H' t = some (.tup ((keyL q).map kV)) → BagL H' p → Q (.ref t) H'
theorem BagL.tup {H H' : Hp} {p t : Addr} (b : BagL H p) (n : H t = none) : t ≠ p := by
  obtain ⟨o, e⟩ := b.some
  exact ne_none e n
abbrev s__law_key : Stmt := top 34
theorem sc__law_key : FnScope ["_law_bag_here", "_law_words_here", "_law_one", "_law_two", "_law_low", "_law_high", "_law_choice"] ["_law_bag_here", "_law_words_here"] (defScope s__law_key) :=
  ⟨rfl, rfl, rfl, by decide +kernel, rfl, by decide +kernel, by decide +kernel⟩
theorem ok__law_key {f : Addr} {fd : FuncData} (F : Fun K "_law_key" "_law_key" s__law_key f fd) (T : Txt K mg C_Swap C_Leave C_Double C_Names C_Drop C_Slips C_BadSlip C_Slip G_SLIP_WORDS) (U__law_take : Use P w K mg base 2 "_law_take" ["_law_bag_here", "_law_many"] (sp__law_take K)) (U__law_of : Use P w K mg base 4 "_law_of" ["_law_bag_here", "_law_some"] (sp__law_of K)) :
    FnOk P w K mg base CX0 6 f fd ["_law_bag_here", "_law_words_here"] (sp__law_key) := by
  refine F.ok sc__law_key (fun vs H Q E h => ?_) (fun cdv A outer s H vs Q E hr h => ?_)
  · obtain ⟨p, l, ws, rfl, _⟩ := h
    rfl
  · obtain ⟨p, l, ws, rfl, hb, el, lp, hB, hw0, hw, q⟩ := h
    have hu := hu_of hr
    have hu64 := hr.units
    refine ⟨_, (pss_cons (ps_par (i := 2) (j := 3) (by rfl) sc__law_key.nd rfl rfl (by decide) rfl rfl (pa_cons (pe_use U__law_take (hr.mono (by first | decide | omega)) (by rfl) (pa_cons (pv 0) (pa_cons pe_int pa_nil))) (pa_cons (pe_use U__law_take (hr.mono (by first | decide | omega)) (by rfl) (pa_cons (pv 0) (pa_cons pe_int pa_nil))) pa_nil)) (by rfl))
        (pss_cons (ps_par (i := 4) (j := 5) (by rfl) sc__law_key.nd rfl rfl (by decide) rfl rfl (pa_cons (pe_use U__law_of (hr.mono (by first | decide | omega)) (by rfl) (pa_cons (pv 0) (pa_cons (pv 1) pa_nil))) (pa_cons (pe_use U__law_of (hr.mono (by first | decide | omega)) (by rfl) (pa_cons (pv 0) (pa_cons (pv 1) pa_nil))) pa_nil)) (by rfl))
        (pss_cons (ps_set (i := 6) sc__law_key.nd rfl (by first | exact Or.inl rfl | exact Or.inr rfl) (pe_use U__law_take (hr.mono (by first | decide | omega)) (by rfl) (pa_cons (pv 0) (pa_cons pe_int pa_nil))))
        (pss_cons (ps_if (pt_cmpR op_eq (pv 6) pe_int (nomark _))
          (pss_cons (ps_set (i := 3) sc__law_key.nd rfl (by first | exact Or.inl rfl | exact Or.inr rfl) (pe_op op_add (pv 3) (pe_callTy cr_int (by rfl) T.z_int (by decide +kernel) (pa_cons (pe_cmpR op_ge (pv 3) (pv 2) (nomark _)) pa_nil))))
          (pss_one (ps_ret (pe_tup (pa_cons pe_int (pa_cons (pe_callB (cr_min2 rfl) (by rfl) T.z_min (by decide +kernel) (pa_cons (pv 2) (pa_cons (pv 3) pa_nil))) (pa_cons (pe_callB (cr_max2 rfl) (by rfl) T.z_max (by decide +kernel) (pa_cons (pv 2) (pa_cons (pv 3) pa_nil))) pa_nil)))))))
          pss_nil)
        (pss_cons (ps_if (pt_cutT (PW.pt (pw_and (pt_cmpR op_eq (pv 6) pe_int (nomark _)) (pw_and1 (pt_cmpR op_ne (pv 4) (pv 5) (nomark _))))))
          (pss_one (ps_ret (pe_tup (pa_cons pe_int (pa_cons (pe_callB (cr_min2S rfl) (by rfl) T.z_min (by decide +kernel) (pa_cons (pv 4) (pa_cons (pv 5) pa_nil))) (pa_cons (pe_callB (cr_max2S rfl) (by rfl) T.z_max (by decide +kernel) (pa_cons (pv 4) (pa_cons (pv 5) pa_nil))) pa_nil))))))
          pss_nil)
        (pss_one (ps_ret (pe_ifExp (pt_chain op_lt op_lt pe_int (pv 6) pe_int) (pe_tup (pa_cons (pv 6) (pa_cons (pv 2) pa_nil))) (pe_tup (pa_cons pe_int (pa_cons (pv 4) pa_nil))))))))))), ?_⟩
    have big : 5000 ≤ sizeLine := by decide
    have wl : (ws.map V.str).length = ws.length := List.length_map _
    walk_at "S"
    refine ⟨p, _, rfl, hb, by decide, by decide, fun one H1 one0 one1 k1 b1 => ?_⟩
    walk_at "S"
    refine ⟨p, _, rfl, b1, by decide, by decide, fun two H2 two0 two1 k2 b2 => ?_⟩
    walk_at "S"
    refine ⟨_, _, rfl, ?_⟩
    walk_at "S"
    have k02 := k1.trans k2
    refine ⟨p, l, _, rfl, b2, SqL.of (k02 _ _ el (not_one lp)), lp, by rw [wl]; exact hw0, by rw [wl]; omega, fun v H3 hv k3 b3 => ?_⟩
    obtain ⟨low, hlow, rfl⟩ := List.mem_map.mp hv
    walk_at "S"
    have k03 := k02.trans k3
    refine ⟨p, l, _, rfl, b3, SqL.of (k03 _ _ el (not_one lp)), lp, by rw [wl]; exact hw0, by rw [wl]; omega, fun v H4 hv k4 b4 => ?_⟩
    obtain ⟨high, hhigh, rfl⟩ := List.mem_map.mp hv
    walk_at "S"
    refine ⟨_, _, rfl, ?_⟩
    walk_at "S"
    have k04 := k03.trans k4
    refine ⟨p, _, rfl, b4, by decide, by decide, fun ch H5 ch0 ch1 k5 b5 => ?_⟩
    have k05 := k04.trans k5
    obtain ⟨one, rfl⟩ : ∃ n : Nat, one = n := ⟨one.toNat, by omega⟩
    obtain ⟨two, rfl⟩ : ∃ n : Nat, two = n := ⟨two.toNat, by omega⟩
    obtain ⟨ch, rfl⟩ : ∃ n : Nat, ch = n := ⟨ch.toNat, by omega⟩
    have fin : ∀ (q0 : SK) (xs : List V), xs = (keyL q0).map kV → KS q0.1 q0.2 → xs.length ≤ sizeLine ∧ ∀ t, H5 t = none → Q (.ref t) (upd H5 t (.tup xs)) := fun q0 xs hx hk => by
      subst hx
      refine ⟨?_, fun t n => ?_⟩
      · have := hk.two.2
        rw [List.length_map]
        unfold keyL
        rw [List.length_cons, List.length_map]
        omega
      · have tp := b5.tup (H' := H5) n
        exact q t q0 _ hk (by
          cases e : H t with
          | none => rfl
          | some o =>
            rw [k05 _ _ e (not_one tp)] at n
            cases n) (k05.trans (Kp.new n)) upd_same (b5.kp (Kp.new (ex := []) n) not_nil)
    walk_at "S"
    refine r_kIfS (fun c => ?_) (fun c => ?_)
    · walk_at "S"
      refine r_intB ?_
      walk_at "S"
      obtain ⟨t2, ht2⟩ : ∃ t2 : Nat, (two : Int) + (if decide ((one : Int) ≤ (two : Int)) = true then 1 else 0) = (t2 : Int) := ⟨two + (if decide ((one : Int) ≤ (two : Int)) = true then 1 else 0), by split <;> omega⟩
      rw [ht2]
      have hne : t2 ≠ one := by
        by_cases z : (one : Int) ≤ (two : Int)
        · rw [if_pos (decide_eq_true z)] at ht2
          omega
        · rw [if_neg (by rw [decide_eq_false z]; decide)] at ht2
          omega
      have h29 : t2 ≤ 9 := by
        split at ht2 <;> omega
      walk_at "S"
      refine fin (0, [.int (if (t2 : Int) < (one : Int) then (t2 : Int) else (one : Int)), .int (if (t2 : Int) > (one : Int) then (t2 : Int) else (one : Int))]) _ rfl ?_
      by_cases z : t2 < one
      · rw [if_pos (by omega), if_neg (by omega)]
        exact KS.sw z (by omega)
      · rw [if_neg (by omega), if_pos (by omega)]
        exact KS.sw (by omega) (by omega)
    · have c0 : ¬ (ch : Int) = 0 := of_decide_eq_false c
      walk_at "S"
      refine r_cutT (fun b H' => H' = H5 ∧ (b = true → ch = 3 ∧ low ≠ high) ∧ (b = false → ch = 3 → low = high)) ?_ ?_
      · walk_at "S"
        refine r_kAnd (fun z => ?_) (fun z => ⟨rfl, (fun w => nomatch w), fun _ w => ?_⟩)
        · walk_at "S"
          refine ⟨rfl, fun w => ⟨?_, ?_⟩, fun w _ => ?_⟩
          · have := of_decide_eq_true z
            omega
          · simpa using w
          · simpa using w
        · have := of_decide_eq_false z
          omega
      rintro b H6 ⟨rfl, hb1, hb0⟩
      refine r_kIfS (fun z => ?_) (fun z => ?_)
      · obtain ⟨_, hne⟩ := hb1 z
        walk_at "S"
        obtain ⟨hm, hx⟩ := minB (hB _ hlow) (hB _ hhigh)
        refine fin (3, [.str (minS low high), .str (maxS low high)]) _ rfl ?_
        refine KS.nm (mm_ne hne) hm hx ?_ ?_
        · exact (mm_idem hne).1
        · exact (mm_idem hne).2
      · have hq := hb0 z
        walk_at "S"
        refine r_kCh (fun z1 => ?_) (fun z1 => ?_)
        · have z1 : 0 < (ch : Int) := of_decide_eq_true z1
          walk_at "S"
          refine r_kIf (fun z2 => ?_) (fun z2 => ?_)
          · have z2 : (ch : Int) < 3 := of_decide_eq_true z2
            walk_at "S"
            refine fin (ch, [.int (one : Int)]) _ rfl ?_
            rcases (by omega : ch = 1 ∨ ch = 2) with rfl | rfl
            · exact KS.lv (by omega)
            · exact KS.db (by omega)
          · walk_at "S"
            exact fin (4, [.str low]) _ rfl (KS.dr (hB _ hlow))
        · walk_at "S"
          refine r_kIf0 rfl ?_
          walk_at "S"
          exact fin (4, [.str low]) _ rfl (KS.dr (hB _ hlow))

end
section
open NdefX
variable {P : Program} {w : World} {K : PySem.W.Frag} {mg : Str → Option Value} {base : Heap}
variable {C_Swap : Addr} {C_Leave : Addr} {C_Double : Addr} {C_Names : Addr} {C_Drop : Addr} {C_Slips : Addr} {C_BadSlip : Addr} {C_Slip : Addr} {G_SLIP_WORDS : Addr}
local macro_rules | `(tactic| walk_at "s") => `(tactic| (first
  | (with_reducible refine r_seq ?_)
  | (with_reducible refine r_asg ?_)
  | ((with_reducible refine' r_var (v := ?v) ?hv ?_); (case hv => exact rfl))
  | (with_reducible refine r_c ?_)
  | (with_reducible refine r_name ?_)
  | (with_reducible refine r_op ?_)
  | (with_reducible refine r_un ?_)
  | (with_reducible refine r_consA ?_)
  | (with_reducible refine r_nilA ?_)
  | (with_reducible refine r_I0 ?_)
  | (with_reducible refine r_U ?_)
  | (with_reducible refine r_eqI ?_)
  | (with_reducible refine r_neI ?_)
  | (with_reducible refine r_test ?_)
  | (with_reducible refine r_tB ?_)
  | (with_reducible refine r_kB ?_)
  | (with_reducible refine r_ifS ?_)
  | (with_reducible refine r_if ?_)
  | (with_reducible refine r_and ?_)
  | (with_reducible refine r_or ?_)
  | (with_reducible refine r_not ?_)
  | (with_reducible refine r_ret ?_)
  | (with_reducible refine r_retN ?_)
  | (with_reducible refine r_next ?_)
  | (with_reducible refine r_drop ?_)
  | (with_reducible refine r_brk ?_)
  | (with_reducible refine r_cont ?_)
  | (with_reducible refine r_andV ?_)
  | (with_reducible refine r_orV ?_)
  | (with_reducible refine r_notV ?_)
  | (with_reducible refine r_kNotV ?_)
  | (with_reducible refine r_lst ?_)
  | (with_reducible refine r_tup ?_)
  | (with_reducible refine r_dget ?_)
  | (with_reducible refine r_dput ?_)
  | (with_reducible refine r_use ?_)
  | (with_reducible refine r_cb ?_)
  | (with_reducible refine r_par ?_)
  | (with_reducible refine r_int ?_)
  | (with_reducible refine r_abs ?_)
  | (with_reducible refine r_max2 ?_)
  | (with_reducible refine r_min2 ?_)
  | (with_reducible refine r_pnil ?_)
  | (with_reducible refine r_pcons ?_)
  | (with_reducible refine r_eqS ?_)
  | (with_reducible refine r_neS ?_)
  | (with_reducible refine r_for ?_)
  | (with_reducible refine r_rng1 ?_)
  | (with_reducible refine r_rng2 ?_)
  | (with_reducible refine r_wl ?_)
  | (with_reducible refine r_wt ?_)
  | (with_reducible refine r_wq ?_)
  | (with_reducible refine r_ws ?_)
  | (with_reducible refine r_cWS ?_)
  | (with_reducible refine r_enum ?_)
  | (with_reducible refine r_zip ?_)
  | (with_reducible refine r_lc ?_)
  | (with_reducible refine r_dc ?_)
  | ((with_reducible refine r_kTurn ?ht ?_); (case ht => rfl))
  | ((with_reducible refine r_kTurnD ?ht ?_); (case ht => rfl))
  | (with_reducible refine r_yes ?_)
  | ((with_reducible refine r_kKeep1 ?hk ?_); (case hk => rfl))
  | ((with_reducible refine r_kKeepD1 ?hk ?_); (case hk => rfl))
  | (with_reducible refine r_gcons ?_)
  | (with_reducible refine r_gnil ?_)
  | (with_reducible refine r_bm ?_)
  | (with_reducible refine r_bm0 ?_)
  | (with_reducible refine r_fld ?_)
  | (with_reducible refine r_sfld ?_)
  | (with_reducible refine r_methR ?_)
  | (with_reducible refine r_makeR ?_)
  | (with_reducible refine r_chain ?_)))
local macro_rules | `(tactic| walk_at "S") => `(tactic| repeat walk_at "s")
local macro_rules | `(tactic| walk_at "D") => `(tactic| repeat' (first
  | exact AD_nil
  | refine AD_cons ?_ (fun _ _ => ?_)
  | refine ED_tup ?_ (Nat.le_trans (m := 100) (Nat.le_of_ble_eq_true rfl) (by decide))
  | refine ED_lst ?_ (Nat.le_trans (m := 100) (Nat.le_of_ble_eq_true rfl) (by decide))
  | exact ED_c (by constructor)
  | exact ED_var rfl (by constructor)))
local macro_rules | `(tactic| walk_at "N") => `(tactic| repeat' (first
  | exact AN_nil
  | refine AN_cons ?_ (fun _ _ => ?_)
  | refine EN_tup ?_ (Nat.le_trans (m := 100) (Nat.le_of_ble_eq_true rfl) (by decide))
  | refine EN_lst ?_ (Nat.le_trans (m := 100) (Nat.le_of_ble_eq_true rfl) (by decide))
  | exact EN_c (fun _ => by constructor)
  | exact EN_var rfl (fun _ => by constructor)))

local macro_rules | `(tactic| walk_at "s") => `(tactic| (first
  | (with_reducible refine r_sl ?_)
  | (with_reducible refine r_kS1 ?_)
  | (with_reducible refine r_kS2 ?_)
  | (with_reducible refine r_kS3 ?_)
  | (with_reducible refine r_noPart ?_)
  | (with_reducible refine r_part ?_)
  | (with_reducible refine r_kPart ?_)
  | (with_reducible refine r_gsub ?_)
  | (with_reducible refine r_m1 ?_)
  | (with_reducible refine r_kM1 ?_)
  | (with_reducible refine r_propF ?_)
  | (with_reducible refine r_drp ?_)
  | (with_reducible refine r_min2S ?_)
  | (with_reducible refine r_max2S ?_)
  | (with_reducible refine r_enumS ?_)
  | (with_reducible refine r_cEnumS ?_)
  | (with_reducible refine r_makeKS ?_)
  | (with_reducible refine r_makeS ?_)))

local macro_rules | `(tactic| walk_at "s") => `(tactic| (first
  | (with_reducible refine r_mkV ?_)
  | (with_reducible refine r_ofl ?_)
  | (with_reducible refine r_methF ?_)
  | (with_reducible refine r_callF ?_)
  | (with_reducible refine r_star ?_)
  | (with_reducible refine r_smeth ?_)
  | (with_reducible refine r_kSMeth ?_)))

local macro_rules | `(tactic| walk_at "s") => `(tactic| (first
  | (with_reducible refine r_dcT ?_)
  | ((with_reducible refine r_kTurnT ?ht ?_); (case ht => rfl))
  | ((with_reducible refine r_kKeepT1 ?hk ?_); (case hk => rfl))
  | (with_reducible refine r_own ?_)
  | (with_reducible refine r_cmeth ?_)
  | (with_reducible refine r_kCMeth ?_)
  | (with_reducible refine r_makeS1 ?_)
  | ((with_reducible refine r_makeV ?hv ?_); (case hv => rfl))
  | (with_reducible refine r_isBl ?_)
  | (with_reducible refine r_ltS ?_)
  | (with_reducible refine r_lr1 ?_)
  | (with_reducible refine r_lc2 ?_)
  | ((with_reducible refine r_kTurn2 ?ht ?_); (case ht => rfl))
  | ((with_reducible refine r_kKeep2 ?hk ?_); (case hk => rfl))))

local macro_rules | `(tactic| walk_at "s") => `(tactic| (first
  | (with_reducible refine r_tTruOwn ?_)
  | (with_reducible refine r_notOwn ?_)
  | (with_reducible refine r_par3 ?_)))

/-! ### whether a set is told rightly -/
theorem KeysL.upd {H : Hp} {T : Addr} {o : HO} {ts : List Addr} {qs : List SK} (h : KeysL H ts qs) (n : H T = none) : KeysL (L2.upd H T o) ts qs := h.kp (Kp.new n)
theorem eqv_none' {qs : List SK} : PyData.eqv (.list (qs.map keyT)) (.list []) = qs.isEmpty := by
  cases qs <;> rfl
theorem shp_keys {qs : List SK} (h : AllKS qs) : Shp 2 (.list (qs.map keyT)) := Shp.list (n := 1) fun d m => by
  obtain ⟨q, hm, rfl⟩ := List.mem_map.mp m
  exact (h q hm).shp
theorem shpl_nil2 : Shp 2 (.list []) := Shp.list (n := 1) fun d m => nomatch m
theorem dl_keys {H : Hp} {p : Addr} {ts : List Addr} {qs : List SK} (e : H p = some (.lst (ts.map V.ref))) (h : KeysL H ts qs) : Dt [] H (.ref p) (.list (qs.map keyT)) := .lst not_nil e h.dt
theorem dl_bools {H : Hp} {p : Addr} {bs : List Bool} (e : H p = some (.lst (bs.map V.bl))) : Dt [] H (.ref p) (.list (bs.map PyData.bool)) := .lst not_nil e (by
  clear e
  induction bs with
  | nil => exact .nil
  | cons b bs ih => exact .cons (.bl b) ih)
theorem shp_bools (bs : List Bool) : Shp 1 (.list (bs.map PyData.bool)) := Shp.list (n := 0) fun d m => by
  obtain ⟨b, _, rfl⟩ := List.mem_map.mp m
  exact Shp.bool b 0
theorem memQ_idem {q : SK} {l : List SK} (hq : KS q.1 q.2) (hl : AllKS l) : memQ q (canon l) = memQ q l := by
  cases h : memQ q l
  · exact (memQ_false hq (canon_ks hl)).mpr fun m => (memQ_false hq hl).mp h ((canon_mem hl).mp m)
  · exact (memQ_mem hq (canon_ks hl)).mpr ((canon_mem hl).mpr ((memQ_mem hq hl).mp h))
/-- key in list of keys -/
theorem r_inKeys {H : Hp} {Q : VK} {neg : Bool} {t p : Addr} {ts : List Addr} {qs : List SK} {q0 : SK} (ep : H p = some (.lst (ts.map V.ref))) (hk : KeysL H ts qs) (et : H t = some (.tup ((keyL q0).map kV))) (h0 : KS q0.1 q0.2) (q : Q (.bl (memQ q0 qs != neg)) H) : rInLB (DData K) neg (.ref t) (.ref p) H Q := by
  refine r_inLB (bs := qs.map fun r => decide (keyL r = keyL q0)) ep (by rw [List.length_map, List.length_map, hk.len]) (fun j z b hz hb => ?_) ?_
  · obtain ⟨z', hz', rfl⟩ := map_at hz
    obtain ⟨r0, hr0, er, hkr⟩ := hk.at hz'
    rw [List.getElem?_map, hr0] at hb
    have hb : some (decide (keyL r0 = keyL q0)) = some b := hb
    rw [← Option.some.inj hb, ← eqv_keys hkr h0]
    exact ddata (key_dt er hkr) (key_dt et h0) hkr.shp h0.shp (by decide)
  · rw [any_mem]
    exact q
def sp__law_tells (C : Addr) (CS : List Addr) : Sp := fun vs H Q _ => ∃ (s p o : Addr) (ts us : List Addr) (ks os : List SK), vs = [.ref s, .ref p, .ref o] ∧ SetAt C CS H s (canon ks) ∧ H p = some (.lst (ts.map V.ref)) ∧ KeysL H ts ks ∧ H o = some (.lst (us.map V.ref)) ∧ KeysL H us os ∧ ks.length ≤ 60 ∧ os.length ≤ 60 ∧ ∀ H', Kp [] H H' → Q (.bl true) H'
abbrev s__law_tells : Stmt := top 37
theorem sc__law_tells : FnScope ["_law_seen", "_law_keys", "_law_others", "_law_k", "_law_key_here", "_law_due", "_law_slip_here"] ["_law_seen", "_law_keys", "_law_others"] (defScope s__law_tells) :=
  ⟨rfl, rfl, rfl, by decide +kernel, rfl, by decide +kernel, by decide +kernel⟩
theorem ok__law_tells {f : Addr} {fd : FuncData} (F : Fun K "_law_tells" "_law_tells" s__law_tells f fd) (T : Txt K mg C_Swap C_Leave C_Double C_Names C_Drop C_Slips C_BadSlip C_Slip G_SLIP_WORDS) (U_Slip_key : UseP P w K mg base 2 (FamS [C_Swap, C_Leave, C_Double, C_Names, C_Drop]) "key" ["self"] (sp_Slip_key [C_Swap, C_Leave, C_Double, C_Names, C_Drop])) (U_Slips___iter__ : UseIt P w K mg 2 C_Slips (fun n => sp_Slips___iter__ (K := K) C_Slips n)) (U_Slips___len__ : UseMF P w K mg base 2 (FamS [C_Slips]) "__len__" (sp_Slips___len__ C_Slips [C_Swap, C_Leave, C_Double, C_Names, C_Drop])) (U_Slips___contains__ : UseMF P w K mg base 4 (FamS [C_Slips]) "__contains__" (sp_Slips___contains__ C_Slips [C_Swap, C_Leave, C_Double, C_Names, C_Drop])) (U_Slips___str__ : UseMF P w K mg base 5 (FamS [C_Slips]) "__str__" (sp_Slips___str__ C_Slips [C_Swap, C_Leave, C_Double, C_Names, C_Drop])) (U__law_slip : Use P w K mg base 6 "_law_slip" ["_law_key_here"] (sp__law_slip [C_Swap, C_Leave, C_Double, C_Names, C_Drop])) (U__law_text : Use P w K mg base 2 "_law_text" ["_law_key_here"] (sp__law_text)) :
    FnOk P w K mg base CX0 8 f fd ["_law_seen", "_law_keys", "_law_others"] (sp__law_tells C_Slips [C_Swap, C_Leave, C_Double, C_Names, C_Drop]) := by
  refine F.ok sc__law_tells (fun vs H Q E h => ?_) (fun cdv A outer s H vs Q E hr h => ?_)
  · obtain ⟨s, p, o, ts, us, ks, os, rfl, _⟩ := h
    rfl
  · obtain ⟨s, p, o, ts, us, ks, os, rfl, hset, ep, hts, eo, hus, hl1, hl2, q⟩ := h
    obtain ⟨p_Slip_key, g_Slip_key, fd_Slip_key, F_Slip_key, B_Slip_key, C_Slip_key⟩ := U_Slip_key
    obtain ⟨f_Slips___iter__, Y_Slips___iter__, A_Slips___iter__, I_Slips___iter__⟩ := U_Slips___iter__
    obtain ⟨f_Slips___len__, R_Slips___len__, M_Slips___len__⟩ := U_Slips___len__
    obtain ⟨f_Slips___contains__, R_Slips___contains__, M_Slips___contains__⟩ := U_Slips___contains__
    obtain ⟨f_Slips___str__, R_Slips___str__, M_Slips___str__⟩ := U_Slips___str__
    have hu := hu_of hr
    have hu64 := hr.units
    refine ⟨_, (pss_cons (ps_asg (pe_lc (own := [("_law_k", 3), ("_law_key_here", 4)]) (by rfl) sc__law_tells.nd (K_enum (K := K) rfl (by rfl) T.z_enumerate (pa_cons (pe_callB (K_sortM (K := K) rfl) (by rfl) T.z_sorted (by decide +kernel) (pa_cons (pv 1) pa_nil)) pa_nil)) (blkOk_by (own := [("_law_k", 3), ("_law_key_here", 4)]) (N := ["_law_seen", "_law_keys", "_law_others", "_law_k", "_law_key_here", "_law_due", "_law_slip_here"]) (sc := defScope s__law_tells) (by decide +kernel)) (fun _ _ _ _ _ => (K_gtup (K := K) (n := 2) rfl (by rfl) (pgs_cons (pg_name (i := 3) sc__law_tells.nd rfl (by first | exact Or.inl rfl | exact Or.inr rfl)) (pgs_cons (pg_name (i := 4) sc__law_tells.nd rfl (by first | exact Or.inl rfl | exact Or.inr rfl)) pgs_nil)))) (fun _ _ _ _ _ => pts_one (PW.pt (pw_or (pt_cmpR op_eq (pv 3) pe_int (nomark _)) (pw_or1 (pt_cmpR (K_neD (K := K) rfl hu64) (pe_ix (K_ixL (K := K) rfl) (pe_callB (K_sortM (K := K) rfl) (by rfl) T.z_sorted (by decide +kernel) (pa_cons (pv 1) pa_nil)) (pe_op op_sub (pv 3) pe_int) (fun _ _ => rfl)) (pv 4) (nomark _)))))) (fun _ _ _ _ _ => (pv 4))) (pg_name (i := 5) sc__law_tells.nd rfl (by first | exact Or.inl rfl | exact Or.inr rfl)) (by rfl))
        (pss_cons (ps_if (pt_cutT (PW.pt (pw_or (pt_not (pt_val (pe_callB (K_isi (K := K) rfl) (by rfl) T.z_isinstance (by decide +kernel) (pa_cons (pv 0) (pa_cons (pe_globE T.v_Slips (by rfl)) pa_nil))))) (pw_or (pt_cmpR (K_neD (K := K) rfl hu64) (pe_lc (own := [("_law_slip_here", 6)]) (by rfl) sc__law_tells.nd (K_pown (K := K) rfl (pv 0) A_Slips___iter__ I_Slips___iter__ Y_Slips___iter__ (hr.mono (by first | decide | omega))) (blkOk_by (own := [("_law_slip_here", 6)]) (N := ["_law_seen", "_law_keys", "_law_others", "_law_k", "_law_key_here", "_law_due", "_law_slip_here"]) (sc := defScope s__law_tells) (by decide +kernel)) (fun _ _ _ _ _ => (pg_name (i := 6) sc__law_tells.nd rfl (by first | exact Or.inl rfl | exact Or.inr rfl))) (fun _ _ _ _ _ => pts_nil) (fun _ _ _ _ _ => (pe_propF (S := (FamS [C_Swap, C_Leave, C_Double, C_Names, C_Drop])) (pv 6) C_Slip_key F_Slip_key (hr.mono (by first | decide | omega)) B_Slip_key rfl))) (pv 5) (nomark _)) (pw_or1 (pt_cmpR op_ne (pe_callB (cr_lenOwn (M_Slips___len__ C_Slips .hd) R_Slips___len__ (hr.mono (by first | decide | omega))) (by rfl) T.z_len (by decide +kernel) (pa_cons (pv 0) pa_nil)) (pe_callB (K_len (K := K) rfl) (by rfl) T.z_len (by decide +kernel) (pa_cons (pv 5) pa_nil)) (nomark _)))))))
          (pss_one (ps_ret pe_bl))
          pss_nil)
        (pss_cons (ps_if (pt_cutT (PW.pt (pw_or (pt_cmpR op_ne (pe_notOwn (K := K) (S := (FamS [C_Slips])) rfl (fam_cons T.nb_Slips fam_nil) M_Slips___len__ R_Slips___len__ (hr.mono (by first | decide | omega)) (pv 0)) (pe_cmpR (K_eqD (K := K) rfl hu64) (pv 5) (pe_lst pa_nil) (nomark _)) (nomark _)) (pw_or1 (pt_cmpR op_ne (pe_callTy (cr_strFam (S := (FamS [C_Slips])) M_Slips___str__ R_Slips___str__ (hr.mono (by first | decide | omega))) (by rfl) T.z_str (by decide +kernel) (pa_cons (pv 0) pa_nil)) (K_join (K := K) rfl pe_str (pe_lc (own := [("_law_key_here", 4)]) (by rfl) sc__law_tells.nd (K_pil (K := K) rfl (pv 5)) (blkOk_by (own := [("_law_key_here", 4)]) (N := ["_law_seen", "_law_keys", "_law_others", "_law_k", "_law_key_here", "_law_due", "_law_slip_here"]) (sc := defScope s__law_tells) (by decide +kernel)) (fun _ _ _ _ _ => (pg_name (i := 4) sc__law_tells.nd rfl (by first | exact Or.inl rfl | exact Or.inr rfl))) (fun _ _ _ _ _ => pts_nil) (fun _ _ _ _ _ => (pe_use U__law_text (hr.mono (by first | decide | omega)) (by rfl) (pa_cons (pv 4) pa_nil))))) (nomark _))))))
          (pss_one (ps_ret pe_bl))
          pss_nil)
        (pss_one (ps_ret (pe_cmpR (K_eqD (K := K) rfl hu64) (pe_lc (own := [("_law_key_here", 4)]) (by rfl) sc__law_tells.nd (K_pil (K := K) rfl (pv 2)) (blkOk_by (own := [("_law_key_here", 4)]) (N := ["_law_seen", "_law_keys", "_law_others", "_law_k", "_law_key_here", "_law_due", "_law_slip_here"]) (sc := defScope s__law_tells) (by decide +kernel)) (fun _ _ _ _ _ => (pg_name (i := 4) sc__law_tells.nd rfl (by first | exact Or.inl rfl | exact Or.inr rfl))) (fun _ _ _ _ _ => pts_nil) (fun _ _ _ _ _ => (pe_cmpR (op_inOwn (M_Slips___contains__ C_Slips .hd) R_Slips___contains__ (hr.mono (by first | decide | omega))) (pe_use U__law_slip (hr.mono (by first | decide | omega)) (by rfl) (pa_cons (pv 4) pa_nil)) (pv 0) (by with_unfolding_all rfl)))) (pe_lc (own := [("_law_key_here", 4)]) (by rfl) sc__law_tells.nd (K_pil (K := K) rfl (pv 2)) (blkOk_by (own := [("_law_key_here", 4)]) (N := ["_law_seen", "_law_keys", "_law_others", "_law_k", "_law_key_here", "_law_due", "_law_slip_here"]) (sc := defScope s__law_tells) (by decide +kernel)) (fun _ _ _ _ _ => (pg_name (i := 4) sc__law_tells.nd rfl (by first | exact Or.inl rfl | exact Or.inr rfl))) (fun _ _ _ _ _ => pts_nil) (fun _ _ _ _ _ => (pe_cmpR (K_inD (K := K) rfl (hr.mono (by first | decide | omega))) (pv 4) (pv 5) (by with_unfolding_all rfl)))) (nomark _))))))), ?_⟩
    have big : 5000 ≤ sizeLine := by decide
    have hks : AllKS ks := hts.ks
    have hos : AllKS os := hus.ks
    have hss : AllKS (srtQ ks) := fun q m => hks q ((srtQ_perm ks).mem_iff.mp m)
    have hsl : (srtQ ks).length = ks.length := (srtQ_perm ks).length_eq
    have hck := canon_ks hks
    have hcl := canon_len ks
    obtain ⟨dx, lk, ads, es, elk, hads⟩ := id hset
    have hC := T.c_Slips
    have hM : FamS [C_Slips] C_Slips := .hd
    walk_at "S"
    refine r_sortM (SqL.of ep) hts (by omega) fun l ts1 H1 nl k1 el hts1 => ?_
    walk_at "S"
    refine r_cEnum (SqL.of el) ?_
    have hl1' : (ts1.map V.ref).length = (srtQ ks).length := by rw [List.length_map, hts1.len]
    refine r_kLc (walk_enum (xs := ts1.map V.ref)) (fun D i acc H' => Kp [] H1 H' ∧ ∃ as, acc = as.map V.ref ∧ KeysL H' as (uniqQ ((srtQ ks).take i))) (fun D H' nD k e => ⟨k, [], rfl, .nil⟩) (fun D i acc H' _ h => SqL.of (h.1 _ _ el not_nil)) ?_ ?_
    · rintro D i acc x Ha Hb nD hi eD ⟨ka, as, rfl, has⟩ ⟨tt, u, v, rfl, nt, rfl, hu, hx⟩
      cases hu
      obtain ⟨t, ht, rfl⟩ := map_at hx
      obtain ⟨q0, hq0, et, hk0⟩ := hts1.at ht
      have kb : Kp [] Ha (upd Ha tt (.tup [.int (i : Nat), .ref t])) := Kp.new nt
      have ett : upd Ha tt (.tup [.int (i : Nat), .ref t]) tt = some (.tup [.int (i : Nat), .ref t]) := upd_same
      generalize upd Ha tt (.tup [.int (i : Nat), .ref t]) = Hb at kb ett
      have k1b := ka.trans kb
      have eD := kb _ _ eD not_nil
      have has := has.kp kb
      have hilt := lt_at hq0
      have hul := uniqQ_len ((srtQ ks).take i)
      rw [List.length_take] at hul
      have hal := has.len
      refine r_gtup (SqT.of ett) rfl ?_
      walk_at "S"
      -- the key is kept just if it is new
      have key : ∀ (σ0 : L2.St) b H', σ0[4]? = some (some (.ref t)) → Kp [] Hb H' → (b = true ↔ ¬ ∃ r, 0 < i ∧ (srtQ ks)[i - 1]? = some r ∧ r = q0) → kKeep (tVar 4) σ0 D (kN (fun acc H' => Kp [] H1 H' ∧ ∃ as, acc = as.map V.ref ∧ KeysL H' as (uniqQ ((srtQ ks).take (i + 1)))) D) b H' := fun σ0 b H' hσ k' hb => by
        have hst := due_step hks hq0
        refine r_kKeep (fun c => ?_) (fun c => ?_)
        · refine r_var hσ ?_
          refine r_kApp (k' _ _ eD not_nil) (by rw [List.length_map]; omega) fun H2 k2 e2 => ⟨(k1b.trans k').step nD k2, as ++ [t], by rw [List.map_append]; rfl, ?_⟩
          have hn : ¬ memQ q0 (uniqQ ((srtQ ks).take i)) = true := fun z => hb.mp c (hst.mp z)
          unfold memQ at hn
          rw [take_more hq0, uniqQ_snoc]
          unfold insQ
          rw [if_neg hn]
          exact ((has.kp k').snoc ((k1b.trans k') _ _ et not_nil) hk0).lst (k' _ _ eD not_nil) k2
        · refine ⟨_, k' _ _ eD not_nil, k1b.trans k', as, rfl, ?_⟩
          have hy : memQ q0 (uniqQ ((srtQ ks).take i)) = true := hst.mpr (Classical.byContradiction fun z => by
            rw [hb.mpr z] at c
            cases c)
          unfold memQ at hy
          rw [take_more hq0, uniqQ_snoc]
          unfold insQ
          rw [if_pos hy]
          exact has.kp k'
      refine r_kOr (fun c => ?_) (fun c => ?_)
      · have c : i = 0 := by
          have := of_decide_eq_true c
          omega
        exact key _ true Hb rfl (Kp.refl _ _) ⟨fun _ ⟨_, h0, _⟩ => by omega, fun _ => rfl⟩
      · have c : 0 < i := by
          have := of_decide_eq_false c
          omega
        walk_at "S"
        refine r_sortM (SqL.of ((k1.trans k1b) _ _ ep not_nil)) (hts.kp (k1.trans k1b)) (by omega) fun l2 ts2 H2 nl2 k2 el2 hts2 => ?_
        walk_at "S"
        have hi1 : i - 1 < ts2.length := by
          rw [hts2.len]
          omega
        have ht2 : ts2[i - 1]? = some ts2[i - 1] := List.getElem?_eq_getElem hi1
        obtain ⟨r0, hr0, er, hkr⟩ := hts2.at ht2
        have ei : ((i : Int) - 1) = ((i - 1 : Nat) : Int) := by omega
        rw [ei]
        refine r_ixL (v := .ref ts2[i - 1]) (SqL.of el2) (atI_nat (by rw [List.getElem?_map, ht2]; rfl)) ?_
        walk_at "S"
        refine r_neD (key_dt er hkr) (key_dt ((k1b.trans k2) _ _ et not_nil) hk0) hkr.shp hk0.shp (by decide) ?_
        rw [show PyData.eqv (.tuple (.int (r0.1 : Int) :: r0.2)) (.tuple (.int (q0.1 : Int) :: q0.2)) = decide (keyL r0 = keyL q0) from eqv_keys hkr hk0]
        walk_at "S"
        refine key _ _ H2 ?_ k2 ⟨fun z => ?_, fun z => ?_⟩
        · rfl
        · rintro ⟨r, _, hr, rfl⟩
          rw [hr0] at hr
          cases hr
          simp at z
        · have : keyL r0 ≠ keyL q0 := fun w => z ⟨r0, c, hr0, keyL_inj hkr hk0 w⟩
          simp [this]
    rintro D acc H2 nD eD ⟨k2, as, rfl, has⟩
    rw [hl1', List.take_length, due_canon hks] at has
    have k02 := k1.trans k2
    clear hts1 el nl
    walk_at "S"
    refine r_cutT (fun b H' => b = false ∧ Kp [] H2 H') ?_ ?_
    · walk_at "S"
      refine ⟨.ref s, .ref C_Slips, .ref C_Slips, .ref C_Slips, true, rfl, .own _, .base (.ins (k02 _ _ es not_nil) hC (T.cl_Slips _ hM) T.gt_Slips T.tk_Slips (T.ob_Slips _ hM)), kit_self, ?_⟩
      walk_at "S"
      refine r_kOr0 rfl ?_
      walk_at "S"
      refine r_over (hset.kp k02) fun l0 ads0 el0 hads0 => ?_
      refine r_kLcL (fun E i acc H' => ∃ ps, acc = ps.map V.ref ∧ Kp [] H2 H' ∧ KeysL H' ps ((canon ks).take i)) (fun E H' nE k e => ⟨[], rfl, k, .nil⟩) (fun E i acc H' _ h => let ⟨_, _, k, _⟩ := h; SqL.of (k _ _ el0 not_nil)) ?_ ?_
      · rintro E i acc x H3 nE hx eE ⟨ps, rfl, k3, hps⟩
        obtain ⟨b, hb, rfl⟩ := map_at hx
        obtain ⟨q0, hq0, hsl0, hkq⟩ := hads0.at hb
        obtain ⟨C0, dx0, p0, hF, eb, hd0⟩ := id (hsl0.kp k3)
        walk_at "S"
        refine r_kPropF eb hF.fam ⟨b, _, rfl, hsl0.kp k3, fun p1 hd1 => ?_⟩
        have hlt := lt_at hq0
        refine r_kApp eE (by
          rw [List.length_map, hps.len, List.length_take]
          omega) fun H4 k4 e4 => ⟨ps ++ [p1], by rw [List.map_append]; rfl, k3.step nE k4, ?_⟩
        rw [take_more hq0]
        exact (hps.snoc (keyL_tup hkq hd1) hkq).lst eE k4
      rintro E acc H3 nE eE ⟨ps, rfl, k3, hps⟩
      rw [List.length_map, hads0.len, List.take_length] at hps
      walk_at "S"
      refine r_neD0 (dl_keys eE hps) (dl_keys (k3 _ _ eD not_nil) (has.kp k3)) (shp_keys hck) (by decide) ?_
      walk_at "S"
      refine r_kOr0 rfl ?_
      walk_at "S"
      have k03 := k02.trans k3
      refine ⟨s, _, _, rfl, k03 _ _ es not_nil, s, canon ks, rfl, hset.kp k03, _, rfl, by omega, by omega, ?_⟩
      walk_at "S"
      refine r_lenL (SqL.of (k3 _ _ eD not_nil)) ?_
      walk_at "S"
      rw [List.length_map, has.len]
      exact ⟨by simp, k3⟩
    rintro b0 H3 ⟨rfl, k3⟩
    refine r_kIfS0 rfl ?_
    have k03 := k02.trans k3
    walk_at "S"
    refine r_cutT (fun b H' => b = false ∧ Kp [] H3 H') ?_ ?_
    · walk_at "S"
      refine r_truOwn .hd (k03 _ _ es not_nil) ⟨s, canon ks, rfl, hset.kp k03, r_kNum (by omega) (by omega) ?_⟩
      walk_at "S"
      refine r_kLst (by show 0 ≤ sizeLine; decide) fun N1 H4 nN k4 eN => ?_
      refine r_eqD (dl_keys ((k3.trans k4) _ _ eD not_nil) (has.kp (k3.trans k4))) (.lst not_nil eN .nil) (shp_keys hck) shpl_nil2 (by decide) ?_
      rw [eqv_none']
      refine r_neB ?_
      walk_at "S"
      refine r_kOr0 (by
        cases canon ks with
        | nil => rfl
        | cons q l =>
          have h1 : (((q :: l).length : Nat) : Int) ≠ 0 := by
            rw [List.length_cons]
            omega
          simp [h1]
          try omega) ?_
      walk_at "S"
      have k04 := k03.trans k4
      refine r_strFam (k04 _ _ es not_nil) .hd ⟨s, canon ks, rfl, hset.kp k04, by omega, fun H5 k5 => ?_⟩
      refine ⟨_, rfl, ?_⟩
      walk_at "S"
      have k35 := k4.trans k5
      have eD5 := (k3.trans k35) _ _ eD not_nil
      refine r_cWL (SqL.of eD5) ?_
      refine r_kLcL (fun E i acc H' => Kp [] H5 H' ∧ acc = (((canon ks).take i).map slipT).map V.str) (fun E H' nE k e => ⟨k, rfl⟩) (fun E i acc H' _ h => SqL.of (h.1 _ _ eD5 not_nil)) ?_ ?_
      · rintro E i acc x H6 nE hx eE ⟨k6, rfl⟩
        obtain ⟨t, ht, rfl⟩ := map_at hx
        obtain ⟨q0, hq0, et, hkq⟩ := has.at ht
        have hlt := lt_at hq0
        walk_at "S"
        refine ⟨t, q0, rfl, (k3.trans (k35.trans k6)) _ _ et not_nil, hkq, fun H7 k7 => ?_⟩
        refine r_kApp (k7 _ _ eE not_nil) (by
          simp only [List.length_map, List.length_take]
          omega) fun H8 k8 e8 => ⟨(k6.trans k7).step nE k8, ?_⟩
        rw [take_map _ hq0, List.map_append]
        rfl
      rintro E acc H6 nE eE ⟨k6, rfl⟩
      rw [List.length_map, has.len, List.take_length] at eE
      walk_at "S"
      refine ⟨", ", E, (canon ks).map slipT, rfl, rfl, .inl (SqL.of eE), texts_fit hck (by omega), ?_⟩
      walk_at "S"
      exact ⟨by simp, k35.trans k6⟩
    rintro b0 H4 ⟨rfl, k4⟩
    refine r_kIfS0 rfl ?_
    have k04 := k03.trans k4
    have k24 := k3.trans k4
    walk_at "S"
    refine r_cWL (SqL.of (k04 _ _ eo not_nil)) ?_
    refine r_kLcL (fun E i acc H' => Kp [] H4 H' ∧ acc = ((os.take i).map fun q => memQ q ks).map V.bl) (fun E H' nE k e => ⟨k, rfl⟩) (fun E i acc H' _ h => SqL.of (h.1 _ _ (k04 _ _ eo not_nil) not_nil)) ?_ ?_
    · rintro E i acc x H5 nE hx eE ⟨k5, rfl⟩
      obtain ⟨t, ht, rfl⟩ := map_at hx
      obtain ⟨q0, hq0, et, hkq⟩ := hus.at ht
      have hlt := lt_at hq0
      have k05 := k04.trans k5
      walk_at "S"
      refine ⟨t, q0.1, q0.2, rfl, key_dt (k05 _ _ et not_nil) hkq, hkq, fun b H6 k6 hb => ?_⟩
      walk_at "S"
      have k06 := k05.trans k6
      refine r_inOwn (k06 _ _ es not_nil) ⟨s, b, canon ks, q0, rfl, hset.kp k06, hb, hkq, by omega, fun H7 k7 => r_kOwnB ?_⟩
      rw [memQ_idem hkq hks]
      refine r_kApp ((k6.trans k7) _ _ eE not_nil) (by
        simp only [List.length_map, List.length_take]
        omega) fun H8 k8 e8 => ⟨(k5.trans (k6.trans k7)).step nE k8, ?_⟩
      rw [take_map _ hq0, List.map_append]
      cases memQ q0 ks <;> rfl
    rintro E acc H5 nE eE ⟨k5, rfl⟩
    rw [List.length_map, hus.len, List.take_length] at eE
    have k05 := k04.trans k5
    walk_at "S"
    refine r_cWL (SqL.of (k05 _ _ eo not_nil)) ?_
    refine r_kLcL (fun G i acc H' => Kp [] H5 H' ∧ acc = ((os.take i).map fun q => memQ q ks).map V.bl) (fun G H' nG k e => ⟨k, rfl⟩) (fun G i acc H' _ h => SqL.of (h.1 _ _ (k05 _ _ eo not_nil) not_nil)) ?_ ?_
    · rintro G i acc x H6 nG hx eG ⟨k6, rfl⟩
      obtain ⟨t, ht, rfl⟩ := map_at hx
      obtain ⟨q0, hq0, et, hkq⟩ := hus.at ht
      have hlt := lt_at hq0
      have k06 := k05.trans k6
      have k26 := k24.trans (k5.trans k6)
      walk_at "S"
      refine r_inKeys (k26 _ _ eD not_nil) (has.kp k26) (k06 _ _ et not_nil) hkq ?_
      rw [memQ_idem hkq hks]
      refine r_kApp eG (by
        simp only [List.length_map, List.length_take]
        omega) fun H7 k7 e7 => ⟨k6.step nG k7, ?_⟩
      rw [take_map _ hq0, List.map_append]
      cases memQ q0 ks <;> rfl
    rintro G acc H6 nG eG ⟨k6, rfl⟩
    rw [List.length_map, hus.len, List.take_length] at eG
    have e1 : H6 E = some (.lst ((os.map fun q => memQ q ks).map V.bl)) := k6 _ _ eE not_nil
    refine r_eqD1 (dl_bools e1) (dl_bools eG) (shp_bools _) (by decide) ?_
    exact q _ (k05.trans k6)

end
section
open NdefX
variable {P : Program} {w : World} {K : PySem.W.Frag} {mg : Str → Option Value} {base : Heap}
variable {C_Swap : Addr} {C_Leave : Addr} {C_Double : Addr} {C_Names : Addr} {C_Drop : Addr} {C_Slips : Addr} {C_BadSlip : Addr} {C_Slip : Addr} {G_SLIP_WORDS : Addr}
local macro_rules | `(tactic| walk_at "s") => `(tactic| (first
  | (with_reducible refine r_seq ?_)
  | (with_reducible refine r_asg ?_)
  | ((with_reducible refine' r_var (v := ?v) ?hv ?_); (case hv => exact rfl))
  | (with_reducible refine r_c ?_)
  | (with_reducible refine r_name ?_)
  | (with_reducible refine r_op ?_)
  | (with_reducible refine r_un ?_)
  | (with_reducible refine r_consA ?_)
  | (with_reducible refine r_nilA ?_)
  | (with_reducible refine r_I0 ?_)
  | (with_reducible refine r_U ?_)
  | (with_reducible refine r_eqI ?_)
  | (with_reducible refine r_neI ?_)
  | (with_reducible refine r_test ?_)
  | (with_reducible refine r_tB ?_)
  | (with_reducible refine r_kB ?_)
  | (with_reducible refine r_ifS ?_)
  | (with_reducible refine r_if ?_)
  | (with_reducible refine r_and ?_)
  | (with_reducible refine r_or ?_)
  | (with_reducible refine r_not ?_)
  | (with_reducible refine r_ret ?_)
  | (with_reducible refine r_retN ?_)
  | (with_reducible refine r_next ?_)
  | (with_reducible refine r_drop ?_)
  | (with_reducible refine r_brk ?_)
  | (with_reducible refine r_cont ?_)
  | (with_reducible refine r_andV ?_)
  | (with_reducible refine r_orV ?_)
  | (with_reducible refine r_notV ?_)
  | (with_reducible refine r_kNotV ?_)
  | (with_reducible refine r_lst ?_)
  | (with_reducible refine r_tup ?_)
  | (with_reducible refine r_dget ?_)
  | (with_reducible refine r_dput ?_)
  | (with_reducible refine r_use ?_)
  | (with_reducible refine r_cb ?_)
  | (with_reducible refine r_par ?_)
  | (with_reducible refine r_int ?_)
  | (with_reducible refine r_abs ?_)
  | (with_reducible refine r_max2 ?_)
  | (with_reducible refine r_min2 ?_)
  | (with_reducible refine r_pnil ?_)
  | (with_reducible refine r_pcons ?_)
  | (with_reducible refine r_eqS ?_)
  | (with_reducible refine r_neS ?_)
  | (with_reducible refine r_for ?_)
  | (with_reducible refine r_rng1 ?_)
  | (with_reducible refine r_rng2 ?_)
  | (with_reducible refine r_wl ?_)
  | (with_reducible refine r_wt ?_)
  | (with_reducible refine r_wq ?_)
  | (with_reducible refine r_ws ?_)
  | (with_reducible refine r_cWS ?_)
  | (with_reducible refine r_enum ?_)
  | (with_reducible refine r_zip ?_)
  | (with_reducible refine r_lc ?_)
  | (with_reducible refine r_dc ?_)
  | ((with_reducible refine r_kTurn ?ht ?_); (case ht => rfl))
  | ((with_reducible refine r_kTurnD ?ht ?_); (case ht => rfl))
  | (with_reducible refine r_yes ?_)
  | ((with_reducible refine r_kKeep1 ?hk ?_); (case hk => rfl))
  | ((with_reducible refine r_kKeepD1 ?hk ?_); (case hk => rfl))
  | (with_reducible refine r_gcons ?_)
  | (with_reducible refine r_gnil ?_)
  | (with_reducible refine r_bm ?_)
  | (with_reducible refine r_bm0 ?_)
  | (with_reducible refine r_fld ?_)
  | (with_reducible refine r_sfld ?_)
  | (with_reducible refine r_methR ?_)
  | (with_reducible refine r_makeR ?_)
  | (with_reducible refine r_chain ?_)))
local macro_rules | `(tactic| walk_at "S") => `(tactic| repeat walk_at "s")
local macro_rules | `(tactic| walk_at "D") => `(tactic| repeat' (first
  | exact AD_nil
  | refine AD_cons ?_ (fun _ _ => ?_)
  | refine ED_tup ?_ (Nat.le_trans (m := 100) (Nat.le_of_ble_eq_true rfl) (by decide))
  | refine ED_lst ?_ (Nat.le_trans (m := 100) (Nat.le_of_ble_eq_true rfl) (by decide))
  | exact ED_c (by constructor)
  | exact ED_var rfl (by constructor)))
local macro_rules | `(tactic| walk_at "N") => `(tactic| repeat' (first
  | exact AN_nil
  | refine AN_cons ?_ (fun _ _ => ?_)
  | refine EN_tup ?_ (Nat.le_trans (m := 100) (Nat.le_of_ble_eq_true rfl) (by decide))
  | refine EN_lst ?_ (Nat.le_trans (m := 100) (Nat.le_of_ble_eq_true rfl) (by decide))
  | exact EN_c (fun _ => by constructor)
  | exact EN_var rfl (fun _ => by constructor)))

local macro_rules | `(tactic| walk_at "s") => `(tactic| (first
  | (with_reducible refine r_sl ?_)
  | (with_reducible refine r_kS1 ?_)
  | (with_reducible refine r_kS2 ?_)
  | (with_reducible refine r_kS3 ?_)
  | (with_reducible refine r_noPart ?_)
  | (with_reducible refine r_part ?_)
  | (with_reducible refine r_kPart ?_)
  | (with_reducible refine r_gsub ?_)
  | (with_reducible refine r_m1 ?_)
  | (with_reducible refine r_kM1 ?_)
  | (with_reducible refine r_propF ?_)
  | (with_reducible refine r_drp ?_)
  | (with_reducible refine r_min2S ?_)
  | (with_reducible refine r_max2S ?_)
  | (with_reducible refine r_enumS ?_)
  | (with_reducible refine r_cEnumS ?_)
  | (with_reducible refine r_makeKS ?_)
  | (with_reducible refine r_makeS ?_)))

local macro_rules | `(tactic| walk_at "s") => `(tactic| (first
  | (with_reducible refine r_mkV ?_)
  | (with_reducible refine r_ofl ?_)
  | (with_reducible refine r_methF ?_)
  | (with_reducible refine r_callF ?_)
  | (with_reducible refine r_star ?_)
  | (with_reducible refine r_smeth ?_)
  | (with_reducible refine r_kSMeth ?_)))

local macro_rules | `(tactic| walk_at "s") => `(tactic| (first
  | (with_reducible refine r_dcT ?_)
  | ((with_reducible refine r_kTurnT ?ht ?_); (case ht => rfl))
  | ((with_reducible refine r_kKeepT1 ?hk ?_); (case hk => rfl))
  | (with_reducible refine r_own ?_)
  | (with_reducible refine r_cmeth ?_)
  | (with_reducible refine r_kCMeth ?_)
  | (with_reducible refine r_makeS1 ?_)
  | ((with_reducible refine r_makeV ?hv ?_); (case hv => rfl))
  | (with_reducible refine r_isBl ?_)
  | (with_reducible refine r_ltS ?_)
  | (with_reducible refine r_lr1 ?_)
  | (with_reducible refine r_lc2 ?_)
  | ((with_reducible refine r_kTurn2 ?ht ?_); (case ht => rfl))
  | ((with_reducible refine r_kKeep2 ?hk ?_); (case hk => rfl))))

local macro_rules | `(tactic| walk_at "s") => `(tactic| (first
  | (with_reducible refine r_tTruOwn ?_)
  | (with_reducible refine r_notOwn ?_)
  | (with_reducible refine r_par3 ?_)))

/-! ### what the law asks of the operators -/
theorem ks_filter {l : List SK} (h : AllKS l) (f : SK → Bool) : AllKS (l.filter f) := fun q m => h q (List.mem_filter.mp m).1
theorem memQ_canon {l : List SK} (hl : AllKS l) {q : SK} (hq : KS q.1 q.2) : memQ q (canon l) = memQ q l := memQ_idem hq hl
theorem canon_filter {l m : List SK} (hl : AllKS l) (hm : AllKS m) : canon ((canon l).filter fun q => memQ q (canon m)) = canon (l.filter fun q => memQ q m) := by
  refine canon_ext (ks_filter (canon_ks hl) _) (ks_filter hl _) fun q => ?_
  rw [List.mem_filter, List.mem_filter, canon_mem hl]
  constructor
  · rintro ⟨a, b⟩
    exact ⟨a, by rw [memQ_canon hm (hl q a)] at b; exact b⟩
  · rintro ⟨a, b⟩
    exact ⟨a, by rw [memQ_canon hm (hl q a)]; exact b⟩
theorem less_mem {l m : List SK} (hl : AllKS l) (hm : AllKS m) (q : SK) : (q ∈ (canon l).filter fun q => !memQ q (canon m)) ↔ q ∈ l.filter fun q => !memQ q m := by
  rw [List.mem_filter, List.mem_filter, canon_mem hl]
  constructor
  · rintro ⟨a, b⟩
    exact ⟨a, by rw [memQ_canon hm (hl q a)] at b; exact b⟩
  · rintro ⟨a, b⟩
    exact ⟨a, by rw [memQ_canon hm (hl q a)]; exact b⟩
theorem canon_less {l m : List SK} (hl : AllKS l) (hm : AllKS m) : canon ((canon l).filter fun q => !memQ q (canon m)) = canon (l.filter fun q => !memQ q m) :=
  canon_ext (ks_filter (canon_ks hl) _) (ks_filter hl _) (less_mem hl hm)
theorem canon_xor {l m : List SK} (hl : AllKS l) (hm : AllKS m) : canon (((canon l).filter fun q => !memQ q (canon m)) ++ ((canon m).filter fun q => !memQ q (canon l))) = canon ((l.filter fun q => !memQ q m) ++ (m.filter fun q => !memQ q l)) := by
  refine canon_ext (ks_app (ks_filter (canon_ks hl) _) (ks_filter (canon_ks hm) _)) (ks_app (ks_filter hl _) (ks_filter hm _)) fun q => ?_
  rw [List.mem_append, List.mem_append, less_mem hl hm, less_mem hm hl]
theorem less_none {l m : List SK} (hl : AllKS l) (hm : AllKS m) : (l.filter fun q => !memQ q m) = [] ↔ ∀ q ∈ l, q ∈ m := by
  rw [List.filter_eq_nil_iff]
  constructor
  · intro h q z
    have := h q z
    exact (memQ_mem (hl q z) hm).mp (by simpa using this)
  · intro h q z
    have := (memQ_mem (hl q z) hm).mpr (h q z)
    simp [this]
theorem srtQ_empty (l : List SK) : (srtQ l).isEmpty = l.isEmpty := by
  have h := (srtQ_perm l).length_eq
  cases h1 : srtQ l <;> cases h2 : l <;> rw [h1, h2] at h <;> first | rfl | cases h
theorem eq_bool {a b : Bool} (h : a = true ↔ b = true) : a = b := by
  cases a <;> cases b <;> simp at h <;> rfl
theorem same_ok {l m : List SK} (hl : AllKS l) (hm : AllKS m) : decide ((canon l).map keyL = (canon m).map keyL) = (srtQ ((l.filter fun q => !memQ q m) ++ (m.filter fun q => !memQ q l))).isEmpty := by
  rw [srtQ_empty]
  refine eq_bool ?_
  rw [decide_eq_true_iff, List.isEmpty_iff, List.append_eq_nil_iff, less_none hl hm, less_none hm hl]
  constructor
  · intro h
    have e := (canon_eq hl hm).mp (keys_inj (canon_ks hl) (canon_ks hm) h)
    exact ⟨fun q z => (e q).mp z, fun q z => (e q).mpr z⟩
  · rintro ⟨a, b⟩
    rw [(canon_eq hl hm).mpr fun q => ⟨a q, b q⟩]
theorem within_ok {l m : List SK} (hl : AllKS l) (hm : AllKS m) : ((canon l).all fun q => memQ q (canon m)) = (l.filter fun q => !memQ q m).isEmpty := by
  refine eq_bool ?_
  rw [List.isEmpty_iff, less_none hl hm, List.all_eq_true]
  constructor
  · intro h q z
    have := h q ((canon_mem hl).mpr z)
    exact (canon_mem hm).mp ((memQ_mem (hl q z) (canon_ks hm)).mp this)
  · intro h q z
    have z := (canon_mem hl).mp z
    exact (memQ_mem (hl q z) (canon_ks hm)).mpr ((canon_mem hm).mpr (h q z))
theorem within_or {l m : List SK} (hl : AllKS l) (hm : AllKS m) : ((canon l).all fun q => memQ q (canon (canon l ++ canon m))) = true := by
  rw [canon_app hl hm, List.all_eq_true]
  intro q z
  have z := (canon_mem hl).mp z
  exact (memQ_mem (hl q z) (canon_ks (ks_app hl hm))).mpr ((canon_mem (ks_app hl hm)).mpr (List.mem_append.mpr (.inl z)))
theorem ks_three {q : SK} (h : KS q.1 q.2) : AllKS [q, q, q] := fun r m => by
  simp only [List.mem_cons, List.not_mem_nil, or_false, or_self] at m
  rw [m]
  exact h
theorem canon_more {l : List SK} {q0 : SK} (hl : AllKS l) (h0 : KS q0.1 q0.2) : canon (canon l ++ canon [q0, q0, q0]) = canon (l ++ [q0]) := by
  rw [canon_app hl (ks_three h0)]
  refine canon_ext (ks_app hl (ks_three h0)) (ks_app hl (ks_one h0)) fun q => ?_
  simp
theorem more_ok {l : List SK} {q0 : SK} (hl : AllKS l) (h0 : KS q0.1 q0.2) : decide ((canon (l ++ [q0])).map keyL = (canon l).map keyL) = memQ q0 l := by
  refine eq_bool ?_
  rw [decide_eq_true_iff, memQ_mem h0 hl]
  constructor
  · intro h
    exact ((canon_eq (ks_app hl (ks_one h0)) hl).mp (keys_inj (canon_ks (ks_app hl (ks_one h0))) (canon_ks hl) h) q0).mp (List.mem_append.mpr (.inr (List.mem_singleton.mpr rfl)))
  · intro h
    rw [(canon_eq (ks_app hl (ks_one h0)) hl).mpr fun q => ⟨fun z => (List.mem_append.mp z).elim id fun z => by rw [List.mem_singleton.mp z]; exact h, fun z => List.mem_append.mpr (.inl z)⟩]

/-! ### two sets (printed by agr_gen.py) -/
def sp__law_agrees : Sp := fun vs H Q _ => ∃ (p1 p2 t : Addr) (ts us : List Addr) (ks os : List SK) (q0 : SK), vs = [.ref p1, .ref p2, .ref t] ∧ H p1 = some (.lst (ts.map V.ref)) ∧ KeysL H ts ks ∧ H p2 = some (.lst (us.map V.ref)) ∧ KeysL H us os ∧ H t = some (.tup ((keyL q0).map kV)) ∧ KS q0.1 q0.2 ∧
  ks.length ≤ 20 ∧ os.length ≤ 20 ∧ ∀ H', Kp [] H H' → Q (.bl true) H'
abbrev s__law_agrees : Stmt := top 38
theorem sc__law_agrees : FnScope ["_law_one", "_law_two", "_law_extra", "_law_first", "_law_second", "_law_both", "_law_turn", "_law_key_here", "_law_less", "_law_same", "_law_more"] ["_law_one", "_law_two", "_law_extra"] (defScope s__law_agrees) :=
  ⟨rfl, rfl, rfl, by decide +kernel, rfl, by decide +kernel, by decide +kernel⟩
theorem ok__law_agrees {f : Addr} {fd : FuncData} (F : Fun K "_law_agrees" "_law_agrees" s__law_agrees f fd) (T : Txt K mg C_Swap C_Leave C_Double C_Names C_Drop C_Slips C_BadSlip C_Slip G_SLIP_WORDS) (U_Slips___init__ : UseC P w K mg base 4 "Slips" C_Slips (sp_Slips___init__ C_Slips [C_Swap, C_Leave, C_Double, C_Names, C_Drop])) (U_Slips___eq__ : UseMF P w K mg base 4 (FamS [C_Slips]) "__eq__" (sp_Slips___eq__ (K := K) C_Slips [C_Swap, C_Leave, C_Double, C_Names, C_Drop])) (U_Slips___and__ : UseMF P w K mg base 6 (FamS [C_Slips]) "__and__" (sp_Slips___and__ C_Slips [C_Swap, C_Leave, C_Double, C_Names, C_Drop])) (U_Slips___or__ : UseMF P w K mg base 6 (FamS [C_Slips]) "__or__" (sp_Slips___or__ C_Slips [C_Swap, C_Leave, C_Double, C_Names, C_Drop])) (U_Slips___sub__ : UseMF P w K mg base 6 (FamS [C_Slips]) "__sub__" (sp_Slips___sub__ C_Slips [C_Swap, C_Leave, C_Double, C_Names, C_Drop])) (U_Slips___xor__ : UseMF P w K mg base 6 (FamS [C_Slips]) "__xor__" (sp_Slips___xor__ C_Slips [C_Swap, C_Leave, C_Double, C_Names, C_Drop])) (U_Slips_is_within : UseMF P w K mg base 4 (FamS [C_Slips]) "is_within" (sp_Slips_is_within C_Slips [C_Swap, C_Leave, C_Double, C_Names, C_Drop])) (U__law_slip : Use P w K mg base 6 "_law_slip" ["_law_key_here"] (sp__law_slip [C_Swap, C_Leave, C_Double, C_Names, C_Drop])) (U__law_set : Use P w K mg base 8 "_law_set" ["_law_keys"] (sp__law_set C_Slips [C_Swap, C_Leave, C_Double, C_Names, C_Drop])) (U__law_tells : Use P w K mg base 8 "_law_tells" ["_law_seen", "_law_keys", "_law_others"] (sp__law_tells C_Slips [C_Swap, C_Leave, C_Double, C_Names, C_Drop])) :
    FnOk P w K mg base CX0 10 f fd ["_law_one", "_law_two", "_law_extra"] (sp__law_agrees) := by
  refine F.ok sc__law_agrees (fun vs H Q E h => ?_) (fun cdv A outer s H vs Q E hr h => ?_)
  · obtain ⟨p1, p2, t, ts, us, ks, os, q0, rfl, _⟩ := h
    rfl
  · obtain ⟨p1, p2, t, ts, us, ks, os, q0, rfl, ep1, hts, ep2, hus, et, hk0, hl1, hl2, q⟩ := h
    obtain ⟨f_Slips___init__, R_Slips___init__, M_Slips___init__, g_Slips___init__⟩ := U_Slips___init__
    obtain ⟨f_Slips___eq__, R_Slips___eq__, M_Slips___eq__⟩ := U_Slips___eq__
    obtain ⟨f_Slips___and__, R_Slips___and__, M_Slips___and__⟩ := U_Slips___and__
    obtain ⟨f_Slips___or__, R_Slips___or__, M_Slips___or__⟩ := U_Slips___or__
    obtain ⟨f_Slips___sub__, R_Slips___sub__, M_Slips___sub__⟩ := U_Slips___sub__
    obtain ⟨f_Slips___xor__, R_Slips___xor__, M_Slips___xor__⟩ := U_Slips___xor__
    obtain ⟨f_Slips_is_within, R_Slips_is_within, M_Slips_is_within⟩ := U_Slips_is_within
    have hu := hu_of hr
    have hu64 := hr.units
    refine ⟨_, (pss_cons (ps_par3 (i := 3) (j := 4) (l := 5) (by rfl) sc__law_agrees.nd rfl rfl rfl (by decide) (by decide) (by decide) rfl rfl rfl (pa_cons (pe_use U__law_set (hr.mono (by first | decide | omega)) (by rfl) (pa_cons (pv 0) pa_nil)) (pa_cons (pe_use U__law_set (hr.mono (by first | decide | omega)) (by rfl) (pa_cons (pv 1) pa_nil)) (pa_cons (pe_op op_cat (pv 0) (pv 1)) pa_nil))) (by rfl))
        (pss_cons (ps_for PassesOwn.never (by rfl) (pi_range1 (by rfl) T.z_range (pa_cons pe_int pa_nil)) (pg_name (i := 6) sc__law_agrees.nd rfl (by first | exact Or.inl rfl | exact Or.inr rfl))
          (pss_cons (ps_if (pt_cutT (PW.pt (pw_or (pt_not (pt_val (pe_use U__law_tells (hr.mono (by first | decide | omega)) (by rfl) (pa_cons (pv 3) (pa_cons (pv 0) (pa_cons (pv 5) pa_nil)))))) (pw_or1 (pt_not (pt_val (pe_use U__law_tells (hr.mono (by first | decide | omega)) (by rfl) (pa_cons (pv 4) (pa_cons (pv 1) (pa_cons (pv 5) pa_nil))))))))))
            (pss_one (ps_ret pe_bl))
            pss_nil)
          (pss_cons (ps_if (pt_cutT (PW.pt (pw_or (pt_not (pt_val (pe_use U__law_tells (hr.mono (by first | decide | omega)) (by rfl) (pa_cons (pe_op (K_binFam (K := K) (S := (FamS [C_Slips])) (op := .BitOr) (nm := "__or__") rfl (by rfl) M_Slips___or__ (fam_cons T.sf_Slips fam_nil) R_Slips___or__ (hr.mono (by first | decide | omega))) (pv 3) (pv 4)) (pa_cons (pv 5) (pa_cons (pv 5) pa_nil)))))) (pw_or1 (pt_not (pt_val (pe_use U__law_tells (hr.mono (by first | decide | omega)) (by rfl) (pa_cons (pe_op (K_binFam (K := K) (S := (FamS [C_Slips])) (op := .BitAnd) (nm := "__and__") rfl (by rfl) M_Slips___and__ (fam_cons T.sf_Slips fam_nil) R_Slips___and__ (hr.mono (by first | decide | omega))) (pv 3) (pv 4)) (pa_cons (pe_lc (own := [("_law_key_here", 7)]) (by rfl) sc__law_agrees.nd (K_pil (K := K) rfl (pv 0)) (blkOk_by (own := [("_law_key_here", 7)]) (N := ["_law_one", "_law_two", "_law_extra", "_law_first", "_law_second", "_law_both", "_law_turn", "_law_key_here", "_law_less", "_law_same", "_law_more"]) (sc := defScope s__law_agrees) (by decide +kernel)) (fun _ _ _ _ _ => (pg_name (i := 7) sc__law_agrees.nd rfl (by first | exact Or.inl rfl | exact Or.inr rfl))) (fun _ _ _ _ _ => pts_one (pt_cmpR (K_inD (K := K) rfl (hr.mono (by first | decide | omega))) (pv 7) (pv 1) (by with_unfolding_all rfl))) (fun _ _ _ _ _ => (pv 7))) (pa_cons (pv 5) pa_nil))))))))))
            (pss_one (ps_ret pe_bl))
            pss_nil)
          (pss_cons (ps_setLc (i := 8) (own := [("_law_key_here", 7)]) (by rfl) sc__law_agrees.nd rfl rfl (sw_true rfl rfl rfl (by decide +kernel)) (K_pil (K := K) rfl (pv 0)) (blkOk_by (own := [("_law_key_here", 7)]) (N := ["_law_one", "_law_two", "_law_extra", "_law_first", "_law_second", "_law_both", "_law_turn", "_law_key_here", "_law_less", "_law_same", "_law_more"]) (sc := defScope s__law_agrees) (by decide +kernel)) (fun _ _ _ _ _ => (pg_name (i := 7) sc__law_agrees.nd rfl (by first | exact Or.inl rfl | exact Or.inr rfl))) (fun _ _ _ _ _ => pts_one (pt_cmpR (K_ninD (K := K) rfl (hr.mono (by first | decide | omega))) (pv 7) (pv 1) (by with_unfolding_all rfl))) (fun _ _ _ _ _ => (pv 7)))
          (pss_cons (ps_if (pt_not (pt_val (pe_use U__law_tells (hr.mono (by first | decide | omega)) (by rfl) (pa_cons (pe_op (K_binFam (K := K) (S := (FamS [C_Slips])) (op := .Sub) (nm := "__sub__") rfl (by rfl) M_Slips___sub__ (fam_cons T.sf_Slips fam_nil) R_Slips___sub__ (hr.mono (by first | decide | omega))) (pv 3) (pv 4)) (pa_cons (pv 8) (pa_cons (pv 5) pa_nil))))))
            (pss_one (ps_ret pe_bl))
            pss_nil)
          (pss_cons (ps_if (pt_not (pt_val (pe_use U__law_tells (hr.mono (by first | decide | omega)) (by rfl) (pa_cons (pe_op (K_binFam (K := K) (S := (FamS [C_Slips])) (op := .BitXor) (nm := "__xor__") rfl (by rfl) M_Slips___xor__ (fam_cons T.sf_Slips fam_nil) R_Slips___xor__ (hr.mono (by first | decide | omega))) (pv 3) (pv 4)) (pa_cons (pe_op op_cat (pv 8) (pe_lc (own := [("_law_key_here", 7)]) (by rfl) sc__law_agrees.nd (K_pil (K := K) rfl (pv 1)) (blkOk_by (own := [("_law_key_here", 7)]) (N := ["_law_one", "_law_two", "_law_extra", "_law_first", "_law_second", "_law_both", "_law_turn", "_law_key_here", "_law_less", "_law_same", "_law_more"]) (sc := defScope s__law_agrees) (by decide +kernel)) (fun _ _ _ _ _ => (pg_name (i := 7) sc__law_agrees.nd rfl (by first | exact Or.inl rfl | exact Or.inr rfl))) (fun _ _ _ _ _ => pts_one (pt_cmpR (K_ninD (K := K) rfl (hr.mono (by first | decide | omega))) (pv 7) (pv 0) (by with_unfolding_all rfl))) (fun _ _ _ _ _ => (pv 7)))) (pa_cons (pv 5) pa_nil))))))
            (pss_one (ps_ret pe_bl))
            pss_nil)
          (pss_cons (ps_set (i := 9) sc__law_agrees.nd rfl (by first | exact Or.inl rfl | exact Or.inr rfl) (pe_cmpR (K_eqD (K := K) rfl hu64) (pe_callB (K_sortM (K := K) rfl) (by rfl) T.z_sorted (by decide +kernel) (pa_cons (pe_op op_cat (pv 8) (pe_lc (own := [("_law_key_here", 7)]) (by rfl) sc__law_agrees.nd (K_pil (K := K) rfl (pv 1)) (blkOk_by (own := [("_law_key_here", 7)]) (N := ["_law_one", "_law_two", "_law_extra", "_law_first", "_law_second", "_law_both", "_law_turn", "_law_key_here", "_law_less", "_law_same", "_law_more"]) (sc := defScope s__law_agrees) (by decide +kernel)) (fun _ _ _ _ _ => (pg_name (i := 7) sc__law_agrees.nd rfl (by first | exact Or.inl rfl | exact Or.inr rfl))) (fun _ _ _ _ _ => pts_one (pt_cmpR (K_ninD (K := K) rfl (hr.mono (by first | decide | omega))) (pv 7) (pv 0) (by with_unfolding_all rfl))) (fun _ _ _ _ _ => (pv 7)))) pa_nil)) (pe_lst pa_nil) (nomark _)))
          (pss_cons (ps_if (pt_cutT (PW.pt (pw_or (pt_cmpR op_ne (pe_cmpR (K_eqFam (K := K) (S := (FamS [C_Slips])) rfl M_Slips___eq__ R_Slips___eq__ (hr.mono (by first | decide | omega))) (pv 3) (pv 4) (nomark _)) (pv 9) (nomark _)) (pw_or (pt_cmpR op_ne (pe_methF (S := [C_Slips]) (sp := fun _ => sp_Slips_is_within C_Slips [C_Swap, C_Leave, C_Double, C_Names, C_Drop]) (pv 3) (fun _ C hS => ⟨T.fc_Slips C (List.mem_of_getElem? hS), f_Slips_is_within, R_Slips_is_within, M_Slips_is_within C (List.mem_of_getElem? hS)⟩) (hr.mono (by first | decide | omega)) (pa_cons (pv 4) pa_nil)) (pe_cmpR (K_eqD (K := K) rfl hu64) (pv 8) (pe_lst pa_nil) (nomark _)) (nomark _)) (pw_or1 (pt_not (pt_val (pe_methF (S := [C_Slips]) (sp := fun _ => sp_Slips_is_within C_Slips [C_Swap, C_Leave, C_Double, C_Names, C_Drop]) (pv 3) (fun _ C hS => ⟨T.fc_Slips C (List.mem_of_getElem? hS), f_Slips_is_within, R_Slips_is_within, M_Slips_is_within C (List.mem_of_getElem? hS)⟩) (hr.mono (by first | decide | omega)) (pa_cons (pe_op (K_binFam (K := K) (S := (FamS [C_Slips])) (op := .BitOr) (nm := "__or__") rfl (by rfl) M_Slips___or__ (fam_cons T.sf_Slips fam_nil) R_Slips___or__ (hr.mono (by first | decide | omega))) (pv 3) (pv 4)) pa_nil)))))))))
            (pss_one (ps_ret pe_bl))
            pss_nil)
          (pss_cons (ps_set (i := 10) sc__law_agrees.nd rfl (by first | exact Or.inl rfl | exact Or.inr rfl) (pe_op (K_binFam (K := K) (S := (FamS [C_Slips])) (op := .BitOr) (nm := "__or__") rfl (by rfl) M_Slips___or__ (fam_cons T.sf_Slips fam_nil) R_Slips___or__ (hr.mono (by first | decide | omega))) (pv 3) (pe_makeR M_Slips___init__ R_Slips___init__ (hr.mono (by first | decide | omega)) (by rfl) g_Slips___init__ pass0 (pa_cons (pe_use U__law_slip (hr.mono (by first | decide | omega)) (by rfl) (pa_cons (pv 2) pa_nil)) (pa_cons (pe_use U__law_slip (hr.mono (by first | decide | omega)) (by rfl) (pa_cons (pv 2) pa_nil)) (pa_cons (pe_use U__law_slip (hr.mono (by first | decide | omega)) (by rfl) (pa_cons (pv 2) pa_nil)) pa_nil))))))
          (pss_one (ps_if (pt_cutT (PW.pt (pw_or (pt_not (pt_val (pe_use U__law_tells (hr.mono (by first | decide | omega)) (by rfl) (pa_cons (pv 10) (pa_cons (pe_op op_cat (pv 0) (pe_lst (pa_cons (pv 2) pa_nil))) (pa_cons (pe_op op_cat (pv 5) (pe_lst (pa_cons (pv 2) pa_nil))) pa_nil)))))) (pw_or1 (pt_cmpR op_ne (pe_cmpR (K_eqFam (K := K) (S := (FamS [C_Slips])) rfl M_Slips___eq__ R_Slips___eq__ (hr.mono (by first | decide | omega))) (pv 10) (pv 3) (nomark _)) (pe_cmpR (K_inD (K := K) rfl (hr.mono (by first | decide | omega))) (pv 2) (pv 0) (by with_unfolding_all rfl)) (nomark _))))))
            (pss_one (ps_ret pe_bl))
            pss_nil)))))))))))
        (pss_one (ps_ret pe_bl)))), ?_⟩
    have big : 5000 ≤ sizeLine := by decide
    have hks : AllKS ks := hts.ks
    have hos : AllKS os := hus.ks
    have hC := T.c_Slips
    have hM : FamS [C_Slips] C_Slips := .hd
    have hc1 := canon_len ks
    have hc2 := canon_len os
    walk_at "S"
    refine ⟨p1, ts, ks, rfl, ep1, hts, by omega, fun f H1 n1 k1 hf => ?_⟩
    walk_at "S"
    refine ⟨p2, us, os, rfl, k1 _ _ ep2 not_nil, hus.kp k1, by omega, fun s H2 n2 k2 hs => ?_⟩
    walk_at "S"
    have k02 := k1.trans k2
    refine r_cat (k02 _ _ ep1 not_nil) (k02 _ _ ep2 not_nil) (by
      rw [List.length_map, List.length_map, hts.len, hus.len]
      omega) fun B H3 nB k3 eB => ?_
    rw [← List.map_append] at eB
    walk_at "S"
    refine ⟨_, _, _, rfl, ?_⟩
    walk_at "S"
    have k4 : Kp [] H3 H3 := Kp.refl _ _
    have k04 := k02.trans (k3.trans k4)
    have ep1 := k04 _ _ ep1 not_nil
    have ep2 := k04 _ _ ep2 not_nil
    have et := k04 _ _ et not_nil
    have hts := hts.kp k04
    have hus := hus.kp k04
    have eB := k4 _ _ eB not_nil
    have hB : KeysL H3 (ts ++ us) (ks ++ os) := hts.app hus
    have hBl : (ks ++ os).length = ks.length + os.length := List.length_append
    have hf := hf.kp (k2.trans (k3.trans k4))
    have hs := hs.kp (k3.trans k4)
    obtain ⟨dxf, lf, af, ef, _⟩ := id hf
    obtain ⟨dxs, ls, as', es, _⟩ := id hs
    have nf4 := k04
    clear k1 k2 k3 k4 k02
    refine r_cRng1 (by decide) ?_
    refine r_kForR (fun i σ' H' => ∃ s6 s7 s8 s9 s10, σ' = [some (.ref p1), some (.ref p2), some (.ref t), some (.ref f), some (.ref s), some (.ref B), s6, s7, s8, s9, s10] ∧ Kp [] H3 H') ⟨_, _, _, _, _, rfl, Kp.refl _ _⟩ ?_ ?_
    · rintro i σ' G0 hi ⟨s6, s7, s8, s9, s10, rfl, g0⟩
      walk_at "S"
      refine r_cutT (fun b H' => b = false ∧ Kp [] G0 H') ?_ ?_
      · walk_at "S"
        refine ⟨f, p1, B, ts, ts ++ us, ks, ks ++ os, rfl, hf.kp g0, g0 _ _ ep1 not_nil, hts.kp g0, g0 _ _ eB not_nil, hB.kp g0, by omega, by omega, fun G1 g1 => ?_⟩
        have g01 := g0.trans g1
        walk_at "S"
        refine r_kOr0 rfl ?_
        walk_at "S"
        refine ⟨s, p2, B, us, ts ++ us, os, ks ++ os, rfl, hs.kp g01, g01 _ _ ep2 not_nil, hus.kp g01, g01 _ _ eB not_nil, hB.kp g01, by omega, by omega, fun G2 g2 => ?_⟩
        walk_at "S"
        exact ⟨rfl, g1.trans g2⟩
      rintro b0 G1 ⟨rfl, g1⟩
      refine r_kIfS0 rfl ?_
      have g01 := g0.trans g1
      walk_at "S"
      refine r_cutT (fun b H' => b = false ∧ Kp [] G1 H') ?_ ?_
      · walk_at "S"
        refine r_binOwn .hd (g01 _ _ ef not_nil) (g01 _ _ es not_nil) ⟨f, s, _, _, rfl, hf.kp g01, hs.kp g01, by omega, by omega, fun c G2 nc g2 hc => r_kObj ?_⟩
        rw [canon_app hks hos] at hc
        have g02 := g01.trans g2
        walk_at "S"
        refine ⟨c, B, B, ts ++ us, ts ++ us, ks ++ os, ks ++ os, rfl, hc, g02 _ _ eB not_nil, hB.kp g02, g02 _ _ eB not_nil, hB.kp g02, by omega, by omega, fun G3 g3 => ?_⟩
        walk_at "S"
        refine r_kOr0 rfl ?_
        walk_at "S"
        have g03 := g02.trans g3
        refine r_binOwn .hd (g03 _ _ ef not_nil) (g03 _ _ es not_nil) ⟨f, s, _, _, rfl, hf.kp g03, hs.kp g03, by omega, by omega, fun c2 G4 nc2 g4 hc2' => r_kObj ?_⟩
        rw [canon_filter hks hos] at hc2'
        have g04 := g03.trans g4
        walk_at "S"
        refine r_cWL (SqL.of ((g04) _ _ ep1 not_nil)) ?_
        refine r_kLcL (fun D i acc H' => Kp [] G4 H' ∧ ∃ as, acc = as.map V.ref ∧ KeysL H' as ((ks.take i).filter (fun q => memQ q os))) (fun D H' nD k e => ⟨k, [], rfl, .nil⟩) (fun D i acc H' _ h => SqL.of (h.1 _ _ ((g04) _ _ ep1 not_nil) not_nil)) ?_ ?_
        · rintro D i acc x Hx nD hx eD ⟨kx, as, rfl, has⟩
          obtain ⟨t', ht, rfl⟩ := map_at hx
          obtain ⟨q1, hq1, et1, hk1⟩ := hts.at ht
          have k0x := (g04).trans kx
          have hfl := take_filter (fun q => memQ q os) hq1
          have hle := has.len
          have hle2 := List.length_filter_le (fun q => memQ q os) (ks.take i)
          rw [List.length_take] at hle2
          have hlt := lt_at hq1
          walk_at "S"
          refine r_inKeys (k0x _ _ ep2 not_nil) (hus.kp k0x) (k0x _ _ et1 not_nil) hk1 ?_
          walk_at "S"
          refine r_kKeep (fun c => ?_) (fun c => ?_)
          · have c : (fun q => memQ q os) q1 = true := by
              show memQ q1 os = true
              cases hz : memQ q1 os <;> rw [hz] at c <;> first | rfl | cases c
            walk_at "S"
            refine r_kApp eD (by
              rw [List.length_map]
              omega) fun Hy ky ey => ⟨kx.step nD ky, as ++ [t'], by rw [List.map_append]; rfl, ?_⟩
            rw [hfl, if_pos c]
            exact (has.snoc (k0x _ _ et1 not_nil) hk1).lst eD ky
          · have c : ¬ (fun q => memQ q os) q1 = true := by
              show ¬ memQ q1 os = true
              cases hz : memQ q1 os <;> rw [hz] at c <;> first | (intro w; cases w; done) | cases c
            refine ⟨_, eD, kx, as, rfl, ?_⟩
            rw [hfl, if_neg c, List.append_nil]
            exact has
        rintro F acc G5 nF eF ⟨g5, fs, rfl, hfs⟩
        rw [List.length_map, hts.len, List.take_length] at hfs
        walk_at "S"
        have g05 := g04.trans g5
        have hfl := List.length_filter_le (fun q => memQ q os) ks
        refine ⟨c2, F, B, fs, ts ++ us, _, ks ++ os, rfl, hc2'.kp g5, eF, hfs, g05 _ _ eB not_nil, hB.kp g05, by omega, by omega, fun G6 g6 => ?_⟩
        walk_at "S"
        exact ⟨rfl, g2.trans (g3.trans (g4.trans (g5.trans g6)))⟩
      rintro b0 G2 ⟨rfl, g2⟩
      refine r_kIfS0 rfl ?_
      have g02 := g01.trans g2
      walk_at "S"
      refine r_cWL (SqL.of ((g02) _ _ ep1 not_nil)) ?_
      refine r_kLcL (fun D i acc H' => Kp [] G2 H' ∧ ∃ as, acc = as.map V.ref ∧ KeysL H' as ((ks.take i).filter (fun q => !memQ q os))) (fun D H' nD k e => ⟨k, [], rfl, .nil⟩) (fun D i acc H' _ h => SqL.of (h.1 _ _ ((g02) _ _ ep1 not_nil) not_nil)) ?_ ?_
      · rintro D i acc x Hx nD hx eD ⟨kx, as, rfl, has⟩
        obtain ⟨t', ht, rfl⟩ := map_at hx
        obtain ⟨q1, hq1, et1, hk1⟩ := hts.at ht
        have k0x := (g02).trans kx
        have hfl := take_filter (fun q => !memQ q os) hq1
        have hle := has.len
        have hle2 := List.length_filter_le (fun q => !memQ q os) (ks.take i)
        rw [List.length_take] at hle2
        have hlt := lt_at hq1
        walk_at "S"
        refine r_inKeys (k0x _ _ ep2 not_nil) (hus.kp k0x) (k0x _ _ et1 not_nil) hk1 ?_
        walk_at "S"
        refine r_kKeep (fun c => ?_) (fun c => ?_)
        · have c : (fun q => !memQ q os) q1 = true := by
            show (!memQ q1 os) = true
            cases hz : memQ q1 os <;> rw [hz] at c <;> first | rfl | cases c
          walk_at "S"
          refine r_kApp eD (by
            rw [List.length_map]
            omega) fun Hy ky ey => ⟨kx.step nD ky, as ++ [t'], by rw [List.map_append]; rfl, ?_⟩
          rw [hfl, if_pos c]
          exact (has.snoc (k0x _ _ et1 not_nil) hk1).lst eD ky
        · have c : ¬ (fun q => !memQ q os) q1 = true := by
            show ¬ (!memQ q1 os) = true
            cases hz : memQ q1 os <;> rw [hz] at c <;> first | (intro w; cases w; done) | cases c
          refine ⟨_, eD, kx, as, rfl, ?_⟩
          rw [hfl, if_neg c, List.append_nil]
          exact has
      rintro L acc G3 nL eL ⟨g3, lss, rfl, hls⟩
      rw [List.length_map, hts.len, List.take_length] at hls
      have hll := List.length_filter_le (fun q => !memQ q os) ks
      have hml := List.length_filter_le (fun q => !memQ q ks) os
      have g03 := g02.trans g3
      walk_at "S"
      refine r_binOwn .hd (g03 _ _ ef not_nil) (g03 _ _ es not_nil) ⟨f, s, _, _, rfl, hf.kp g03, hs.kp g03, by omega, by omega, fun c3 G4 nc3 g4 hc3 => r_kObj ?_⟩
      rw [canon_less hks hos] at hc3
      have g04 := g03.trans g4
      walk_at "S"
      refine ⟨c3, L, B, lss, ts ++ us, _, ks ++ os, rfl, hc3, g4 _ _ eL not_nil, hls.kp g4, g04 _ _ eB not_nil, hB.kp g04, by omega, by omega, fun G5 g5 => ?_⟩
      walk_at "S"
      refine r_kIfS0 rfl ?_
      walk_at "S"
      have g05 := g04.trans g5
      refine r_binOwn .hd (g05 _ _ ef not_nil) (g05 _ _ es not_nil) ⟨f, s, _, _, rfl, hf.kp g05, hs.kp g05, by omega, by omega, fun c4 G6 nc4 g6 hc4 => r_kObj ?_⟩
      rw [canon_xor hks hos] at hc4
      have g06 := g05.trans g6
      walk_at "S"
      refine r_cWL (SqL.of ((g06) _ _ ep2 not_nil)) ?_
      refine r_kLcL (fun D i acc H' => Kp [] G6 H' ∧ ∃ as, acc = as.map V.ref ∧ KeysL H' as ((os.take i).filter (fun q => !memQ q ks))) (fun D H' nD k e => ⟨k, [], rfl, .nil⟩) (fun D i acc H' _ h => SqL.of (h.1 _ _ ((g06) _ _ ep2 not_nil) not_nil)) ?_ ?_
      · rintro D i acc x Hx nD hx eD ⟨kx, as, rfl, has⟩
        obtain ⟨t', ht, rfl⟩ := map_at hx
        obtain ⟨q1, hq1, et1, hk1⟩ := hus.at ht
        have k0x := (g06).trans kx
        have hfl := take_filter (fun q => !memQ q ks) hq1
        have hle := has.len
        have hle2 := List.length_filter_le (fun q => !memQ q ks) (os.take i)
        rw [List.length_take] at hle2
        have hlt := lt_at hq1
        walk_at "S"
        refine r_inKeys (k0x _ _ ep1 not_nil) (hts.kp k0x) (k0x _ _ et1 not_nil) hk1 ?_
        walk_at "S"
        refine r_kKeep (fun c => ?_) (fun c => ?_)
        · have c : (fun q => !memQ q ks) q1 = true := by
            show (!memQ q1 ks) = true
            cases hz : memQ q1 ks <;> rw [hz] at c <;> first | rfl | cases c
          walk_at "S"
          refine r_kApp eD (by
            rw [List.length_map]
            omega) fun Hy ky ey => ⟨kx.step nD ky, as ++ [t'], by rw [List.map_append]; rfl, ?_⟩
          rw [hfl, if_pos c]
          exact (has.snoc (k0x _ _ et1 not_nil) hk1).lst eD ky
        · have c : ¬ (fun q => !memQ q ks) q1 = true := by
            show ¬ (!memQ q1 ks) = true
            cases hz : memQ q1 ks <;> rw [hz] at c <;> first | (intro w; cases w; done) | cases c
          refine ⟨_, eD, kx, as, rfl, ?_⟩
          rw [hfl, if_neg c, List.append_nil]
          exact has
      rintro M acc G7 nM eM ⟨g7, mss, rfl, hms⟩
      rw [List.length_map, hus.len, List.take_length] at hms
      have g47 := g4.trans (g5.trans (g6.trans g7))
      have g07 := g06.trans g7
      walk_at "S"
      refine r_cat (g47 _ _ eL not_nil) eM (by
        rw [List.length_map, List.length_map, hls.len, hms.len]
        omega) fun U G8 nU g8 eU => ?_
      rw [← List.map_append] at eU
      have g48 := g47.trans g8
      have hU : KeysL G8 (lss ++ mss) _ := (hls.kp g48).app (hms.kp g8)
      have g08 := g07.trans g8
      have hUl : ((ks.filter fun q => !memQ q os) ++ (os.filter fun q => !memQ q ks)).length ≤ 40 := by
        rw [List.length_append]
        omega
      walk_at "S"
      refine ⟨c4, U, B, lss ++ mss, ts ++ us, _, ks ++ os, rfl, hc4.kp (g7.trans g8), eU, hU, g08 _ _ eB not_nil, hB.kp g08, by omega, by omega, fun G9 g9 => ?_⟩
      walk_at "S"
      refine r_kIfS0 rfl ?_
      walk_at "S"
      have g09 := g08.trans g9
      refine r_cWL (SqL.of ((g09) _ _ ep2 not_nil)) ?_
      refine r_kLcL (fun D i acc H' => Kp [] G9 H' ∧ ∃ as, acc = as.map V.ref ∧ KeysL H' as ((os.take i).filter (fun q => !memQ q ks))) (fun D H' nD k e => ⟨k, [], rfl, .nil⟩) (fun D i acc H' _ h => SqL.of (h.1 _ _ ((g09) _ _ ep2 not_nil) not_nil)) ?_ ?_
      · rintro D i acc x Hx nD hx eD ⟨kx, as, rfl, has⟩
        obtain ⟨t', ht, rfl⟩ := map_at hx
        obtain ⟨q1, hq1, et1, hk1⟩ := hus.at ht
        have k0x := (g09).trans kx
        have hfl := take_filter (fun q => !memQ q ks) hq1
        have hle := has.len
        have hle2 := List.length_filter_le (fun q => !memQ q ks) (os.take i)
        rw [List.length_take] at hle2
        have hlt := lt_at hq1
        walk_at "S"
        refine r_inKeys (k0x _ _ ep1 not_nil) (hts.kp k0x) (k0x _ _ et1 not_nil) hk1 ?_
        walk_at "S"
        refine r_kKeep (fun c => ?_) (fun c => ?_)
        · have c : (fun q => !memQ q ks) q1 = true := by
            show (!memQ q1 ks) = true
            cases hz : memQ q1 ks <;> rw [hz] at c <;> first | rfl | cases c
          walk_at "S"
          refine r_kApp eD (by
            rw [List.length_map]
            omega) fun Hy ky ey => ⟨kx.step nD ky, as ++ [t'], by rw [List.map_append]; rfl, ?_⟩
          rw [hfl, if_pos c]
          exact (has.snoc (k0x _ _ et1 not_nil) hk1).lst eD ky
        · have c : ¬ (fun q => !memQ q ks) q1 = true := by
            show ¬ (!memQ q1 ks) = true
            cases hz : memQ q1 ks <;> rw [hz] at c <;> first | (intro w; cases w; done) | cases c
          refine ⟨_, eD, kx, as, rfl, ?_⟩
          rw [hfl, if_neg c, List.append_nil]
          exact has
      rintro N acc Ga nN eN ⟨ga, nss, rfl, hns⟩
      rw [List.length_map, hus.len, List.take_length] at hns
      have g49 := g48.trans (g9.trans ga)
      walk_at "S"
      refine r_cat (g49 _ _ eL not_nil) eN (by
        rw [List.length_map, List.length_map, hls.len, hns.len]
        omega) fun W Gb nW gb eW => ?_
      rw [← List.map_append] at eW
      have hW : KeysL Gb (lss ++ nss) _ := (hls.kp (g49.trans gb)).app (hns.kp gb)
      walk_at "S"
      refine r_sortM (SqL.of eW) hW (by omega) fun X xs Gc nX gc eX hX => ?_
      have hsU := (srtQ_perm ((ks.filter fun q => !memQ q os) ++ (os.filter fun q => !memQ q ks)))
      have hsk : AllKS (srtQ ((ks.filter fun q => !memQ q os) ++ (os.filter fun q => !memQ q ks))) := hX.ks
      walk_at "S"
      refine r_kLst (by show 0 ≤ sizeLine; decide) fun Z Gd nZ gd eZ => ?_
      refine r_eqD (dl_keys (gd _ _ eX not_nil) (hX.kp gd)) (.lst not_nil eZ .nil) (shp_keys hsk) shpl_nil2 (by decide) ?_
      rw [eqv_none', ← same_ok hks hos]
      walk_at "S"
      have g4d := g49.trans (gb.trans (gc.trans gd))
      have eLd := g4d _ _ eL not_nil
      have hlsd := hls.kp g4d
      have g0d := g03.trans g4d
      refine r_cutT (fun b H' => b = false ∧ Kp [] Gd H') ?_ ?_
      · walk_at "S"
        refine r_eqSets T.c_Slips (T.cl_Slips _ hM) T.gt_Slips T.tk_Slips (T.ob_Slips _ hM) (hf.kp g0d) (hs.kp g0d) ?_
        walk_at "S"
        refine r_neB ?_
        walk_at "S"
        refine r_kOr0 (by simp) ?_
        walk_at "S"
        refine r_kMethF (k := 0) rfl (g0d _ _ ef not_nil) (by rfl) ?_
        walk_at "S"
        refine ⟨f, s, canon ks, canon os, rfl, hf.kp g0d, hs.kp g0d, by omega, fun Ge ge => ?_⟩
        rw [within_ok hks hos]
        walk_at "S"
        refine r_kLst (by show 0 ≤ sizeLine; decide) fun Z2 Gf nZ2 gf eZ2 => ?_
        refine r_eqD (dl_keys ((ge.trans gf) _ _ eLd not_nil) (hlsd.kp (ge.trans gf))) (.lst not_nil eZ2 .nil) (shp_keys hls.ks) shpl_nil2 (by decide) ?_
        rw [eqv_none']
        refine r_neB ?_
        walk_at "S"
        refine r_kOr0 (by simp) ?_
        walk_at "S"
        have g0f := g0d.trans (ge.trans gf)
        refine r_kMethF (k := 0) rfl (g0f _ _ ef not_nil) (by rfl) ?_
        walk_at "S"
        refine r_binOwn .hd (g0f _ _ ef not_nil) (g0f _ _ es not_nil) ⟨f, s, _, _, rfl, hf.kp g0f, hs.kp g0f, by omega, by omega, fun c5 Gg nc5 gg hc5 => r_kObj ?_⟩
        walk_at "S"
        refine ⟨f, c5, canon ks, _, rfl, (hf.kp g0f).kp gg, hc5, by omega, fun Gh gh => ?_⟩
        rw [within_or hks hos]
        walk_at "S"
        exact ⟨rfl, ge.trans (gf.trans (gg.trans gh))⟩
      rintro b0 Ge ⟨rfl, ge⟩
      refine r_kIfS0 rfl ?_
      have g0e := g0d.trans ge
      have ete := g0e _ _ et not_nil
      walk_at "S"
      refine ⟨t, q0.1, q0.2, rfl, key_dt ete hk0, hk0, fun b1 Gf gf hb1 => ?_⟩
      walk_at "S"
      refine ⟨t, q0.1, q0.2, rfl, key_dt (gf _ _ ete not_nil) hk0, hk0, fun b2 Gg gg hb2 => ?_⟩
      walk_at "S"
      refine ⟨t, q0.1, q0.2, rfl, key_dt ((gf.trans gg) _ _ ete not_nil) hk0, hk0, fun b3 Gh gh hb3 => ?_⟩
      walk_at "S"
      have geh := gf.trans (gg.trans gh)
      refine r_kMake fun o dx Gi no gi eo => ⟨o, dx, [b1, b2, b3], [q0, q0, q0], rfl, eo, .cons ⟨(hb1.kp (gg.trans gh)).kp gi, hk0⟩ (.cons ⟨(hb2.kp gh).kp gi, hk0⟩ (.cons ⟨hb3.kp gi, hk0⟩ .nil)), by show 3 ≤ 1000; decide, fun Gj gj hone => r_kMade ?_⟩
      have ghj : Kp [] Gh Gj := gi.trans' gj no
      have gej := geh.trans ghj
      have g0j := g0e.trans gej
      obtain ⟨dxo, lo, ao, eoo, _⟩ := id hone
      have hc3l := canon_len [q0, q0, q0]
      refine r_binOwn .hd (g0j _ _ ef not_nil) eoo ⟨f, o, _, _, rfl, hf.kp g0j, hone, by omega, Nat.le_trans hc3l (by show 3 ≤ 100; decide), fun m Gk nm gk hm => r_kObj ?_⟩
      have hm : SetAt C_Slips [C_Swap, C_Leave, C_Double, C_Names, C_Drop] Gk m (canon (ks ++ [q0])) := by
        rw [← canon_more hks hk0]
        exact hm
      have g0k := g0j.trans gk
      obtain ⟨dxm, lm, am, em, _⟩ := id hm
      walk_at "S"
      refine r_cutT (fun b H' => b = false ∧ Kp [] Gk H') ?_ ?_
      · walk_at "S"
        refine r_kLst (xs := [.ref t]) (by show 1 ≤ sizeLine; decide) fun T1 Gl nT1 gl eT1 => ?_
        walk_at "S"
        have g0l := g0k.trans gl
        refine r_cat (g0l _ _ ep1 not_nil) eT1 (by
          rw [List.length_map, hts.len]
          show ks.length + 1 ≤ sizeLine
          omega) fun T2 Gm nT2 gm eT2 => ?_
        have eT2 : Gm T2 = some (.lst ((ts ++ [t]).map V.ref)) := by rw [eT2, List.map_append]; rfl
        have g0m := g0l.trans gm
        walk_at "S"
        refine r_kLst (xs := [.ref t]) (by show 1 ≤ sizeLine; decide) fun T3 Gn nT3 gn eT3 => ?_
        walk_at "S"
        have g0n := g0m.trans gn
        refine r_cat (g0n _ _ eB not_nil) eT3 (by
          rw [List.length_map, List.length_append, hts.len, hus.len]
          show ks.length + os.length + 1 ≤ sizeLine
          omega) fun T4 Go nT4 go eT4 => ?_
        have eT4 : Go T4 = some (.lst ((ts ++ us ++ [t]).map V.ref)) := by rw [eT4, List.map_append (l₁ := ts ++ us)]; rfl
        have g0o := g0n.trans go
        have gko := gl.trans (gm.trans (gn.trans go))
        walk_at "S"
        refine ⟨m, T2, T4, ts ++ [t], ts ++ us ++ [t], ks ++ [q0], ks ++ os ++ [q0], rfl, hm.kp gko, (gn.trans go) _ _ eT2 not_nil, (hts.kp g0o).snoc (g0o _ _ et not_nil) hk0, eT4, (hB.kp g0o).snoc (g0o _ _ et not_nil) hk0, by rw [List.length_append]; show ks.length + 1 ≤ 60; omega, by rw [List.length_append, hBl]; show ks.length + os.length + 1 ≤ 60; omega, fun Gp gp => ?_⟩
        walk_at "S"
        refine r_kOr0 rfl ?_
        walk_at "S"
        have gkp := gko.trans gp
        have g0p := g0k.trans gkp
        refine r_eqSets T.c_Slips (T.cl_Slips _ hM) T.gt_Slips T.tk_Slips (T.ob_Slips _ hM) (hm.kp gkp) (hf.kp g0p) ?_
        walk_at "S"
        refine r_inKeys (g0p _ _ ep1 not_nil) (hts.kp g0p) (g0p _ _ et not_nil) hk0 ?_
        rw [more_ok hks hk0]
        refine r_neB ?_
        walk_at "S"
        exact ⟨by simp, gkp⟩
      rintro b0 Gl ⟨rfl, gl⟩
      refine r_kIfS0 rfl ?_
      walk_at "S"
      exact ⟨_, _, _, _, _, rfl, g0k.trans gl⟩
    · rintro σ' G0 ⟨s6, s7, s8, s9, s10, rfl, g0⟩
      walk_at "S"
      exact q _ (nf4.trans g0)

end
section
open NdefX
variable {P : Program} {w : World} {K : PySem.W.Frag} {mg : Str → Option Value} {base : Heap}
variable {C_Swap : Addr} {C_Leave : Addr} {C_Double : Addr} {C_Names : Addr} {C_Drop : Addr} {C_Slips : Addr} {C_BadSlip : Addr} {C_Slip : Addr} {G_SLIP_WORDS : Addr}
local macro_rules | `(tactic| walk_at "s") => `(tactic| (first
  | (with_reducible refine r_seq ?_)
  | (with_reducible refine r_asg ?_)
  | ((with_reducible refine' r_var (v := ?v) ?hv ?_); (case hv => exact rfl))
  | (with_reducible refine r_c ?_)
  | (with_reducible refine r_name ?_)
  | (with_reducible refine r_op ?_)
  | (with_reducible refine r_un ?_)
  | (with_reducible refine r_consA ?_)
  | (with_reducible refine r_nilA ?_)
  | (with_reducible refine r_I0 ?_)
  | (with_reducible refine r_U ?_)
  | (with_reducible refine r_eqI ?_)
  | (with_reducible refine r_neI ?_)
  | (with_reducible refine r_test ?_)
  | (with_reducible refine r_tB ?_)
  | (with_reducible refine r_kB ?_)
  | (with_reducible refine r_ifS ?_)
  | (with_reducible refine r_if ?_)
  | (with_reducible refine r_and ?_)
  | (with_reducible refine r_or ?_)
  | (with_reducible refine r_not ?_)
  | (with_reducible refine r_ret ?_)
  | (with_reducible refine r_retN ?_)
  | (with_reducible refine r_next ?_)
  | (with_reducible refine r_drop ?_)
  | (with_reducible refine r_brk ?_)
  | (with_reducible refine r_cont ?_)
  | (with_reducible refine r_andV ?_)
  | (with_reducible refine r_orV ?_)
  | (with_reducible refine r_notV ?_)
  | (with_reducible refine r_kNotV ?_)
  | (with_reducible refine r_lst ?_)
  | (with_reducible refine r_tup ?_)
  | (with_reducible refine r_dget ?_)
  | (with_reducible refine r_dput ?_)
  | (with_reducible refine r_use ?_)
  | (with_reducible refine r_cb ?_)
  | (with_reducible refine r_par ?_)
  | (with_reducible refine r_int ?_)
  | (with_reducible refine r_abs ?_)
  | (with_reducible refine r_max2 ?_)
  | (with_reducible refine r_min2 ?_)
  | (with_reducible refine r_pnil ?_)
  | (with_reducible refine r_pcons ?_)
  | (with_reducible refine r_eqS ?_)
  | (with_reducible refine r_neS ?_)
  | (with_reducible refine r_for ?_)
  | (with_reducible refine r_rng1 ?_)
  | (with_reducible refine r_rng2 ?_)
  | (with_reducible refine r_wl ?_)
  | (with_reducible refine r_wt ?_)
  | (with_reducible refine r_wq ?_)
  | (with_reducible refine r_ws ?_)
  | (with_reducible refine r_cWS ?_)
  | (with_reducible refine r_enum ?_)
  | (with_reducible refine r_zip ?_)
  | (with_reducible refine r_lc ?_)
  | (with_reducible refine r_dc ?_)
  | ((with_reducible refine r_kTurn ?ht ?_); (case ht => rfl))
  | ((with_reducible refine r_kTurnD ?ht ?_); (case ht => rfl))
  | (with_reducible refine r_yes ?_)
  | ((with_reducible refine r_kKeep1 ?hk ?_); (case hk => rfl))
  | ((with_reducible refine r_kKeepD1 ?hk ?_); (case hk => rfl))
  | (with_reducible refine r_gcons ?_)
  | (with_reducible refine r_gnil ?_)
  | (with_reducible refine r_bm ?_)
  | (with_reducible refine r_bm0 ?_)
  | (with_reducible refine r_fld ?_)
  | (with_reducible refine r_sfld ?_)
  | (with_reducible refine r_methR ?_)
  | (with_reducible refine r_makeR ?_)
  | (with_reducible refine r_chain ?_)))
local macro_rules | `(tactic| walk_at "S") => `(tactic| repeat walk_at "s")
local macro_rules | `(tactic| walk_at "D") => `(tactic| repeat' (first
  | exact AD_nil
  | refine AD_cons ?_ (fun _ _ => ?_)
  | refine ED_tup ?_ (Nat.le_trans (m := 100) (Nat.le_of_ble_eq_true rfl) (by decide))
  | refine ED_lst ?_ (Nat.le_trans (m := 100) (Nat.le_of_ble_eq_true rfl) (by decide))
  | exact ED_c (by constructor)
  | exact ED_var rfl (by constructor)))
local macro_rules | `(tactic| walk_at "N") => `(tactic| repeat' (first
  | exact AN_nil
  | refine AN_cons ?_ (fun _ _ => ?_)
  | refine EN_tup ?_ (Nat.le_trans (m := 100) (Nat.le_of_ble_eq_true rfl) (by decide))
  | refine EN_lst ?_ (Nat.le_trans (m := 100) (Nat.le_of_ble_eq_true rfl) (by decide))
  | exact EN_c (fun _ => by constructor)
  | exact EN_var rfl (fun _ => by constructor)))

local macro_rules | `(tactic| walk_at "s") => `(tactic| (first
  | (with_reducible refine r_sl ?_)
  | (with_reducible refine r_kS1 ?_)
  | (with_reducible refine r_kS2 ?_)
  | (with_reducible refine r_kS3 ?_)
  | (with_reducible refine r_noPart ?_)
  | (with_reducible refine r_part ?_)
  | (with_reducible refine r_kPart ?_)
  | (with_reducible refine r_gsub ?_)
  | (with_reducible refine r_m1 ?_)
  | (with_reducible refine r_kM1 ?_)
  | (with_reducible refine r_propF ?_)
  | (with_reducible refine r_drp ?_)
  | (with_reducible refine r_min2S ?_)
  | (with_reducible refine r_max2S ?_)
  | (with_reducible refine r_enumS ?_)
  | (with_reducible refine r_cEnumS ?_)
  | (with_reducible refine r_makeKS ?_)
  | (with_reducible refine r_makeS ?_)))

local macro_rules | `(tactic| walk_at "s") => `(tactic| (first
  | (with_reducible refine r_mkV ?_)
  | (with_reducible refine r_ofl ?_)
  | (with_reducible refine r_methF ?_)
  | (with_reducible refine r_callF ?_)
  | (with_reducible refine r_star ?_)
  | (with_reducible refine r_smeth ?_)
  | (with_reducible refine r_kSMeth ?_)))

local macro_rules | `(tactic| walk_at "s") => `(tactic| (first
  | (with_reducible refine r_dcT ?_)
  | ((with_reducible refine r_kTurnT ?ht ?_); (case ht => rfl))
  | ((with_reducible refine r_kKeepT1 ?hk ?_); (case hk => rfl))
  | (with_reducible refine r_own ?_)
  | (with_reducible refine r_cmeth ?_)
  | (with_reducible refine r_kCMeth ?_)
  | (with_reducible refine r_makeS1 ?_)
  | ((with_reducible refine r_makeV ?hv ?_); (case hv => rfl))
  | (with_reducible refine r_isBl ?_)
  | (with_reducible refine r_ltS ?_)
  | (with_reducible refine r_lr1 ?_)
  | (with_reducible refine r_lc2 ?_)
  | ((with_reducible refine r_kTurn2 ?ht ?_); (case ht => rfl))
  | ((with_reducible refine r_kKeep2 ?hk ?_); (case hk => rfl))))

local macro_rules | `(tactic| walk_at "s") => `(tactic| (first
  | (with_reducible refine r_tTruOwn ?_)
  | (with_reducible refine r_notOwn ?_)
  | (with_reducible refine r_par3 ?_)))

theorem keys_perm {H : Hp} {ts : List Addr} {ks : List SK} {us : List V} (h : KeysL H ts ks) (p : us.Perm (ts.map V.ref)) : ∃ ts' ks', us = ts'.map V.ref ∧ KeysL H ts' ks' ∧ ks'.length = ks.length := by
  obtain ⟨e1, e2, e3⟩ := h.zip
  obtain ⟨zs, hz, rfl⟩ := perm_map_inv (f := fun z : Addr × SK => V.ref z.1) p (ts.zip ks) (by
    have : (ts.zip ks).map (fun z : Addr × SK => V.ref z.1) = ((ts.zip ks).map Prod.fst).map V.ref := by rw [List.map_map]; rfl
    rw [this, e1])
  refine ⟨zs.map Prod.fst, zs.map Prod.snd, by rw [List.map_map]; rfl, keysl_maps fun z m => e3 z (hz.mem_iff.mp m), ?_⟩
  have := congrArg List.length e2
  rw [List.length_map] at this ⊢
  rw [hz.length_eq, this]
theorem keys_take {H : Hp} : ∀ {ts : List Addr} {ks : List SK} (n : Nat), KeysL H ts ks → KeysL H (ts.take n) (ks.take n)
  | _, _, 0, _ => by
    rw [List.take_zero, List.take_zero]
    exact .nil
  | _, _, _ + 1, .nil => .nil
  | _, _, n + 1, .cons h t => .cons h (keys_take n t)
theorem KeysL.bag {H H' : Hp} {p : Addr} {ts : List Addr} {qs : List SK} (h : KeysL H ts qs) (b : BagL H p) (k : Kp [p] H H') : KeysL H' ts qs := let ⟨_, _, e⟩ := b; h.lst e k
def sp_law (K : PySem.W.Frag) : Sp := fun vs H Q _ => ∃ (a : Addr) (ns : List Int), vs = [.ref a] ∧ SqL K H a (ns.map V.int) ∧ ns.length ≤ 63 ∧ ∀ H', Q (.bl true) H'
abbrev s_law : Stmt := top 39
theorem sc_law : FnScope ["_law_script", "_law_at", "_law_bag_here", "_law_words_here", "_law_turn", "_law_one", "_law_two"] ["_law_script"] (defScope s_law) :=
  ⟨rfl, rfl, rfl, by decide +kernel, rfl, by decide +kernel, by decide +kernel⟩
theorem ok_law {f : Addr} {fd : FuncData} (F : Fun K "law" "law" s_law f fd) (T : Txt K mg C_Swap C_Leave C_Double C_Names C_Drop C_Slips C_BadSlip C_Slip G_SLIP_WORDS) (U_Slips___init__ : UseC P w K mg base 4 "Slips" C_Slips (sp_Slips___init__ C_Slips [C_Swap, C_Leave, C_Double, C_Names, C_Drop])) (U_Slips___eq__ : UseMF P w K mg base 4 (FamS [C_Slips]) "__eq__" (sp_Slips___eq__ (K := K) C_Slips [C_Swap, C_Leave, C_Double, C_Names, C_Drop])) (U__law_bag : Use P w K mg base 2 "_law_bag" ["_law_script", "_law_at"] (sp__law_bag K)) (U__law_take : Use P w K mg base 2 "_law_take" ["_law_bag_here", "_law_many"] (sp__law_take K)) (U__law_mixed : Use P w K mg base 4 "_law_mixed" ["_law_bag_here", "_law_things"] (sp__law_mixed (K := K))) (U__law_words : Use P w K mg base 4 "_law_words" ["_law_bag_here"] (sp__law_words K)) (U__law_key : Use P w K mg base 6 "_law_key" ["_law_bag_here", "_law_words_here"] (sp__law_key)) (U__law_agrees : Use P w K mg base 10 "_law_agrees" ["_law_one", "_law_two", "_law_extra"] (sp__law_agrees)) :
    FnOk P w K mg base CX0 12 f fd ["_law_script"] (sp_law K) := by
  refine F.ok sc_law (fun vs H Q E h => ?_) (fun cdv A outer s H vs Q E hr h => ?_)
  · obtain ⟨a, ns, rfl, _⟩ := h
    rfl
  · obtain ⟨a, ns, rfl, hS, hl, q⟩ := h
    obtain ⟨f_Slips___init__, R_Slips___init__, M_Slips___init__, g_Slips___init__⟩ := U_Slips___init__
    obtain ⟨f_Slips___eq__, R_Slips___eq__, M_Slips___eq__⟩ := U_Slips___eq__
    have hu := hu_of hr
    have hu64 := hr.units
    refine ⟨_, (pss_cons (ps_if (pt_cutT (PW.pt (pw_or (pt_not (pt_val (pe_use U__law_agrees (hr.mono (by first | decide | omega)) (by rfl) (pa_cons (pe_lst pa_nil) (pa_cons (pe_lst pa_nil) (pa_cons (pe_tup (pa_cons pe_int (pa_cons pe_int pa_nil))) pa_nil)))))) (pw_or1 (pt_cmpR (K_eqFam (K := K) (S := (FamS [C_Slips])) rfl M_Slips___eq__ R_Slips___eq__ (hr.mono (by first | decide | omega))) (pe_makeR0 M_Slips___init__ R_Slips___init__ (hr.mono (by first | decide | omega)) (by rfl) g_Slips___init__ pass0) (pe_lst pa_nil) (nomark _))))))
          (pss_one (ps_ret pe_bl))
          pss_nil)
        (pss_cons (ps_for PassesOwn.never (by rfl) (pi_range1 (by rfl) T.z_range (pa_cons (pe_callB (cr_max2 rfl) (by rfl) T.z_max (by decide +kernel) (pa_cons pe_int (pa_cons (pe_callB (cr_min2 rfl) (by rfl) T.z_min (by decide +kernel) (pa_cons pe_int (pa_cons (pe_callB (K_len (K := K) rfl) (by rfl) T.z_len (by decide +kernel) (pa_cons (pv 0) pa_nil)) pa_nil))) pa_nil))) pa_nil)) (pg_name (i := 1) sc_law.nd rfl (by first | exact Or.inl rfl | exact Or.inr rfl))
          (pss_cons (ps_set (i := 2) sc_law.nd rfl (by first | exact Or.inl rfl | exact Or.inr rfl) (pe_use U__law_bag (hr.mono (by first | decide | omega)) (by rfl) (pa_cons (pv 0) (pa_cons (pv 1) pa_nil))))
          (pss_cons (ps_set (i := 3) sc_law.nd rfl (by first | exact Or.inl rfl | exact Or.inr rfl) (pe_use U__law_words (hr.mono (by first | decide | omega)) (by rfl) (pa_cons (pv 2) pa_nil)))
          (pss_cons (ps_setLc (i := 5) (own := [("_law_turn", 4)]) (by rfl) sc_law.nd rfl rfl (sw_true rfl rfl rfl (by decide +kernel)) (pi_range1 (by rfl) T.z_range (pa_cons (pe_use U__law_take (hr.mono (by first | decide | omega)) (by rfl) (pa_cons (pv 2) (pa_cons pe_int pa_nil))) pa_nil)) (blkOk_by (own := [("_law_turn", 4)]) (N := ["_law_script", "_law_at", "_law_bag_here", "_law_words_here", "_law_turn", "_law_one", "_law_two"]) (sc := defScope s_law) (by decide +kernel)) (fun _ _ _ _ _ => (pg_name (i := 4) sc_law.nd rfl (by first | exact Or.inl rfl | exact Or.inr rfl))) (fun _ _ _ _ _ => pts_nil) (fun _ _ _ _ _ => (pe_use U__law_key (hr.mono (by first | decide | omega)) (by rfl) (pa_cons (pv 2) (pa_cons (pv 3) pa_nil)))))
          (pss_cons (ps_set (i := 6) sc_law.nd rfl (by first | exact Or.inl rfl | exact Or.inr rfl) (pe_op op_cat (pe_lc (own := [("_law_turn", 4)]) (by rfl) sc_law.nd (pi_range1 (by rfl) T.z_range (pa_cons (pe_use U__law_take (hr.mono (by first | decide | omega)) (by rfl) (pa_cons (pv 2) (pa_cons pe_int pa_nil))) pa_nil)) (blkOk_by (own := [("_law_turn", 4)]) (N := ["_law_script", "_law_at", "_law_bag_here", "_law_words_here", "_law_turn", "_law_one", "_law_two"]) (sc := defScope s_law) (by decide +kernel)) (fun _ _ _ _ _ => (pg_name (i := 4) sc_law.nd rfl (by first | exact Or.inl rfl | exact Or.inr rfl))) (fun _ _ _ _ _ => pts_nil) (fun _ _ _ _ _ => (pe_use U__law_key (hr.mono (by first | decide | omega)) (by rfl) (pa_cons (pv 2) (pa_cons (pv 3) pa_nil))))) (pe_slice (K_slL (K := K) rfl) (pe_use U__law_mixed (hr.mono (by first | decide | omega)) (by rfl) (pa_cons (pv 2) (pa_cons (pv 5) pa_nil))) po_none (po_some (pe_use U__law_take (hr.mono (by first | decide | omega)) (by rfl) (pa_cons (pv 2) (pa_cons pe_int pa_nil)))))))
          (pss_cutS (ps_if (pt_cmpR op_eq (pe_use U__law_take (hr.mono (by first | decide | omega)) (by rfl) (pa_cons (pv 2) (pa_cons pe_int pa_nil))) pe_int (nomark _))
            (pss_one (ps_set (i := 6) sc_law.nd rfl (by first | exact Or.inl rfl | exact Or.inr rfl) (pe_use U__law_mixed (hr.mono (by first | decide | omega)) (by rfl) (pa_cons (pv 2) (pa_cons (pv 5) pa_nil)))))
            pss_nil)
          (pss_one (ps_if (pt_cutT (PW.pt (pw_or (pt_not (pt_val (pe_use U__law_agrees (hr.mono (by first | decide | omega)) (by rfl) (pa_cons (pv 5) (pa_cons (pe_use U__law_mixed (hr.mono (by first | decide | omega)) (by rfl) (pa_cons (pv 2) (pa_cons (pv 6) pa_nil))) (pa_cons (pe_use U__law_key (hr.mono (by first | decide | omega)) (by rfl) (pa_cons (pv 2) (pa_cons (pv 3) pa_nil))) pa_nil)))))) (pw_or1 (pt_not (pt_val (pe_use U__law_agrees (hr.mono (by first | decide | omega)) (by rfl) (pa_cons (pv 6) (pa_cons (pe_lst pa_nil) (pa_cons (pe_tup (pa_cons pe_int (pa_cons pe_int pa_nil))) pa_nil))))))))))
            (pss_one (ps_ret pe_bl))
            pss_nil))))))))
        (pss_one (ps_ret pe_bl)))), ?_⟩
    have big : 5000 ≤ sizeLine := by decide
    have hM : FamS [C_Slips] C_Slips := .hd
    walk_at "S"
    refine r_cutT (fun b H' => b = false ∧ Kp [] H H') ?_ ?_
    · walk_at "S"
      refine r_kLst (by show 0 ≤ sizeLine; decide) fun L1 H1 n1 k1 e1 => ?_
      walk_at "S"
      refine r_kLst (by show 0 ≤ sizeLine; decide) fun L2 H2 n2 k2 e2 => ?_
      walk_at "S"
      refine r_kTup (by show 2 ≤ sizeLine; decide) fun t H3 n3 k3 et => ?_
      walk_at "S"
      refine ⟨L1, L2, t, [], [], [], [], (1, [.int ((0 : Nat) : Int)]), rfl, (k2.trans k3) _ _ e1 not_nil, .nil, k3 _ _ e2 not_nil, .nil, et, KS.lv (by decide), by decide, by decide, fun H4 k4 => ?_⟩
      walk_at "S"
      refine r_kOr0 rfl ?_
      walk_at "S"
      refine r_kMake fun o dx H5 n5 k5 e5 => ⟨o, dx, [], [], rfl, e5, .nil, by decide, fun H6 k6 hset => r_kMade ?_⟩
      walk_at "S"
      refine r_kLst (by show 0 ≤ sizeLine; decide) fun L3 H7 n7 k7 e7 => ?_
      refine r_eqSetL T.klist_Slips (T.nlist_Slips _ hM) (hset.kp k7) e7 ?_
      walk_at "S"
      exact ⟨rfl, k1.trans (k2.trans (k3.trans (k4.trans ((k5.trans' k6 n5).trans k7))))⟩
    rintro b0 H0 ⟨rfl, k0⟩
    refine r_kIfS0 rfl ?_
    have hS := k0.sql hS
    clear k0
    walk_at "S"
    refine r_lenL hS ?_
    walk_at "S"
    have hlen : (ns.map V.int).length = ns.length := List.length_map _
    refine r_cRng1 ?_ ?_
    · rw [hlen]
      split <;> split <;> omega
    refine r_kForR (fun i σ' H' => ∃ s1 s2 s3 s4 s5 s6, σ' = [some (.ref a), s1, s2, s3, s4, s5, s6] ∧ Kp [] H0 H') ⟨none, none, none, none, none, none, rfl, Kp.refl _ _⟩ ?_ ?_
    · rintro i σ' H1 hi ⟨s1, s2, s3, s4, s5, s6, rfl, k1⟩
      have hi63 : i ≤ 63 := by
        rw [hlen] at hi
        split at hi <;> split at hi <;> omega
      walk_at "S"
      refine ⟨a, ns, i, rfl, k1.sql hS, hl, by omega, fun p H2 np k2 b2 => ?_⟩
      have k02 := k1.trans k2
      have npH : H0 p = none := k1.free np not_nil
      clear k1 k2
      walk_at "S"
      refine ⟨p, rfl, b2, fun L ws H3 nL k3 eL b3 hw hws hnd => ?_⟩
      have hB : ∀ w ∈ ws, nameB w = true := fun w m => nameX_B (hws w m) (by decide)
      obtain ⟨ob, hob⟩ := b2.some
      have Lp : L ≠ p := ne_none hob nL
      walk_at "S"
      refine ⟨p, _, rfl, b3, by decide, by decide, fun n1 H4 n10 n11 k4 b4 => ?_⟩
      have k24 := k3.trans k4
      have eL4 := k4 _ _ eL (not_one Lp)
      refine r_cRng1 (by omega) ?_
      refine r_kLcR (fun D j acc H' => ∃ ts ks, acc = ts.map V.ref ∧ KeysL H' ts ks ∧ ks.length = j ∧ Kp [p] H4 H' ∧ BagL H' p) (fun D H' nD k e => ⟨[], [], rfl, .nil, rfl, k.nil, b4.kp k not_nil⟩) ?_ ?_
      · rintro D j acc H5 nD hj eD ⟨ts, ks, rfl, hts, hx, k5, b5⟩
        obtain ⟨ob4, hob4⟩ := b4.some
        have Dp : D ≠ p := ne_none hob4 nD
        walk_at "S"
        refine ⟨p, L, ws, rfl, b5, k5 _ _ eL4 (not_one Lp), Lp, hB, by omega, by omega, fun t q0 H6 hk nt k6 et b6 => ?_⟩
        refine r_kApp (k6 _ _ eD (not_one Dp)) (by
          rw [List.length_map, hts.len]
          omega) fun H7 k7 e7 => ⟨ts ++ [t], ks ++ [q0], by rw [List.map_append]; rfl, ((hts.bag b5 k6).snoc et hk).lst (k6 _ _ eD (not_one Dp)) k7, by rw [List.length_append, hx]; rfl, (k5.trans k6).step nD k7, b6.kp k7 (not_one Dp.symm)⟩
      rintro I acc H5 nI eI ⟨ts, ks, rfl, hts, hx, k5, b5⟩
      obtain ⟨ob4, hob4⟩ := b4.some
      have Ip : I ≠ p := ne_none hob4 nI
      have hx12 : ks.length ≤ 12 := by omega
      have eL5 := k5 _ _ eL4 (not_one Lp)
      have k25 := k24.trans k5
      walk_at "S"
      refine ⟨p, _, rfl, b5, by decide, by decide, fun n2 H6 n20 n21 k6 b6 => ?_⟩
      refine r_cRng1 (by omega) ?_
      have eL6 := k6 _ _ eL5 (not_one Lp)
      refine r_kLcR (fun D j acc H' => ∃ us os, acc = us.map V.ref ∧ KeysL H' us os ∧ os.length = j ∧ Kp [p] H6 H' ∧ BagL H' p) (fun D H' nD k e => ⟨[], [], rfl, .nil, rfl, k.nil, b6.kp k not_nil⟩) ?_ ?_
      · rintro D j acc H7 nD hj eD ⟨us, os, rfl, hus, hy, k7, b7⟩
        obtain ⟨ob6, hob6⟩ := b6.some
        have Dp : D ≠ p := ne_none hob6 nD
        walk_at "S"
        refine ⟨p, L, ws, rfl, b7, k7 _ _ eL6 (not_one Lp), Lp, hB, by omega, by omega, fun t q0 H8 hk nt k8 et b8 => ?_⟩
        refine r_kApp (k8 _ _ eD (not_one Dp)) (by
          rw [List.length_map, hus.len]
          omega) fun H9 k9 e9 => ⟨us ++ [t], os ++ [q0], by rw [List.map_append]; rfl, ((hus.bag b7 k8).snoc et hk).lst (k8 _ _ eD (not_one Dp)) k9, by rw [List.length_append, hy]; rfl, (k7.trans k8).step nD k9, b8.kp k9 (not_one Dp.symm)⟩
      rintro J acc H7 nJ eJ ⟨us, os, rfl, hus, hy, k7, b7⟩
      obtain ⟨ob6, hob6⟩ := b6.some
      have Jp : J ≠ p := ne_none hob6 nJ
      have hy6 : os.length ≤ 6 := by omega
      have k57 := k6.trans k7
      have eI7 := k57 _ _ eI (not_one Ip)
      have hts7 := hts.bag b5 k57
      walk_at "S"
      refine ⟨p, I, _, rfl, b7, SqL.of eI7, by rw [List.length_map, hts.len]; omega, fun M H8 vs hvs nM k8 eM b8 => ?_⟩
      obtain ⟨ms, mk, rfl, hms, hml⟩ := keys_perm (hts7.bag b7 k8) hvs
      obtain ⟨ob7, hob7⟩ := b7.some
      have Mp : M ≠ p := ne_none hob7 nM
      walk_at "S"
      refine ⟨p, _, rfl, b8, by decide, by decide, fun n3 H9 n30 n31 k9 b9 => ?_⟩
      walk_at "S"
      obtain ⟨n3, rfl⟩ : ∃ n : Nat, n3 = n := ⟨n3.toNat, by omega⟩
      refine r_slL (SqL.of (k9 _ _ eM (not_one Mp))) fun S Ha nS ka eS => ?_
      rw [cut_to, ← List.map_take] at eS
      have hss := keys_take n3 ((hms.bag b8 k9).kp ka)
      have hsl : (mk.take n3).length ≤ 5 := by
        rw [List.length_take]
        omega
      obtain ⟨ob9, hob9⟩ := b9.some
      have Sp : S ≠ p := ne_none hob9 nS
      have k7a : Kp [p] H7 Ha := k8.trans (k9.trans ka.nil)
      have husa := (hus.bag b7 (k8.trans k9)).kp ka
      refine r_cat (k7a _ _ eJ (not_one Jp)) eS (by
        rw [List.length_map, List.length_map, hus.len, hss.len]
        omega) fun W Hb nW kb eW => ?_
      rw [← List.map_append] at eW
      have ba := b9.kp ka not_nil
      obtain ⟨oba, hoba⟩ := ba.some
      have Wp : W ≠ p := ne_none hoba nW
      have hW : KeysL Hb (us ++ ms.take n3) (os ++ mk.take n3) := (husa.kp kb).app (hss.kp kb)
      have bb := ba.kp kb not_nil
      have k5b : Kp [p] H5 Hb := k57.trans (k7a.trans kb.nil)
      have eIb := k5b _ _ eI (not_one Ip)
      have htsb := hts.bag b5 k5b
      have eLb := k5b _ _ eL5 (not_one Lp)
      have hWl : (os ++ mk.take n3).length ≤ 20 := by
        rw [List.length_append]
        omega
      clear hss hms eS eM
      walk_at "S"
      refine r_cutS (fun σ' H' => ∃ s4 W ws' os', σ' = [some (.ref a), some (.int (i : Int)), some (.ref p), some (.ref L), s4, some (.ref I), some (.ref W)] ∧ W ≠ p ∧ H' W = some (.lst (ws'.map V.ref)) ∧ KeysL H' ws' os' ∧ os'.length ≤ 20 ∧ Kp [p] Hb H' ∧ BagL H' p) ?_ ?_
      · walk_at "S"
        refine ⟨p, _, rfl, bb, by decide, by decide, fun n4 Hc n40 n41 kc bc => ?_⟩
        walk_at "S"
        refine r_kIfS (fun c => ?_) (fun c => ?_)
        · walk_at "S"
          refine ⟨p, I, _, rfl, bc, SqL.of (kc _ _ eIb (not_one Ip)), by rw [List.length_map, hts.len]; omega, fun M2 Hd vs2 hvs2 nM2 kd eM2 bd => ?_⟩
          obtain ⟨ms2, mk2, rfl, hms2, hml2⟩ := keys_perm ((htsb.bag bb kc).bag bc kd) hvs2
          obtain ⟨obc, hobc⟩ := bc.some
          walk_at "S"
          exact ⟨_, M2, ms2, mk2, rfl, ne_none hobc nM2, eM2, hms2, by omega, kc.trans kd, bd⟩
        · walk_at "S"
          exact ⟨_, W, _, _, rfl, Wp, kc _ _ eW (not_one Wp), hW.bag bb kc, hWl, kc, bc⟩
      rintro σ' Hc ⟨s4, W2, w2, o2, rfl, W2p, eW2, hW2, hW2l, kc, bc⟩
      have eIc := kc _ _ eIb (not_one Ip)
      have htsc := htsb.bag bb kc
      have eLc := kc _ _ eLb (not_one Lp)
      have k2c : Kp [p] H2 Hc := k25.trans (k5b.trans kc)
      refine r_cutT (fun b H' => b = false ∧ Kp [p] Hc H') ?_ ?_
      · walk_at "S"
        refine ⟨p, W2, _, rfl, bc, SqL.of eW2, by rw [List.length_map, hW2.len]; omega, fun X Hd vs3 hvs3 nX kd eX bd => ?_⟩
        obtain ⟨xs, xk, rfl, hxs, hxl⟩ := keys_perm (hW2.bag bc kd) hvs3
        obtain ⟨obc, hobc⟩ := bc.some
        have Xp : X ≠ p := ne_none hobc nX
        walk_at "S"
        refine ⟨p, L, ws, rfl, bd, kd _ _ eLc (not_one Lp), Lp, hB, by omega, by omega, fun t q0 He hk nt ke et be => ?_⟩
        have kce := kd.trans ke
        walk_at "S"
        refine ⟨I, X, t, ts, xs, ks, xk, q0, rfl, kce _ _ eIc (not_one Ip), htsc.bag bc kce, ke _ _ eX (not_one Xp), hxs.bag bd ke, et, hk, by omega, by omega, fun Hf kf => ?_⟩
        walk_at "S"
        refine r_kOr0 rfl ?_
        walk_at "S"
        refine r_kLst (by show 0 ≤ sizeLine; decide) fun Z Hg nZ kg eZ => ?_
        walk_at "S"
        refine r_kTup (by show 2 ≤ sizeLine; decide) fun t2 Hh nt2 kh et2 => ?_
        walk_at "S"
        have kch : Kp [p] Hc Hh := kce.trans (kf.nil.trans (kg.nil.trans kh.nil))
        refine ⟨W2, Z, t2, w2, [], o2, [], (1, [.int ((3 : Nat) : Int)]), rfl, kch _ _ eW2 (not_one W2p), hW2.bag bc kch, kh _ _ eZ not_nil, .nil, et2, KS.lv (by decide), hW2l, by decide, fun Hi ki => ?_⟩
        walk_at "S"
        exact ⟨rfl, kch.trans ki.nil⟩
      rintro b0 Hd ⟨rfl, kd⟩
      refine r_kIfS0 rfl ?_
      walk_at "S"
      exact ⟨_, _, _, _, _, _, rfl, k02.step npH (k2c.trans kd)⟩
    · rintro σ' H1 ⟨s1, s2, s3, s4, s5, s6, rfl, k1⟩
      walk_at "S"
      exact q _

end
theorem all_mk {l : PySem.W.OpenLaw} {w : World} {K : PySem.W.Frag} {h : Heap} {mg : Str → Option Value} {fa f1 f2 f3 f4 f5 f6 f7 f8 f9 f10 f11 f12 f13 f14 f15 f16 f17 f18 f19 f20 f21 f22 f23 f24 f25 f26 f27 f28 f29 f30 f31 f32 C_Swap C_Leave C_Double C_Names C_Drop C_Slips C_BadSlip C_Slip G_SLIP_WORDS : Addr} (X : K.In h) (G : h.Ns mainGlobals mg) (hfa : mg "law" = some (.ref fa))
    {od1 an1 od2 an2 od3 an3 od4 an4 od5 an5 od6 an6 od7 an7 od8 an8 od9 an9 od10 an10 od11 an11 od12 an12 od13 an13 od14 an14 od15 an15 od16 an16 od17 an17 od18 an18 od19 an19 od20 an20 od21 an21 od22 an22 od23 an23 od24 an24 od25 an25 od26 an26 od27 an27 od28 an28 od29 an29 od30 an30 od31 an31 od32 an32 : Option Addr} {sl1 sl2 sl3 sl4 sl5 sl6 sl7 sl8 sl9 sl10 sl11 sl12 sl13 sl14 sl15 sl16 sl17 sl18 sl19 sl20 sl21 sl22 sl23 sl24 sl25 sl26 sl27 sl28 sl29 sl30 sl31 sl32 : Array (Option Value)} {oc1 kV1 dc1 pm1 cd1 ct1 oc2 kV2 dc2 pm2 cd2 ct2 oc3 kV3 dc3 pm3 cd3 ct3 oc4 kV4 dc4 pm4 cd4 ct4 oc5 kV5 dc5 pm5 cd5 ct5 oc6 kV6 dc6 pm6 cd6 ct6 oc7 kV7 dc7 pm7 cd7 ct7 oc8 kV8 dc8 pm8 cd8 ct8 oc9 kV9 dc9 pm9 cd9 ct9 oc10 kV10 dc10 pm10 ct10 oc11 kV11 dc11 pm11 ct11 oc12 kV12 dc12 pm12 ct12 oc13 kV13 dc13 pm13 ct13 oc14 kV14 dc14 pm14 ct14 oc15 kV15 dc15 pm15 cd15 ct15 oc16 kV16 dc16 pm16 cd16 ct16 oc17 kV17 dc17 pm17 cd17 ct17 oc18 kV18 dc18 pm18 cd18 ct18 oc19 kV19 dc19 pm19 cd19 ct19 oc20 kV20 dc20 pm20 cd20 ct20 oc21 kV21 dc21 pm21 cd21 ct21 oc22 kV22 dc22 pm22 cd22 ct22 oc23 kV23 dc23 pm23 cd23 ct23 oc24 kV24 dc24 pm24 cd24 ct24 oc25 kV25 dc25 pm25 cd25 ct25 oc26 kV26 dc26 pm26 cd26 ct26 oc27 kV27 dc27 pm27 cd27 ct27 oc28 kV28 dc28 pm28 cd28 ct28 oc29 kV29 dc29 pm29 cd29 ct29 oc30 kV30 dc30 pm30 cd30 ct30 oc31 kV31 dc31 pm31 cd31 ct31 oc32 kV32 dc32 pm32 cd32 ct32 : Value} {tk_SLIP_WORDS_0 tk_SLIP_WORDS_1 tk_SLIP_WORDS_2 tk_SLIP_WORDS_3 tk_SLIP_WORDS_4 : Tok} {nm_BadSlip q_BadSlip fl_BadSlip : Str} {N_BadSlip f_BadSlip cda_BadSlip cc_BadSlip : Addr} {bs_BadSlip bm_BadSlip sub_BadSlip : List Value} {sn_BadSlip : List Str} {ab_BadSlip : Bool} {col_BadSlip : Option Bool} {dd_BadSlip od_BadSlip an_BadSlip cld_BadSlip cdd_BadSlip : Option Addr} {m0_BadSlip m1_BadSlip m2_BadSlip m3_BadSlip m5_BadSlip : Option Value} {oc_BadSlip kV_BadSlip dc_BadSlip pm_BadSlip ct_BadSlip cl_BadSlip ccl_BadSlip : Value} {osl_BadSlip csl_BadSlip ccs_BadSlip : Array (Option Value)} {vs_BadSlip : Array Value} {tf_BadSlip : Tok} {p2 : Addr} {rs2 : List Value} {cda10 cc10 : Addr} {cl10 ccl10 : Value} {cld10 cdd10 : Option Addr} {csl10 ccs10 : Array (Option Value)} {vs10 : Array Value} {fl10 : Str} {tf10 : Tok} {cda11 cc11 : Addr} {cl11 ccl11 : Value} {cld11 cdd11 : Option Addr} {csl11 ccs11 : Array (Option Value)} {vs11 : Array Value} {fl11 : Str} {tf11 : Tok} {cda12 cc12 : Addr} {cl12 ccl12 : Value} {cld12 cdd12 : Option Addr} {csl12 ccs12 : Array (Option Value)} {vs12 : Array Value} {fl12 : Str} {tf12 : Tok} {cda13 cc13 : Addr} {cl13 ccl13 : Value} {cld13 cdd13 : Option Addr} {csl13 ccs13 : Array (Option Value)} {vs13 : Array Value} {fl13 : Str} {tf13 : Tok} {cda14 cc14 : Addr} {cl14 ccl14 : Value} {cld14 cdd14 : Option Addr} {csl14 ccs14 : Array (Option Value)} {vs14 : Array Value} {fl14 : Str} {tf14 : Tok} {od_SLIP_WORDS : Option Addr} {sl_SLIP_WORDS : Array (Option Value)} {n_SLIP_WORDS : Nat}
    (aC_Swap : PySem.W.nsIn K mainGlobals "Swap" = some (some (.ref C_Swap)))
    (pg_Swap : PySem.W.plainGet K C_Swap Str.empty = true)
    (hd_Swap : PySem.W.hasDictIn K C_Swap = true)
    (po_Swap : PySem.W.plainOver K C_Swap = true)
    (sa_Swap : PySem.W.findIn K (.ref C_Swap) "__setattr__" = some (some (.builtin "object.__setattr__")))
    (mk_Swap : PySem.W.makesIn K C_Swap = true)
    (kc_Swap : PySem.W.keepIn K (.ref C_Swap) = true)
    (na_Swap_parts : PySem.W.findIn K (.ref C_Swap) "parts" = some none)
    (aC_Leave : PySem.W.nsIn K mainGlobals "Leave" = some (some (.ref C_Leave)))
    (pg_Leave : PySem.W.plainGet K C_Leave Str.empty = true)
    (hd_Leave : PySem.W.hasDictIn K C_Leave = true)
    (po_Leave : PySem.W.plainOver K C_Leave = true)
    (sa_Leave : PySem.W.findIn K (.ref C_Leave) "__setattr__" = some (some (.builtin "object.__setattr__")))
    (mk_Leave : PySem.W.makesIn K C_Leave = true)
    (kc_Leave : PySem.W.keepIn K (.ref C_Leave) = true)
    (na_Leave_parts : PySem.W.findIn K (.ref C_Leave) "parts" = some none)
    (aC_Double : PySem.W.nsIn K mainGlobals "Double" = some (some (.ref C_Double)))
    (pg_Double : PySem.W.plainGet K C_Double Str.empty = true)
    (hd_Double : PySem.W.hasDictIn K C_Double = true)
    (po_Double : PySem.W.plainOver K C_Double = true)
    (sa_Double : PySem.W.findIn K (.ref C_Double) "__setattr__" = some (some (.builtin "object.__setattr__")))
    (mk_Double : PySem.W.makesIn K C_Double = true)
    (kc_Double : PySem.W.keepIn K (.ref C_Double) = true)
    (na_Double_parts : PySem.W.findIn K (.ref C_Double) "parts" = some none)
    (aC_Names : PySem.W.nsIn K mainGlobals "Names" = some (some (.ref C_Names)))
    (pg_Names : PySem.W.plainGet K C_Names Str.empty = true)
    (hd_Names : PySem.W.hasDictIn K C_Names = true)
    (po_Names : PySem.W.plainOver K C_Names = true)
    (sa_Names : PySem.W.findIn K (.ref C_Names) "__setattr__" = some (some (.builtin "object.__setattr__")))
    (mk_Names : PySem.W.makesIn K C_Names = true)
    (kc_Names : PySem.W.keepIn K (.ref C_Names) = true)
    (na_Names_parts : PySem.W.findIn K (.ref C_Names) "parts" = some none)
    (aC_Drop : PySem.W.nsIn K mainGlobals "Drop" = some (some (.ref C_Drop)))
    (pg_Drop : PySem.W.plainGet K C_Drop Str.empty = true)
    (hd_Drop : PySem.W.hasDictIn K C_Drop = true)
    (po_Drop : PySem.W.plainOver K C_Drop = true)
    (sa_Drop : PySem.W.findIn K (.ref C_Drop) "__setattr__" = some (some (.builtin "object.__setattr__")))
    (mk_Drop : PySem.W.makesIn K C_Drop = true)
    (kc_Drop : PySem.W.keepIn K (.ref C_Drop) = true)
    (na_Drop_parts : PySem.W.findIn K (.ref C_Drop) "parts" = some none)
    (aC_Slips : PySem.W.nsIn K mainGlobals "Slips" = some (some (.ref C_Slips)))
    (pg_Slips : PySem.W.plainGet K C_Slips Str.empty = true)
    (hd_Slips : PySem.W.hasDictIn K C_Slips = true)
    (po_Slips : PySem.W.plainOver K C_Slips = true)
    (sa_Slips : PySem.W.findIn K (.ref C_Slips) "__setattr__" = some (some (.builtin "object.__setattr__")))
    (mk_Slips : PySem.W.makesIn K C_Slips = true)
    (kc_Slips : PySem.W.keepIn K (.ref C_Slips) = true)
    (na_Slips_kept : PySem.W.findIn K (.ref C_Slips) "kept" = some none)
    (aC_BadSlip : PySem.W.nsIn K mainGlobals "BadSlip" = some (some (.ref C_BadSlip)))
    (aC_Slip : PySem.W.nsIn K mainGlobals "Slip" = some (some (.ref C_Slip)))
    (hnC : PySem.W.specialIn K (.builtin "object.__class__") "__get__" = some (some (.builtin "getset_descriptor.__get__")))
    (htC : PySem.W.takesIn K (.builtin "object.__class__") = some true)
    (opq : PySem.W.nsIn K cStatics "thirdparty.any" = some none)
    (tops : (l.prog.main.scope.names.lookup ("super" : Str)).isSome = false)
    (xL_BadSlip : K.lookup C_BadSlip = some (excClassObj nm_BadSlip q_BadSlip C_BadSlip N_BadSlip bs_BadSlip bm_BadSlip true sn_BadSlip sub_BadSlip ab_BadSlip col_BadSlip dd_BadSlip m0_BadSlip m1_BadSlip m2_BadSlip m3_BadSlip m5_BadSlip "ValueError.__new__"))
    (rv_BadSlip : PySem.HandSPX.refsVE bm_BadSlip = true)
    (sa_BadSlip : PySem.W.findIn K (.ref C_BadSlip) "__setattr__" = some (some (.builtin "object.__setattr__")))
    (ga_BadSlip : PySem.W.findIn K (.ref C_BadSlip) "__getattribute__" = some (some (.builtin "BaseException.__getattribute__")))
    (gg_BadSlip : PySem.W.findIn K (.ref C_BadSlip) "__getattr__" = some none)
    (no_BadSlip : PySem.W.findIn K (.ref C_BadSlip) "what" = some none)
    (ai_BadSlip : PySem.W.findIn K (.ref C_BadSlip) "__init__" = some (some (.ref f_BadSlip)))
    (ti_BadSlip : PySem.W.typeIn K (.ref f_BadSlip) = some (.type "function"))
    (li_BadSlip : K.lookup f_BadSlip = some ⟨oc_BadSlip, od_BadSlip, .func (PySem.W.ksFn "__init__" "BadSlip.__init__" (defArgs s_BadSlip___init__) (defBody s_BadSlip___init__) (defScope s_BadSlip___init__) .none kV_BadSlip dc_BadSlip pm_BadSlip an_BadSlip (.ref cda_BadSlip) ct_BadSlip cc_BadSlip), osl_BadSlip⟩)
    (ci_BadSlip : PySem.W.codeIn K (.ref cda_BadSlip) "BadSlip.__init__" = true)
    (ce_BadSlip : K.lookup cc_BadSlip = some ⟨cl_BadSlip, cld_BadSlip, .cell (some (.ref C_BadSlip)), csl_BadSlip⟩)
    (cf_BadSlip : K.lookup cda_BadSlip = some ⟨ccl_BadSlip, cdd_BadSlip, .fields vs_BadSlip, ccs_BadSlip⟩)
    (cv_BadSlip : vs_BadSlip[2]? = some (.str fl_BadSlip tf_BadSlip))
    (cm_BadSlip : (l.prog.main.file == fl_BadSlip) = true)
    (kC_BadSlip : PySem.W.keepIn K (.ref C_BadSlip) = true)
    (eC_BadSlip : PySem.W.subIn K (.ref C_BadSlip) (.type "BaseException") = some true)
    (tC_BadSlip : PySem.W.typeIn K (.ref C_BadSlip) = some (.type "type"))
    (hC_BadSlip : PySem.W.hasDictIn K C_BadSlip = true)
    (sC_BadSlip : PySem.W.subIn K (.ref C_BadSlip) (.ref C_BadSlip) = some true)
    (up_BadSlip : PySem.W.ks_superIn K C_BadSlip C_BadSlip "__init__" = some (some (.builtin "ValueError.__init__")))
    (sV_BadSlip : PySem.W.subIn K (.ref C_BadSlip) (.type "ValueError") = some true)
    (mo_BadSlip : PySem.W.mroIn K C_BadSlip (.ref C_BadSlip) = some true)
    (ob_BadSlip : PySem.W.mroIn K C_BadSlip (.type "object") = some true)
    (ha_BadSlip : PySem.W.findIn K (.ref C_BadSlip) "__class__" = some (some (.builtin "object.__class__")))
    (fa_cl_Swap : PySem.W.findIn K (.ref C_Swap) "__class__" = some (some (.builtin "object.__class__")))
    (fa_cl_Leave : PySem.W.findIn K (.ref C_Leave) "__class__" = some (some (.builtin "object.__class__")))
    (fa_cl_Double : PySem.W.findIn K (.ref C_Double) "__class__" = some (some (.builtin "object.__class__")))
    (fa_cl_Names : PySem.W.findIn K (.ref C_Names) "__class__" = some (some (.builtin "object.__class__")))
    (fa_cl_Drop : PySem.W.findIn K (.ref C_Drop) "__class__" = some (some (.builtin "object.__class__")))
    (fa_ob_Swap : PySem.W.mroIn K C_Swap (.type "object") = some true)
    (fa_ob_Leave : PySem.W.mroIn K C_Leave (.type "object") = some true)
    (fa_ob_Double : PySem.W.mroIn K C_Double (.type "object") = some true)
    (fa_ob_Names : PySem.W.mroIn K C_Names (.type "object") = some true)
    (fa_ob_Drop : PySem.W.mroIn K C_Drop (.type "object") = some true)
    (fa_ki_Swap : PySem.W.kitOne K (.ref C_Swap) (.ref C_Slip) = some true)
    (fa_ki_Leave : PySem.W.kitOne K (.ref C_Leave) (.ref C_Slip) = some true)
    (fa_ki_Double : PySem.W.kitOne K (.ref C_Double) (.ref C_Slip) = some true)
    (fa_ki_Names : PySem.W.kitOne K (.ref C_Names) (.ref C_Slip) = some true)
    (fa_ki_Drop : PySem.W.kitOne K (.ref C_Drop) (.ref C_Slip) = some true)
    (fa_gt_Slip : PySem.W.specialIn K (.builtin "object.__class__") "__get__" = some (some (.builtin "getset_descriptor.__get__")))
    (fa_tk_Slip : PySem.W.takesIn K (.builtin "object.__class__") = some true)
    (fa_nf_Swap_Leave : PySem.W.notFirst K C_Swap (.ref C_Leave) = true)
    (fa_nf_Swap_Double : PySem.W.notFirst K C_Swap (.ref C_Double) = true)
    (fa_nf_Swap_Names : PySem.W.notFirst K C_Swap (.ref C_Names) = true)
    (fa_nf_Swap_Drop : PySem.W.notFirst K C_Swap (.ref C_Drop) = true)
    (fa_nf_Leave_Swap : PySem.W.notFirst K C_Leave (.ref C_Swap) = true)
    (fa_nf_Leave_Double : PySem.W.notFirst K C_Leave (.ref C_Double) = true)
    (fa_nf_Leave_Names : PySem.W.notFirst K C_Leave (.ref C_Names) = true)
    (fa_nf_Leave_Drop : PySem.W.notFirst K C_Leave (.ref C_Drop) = true)
    (fa_nf_Double_Swap : PySem.W.notFirst K C_Double (.ref C_Swap) = true)
    (fa_nf_Double_Leave : PySem.W.notFirst K C_Double (.ref C_Leave) = true)
    (fa_nf_Double_Names : PySem.W.notFirst K C_Double (.ref C_Names) = true)
    (fa_nf_Double_Drop : PySem.W.notFirst K C_Double (.ref C_Drop) = true)
    (fa_nf_Names_Swap : PySem.W.notFirst K C_Names (.ref C_Swap) = true)
    (fa_nf_Names_Leave : PySem.W.notFirst K C_Names (.ref C_Leave) = true)
    (fa_nf_Names_Double : PySem.W.notFirst K C_Names (.ref C_Double) = true)
    (fa_nf_Names_Drop : PySem.W.notFirst K C_Names (.ref C_Drop) = true)
    (fa_nf_Drop_Swap : PySem.W.notFirst K C_Drop (.ref C_Swap) = true)
    (fa_nf_Drop_Leave : PySem.W.notFirst K C_Drop (.ref C_Leave) = true)
    (fa_nf_Drop_Double : PySem.W.notFirst K C_Drop (.ref C_Double) = true)
    (fa_nf_Drop_Names : PySem.W.notFirst K C_Drop (.ref C_Names) = true)
    (fa_cl_Slips : PySem.W.findIn K (.ref C_Slips) "__class__" = some (some (.builtin "object.__class__")))
    (fa_ob_Slips : PySem.W.mroIn K C_Slips (.type "object") = some true)
    (fa_ki_Slips : PySem.W.kitOne K (.ref C_Slips) (.ref C_Slips) = some true)
    (fa_nlist_Slips : PySem.W.notFirst K C_Slips (.type "list") = true)
    (fa_klist_Slips : PySem.W.kitOne K (.type "list") (.ref C_Slips) = some false)
    (fa_gt_Slips : PySem.W.specialIn K (.builtin "object.__class__") "__get__" = some (some (.builtin "getset_descriptor.__get__")))
    (fa_tk_Slips : PySem.W.takesIn K (.builtin "object.__class__") = some true)
    (fa_sf_Slips : PySem.W.selfFirst K C_Slips = true)
    (fa_nb_Slips : PySem.W.findIn K (.ref C_Slips) "__bool__" = some none)
    (aG_SLIP_WORDS : PySem.W.nsIn K mainGlobals "SLIP_WORDS" = some (some (.ref G_SLIP_WORDS)))
    (lG_SLIP_WORDS : K.lookup G_SLIP_WORDS = some ⟨.type "tuple", od_SLIP_WORDS, .seq #[Value.str "swap" tk_SLIP_WORDS_0, Value.str "leave" tk_SLIP_WORDS_1, Value.str "double" tk_SLIP_WORDS_2, Value.str "names" tk_SLIP_WORDS_3, Value.str "drop" tk_SLIP_WORDS_4] n_SLIP_WORDS, sl_SLIP_WORDS⟩)
    (up1 : PySem.W.ks_superIn K C_Swap C_Swap "__init__" = some (some (.ref f1)))
    (i1 : PySem.W.typeIn K (.ref f1) = some (.type "function"))
    (fi1 : PySem.W.fnIn K f1 = true)
    (l1 : K.lookup f1 = some ⟨oc1, od1, .func (PySem.W.fnOf "__init__" "Slip.__init__" (defArgs s_Slip___init__) (defBody s_Slip___init__) (defScope s_Slip___init__) .none kV1 dc1 pm1 an1 cd1 ct1), sl1⟩) (c1 : PySem.W.codeIn K cd1 "Slip.__init__" = true) (k1 : PySem.W.keepIn K (.ref f1) = true)
    (a2_Swap : PySem.W.findIn K (.ref C_Swap) "key" = some (some (.ref p2)))
    (a2_Leave : PySem.W.findIn K (.ref C_Leave) "key" = some (some (.ref p2)))
    (a2_Double : PySem.W.findIn K (.ref C_Double) "key" = some (some (.ref p2)))
    (a2_Names : PySem.W.findIn K (.ref C_Names) "key" = some (some (.ref p2)))
    (a2_Drop : PySem.W.findIn K (.ref C_Drop) "key" = some (some (.ref p2)))
    (gp2 : PySem.W.specialIn K (.ref p2) "__get__" = some (some (.builtin "property.__get__")))
    (tp2 : PySem.W.takesIn K (.ref p2) = some true)
    (rp2 : PySem.W.recIn K p2 "property" = some (.ref f2 :: rs2))
    (l2 : K.lookup f2 = some ⟨oc2, od2, .func (PySem.W.fnOf "key" "Slip.key" (defArgs s_Slip_key) (defBody s_Slip_key) (defScope s_Slip_key) .none kV2 dc2 pm2 an2 cd2 ct2), sl2⟩) (c2 : PySem.W.codeIn K cd2 "Slip.key" = true) (k2 : PySem.W.keepIn K (.ref f2) = true)
    (a3_Swap : PySem.W.findIn K (.ref C_Swap) "__eq__" = some (some (.ref f3)))
    (a3_Leave : PySem.W.findIn K (.ref C_Leave) "__eq__" = some (some (.ref f3)))
    (a3_Double : PySem.W.findIn K (.ref C_Double) "__eq__" = some (some (.ref f3)))
    (a3_Names : PySem.W.findIn K (.ref C_Names) "__eq__" = some (some (.ref f3)))
    (a3_Drop : PySem.W.findIn K (.ref C_Drop) "__eq__" = some (some (.ref f3)))
    (i3 : PySem.W.isFn K (.ref f3) = true)
    (l3 : K.lookup f3 = some ⟨oc3, od3, .func (PySem.W.fnOf "__eq__" "Slip.__eq__" (defArgs s_Slip___eq__) (defBody s_Slip___eq__) (defScope s_Slip___eq__) .none kV3 dc3 pm3 an3 cd3 ct3), sl3⟩) (c3 : PySem.W.codeIn K cd3 "Slip.__eq__" = true) (k3 : PySem.W.keepIn K (.ref f3) = true)
    (a4_Swap : PySem.W.findIn K (.ref C_Swap) "__str__" = some (some (.ref f4)))
    (a4_Leave : PySem.W.findIn K (.ref C_Leave) "__str__" = some (some (.ref f4)))
    (a4_Double : PySem.W.findIn K (.ref C_Double) "__str__" = some (some (.ref f4)))
    (a4_Names : PySem.W.findIn K (.ref C_Names) "__str__" = some (some (.ref f4)))
    (a4_Drop : PySem.W.findIn K (.ref C_Drop) "__str__" = some (some (.ref f4)))
    (i4 : PySem.W.isFn K (.ref f4) = true)
    (l4 : K.lookup f4 = some ⟨oc4, od4, .func (PySem.W.fnOf "__str__" "Slip.__str__" (defArgs s_Slip___str__) (defBody s_Slip___str__) (defScope s_Slip___str__) .none kV4 dc4 pm4 an4 cd4 ct4), sl4⟩) (c4 : PySem.W.codeIn K cd4 "Slip.__str__" = true) (k4 : PySem.W.keepIn K (.ref f4) = true)
    (a5_Slips : PySem.W.findIn K (.ref C_Slips) "__iter__" = some (some (.ref f5)))
    (i5 : PySem.W.isFn K (.ref f5) = true)
    (l5 : K.lookup f5 = some ⟨oc5, od5, .func (PySem.W.fnOf "__iter__" "Slips.__iter__" (defArgs s_Slips___iter__) (defBody s_Slips___iter__) (defScope s_Slips___iter__) .none kV5 dc5 pm5 an5 cd5 ct5), sl5⟩) (c5 : PySem.W.codeIn K cd5 "Slips.__iter__" = true) (k5 : PySem.W.keepIn K (.ref f5) = true)
    (a6_Slips : PySem.W.findIn K (.ref C_Slips) "__len__" = some (some (.ref f6)))
    (i6 : PySem.W.isFn K (.ref f6) = true)
    (l6 : K.lookup f6 = some ⟨oc6, od6, .func (PySem.W.fnOf "__len__" "Slips.__len__" (defArgs s_Slips___len__) (defBody s_Slips___len__) (defScope s_Slips___len__) .none kV6 dc6 pm6 an6 cd6 ct6), sl6⟩) (c6 : PySem.W.codeIn K cd6 "Slips.__len__" = true) (k6 : PySem.W.keepIn K (.ref f6) = true)
    (a7 : PySem.W.nsIn K mainGlobals "_law_bag" = some (some (.ref f7))) (l7 : K.lookup f7 = some ⟨oc7, od7, .func (PySem.W.fnOf "_law_bag" "_law_bag" (defArgs s__law_bag) (defBody s__law_bag) (defScope s__law_bag) .none kV7 dc7 pm7 an7 cd7 ct7), sl7⟩) (c7 : PySem.W.codeIn K cd7 "_law_bag" = true) (k7 : PySem.W.keepIn K (.ref f7) = true)
    (a8 : PySem.W.nsIn K mainGlobals "_law_take" = some (some (.ref f8))) (l8 : K.lookup f8 = some ⟨oc8, od8, .func (PySem.W.fnOf "_law_take" "_law_take" (defArgs s__law_take) (defBody s__law_take) (defScope s__law_take) .none kV8 dc8 pm8 an8 cd8 ct8), sl8⟩) (c8 : PySem.W.codeIn K cd8 "_law_take" = true) (k8 : PySem.W.keepIn K (.ref f8) = true)
    (a9 : PySem.W.nsIn K mainGlobals "_law_text" = some (some (.ref f9))) (l9 : K.lookup f9 = some ⟨oc9, od9, .func (PySem.W.fnOf "_law_text" "_law_text" (defArgs s__law_text) (defBody s__law_text) (defScope s__law_text) .none kV9 dc9 pm9 an9 cd9 ct9), sl9⟩) (c9 : PySem.W.codeIn K cd9 "_law_text" = true) (k9 : PySem.W.keepIn K (.ref f9) = true)
    (a10 : PySem.W.findIn K (.ref C_Swap) "__init__" = some (some (.ref f10)))
    (i10 : PySem.W.isFn K (.ref f10) = true)
    (l10 : K.lookup f10 = some ⟨oc10, od10, .func (PySem.W.ksFn "__init__" "Swap.__init__" (defArgs s_Swap___init__) (defBody s_Swap___init__) (defScope s_Swap___init__) .none kV10 dc10 pm10 an10 (.ref cda10) ct10 cc10), sl10⟩)
    (c10 : PySem.W.codeIn K (.ref cda10) "Swap.__init__" = true)
    (ce10 : K.lookup cc10 = some ⟨cl10, cld10, .cell (some (.ref C_Swap)), csl10⟩)
    (cf10 : K.lookup cda10 = some ⟨ccl10, cdd10, .fields vs10, ccs10⟩)
    (cv10 : vs10[2]? = some (.str fl10 tf10))
    (cm10 : (l.prog.main.file == fl10) = true)
    (su10 : (PySem.W.clsIn K C_Swap).isSome = true)
    (up10 : PySem.W.ks_superIn K C_Swap C_Swap "__init__" = some (some (.ref f1)))
    (mo10 : PySem.W.mroIn K C_Swap (.ref C_Swap) = some true)
    (a11 : PySem.W.findIn K (.ref C_Leave) "__init__" = some (some (.ref f11)))
    (i11 : PySem.W.isFn K (.ref f11) = true)
    (l11 : K.lookup f11 = some ⟨oc11, od11, .func (PySem.W.ksFn "__init__" "Leave.__init__" (defArgs s_Leave___init__) (defBody s_Leave___init__) (defScope s_Leave___init__) .none kV11 dc11 pm11 an11 (.ref cda11) ct11 cc11), sl11⟩)
    (c11 : PySem.W.codeIn K (.ref cda11) "Leave.__init__" = true)
    (ce11 : K.lookup cc11 = some ⟨cl11, cld11, .cell (some (.ref C_Leave)), csl11⟩)
    (cf11 : K.lookup cda11 = some ⟨ccl11, cdd11, .fields vs11, ccs11⟩)
    (cv11 : vs11[2]? = some (.str fl11 tf11))
    (cm11 : (l.prog.main.file == fl11) = true)
    (su11 : (PySem.W.clsIn K C_Leave).isSome = true)
    (up11 : PySem.W.ks_superIn K C_Leave C_Leave "__init__" = some (some (.ref f1)))
    (mo11 : PySem.W.mroIn K C_Leave (.ref C_Leave) = some true)
    (a12 : PySem.W.findIn K (.ref C_Double) "__init__" = some (some (.ref f12)))
    (i12 : PySem.W.isFn K (.ref f12) = true)
    (l12 : K.lookup f12 = some ⟨oc12, od12, .func (PySem.W.ksFn "__init__" "Double.__init__" (defArgs s_Double___init__) (defBody s_Double___init__) (defScope s_Double___init__) .none kV12 dc12 pm12 an12 (.ref cda12) ct12 cc12), sl12⟩)
    (c12 : PySem.W.codeIn K (.ref cda12) "Double.__init__" = true)
    (ce12 : K.lookup cc12 = some ⟨cl12, cld12, .cell (some (.ref C_Double)), csl12⟩)
    (cf12 : K.lookup cda12 = some ⟨ccl12, cdd12, .fields vs12, ccs12⟩)
    (cv12 : vs12[2]? = some (.str fl12 tf12))
    (cm12 : (l.prog.main.file == fl12) = true)
    (su12 : (PySem.W.clsIn K C_Double).isSome = true)
    (up12 : PySem.W.ks_superIn K C_Double C_Double "__init__" = some (some (.ref f1)))
    (mo12 : PySem.W.mroIn K C_Double (.ref C_Double) = some true)
    (a13 : PySem.W.findIn K (.ref C_Names) "__init__" = some (some (.ref f13)))
    (i13 : PySem.W.isFn K (.ref f13) = true)
    (l13 : K.lookup f13 = some ⟨oc13, od13, .func (PySem.W.ksFn "__init__" "Names.__init__" (defArgs s_Names___init__) (defBody s_Names___init__) (defScope s_Names___init__) .none kV13 dc13 pm13 an13 (.ref cda13) ct13 cc13), sl13⟩)
    (c13 : PySem.W.codeIn K (.ref cda13) "Names.__init__" = true)
    (ce13 : K.lookup cc13 = some ⟨cl13, cld13, .cell (some (.ref C_Names)), csl13⟩)
    (cf13 : K.lookup cda13 = some ⟨ccl13, cdd13, .fields vs13, ccs13⟩)
    (cv13 : vs13[2]? = some (.str fl13 tf13))
    (cm13 : (l.prog.main.file == fl13) = true)
    (su13 : (PySem.W.clsIn K C_Names).isSome = true)
    (up13 : PySem.W.ks_superIn K C_Names C_Names "__init__" = some (some (.ref f1)))
    (mo13 : PySem.W.mroIn K C_Names (.ref C_Names) = some true)
    (a14 : PySem.W.findIn K (.ref C_Drop) "__init__" = some (some (.ref f14)))
    (i14 : PySem.W.isFn K (.ref f14) = true)
    (l14 : K.lookup f14 = some ⟨oc14, od14, .func (PySem.W.ksFn "__init__" "Drop.__init__" (defArgs s_Drop___init__) (defBody s_Drop___init__) (defScope s_Drop___init__) .none kV14 dc14 pm14 an14 (.ref cda14) ct14 cc14), sl14⟩)
    (c14 : PySem.W.codeIn K (.ref cda14) "Drop.__init__" = true)
    (ce14 : K.lookup cc14 = some ⟨cl14, cld14, .cell (some (.ref C_Drop)), csl14⟩)
    (cf14 : K.lookup cda14 = some ⟨ccl14, cdd14, .fields vs14, ccs14⟩)
    (cv14 : vs14[2]? = some (.str fl14 tf14))
    (cm14 : (l.prog.main.file == fl14) = true)
    (su14 : (PySem.W.clsIn K C_Drop).isSome = true)
    (up14 : PySem.W.ks_superIn K C_Drop C_Drop "__init__" = some (some (.ref f1)))
    (mo14 : PySem.W.mroIn K C_Drop (.ref C_Drop) = some true)
    (a15 : PySem.W.findIn K (.ref C_Slips) "__init__" = some (some (.ref f15)))
    (i15 : PySem.W.isFn K (.ref f15) = true)
    (l15 : K.lookup f15 = some ⟨oc15, od15, .func (PySem.W.fnOf "__init__" "Slips.__init__" (defArgs s_Slips___init__) (defBody s_Slips___init__) (defScope s_Slips___init__) .none kV15 dc15 pm15 an15 cd15 ct15), sl15⟩) (c15 : PySem.W.codeIn K cd15 "Slips.__init__" = true) (k15 : PySem.W.keepIn K (.ref f15) = true)
    (a16_Slips : PySem.W.findIn K (.ref C_Slips) "__eq__" = some (some (.ref f16)))
    (i16 : PySem.W.isFn K (.ref f16) = true)
    (l16 : K.lookup f16 = some ⟨oc16, od16, .func (PySem.W.fnOf "__eq__" "Slips.__eq__" (defArgs s_Slips___eq__) (defBody s_Slips___eq__) (defScope s_Slips___eq__) .none kV16 dc16 pm16 an16 cd16 ct16), sl16⟩) (c16 : PySem.W.codeIn K cd16 "Slips.__eq__" = true) (k16 : PySem.W.keepIn K (.ref f16) = true)
    (a17_Slips : PySem.W.findIn K (.ref C_Slips) "__contains__" = some (some (.ref f17)))
    (i17 : PySem.W.isFn K (.ref f17) = true)
    (l17 : K.lookup f17 = some ⟨oc17, od17, .func (PySem.W.fnOf "__contains__" "Slips.__contains__" (defArgs s_Slips___contains__) (defBody s_Slips___contains__) (defScope s_Slips___contains__) .none kV17 dc17 pm17 an17 cd17 ct17), sl17⟩) (c17 : PySem.W.codeIn K cd17 "Slips.__contains__" = true) (k17 : PySem.W.keepIn K (.ref f17) = true)
    (a18_Slips : PySem.W.findIn K (.ref C_Slips) "is_within" = some (some (.ref f18)))
    (i18 : PySem.W.isFn K (.ref f18) = true)
    (l18 : K.lookup f18 = some ⟨oc18, od18, .func (PySem.W.fnOf "is_within" "Slips.is_within" (defArgs s_Slips_is_within) (defBody s_Slips_is_within) (defScope s_Slips_is_within) .none kV18 dc18 pm18 an18 cd18 ct18), sl18⟩) (c18 : PySem.W.codeIn K cd18 "Slips.is_within" = true) (k18 : PySem.W.keepIn K (.ref f18) = true)
    (a19 : PySem.W.nsIn K mainGlobals "_law_of" = some (some (.ref f19))) (l19 : K.lookup f19 = some ⟨oc19, od19, .func (PySem.W.fnOf "_law_of" "_law_of" (defArgs s__law_of) (defBody s__law_of) (defScope s__law_of) .none kV19 dc19 pm19 an19 cd19 ct19), sl19⟩) (c19 : PySem.W.codeIn K cd19 "_law_of" = true) (k19 : PySem.W.keepIn K (.ref f19) = true)
    (a20 : PySem.W.nsIn K mainGlobals "_law_mixed" = some (some (.ref f20))) (l20 : K.lookup f20 = some ⟨oc20, od20, .func (PySem.W.fnOf "_law_mixed" "_law_mixed" (defArgs s__law_mixed) (defBody s__law_mixed) (defScope s__law_mixed) .none kV20 dc20 pm20 an20 cd20 ct20), sl20⟩) (c20 : PySem.W.codeIn K cd20 "_law_mixed" = true) (k20 : PySem.W.keepIn K (.ref f20) = true)
    (a21 : PySem.W.nsIn K mainGlobals "_law_words" = some (some (.ref f21))) (l21 : K.lookup f21 = some ⟨oc21, od21, .func (PySem.W.fnOf "_law_words" "_law_words" (defArgs s__law_words) (defBody s__law_words) (defScope s__law_words) .none kV21 dc21 pm21 an21 cd21 ct21), sl21⟩) (c21 : PySem.W.codeIn K cd21 "_law_words" = true) (k21 : PySem.W.keepIn K (.ref f21) = true)
    (a22_Slips : PySem.W.findIn K (.ref C_Slips) "__str__" = some (some (.ref f22)))
    (i22 : PySem.W.isFn K (.ref f22) = true)
    (l22 : K.lookup f22 = some ⟨oc22, od22, .func (PySem.W.fnOf "__str__" "Slips.__str__" (defArgs s_Slips___str__) (defBody s_Slips___str__) (defScope s_Slips___str__) .none kV22 dc22 pm22 an22 cd22 ct22), sl22⟩) (c22 : PySem.W.codeIn K cd22 "Slips.__str__" = true) (k22 : PySem.W.keepIn K (.ref f22) = true)
    (a23_Slips : PySem.W.findIn K (.ref C_Slips) "__and__" = some (some (.ref f23)))
    (i23 : PySem.W.isFn K (.ref f23) = true)
    (l23 : K.lookup f23 = some ⟨oc23, od23, .func (PySem.W.fnOf "__and__" "Slips.__and__" (defArgs s_Slips___and__) (defBody s_Slips___and__) (defScope s_Slips___and__) .none kV23 dc23 pm23 an23 cd23 ct23), sl23⟩) (c23 : PySem.W.codeIn K cd23 "Slips.__and__" = true) (k23 : PySem.W.keepIn K (.ref f23) = true)
    (a24_Slips : PySem.W.findIn K (.ref C_Slips) "__or__" = some (some (.ref f24)))
    (i24 : PySem.W.isFn K (.ref f24) = true)
    (l24 : K.lookup f24 = some ⟨oc24, od24, .func (PySem.W.fnOf "__or__" "Slips.__or__" (defArgs s_Slips___or__) (defBody s_Slips___or__) (defScope s_Slips___or__) .none kV24 dc24 pm24 an24 cd24 ct24), sl24⟩) (c24 : PySem.W.codeIn K cd24 "Slips.__or__" = true) (k24 : PySem.W.keepIn K (.ref f24) = true)
    (a25_Slips : PySem.W.findIn K (.ref C_Slips) "__sub__" = some (some (.ref f25)))
    (i25 : PySem.W.isFn K (.ref f25) = true)
    (l25 : K.lookup f25 = some ⟨oc25, od25, .func (PySem.W.fnOf "__sub__" "Slips.__sub__" (defArgs s_Slips___sub__) (defBody s_Slips___sub__) (defScope s_Slips___sub__) .none kV25 dc25 pm25 an25 cd25 ct25), sl25⟩) (c25 : PySem.W.codeIn K cd25 "Slips.__sub__" = true) (k25 : PySem.W.keepIn K (.ref f25) = true)
    (a26_Slips : PySem.W.findIn K (.ref C_Slips) "__xor__" = some (some (.ref f26)))
    (i26 : PySem.W.isFn K (.ref f26) = true)
    (l26 : K.lookup f26 = some ⟨oc26, od26, .func (PySem.W.fnOf "__xor__" "Slips.__xor__" (defArgs s_Slips___xor__) (defBody s_Slips___xor__) (defScope s_Slips___xor__) .none kV26 dc26 pm26 an26 cd26 ct26), sl26⟩) (c26 : PySem.W.codeIn K cd26 "Slips.__xor__" = true) (k26 : PySem.W.keepIn K (.ref f26) = true)
    (a27 : PySem.W.nsIn K mainGlobals "_law_slip" = some (some (.ref f27))) (l27 : K.lookup f27 = some ⟨oc27, od27, .func (PySem.W.fnOf "_law_slip" "_law_slip" (defArgs s__law_slip) (defBody s__law_slip) (defScope s__law_slip) .none kV27 dc27 pm27 an27 cd27 ct27), sl27⟩) (c27 : PySem.W.codeIn K cd27 "_law_slip" = true) (k27 : PySem.W.keepIn K (.ref f27) = true)
    (a28 : PySem.W.nsIn K mainGlobals "_law_key" = some (some (.ref f28))) (l28 : K.lookup f28 = some ⟨oc28, od28, .func (PySem.W.fnOf "_law_key" "_law_key" (defArgs s__law_key) (defBody s__law_key) (defScope s__law_key) .none kV28 dc28 pm28 an28 cd28 ct28), sl28⟩) (c28 : PySem.W.codeIn K cd28 "_law_key" = true) (k28 : PySem.W.keepIn K (.ref f28) = true)
    (a29 : PySem.W.nsIn K mainGlobals "_law_set" = some (some (.ref f29))) (l29 : K.lookup f29 = some ⟨oc29, od29, .func (PySem.W.fnOf "_law_set" "_law_set" (defArgs s__law_set) (defBody s__law_set) (defScope s__law_set) .none kV29 dc29 pm29 an29 cd29 ct29), sl29⟩) (c29 : PySem.W.codeIn K cd29 "_law_set" = true) (k29 : PySem.W.keepIn K (.ref f29) = true)
    (a30 : PySem.W.nsIn K mainGlobals "_law_tells" = some (some (.ref f30))) (l30 : K.lookup f30 = some ⟨oc30, od30, .func (PySem.W.fnOf "_law_tells" "_law_tells" (defArgs s__law_tells) (defBody s__law_tells) (defScope s__law_tells) .none kV30 dc30 pm30 an30 cd30 ct30), sl30⟩) (c30 : PySem.W.codeIn K cd30 "_law_tells" = true) (k30 : PySem.W.keepIn K (.ref f30) = true)
    (a31 : PySem.W.nsIn K mainGlobals "_law_agrees" = some (some (.ref f31))) (l31 : K.lookup f31 = some ⟨oc31, od31, .func (PySem.W.fnOf "_law_agrees" "_law_agrees" (defArgs s__law_agrees) (defBody s__law_agrees) (defScope s__law_agrees) .none kV31 dc31 pm31 an31 cd31 ct31), sl31⟩) (c31 : PySem.W.codeIn K cd31 "_law_agrees" = true) (k31 : PySem.W.keepIn K (.ref f31) = true)
    (a32 : PySem.W.nsIn K mainGlobals "law" = some (some (.ref f32))) (l32 : K.lookup f32 = some ⟨oc32, od32, .func (PySem.W.fnOf "law" "law" (defArgs s_law) (defBody s_law) (defScope s_law) .none kV32 dc32 pm32 an32 cd32 ct32), sl32⟩) (c32 : PySem.W.codeIn K cd32 "law" = true) (k32 : PySem.W.keepIn K (.ref f32) = true)
    (z_ValueError : PySem.W.nsIn K mainGlobals "ValueError" = some none) (z_LookupError : PySem.W.nsIn K mainGlobals "LookupError" = some none) (z_all : PySem.W.nsIn K mainGlobals "all" = some none) (z_list : PySem.W.nsIn K mainGlobals "list" = some none) (z_enumerate : PySem.W.nsIn K mainGlobals "enumerate" = some none) (z_range : PySem.W.nsIn K mainGlobals "range" = some none) (z_tuple : PySem.W.nsIn K mainGlobals "tuple" = some none) (z_dict : PySem.W.nsIn K mainGlobals "dict" = some none) (z_iter : PySem.W.nsIn K mainGlobals "iter" = some none) (z_len : PySem.W.nsIn K mainGlobals "len" = some none) (z_any : PySem.W.nsIn K mainGlobals "any" = some none) (z_int : PySem.W.nsIn K mainGlobals "int" = some none) (z_max : PySem.W.nsIn K mainGlobals "max" = some none) (z_sorted : PySem.W.nsIn K mainGlobals "sorted" = some none) (z_isinstance : PySem.W.nsIn K mainGlobals "isinstance" = some none) (z_str : PySem.W.nsIn K mainGlobals "str" = some none) (z_min : PySem.W.nsIn K mainGlobals "min" = some none) (z_abs : PySem.W.nsIn K mainGlobals "abs" = some none) (z_super : PySem.W.nsIn K mainGlobals "super" = some none) :
    ∃ fd : FuncData, (∀ (s : Shared) (v : Value), BindsTo s fd ⟨[v], []⟩ [("_law_script", v)]) ∧ ∀ base : Heap, K.In base → base.Ns mainGlobals mg → FnOk l.prog w K mg base CX0 12 fa fd ["_law_script"] (sp_law K) := by
  have e := hfa.symm.trans (PySem.W.mg_of X G a32)
  cases e
  have T : Txt K mg C_Swap C_Leave C_Double C_Names C_Drop C_Slips C_BadSlip C_Slip G_SLIP_WORDS := ⟨PySem.W.mg_none_of X G z_ValueError, PySem.W.mg_none_of X G z_LookupError, PySem.W.mg_none_of X G z_all, PySem.W.mg_none_of X G z_list, PySem.W.mg_none_of X G z_enumerate, PySem.W.mg_none_of X G z_range, PySem.W.mg_none_of X G z_tuple, PySem.W.mg_none_of X G z_dict, PySem.W.mg_none_of X G z_iter, PySem.W.mg_none_of X G z_len, PySem.W.mg_none_of X G z_any, PySem.W.mg_none_of X G z_int, PySem.W.mg_none_of X G z_max, PySem.W.mg_none_of X G z_sorted, PySem.W.mg_none_of X G z_isinstance, PySem.W.mg_none_of X G z_str, PySem.W.mg_none_of X G z_min, PySem.W.mg_none_of X G z_abs, PySem.W.mg_none_of X G z_super, ⟨pg_Swap, hd_Swap, po_Swap, sa_Swap⟩, ⟨_, PySem.W.mg_of X G aC_Swap, rfl⟩, na_Swap_parts, ⟨pg_Leave, hd_Leave, po_Leave, sa_Leave⟩, ⟨_, PySem.W.mg_of X G aC_Leave, rfl⟩, na_Leave_parts, ⟨pg_Double, hd_Double, po_Double, sa_Double⟩, ⟨_, PySem.W.mg_of X G aC_Double, rfl⟩, na_Double_parts, ⟨pg_Names, hd_Names, po_Names, sa_Names⟩, ⟨_, PySem.W.mg_of X G aC_Names, rfl⟩, na_Names_parts, ⟨pg_Drop, hd_Drop, po_Drop, sa_Drop⟩, ⟨_, PySem.W.mg_of X G aC_Drop, rfl⟩, na_Drop_parts, ⟨pg_Slips, hd_Slips, po_Slips, sa_Slips⟩, ⟨_, PySem.W.mg_of X G aC_Slips, rfl⟩, na_Slips_kept, ⟨_, PySem.W.mg_of X G aC_BadSlip, rfl⟩, ⟨_, PySem.W.mg_of X G aC_Slip, rfl⟩, ⟨ga_BadSlip, gg_BadSlip, eC_BadSlip, hC_BadSlip, ha_BadSlip, hnC, htC, ob_BadSlip⟩, (fam_cons ⟨pg_Swap, hd_Swap, po_Swap, sa_Swap⟩ (fam_cons ⟨pg_Leave, hd_Leave, po_Leave, sa_Leave⟩ (fam_cons ⟨pg_Double, hd_Double, po_Double, sa_Double⟩ (fam_cons ⟨pg_Names, hd_Names, po_Names, sa_Names⟩ (fam_cons ⟨pg_Drop, hd_Drop, po_Drop, sa_Drop⟩ fam_nil))))), (fam_cons na_Swap_parts (fam_cons na_Leave_parts (fam_cons na_Double_parts (fam_cons na_Names_parts (fam_cons na_Drop_parts fam_nil))))), (fam_cons fa_cl_Swap (fam_cons fa_cl_Leave (fam_cons fa_cl_Double (fam_cons fa_cl_Names (fam_cons fa_cl_Drop fam_nil))))), (fam_cons fa_ob_Swap (fam_cons fa_ob_Leave (fam_cons fa_ob_Double (fam_cons fa_ob_Names (fam_cons fa_ob_Drop fam_nil))))), (fam_cons fa_ki_Swap (fam_cons fa_ki_Leave (fam_cons fa_ki_Double (fam_cons fa_ki_Names (fam_cons fa_ki_Drop fam_nil))))), fa_gt_Slip, fa_tk_Slip, (fam_cons (fam_cons nf_self (fam_cons fa_nf_Swap_Leave (fam_cons fa_nf_Swap_Double (fam_cons fa_nf_Swap_Names (fam_cons fa_nf_Swap_Drop fam_nil))))) (fam_cons (fam_cons fa_nf_Leave_Swap (fam_cons nf_self (fam_cons fa_nf_Leave_Double (fam_cons fa_nf_Leave_Names (fam_cons fa_nf_Leave_Drop fam_nil))))) (fam_cons (fam_cons fa_nf_Double_Swap (fam_cons fa_nf_Double_Leave (fam_cons nf_self (fam_cons fa_nf_Double_Names (fam_cons fa_nf_Double_Drop fam_nil))))) (fam_cons (fam_cons fa_nf_Names_Swap (fam_cons fa_nf_Names_Leave (fam_cons fa_nf_Names_Double (fam_cons nf_self (fam_cons fa_nf_Names_Drop fam_nil))))) (fam_cons (fam_cons fa_nf_Drop_Swap (fam_cons fa_nf_Drop_Leave (fam_cons fa_nf_Drop_Double (fam_cons fa_nf_Drop_Names (fam_cons nf_self fam_nil))))) fam_nil))))), (fam_cons ⟨pg_Slips, hd_Slips, po_Slips, sa_Slips⟩ fam_nil), (fam_cons na_Slips_kept fam_nil), (fam_cons fa_cl_Slips fam_nil), (fam_cons fa_ob_Slips fam_nil), (fam_cons fa_ki_Slips fam_nil), (fam_cons fa_nlist_Slips fam_nil), fa_klist_Slips, fa_gt_Slips, fa_tk_Slips, (fam_cons (fam_cons nf_self fam_nil) fam_nil), fa_sf_Slips, fa_nb_Slips, ⟨_, PySem.W.mg_of X G aG_SLIP_WORDS, rfl⟩, fun H => .inr ⟨_, _, _, lG_SLIP_WORDS, rfl, rfl, (by show 5 ≤ sizeLine; decide), .cons ⟨_, rfl⟩ (.cons ⟨_, rfl⟩ (.cons ⟨_, rfl⟩ (.cons ⟨_, rfl⟩ (.cons ⟨_, rfl⟩ (.nil)))))⟩⟩
  have F1 := fun_mk (st := s_Slip___init__) l1 c1 k1
  have F2 := fun_mk (st := s_Slip_key) l2 c2 k2
  have b2 := F2.binds (ps := ["self"]) fun _ _ _ _ _ _ us hl => match us, hl with | [_], _ => rfl
  have F3 := fun_mk (st := s_Slip___eq__) l3 c3 k3
  have b3 := F3.binds (ps := ["self", "other"]) fun _ _ _ _ _ _ us hl => match us, hl with | [_, _], _ => rfl
  have F4 := fun_mk (st := s_Slip___str__) l4 c4 k4
  have b4 := F4.binds (ps := ["self"]) fun _ _ _ _ _ _ us hl => match us, hl with | [_], _ => rfl
  have F5 := fun_mk (st := s_Slips___iter__) l5 c5 k5
  have b5 := F5.binds (ps := ["self"]) fun _ _ _ _ _ _ us hl => match us, hl with | [_], _ => rfl
  have F6 := fun_mk (st := s_Slips___len__) l6 c6 k6
  have b6 := F6.binds (ps := ["self"]) fun _ _ _ _ _ _ us hl => match us, hl with | [_], _ => rfl
  have F7 := fun_mk (st := s__law_bag) l7 c7 k7
  have b7 := F7.binds (ps := ["_law_script", "_law_at"]) fun _ _ _ _ _ _ us hl => match us, hl with | [_, _], _ => rfl
  have F8 := fun_mk (st := s__law_take) l8 c8 k8
  have b8 := F8.binds (ps := ["_law_bag_here", "_law_many"]) fun _ _ _ _ _ _ us hl => match us, hl with | [_, _], _ => rfl
  have F9 := fun_mk (st := s__law_text) l9 c9 k9
  have b9 := F9.binds (ps := ["_law_key_here"]) fun _ _ _ _ _ _ us hl => match us, hl with | [_], _ => rfl
  have F10 : SFunO l.prog K mg "__init__" "Swap.__init__" s_Swap___init__ C_Swap f10 (PySem.W.ksFn "__init__" "Swap.__init__" (defArgs s_Swap___init__) (defBody s_Swap___init__) (defScope s_Swap___init__) .none kV10 dc10 pm10 an10 (.ref cda10) ct10 cc10) "__init__" f1 :=
    ⟨⟨_, _, _, _, _, _, _, _, _, _, _, _, _, rfl, l10, c10, ce10, ⟨su10, up10, i1, fi1, mo10, opq, T.z_super, ⟨_, _, _, _, _, _, cf10, cv10, cm10⟩, tops⟩⟩⟩
  have b10 : Binds K (PySem.W.ksFn "__init__" "Swap.__init__" (defArgs s_Swap___init__) (defBody s_Swap___init__) (defScope s_Swap___init__) .none kV10 dc10 pm10 an10 (.ref cda10) ct10 cc10) ["self", "first", "second"] [] := Binds.all fun us hl => match us, hl with | [_, _, _], _ => rfl
  have F11 : SFunO l.prog K mg "__init__" "Leave.__init__" s_Leave___init__ C_Leave f11 (PySem.W.ksFn "__init__" "Leave.__init__" (defArgs s_Leave___init__) (defBody s_Leave___init__) (defScope s_Leave___init__) .none kV11 dc11 pm11 an11 (.ref cda11) ct11 cc11) "__init__" f1 :=
    ⟨⟨_, _, _, _, _, _, _, _, _, _, _, _, _, rfl, l11, c11, ce11, ⟨su11, up11, i1, fi1, mo11, opq, T.z_super, ⟨_, _, _, _, _, _, cf11, cv11, cm11⟩, tops⟩⟩⟩
  have b11 : Binds K (PySem.W.ksFn "__init__" "Leave.__init__" (defArgs s_Leave___init__) (defBody s_Leave___init__) (defScope s_Leave___init__) .none kV11 dc11 pm11 an11 (.ref cda11) ct11 cc11) ["self", "place"] [] := Binds.all fun us hl => match us, hl with | [_, _], _ => rfl
  have F12 : SFunO l.prog K mg "__init__" "Double.__init__" s_Double___init__ C_Double f12 (PySem.W.ksFn "__init__" "Double.__init__" (defArgs s_Double___init__) (defBody s_Double___init__) (defScope s_Double___init__) .none kV12 dc12 pm12 an12 (.ref cda12) ct12 cc12) "__init__" f1 :=
    ⟨⟨_, _, _, _, _, _, _, _, _, _, _, _, _, rfl, l12, c12, ce12, ⟨su12, up12, i1, fi1, mo12, opq, T.z_super, ⟨_, _, _, _, _, _, cf12, cv12, cm12⟩, tops⟩⟩⟩
  have b12 : Binds K (PySem.W.ksFn "__init__" "Double.__init__" (defArgs s_Double___init__) (defBody s_Double___init__) (defScope s_Double___init__) .none kV12 dc12 pm12 an12 (.ref cda12) ct12 cc12) ["self", "place"] [] := Binds.all fun us hl => match us, hl with | [_, _], _ => rfl
  have F13 : SFunO l.prog K mg "__init__" "Names.__init__" s_Names___init__ C_Names f13 (PySem.W.ksFn "__init__" "Names.__init__" (defArgs s_Names___init__) (defBody s_Names___init__) (defScope s_Names___init__) .none kV13 dc13 pm13 an13 (.ref cda13) ct13 cc13) "__init__" f1 :=
    ⟨⟨_, _, _, _, _, _, _, _, _, _, _, _, _, rfl, l13, c13, ce13, ⟨su13, up13, i1, fi1, mo13, opq, T.z_super, ⟨_, _, _, _, _, _, cf13, cv13, cm13⟩, tops⟩⟩⟩
  have b13 : Binds K (PySem.W.ksFn "__init__" "Names.__init__" (defArgs s_Names___init__) (defBody s_Names___init__) (defScope s_Names___init__) .none kV13 dc13 pm13 an13 (.ref cda13) ct13 cc13) ["self", "first", "second"] [] := Binds.all fun us hl => match us, hl with | [_, _, _], _ => rfl
  have F14 : SFunO l.prog K mg "__init__" "Drop.__init__" s_Drop___init__ C_Drop f14 (PySem.W.ksFn "__init__" "Drop.__init__" (defArgs s_Drop___init__) (defBody s_Drop___init__) (defScope s_Drop___init__) .none kV14 dc14 pm14 an14 (.ref cda14) ct14 cc14) "__init__" f1 :=
    ⟨⟨_, _, _, _, _, _, _, _, _, _, _, _, _, rfl, l14, c14, ce14, ⟨su14, up14, i1, fi1, mo14, opq, T.z_super, ⟨_, _, _, _, _, _, cf14, cv14, cm14⟩, tops⟩⟩⟩
  have b14 : Binds K (PySem.W.ksFn "__init__" "Drop.__init__" (defArgs s_Drop___init__) (defBody s_Drop___init__) (defScope s_Drop___init__) .none kV14 dc14 pm14 an14 (.ref cda14) ct14 cc14) ["self", "word"] [] := Binds.all fun us hl => match us, hl with | [_, _], _ => rfl
  have F15 := fun_mk (st := s_Slips___init__) l15 c15 k15
  have F16 := fun_mk (st := s_Slips___eq__) l16 c16 k16
  have b16 := F16.binds (ps := ["self", "other"]) fun _ _ _ _ _ _ us hl => match us, hl with | [_, _], _ => rfl
  have F17 := fun_mk (st := s_Slips___contains__) l17 c17 k17
  have b17 := F17.binds (ps := ["self", "slip"]) fun _ _ _ _ _ _ us hl => match us, hl with | [_, _], _ => rfl
  have F18 := fun_mk (st := s_Slips_is_within) l18 c18 k18
  have b18 := F18.binds (ps := ["self", "other"]) fun _ _ _ _ _ _ us hl => match us, hl with | [_, _], _ => rfl
  have F19 := fun_mk (st := s__law_of) l19 c19 k19
  have b19 := F19.binds (ps := ["_law_bag_here", "_law_some"]) fun _ _ _ _ _ _ us hl => match us, hl with | [_, _], _ => rfl
  have F20 := fun_mk (st := s__law_mixed) l20 c20 k20
  have b20 := F20.binds (ps := ["_law_bag_here", "_law_things"]) fun _ _ _ _ _ _ us hl => match us, hl with | [_, _], _ => rfl
  have F21 := fun_mk (st := s__law_words) l21 c21 k21
  have b21 := F21.binds (ps := ["_law_bag_here"]) fun _ _ _ _ _ _ us hl => match us, hl with | [_], _ => rfl
  have F22 := fun_mk (st := s_Slips___str__) l22 c22 k22
  have b22 := F22.binds (ps := ["self"]) fun _ _ _ _ _ _ us hl => match us, hl with | [_], _ => rfl
  have F23 := fun_mk (st := s_Slips___and__) l23 c23 k23
  have b23 := F23.binds (ps := ["self", "other"]) fun _ _ _ _ _ _ us hl => match us, hl with | [_, _], _ => rfl
  have F24 := fun_mk (st := s_Slips___or__) l24 c24 k24
  have b24 := F24.binds (ps := ["self", "other"]) fun _ _ _ _ _ _ us hl => match us, hl with | [_, _], _ => rfl
  have F25 := fun_mk (st := s_Slips___sub__) l25 c25 k25
  have b25 := F25.binds (ps := ["self", "other"]) fun _ _ _ _ _ _ us hl => match us, hl with | [_, _], _ => rfl
  have F26 := fun_mk (st := s_Slips___xor__) l26 c26 k26
  have b26 := F26.binds (ps := ["self", "other"]) fun _ _ _ _ _ _ us hl => match us, hl with | [_, _], _ => rfl
  have F27 := fun_mk (st := s__law_slip) l27 c27 k27
  have b27 := F27.binds (ps := ["_law_key_here"]) fun _ _ _ _ _ _ us hl => match us, hl with | [_], _ => rfl
  have F28 := fun_mk (st := s__law_key) l28 c28 k28
  have b28 := F28.binds (ps := ["_law_bag_here", "_law_words_here"]) fun _ _ _ _ _ _ us hl => match us, hl with | [_, _], _ => rfl
  have F29 := fun_mk (st := s__law_set) l29 c29 k29
  have b29 := F29.binds (ps := ["_law_keys"]) fun _ _ _ _ _ _ us hl => match us, hl with | [_], _ => rfl
  have F30 := fun_mk (st := s__law_tells) l30 c30 k30
  have b30 := F30.binds (ps := ["_law_seen", "_law_keys", "_law_others"]) fun _ _ _ _ _ _ us hl => match us, hl with | [_, _, _], _ => rfl
  have F31 := fun_mk (st := s__law_agrees) l31 c31 k31
  have b31 := F31.binds (ps := ["_law_one", "_law_two", "_law_extra"]) fun _ _ _ _ _ _ us hl => match us, hl with | [_, _, _], _ => rfl
  have F32 := fun_mk (st := s_law) l32 c32 k32
  refine ⟨PySem.W.fnOf "law" "law" (defArgs s_law) (defBody s_law) (defScope s_law) .none kV32 dc32 pm32 an32 cd32 ct32, fun s v => .of_eq rfl, fun base _ _ => ?_⟩
  have E_BadSlip : OexC K C_BadSlip := ⟨⟨_, _, _, _, _, _, _, _, _, _, _, _, _, _, _, xL_BadSlip, rv_BadSlip⟩, sa_BadSlip, eC_BadSlip, tC_BadSlip, kC_BadSlip⟩
  have S_BadSlip : SFun l.prog K mg "BadSlip.__init__" s_BadSlip___init__ C_BadSlip f_BadSlip (PySem.W.ksFn "__init__" "BadSlip.__init__" (defArgs s_BadSlip___init__) (defBody s_BadSlip___init__) (defScope s_BadSlip___init__) .none kV_BadSlip dc_BadSlip pm_BadSlip an_BadSlip (.ref cda_BadSlip) ct_BadSlip cc_BadSlip) :=
    ⟨⟨_, _, _, _, _, _, _, _, _, _, _, _, _, rfl, li_BadSlip, ci_BadSlip, ce_BadSlip, ⟨E_BadSlip, up_BadSlip, sV_BadSlip, mo_BadSlip, opq, T.z_super, ⟨_, _, _, _, _, _, cf_BadSlip, cv_BadSlip, cm_BadSlip⟩, tops⟩⟩⟩
  have U_BadSlip : Exc1 l.prog w K mg base 1 "BadSlip" "what" C_BadSlip :=
    ⟨E_BadSlip, ⟨f_BadSlip, _, ["self", "what"], ai_BadSlip, ti_BadSlip, ok_BadSlip___init__ S_BadSlip no_BadSlip, Binds.all fun us hl => match us, hl with | [_, _], _ => rfl⟩, PySem.W.mg_of X G aC_BadSlip, ⟨ga_BadSlip, gg_BadSlip, eC_BadSlip, hC_BadSlip⟩, no_BadSlip, PySem.W.exm_ref eC_BadSlip hC_BadSlip tC_BadSlip sC_BadSlip⟩
  have R_Slip___init__ := ok_Slip___init__ (P := l.prog) (w := w) (base := base) F1 T
  have U_Slip_key : UseP l.prog w K mg base 2 (FamS [C_Swap, C_Leave, C_Double, C_Names, C_Drop]) "key" ["self"] (sp_Slip_key [C_Swap, C_Leave, C_Double, C_Names, C_Drop]) := ⟨p2, _, _, ok_Slip_key F2 T, b2, (fam_cons ⟨⟨pg_Swap, hd_Swap, po_Swap, sa_Swap⟩, ⟨a2_Swap, gp2, tp2, ⟨_, rp2⟩⟩⟩ (fam_cons ⟨⟨pg_Leave, hd_Leave, po_Leave, sa_Leave⟩, ⟨a2_Leave, gp2, tp2, ⟨_, rp2⟩⟩⟩ (fam_cons ⟨⟨pg_Double, hd_Double, po_Double, sa_Double⟩, ⟨a2_Double, gp2, tp2, ⟨_, rp2⟩⟩⟩ (fam_cons ⟨⟨pg_Names, hd_Names, po_Names, sa_Names⟩, ⟨a2_Names, gp2, tp2, ⟨_, rp2⟩⟩⟩ (fam_cons ⟨⟨pg_Drop, hd_Drop, po_Drop, sa_Drop⟩, ⟨a2_Drop, gp2, tp2, ⟨_, rp2⟩⟩⟩ fam_nil)))))⟩
  have U_Slip___eq__ : UseMF l.prog w K mg base 2 (FamS [C_Swap, C_Leave, C_Double, C_Names, C_Drop]) "__eq__" (sp_Slip___eq__ [C_Swap, C_Leave, C_Double, C_Names, C_Drop]) := ⟨_, fnr (ok_Slip___eq__ F3 T) b3, (fam_cons ⟨a3_Swap, i3, k3⟩ (fam_cons ⟨a3_Leave, i3, k3⟩ (fam_cons ⟨a3_Double, i3, k3⟩ (fam_cons ⟨a3_Names, i3, k3⟩ (fam_cons ⟨a3_Drop, i3, k3⟩ fam_nil)))))⟩
  have U_Slip___str__ : UseMF l.prog w K mg base 2 (FamS [C_Swap, C_Leave, C_Double, C_Names, C_Drop]) "__str__" (sp_Slip___str__ [C_Swap, C_Leave, C_Double, C_Names, C_Drop]) := ⟨_, fnr (ok_Slip___str__ F4 T) b4, (fam_cons ⟨a4_Swap, i4, k4⟩ (fam_cons ⟨a4_Leave, i4, k4⟩ (fam_cons ⟨a4_Double, i4, k4⟩ (fam_cons ⟨a4_Names, i4, k4⟩ (fam_cons ⟨a4_Drop, i4, k4⟩ fam_nil)))))⟩
  have U_Slips___iter__ : UseIt l.prog w K mg 2 C_Slips (fun n => sp_Slips___iter__ (K := K) C_Slips n) := ⟨f5, fun base' _ _ => fnr (ok_Slips___iter__ (base := base') F5 T) b5, a5_Slips, i5⟩
  have U_Slips___len__ : UseMF l.prog w K mg base 2 (FamS [C_Slips]) "__len__" (sp_Slips___len__ C_Slips [C_Swap, C_Leave, C_Double, C_Names, C_Drop]) := ⟨_, fnr (ok_Slips___len__ F6 T) b6, (fam_cons ⟨a6_Slips, i6, k6⟩ fam_nil)⟩
  have U__law_bag : Use l.prog w K mg base 2 "_law_bag" ["_law_script", "_law_at"] (sp__law_bag K) := ⟨_, _, ok__law_bag F7 T, PySem.W.mg_of X G a7, k7, b7⟩
  have U__law_take : Use l.prog w K mg base 2 "_law_take" ["_law_bag_here", "_law_many"] (sp__law_take K) := ⟨_, _, ok__law_take F8 T, PySem.W.mg_of X G a8, k8, b8⟩
  have U__law_text : Use l.prog w K mg base 2 "_law_text" ["_law_key_here"] (sp__law_text) := ⟨_, _, ok__law_text F9 T, PySem.W.mg_of X G a9, k9, b9⟩
  have U_Swap___init__ : UseCK l.prog w K mg base 4 "Swap" C_Swap ["self", "first", "second"] (sp_Swap___init__ C_Swap C_BadSlip) := ⟨_, _, ok_Swap___init__ F10 T R_Slip___init__ U_BadSlip, ⟨mk_Swap, a10, i10, kc_Swap⟩, PySem.W.mg_of X G aC_Swap, b10, (fun s us ws h1 h2 => match us, ws, h1, h2 with | [_], [_, _], _, _ => .of_eq rfl), fun s us ws h1 h2 => match us, ws, h1, h2 with | [_], [_, _], _, _ => .of_eq rfl⟩
  have U_Leave___init__ : UseCK l.prog w K mg base 4 "Leave" C_Leave ["self", "place"] (sp_Leave___init__ C_Leave) := ⟨_, _, ok_Leave___init__ F11 T R_Slip___init__, ⟨mk_Leave, a11, i11, kc_Leave⟩, PySem.W.mg_of X G aC_Leave, b11, (fun s us ws h1 h2 => match us, ws, h1, h2 with | [_], [_], _, _ => .of_eq rfl), fun s us ws h1 h2 => match us, ws, h1, h2 with | [_], [_], _, _ => .of_eq rfl⟩
  have U_Double___init__ : UseCK l.prog w K mg base 4 "Double" C_Double ["self", "place"] (sp_Double___init__ C_Double) := ⟨_, _, ok_Double___init__ F12 T R_Slip___init__, ⟨mk_Double, a12, i12, kc_Double⟩, PySem.W.mg_of X G aC_Double, b12, (fun s us ws h1 h2 => match us, ws, h1, h2 with | [_], [_], _, _ => .of_eq rfl), fun s us ws h1 h2 => match us, ws, h1, h2 with | [_], [_], _, _ => .of_eq rfl⟩
  have U_Names___init__ : UseCK l.prog w K mg base 4 "Names" C_Names ["self", "first", "second"] (sp_Names___init__ C_Names C_BadSlip) := ⟨_, _, ok_Names___init__ F13 T R_Slip___init__ U_BadSlip, ⟨mk_Names, a13, i13, kc_Names⟩, PySem.W.mg_of X G aC_Names, b13, (fun s us ws h1 h2 => match us, ws, h1, h2 with | [_], [_, _], _, _ => .of_eq rfl), fun s us ws h1 h2 => match us, ws, h1, h2 with | [_], [_, _], _, _ => .of_eq rfl⟩
  have U_Drop___init__ : UseCK l.prog w K mg base 4 "Drop" C_Drop ["self", "word"] (sp_Drop___init__ C_Drop) := ⟨_, _, ok_Drop___init__ F14 T R_Slip___init__, ⟨mk_Drop, a14, i14, kc_Drop⟩, PySem.W.mg_of X G aC_Drop, b14, (fun s us ws h1 h2 => match us, ws, h1, h2 with | [_], [_], _, _ => .of_eq rfl), fun s us ws h1 h2 => match us, ws, h1, h2 with | [_], [_], _, _ => .of_eq rfl⟩
  have U_Slips___init__ : UseC l.prog w K mg base 4 "Slips" C_Slips (sp_Slips___init__ C_Slips [C_Swap, C_Leave, C_Double, C_Names, C_Drop]) := ⟨_, ok_Slips___init__ F15 T U_Slip_key, ⟨mk_Slips, a15, i15, kc_Slips⟩, PySem.W.mg_of X G aC_Slips⟩
  have U_Slips___eq__ : UseMF l.prog w K mg base 4 (FamS [C_Slips]) "__eq__" (sp_Slips___eq__ (K := K) C_Slips [C_Swap, C_Leave, C_Double, C_Names, C_Drop]) := ⟨_, fnr (ok_Slips___eq__ F16 T U_Slip___eq__) b16, (fam_cons ⟨a16_Slips, i16, k16⟩ fam_nil)⟩
  have U_Slips___contains__ : UseMF l.prog w K mg base 4 (FamS [C_Slips]) "__contains__" (sp_Slips___contains__ C_Slips [C_Swap, C_Leave, C_Double, C_Names, C_Drop]) := ⟨_, fnr (ok_Slips___contains__ F17 T U_Slip___eq__) b17, (fam_cons ⟨a17_Slips, i17, k17⟩ fam_nil)⟩
  have U_Slips_is_within : UseMF l.prog w K mg base 4 (FamS [C_Slips]) "is_within" (sp_Slips_is_within C_Slips [C_Swap, C_Leave, C_Double, C_Names, C_Drop]) := ⟨_, fnr (ok_Slips_is_within F18 T U_Slip___eq__) b18, (fam_cons ⟨a18_Slips, i18, k18⟩ fam_nil)⟩
  have U__law_of : Use l.prog w K mg base 4 "_law_of" ["_law_bag_here", "_law_some"] (sp__law_of K) := ⟨_, _, ok__law_of F19 T U__law_take, PySem.W.mg_of X G a19, k19, b19⟩
  have U__law_mixed : Use l.prog w K mg base 4 "_law_mixed" ["_law_bag_here", "_law_things"] (sp__law_mixed (K := K)) := ⟨_, _, ok__law_mixed F20 T U__law_take, PySem.W.mg_of X G a20, k20, b20⟩
  have U__law_words : Use l.prog w K mg base 4 "_law_words" ["_law_bag_here"] (sp__law_words K) := ⟨_, _, ok__law_words F21 T U__law_take, PySem.W.mg_of X G a21, k21, b21⟩
  have U_Slips___str__ : UseMF l.prog w K mg base 5 (FamS [C_Slips]) "__str__" (sp_Slips___str__ C_Slips [C_Swap, C_Leave, C_Double, C_Names, C_Drop]) := ⟨_, fnr (ok_Slips___str__ F22 T U_Slip___str__) b22, (fam_cons ⟨a22_Slips, i22, k22⟩ fam_nil)⟩
  have U_Slips___and__ : UseMF l.prog w K mg base 6 (FamS [C_Slips]) "__and__" (sp_Slips___and__ C_Slips [C_Swap, C_Leave, C_Double, C_Names, C_Drop]) := ⟨_, fnr (ok_Slips___and__ F23 T U_Slip___eq__ U_Slips___init__) b23, (fam_cons ⟨a23_Slips, i23, k23⟩ fam_nil)⟩
  have U_Slips___or__ : UseMF l.prog w K mg base 6 (FamS [C_Slips]) "__or__" (sp_Slips___or__ C_Slips [C_Swap, C_Leave, C_Double, C_Names, C_Drop]) := ⟨_, fnr (ok_Slips___or__ F24 T U_Slips___init__) b24, (fam_cons ⟨a24_Slips, i24, k24⟩ fam_nil)⟩
  have U_Slips___sub__ : UseMF l.prog w K mg base 6 (FamS [C_Slips]) "__sub__" (sp_Slips___sub__ C_Slips [C_Swap, C_Leave, C_Double, C_Names, C_Drop]) := ⟨_, fnr (ok_Slips___sub__ F25 T U_Slip___eq__ U_Slips___init__) b25, (fam_cons ⟨a25_Slips, i25, k25⟩ fam_nil)⟩
  have U_Slips___xor__ : UseMF l.prog w K mg base 6 (FamS [C_Slips]) "__xor__" (sp_Slips___xor__ C_Slips [C_Swap, C_Leave, C_Double, C_Names, C_Drop]) := ⟨_, fnr (ok_Slips___xor__ F26 T U_Slip___eq__ U_Slips___init__) b26, (fam_cons ⟨a26_Slips, i26, k26⟩ fam_nil)⟩
  have U__law_slip : Use l.prog w K mg base 6 "_law_slip" ["_law_key_here"] (sp__law_slip [C_Swap, C_Leave, C_Double, C_Names, C_Drop]) := ⟨_, _, ok__law_slip F27 T U_Swap___init__ U_Leave___init__ U_Double___init__ U_Names___init__ U_Drop___init__, PySem.W.mg_of X G a27, k27, b27⟩
  have U__law_key : Use l.prog w K mg base 6 "_law_key" ["_law_bag_here", "_law_words_here"] (sp__law_key) := ⟨_, _, ok__law_key F28 T U__law_take U__law_of, PySem.W.mg_of X G a28, k28, b28⟩
  have U__law_set : Use l.prog w K mg base 8 "_law_set" ["_law_keys"] (sp__law_set C_Slips [C_Swap, C_Leave, C_Double, C_Names, C_Drop]) := ⟨_, _, ok__law_set F29 T U_Slips___init__ U_Slips___or__ U__law_slip, PySem.W.mg_of X G a29, k29, b29⟩
  have U__law_tells : Use l.prog w K mg base 8 "_law_tells" ["_law_seen", "_law_keys", "_law_others"] (sp__law_tells C_Slips [C_Swap, C_Leave, C_Double, C_Names, C_Drop]) := ⟨_, _, ok__law_tells F30 T U_Slip_key U_Slips___iter__ U_Slips___len__ U_Slips___contains__ U_Slips___str__ U__law_slip U__law_text, PySem.W.mg_of X G a30, k30, b30⟩
  have U__law_agrees : Use l.prog w K mg base 10 "_law_agrees" ["_law_one", "_law_two", "_law_extra"] (sp__law_agrees) := ⟨_, _, ok__law_agrees F31 T U_Slips___init__ U_Slips___eq__ U_Slips___and__ U_Slips___or__ U_Slips___sub__ U_Slips___xor__ U_Slips_is_within U__law_slip U__law_set U__law_tells, PySem.W.mg_of X G a31, k31, b31⟩
  exact ok_law F32 T U_Slips___init__ U_Slips___eq__ U__law_bag U__law_take U__law_mixed U__law_words U__law_key U__law_agrees
theorem walk {l : PySem.W.OpenLaw} {q : Program} {loose : List Str} {XP : (Str → Option Value) → Heap → Prop} {YP : World → Heap → Prop} {d : DefRec} {K : Params → PySem.W.Frag} (hn : l.most = some 63) (hdf : d.params.defaults = [])
    (hY : ∀ (w : World) (h : Heap), YP w h → (K w.params).In h)
    (F : ∀ (w : World) (mg : Str → Option Value) (fa : Addr) (h : Heap), (K w.params).In h → h.Ns mainGlobals mg → mg d.name = some (.ref fa) →
      ∃ fd : FuncData, (∀ (s : Shared) (u : Value), BindsTo s fd ⟨[u], []⟩ [("_law_script", u)]) ∧ ∀ base : Heap, (K w.params).In base → base.Ns mainGlobals mg → FnOk l.prog w (K w.params) mg base CX0 12 fa fd ["_law_script"] (sp_law (K w.params))) :
    PySem.W.WalkO q loose XP YP l.row.toRowW d [] (fun f vs => PySem.call f vs) :=
  L2.walk_of (n := 63) (k := 12) (x := "_law_script") (CX := fun _ => CX0) (sp := fun w => sp_law (K w.params)) hn (by decide) hdf ⟨rfl, by decide, by decide⟩ hY F (fun _ _ a ns hl _ hS => ⟨a, ns, rfl, hS, hl, fun _ => rfl⟩) fun _ _ _ _ _ z => z
end My
open PySem PySem.W PyProof.Rows
set_option maxRecDepth 100000 in
set_option maxHeartbeats 0 in
theorem PySem.Challenge.cw_silentswaps_k53_sets_of_slips_holds : PySem.Challenge.rw_silentswaps_k53_sets_of_slips.Holds := by
  w_on; o_law; k_head; (case hw => w_witness2)
  k_fill
  refine My.walk (l := PySem.Challenge.rw_silentswaps_k53_sets_of_slips) rfl rfl (fun w h Y => PySem.W.kIn_of Y) ?F
  case F =>
    intro w mg fa h KX G hmg
    refine' My.all_mk KX G hmg ?aC_Swap ?pg_Swap ?hd_Swap ?po_Swap ?sa_Swap ?mk_Swap ?kc_Swap ?na_Swap_parts ?aC_Leave ?pg_Leave ?hd_Leave ?po_Leave ?sa_Leave ?mk_Leave ?kc_Leave ?na_Leave_parts ?aC_Double ?pg_Double ?hd_Double ?po_Double ?sa_Double ?mk_Double ?kc_Double ?na_Double_parts ?aC_Names ?pg_Names ?hd_Names ?po_Names ?sa_Names ?mk_Names ?kc_Names ?na_Names_parts ?aC_Drop ?pg_Drop ?hd_Drop ?po_Drop ?sa_Drop ?mk_Drop ?kc_Drop ?na_Drop_parts ?aC_Slips ?pg_Slips ?hd_Slips ?po_Slips ?sa_Slips ?mk_Slips ?kc_Slips ?na_Slips_kept ?aC_BadSlip ?aC_Slip ?hnC ?htC ?opq ?tops ?xL_BadSlip ?rv_BadSlip ?sa_BadSlip ?ga_BadSlip ?gg_BadSlip ?no_BadSlip ?ai_BadSlip ?ti_BadSlip ?li_BadSlip ?ci_BadSlip ?ce_BadSlip ?cf_BadSlip ?cv_BadSlip ?cm_BadSlip ?kC_BadSlip ?eC_BadSlip ?tC_BadSlip ?hC_BadSlip ?sC_BadSlip ?up_BadSlip ?sV_BadSlip ?mo_BadSlip ?ob_BadSlip ?ha_BadSlip ?fa_cl_Swap ?fa_cl_Leave ?fa_cl_Double ?fa_cl_Names ?fa_cl_Drop ?fa_ob_Swap ?fa_ob_Leave ?fa_ob_Double ?fa_ob_Names ?fa_ob_Drop ?fa_ki_Swap ?fa_ki_Leave ?fa_ki_Double ?fa_ki_Names ?fa_ki_Drop ?fa_gt_Slip ?fa_tk_Slip ?fa_nf_Swap_Leave ?fa_nf_Swap_Double ?fa_nf_Swap_Names ?fa_nf_Swap_Drop ?fa_nf_Leave_Swap ?fa_nf_Leave_Double ?fa_nf_Leave_Names ?fa_nf_Leave_Drop ?fa_nf_Double_Swap ?fa_nf_Double_Leave ?fa_nf_Double_Names ?fa_nf_Double_Drop ?fa_nf_Names_Swap ?fa_nf_Names_Leave ?fa_nf_Names_Double ?fa_nf_Names_Drop ?fa_nf_Drop_Swap ?fa_nf_Drop_Leave ?fa_nf_Drop_Double ?fa_nf_Drop_Names ?fa_cl_Slips ?fa_ob_Slips ?fa_ki_Slips ?fa_nlist_Slips ?fa_klist_Slips ?fa_gt_Slips ?fa_tk_Slips ?fa_sf_Slips ?fa_nb_Slips ?aG_SLIP_WORDS ?lG_SLIP_WORDS ?up1 ?i1 ?fi1 ?l1 ?c1 ?k1 ?a2_Swap ?a2_Leave ?a2_Double ?a2_Names ?a2_Drop ?gp2 ?tp2 ?rp2 ?l2 ?c2 ?k2 ?a3_Swap ?a3_Leave ?a3_Double ?a3_Names ?a3_Drop ?i3 ?l3 ?c3 ?k3 ?a4_Swap ?a4_Leave ?a4_Double ?a4_Names ?a4_Drop ?i4 ?l4 ?c4 ?k4 ?a5_Slips ?i5 ?l5 ?c5 ?k5 ?a6_Slips ?i6 ?l6 ?c6 ?k6 ?a7 ?l7 ?c7 ?k7 ?a8 ?l8 ?c8 ?k8 ?a9 ?l9 ?c9 ?k9 ?a10 ?i10 ?l10 ?c10 ?ce10 ?cf10 ?cv10 ?cm10 ?su10 ?up10 ?mo10 ?a11 ?i11 ?l11 ?c11 ?ce11 ?cf11 ?cv11 ?cm11 ?su11 ?up11 ?mo11 ?a12 ?i12 ?l12 ?c12 ?ce12 ?cf12 ?cv12 ?cm12 ?su12 ?up12 ?mo12 ?a13 ?i13 ?l13 ?c13 ?ce13 ?cf13 ?cv13 ?cm13 ?su13 ?up13 ?mo13 ?a14 ?i14 ?l14 ?c14 ?ce14 ?cf14 ?cv14 ?cm14 ?su14 ?up14 ?mo14 ?a15 ?i15 ?l15 ?c15 ?k15 ?a16_Slips ?i16 ?l16 ?c16 ?k16 ?a17_Slips ?i17 ?l17 ?c17 ?k17 ?a18_Slips ?i18 ?l18 ?c18 ?k18 ?a19 ?l19 ?c19 ?k19 ?a20 ?l20 ?c20 ?k20 ?a21 ?l21 ?c21 ?k21 ?a22_Slips ?i22 ?l22 ?c22 ?k22 ?a23_Slips ?i23 ?l23 ?c23 ?k23 ?a24_Slips ?i24 ?l24 ?c24 ?k24 ?a25_Slips ?i25 ?l25 ?c25 ?k25 ?a26_Slips ?i26 ?l26 ?c26 ?k26 ?a27 ?l27 ?c27 ?k27 ?a28 ?l28 ?c28 ?k28 ?a29 ?l29 ?c29 ?k29 ?a30 ?l30 ?c30 ?k30 ?a31 ?l31 ?c31 ?k31 ?a32 ?l32 ?c32 ?k32 ?z_ValueError ?z_LookupError ?z_all ?z_list ?z_enumerate ?z_range ?z_tuple ?z_dict ?z_iter ?z_len ?z_any ?z_int ?z_max ?z_sorted ?z_isinstance ?z_str ?z_min ?z_abs ?z_super
    (case aC_Swap => k_is)
    (case pg_Swap => k_is)
    (case hd_Swap => k_is)
    (case po_Swap => k_is)
    (case sa_Swap => k_is)
    (case mk_Swap => k_is)
    (case kc_Swap => k_is)
    (case na_Swap_parts => k_is)
    (case aC_Leave => k_is)
    (case pg_Leave => k_is)
    (case hd_Leave => k_is)
    (case po_Leave => k_is)
    (case sa_Leave => k_is)
    (case mk_Leave => k_is)
    (case kc_Leave => k_is)
    (case na_Leave_parts => k_is)
    (case aC_Double => k_is)
    (case pg_Double => k_is)
    (case hd_Double => k_is)
    (case po_Double => k_is)
    (case sa_Double => k_is)
    (case mk_Double => k_is)
    (case kc_Double => k_is)
    (case na_Double_parts => k_is)
    (case aC_Names => k_is)
    (case pg_Names => k_is)
    (case hd_Names => k_is)
    (case po_Names => k_is)
    (case sa_Names => k_is)
    (case mk_Names => k_is)
    (case kc_Names => k_is)
    (case na_Names_parts => k_is)
    (case aC_Drop => k_is)
    (case pg_Drop => k_is)
    (case hd_Drop => k_is)
    (case po_Drop => k_is)
    (case sa_Drop => k_is)
    (case mk_Drop => k_is)
    (case kc_Drop => k_is)
    (case na_Drop_parts => k_is)
    (case aC_Slips => k_is)
    (case pg_Slips => k_is)
    (case hd_Slips => k_is)
    (case po_Slips => k_is)
    (case sa_Slips => k_is)
    (case mk_Slips => k_is)
    (case kc_Slips => k_is)
    (case na_Slips_kept => k_is)
    (case aC_BadSlip => k_is)
    (case aC_Slip => k_is)
    (case hnC => k_is)
    (case htC => k_is)
    (case opq => k_is)
    (case tops => first | rfl | decide +kernel)
    (case xL_BadSlip => k_is)
    (case rv_BadSlip => first | rfl | decide +kernel)
    (case sa_BadSlip => k_is)
    (case ga_BadSlip => k_is)
    (case gg_BadSlip => k_is)
    (case no_BadSlip => k_is)
    (case ai_BadSlip => k_is)
    (case ti_BadSlip => k_is)
    (case li_BadSlip => k_is)
    (case ci_BadSlip => k_is)
    (case ce_BadSlip => k_is)
    (case cf_BadSlip => k_is)
    (case cv_BadSlip => first | rfl | decide +kernel)
    (case cm_BadSlip => first | rfl | decide +kernel)
    (case kC_BadSlip => k_is)
    (case eC_BadSlip => k_is)
    (case tC_BadSlip => k_is)
    (case hC_BadSlip => k_is)
    (case sC_BadSlip => first | k_is | rfl)
    (case up_BadSlip => first | k_is | rfl)
    (case sV_BadSlip => k_is)
    (case mo_BadSlip => first | k_is | rfl)
    (case ob_BadSlip => first | k_is | rfl)
    (case ha_BadSlip => k_is)
    (case fa_cl_Swap => first | k_is | rfl)
    (case fa_cl_Leave => first | k_is | rfl)
    (case fa_cl_Double => first | k_is | rfl)
    (case fa_cl_Names => first | k_is | rfl)
    (case fa_cl_Drop => first | k_is | rfl)
    (case fa_ob_Swap => first | k_is | rfl)
    (case fa_ob_Leave => first | k_is | rfl)
    (case fa_ob_Double => first | k_is | rfl)
    (case fa_ob_Names => first | k_is | rfl)
    (case fa_ob_Drop => first | k_is | rfl)
    (case fa_ki_Swap => first | k_is | rfl)
    (case fa_ki_Leave => first | k_is | rfl)
    (case fa_ki_Double => first | k_is | rfl)
    (case fa_ki_Names => first | k_is | rfl)
    (case fa_ki_Drop => first | k_is | rfl)
    (case fa_gt_Slip => first | k_is | rfl)
    (case fa_tk_Slip => first | k_is | rfl)
    (case fa_nf_Swap_Leave => first | k_is | rfl)
    (case fa_nf_Swap_Double => first | k_is | rfl)
    (case fa_nf_Swap_Names => first | k_is | rfl)
    (case fa_nf_Swap_Drop => first | k_is | rfl)
    (case fa_nf_Leave_Swap => first | k_is | rfl)
    (case fa_nf_Leave_Double => first | k_is | rfl)
    (case fa_nf_Leave_Names => first | k_is | rfl)
    (case fa_nf_Leave_Drop => first | k_is | rfl)
    (case fa_nf_Double_Swap => first | k_is | rfl)
    (case fa_nf_Double_Leave => first | k_is | rfl)
    (case fa_nf_Double_Names => first | k_is | rfl)
    (case fa_nf_Double_Drop => first | k_is | rfl)
    (case fa_nf_Names_Swap => first | k_is | rfl)
    (case fa_nf_Names_Leave => first | k_is | rfl)
    (case fa_nf_Names_Double => first | k_is | rfl)
    (case fa_nf_Names_Drop => first | k_is | rfl)
    (case fa_nf_Drop_Swap => first | k_is | rfl)
    (case fa_nf_Drop_Leave => first | k_is | rfl)
    (case fa_nf_Drop_Double => first | k_is | rfl)
    (case fa_nf_Drop_Names => first | k_is | rfl)
    (case fa_cl_Slips => first | k_is | rfl)
    (case fa_ob_Slips => first | k_is | rfl)
    (case fa_ki_Slips => first | k_is | rfl)
    (case fa_nlist_Slips => first | k_is | rfl)
    (case fa_klist_Slips => first | k_is | rfl)
    (case fa_gt_Slips => first | k_is | rfl)
    (case fa_tk_Slips => first | k_is | rfl)
    (case fa_sf_Slips => first | k_is | rfl)
    (case fa_nb_Slips => first | k_is | rfl)
    (case aG_SLIP_WORDS => k_is)
    (case lG_SLIP_WORDS => k_is)
    (case up1 => first | k_is | rfl)
    (case i1 => k_is)
    (case fi1 => first | k_is | rfl)
    (case l1 => k_is)
    (case c1 => k_is)
    (case k1 => k_is)
    (case a2_Swap => k_is)
    (case a2_Leave => k_is)
    (case a2_Double => k_is)
    (case a2_Names => k_is)
    (case a2_Drop => k_is)
    (case gp2 => k_is)
    (case tp2 => k_is)
    (case rp2 => first | k_is | rfl)
    (case l2 => k_is)
    (case c2 => k_is)
    (case k2 => k_is)
    (case a3_Swap => k_is)
    (case a3_Leave => k_is)
    (case a3_Double => k_is)
    (case a3_Names => k_is)
    (case a3_Drop => k_is)
    (case i3 => k_is)
    (case l3 => k_is)
    (case c3 => k_is)
    (case k3 => k_is)
    (case a4_Swap => k_is)
    (case a4_Leave => k_is)
    (case a4_Double => k_is)
    (case a4_Names => k_is)
    (case a4_Drop => k_is)
    (case i4 => k_is)
    (case l4 => k_is)
    (case c4 => k_is)
    (case k4 => k_is)
    (case a5_Slips => k_is)
    (case i5 => k_is)
    (case l5 => k_is)
    (case c5 => k_is)
    (case k5 => k_is)
    (case a6_Slips => k_is)
    (case i6 => k_is)
    (case l6 => k_is)
    (case c6 => k_is)
    (case k6 => k_is)
    (case a7 => k_is)
    (case l7 => k_is)
    (case c7 => k_is)
    (case k7 => k_is)
    (case a8 => k_is)
    (case l8 => k_is)
    (case c8 => k_is)
    (case k8 => k_is)
    (case a9 => k_is)
    (case l9 => k_is)
    (case c9 => k_is)
    (case k9 => k_is)
    (case a10 => k_is)
    (case i10 => k_is)
    (case l10 => k_is)
    (case c10 => k_is)
    (case ce10 => k_is)
    (case cf10 => k_is)
    (case cv10 => first | rfl | decide +kernel)
    (case cm10 => first | rfl | decide +kernel)
    (case su10 => first | k_is | rfl)
    (case up10 => first | k_is | rfl)
    (case mo10 => first | k_is | rfl)
    (case a11 => k_is)
    (case i11 => k_is)
    (case l11 => k_is)
    (case c11 => k_is)
    (case ce11 => k_is)
    (case cf11 => k_is)
    (case cv11 => first | rfl | decide +kernel)
    (case cm11 => first | rfl | decide +kernel)
    (case su11 => first | k_is | rfl)
    (case up11 => first | k_is | rfl)
    (case mo11 => first | k_is | rfl)
    (case a12 => k_is)
    (case i12 => k_is)
    (case l12 => k_is)
    (case c12 => k_is)
    (case ce12 => k_is)
    (case cf12 => k_is)
    (case cv12 => first | rfl | decide +kernel)
    (case cm12 => first | rfl | decide +kernel)
    (case su12 => first | k_is | rfl)
    (case up12 => first | k_is | rfl)
    (case mo12 => first | k_is | rfl)
    (case a13 => k_is)
    (case i13 => k_is)
    (case l13 => k_is)
    (case c13 => k_is)
    (case ce13 => k_is)
    (case cf13 => k_is)
    (case cv13 => first | rfl | decide +kernel)
    (case cm13 => first | rfl | decide +kernel)
    (case su13 => first | k_is | rfl)
    (case up13 => first | k_is | rfl)
    (case mo13 => first | k_is | rfl)
    (case a14 => k_is)
    (case i14 => k_is)
    (case l14 => k_is)
    (case c14 => k_is)
    (case ce14 => k_is)
    (case cf14 => k_is)
    (case cv14 => first | rfl | decide +kernel)
    (case cm14 => first | rfl | decide +kernel)
    (case su14 => first | k_is | rfl)
    (case up14 => first | k_is | rfl)
    (case mo14 => first | k_is | rfl)
    (case a15 => k_is)
    (case i15 => k_is)
    (case l15 => k_is)
    (case c15 => k_is)
    (case k15 => k_is)
    (case a16_Slips => k_is)
    (case i16 => k_is)
    (case l16 => k_is)
    (case c16 => k_is)
    (case k16 => k_is)
    (case a17_Slips => k_is)
    (case i17 => k_is)
    (case l17 => k_is)
    (case c17 => k_is)
    (case k17 => k_is)
    (case a18_Slips => k_is)
    (case i18 => k_is)
    (case l18 => k_is)
    (case c18 => k_is)
    (case k18 => k_is)
    (case a19 => k_is)
    (case l19 => k_is)
    (case c19 => k_is)
    (case k19 => k_is)
    (case a20 => k_is)
    (case l20 => k_is)
    (case c20 => k_is)
    (case k20 => k_is)
    (case a21 => k_is)
    (case l21 => k_is)
    (case c21 => k_is)
    (case k21 => k_is)
    (case a22_Slips => k_is)
    (case i22 => k_is)
    (case l22 => k_is)
    (case c22 => k_is)
    (case k22 => k_is)
    (case a23_Slips => k_is)
    (case i23 => k_is)
    (case l23 => k_is)
    (case c23 => k_is)
    (case k23 => k_is)
    (case a24_Slips => k_is)
    (case i24 => k_is)
    (case l24 => k_is)
    (case c24 => k_is)
    (case k24 => k_is)
    (case a25_Slips => k_is)
    (case i25 => k_is)
    (case l25 => k_is)
    (case c25 => k_is)
    (case k25 => k_is)
    (case a26_Slips => k_is)
    (case i26 => k_is)
    (case l26 => k_is)
    (case c26 => k_is)
    (case k26 => k_is)
    (case a27 => k_is)
    (case l27 => k_is)
    (case c27 => k_is)
    (case k27 => k_is)
    (case a28 => k_is)
    (case l28 => k_is)
    (case c28 => k_is)
    (case k28 => k_is)
    (case a29 => k_is)
    (case l29 => k_is)
    (case c29 => k_is)
    (case k29 => k_is)
    (case a30 => k_is)
    (case l30 => k_is)
    (case c30 => k_is)
    (case k30 => k_is)
    (case a31 => k_is)
    (case l31 => k_is)
    (case c31 => k_is)
    (case k31 => k_is)
    (case a32 => k_is)
    (case l32 => k_is)
    (case c32 => k_is)
    (case k32 => k_is)
    (case z_ValueError => k_is)
    (case z_LookupError => k_is)
    (case z_all => k_is)
    (case z_list => k_is)
    (case z_enumerate => k_is)
    (case z_range => k_is)
    (case z_tuple => k_is)
    (case z_dict => k_is)
    (case z_iter => k_is)
    (case z_len => k_is)
    (case z_any => k_is)
    (case z_int => k_is)
    (case z_max => k_is)
    (case z_sorted => k_is)
    (case z_isinstance => k_is)
    (case z_str => k_is)
    (case z_min => k_is)
    (case z_abs => k_is)
    (case z_super => k_is)
#print axioms PySem.Challenge.cw_silentswaps_k53_sets_of_slips_holds
