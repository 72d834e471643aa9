import PyProof.Rows.All
import Wide.All
import OpenK.AllK
import Wide.FinOn
import KE.DataCmp
import HandS.ForMost
import HandS.Exc
import HandS.TryOnly
import HandS.ExcOwn
import HandS.WordsExc
import HandS.IsInst
import HandS.Wide
import HandS.EndBits
import HandS.Flow
import HandS.Conv
import HandS.SortKw
import HandS.TupAny
import HandS.Style
import HandS.Iter
import HandS.Comp
import HandS.More
import KE.DatumOrd
import HandS.ExcIs
import HandS.TryMany
import KE.KIsAll
import HandS.Deep
import HandS.Text
import PyProof.Rows.StrMul
import HandS.TupMul
import HandS.ExcInit
import HandS.ExcField
import KE.IntTextLaws
import HandS.ReplaceList
import HandS.ReplaceLit
import HandS.ExcValue
import KE.KExcIs
import KE.SortKeyHeap
import KE.KSortKey
import HandS.TupSets
import HandS.SetFor
import HandS.Strs
import HandS.DictComp
import KE.KEqNest
import PyProof.EqKinds
import KE.KDictKeyed
import KE.KDictSum
import PySem.Challenge.RW_twigmap_k65_behind_and_turned
set_option Elab.async false
set_option linter.all false
set_option maxRecDepth 100000
set_option maxHeartbeats 4000000
set_option Elab.async false
set_option linter.all false
set_option maxRecDepth 100000
set_option maxHeartbeats 2000000
/-! Tw: frames of heaps, data in tuples, steps of readings. -/
namespace Tw
open PySem PySem.Spec PyProof.Rows L2

/-! ### frames -/
/-- all that stood and is not in S stands; tuples stand; nothing is lost -/
structure Fr (S : Addr → Prop) (H H' : Hp) : Prop where
  keep : ∀ b o, H b = some o → ¬ S b → H' b = some o
  tup : ∀ b xs, H b = some (.tup xs) → H' b = some (.tup xs)
  back : ∀ b, H' b = none → H b = none
/-- an address that nothing stands at -/
def Fresh (H : Hp) (p : Addr) : Prop := H p = none
abbrev Non : Addr → Prop := fun _ => False
abbrev One (a : Addr) : Addr → Prop := fun b => b = a
theorem not_One {a b : Addr} (h : b ≠ a) : ¬ One a b := h
theorem Fr.refl {S : Addr → Prop} (H : Hp) : Fr S H H := ⟨fun _ _ h _ => h, fun _ _ h => h, fun _ h => h⟩
theorem Fr.trans {S : Addr → Prop} {H H1 H2 : Hp} (a : Fr S H H1) (b : Fr S H1 H2) : Fr S H H2 :=
  ⟨fun c o h n => b.keep c o (a.keep c o h n) n, fun c xs h => b.tup c xs (a.tup c xs h), fun c h => a.back c (b.back c h)⟩
theorem Fr.sub {S T : Addr → Prop} {H H1 : Hp} (a : Fr S H H1) (h : ∀ b, S b → T b) : Fr T H H1 :=
  ⟨fun c o e n => a.keep c o e (fun s => n (h c s)), a.tup, a.back⟩
/-- what changed lies in S or was not there -/
theorem Fr.sub' {S T : Addr → Prop} {H H1 H2 : Hp} (a : Fr S H H1) (b : Fr T H1 H2) (h : ∀ b, T b → S b ∨ Fresh H b) : Fr S H H2 :=
  ⟨fun c o e n => b.keep c o (a.keep c o e n) (fun t => (h c t).elim n fun z => by have z0 : H c = none := z; rw [z0] at e; cases e), fun c xs e => b.tup c xs (a.tup c xs e), fun c e => a.back c (b.back c e)⟩
theorem Fr.non {S : Addr → Prop} {H H1 : Hp} (a : Fr Non H H1) : Fr S H H1 := a.sub fun _ h => h.elim
theorem Fr.new {S : Addr → Prop} {H H1 : Hp} {p : Addr} {o : HO} (a : Fr S H H1) (hp : Fresh H1 p) : Fr S H (upd H1 p o) := by
  have h0 := a.back p hp
  refine ⟨fun c u e n => ?_, fun c xs e => ?_, fun c e => ?_⟩
  · rw [upd_ne (ne_of_none e h0)]; exact a.keep c u e n
  · rw [upd_ne (ne_of_none e h0)]; exact a.tup c xs e
  · by_cases hc : c = p
    · subst hc; exact h0
    · rw [upd_ne hc] at e; exact a.back c e
def noTup : HO → Bool
  | .tup _ => false
  | _ => true
theorem Fr.mut {S : Addr → Prop} {H H1 : Hp} {p : Addr} {o u : HO} (a : Fr S H H1) (hu : H1 p = some u) (ht : noTup u = true) (hp : S p ∨ Fresh H p) : Fr S H (upd H1 p o) := by
  refine ⟨fun c v e n => ?_, fun c xs e => ?_, fun c e => ?_⟩
  · have hc : c ≠ p := fun z => by
      subst z
      rcases hp with h | h
      · exact n h
      · have h0 : H c = none := h
        rw [h0] at e; cases e
    rw [upd_ne hc]; exact a.keep c v e n
  · have q := a.tup c xs e
    have hc : c ≠ p := fun z => by
      subst z
      rw [hu] at q; cases q; cases ht
    rw [upd_ne hc]; exact q
  · by_cases hc : c = p
    · subst hc; rw [upd_same] at e; cases e
    · rw [upd_ne hc] at e; exact a.back c e
theorem Fr.free {S : Addr → Prop} {H H1 : Hp} {p : Addr} (a : Fr S H H1) (h : Fresh H1 p) : Fresh H p := a.back p h
theorem ne_fr {H : Hp} {a b : Addr} {o : HO} (h : H a = some o) (n : Fresh H b) : a ≠ b := ne_of_none h n

/-! ### data in tuples -/
mutual
/-- the value v is the datum d, all of it in tuples -/
inductive Dt (H : Hp) : V → PyData → Prop
  | non : Dt H .non .none
  | bl (b : Bool) : Dt H (.bl b) (.bool b)
  | int (i : Int) : Dt H (.int i) (.int i)
  | str (x : Str) : Dt H (.str x) (.str x)
  | tup {a : Addr} {xs : List V} {ds : List PyData} (h : H a = some (.tup xs)) (hs : DtAll H xs ds) : Dt H (.ref a) (.tuple ds)
inductive DtAll (H : Hp) : List V → List PyData → Prop
  | nil : DtAll H [] []
  | cons {v : V} {vs : List V} {d : PyData} {ds : List PyData} (h : Dt H v d) (hs : DtAll H vs ds) : DtAll H (v :: vs) (d :: ds)
end
mutual
theorem Dt.mono' {H H1 : Hp} (f : ∀ b xs, H b = some (.tup xs) → H1 b = some (.tup xs)) : ∀ (d : PyData) (v : V), Dt H v d → Dt H1 v d
  | .none, _, h => by cases h; exact .non
  | .bool b, _, h => by cases h; exact .bl b
  | .int i, _, h => by cases h; exact .int i
  | .str x, _, h => by cases h; exact .str x
  | .list _, _, h => by cases h
  | .dict _, _, h => by cases h
  | .tuple ds, _, h => by
    cases h with
    | tup e hs => exact .tup (f _ _ e) (DtAll.mono' f ds _ hs)
theorem DtAll.mono' {H H1 : Hp} (f : ∀ b xs, H b = some (.tup xs) → H1 b = some (.tup xs)) : ∀ (ds : List PyData) (vs : List V), DtAll H vs ds → DtAll H1 vs ds
  | [], _, h => by cases h; exact .nil
  | d :: ds, _, h => by
    cases h with
    | cons h1 h2 => exact .cons (Dt.mono' f d _ h1) (DtAll.mono' f ds _ h2)
end
theorem Dt.mono {S : Addr → Prop} {H H1 : Hp} {v : V} {d : PyData} (h : Dt H v d) (f : Fr S H H1) : Dt H1 v d := Dt.mono' f.tup d v h
theorem DtAll.mono {S : Addr → Prop} {H H1 : Hp} {v : List V} {d : List PyData} (h : DtAll H v d) (f : Fr S H H1) : DtAll H1 v d := DtAll.mono' f.tup d v h
mutual
theorem Dt.dp {K : PySem.W.Frag} {H : Hp} : ∀ (d : PyData) (v : V), Dt H v d → Dp K H v d
  | .none, _, h => by cases h; exact .non
  | .bool b, _, h => by cases h; exact .bl b
  | .int i, _, h => by cases h; exact .int i
  | .str x, _, h => by cases h; exact .str x
  | .list _, _, h => by cases h
  | .dict _, _, h => by cases h
  | .tuple ds, _, h => by
    cases h with
    | tup e hs => exact .tup (SqT.of e) (DtAll.dp ds _ hs)
theorem DtAll.dp {K : PySem.W.Frag} {H : Hp} : ∀ (ds : List PyData) (vs : List V), DtAll H vs ds → DpAll K H vs ds
  | [], _, h => by cases h; exact .nil
  | d :: ds, _, h => by
    cases h with
    | cons h1 h2 => exact .cons (Dt.dp d _ h1) (DtAll.dp ds _ h2)
end
mutual
theorem Dt.fn {H : Hp} : ∀ (d e : PyData) (v : V), Dt H v d → Dt H v e → d = e
  | .none, _, _, h, k => by cases h; cases k; rfl
  | .bool b, _, _, h, k => by cases h; cases k; rfl
  | .int i, _, _, h, k => by cases h; cases k; rfl
  | .str x, _, _, h, k => by cases h; cases k; rfl
  | .list _, _, _, h, _ => by cases h
  | .dict _, _, _, h, _ => by cases h
  | .tuple ds, _, _, h, k => by
    cases h with
    | tup h1 h2 =>
      cases k with
      | tup k1 k2 =>
        rw [h1] at k1; cases k1
        rw [DtAll.fn ds _ _ h2 k2]
theorem DtAll.fn {H : Hp} : ∀ (ds es : List PyData) (vs : List V), DtAll H vs ds → DtAll H vs es → ds = es
  | [], _, _, h, k => by cases h; cases k; rfl
  | d :: ds, _, _, h, k => by
    cases h with
    | cons h1 h2 =>
      cases k with
      | cons k1 k2 => rw [Dt.fn d _ _ h1 k1, DtAll.fn ds _ _ h2 k2]
end
theorem Dt.upd {H : Hp} {p : Addr} {o : HO} {v : V} {d : PyData} (h : Dt H v d) (n : Fresh H p) : Dt (L2.upd H p o) v d := h.mono (Fr.new (S := Non) (Fr.refl H) n)
theorem Dt.updm {H : Hp} {p : Addr} {o u : HO} {v : V} {d : PyData} (h : Dt H v d) (e : H p = some u) (n : noTup u = true) : Dt (L2.upd H p o) v d := h.mono (Fr.mut (S := fun _ => True) (Fr.refl H) e n (.inl trivial))
theorem DtAll.upd {H : Hp} {p : Addr} {o : HO} {v : List V} {d : List PyData} (h : DtAll H v d) (n : Fresh H p) : DtAll (L2.upd H p o) v d := h.mono (Fr.new (S := Non) (Fr.refl H) n)
theorem DtAll.updm {H : Hp} {p : Addr} {o u : HO} {v : List V} {d : List PyData} (h : DtAll H v d) (e : H p = some u) (n : noTup u = true) : DtAll (L2.upd H p o) v d := h.mono (Fr.mut (S := fun _ => True) (Fr.refl H) e n (.inl trivial))
theorem upd_back {H : Hp} {a p : Addr} {o : HO} (h : Fresh (L2.upd H a o) p) : Fresh H p := by
  have h0 : L2.upd H a o p = none := h
  by_cases e : p = a
  · subst e; rw [upd_same] at h0; cases h0
  · rw [upd_ne e] at h0; exact h0
theorem DtAll.length {H : Hp} : ∀ {vs : List V} {ds : List PyData}, DtAll H vs ds → vs.length = ds.length
  | _, [], h => by cases h; rfl
  | _, d :: ds, h => by
    cases h with
    | cons h1 h2 => rw [List.length_cons, List.length_cons, DtAll.length h2]
theorem DtAll.get {H : Hp} : ∀ {vs : List V} {ds : List PyData} {i : Nat} {v : V}, DtAll H vs ds → vs[i]? = some v → ∃ d, ds[i]? = some d ∧ Dt H v d
  | _, [], _, _, h, e => by cases h; simp at e
  | _, d :: ds, 0, _, h, e => by
    cases h with
    | cons h1 h2 => simp at e; subst e; exact ⟨d, rfl, h1⟩
  | _, d :: ds, i + 1, _, h, e => by
    cases h with
    | cons h1 h2 =>
      obtain ⟨d', q1, q2⟩ := DtAll.get (i := i) h2 (by simpa using e)
      exact ⟨d', by simpa using q1, q2⟩
theorem DtAll.app {H : Hp} : ∀ {vs ws : List V} {ds es : List PyData}, DtAll H vs ds → DtAll H ws es → DtAll H (vs ++ ws) (ds ++ es)
  | _, _, [], _, h, k => by cases h; exact k
  | _, _, d :: ds, _, h, k => by
    cases h with
    | cons h1 h2 => exact .cons h1 (DtAll.app h2 k)
theorem DtAll.one {H : Hp} {v : V} {d : PyData} (h : Dt H v d) : DtAll H [v] [d] := .cons h .nil
theorem DtAll.take {H : Hp} : ∀ {vs : List V} {ds : List PyData} (n : Nat), DtAll H vs ds → DtAll H (vs.take n) (ds.take n)
  | _, _, 0, _ => .nil
  | _, [], _ + 1, h => by cases h; exact .nil
  | _, d :: ds, n + 1, h => by
    cases h with
    | cons h1 h2 => exact .cons h1 (DtAll.take n h2)
theorem DtAll.drop {H : Hp} : ∀ {vs : List V} {ds : List PyData} (n : Nat), DtAll H vs ds → DtAll H (vs.drop n) (ds.drop n)
  | _, _, 0, h => h
  | _, [], _ + 1, h => by cases h; exact .nil
  | _, d :: ds, n + 1, h => by
    cases h with
    | cons h1 h2 => exact DtAll.drop n h2

/-! ### own rules -/
section
variable {X : Cx}
def rLtD (K : PySem.W.Frag) : R2 := fun x y H Q => ∃ d e, Dp K H x d ∧ Dp K H y e ∧ PySem.W.alike d e = true ∧ d ≠ .none ∧ d.depth ≤ 60 ∧ Q (.bl (PySem.W.dataLt d e)) H
theorem op_ltD (hu : X.A.units + 64 < cLine) : OpR X (compareOp .Lt) (rLtD X.K) := by
  intro pins s σ H x y v u Q I rx ry h
  obtain ⟨d, e, hd, he, al, hn, dep, q⟩ := h
  obtain ⟨as, r1⟩ := Dp.reads I d x v hd rx
  obtain ⟨bs, r2⟩ := Dp.reads I e y u he ry
  refine PySem.W.lt_data r1 r2 al hn ?_ ⟨.bl _, H, I, rfl, q⟩
  have : min d.depth e.depth ≤ d.depth := Nat.min_le_left _ _
  omega
/-- built-ins' calls under names -/
def rLen (K : PySem.W.Frag) : List V → Hp → VK → Prop := fun xs H Q => ∃ p ys, xs = [.ref p] ∧ (SqL K H p ys ∨ SqT K H p ys) ∧ Q (.int ys.length) H
theorem c_len : CallR X (.builtin "len") (rLen X.K) := call_len_seq
def rLenZ : List V → Hp → VK → Prop := fun xs H Q => ∃ z, xs = [.str z] ∧ z.length ≤ sizeLine ∧ Q (.int z.length) H
theorem c_lenZ : CallR X (.builtin "len") rLenZ := call_len_str
def rLenD : List V → Hp → VK → Prop := fun xs H Q => ∃ a kvs, xs = [V.ref a] ∧ H a = some (.dK kvs) ∧ Q (.int kvs.length) H
theorem c_lenD : CallR X (.builtin "len") rLenD := call_lenD
def rAbs : List V → Hp → VK → Prop := fun xs H Q => ∃ i, xs = [.int i] ∧ Q (.int (if i < 0 then -i else i)) H
theorem c_abs : CallR X (.builtin "abs") rAbs := call_abs
def rMx2 : List V → Hp → VK → Prop := fun xs H Q => ∃ i j, xs = [.int i, .int j] ∧ Q (.int (if j > i then j else i)) H
theorem c_max2 (hc : X.calm = true) : CallR X (.builtin "max") rMx2 := call_max2 hc
def rMn2 : List V → Hp → VK → Prop := fun xs H Q => ∃ i j, xs = [.int i, .int j] ∧ Q (.int (if j < i then j else i)) H
theorem c_min2 (hc : X.calm = true) : CallR X (.builtin "min") rMn2 := call_min2 hc
def rInt1 : List V → Hp → VK → Prop := fun xs H Q => (∃ i, xs = [.int i] ∧ Q (.int i) H) ∨ ∃ k, xs = [.bl k] ∧ Q (.int (if k then 1 else 0)) H
theorem c_int : CallR X (.type "int") rInt1 := call_int1
def rStrI : List V → Hp → VK → Prop := fun xs H Q => ∃ i, xs = [.int i] ∧ i.natAbs.log2 < 1920 ∧ Q (.str (toString i)) H
theorem c_strI : CallR X (.type "str") rStrI := call_str_int
def rListOf (K : PySem.W.Frag) : List V → Hp → VK → Prop := fun xs H Q => ∃ p ys, xs = [.ref p] ∧ (SqL K H p ys ∨ SqT K H p ys) ∧ ∀ l, H l = none → Q (.ref l) (upd H l (.lst ys))
theorem c_listOf : CallR X (.type "list") (rListOf X.K) := call_list_of
def rTupOf (K : PySem.W.Frag) : List V → Hp → VK → Prop := fun xs H Q => ∃ p ys, xs = [.ref p] ∧ ((SqL K H p ys ∧ ∀ l, H l = none → Q (.ref l) (upd H l (.tup ys))) ∨ (SqT K H p ys ∧ Q (.ref p) H))
theorem c_tupOf : CallR X (.type "tuple") (rTupOf X.K) := call_tuple_of
def rAddS : R2 := fun x y H Q => ∃ i j, x = .str i ∧ y = .str j ∧ i.length + j.length ≤ sizeLine ∧ Q (.str (i ++ j)) H
theorem o_addS : OpR X (binaryOp .Add) rAddS := op_add_str
def rLtS : R2 := fun x y H Q => ∃ i j, x = .str i ∧ y = .str j ∧ Q (.bl (decide (i.cps.toList < j.cps.toList))) H
theorem o_ltS : OpR X (compareOp .Lt) rLtS := op_lt_str
def rLeS : R2 := fun x y H Q => ∃ i j, x = .str i ∧ y = .str j ∧ Q (.bl (!decide (j.cps.toList < i.cps.toList))) H
theorem o_leS : OpR X (compareOp .LtE) rLeS := op_le_str
def rIsN : R2 := fun x y H Q => y = .non ∧ Q (.bl (decide (x = .non))) H
theorem o_isN : OpR X (compareOp .Is) rIsN := op_isN
def rNotN : R2 := fun x y H Q => y = .non ∧ Q (.bl (!decide (x = .non))) H
theorem o_notN : OpR X (compareOp .IsNot) rNotN := op_notN
end

/-! ### defs by name -/
/-- a def that may be called by its name -/
structure CalX (P : Program) (w : World) (K : PySem.W.Frag) (mg : Str → Option Value) (base : Heap) (k : Nat) (x : Str) (ps : List Str) (sp : Sp) : Prop where
  ex : ∃ (f : Addr) (fd : FuncData), FnOk P w K mg base (L2.CX P w) k f fd ps sp ∧ mg x = some (.ref f) ∧ PySem.W.keepIn K (.ref f) = true ∧ Binds K fd ps []
/-- a def as it stands behind the top -/
structure DefX (K : PySem.W.Frag) (mg : Str → Option Value) (x : Str) (ps : List Str) (st : Stmt) : Prop where
  ex : ∃ (f : Addr) (fd : FuncData), Fun K x x st f fd ∧ mg x = some (.ref f) ∧ Binds K fd ps []
theorem Passes.none {X : Cx} : Passes (L2.CX X.prog X.w) X E0 := fun _ _ _ _ _ _ _ h => by
  obtain ⟨_, _, _, _, _, _, _, _, _, _, _, _, h⟩ := h
  exact h.elim
def tCal (sp : Sp) (E : XK) (t : TA) : TE := fun σ H Q => t σ H fun vs H1 => sp vs H1 Q E
theorem tCal_eq {sp : Sp} {E : XK} {t : TA} : tCall sp [] E t = tCal sp E t := by
  funext σ H Q
  show t σ H (fun vs H1 => sp (vs ++ []) H1 Q E) = t σ H (fun vs H1 => sp vs H1 Q E)
  have e : (fun (vs : List V) (H1 : Hp) => sp (vs ++ []) H1 Q E) = fun vs H1 => sp vs H1 Q E := by
    funext vs H1
    rw [List.append_nil]
  rw [e]
section
variable {X : Cx} {k j : Nat} {x : Str} {ps : List Str} {sp : Sp} {p pos : Pos} {e : Expr} {es : List Expr} {E : XK} {t : TA}
theorem pcall (c : CalX X.prog X.w X.K X.mg X.base k x ps sp) (hr : Room j X.A) (hk : k ≤ j) (hg : Gl X x) (hx : Passes (L2.CX X.prog X.w) X E) (ha : PA X (e :: es) t)
    (hdb : (x == ("__debug__" : Str)) = false := by decide) (he : starEach (e :: es) X.env = (false, eval e X.env) :: starEach es X.env := by rfl) (hpl : (backTo pos (starEach es X.env)).any (·.1) = false := by rfl) :
    PE X (.Call (.Name x p) (e :: es) [] pos) (tCal sp E t) := by
  obtain ⟨f, fd, F, hm, kp, b⟩ := c.ex
  rw [← tCal_eq]
  exact pe_call F (hr.mono hk) hg hm kp b .nil hx ha hdb he hpl
theorem pcall0 (c : CalX X.prog X.w X.K X.mg X.base k x ps sp) (hr : Room j X.A) (hk : k ≤ j) (hg : Gl X x) (hx : Passes (L2.CX X.prog X.w) X E)
    (hdb : (x == ("__debug__" : Str)) = false := by decide) : PE X (.Call (.Name x p) [] [] pos) (tCal sp E tNil) := by
  obtain ⟨f, fd, F, hm, kp, b⟩ := c.ex
  rw [← tCal_eq]
  exact pe_call0 F (hr.mono hk) hg hm kp b .nil hx hdb
theorem CalX.mono {P : Program} {w : World} {K : PySem.W.Frag} {mg : Str → Option Value} {base : Heap} {sp' : Sp} (c : CalX P w K mg base k x ps sp) (h : ∀ vs H Q E, sp' vs H Q E → sp vs H Q E) : CalX P w K mg base k x ps sp' := by
  obtain ⟨f, fd, F, hm, kp, b⟩ := c.ex
  exact ⟨f, fd, ⟨fun vs H Q E q => F.len vs H Q E (h _ _ _ _ q), fun A outer s H args us vs Q E hr e0 hb r q => F.run A outer s H args us vs Q E hr e0 hb r (h _ _ _ _ q)⟩, hm, kp, b⟩
end

theorem CalX.never {P : Program} {w : World} {K : PySem.W.Frag} {mg : Str → Option Value} {base : Heap} {k : Nat} {x : Str} {ps N : List Str} {st : Stmt} (D : DefX K mg x ps st) (S : FnScope N ps (defScope st)) (hk : 1 ≤ k) : CalX P w K mg base k x ps (fun _ _ _ _ => False) := by
  obtain ⟨f, fd, F, hm, bd⟩ := D.ex
  obtain ⟨j, rfl⟩ : ∃ j, k = j + 1 := ⟨k - 1, by omega⟩
  exact ⟨f, fd, F.okX S (fun _ _ _ _ h => h.elim) (fun _ _ _ _ _ _ _ _ _ h => h.elim), hm, F.kp, bd⟩
theorem str_one (c : Nat) : (⟨#[c]⟩ : Str).length = 1 := rfl
/-- a constant of the module -/
structure ConstX (mg : Str → Option Value) (x : Str) (v : V) : Prop where
  ex : ∃ u, mg x = some u ∧ RelV v u
theorem pconst {X : Cx} {x : Str} {v : V} {pos : Pos} (h : ConstX X.mg x v) (hg : Gl X x) (hd : (x == ("__debug__" : Str)) = false := by decide) : PE X (.Name x pos) (tC v) := by
  obtain ⟨u, hm, r⟩ := h.ex
  exact pe_glob hg hm r hd
theorem SqL_fr {K : PySem.W.Frag} {S : Addr → Prop} {H H1 : Hp} {a : Addr} {xs : List V} (h : SqL K H a xs) (f : Fr S H H1) (n : ¬ S a) : SqL K H1 a xs := by
  rcases h with (h | ⟨o, h⟩) | h
  · exact .inl (.inl (f.keep _ _ h n))
  · exact .inl (.inr ⟨o, f.keep _ _ h n⟩)
  · exact .inr h
theorem SqL_upd {K : PySem.W.Frag} {H : Hp} {a p : Addr} {xs : List V} {o : HO} (h : SqL K H a xs) (n : Fresh H p) : SqL K (upd H p o) a xs := SqL_fr h (Fr.new (S := Non) (Fr.refl H) n) id
theorem ix2i (b : Bool) (x y : Int) : atI [V.int x, V.int y] (if b = true then 1 else 0) = some (V.int (if b = true then y else x)) := by cases b <;> rfl
theorem atI_ex {α : Type} {xs : List α} {i : Int} (h0 : 0 ≤ i) (h1 : i < xs.length) : ∃ v, atI xs i = some v ∧ xs[i.toNat]? = some v := by
  obtain ⟨n, rfl⟩ : ∃ n : Nat, i = n := ⟨i.toNat, by omega⟩
  have h : n < xs.length := by omega
  exact ⟨xs[n], atI_nat (List.getElem?_eq_getElem h), by simp [h]⟩

/-! ### promises by the number of arguments -/
abbrev BK1 := V → Hp → VK → XK → Prop
abbrev BK2 := V → V → Hp → VK → XK → Prop
abbrev BK3 := V → V → V → Hp → VK → XK → Prop
abbrev BK4 := V → V → V → V → Hp → VK → XK → Prop
def Sp0 (B : Hp → VK → XK → Prop) : Sp := fun vs H Q E => vs = [] ∧ B H Q E
def Sp1 (B : BK1) : Sp := fun vs H Q E => ∃ a, vs = [a] ∧ B a H Q E
def Sp2 (B : BK2) : Sp := fun vs H Q E => ∃ a b, vs = [a, b] ∧ B a b H Q E
def Sp3 (B : BK3) : Sp := fun vs H Q E => ∃ a b c, vs = [a, b, c] ∧ B a b c H Q E
def Sp4 (B : BK4) : Sp := fun vs H Q E => ∃ a b c d, vs = [a, b, c, d] ∧ B a b c d H Q E
theorem len0 {B x} : ∀ vs H Q E, Sp0 B vs H Q E → vs.length = ([] : List x).length := fun _ _ _ _ ⟨e, _⟩ => by rw [e]; rfl
theorem len1 {B} {p : Str} : ∀ vs H Q E, Sp1 B vs H Q E → vs.length = [p].length := fun _ _ _ _ ⟨_, e, _⟩ => by rw [e]; rfl
theorem len2 {B} {p q : Str} : ∀ vs H Q E, Sp2 B vs H Q E → vs.length = [p, q].length := fun _ _ _ _ ⟨_, _, e, _⟩ => by rw [e]; rfl
theorem len3 {B} {p q r : Str} : ∀ vs H Q E, Sp3 B vs H Q E → vs.length = [p, q, r].length := fun _ _ _ _ ⟨_, _, _, e, _⟩ => by rw [e]; rfl
theorem len4 {B} {p q r s : Str} : ∀ vs H Q E, Sp4 B vs H Q E → vs.length = [p, q, r, s].length := fun _ _ _ _ ⟨_, _, _, _, e, _⟩ => by rw [e]; rfl

/-! ### steps of readings -/
section
variable {K : PySem.W.Frag} {σ : L2.St} {H : Hp} {Q : VK} {D : Ends} {x y v : V} {ta tb te tc : TE} {t u : TS} {tt uu : TT} {i j : Int} {b : Bool}
theorem x_var {n : Nat} (h : σ[n]? = some (some v)) (q : Q v H) : tVar n σ H Q := ⟨v, h, q⟩
theorem x_c (q : Q v H) : tC v σ H Q := q
theorem x_op {r : R2} (q : ta σ H fun x H1 => tb σ H1 fun y H2 => r x y H2 Q) : tOp r ta tb σ H Q := q
theorem x_un {r : V → Hp → VK → Prop} (q : ta σ H fun x H1 => r x H1 Q) : tUn r ta σ H Q := q
theorem x_add (q : Q (.int (i + j)) H) : rI0 (fun i j => .int (i + j)) (.int i) (.int j) H Q := ⟨i, j, rfl, rfl, q⟩
theorem x_sub (q : Q (.int (i - j)) H) : rI0 (fun i j => .int (i - j)) (.int i) (.int j) H Q := ⟨i, j, rfl, rfl, q⟩
theorem x_lt (q : Q (.bl (decide (i < j))) H) : rI0 (fun i j => .bl (decide (i < j))) (.int i) (.int j) H Q := ⟨i, j, rfl, rfl, q⟩
theorem x_le (q : Q (.bl (decide (i ≤ j))) H) : rI0 (fun i j => .bl (decide (i ≤ j))) (.int i) (.int j) H Q := ⟨i, j, rfl, rfl, q⟩
theorem x_gt (q : Q (.bl (decide (j < i))) H) : rI0 (fun i j => .bl (decide (j < i))) (.int i) (.int j) H Q := ⟨i, j, rfl, rfl, q⟩
theorem x_ge (q : Q (.bl (decide (j ≤ i))) H) : rI0 (fun i j => .bl (decide (j ≤ i))) (.int i) (.int j) H Q := ⟨i, j, rfl, rfl, q⟩
theorem x_mul (h : CMul i j) (q : Q (.int (i * j)) H) : rI CMul (fun i j => .int (i * j)) (.int i) (.int j) H Q := ⟨i, j, rfl, rfl, h, q⟩
theorem x_mulW (h : CMulW i j) (q : Q (.int (i * j)) H) : rI CMulW (fun i j => .int (i * j)) (.int i) (.int j) H Q := ⟨i, j, rfl, rfl, h, q⟩
theorem x_pow (h : CPow i j) (q : Q (.int (i ^ j.toNat)) H) : rI CPow (fun i j => .int (i ^ j.toNat)) (.int i) (.int j) H Q := ⟨i, j, rfl, rfl, h, q⟩
theorem x_mod (h : 0 < j) (q : Q (.int (i % j)) H) : rI (fun _ j => 0 < j) (fun i j => .int (i % j)) (.int i) (.int j) H Q := ⟨i, j, rfl, rfl, h, q⟩
theorem x_div (h : CDiv i j) (q : Q (.int (i / j)) H) : rI CDiv (fun i j => .int (i / j)) (.int i) (.int j) H Q := ⟨i, j, rfl, rfl, h, q⟩
theorem x_divW (h : CDivW i j) (q : Q (.int (i / j)) H) : rI CDivW (fun i j => .int (i / j)) (.int i) (.int j) H Q := ⟨i, j, rfl, rfl, h, q⟩
theorem x_neg (q : Q (.int (-i)) H) : rU (fun i => .int (-i)) (.int i) H Q := ⟨i, rfl, q⟩
/-- == of two ints, as ints -/
theorem x_eqI (q : Q (.bl (decide (i = j))) H) : rEq (.int i) (.int j) H Q := ⟨rfl, by
  have e : decide (V.int i = V.int j) = decide (i = j) := decide_eq_decide.mpr ⟨fun h => V.int.inj h, fun h => congrArg V.int h⟩
  rw [e]; exact q⟩
theorem x_neI (q : Q (.bl (!decide (i = j))) H) : rNe (.int i) (.int j) H Q := ⟨rfl, by
  have e : decide (V.int i = V.int j) = decide (i = j) := decide_eq_decide.mpr ⟨fun h => V.int.inj h, fun h => congrArg V.int h⟩
  rw [e]; exact q⟩
theorem x_eqS {z w : Str} (q : Q (.bl (decide (z = w))) H) : rEq (.str z) (.str w) H Q := ⟨rfl, by
  have e : decide (V.str z = V.str w) = decide (z = w) := decide_eq_decide.mpr ⟨fun h => V.str.inj h, fun h => congrArg V.str h⟩
  rw [e]; exact q⟩
theorem x_neS {z w : Str} (q : Q (.bl (!decide (z = w))) H) : rNe (.str z) (.str w) H Q := ⟨rfl, by
  have e : decide (V.str z = V.str w) = decide (z = w) := decide_eq_decide.mpr ⟨fun h => V.str.inj h, fun h => congrArg V.str h⟩
  rw [e]; exact q⟩
theorem x_eqB {a c : Bool} (q : Q (.bl (decide (a = c))) H) : rEq (.bl a) (.bl c) H Q := ⟨rfl, by
  have e : decide (V.bl a = V.bl c) = decide (a = c) := decide_eq_decide.mpr ⟨fun h => V.bl.inj h, fun h => congrArg V.bl h⟩
  rw [e]; exact q⟩
theorem x_neB {a c : Bool} (q : Q (.bl (!decide (a = c))) H) : rNe (.bl a) (.bl c) H Q := ⟨rfl, by
  have e : decide (V.bl a = V.bl c) = decide (a = c) := decide_eq_decide.mpr ⟨fun h => V.bl.inj h, fun h => congrArg V.bl h⟩
  rw [e]; exact q⟩
theorem x_eqD {d e : PyData} (h1 : Dp K H x d) (h2 : Dp K H y e) (s1 : SeqAt.shaped d = true) (s2 : SeqAt.shaped e = true) (q : Q (.bl (PyData.eqv d e)) H) : rEqD K x y H Q := ⟨d, e, h1, h2, s1, s2, q⟩
theorem x_neD {d e : PyData} (h1 : Dp K H x d) (h2 : Dp K H y e) (s1 : SeqAt.shaped d = true) (s2 : SeqAt.shaped e = true) (q : Q (.bl (!PyData.eqv d e)) H) : rNeD K x y H Q := ⟨d, e, h1, h2, s1, s2, q⟩
theorem x_ltD {d e : PyData} (h1 : Dp K H x d) (h2 : Dp K H y e) (al : PySem.W.alike d e = true) (hn : d ≠ .none) (hd : d.depth ≤ 60) (q : Q (.bl (PySem.W.dataLt d e)) H) : rLtD K x y H Q := ⟨d, e, h1, h2, al, hn, hd, q⟩
theorem x_test {R : Bool → Hp → Prop} (q : te σ H fun x H' => ∃ k, x = .bl k ∧ R k H') : tTest te σ H R := q
theorem x_tB {R : Bool → Hp → Prop} (q : te σ H fun x H' => ∃ k, x = .bl k ∧ R k H') : tB te σ H R := q
theorem x_bl {R : Bool → Prop} (q : R b) : ∃ k, V.bl b = .bl k ∧ R k := ⟨b, rfl, q⟩
theorem x_seq (q : t { D with nx := u D } σ H) : tSeq t u D σ H := q
theorem x_asg {g : TG} (q : te σ H fun x H1 => g x σ H1 D.nx) : tAsg te g D σ H := q
theorem x_gname {n : Nat} {R : L2.St → Hp → Prop} (q : R (σ.set n (some v)) H) : gName n v σ H R := q
theorem x_ret (q : te σ H D.rt) : tRet te D σ H := q
theorem x_retN (q : D.rt .non H) : tRetN D σ H := q
theorem x_next (q : D.nx σ H) : tNext D σ H := q
theorem x_brk (q : D.bk σ H) : tBreak D σ H := q
theorem x_cont (q : D.ct σ H) : tCont D σ H := q
theorem x_drop (q : te σ H fun _ H1 => D.nx σ H1) : tDrop te D σ H := q
theorem x_if (q : tt σ H fun b H1 => if b = true then t D σ H1 else u D σ H1) : tIfS tt t u D σ H := q
theorem x_ife (q : tt σ H fun c H1 => if c = true then ta σ H1 Q else tb σ H1 Q) : tIf tt ta tb σ H Q := q
theorem x_and {R : Bool → Hp → Prop} (q : tt σ H fun c H1 => if c = true then uu σ H1 R else R false H1) : tAnd tt uu σ H R := q
theorem x_or {R : Bool → Hp → Prop} (q : tt σ H fun c H1 => if c = true then R true H1 else uu σ H1 R) : tOr tt uu σ H R := q
theorem x_not {R : Bool → Hp → Prop} (q : tt σ H fun c H1 => R (!c) H1) : tNot tt σ H R := q
theorem x_andV (q : ta σ H fun x H1 => ∃ c, x = .bl c ∧ if c = true then tb σ H1 Q else Q (.bl false) H1) : tAndV ta tb σ H Q := q
theorem x_orV (q : ta σ H fun x H1 => ∃ c, x = .bl c ∧ if c = true then Q (.bl true) H1 else tb σ H1 Q) : tOrV ta tb σ H Q := q
theorem x_notV (q : ta σ H fun x H1 => ∃ c, x = .bl c ∧ Q (.bl (!c)) H1) : tNotV ta σ H Q := q
theorem x_nil {R : List V → Hp → Prop} (q : R [] H) : tNil σ H R := q
theorem x_cons {tr : TA} {R : List V → Hp → Prop} (q : ta σ H fun x H1 => tr σ H1 fun xs H2 => R (x :: xs) H2) : tCons ta tr σ H R := q
theorem x_tup {tr : TA} (q : tr σ H fun xs H1 => xs.length ≤ sizeLine ∧ ∀ p, Fresh H1 p → Q (.ref p) (upd H1 p (.tup xs))) : tTup tr σ H Q := q
theorem x_lst {tr : TA} (q : tr σ H fun xs H1 => xs.length ≤ sizeLine ∧ ∀ p, Fresh H1 p → Q (.ref p) (upd H1 p (.lst xs))) : tLst tr σ H Q := q
theorem x_cal {sp : Sp} {E : XK} {tr : TA} (q : tr σ H fun vs H1 => sp vs H1 Q E) : tCal sp E tr σ H Q := q
theorem x_cb {r : List V → Hp → VK → Prop} {tr : TA} (q : tr σ H fun vs H1 => r vs H1 Q) : tCB r tr σ H Q := q
theorem x_sp1 {B : BK1} {E : XK} {a : V} (q : B a H Q E) : Sp1 B [a] H Q E := ⟨a, rfl, q⟩
theorem x_sp2 {B : BK2} {E : XK} {a b : V} (q : B a b H Q E) : Sp2 B [a, b] H Q E := ⟨a, b, rfl, q⟩
theorem x_sp3 {B : BK3} {E : XK} {a b c : V} (q : B a b c H Q E) : Sp3 B [a, b, c] H Q E := ⟨a, b, c, rfl, q⟩
theorem x_sp4 {B : BK4} {E : XK} {a b c d : V} (q : B a b c d H Q E) : Sp4 B [a, b, c, d] H Q E := ⟨a, b, c, d, rfl, q⟩
theorem x_sz {xs : List V} {P : Prop} (h : xs.length ≤ 1000) (q : P) : xs.length ≤ sizeLine ∧ P := ⟨Nat.le_trans h (by decide), q⟩
theorem x_ixL {p : Addr} {xs : List V} (h : SqL K H p xs) (ha : atI xs i = some v) (q : Q v H) : rIxL K (.ref p) (.int i) H Q := ⟨p, xs, i, v, rfl, rfl, h, ha, q⟩
theorem x_ixT {p : Addr} {xs : List V} (h : SqT K H p xs) (ha : atI xs i = some v) (q : Q v H) : rIxT K (.ref p) (.int i) H Q := ⟨p, xs, i, v, rfl, rfl, h, ha, q⟩
theorem x_ixS {z : Str} {c : Nat} (h : z.length ≤ sizeLine) (ha : atI z.cps.toList i = some c) (q : Q (.str ⟨#[c]⟩) H) : rIxS (.str z) (.int i) H Q := ⟨z, i, c, rfl, rfl, h, ha, q⟩
theorem x_gsub {to ti : TE} {s : TSet} {R : L2.St → Hp → Prop} (q : to σ H fun o H1 => ti σ H1 fun i H2 => s o i v H2 fun H3 => R σ H3) : gSub to ti s v σ H R := q
theorem x_setL {p : Addr} {xs : List V} {n : Nat} {R : Hp → Prop} (h : H p = some (.lst xs)) (hj : ixN xs.length i = some n) (q : R (upd H p (.lst (xs.set n v)))) : rSetL (.ref p) (.int i) v H R := ⟨p, xs, i, n, rfl, rfl, h, hj, q⟩
theorem x_gtup {p : Addr} {xs : List V} {n : Nat} {s : TGs} {R : L2.St → Hp → Prop} (h : SqT K H p xs) (hn : xs.length = n) (q : s xs σ H R) : gTup K n s (.ref p) σ H R := ⟨p, xs, rfl, h, hn, q⟩
theorem x_gcons {g : TG} {s : TGs} {vs : List V} {R : L2.St → Hp → Prop} (q : g v σ H fun σ' H' => s vs σ' H' R) : gCons g s (v :: vs) σ H R := ⟨v, vs, rfl, q⟩
theorem x_gnil {R : L2.St → Hp → Prop} (q : R σ H) : gNil [] σ H R := ⟨rfl, q⟩
theorem x_len {p : Addr} {xs : List V} (h : SqL K H p xs ∨ SqT K H p xs) (q : Q (.int xs.length) H) : rLen K [.ref p] H Q := ⟨p, xs, rfl, h, q⟩
theorem x_lenZ {z : Str} (h : z.length ≤ sizeLine) (q : Q (.int z.length) H) : rLenZ [.str z] H Q := ⟨z, rfl, h, q⟩
theorem x_lenD {p : Addr} {kvs : List (Key × V)} (h : H p = some (.dK kvs)) (q : Q (.int kvs.length) H) : rLenD [.ref p] H Q := ⟨p, kvs, rfl, h, q⟩
theorem x_abs (q : Q (.int (if i < 0 then -i else i)) H) : rAbs [.int i] H Q := ⟨i, rfl, q⟩
theorem x_max2 (q : Q (.int (if j > i then j else i)) H) : rMx2 [.int i, .int j] H Q := ⟨i, j, rfl, q⟩
theorem x_min2 (q : Q (.int (if j < i then j else i)) H) : rMn2 [.int i, .int j] H Q := ⟨i, j, rfl, q⟩
theorem x_intI (q : Q (.int i) H) : rInt1 [.int i] H Q := .inl ⟨i, rfl, q⟩
theorem x_intB (q : Q (.int (if b then 1 else 0)) H) : rInt1 [.bl b] H Q := .inr ⟨b, rfl, q⟩
theorem x_strI (h : i.natAbs.log2 < 1920) (q : Q (.str (toString i)) H) : rStrI [.int i] H Q := ⟨i, rfl, h, q⟩
theorem x_listOf {p : Addr} {xs : List V} (h : SqL K H p xs ∨ SqT K H p xs) (q : ∀ l, Fresh H l → Q (.ref l) (upd H l (.lst xs))) : rListOf K [.ref p] H Q := ⟨p, xs, rfl, h, q⟩
theorem x_tupL {p : Addr} {xs : List V} (h : SqL K H p xs) (q : ∀ l, Fresh H l → Q (.ref l) (upd H l (.tup xs))) : rTupOf K [.ref p] H Q := ⟨p, xs, rfl, .inl ⟨h, q⟩⟩
theorem x_addS {z w : Str} (h : z.length + w.length ≤ sizeLine) (q : Q (.str (z ++ w)) H) : rAddS (.str z) (.str w) H Q := ⟨z, w, rfl, rfl, h, q⟩
theorem x_ltS {z w : Str} (q : Q (.bl (decide (z.cps.toList < w.cps.toList))) H) : rLtS (.str z) (.str w) H Q := ⟨z, w, rfl, rfl, q⟩
theorem x_leS {z w : Str} (q : Q (.bl (!decide (w.cps.toList < z.cps.toList))) H) : rLeS (.str z) (.str w) H Q := ⟨z, w, rfl, rfl, q⟩
theorem x_isN (q : Q (.bl (decide (x = .non))) H) : rIsN x .non H Q := ⟨rfl, q⟩
theorem x_notN (q : Q (.bl (!decide (x = .non))) H) : rNotN x .non H Q := ⟨rfl, q⟩
theorem x_isi {a b : String} {r : Bool} (h : TyX K H x (.type a)) (k : kitB a b = some r) (q : Q (.bl r) H) : rIsi K [x, .ty b] H Q := ⟨x, .ty b, .type a, .type b, r, rfl, .ty b, h, kit_ty k, q⟩
theorem x_rng1 {R : It → Hp → Prop} {tr : TA} (q : tr σ H fun vs H1 => ∃ j : Int, vs = [.int j] ∧ -(2 ^ 62) ≤ j ∧ j < 2 ^ 62 ∧ R (Itr 0 j.toNat) H1) : iRng1 tr σ H R := q
theorem x_rng1' {R : Int → Prop} (h : -(2 ^ 62) ≤ i ∧ i < 2 ^ 62) (q : R i) : ∃ j : Int, [V.int i] = [.int j] ∧ -(2 ^ 62) ≤ j ∧ j < 2 ^ 62 ∧ R j := ⟨i, rfl, h.1, h.2, q⟩
theorem x_rng2 {R : It → Hp → Prop} {tr : TA} (q : tr σ H fun vs H1 => ∃ i j : Int, vs = [.int i, .int j] ∧ (-(2 ^ 62) ≤ i ∧ i < 2 ^ 62 ∧ -(2 ^ 62) ≤ j ∧ j < 2 ^ 62) ∧ R (Itr i (j - i).toNat) H1) : iRng2 tr σ H R := q
theorem x_iList {R : It → Hp → Prop} (q : te σ H fun x H1 => ∃ a, x = .ref a ∧ (∃ xs, SqL K H1 a xs) ∧ R (Itl K a) H1) : iList K te σ H R := q
theorem x_iTup {R : It → Hp → Prop} (q : te σ H fun x H1 => ∃ a, x = .ref a ∧ (∃ xs, SqT K H1 a xs) ∧ R (Itt K a) H1) : iTup K te σ H R := q
theorem x_iRef {p : Addr} {C : Addr → Prop} {R : Addr → Prop} (h : C p) (q : R p) : ∃ a, V.ref p = .ref a ∧ C a ∧ R a := ⟨p, rfl, h, q⟩
theorem x_sl {r : V → Option Int → Option Int → Hp → VK → Prop} {tl th : TO} (q : te σ H fun x H1 => tl σ H1 fun l H2 => th σ H2 fun u H3 => r x l u H3 Q) : tSl r te tl th σ H Q := q
theorem x_noP {R : Option Int → Hp → Prop} (q : R none H) : tNoPart σ H R := q
theorem x_part {R : Option Int → Hp → Prop} (q : te σ H fun x H1 => ∃ i, x = .int i ∧ R (some i) H1) : tPart te σ H R := q
theorem x_int {R : Int → Prop} (q : R i) : ∃ k, V.int i = .int k ∧ R k := ⟨i, rfl, q⟩
theorem x_slL {p : Addr} {xs : List V} {lo hi : Option Int} (h : SqL K H p xs) (q : ∀ l, Fresh H l → Q (.ref l) (upd H l (.lst (cutV xs lo hi)))) : rSlL K (.ref p) lo hi H Q := ⟨p, xs, rfl, h, q⟩
theorem x_bm {T : String} {r : V → List V → Hp → VK → Prop} {tr : TA} (q : te σ H fun x H1 => tyV K T x H1 ∧ tr σ H1 fun xs H2 => r x xs H2 Q) : tBM K T r te tr σ H Q := q
theorem x_bm0 {T : String} {r : V → List V → Hp → VK → Prop} (q : te σ H fun x H1 => tyV K T x H1 ∧ r x [] H1 Q) : tBM0 K T r te σ H Q := q
theorem x_append {p : Addr} {xs : List V} (h : H p = some (.lst xs)) (hs : xs.length ≤ 100000) (q : Q .non (upd H p (.lst (xs ++ [y])))) : rAppend (.ref p) [y] H Q := ⟨p, xs, y, rfl, rfl, h, Nat.lt_of_le_of_lt hs (by decide), q⟩
theorem x_cat {p r : Addr} {xs zs : List V} (h : H p = some (.lst xs)) (k : H r = some (.lst zs)) (hs : xs.length + zs.length ≤ 100000) (q : ∀ l, Fresh H l → Q (.ref l) (upd H l (.lst (xs ++ zs)))) : rCat (.ref p) (.ref r) H Q := ⟨p, r, xs, zs, rfl, rfl, h, k, Nat.le_trans hs (by decide), q⟩
theorem x_all {p : Addr} {bs : List Bool} (h : SqL K H p (bs.map V.bl)) (q : Q (.bl (bs.all id)) H) : rAll K [.ref p] H Q := ⟨p, bs, rfl, h, q⟩
/-- a for's turns -/
def ForG (J : It) (g : TG) (tb : TS) (D : Ends) (σ : L2.St) (H1 : Hp) : Prop := ∃ W : Nat → Nat → L2.St → Hp → Prop, (∃ m, W 0 m σ H1) ∧ ∀ i m σ H, W i m σ H →
  (J.stop i H ∧ D.nx σ H) ∨ (J.go i H ∧ ∃ N : L2.St → Hp → Prop, (∀ σ' H', N σ' H' → ∃ m', m' < m ∧ W (i + 1) m' σ' H') ∧ ∀ x H', J.yld i H x H' → g x σ H' fun σ2 H2 => tb { D with nx := N, ct := N, bk := D.nx } σ2 H2)
theorem x_for {wi : TI} {g : TG} {tb : TS} (q : wi σ H fun J H1 => ForG J g tb D σ H1) : tFor wi g tb D σ H := q
theorem x_forR {lo : Int} {n : Nat} {g : TG} {tb : TS} (Pv : Nat → L2.St → Hp → Prop) (h0 : Pv 0 σ H)
    (hs : ∀ i σ H, i < n → Pv i σ H → g (.int (lo + i)) σ H fun σ2 H2 => tb { D with nx := Pv (i + 1), ct := Pv (i + 1), bk := D.nx } σ2 H2) (hd : ∀ σ H, Pv n σ H → D.nx σ H) : ForG (Itr lo n) g tb D σ H := for_range Pv h0 hs hd
theorem x_forL {a : Addr} (xs : List V) {g : TG} {tb : TS} (Pv : Nat → L2.St → Hp → Prop) (h0 : Pv 0 σ H) (hl : ∀ i σ H, i ≤ xs.length → Pv i σ H → SqL K H a xs)
    (hs : ∀ i x σ H, xs[i]? = some x → Pv i σ H → g x σ H fun σ2 H2 => tb { D with nx := Pv (i + 1), ct := Pv (i + 1), bk := D.nx } σ2 H2) (hd : ∀ σ H, Pv xs.length σ H → D.nx σ H) : ForG (Itl K a) g tb D σ H := for_list Pv h0 hl hs hd
theorem x_forT {a : Addr} (xs : List V) {g : TG} {tb : TS} (Pv : Nat → L2.St → Hp → Prop) (h0 : Pv 0 σ H) (hl : ∀ i σ H, i ≤ xs.length → Pv i σ H → SqT K H a xs)
    (hs : ∀ i x σ H, xs[i]? = some x → Pv i σ H → g x σ H fun σ2 H2 => tb { D with nx := Pv (i + 1), ct := Pv (i + 1), bk := D.nx } σ2 H2) (hd : ∀ σ H, Pv xs.length σ H → D.nx σ H) : ForG (Itt K a) g tb D σ H := for_tup Pv h0 hl hs hd
/-- a list comprehension's turns -/
def LcG (J : It) (g : TG) (tt : TT) (te : TE) (vs : List Nat) (σ : L2.St) (H1 : Hp) (D : Addr) (Q : Hp → Prop) : Prop := ∃ W : Nat → Nat → Hp → Prop, (∃ m, W 0 m (upd H1 D (.lst []))) ∧ ∀ i m H, W i m H →
  (J.stop i H ∧ Q H) ∨ (J.go i H ∧ ∃ Nx : Hp → Prop, (∀ H', Nx H' → ∃ m', m' < m ∧ W (i + 1) m' H') ∧ ∀ x H', J.yld i H x H' → g x (wipe σ vs) H' fun σ2 H2 => wipe σ2 vs = wipe σ vs ∧ tt σ2 H2 fun b H3 =>
    if b = true then te σ2 H3 fun y H4 => ∃ acc, H4 D = some (.lst acc) ∧ acc.length < sizeLine ∧ Nx (upd H4 D (.lst (acc ++ [y]))) else Nx H3)
theorem x_lc {wi : TI} {g : TG} {vs : List Nat} (q : wi σ H fun J H1 => ∀ D, Fresh H1 D → LcG J g tt te vs σ H1 D fun H => Q (.ref D) H) : tLc wi g tt te vs σ H Q := q
/-- one turn -/
def LcT (g : TG) (tt : TT) (te : TE) (vs : List Nat) (σ : L2.St) (D : Addr) (x : V) (Nx : Hp → Prop) (H : Hp) : Prop := g x (wipe σ vs) H fun σ2 H2 => wipe σ2 vs = wipe σ vs ∧ tt σ2 H2 fun b H3 =>
    if b = true then te σ2 H3 fun y H4 => ∃ acc, H4 D = some (.lst acc) ∧ acc.length < sizeLine ∧ Nx (upd H4 D (.lst (acc ++ [y]))) else Nx H3
theorem x_lcR {lo : Int} {n : Nat} {g : TG} {vs : List Nat} {DD : Addr} {Qd : Hp → Prop} (Pv : Nat → Hp → Prop) (h0 : Pv 0 (upd H DD (.lst [])))
    (hs : ∀ i H, i < n → Pv i H → LcT g tt te vs σ DD (.int (lo + i)) (Pv (i + 1)) H) (hd : ∀ H, Pv n H → Qd H) : LcG (Itr lo n) g tt te vs σ H DD Qd := lc_range Pv h0 hs hd
theorem x_lcL {a : Addr} (xs : List V) {g : TG} {vs : List Nat} {DD : Addr} {Qd : Hp → Prop} (Pv : Nat → Hp → Prop) (h0 : Pv 0 (upd H DD (.lst []))) (hl : ∀ i H, i ≤ xs.length → Pv i H → SqL K H a xs)
    (hs : ∀ i x H, xs[i]? = some x → Pv i H → LcT g tt te vs σ DD x (Pv (i + 1)) H) (hd : ∀ H, Pv xs.length H → Qd H) : LcG (Itl K a) g tt te vs σ H DD Qd := lc_list Pv h0 hl hs hd
theorem x_lcT {a : Addr} (xs : List V) {g : TG} {vs : List Nat} {DD : Addr} {Qd : Hp → Prop} (Pv : Nat → Hp → Prop) (h0 : Pv 0 (upd H DD (.lst []))) (hl : ∀ i H, i ≤ xs.length → Pv i H → SqT K H a xs)
    (hs : ∀ i x H, xs[i]? = some x → Pv i H → LcT g tt te vs σ DD x (Pv (i + 1)) H) (hd : ∀ H, Pv xs.length H → Qd H) : LcG (Itt K a) g tt te vs σ H DD Qd := lc_tup Pv h0 hl hs hd
theorem x_lct {g : TG} {vs : List Nat} {DD : Addr} {Nx : Hp → Prop} (q : g v (wipe σ vs) H fun σ2 H2 => wipe σ2 vs = wipe σ vs ∧ tt σ2 H2 fun b H3 =>
    if b = true then te σ2 H3 fun y H4 => ∃ acc, H4 DD = some (.lst acc) ∧ acc.length < sizeLine ∧ Nx (upd H4 DD (.lst (acc ++ [y]))) else Nx H3) : LcT g tt te vs σ DD v Nx H := q
theorem x_wip {a b : L2.St} {B : Prop} (h : a = b) (q : B) : a = b ∧ B := ⟨h, q⟩
theorem x_tyes {R : Bool → Hp → Prop} (q : R true H) : tYes σ H R := q
theorem x_acc {DD : Addr} {acc : List V} {R : List V → Prop} (h : H DD = some (.lst acc)) (hs : acc.length ≤ 100000) (q : R acc) : ∃ acc, H DD = some (.lst acc) ∧ acc.length < sizeLine ∧ R acc := ⟨acc, h, Nat.lt_of_le_of_lt hs (by decide), q⟩
theorem x_while {W : Nat → L2.St → Hp → Prop} {tb : TS} (m : Nat) (h0 : W m σ H) (hs : ∀ m σ H, W m σ H → tt σ H fun c H1 => if c = true then ∃ N : L2.St → Hp → Prop, (∀ σ' H', N σ' H' → ∃ m', m' < m ∧ W m' σ' H') ∧ tb { D with nx := N, ct := N, bk := D.nx } σ H1 else D.nx σ H1) : tWhile tt tb D σ H := ⟨W, ⟨m, h0⟩, hs⟩
theorem x_yes {c : Bool} {A B : Prop} (hc : c = true) (q : A) : if c = true then A else B := by rw [if_pos hc]; exact q
theorem x_no {c : Bool} {A B : Prop} (hc : c = false) (q : B) : if c = true then A else B := by rw [hc, if_neg Bool.false_ne_true]; exact q
theorem x_iteT {A B : Prop} (q : A) : if true = true then A else B := by rw [if_pos rfl]; exact q
theorem x_iteF {A B : Prop} (q : B) : if false = true then A else B := by rw [if_neg Bool.false_ne_true]; exact q
theorem x_bool {c : Bool} {A B : Prop} (h1 : c = true → A) (h2 : c = false → B) : if c = true then A else B := by
  cases c with
  | true => exact x_iteT (h1 rfl)
  | false => exact x_iteF (h2 rfl)
theorem x_dec {p : Prop} [Decidable p] {A B : Prop} (h1 : p → A) (h2 : ¬ p → B) : if decide p = true then A else B := x_bool (fun e => h1 (of_decide_eq_true e)) (fun e => h2 (of_decide_eq_false e))
theorem x_ndec {p : Prop} [Decidable p] {A B : Prop} (h1 : ¬ p → A) (h2 : p → B) : if (!decide p) = true then A else B := x_bool (fun e => h1 (of_decide_eq_false (by simpa using e))) (fun e => h2 (of_decide_eq_true (by simpa using e)))
end
theorem kit_NoneType_bool : kitB "NoneType" "bool" = some false := by decide +kernel
theorem kit_NoneType_int : kitB "NoneType" "int" = some false := by decide +kernel
theorem kit_NoneType_str : kitB "NoneType" "str" = some false := by decide +kernel
theorem kit_NoneType_list : kitB "NoneType" "list" = some false := by decide +kernel
theorem kit_NoneType_tuple : kitB "NoneType" "tuple" = some false := by decide +kernel
theorem kit_NoneType_dict : kitB "NoneType" "dict" = some false := by decide +kernel
theorem kit_bool_bool : kitB "bool" "bool" = some true := by decide +kernel
theorem kit_bool_int : kitB "bool" "int" = some true := by decide +kernel
theorem kit_bool_str : kitB "bool" "str" = some false := by decide +kernel
theorem kit_bool_list : kitB "bool" "list" = some false := by decide +kernel
theorem kit_bool_tuple : kitB "bool" "tuple" = some false := by decide +kernel
theorem kit_bool_dict : kitB "bool" "dict" = some false := by decide +kernel
theorem kit_int_bool : kitB "int" "bool" = some false := by decide +kernel
theorem kit_int_int : kitB "int" "int" = some true := by decide +kernel
theorem kit_int_str : kitB "int" "str" = some false := by decide +kernel
theorem kit_int_list : kitB "int" "list" = some false := by decide +kernel
theorem kit_int_tuple : kitB "int" "tuple" = some false := by decide +kernel
theorem kit_int_dict : kitB "int" "dict" = some false := by decide +kernel
theorem kit_str_bool : kitB "str" "bool" = some false := by decide +kernel
theorem kit_str_int : kitB "str" "int" = some false := by decide +kernel
theorem kit_str_str : kitB "str" "str" = some true := by decide +kernel
theorem kit_str_list : kitB "str" "list" = some false := by decide +kernel
theorem kit_str_tuple : kitB "str" "tuple" = some false := by decide +kernel
theorem kit_str_dict : kitB "str" "dict" = some false := by decide +kernel
theorem kit_list_bool : kitB "list" "bool" = some false := by decide +kernel
theorem kit_list_int : kitB "list" "int" = some false := by decide +kernel
theorem kit_list_str : kitB "list" "str" = some false := by decide +kernel
theorem kit_list_list : kitB "list" "list" = some true := by decide +kernel
theorem kit_list_tuple : kitB "list" "tuple" = some false := by decide +kernel
theorem kit_list_dict : kitB "list" "dict" = some false := by decide +kernel
theorem kit_tuple_bool : kitB "tuple" "bool" = some false := by decide +kernel
theorem kit_tuple_int : kitB "tuple" "int" = some false := by decide +kernel
theorem kit_tuple_str : kitB "tuple" "str" = some false := by decide +kernel
theorem kit_tuple_list : kitB "tuple" "list" = some false := by decide +kernel
theorem kit_tuple_tuple : kitB "tuple" "tuple" = some true := by decide +kernel
theorem kit_tuple_dict : kitB "tuple" "dict" = some false := by decide +kernel
theorem kit_dict_bool : kitB "dict" "bool" = some false := by decide +kernel
theorem kit_dict_int : kitB "dict" "int" = some false := by decide +kernel
theorem kit_dict_str : kitB "dict" "str" = some false := by decide +kernel
theorem kit_dict_list : kitB "dict" "list" = some false := by decide +kernel
theorem kit_dict_tuple : kitB "dict" "tuple" = some false := by decide +kernel
theorem kit_dict_dict : kitB "dict" "dict" = some true := by decide +kernel
end Tw

/-! TwB: what the laws draw from; keys. -/
namespace Tw
open PySem PySem.Spec PyProof.Rows L2
/-- a well: a list of four ints, the first one a rest -/
def Well (H : Hp) (p : Addr) : Prop := ∃ c n g l : Int, H p = some (.lst [.int c, .int n, .int g, .int l]) ∧ 0 ≤ c ∧ c < 2147483647
theorem Well.fr {S : Addr → Prop} {H H1 : Hp} {p : Addr} (h : Well H p) (f : Fr S H H1) (n : ¬ S p) : Well H1 p := by
  obtain ⟨c, m, g, l, e, r⟩ := h
  exact ⟨c, m, g, l, f.keep _ _ e n, r⟩
theorem Well.some {H : Hp} {p : Addr} (h : Well H p) : ∃ xs, H p = some (.lst xs) := by
  obtain ⟨c, m, g, l, e, r⟩ := h
  exact ⟨_, e⟩
theorem Well.ne {H : Hp} {p l : Addr} (h : Well H p) (n : Fresh H l) : l ≠ p := fun e => by
  obtain ⟨xs, q⟩ := h.some
  have n0 : H l = none := n
  rw [← e, n0] at q; cases q
/-- what may be drawn from -/
def PullOk (m : Int) : Prop := 0 < m ∧ m.natAbs.log2 < 9000
theorem PullOk.small {m : Int} (h : 0 < m) (h2 : m ≤ 9223372036854775808) : PullOk m := by
  refine ⟨h, Nat.lt_of_lt_of_le (PySem.Flt.log2_lt_of (show 0 < 64 by decide) ?_) (by decide)⟩
  have e : (2 : Nat) ^ 64 = 18446744073709551616 := by decide
  rw [e]; omega
/-- a text's first written constant -/
def strIn (s : Stmt) : Str := match defBody s with
  | (.Assign _ (.Constant (.str x) _ _) _) :: _ => x
  | _ => PySem.Str.empty

/-! ### keys as data -/
def numOk (i : Int) : Prop := -(10 ^ 60) < i ∧ i < 10 ^ 60
def txtOk (z : Str) : Prop := z.length ≤ 40 ∧ ∀ c ∈ z.cps.toList, 32 ≤ c ∧ c ≤ 126
/-- a key in which no more tuples than r lie within one another -/
def isK : Nat → PyData → Prop
  | _, .int i => numOk i
  | _, .str z => txtOk z
  | r + 1, .tuple ds => ds.length ≤ 4 ∧ ∀ d ∈ ds, isK r d
  | _, _ => False
theorem isK_int {r : Nat} {i : Int} : isK r (.int i) = numOk i := by cases r <;> rfl
theorem isK_str {r : Nat} {z : Str} : isK r (.str z) = txtOk z := by cases r <;> rfl
theorem isK_tup {r : Nat} {ds : List PyData} : isK (r + 1) (.tuple ds) = (ds.length ≤ 4 ∧ ∀ d ∈ ds, isK r d) := rfl
theorem str_len (z : Str) : z.length = z.cps.toList.length := by simp [PySem.Str.length]
theorem str_app (a b : Str) : (a ++ b).cps.toList = a.cps.toList ++ b.cps.toList := by simp [PySem.Str.cps_append]
theorem txt_app {z : Str} {c n : Nat} (h : z.length ≤ n) (hz : ∀ d ∈ z.cps.toList, 32 ≤ d ∧ d ≤ 126) (hc : 32 ≤ c ∧ c ≤ 126) : (z ++ (⟨#[c]⟩ : Str)).length ≤ n + 1 ∧ ∀ d ∈ (z ++ (⟨#[c]⟩ : Str)).cps.toList, 32 ≤ d ∧ d ≤ 126 := by
  refine ⟨?_, fun d hd => ?_⟩
  · rw [PySem.Str.length_append]
    have : (⟨#[c]⟩ : Str).length = 1 := rfl
    omega
  · rw [str_app] at hd
    rcases List.mem_append.mp hd with hd | hd
    · exact hz d hd
    · have e : d = c := by simpa using hd
      subst e; exact hc
end Tw

/-! TwC: readings for values of several kinds; the order of keys. -/
namespace Tw
open PySem PySem.Spec PyProof.Rows L2
section
variable {X : Cx}
/-- len of a list, a tuple or a text -/
def rLenA (K : PySem.W.Frag) : List V → Hp → VK → Prop := fun xs H Q => rLen K xs H Q ∨ rLenZ xs H Q
theorem c_lenA : CallR X (.builtin "len") (rLenA X.K) := CallR.or c_len c_lenZ
/-- + of two texts or two tuples -/
def rAddT (K : PySem.W.Frag) : R2 := fun x y H Q => rAddS x y H Q ∨ rCatA K x y H Q
theorem o_addT : OpR X (binaryOp .Add) (rAddT X.K) := OpR.or o_addS op_catA
def rGtS : R2 := fun x y H Q => ∃ i j, x = .str i ∧ y = .str j ∧ Q (.bl (decide (j.cps.toList < i.cps.toList))) H
theorem o_gtS : OpR X (compareOp .Gt) rGtS := op_gt_str
def rGeS : R2 := fun x y H Q => ∃ i j, x = .str i ∧ y = .str j ∧ Q (.bl (!decide (i.cps.toList < j.cps.toList))) H
theorem o_geS : OpR X (compareOp .GtE) rGeS := op_ge_str
theorem u65 {k : Nat} {A : Around} (hr : Room k A) : A.units + 65 < cLine := by have := hr.un; omega
/-- a part of a list, a tuple or a text -/
def rSlX (K : PySem.W.Frag) : V → Option Int → Option Int → Hp → VK → Prop := fun x lo hi H Q => rSlL K x lo hi H Q ∨ (rSlA K x lo hi H Q ∨ rSlS x lo hi H Q)
theorem sl_any : SlR X (rSlX X.K) := SlR.or sl_list (SlR.or sl_tupA sl_str)
end
section
variable {K : PySem.W.Frag} {H : Hp} {Q : VK} {x y v : V} {i j : Int}
theorem x_chain {σ : L2.St} {ta tb tc : TE} {r r' : R2} (q : ta σ H fun x H1 => tb σ H1 fun y H2 => r x y H2 fun z H3 => ∃ k, z = .bl k ∧ (if k = true then tc σ H3 fun w' H4 => r' y w' H4 Q else Q (.bl false) H3)) : tChain r r' ta tb tc σ H Q := q
theorem x_gtS {z w : Str} (q : Q (.bl (decide (w.cps.toList < z.cps.toList))) H) : rGtS (.str z) (.str w) H Q := ⟨z, w, rfl, rfl, q⟩
theorem x_geS {z w : Str} (q : Q (.bl (!decide (z.cps.toList < w.cps.toList))) H) : rGeS (.str z) (.str w) H Q := ⟨z, w, rfl, rfl, q⟩
theorem x_inD {d : PyData} {ds : List PyData} (h1 : Dp K H x d) (h2 : Dp K H y (.list ds)) (s1 : SeqAt.shaped d = true) (s2 : SeqAt.shaped (.list ds) = true) (q : Q (.bl (ds.any fun z => PyData.eqv z d)) H) : rInD K x y H Q := ⟨d, ds, h1, h2, s1, s2, q⟩
theorem x_notInD {d : PyData} {ds : List PyData} (h1 : Dp K H x d) (h2 : Dp K H y (.list ds)) (s1 : SeqAt.shaped d = true) (s2 : SeqAt.shaped (.list ds) = true) (q : Q (.bl (!ds.any fun z => PyData.eqv z d)) H) : rNotInD K x y H Q := ⟨d, ds, h1, h2, s1, s2, q⟩
theorem x_isiI {b : String} {r : Bool} (k : kitB "int" b = some r) (q : Q (.bl r) H) : rIsi K [.int i, .ty b] H Q := x_isi (.base (.int i)) k q
theorem x_isiB {c : Bool} {b : String} {r : Bool} (k : kitB "bool" b = some r) (q : Q (.bl r) H) : rIsi K [.bl c, .ty b] H Q := x_isi (.base (.bl c)) k q
theorem x_isiS {c : Str} {b : String} {r : Bool} (k : kitB "str" b = some r) (q : Q (.bl r) H) : rIsi K [.str c, .ty b] H Q := x_isi (.base (.str c)) k q
theorem x_isiN {b : String} {r : Bool} (k : kitB "NoneType" b = some r) (q : Q (.bl r) H) : rIsi K [.non, .ty b] H Q := x_isi (.base .non) k q
theorem x_isiT {p : Addr} {xs : List V} {b : String} {r : Bool} (h : H p = some (.tup xs)) (k : kitB "tuple" b = some r) (q : Q (.bl r) H) : rIsi K [.ref p, .ty b] H Q := x_isi (.base (.tup h)) k q
theorem x_isiL {p : Addr} {xs : List V} {b : String} {r : Bool} (h : H p = some (.lst xs)) (k : kitB "list" b = some r) (q : Q (.bl r) H) : rIsi K [.ref p, .ty b] H Q := x_isi (.base (.lst h)) k q
theorem x_isiD {p : Addr} {xs : List (Key × V)} {b : String} {r : Bool} (h : H p = some (.dK xs)) (k : kitB "dict" b = some r) (q : Q (.bl r) H) : rIsi K [.ref p, .ty b] H Q := x_isi (.base (.dK h)) k q
theorem x_tyL {p : Addr} {xs : List V} {B : Prop} (h : SqL K H p xs) (q : B) : tyV K "list" (.ref p) H ∧ B := ⟨.inl ⟨rfl, xs, h⟩, q⟩
theorem x_tyS {z : Str} {B : Prop} (q : B) : tyV K "str" (.str z) H ∧ B := ⟨rfl, q⟩
theorem x_tyD {p : Addr} {kvs : List (Key × V)} {B : Prop} (h : H p = some (.dK kvs)) (q : B) : tyV K "dict" (.ref p) H ∧ B := ⟨.inr (.inr (.inl ⟨rfl, .inl ⟨kvs, h⟩⟩)), q⟩
theorem x_lenAs {p : Addr} {xs : List V} (h : SqL K H p xs ∨ SqT K H p xs) (q : Q (.int xs.length) H) : rLenA K [.ref p] H Q := .inl ⟨p, xs, rfl, h, q⟩
theorem x_lenAz {z : Str} (h : z.length ≤ sizeLine) (q : Q (.int z.length) H) : rLenA K [.str z] H Q := .inr ⟨z, rfl, h, q⟩
theorem x_addTz {z w : Str} (h : z.length + w.length ≤ sizeLine) (q : Q (.str (z ++ w)) H) : rAddT K (.str z) (.str w) H Q := .inl ⟨z, w, rfl, rfl, h, q⟩
/-- + of tuples: where it stands, that is one tuple -/
theorem x_catA {a b : Addr} {xs ys : List V} (ha : SqT K H a xs) (hb : SqT K H b ys) (hz : xs.length + ys.length ≤ 100000)
    (q0 : xs = [] → Q (.ref b) H) (q1 : xs ≠ [] → ys = [] → Q (.ref a) H) (q2 : xs ≠ [] → ys ≠ [] → ∀ p, Fresh H p → Q (.ref p) (upd H p (.tup (xs ++ ys)))) : rCatA K (.ref a) (.ref b) H Q :=
  ⟨a, b, xs, ys, rfl, rfl, ha, hb, Nat.le_trans hz (by decide), q0, q1, q2⟩
theorem x_catD {a b : Addr} {xs ys : List V} {ds es : List PyData} (ha : H a = some (.tup xs)) (hb : H b = some (.tup ys)) (da : DtAll H xs ds) (db : DtAll H ys es) (hz : xs.length + ys.length ≤ 100000)
    (q : ∀ p H', Fr Non H H' → Dt H' (.ref p) (.tuple (ds ++ es)) → Q (.ref p) H') : rCatA K (.ref a) (.ref b) H Q := by
  refine x_catA (SqT.of ha) (SqT.of hb) hz (fun e => ?_) (fun _ e => ?_) (fun _ _ p n => ?_)
  · subst e; cases da; exact q b H (Fr.refl _) (.tup hb db)
  · subst e; cases db; rw [List.append_nil] at q; exact q a H (Fr.refl _) (.tup ha da)
  · exact q p _ (Fr.new (Fr.refl _) n) (.tup upd_same (DtAll.app (da.upd n) (db.upd n)))
theorem x_addTt (q : rCatA K x y H Q) : rAddT K x y H Q := .inr q
theorem x_slXz {z : Str} {lo hi : Option Int} (h : z.length ≤ sizeLine) (q : Q (.str (cutS z lo hi)) H) : rSlX K (.str z) lo hi H Q := .inr (.inr ⟨z, rfl, h, q⟩)
theorem x_slXt {lo hi : Option Int} (q : rSlA K x lo hi H Q) : rSlX K x lo hi H Q := .inr (.inl q)
theorem cutV_eq (xs : List V) (lo hi : Option Int) : cutV xs lo hi = (xs.drop (HT.sIx xs.length 0 lo)).take (HT.sIx xs.length xs.length hi - HT.sIx xs.length 0 lo) := rfl
theorem x_slD {a : Addr} {xs : List V} {ds : List PyData} {lo hi : Option Int} (ha : H a = some (.tup xs)) (da : DtAll H xs ds)
    (q : ∀ p H', Fr Non H H' → Dt H' (.ref p) (.tuple ((ds.drop (HT.sIx xs.length 0 lo)).take (HT.sIx xs.length xs.length hi - HT.sIx xs.length 0 lo))) → Q (.ref p) H') : rSlA K (.ref a) lo hi H Q := by
  refine ⟨a, xs, rfl, SqT.of ha, fun ⟨e1, e2⟩ => ?_, fun _ p n => ?_⟩
  · refine q a H (Fr.refl _) ?_
    rw [e1, e2, List.drop_zero, Nat.sub_zero, List.take_of_length_le (Nat.le_of_eq da.length.symm)]
    exact .tup ha da
  · exact q p _ (Fr.new (Fr.refl _) n) (.tup upd_same (by rw [cutV_eq]; exact ((da.drop _).take _).upd n))
theorem x_ixAt {p : Addr} {xs : List V} (h : SqT K H p xs) (ha : atI xs i = some v) (q : Q v H) : rIx K (.ref p) (.int i) H Q := .inr (.inl ⟨p, xs, i, v, rfl, rfl, h, ha, q⟩)
theorem x_ixAl {p : Addr} {xs : List V} (h : SqL K H p xs) (ha : atI xs i = some v) (q : Q v H) : rIx K (.ref p) (.int i) H Q := .inl ⟨p, xs, i, v, rfl, rfl, h, ha, q⟩
theorem x_ixAz {z : Str} {c : Nat} (h : z.length ≤ sizeLine) (ha : atI z.cps.toList i = some c) (q : Q (.str ⟨#[c]⟩) H) : rIx K (.str z) (.int i) H Q := .inr (.inr ⟨z, i, c, rfl, rfl, h, ha, q⟩)
end

/-! ### keys: depth, equality -/
theorem isK_cases {r : Nat} {d : PyData} (h : isK r d) : (∃ i, d = .int i ∧ numOk i) ∨ (∃ z, d = .str z ∧ txtOk z) ∨ ∃ r1 ds, r = r1 + 1 ∧ d = .tuple ds ∧ ds.length ≤ 4 ∧ ∀ e ∈ ds, isK r1 e := by
  cases d with
  | int i => rw [isK_int] at h; exact .inl ⟨i, rfl, h⟩
  | str z => rw [isK_str] at h; exact .inr (.inl ⟨z, rfl, h⟩)
  | tuple ds =>
    cases r with
    | zero => cases h
    | succ r1 => exact .inr (.inr ⟨r1, ds, rfl, rfl, h.1, h.2⟩)
  | none => cases r <;> cases h
  | bool => cases r <;> cases h
  | list => cases r <;> cases h
  | dict => cases r <;> cases h
theorem isK_up : ∀ {r : Nat} {d : PyData}, isK r d → isK (r + 1) d
  | r, d, h => by
    rcases isK_cases h with ⟨i, rfl, h3⟩ | ⟨z, rfl, h3⟩ | ⟨r1, ds, rfl, rfl, h1, h2⟩
    · rw [isK_int]; exact h3
    · rw [isK_str]; exact h3
    · rw [isK_tup]; exact ⟨h1, fun e he => isK_up (h2 e he)⟩
theorem isK_le {r s : Nat} (h : r ≤ s) {d : PyData} (k : isK r d) : isK s d := by
  obtain ⟨t, rfl⟩ : ∃ t, s = r + t := ⟨s - r, by omega⟩
  clear h
  induction t with
  | zero => exact k
  | succ t ih => exact isK_up ih
theorem depthAll_le {n : Nat} : ∀ {ds : List PyData}, (∀ d ∈ ds, d.depth ≤ n) → PyData.depthAll ds ≤ n
  | [], _ => Nat.zero_le _
  | d :: ds, h => by
    rw [PyData.depthAll]
    exact Nat.max_le.mpr ⟨h d (List.mem_cons_self ..), depthAll_le fun e he => h e (List.mem_cons_of_mem _ he)⟩
theorem isK_depth : ∀ {r : Nat} {d : PyData}, isK r d → d.depth ≤ r
  | r, d, h => by
    rcases isK_cases h with ⟨i, rfl, _⟩ | ⟨z, rfl, _⟩ | ⟨r1, ds, rfl, rfl, _, h2⟩
    · exact Nat.zero_le _
    · exact Nat.zero_le _
    · show PyData.depthAll ds + 1 ≤ r1 + 1
      exact Nat.succ_le_succ (depthAll_le fun e he => isK_depth (h2 e he))
theorem canLayAll0_of : ∀ {ds : List PyData}, (∀ d ∈ ds, d.canLay0 = true) → PyData.canLayAll0 ds = true
  | [], _ => rfl
  | d :: ds, h => by
    rw [PyData.canLayAll0, h d (List.mem_cons_self ..), canLayAll0_of fun e he => h e (List.mem_cons_of_mem _ he)]; rfl
theorem txt_strOk {z : Str} (h : ∀ c ∈ z.cps.toList, 32 ≤ c ∧ c ≤ 126) : PyData.strOk z = true := by
  unfold PyData.strOk
  rw [Array.all_eq_true_iff_forall_mem]
  intro c hc
  have := h c (Array.mem_toList_iff.mpr hc)
  exact decide_eq_true (by omega)
theorem isK_lay : ∀ {r : Nat} {d : PyData}, isK r d → d.canLay0 = true
  | r, d, h => by
    rcases isK_cases h with ⟨i, rfl, _⟩ | ⟨z, rfl, h3⟩ | ⟨r1, ds, rfl, rfl, _, h2⟩
    · rfl
    · exact txt_strOk h3.2
    · show PyData.canLayAll0 ds = true
      exact canLayAll0_of fun e he => isK_lay (h2 e he)
theorem isK_shaped {r : Nat} {d : PyData} (h : isK r d) (hr : r ≤ 60) : SeqAt.shaped d = true := by
  unfold SeqAt.shaped
  rw [isK_lay h, decide_eq_true (Nat.le_trans (isK_depth h) (by omega))]; rfl
theorem isK_ne {r : Nat} {d : PyData} (h : isK r d) : d ≠ .none := fun e => by subst e; cases r <;> cases h
theorem str_beq {x y : Str} : (x == y) = true ↔ x = y := by simp
mutual
theorem eqv_of_eq : ∀ {r : Nat} {d : PyData}, isK r d → PyData.eqv d d = true
  | r, d, h => by
    rcases isK_cases h with ⟨i, rfl, _⟩ | ⟨z, rfl, h⟩ | ⟨r1, ds, rfl, rfl, _, h2⟩
    · rw [PyData.eqv]; exact beq_self_eq_true _
    · rw [PyData.eqv]; exact beq_self_eq_true _
    · rw [PyData.eqv]; exact eqvAll_of_eq h2
theorem eqvAll_of_eq : ∀ {r : Nat} {ds : List PyData}, (∀ d ∈ ds, isK r d) → PyData.eqvAll ds ds = true
  | r, [], _ => rfl
  | r, d :: ds, h => by
    rw [PyData.eqvAll, eqv_of_eq (h d (List.mem_cons_self ..)), eqvAll_of_eq fun e he => h e (List.mem_cons_of_mem _ he)]; rfl
end
mutual
theorem eq_of_eqv : ∀ {r s : Nat} {d e : PyData}, isK r d → isK s e → PyData.eqv d e = true → d = e
  | r, s, d, e, h, k, q => by
    rcases isK_cases h with ⟨i, rfl, _⟩ | ⟨z, rfl, h⟩ | ⟨r1, ds, rfl, rfl, _, h2⟩
    · rcases isK_cases k with ⟨j, rfl, _⟩ | ⟨w, rfl, k⟩ | ⟨s1, es, rfl, rfl, _, k2⟩
      · rw [PyData.eqv] at q; rw [eq_of_beq q]
      · rw [PyData.eqv] at q; cases q
      · rw [PyData.eqv] at q; cases q
    · rcases isK_cases k with ⟨j, rfl, _⟩ | ⟨w, rfl, k⟩ | ⟨s1, es, rfl, rfl, _, k2⟩
      · rw [PyData.eqv] at q; cases q
      · rw [PyData.eqv] at q; rw [eq_of_beq q]
      · rw [PyData.eqv] at q; cases q
    · rcases isK_cases k with ⟨j, rfl, _⟩ | ⟨w, rfl, k⟩ | ⟨s1, es, rfl, rfl, _, k2⟩
      · rw [PyData.eqv] at q; cases q
      · rw [PyData.eqv] at q; cases q
      · rw [PyData.eqv] at q; rw [eqAll_of_eqv h2 k2 q]
theorem eqAll_of_eqv : ∀ {r s : Nat} {ds es : List PyData}, (∀ d ∈ ds, isK r d) → (∀ d ∈ es, isK s d) → PyData.eqvAll ds es = true → ds = es
  | r, s, [], [], _, _, _ => rfl
  | r, s, d :: ds, e :: es, h, k, q => by
    rw [PyData.eqvAll, Bool.and_eq_true] at q
    rw [eq_of_eqv (h d (List.mem_cons_self ..)) (k e (List.mem_cons_self ..)) q.1, eqAll_of_eqv (fun e he => h e (List.mem_cons_of_mem _ he)) (fun e he => k e (List.mem_cons_of_mem _ he)) q.2]
  | r, s, [], e :: es, _, _, q => by rw [PyData.eqvAll] at q; cases q
  | r, s, d :: ds, [], _, _, q => by rw [PyData.eqvAll] at q; cases q
end
theorem eqv_iff {r s : Nat} {d e : PyData} (h : isK r d) (k : isK s e) : PyData.eqv d e = true ↔ d = e :=
  ⟨eq_of_eqv h k, fun q => by subst q; exact eqv_of_eq h⟩

/-! ### the order -/
mutual
/-- what the program compares in a key's place -/
def rankD : PyData → PyData
  | .int i => .tuple [.int 0, .int i, .str "", .tuple []]
  | .str z => .tuple [.int 1, .int 0, .str z, .tuple []]
  | .tuple ds => .tuple [.int 2, .int 0, .str "", .tuple (rankAll ds)]
  | .none | .bool _ | .list _ | .dict _ => .tuple [.int 3, .int 0, .str "", .tuple []]
def rankAll : List PyData → List PyData
  | [] => []
  | d :: ds => rankD d :: rankAll ds
end
theorem rankAll_map : ∀ ds : List PyData, rankAll ds = ds.map rankD
  | [] => rfl
  | d :: ds => by rw [rankAll, rankAll_map ds]; rfl
open PySem.W in
theorem alike4 (a b c d : Int) (x y : Str) {ds es : List PyData} (h : alikeAll ds es = true) : alike (.tuple [.int a, .int b, .str x, .tuple ds]) (.tuple [.int c, .int d, .str y, .tuple es]) = true := by
  simp [alike, alikeAll, h]
open PySem.W in
mutual
theorem rank_alike : ∀ d e : PyData, alike (rankD d) (rankD e) = true
  | .tuple ds, e => by
    cases e with
    | tuple es => exact alike4 _ _ _ _ _ _ (rankAll_alike ds es)
    | int => exact alike4 _ _ _ _ _ _ (by cases ds <;> simp [rankAll, alikeAll])
    | str => exact alike4 _ _ _ _ _ _ (by cases ds <;> simp [rankAll, alikeAll])
    | none => exact alike4 _ _ _ _ _ _ (by cases ds <;> simp [rankAll, alikeAll])
    | bool => exact alike4 _ _ _ _ _ _ (by cases ds <;> simp [rankAll, alikeAll])
    | list => exact alike4 _ _ _ _ _ _ (by cases ds <;> simp [rankAll, alikeAll])
    | dict => exact alike4 _ _ _ _ _ _ (by cases ds <;> simp [rankAll, alikeAll])
  | .int i, e => by cases e <;> exact alike4 _ _ _ _ _ _ (by simp [alikeAll])
  | .str i, e => by cases e <;> exact alike4 _ _ _ _ _ _ (by simp [alikeAll])
  | .none, e => by cases e <;> exact alike4 _ _ _ _ _ _ (by simp [alikeAll])
  | .bool i, e => by cases e <;> exact alike4 _ _ _ _ _ _ (by simp [alikeAll])
  | .list i, e => by cases e <;> exact alike4 _ _ _ _ _ _ (by simp [alikeAll])
  | .dict i, e => by cases e <;> exact alike4 _ _ _ _ _ _ (by simp [alikeAll])
theorem rankAll_alike : ∀ ds es : List PyData, alikeAll (rankAll ds) (rankAll es) = true
  | [], _ => by simp [rankAll, alikeAll]
  | _ :: _, [] => by simp [rankAll, alikeAll]
  | d :: ds, e :: es => by rw [rankAll, rankAll, alikeAll, rank_alike d e, rankAll_alike ds es]; rfl
end
theorem rank_ne (d : PyData) : rankD d ≠ .none := by cases d <;> (rw [rankD]; exact fun h => nomatch h)
theorem depth4 (a b : Int) (x : Str) {ds : List PyData} {n : Nat} (h : PyData.depthAll ds ≤ n) : (PyData.tuple [.int a, .int b, .str x, .tuple ds]).depth ≤ n + 2 := by
  simp only [PyData.depth, PyData.depthAll]
  omega
theorem rank_depth : ∀ {r : Nat} {d : PyData}, isK r d → (rankD d).depth ≤ 2 * r + 2
  | r, d, h => by
    rcases isK_cases h with ⟨i, rfl, _⟩ | ⟨z, rfl, _⟩ | ⟨r1, ds, rfl, rfl, _, h2⟩
    · rw [rankD]; exact depth4 _ _ _ (Nat.zero_le _)
    · rw [rankD]; exact depth4 _ _ _ (Nat.zero_le _)
    · rw [rankD]
      refine depth4 _ _ _ ?_
      rw [rankAll_map]
      refine depthAll_le fun e he => ?_
      obtain ⟨e0, h0, rfl⟩ := List.mem_map.mp he
      have := rank_depth (h2 e0 h0)
      omega
/-- d stands ahead of e -/
def ltK (d e : PyData) : Bool := PySem.W.dataLt (rankD d) (rankD e)
def ltKs (ds es : List PyData) : Bool := PySem.W.dataLt (.tuple (rankAll ds)) (.tuple (rankAll es))
section
open PySem.W
theorem dl_yes {x y : PyData} {xs ys : List PyData} (h : alike x y = true) (e : PyData.eqv x y = true) : dataLt (.tuple (x :: xs)) (.tuple (y :: ys)) = dataLt (.tuple xs) (.tuple ys) := by
  rw [dataLt_tuple, dataLt_tuple]; exact dataLt_all_yes h e
theorem dl_no {x y : PyData} {xs ys : List PyData} (h : alike x y = true) (e : PyData.eqv x y = false) : dataLt (.tuple (x :: xs)) (.tuple (y :: ys)) = dataLt x y := by
  rw [dataLt_tuple]; exact dataLt_all_no h e
theorem dl_nil : dataLt (.tuple []) (.tuple []) = false := by rw [dataLt_tuple]; exact lex_irrefl _
theorem dl_nilc {y : PyData} {ys : List PyData} : dataLt (.tuple []) (.tuple (y :: ys)) = true := by
  rw [dataLt_tuple, toks_all_cons, keyToksAll, lex_diff (O := itemOrd) (by simp)]; rfl
theorem dl_cnil {y : PyData} {ys : List PyData} : dataLt (.tuple (y :: ys)) (.tuple []) = false := by
  rw [dataLt_tuple, toks_all_cons, keyToksAll, lex_diff (O := itemOrd) (by simp)]; rfl
theorem eqv_i {i j : Int} (h : i ≠ j) : PyData.eqv (.int i) (.int j) = false := by rw [PyData.eqv]; exact beq_false_of_ne h
theorem eqv_ii (i : Int) : PyData.eqv (.int i) (.int i) = true := by rw [PyData.eqv]; exact beq_self_eq_true _
theorem eqv_s {i j : Str} (h : i ≠ j) : PyData.eqv (.str i) (.str j) = false := by rw [PyData.eqv]; exact beq_false_of_ne h
theorem eqv_ss (i : Str) : PyData.eqv (.str i) (.str i) = true := by rw [PyData.eqv]; exact beq_self_eq_true _
theorem al_i (i j : Int) : alike (.int i) (.int j) = true := by rw [alike]
theorem al_s (i j : Str) : alike (.str i) (.str j) = true := by rw [alike]
theorem ltK_kind {a b c d : Int} {x y : Str} {ds es : List PyData} (h : a ≠ c) : dataLt (.tuple [.int a, .int b, .str x, .tuple ds]) (.tuple [.int c, .int d, .str y, .tuple es]) = decide (a < c) := by
  rw [dl_no (al_i _ _) (eqv_i h), dataLt_int]
theorem ltK_int (i j : Int) : ltK (.int i) (.int j) = decide (i < j) := by
  unfold ltK
  rw [rankD, rankD, dl_yes (al_i _ _) (eqv_ii _)]
  by_cases h : i = j
  · subst h
    rw [dl_yes (al_i _ _) (eqv_ii _), dl_yes (al_s _ _) (eqv_ss _), dl_yes (by rw [alike, alikeAll]) (by rw [PyData.eqv, PyData.eqvAll]), dl_nil]
    exact (decide_eq_false (by omega)).symm
  · rw [dl_no (al_i _ _) (eqv_i h), dataLt_int]
theorem ltK_str (i j : Str) : ltK (.str i) (.str j) = decide (i.cps.toList < j.cps.toList) := by
  unfold ltK
  rw [rankD, rankD, dl_yes (al_i _ _) (eqv_ii _), dl_yes (al_i _ _) (eqv_ii _)]
  by_cases h : i = j
  · subst h
    rw [dl_yes (al_s _ _) (eqv_ss _), dl_yes (by rw [alike, alikeAll]) (by rw [PyData.eqv, PyData.eqvAll]), dl_nil]
    exact (decide_eq_false (List.lt_irrefl _)).symm
  · rw [dl_no (al_s _ _) (eqv_s h), dataLt_str]
theorem ltK_tup (ds es : List PyData) : ltK (.tuple ds) (.tuple es) = ltKs ds es := by
  unfold ltK ltKs
  rw [rankD, rankD, dl_yes (al_i _ _) (eqv_ii _), dl_yes (al_i _ _) (eqv_ii _), dl_yes (al_s _ _) (eqv_ss _)]
  cases h : PyData.eqv (.tuple (rankAll ds)) (.tuple (rankAll es)) with
  | true =>
    have ha : alike (.tuple (rankAll ds)) (.tuple (rankAll es)) = true := by rw [alike]; exact rankAll_alike ds es
    rw [dl_yes ha h, dl_nil]
    have e := (toks_eqv _ _ ha).1 h
    unfold dataLt
    rw [e]; exact (lex_irrefl _).symm
  | false =>
    rw [dl_no (by rw [alike]; exact rankAll_alike ds es) h]
theorem ltK_is (i : Int) (z : Str) : ltK (.int i) (.str z) = true := by unfold ltK; rw [rankD, rankD, ltK_kind (by decide)]; rfl
theorem ltK_si (i : Int) (z : Str) : ltK (.str z) (.int i) = false := by unfold ltK; rw [rankD, rankD, ltK_kind (by decide)]; rfl
theorem ltK_it (i : Int) (z : List PyData) : ltK (.int i) (.tuple z) = true := by unfold ltK; rw [rankD, rankD, ltK_kind (by decide)]; rfl
theorem ltK_ti (i : Int) (z : List PyData) : ltK (.tuple z) (.int i) = false := by unfold ltK; rw [rankD, rankD, ltK_kind (by decide)]; rfl
theorem ltK_st (i : Str) (z : List PyData) : ltK (.str i) (.tuple z) = true := by unfold ltK; rw [rankD, rankD, ltK_kind (by decide)]; rfl
theorem ltK_ts (i : Str) (z : List PyData) : ltK (.tuple z) (.str i) = false := by unfold ltK; rw [rankD, rankD, ltK_kind (by decide)]; rfl
theorem ltKs_nil : ltKs [] [] = false := dl_nil
theorem ltKs_nilc {y : PyData} {ys : List PyData} : ltKs [] (y :: ys) = true := by unfold ltKs; rw [rankAll, rankAll]; exact dl_nilc
theorem ltKs_cnil {y : PyData} {ys : List PyData} : ltKs (y :: ys) [] = false := by unfold ltKs; rw [rankAll, rankAll]; exact dl_cnil
mutual
theorem rank_eqv : ∀ d : PyData, PyData.eqv (rankD d) (rankD d) = true
  | .tuple ds => by rw [rankD]; simp only [PyData.eqv, PyData.eqvAll, beq_self_eq_true, Bool.true_and, Bool.and_true]; exact rankAll_eqv ds
  | .int i => by rw [rankD]; simp [PyData.eqv, PyData.eqvAll]
  | .str i => by rw [rankD]; simp [PyData.eqv, PyData.eqvAll]
  | .none => by rw [rankD]; simp [PyData.eqv, PyData.eqvAll]
  | .bool _ => by rw [rankD]; simp [PyData.eqv, PyData.eqvAll]
  | .list _ => by rw [rankD]; simp [PyData.eqv, PyData.eqvAll]
  | .dict _ => by rw [rankD]; simp [PyData.eqv, PyData.eqvAll]
theorem rankAll_eqv : ∀ ds : List PyData, PyData.eqvAll (rankAll ds) (rankAll ds) = true
  | [] => rfl
  | d :: ds => by rw [rankAll, PyData.eqvAll, rank_eqv d, rankAll_eqv ds]; rfl
end
theorem eqv4 {a b c d : Int} {x y : Str} {ds es : List PyData} (h : PyData.eqv (.tuple [.int a, .int b, .str x, .tuple ds]) (.tuple [.int c, .int d, .str y, .tuple es]) = true) : a = c ∧ b = d ∧ x = y ∧ PyData.eqvAll ds es = true := by
  simp only [PyData.eqv, PyData.eqvAll, Bool.and_eq_true, Bool.and_true] at h
  exact ⟨eq_of_beq h.1, eq_of_beq h.2.1, eq_of_beq h.2.2.1, h.2.2.2⟩
mutual
theorem rank_inj : ∀ {r s : Nat} {d e : PyData}, isK r d → isK s e → PyData.eqv (rankD d) (rankD e) = true → d = e
  | r, s, d, e, h, k, q => by
    rcases isK_cases h with ⟨i, rfl, _⟩ | ⟨z, rfl, h⟩ | ⟨r1, ds, rfl, rfl, _, h2⟩
    · rcases isK_cases k with ⟨j, rfl, _⟩ | ⟨w, rfl, k⟩ | ⟨s1, es, rfl, rfl, _, k2⟩
      · rw [rankD, rankD] at q; rw [(eqv4 q).2.1]
      · rw [rankD, rankD] at q; exact absurd (eqv4 q).1 (by decide)
      · rw [rankD, rankD] at q; exact absurd (eqv4 q).1 (by decide)
    · rcases isK_cases k with ⟨j, rfl, _⟩ | ⟨w, rfl, k⟩ | ⟨s1, es, rfl, rfl, _, k2⟩
      · rw [rankD, rankD] at q; exact absurd (eqv4 q).1 (by decide)
      · rw [rankD, rankD] at q; rw [(eqv4 q).2.2.1]
      · rw [rankD, rankD] at q; exact absurd (eqv4 q).1 (by decide)
    · rcases isK_cases k with ⟨j, rfl, _⟩ | ⟨w, rfl, k⟩ | ⟨s1, es, rfl, rfl, _, k2⟩
      · rw [rankD, rankD] at q; exact absurd (eqv4 q).1 (by decide)
      · rw [rankD, rankD] at q; exact absurd (eqv4 q).1 (by decide)
      · rw [rankD, rankD] at q; rw [rankAll_inj h2 k2 (eqv4 q).2.2.2]
theorem rankAll_inj : ∀ {r s : Nat} {ds es : List PyData}, (∀ d ∈ ds, isK r d) → (∀ d ∈ es, isK s d) → PyData.eqvAll (rankAll ds) (rankAll es) = true → ds = es
  | r, s, [], [], _, _, _ => rfl
  | r, s, d :: ds, e :: es, h, k, q => by
    rw [rankAll, rankAll, PyData.eqvAll, Bool.and_eq_true] at q
    rw [rank_inj (h d (List.mem_cons_self ..)) (k e (List.mem_cons_self ..)) q.1, rankAll_inj (fun e he => h e (List.mem_cons_of_mem _ he)) (fun e he => k e (List.mem_cons_of_mem _ he)) q.2]
  | r, s, [], e :: es, _, _, q => by rw [rankAll, rankAll, PyData.eqvAll] at q; cases q
  | r, s, d :: ds, [], _, _, q => by rw [rankAll, rankAll, PyData.eqvAll] at q; cases q
end
theorem ltKs_same (d : PyData) (ds es : List PyData) : ltKs (d :: ds) (d :: es) = ltKs ds es := by
  unfold ltKs; rw [rankAll, rankAll, dl_yes (rank_alike d d) (rank_eqv d)]
theorem ltKs_diff {r s : Nat} {d e : PyData} (hd : isK r d) (he : isK s e) (hn : d ≠ e) (ds es : List PyData) : ltKs (d :: ds) (e :: es) = ltK d e := by
  unfold ltKs; rw [rankAll, rankAll, dl_no (rank_alike d e) ?_]
  · rfl
  · cases h : PyData.eqv (rankD d) (rankD e) with
    | false => rfl
    | true => exact absurd (rank_inj hd he h) hn
theorem ltK_irrefl (d : PyData) : ltK d d = false := lex_irrefl _
theorem ltK_trans {a b c : PyData} : ltK a b = true → ltK b c = true → ltK a c = true := lex_trans _ _ _
theorem ltK_neg {a b c : PyData} : ltK a c = true → ltK a b = true ∨ ltK b c = true := lex_negTrans _ _ _
theorem ltK_tot {r s : Nat} {a b : PyData} (ha : isK r a) (hb : isK s b) (h1 : ltK a b = false) (h2 : ltK b a = false) : a = b := by
  have e : keyToks (rankD a) = keyToks (rankD b) := lex_total _ _ h1 h2
  refine rank_inj ha hb ?_
  cases h : PyData.eqv (rankD a) (rankD b) with
  | true => rfl
  | false =>
    have q := (toks_eqv _ _ (rank_alike a b)).2 h [.inl 0] [.inl 1]
    rw [e, lex_pre, lex_irrefl, lex_diff (O := itemOrd) (by simp)] at q
    exact absurd q (by decide)
theorem ltK_asymm {a b : PyData} (h : ltK a b = true) : ltK b a = false := by
  cases q : ltK b a with
  | false => rfl
  | true => have := ltK_trans h q; rw [ltK_irrefl] at this; cases this
end

/-! ### sign by sign, thing by thing -/
theorem ltN_at : ∀ (i : Nat) {a b : List Nat} {x y : Nat}, a.take i = b.take i → a[i]? = some x → b[i]? = some y → x ≠ y → decide (a < b) = decide ([x] < [y])
  | 0, [], _, _, _, _, h, _, _ => by simp at h
  | 0, _ :: _, [], _, _, _, _, h, _ => by simp at h
  | 0, c :: a, d :: b, x, y, _, hx, hy, hn => by
    simp at hx hy
    subst hx; subst hy
    refine decide_eq_decide.mpr ?_
    rw [List.cons_lt_cons_iff, List.cons_lt_cons_iff]
    constructor
    · rintro (h | ⟨h, _⟩)
      · exact .inl h
      · exact absurd h hn
    · rintro (h | ⟨h, _⟩)
      · exact .inl h
      · exact absurd h hn
  | i + 1, [], _, _, _, _, h, _, _ => by simp at h
  | i + 1, _ :: _, [], _, _, _, _, h, _ => by simp at h
  | i + 1, c :: a, d :: b, x, y, ht, hx, hy, hn => by
    simp at ht hx hy
    obtain ⟨rfl, ht⟩ := ht
    rw [← ltN_at i ht hx hy hn]
    refine decide_eq_decide.mpr ?_
    rw [List.cons_lt_cons_iff]
    constructor
    · rintro (h | ⟨_, h⟩)
      · exact absurd h (Nat.lt_irrefl _)
      · exact h
    · exact fun h => .inr ⟨rfl, h⟩
theorem ltN_end : ∀ {a b : List Nat}, a.take (min a.length b.length) = b.take (min a.length b.length) → decide (a < b) = decide (a.length < b.length)
  | [], [], _ => by simp
  | [], _ :: _, _ => by simp
  | _ :: _, [], _ => by simp
  | c :: a, d :: b, h => by
    have e : min (c :: a).length (d :: b).length = min a.length b.length + 1 := by simp only [List.length_cons]; omega
    rw [e] at h
    simp only [List.take_succ_cons, List.cons.injEq] at h
    obtain ⟨rfl, h⟩ := h
    have q := ltN_end h
    have q2 : (a < b) ↔ a.length < b.length := decide_eq_decide.mp q
    refine decide_eq_decide.mpr ?_
    rw [List.cons_lt_cons_iff]
    constructor
    · rintro (h | ⟨_, h⟩)
      · exact absurd h (Nat.lt_irrefl _)
      · simp only [List.length_cons]; exact Nat.succ_lt_succ (q2.mp h)
    · intro h
      simp only [List.length_cons] at h
      exact .inr ⟨rfl, q2.mpr (Nat.lt_of_succ_lt_succ h)⟩
theorem ltKs_at {r s : Nat} : ∀ (i : Nat) {a b : List PyData} {x y : PyData}, (∀ d ∈ a, isK r d) → (∀ d ∈ b, isK s d) → a.take i = b.take i → a[i]? = some x → b[i]? = some y → x ≠ y → ltKs a b = ltK x y
  | 0, [], _, _, _, _, _, _, h, _, _ => by simp at h
  | 0, _ :: _, [], _, _, _, _, _, _, h, _ => by simp at h
  | 0, c :: a, d :: b, x, y, ha, hb, _, hx, hy, hn => by
    simp at hx hy
    subst hx; subst hy
    exact ltKs_diff (ha _ (List.mem_cons_self ..)) (hb _ (List.mem_cons_self ..)) hn _ _
  | i + 1, [], _, _, _, _, _, _, h, _, _ => by simp at h
  | i + 1, _ :: _, [], _, _, _, _, _, _, h, _ => by simp at h
  | i + 1, c :: a, d :: b, x, y, ha, hb, ht, hx, hy, hn => by
    simp at ht hx hy
    obtain ⟨rfl, ht⟩ := ht
    rw [ltKs_same]
    exact ltKs_at i (fun e he => ha e (List.mem_cons_of_mem _ he)) (fun e he => hb e (List.mem_cons_of_mem _ he)) ht hx hy hn
theorem ltKs_end : ∀ {a b : List PyData}, a.take (min a.length b.length) = b.take (min a.length b.length) → ltKs a b = decide (a.length < b.length)
  | [], [], _ => by rw [ltKs_nil]; rfl
  | [], _ :: _, _ => by rw [ltKs_nilc]; simp
  | _ :: _, [], _ => by rw [ltKs_cnil]; simp
  | c :: a, d :: b, h => by
    have e : min (c :: a).length (d :: b).length = min a.length b.length + 1 := by simp only [List.length_cons]; omega
    rw [e] at h
    simp only [List.take_succ_cons, List.cons.injEq] at h
    obtain ⟨rfl, h⟩ := h
    rw [ltKs_same, ltKs_end h]
    exact decide_eq_decide.mpr (by simp only [List.length_cons]; omega)
theorem take_succ_eq {α : Type} {a b : List α} {i : Nat} {x : α} (h : a.take i = b.take i) (hx : a[i]? = some x) (hy : b[i]? = some x) : a.take (i + 1) = b.take (i + 1) := by
  rw [List.take_add_one, List.take_add_one, h, hx, hy]
theorem one_ne {x y : Nat} : (⟨#[x]⟩ : Str) = ⟨#[y]⟩ ↔ x = y := by
  constructor
  · intro h
    injection h with h
    simpa using h
  · rintro rfl; rfl
/-- the text of a small number -/
theorem txt_num {i : Int} (h0 : 0 ≤ i) (h1 : i < 10 ^ 9) : txtOk (toString i : String) := by
  refine ⟨?_, fun c hc => ?_⟩
  · have := int_text_length_le10 (a := i) (k := 9) (by decide) (by omega)
    have e : ((toString i : String) : Str).length = (toString i).length := by
      exact PySem.ofString_length _
    rw [e]; omega
  · by_cases hk : c ≠ 45 ∧ (c < 48 ∨ 57 < c)
    · exact absurd hc (int_text_free' c hk i)
    · omega
end Tw

/-! TwD: things of any kind; is_key's answer; max with a default; walks over a text. -/
namespace Tw
open PySem PySem.Spec PyProof.Rows L2
mutual
/-- the value v is the thing d; what lies in its lists and dicts is left open; none of these is in S -/
inductive TgS (S : Addr → Prop) (H : Hp) : V → PyData → Prop
  | non : TgS S H .non .none
  | bl (b : Bool) : TgS S H (.bl b) (.bool b)
  | int (i : Int) : TgS S H (.int i) (.int i)
  | str (x : Str) : TgS S H (.str x) (.str x)
  | lst {a : Addr} {xs : List V} (h : H a = some (.lst xs)) (n : ¬ S a) : TgS S H (.ref a) (.list [])
  | dct {a : Addr} {kvs : List (Key × V)} (h : H a = some (.dK kvs)) (n : ¬ S a) : TgS S H (.ref a) (.dict [])
  | tup {a : Addr} {xs : List V} {ds : List PyData} (h : H a = some (.tup xs)) (hs : TgAllS S H xs ds) : TgS S H (.ref a) (.tuple ds)
inductive TgAllS (S : Addr → Prop) (H : Hp) : List V → List PyData → Prop
  | nil : TgAllS S H [] []
  | cons {v : V} {vs : List V} {d : PyData} {ds : List PyData} (h : TgS S H v d) (hs : TgAllS S H vs ds) : TgAllS S H (v :: vs) (d :: ds)
end
abbrev Tg := TgS Non
abbrev TgAll := TgAllS Non
mutual
theorem Dt.tg {S : Addr → Prop} {H : Hp} : ∀ (d : PyData) (v : V), Dt H v d → TgS S H v d
  | .none, _, h => by cases h; exact .non
  | .bool b, _, h => by cases h; exact .bl b
  | .int i, _, h => by cases h; exact .int i
  | .str x, _, h => by cases h; exact .str x
  | .list _, _, h => by cases h
  | .dict _, _, h => by cases h
  | .tuple ds, _, h => by
    cases h with
    | tup e hs => exact .tup e (DtAll.tg ds _ hs)
theorem DtAll.tg {S : Addr → Prop} {H : Hp} : ∀ (ds : List PyData) (vs : List V), DtAll H vs ds → TgAllS S H vs ds
  | [], _, h => by cases h; exact .nil
  | d :: ds, _, h => by
    cases h with
    | cons h1 h2 => exact .cons (Dt.tg d _ h1) (DtAll.tg ds _ h2)
end
mutual
theorem TgS.mono {S : Addr → Prop} {H H1 : Hp} (f : Fr S H H1) : ∀ (d : PyData) (v : V), TgS S H v d → TgS S H1 v d
  | .none, _, h => by cases h; exact .non
  | .bool b, _, h => by cases h; exact .bl b
  | .int i, _, h => by cases h; exact .int i
  | .str x, _, h => by cases h; exact .str x
  | .list _, _, h => by
    cases h with
    | lst e n => exact .lst (f.keep _ _ e n) n
  | .dict _, _, h => by
    cases h with
    | dct e n => exact .dct (f.keep _ _ e n) n
  | .tuple ds, _, h => by
    cases h with
    | tup e hs => exact .tup (f.tup _ _ e) (TgAllS.mono f ds _ hs)
theorem TgAllS.mono {S : Addr → Prop} {H H1 : Hp} (f : Fr S H H1) : ∀ (ds : List PyData) (vs : List V), TgAllS S H vs ds → TgAllS S H1 vs ds
  | [], _, h => by cases h; exact .nil
  | d :: ds, _, h => by
    cases h with
    | cons h1 h2 => exact .cons (TgS.mono f d _ h1) (TgAllS.mono f ds _ h2)
end
mutual
theorem TgS.weak {S : Addr → Prop} {H : Hp} : ∀ (d : PyData) (v : V), TgS S H v d → Tg H v d
  | .none, _, h => by cases h; exact .non
  | .bool b, _, h => by cases h; exact .bl b
  | .int i, _, h => by cases h; exact .int i
  | .str x, _, h => by cases h; exact .str x
  | .list _, _, h => by
    cases h with
    | lst e n => exact .lst e id
  | .dict _, _, h => by
    cases h with
    | dct e n => exact .dct e id
  | .tuple ds, _, h => by
    cases h with
    | tup e hs => exact .tup e (TgAllS.weak ds _ hs)
theorem TgAllS.weak {S : Addr → Prop} {H : Hp} : ∀ (ds : List PyData) (vs : List V), TgAllS S H vs ds → TgAll H vs ds
  | [], _, h => by cases h; exact .nil
  | d :: ds, _, h => by
    cases h with
    | cons h1 h2 => exact .cons (TgS.weak d _ h1) (TgAllS.weak ds _ h2)
end
theorem Tg.mono {H H1 : Hp} (f : Fr Non H H1) (d : PyData) (v : V) (h : Tg H v d) : Tg H1 v d := TgS.mono f d v h
theorem TgAll.mono {H H1 : Hp} (f : Fr Non H H1) (d : List PyData) (v : List V) (h : TgAll H v d) : TgAll H1 v d := TgAllS.mono f d v h
theorem TgS.new {S : Addr → Prop} {H : Hp} {p : Addr} {o : HO} {v : V} {d : PyData} (h : TgS S H v d) (n : Fresh H p) : TgS S (upd H p o) v d := TgS.mono (Fr.new (Fr.refl H) n) d v h
theorem TgAllS.new {S : Addr → Prop} {H : Hp} {p : Addr} {o : HO} {v : List V} {d : List PyData} (h : TgAllS S H v d) (n : Fresh H p) : TgAllS S (upd H p o) v d := TgAllS.mono (Fr.new (Fr.refl H) n) d v h
theorem TgAllS.length {S : Addr → Prop} {H : Hp} : ∀ {vs : List V} {ds : List PyData}, TgAllS S H vs ds → vs.length = ds.length
  | _, [], h => by cases h; rfl
  | _, d :: ds, h => by
    cases h with
    | cons h1 h2 => rw [List.length_cons, List.length_cons, TgAllS.length h2]
theorem TgAllS.get {S : Addr → Prop} {H : Hp} : ∀ {vs : List V} {ds : List PyData} {i : Nat} {v : V}, TgAllS S H vs ds → vs[i]? = some v → ∃ d, ds[i]? = some d ∧ TgS S H v d
  | _, [], _, _, h, e => by cases h; simp at e
  | _, d :: ds, 0, _, h, e => by
    cases h with
    | cons h1 h2 => simp at e; subst e; exact ⟨d, rfl, h1⟩
  | _, d :: ds, i + 1, _, h, e => by
    cases h with
    | cons h1 h2 =>
      obtain ⟨d', q1, q2⟩ := TgAllS.get (i := i) h2 (by simpa using e)
      exact ⟨d', by simpa using q1, q2⟩
theorem TgAllS.app {S : Addr → Prop} {H : Hp} : ∀ {vs ws : List V} {ds es : List PyData}, TgAllS S H vs ds → TgAllS S H ws es → TgAllS S H (vs ++ ws) (ds ++ es)
  | _, _, [], _, h, k => by cases h; exact k
  | _, _, d :: ds, _, h, k => by
    cases h with
    | cons h1 h2 => exact .cons h1 (TgAllS.app h2 k)
theorem TgAllS.take {S : Addr → Prop} {H : Hp} : ∀ {vs : List V} {ds : List PyData} (n : Nat), TgAllS S H vs ds → TgAllS S H (vs.take n) (ds.take n)
  | _, _, 0, _ => .nil
  | _, [], _ + 1, h => by cases h; exact .nil
  | _, d :: ds, n + 1, h => by
    cases h with
    | cons h1 h2 => exact .cons h1 (TgAllS.take n h2)
theorem TgAllS.set {S : Addr → Prop} {H : Hp} {v : V} {d : PyData} (k : TgS S H v d) : ∀ {vs : List V} {ds : List PyData} (n : Nat), TgAllS S H vs ds → TgAllS S H (vs.set n v) (ds.set n d)
  | _, [], _, h => by cases h; exact .nil
  | _, e :: ds, 0, h => by
    cases h with
    | cons h1 h2 => exact .cons k h2
  | _, e :: ds, n + 1, h => by
    cases h with
    | cons h1 h2 => exact .cons h1 (TgAllS.set k n h2)

theorem keepU {H : Hp} {p q : Addr} {o u : HO} (h : H p = some o) (n : Fresh H q) : upd H q u p = some o := (upd_ne (ne_fr h n)).trans h
theorem Well.new {H : Hp} {a q : Addr} {u : HO} (h : Well H a) (n : Fresh H q) : Well (upd H q u) a := h.fr (Fr.new (S := Non) (Fr.refl _) n) id
/-- what stands already -/
abbrev Old (H : Hp) : Addr → Prop := fun b => ¬ Fresh H b
theorem old_of {H : Hp} {p : Addr} {o : HO} (h : H p = some o) : Old H p := fun n => by
  have n0 : H p = none := n
  rw [n0] at h; cases h
theorem Well.old {H : Hp} {a : Addr} (h : Well H a) : ∀ b, One a b → Old H b := fun b e => by
  subst e
  obtain ⟨xs, q⟩ := h.some
  exact old_of q
mutual
theorem TgS.less {S T : Addr → Prop} {H : Hp} (f : ∀ b, S b → T b) : ∀ (d : PyData) (v : V), TgS T H v d → TgS S H v d
  | .none, _, h => by cases h; exact .non
  | .bool b, _, h => by cases h; exact .bl b
  | .int i, _, h => by cases h; exact .int i
  | .str x, _, h => by cases h; exact .str x
  | .list _, _, h => by
    cases h with
    | lst e n => exact .lst e fun s => n (f _ s)
  | .dict _, _, h => by
    cases h with
    | dct e n => exact .dct e fun s => n (f _ s)
  | .tuple ds, _, h => by
    cases h with
    | tup e hs => exact .tup e (TgAllS.less f ds _ hs)
theorem TgAllS.less {S T : Addr → Prop} {H : Hp} (f : ∀ b, S b → T b) : ∀ (ds : List PyData) (vs : List V), TgAllS T H vs ds → TgAllS S H vs ds
  | [], _, h => by cases h; exact .nil
  | d :: ds, _, h => by
    cases h with
    | cons h1 h2 => exact .cons (TgS.less f d _ h1) (TgAllS.less f ds _ h2)
end
/-! ### what is_key tells -/
def bnd : Int := 10 ^ 60
def numB (i : Int) : Bool := decide (-bnd < i) && decide (i < bnd)
def signB (c : Nat) : Bool := decide (32 ≤ c) && decide (c ≤ 126)
def txtB (z : Str) : Bool := decide (z.length ≤ 40) && z.cps.toList.all signB
def keyB : Nat → PyData → Bool
  | _, .int i => numB i
  | _, .str z => txtB z
  | r + 1, .tuple ds => decide (ds.length ≤ 4) && ds.all (keyB r)
  | _, _ => false
theorem numB_iff {i : Int} : numB i = true ↔ numOk i := by unfold numB numOk bnd; simp
theorem txtB_iff {z : Str} : txtB z = true ↔ txtOk z := by
  unfold txtB txtOk
  rw [Bool.and_eq_true, decide_eq_true_eq, List.all_eq_true]
  refine and_congr_right fun _ => forall_congr' fun c => forall_congr' fun _ => ?_
  unfold signB
  rw [Bool.and_eq_true, decide_eq_true_eq, decide_eq_true_eq]
theorem keyB_int {r : Nat} {i : Int} : keyB r (.int i) = numB i := by cases r <;> rfl
theorem keyB_str {r : Nat} {z : Str} : keyB r (.str z) = txtB z := by cases r <;> rfl
theorem keyB_iff : ∀ {r : Nat} {d : PyData}, keyB r d = true ↔ isK r d
  | r, .int i => by rw [keyB_int, isK_int, numB_iff]
  | r, .str z => by rw [keyB_str, isK_str, txtB_iff]
  | 0, .tuple ds => by simp [keyB, isK]
  | r + 1, .tuple ds => by
    rw [isK_tup]
    show (decide (ds.length ≤ 4) && ds.all (keyB r)) = true ↔ _
    rw [Bool.and_eq_true, decide_eq_true_eq, List.all_eq_true]
    exact ⟨fun h => ⟨h.1, fun d hd => keyB_iff.mp (h.2 d hd)⟩, fun h => ⟨h.1, fun d hd => keyB_iff.mpr (h.2 d hd)⟩⟩
  | r, .none => by cases r <;> simp [keyB, isK]
  | r, .bool b => by cases r <;> simp [keyB, isK]
  | r, .list b => by cases r <;> simp [keyB, isK]
  | r, .dict b => by cases r <;> simp [keyB, isK]
theorem keyB_of {r : Nat} {d : PyData} (h : isK r d) : keyB r d = true := keyB_iff.mpr h

theorem one_lt {c d : Nat} : ([c] < [d]) ↔ c < d := by
  rw [List.cons_lt_cons_iff]
  exact ⟨fun h => h.elim id fun h => absurd h.2 (List.lt_irrefl _), .inl⟩
theorem blank_cps : (Str.ofString " ").cps.toList = [32] := by decide +kernel
theorem tilde_cps : (Str.ofString "~").cps.toList = [126] := by decide +kernel
theorem sg_lo (c : Nat) : (!decide ((⟨#[c]⟩ : Str).cps.toList < (Str.ofString " ").cps.toList)) = decide (32 ≤ c) := by
  rw [blank_cps, Bool.eq_iff_iff, Bool.not_eq_true', decide_eq_false_iff_not, decide_eq_true_eq]
  show ¬ ([c] < [32]) ↔ _
  rw [one_lt]; omega
theorem sg_hi (c : Nat) : (!decide ((Str.ofString "~").cps.toList < (⟨#[c]⟩ : Str).cps.toList)) = decide (c ≤ 126) := by
  rw [tilde_cps, Bool.eq_iff_iff, Bool.not_eq_true', decide_eq_false_iff_not, decide_eq_true_eq]
  show ¬ ([126] < [c]) ↔ _
  rw [one_lt]; omega
theorem all_map {α : Type} (f : α → Bool) (l : List α) : (l.map f).all id = l.all f := by rw [List.all_map]; rfl
mutual
/-- texts within are of a size that the machine holds -/
def txtSmall : PyData → Prop
  | .str z => z.length ≤ 100000 ∧ PyData.strOk z = true
  | .tuple ds => txtSmallAll ds
  | .none => True
  | .bool _ => True
  | .int _ => True
  | .list _ => True
  | .dict _ => True
def txtSmallAll : List PyData → Prop
  | [] => True
  | d :: ds => txtSmall d ∧ txtSmallAll ds
end
theorem txtSmallAll_mem : ∀ {ds : List PyData}, txtSmallAll ds → ∀ d ∈ ds, txtSmall d
  | d :: ds, h, e, he => by
    rcases List.mem_cons.mp he with rfl | he
    · exact h.1
    · exact txtSmallAll_mem h.2 e he
theorem txtSmallAll_of : ∀ {ds : List PyData}, (∀ d ∈ ds, txtSmall d) → txtSmallAll ds
  | [], _ => trivial
  | d :: ds, h => ⟨h d (List.mem_cons_self ..), txtSmallAll_of fun e he => h e (List.mem_cons_of_mem _ he)⟩
theorem isK_small : ∀ {r : Nat} {d : PyData}, isK r d → txtSmall d
  | r, d, h => by
    rcases isK_cases h with ⟨i, rfl, _⟩ | ⟨z, rfl, h3⟩ | ⟨r1, ds, rfl, rfl, _, h2⟩
    · trivial
    · exact ⟨Nat.le_trans h3.1 (by decide), txt_strOk h3.2⟩
    · exact txtSmallAll_of fun e he => isK_small (h2 e he)
/-! ### a depth as a number -/
def deepK : PyData → Int := fun d => (d.depth : Int)

/-! ### a walk over a text, in a comprehension -/
section
variable {K : PySem.W.Frag} {σ : L2.St} {H : Hp} {tt : TT} {te : TE} {Q : VK} {x y v : V} {D : Ends}
theorem x_iStr {R : It → Hp → Prop} (q : te σ H fun x H1 => ∃ z, x = .str z ∧ R (Its z) H1) : iStr te σ H R := q
theorem x_isStr {z : Str} {R : Str → Prop} (q : R z) : ∃ w, V.str z = .str w ∧ R w := ⟨z, rfl, q⟩
theorem x_lcS {z : Str} {g : TG} {vs : List Nat} {DD : Addr} {Qd : Hp → Prop} (Pv : Nat → Hp → Prop) (h0 : Pv 0 (upd H DD (.lst [])))
    (hs : ∀ i c H, z.cps.toList[i]? = some c → Pv i H → LcT g tt te vs σ DD (.str ⟨#[c]⟩) (Pv (i + 1)) H) (hd : ∀ H, Pv z.cps.toList.length H → Qd H) : LcG (Its z) g tt te vs σ H DD Qd := by
  refine ⟨fun i m H => m = z.cps.size - i ∧ i ≤ z.cps.size ∧ Pv i H, ⟨z.cps.size, by simp, Nat.zero_le _, h0⟩, ?_⟩
  rintro i m H ⟨rfl, hi, p⟩
  by_cases hlt : i < z.cps.size
  · refine .inr ⟨hlt, Pv (i + 1), fun H' p' => ⟨z.cps.size - (i + 1), by omega, rfl, hlt, p'⟩, fun x H' yy => ?_⟩
    obtain ⟨rfl, c, hc, rfl⟩ := yy
    exact hs i c _ (by rw [Array.getElem?_toList]; exact hc) p
  · have e : i = z.cps.toList.length := by rw [Array.length_toList]; omega
    refine .inl ⟨by show z.cps.size ≤ i; omega, hd H (e ▸ p)⟩
theorem x_forS {z : Str} {g : TG} {tb : TS} (Pv : Nat → L2.St → Hp → Prop) (h0 : Pv 0 σ H)
    (hs : ∀ i c σ H, z.cps.toList[i]? = some c → Pv i σ H → g (.str ⟨#[c]⟩) σ H fun σ2 H2 => tb { D with nx := Pv (i + 1), ct := Pv (i + 1), bk := D.nx } σ2 H2) (hd : ∀ σ H, Pv z.cps.toList.length σ H → D.nx σ H) : ForG (Its z) g tb D σ H := by
  refine ⟨fun i m σ H => m = z.cps.size - i ∧ i ≤ z.cps.size ∧ Pv i σ H, ⟨z.cps.size, by simp, Nat.zero_le _, h0⟩, ?_⟩
  rintro i m σ H ⟨rfl, hi, p⟩
  by_cases hlt : i < z.cps.size
  · refine .inr ⟨hlt, Pv (i + 1), fun σ' H' p' => ⟨z.cps.size - (i + 1), by omega, rfl, hlt, p'⟩, fun x H' yy => ?_⟩
    obtain ⟨rfl, c, hc, rfl⟩ := yy
    exact hs i c σ _ (by rw [Array.getElem?_toList]; exact hc) p
  · have e : i = z.cps.toList.length := by rw [Array.length_toList]; omega
    refine .inl ⟨by show z.cps.size ≤ i; omega, hd σ H (e ▸ p)⟩
theorem x_isB {a b : Bool} (q : Q (.bl (decide (a = b))) H) : rIsB (.bl a) (.bl b) H Q := ⟨a, b, rfl, rfl, q⟩
theorem x_notB {a b : Bool} (q : Q (.bl (!decide (a = b))) H) : rNotB (.bl a) (.bl b) H Q := ⟨a, b, rfl, rfl, q⟩
end

/-! ### max(numbers, default=number) -/
def rMaxDef (K : PySem.W.Frag) : List V → List V → Hp → VK → Prop := fun vs zs H Q => ∃ (a : Addr) (ns : List Int) (d : Int), vs = [.ref a] ∧ zs = [.int d] ∧ SqL K H a (ns.map V.int) ∧
  (ns = [] → Q (.int d) H) ∧ (∀ m : Int, m ∈ ns → (∀ j ∈ ns, j ≤ m) → Q (.int m) H)
theorem maxOf_mem (x : Int) : ∀ xs : List Int, PySem.W.maxOf x xs ∈ x :: xs ∧ ∀ j ∈ x :: xs, j ≤ PySem.W.maxOf x xs := fun xs => by
  induction xs generalizing x with
  | nil => exact ⟨List.mem_cons_self .., fun j hj => by rw [List.mem_singleton.mp hj]; exact Int.le_refl _⟩
  | cons y ys ih =>
    have e : PySem.W.maxOf x (y :: ys) = PySem.W.maxOf (if decide (x < y) = true then y else x) ys := rfl
    rw [e]
    obtain ⟨h1, h2⟩ := ih (if decide (x < y) = true then y else x)
    have h3 := h2 _ (List.mem_cons_self ..)
    constructor
    · rcases List.mem_cons.mp h1 with h | h
      · rw [h]; split <;> simp
      · exact List.mem_cons_of_mem _ (List.mem_cons_of_mem _ h)
    · intro j hj
      rcases List.mem_cons.mp hj with rfl | hj
      · refine Int.le_trans ?_ h3
        split
        · exact Int.le_of_lt (of_decide_eq_true (by assumption))
        · exact Int.le_refl _
      · rcases List.mem_cons.mp hj with rfl | hj
        · refine Int.le_trans ?_ h3
          split
          · exact Int.le_refl _
          · rename_i h; have := of_decide_eq_false (Bool.eq_false_iff.mpr h); omega
        · exact h2 j (List.mem_cons_of_mem _ hj)
theorem dpAll_ints {K : PySem.W.Frag} {H : Hp} : ∀ ns : List Int, DpAll K H (ns.map V.int) (ns.map PySem.W.Datum.toD)
  | [] => .nil
  | n :: ns => .cons (.int n) (dpAll_ints ns)
theorem cr_maxDef {X : Cx} (hc : X.calm = true) (hu : X.A.units + 64 < cLine) : CallRK X (.builtin "max") [Str.ofString "default"] (rMaxDef X.K) := by
  intro pins s σ H vs zs us ws Q I r rz h
  obtain ⟨a, ns, d, rfl, rfl, hs, q0, q1⟩ := h
  obtain rfl := Vals.ref1 r
  obtain ⟨w1, rfl, e1⟩ := vals1 rz
  obtain ⟨t, rfl⟩ := e1
  obtain ⟨its, rv, hl, _⟩ := I.list hs
  obtain ⟨as, hR⟩ := Dp.readsAll I _ _ _ (dpAll_ints (K := X.K) (H := H) ns) rv
  refine PySem.W.max_list_datum_default (α := Int) (xs := ns) (I.ok.hd hc) hl.isList ⟨as, hR⟩ ?_ (fun e h' tk k => ?_) fun y ys i v h' tk e hi hv k => ?_
  · show X.A.units + 1 + 0 < cLine
    omega
  · exact ⟨.int d, H, I.kept k, ⟨_, rfl⟩, q0 e⟩
  · obtain ⟨bs, hv⟩ := hv
    obtain ⟨m1, m2⟩ := maxOf_mem y ys
    generalize PySem.W.maxOf y ys = m at hv m1 m2
    have e2 : ∃ t, v = .int m t := by
      cases hv with
      | int => exact ⟨_, rfl⟩
    obtain ⟨t2, rfl⟩ := e2
    exact ⟨.int m, H, I.kept k, ⟨_, rfl⟩, q1 m (e ▸ m1) (e ▸ m2)⟩
section
variable {K : PySem.W.Frag} {σ : L2.St} {H : Hp} {Q : VK}
theorem x_ckw {r : List V → List V → Hp → VK → Prop} {t tk : TA} (q : t σ H fun vs H1 => tk σ H1 fun zs H2 => r vs zs H2 Q) : tCKw r t tk σ H Q := q
theorem x_maxDef {a : Addr} {ns : List Int} {d : Int} (h : SqL K H a (ns.map V.int)) (q0 : ns = [] → Q (.int d) H) (q1 : ∀ m : Int, m ∈ ns → (∀ j ∈ ns, j ≤ m) → Q (.int m) H) : rMaxDef K [.ref a] [.int d] H Q := ⟨a, ns, d, rfl, rfl, h, q0, q1⟩
def rInsert : V → List V → Hp → VK → Prop := fun x vs H Q => ∃ (l : Addr) (xs : List V) (i : Int) (y : V), x = .ref l ∧ vs = [.int i, y] ∧ H l = some (.lst xs) ∧ xs.length < sizeLine ∧ 0 ≤ i ∧ i < 2 ^ 63 ∧
    Q .non (upd H l (.lst (xs.take i.toNat ++ [y] ++ xs.drop i.toNat)))
theorem m_insert {X : Cx} : MtR X "list.insert" rInsert := mt_insert
theorem x_insert {l : Addr} {xs : List V} {i : Int} {y : V} (h : H l = some (.lst xs)) (hs : xs.length ≤ 100000) (hi : 0 ≤ i ∧ i < 2 ^ 63) (q : Q .non (upd H l (.lst (xs.take i.toNat ++ [y] ++ xs.drop i.toNat)))) :
    rInsert (.ref l) [.int i, y] H Q := ⟨l, xs, i, y, rfl, rfl, h, Nat.lt_of_le_of_lt hs (by decide), hi.1, hi.2, q⟩
end
theorem pickD {H : Hp} {xs : List V} {ds : List PyData} {r : Int} (h : DtAll H xs ds) (h0 : 0 ≤ r) (h1 : r < xs.length) : ∃ v d, atI xs r = some v ∧ Dt H v d ∧ d ∈ ds := by
  obtain ⟨v, e1, e2⟩ := atI_ex (xs := xs) h0 h1
  obtain ⟨d, d1, d2⟩ := h.get e2
  exact ⟨v, d, e1, d2, List.mem_of_getElem? d1⟩
/-- the first r items -/
theorem cut_to {xs : List V} {r : Int} (h0 : 0 ≤ r) : cutV xs none (some r) = xs.take r.toNat := by
  have e : HT.sIx xs.length xs.length (some r) = min r.toNat xs.length := by
    show (if r < 0 then _ else min r.toNat xs.length) = _
    rw [if_neg (by omega)]
  rw [cutV_eq, HT.sIx_none, e, List.drop_zero, Nat.sub_zero]
  by_cases h : r.toNat ≤ xs.length
  · rw [Nat.min_eq_left h]
  · rw [Nat.min_eq_right (by omega), List.take_of_length_le (Nat.le_refl _), List.take_of_length_le (by omega)]
mutual
theorem TgS.dt {S : Addr → Prop} {H : Hp} : ∀ (r : Nat) (d : PyData) (v : V), isK r d → TgS S H v d → Dt H v d
  | r, .int i, _, _, h => by cases h; exact .int i
  | r, .str i, _, _, h => by cases h; exact .str i
  | r + 1, .tuple ds, _, k, h => by
    cases h with
    | tup e hs => exact .tup e (TgAllS.dt r ds _ k.2 hs)
  | 0, .tuple ds, _, k, _ => k.elim
  | r, .none, _, k, _ => by cases r <;> cases k
  | r, .bool _, _, k, _ => by cases r <;> cases k
  | r, .list _, _, k, _ => by cases r <;> cases k
  | r, .dict _, _, k, _ => by cases r <;> cases k
theorem TgAllS.dt {S : Addr → Prop} {H : Hp} : ∀ (r : Nat) (ds : List PyData) (vs : List V), (∀ d ∈ ds, isK r d) → TgAllS S H vs ds → DtAll H vs ds
  | r, [], _, _, h => by cases h; exact .nil
  | r, d :: ds, _, k, h => by
    cases h with
    | cons h1 h2 => exact .cons (TgS.dt r d _ (k d (List.mem_cons_self ..)) h1) (TgAllS.dt r ds _ (fun e he => k e (List.mem_cons_of_mem _ he)) h2)
end
theorem pickT {S : Addr → Prop} {H : Hp} {xs : List V} {ds : List PyData} {r : Int} (h : TgAllS S H xs ds) (h0 : 0 ≤ r) (h1 : r < xs.length) : ∃ v d, atI xs r = some v ∧ TgS S H v d ∧ d ∈ ds := by
  obtain ⟨v, e1, e2⟩ := atI_ex (xs := xs) h0 h1
  obtain ⟨d, d1, d2⟩ := h.get e2
  exact ⟨v, d, e1, d2, List.mem_of_getElem? d1⟩
/-! ### texts told again and again; parts of texts -/
def rMulS : R2 := fun x y H Q => ∃ (z : Str) (n : Int), x = .str z ∧ y = .int n ∧ z.length ≤ 100 ∧ -(2 ^ 63) ≤ n ∧ n ≤ 1000 ∧ ∀ w : Str, (w.length : Int) = z.length * (if n < 0 then 0 else n) → (∀ c ∈ w.cps.toList, c ∈ z.cps.toList) → Q (.str w) H
theorem reps_mem (x : Array Nat) : ∀ (k : Nat) (acc : Array Nat) (c : Nat), c ∈ ((List.replicate k x).foldl (· ++ ·) acc).toList → c ∈ acc.toList ∨ c ∈ x.toList
  | 0, _, _, h => .inl h
  | k + 1, acc, c, h => by
    rw [List.replicate_succ, List.foldl_cons] at h
    rcases reps_mem x k _ c h with h | h
    · rw [Array.toList_append] at h
      exact (List.mem_append.mp h)
    · exact .inr h
theorem mul_mem {z : Str} {n : Int} {c : Nat} (h : c ∈ (Txt.mul z n).cps.toList) : c ∈ z.cps.toList := by
  unfold Txt.mul at h
  split at h
  · cases h
  · split at h
    · exact h
    · rcases reps_mem z.cps _ _ c h with h | h
      · cases h
      · exact h
theorem o_mulS {X : Cx} : OpR X (binaryOp .Mult) rMulS := by
  intro pins s σ H x y v u Q I rx ry h
  obtain ⟨z, n, rfl, rfl, hz, h0, h1, q⟩ := h
  obtain ⟨t, rfl⟩ := rx
  obtain ⟨t2, rfl⟩ := ry
  refine SB.mul (mulOk_of 100 1000 hz (by omega) h0 (by decide) (by decide)) fun t' k => ⟨.str (Txt.mul z n), H, I.tok _, ⟨_, rfl⟩, q _ ?_ fun c hc => mul_mem hc⟩
  have e := len_mul z n
  by_cases hn : n < 0
  · rw [decide_eq_true hn, if_pos rfl] at e; rw [if_pos hn]; exact e
  · rw [decide_eq_false hn, if_neg Bool.false_ne_true] at e; rw [if_neg hn]; exact e
theorem x_mulS {H : Hp} {Q : VK} {z : Str} {n : Int} (hz : z.length ≤ 100) (h : -(2 ^ 63) ≤ n ∧ n ≤ 1000) (q : ∀ w : Str, (w.length : Int) = z.length * (if n < 0 then 0 else n) → (∀ c ∈ w.cps.toList, c ∈ z.cps.toList) → Q (.str w) H) : rMulS (.str z) (.int n) H Q := ⟨z, n, rfl, rfl, hz, h.1, h.2, q⟩
theorem x_slZ {H : Hp} {Q : VK} {z : Str} {lo hi : Option Int} (h : z.length ≤ sizeLine) (q : Q (.str (cutS z lo hi)) H) : rSlS (.str z) lo hi H Q := ⟨z, rfl, h, q⟩
theorem cutS_mem {z : Str} {lo hi : Option Int} {c : Nat} (h : c ∈ (cutS z lo hi).cps.toList) : c ∈ z.cps.toList := by
  have h2 : c ∈ (z.cps.toList.drop (HT.sIx z.length 0 lo)).take (HT.sIx z.length z.length hi - HT.sIx z.length 0 lo) := h
  exact List.mem_of_mem_drop (List.mem_of_mem_take h2)
theorem strOk_of {z : Str} (h : ∀ c ∈ z.cps.toList, c < 1114112) : PyData.strOk z = true := by
  unfold PyData.strOk
  rw [Array.all_eq_true_iff_forall_mem]
  intro c hc
  exact decide_eq_true (h c (Array.mem_toList_iff.mpr hc))
theorem strOk_mem {z : Str} (h : PyData.strOk z = true) : ∀ c ∈ z.cps.toList, c < 1114112 := by
  unfold PyData.strOk at h
  rw [Array.all_eq_true_iff_forall_mem] at h
  exact fun c hc => of_decide_eq_true (h c (Array.mem_toList_iff.mp hc))
theorem strOk_app {z w : Str} (h : PyData.strOk z = true) (k : PyData.strOk w = true) : PyData.strOk (z ++ w) = true := strOk_of fun c hc => by
  rw [str_app] at hc
  exact (List.mem_append.mp hc).elim (strOk_mem h c) (strOk_mem k c)
theorem x_dnew {σ : L2.St} {H : Hp} {Q : VK} (q : ∀ p, Fresh H p → Q (.ref p) (upd H p (.dK []))) : tDNewK σ H Q := q
theorem x_mulTup {P : Prop} (q : P) : P := q
theorem x_slT {K : PySem.W.Frag} {S : Addr → Prop} {H : Hp} {Q : VK} {a : Addr} {xs : List V} {ds : List PyData} {hi : Option Int} (ha : H a = some (.tup xs)) (da : TgAllS S H xs ds)
    (q : ∀ p H' n, Fr Non H H' → TgS S H' (.ref p) (.tuple (ds.take n)) → Q (.ref p) H') : rSlA K (.ref a) none hi H Q := by
  refine ⟨a, xs, rfl, SqT.of ha, fun _ => ?_, fun _ p n => ?_⟩
  · refine q a H ds.length (Fr.refl _) ?_
    rw [List.take_length]
    exact .tup ha da
  · exact q p _ (HT.sIx xs.length xs.length hi) (Fr.new (Fr.refl _) n) (.tup upd_same (by rw [cutV_eq, HT.sIx_none, List.drop_zero, Nat.sub_zero]; exact (da.take _).new n))
theorem x_catT {K : PySem.W.Frag} {S : Addr → Prop} {H : Hp} {Q : VK} {a b : Addr} {xs ys : List V} {ds es : List PyData} (ha : H a = some (.tup xs)) (hb : H b = some (.tup ys)) (da : TgAllS S H xs ds) (db : TgAllS S H ys es) (hz : xs.length + ys.length ≤ 100000)
    (q : ∀ p H', Fr Non H H' → TgS S H' (.ref p) (.tuple (ds ++ es)) → Q (.ref p) H') : rCatA K (.ref a) (.ref b) H Q := by
  refine x_catA (SqT.of ha) (SqT.of hb) hz (fun e => ?_) (fun _ e => ?_) (fun _ _ p n => ?_)
  · subst e; cases da; exact q b H (Fr.refl _) (.tup hb db)
  · subst e; cases db; rw [List.append_nil] at q; exact q a H (Fr.refl _) (.tup ha da)
  · exact q p _ (Fr.new (Fr.refl _) n) (.tup upd_same (TgAllS.app (da.new n) (db.new n)))
theorem atI_last {α : Type} {xs : List α} {x : α} (h : xs.getLast? = some x) : atI xs (-1) = some x := by
  have hn : xs ≠ [] := fun e => by subst e; cases h
  have hl : 0 < xs.length := List.length_pos_iff.mpr hn
  unfold atI ixN
  rw [if_neg (by decide), if_pos (by omega)]
  show xs[((-1 : Int) + (xs.length : Int)).toNat]? = some x
  have e : ((-1 : Int) + (xs.length : Int)).toNat = xs.length - 1 := by omega
  rw [e, ← List.getLast?_eq_getElem?, h]
theorem atI0 {α : Type} (v : α) (vs : List α) : atI (v :: vs) 0 = some v := by
  unfold atI ixN
  rw [if_pos (by decide), if_pos (by simp only [List.length_cons]; omega)]
  rfl
theorem DtAll.head {H : Hp} {xs : List V} {ds : List PyData} {d : PyData} (h : DtAll H xs ds) (e : ds.head? = some d) : ∃ v, atI xs 0 = some v ∧ Dt H v d := by
  cases h with
  | nil => cases e
  | cons h1 h2 => cases e; exact ⟨_, atI0 _ _, h1⟩
theorem DtAll.last {H : Hp} {xs : List V} {ds : List PyData} {d : PyData} (h : DtAll H xs ds) (e : ds.getLast? = some d) : ∃ v, atI xs (-1) = some v ∧ Dt H v d := by
  have hl := h.length
  rw [List.getLast?_eq_getElem?] at e
  have hlt : ds.length - 1 < ds.length := (List.getElem?_eq_some_iff.mp e).1
  have hx : ds.length - 1 < xs.length := by omega
  have e2 := List.getElem?_eq_getElem hx
  obtain ⟨d', e3, e4⟩ := h.get e2
  rw [e] at e3
  cases e3
  refine ⟨xs[ds.length - 1], atI_last ?_, e4⟩
  rw [List.getLast?_eq_getElem?, hl, e2]
end Tw

/-! TwE: refusals: raise, try, isinstance of what was caught. -/
namespace Tw
open PySem PySem.Spec PyProof.Rows L2
/-- the address that a global class stands at -/
def clA (mg : Str → Option Value) (x : Str) : Addr := match mg x with
  | some (.ref a) => a
  | _ => 0
theorem clA_of {mg : Str → Option Value} {x : Str} {a : Addr} (h : mg x = some (.ref a)) : clA mg x = a := by unfold clA; rw [h]
/-- a class that is named -/
structure ClsTX (K : PySem.W.Frag) (mg : Str → Option Value) (x : Str) : Prop where
  m : mg x = some (.ref (clA mg x))
/-- a refusal without a field -/
structure ExcTX (K : PySem.W.Frag) (mg : Str → Option Value) (x : Str) (bm : List Value) (new : String) : Prop where
  m : mg x = some (.ref (clA mg x))
  kp : PySem.W.keepIn K (.ref (clA mg x)) = true
  ex : PySem.W.excIn K (clA mg x) bm new = true
  sb : PySem.W.subIn K (.ref (clA mg x)) (.type "BaseException") = some true
  ty : PySem.W.typeIn K (.ref (clA mg x)) = some (.type "type")
section
variable {X : Cx} {C : Addr}
/-- C() -/
theorem pmk_own0 {bmB : List Value} {B newId initId : String} {x : Str} {p pos : Pos} (F : ExcBaseFacts B newId initId bmB) (q : PySem.W.excIn X.K C bmB newId = true) (gC : X.mg x = some (.ref C)) (kC : PySem.W.keepIn X.K (.ref C) = true) (r : Raises X (.ref C)) (hg : Gl X x)
    (hdb : (x == ("__debug__" : Str)) = false := by decide) : PMk X (.Call (.Name x p) [] [] pos) (fun _ H Q => Q (.ref C) none H) := by
  intro pins s σ H Q I h
  refine wpAny_Call_Name_kw (ld_glob I hg gC ?_ hdb)
  refine PySem.W.callWith_K0 (f := .ref C) I.kIn kC ?_
  show wpAny _ _ (call (.ref C) []) _ _ _
  obtain ⟨bm, N, nm, qn, bs, hdct, sn, sub, ab, col, dd, k0, k1, k2, k3, k5, mN, hC, hN, hni, T⟩ := exc_obj I.kIn q
  refine wpAny_call_exc_subT F T hC hN hni (fun h' e hm => ?_) (Nat.zero_le _)
  exact mk_of I hm r h (I.hok.gone hm.new)
/-- raise C() -/
def tRaise0 (W : WX) (C : Addr) : TS := fun _ σ H => W (.ref C) none σ H
theorem ps_raise0 {W : WX} {e : Expr} {pos : Pos} (hc : X.calm = true) (tk : Takes X W) (he : PMk X e (fun _ H Q => Q (.ref C) none H)) : PS X (.Raise (some e) none pos) (tRaise0 W C) := ps_raise hc tk he
theorem x_raise0 {E : XK} {D : Ends} {σ : L2.St} {H : Hp} (q : E (.ref C) none H) : tRaise0 (fun cls d _ H => E cls d H) C D σ H := q
/-- a call within a try -/
def tCalS (sp : Sp) (W : WX) (t : TA) : TE := fun σ H Q => t σ H fun vs H1 => sp vs H1 Q (WE W σ)
theorem pcallX {k j : Nat} {x : Str} {ps : List Str} {sp : Sp} {p pos : Pos} {e : Expr} {es : List Expr} {t : TA} {W : WX} (c : CalX X.prog X.w X.K X.mg X.base k x ps sp) (hr : Room j X.A) (hk : k ≤ j) (hg : Gl X x) (tk : Takes X W) (ha : PA X (e :: es) t)
    (hdb : (x == ("__debug__" : Str)) = false := by decide) (he : starEach (e :: es) X.env = (false, eval e X.env) :: starEach es X.env := by rfl) (hpl : (backTo pos (starEach es X.env)).any (·.1) = false := by rfl) :
    PE X (.Call (.Name x p) (e :: es) [] pos) (tCalS sp W t) := by
  obtain ⟨f, fd, F, hm, kp, b⟩ := c.ex
  exact pe_callS F (hr.mono hk) hg hm kp b (fun σ => passAt tk σ) ha hdb he hpl
theorem x_calS {σ : L2.St} {H : Hp} {Q : VK} {sp : Sp} {W : WX} {tr : TA} (q : tr σ H fun vs H1 => sp vs H1 Q (WE W σ)) : tCalS sp W tr σ H Q := q
/-- isinstance of what the suite holds -/
def rIsX (K : PySem.W.Frag) (a : Addr) (cls : Value) (d : Option Addr) : List V → Hp → VK → Prop := fun xs H Q => ∃ (D : Addr) (c : V) (cv : Value) (b : Bool), cls = .ref D ∧ d = none ∧ ExcC K D ∧ xs = [.ref a, c] ∧ ClsV c cv ∧ PySem.W.kitOne K (.ref D) cv = some b ∧ Q (.bl b) H
theorem call_isX {a : Addr} {cls : Value} {d : Option Addr} {oe : Obj} {pn : List (Addr × Obj)} (hz : Zc cls d oe) (hf : ∃ vs, oe.data = .fields vs) : CallR (X.suite a ((a, oe) :: pn)) (.builtin "isinstance") (rIsX X.K a cls d) := by
  intro pins s σ H xs us Q I r h
  obtain ⟨D, c, cv, b, rfl, rfl, hC, rfl, hv, e, q⟩ := h
  exact call_isE hC hz hf pins s σ H _ us Q I r ⟨c, cv, b, rfl, fun u ru => hv.eq ru, e, q⟩
def rIsXT (K : PySem.W.Frag) (a : Addr) (cls : Value) (d : Option Addr) : List V → Hp → VK → Prop := fun xs H Q => ∃ (D tp : Addr) (cs : List V) (us : List Value) (b : Bool), cls = .ref D ∧ d = none ∧ ExcC K D ∧ xs = [.ref a, .ref tp] ∧ H tp = some (.tup cs) ∧ Paired ClsV cs us ∧ PySem.W.kitAny K (.ref D) us = some b ∧ Q (.bl b) H
theorem call_isXT {a : Addr} {cls : Value} {d : Option Addr} {oe : Obj} {pn : List (Addr × Obj)} (hz : Zc cls d oe) (hf : ∃ vs, oe.data = .fields vs) : CallR (X.suite a ((a, oe) :: pn)) (.builtin "isinstance") (rIsXT X.K a cls d) := by
  intro pins s σ H xs us Q I r h
  obtain ⟨D, tp, cs, ws, b, rfl, rfl, C, rfl, hT, k, e, q⟩ := h
  obtain ⟨u1, u2, rfl, r1, r2⟩ := vals2 r
  cases (show u2 = Value.ref tp from r2)
  cases (show u1 = Value.ref a from r1)
  obtain ⟨_, its, rv, o, h1, h2, n, h3⟩ := (show ObjOk X.prog X.w H s.heap tp (.tup cs) from I.hok tp _ hT)
  have e3 := ClsV.all k rv
  subst e3
  obtain ⟨oc, od, dt, sl⟩ := o
  simp only at h2 h3
  subst h2 h3
  obtain ⟨hget, _⟩ := I.pin (a, oe) (List.mem_append.mpr (.inl List.mem_cons_self))
  obtain ⟨vs, hv⟩ := hf
  have J : PySem.W.InstAt s.heap a oe D none := by
    obtain ⟨oc, od, oda, osl⟩ := oe
    obtain ⟨h1, h2⟩ := hz
    dsimp only at h1 h2 hv
    subst h1 h2 hv
    exact ⟨hget, rfl, rfl, trivial⟩
  exact PySem.W.kia_tup (PySem.W.handS_kitx_exc C.hg C.hk C.hs C.hd C.ha C.hn C.ht C.hm) I.kIn J h1 e (fun z => nomatch z) fun tk => ⟨.bl b, H, I.kept (t' := tk) fun _ _ z => z, rfl, q⟩
theorem x_isX {K : PySem.W.Frag} {a D : Addr} {c : V} {cv : Value} {b : Bool} {H : Hp} {Q : VK} (hC : ExcC K D) (hv : ClsV c cv) (e : PySem.W.kitOne K (.ref D) cv = some b) (q : Q (.bl b) H) : rIsX K a (.ref D) none [.ref a, c] H Q := ⟨D, c, cv, b, rfl, rfl, hC, rfl, hv, e, q⟩
theorem x_isXT {K : PySem.W.Frag} {a D tp : Addr} {cs : List V} {us : List Value} {b : Bool} {H : Hp} {Q : VK} (hC : ExcC K D) (hT : H tp = some (.tup cs)) (hv : Paired ClsV cs us) (e : PySem.W.kitAny K (.ref D) us = some b) (q : Q (.bl b) H) : rIsXT K a (.ref D) none [.ref a, .ref tp] H Q := ⟨D, tp, cs, us, b, rfl, rfl, hC, rfl, hT, hv, e, q⟩
end
/-- try .. except C as n (n in slot i) -/
def tTryAs (K : PySem.W.Frag) (c : Value) (i : Nat) (ts : Addr → Value → Option Addr → TS) (Wout : WX) (tb : WX → TS) : TS := fun D σ H => tb (wAs K c i ts Wout D) D σ H
theorem ps_tryAs {X : Cx} {x n : Str} {c : Value} {i : Nat} {body suite : List Stmt} {b₀ : Stmt} {np pos pos' : Pos} {tb : WX → TS} {ts : Addr → Value → Option Addr → TS} {Wout : WX}
    (hs : X.stack = X.env :: X.outer) (hf : X.env.frame = some X.env.locals) (hN : X.N.Nodup) (hi : X.N[i]? = some n) (hln : X.env.kindOf n = some .local) (hc : Names X x c) (tk : Takes X Wout)
    (hb : ∀ (W : WX) (pn : List (Addr × Obj)) (xe : Value → Shared → Prop), Takes (X.tr pn xe) W → PassesOwn (model X.prog X.w) X.A X.env xe → PSs (X.tr pn xe) body (tb W))
    (hsu : ∀ (a : Addr) (oe : Obj) (cls : Value) (d : Option Addr) (pn : List (Addr × Obj)), Zc cls d oe → (∃ vs, oe.data = .fields vs) → PSs (X.suite a ((a, oe) :: pn)) (b₀ :: suite) (ts a cls d)) :
    PS X (.Try body [.ExceptHandler (some (.Name x np)) (some n) (b₀ :: suite) pos'] [] [] pos) (tTryAs X.K c i ts Wout tb) := ps_try_as hs hf hN hi hln hc tk hb hsu
theorem x_tryAs {K : PySem.W.Frag} {c : Value} {i : Nat} {ts : Addr → Value → Option Addr → TS} {Wout : WX} {tb : WX → TS} {D : Ends} {σ : L2.St} {H : Hp} (q : tb (wAs K c i ts Wout D) D σ H) : tTryAs K c i ts Wout tb D σ H := q
/-- the clause takes it -/
theorem x_wAsT {K : PySem.W.Frag} {c cls : Value} {d : Option Addr} {i : Nat} {ts : Addr → Value → Option Addr → TS} {Wout : WX} {D : Ends} {σ : L2.St} {H : Hp} (h : PySem.W.exmOne K cls c = some true)
    (q : ∀ a, Fresh H a → ts a cls d { nx := fun σ' H' => D.nx (σ'.set i none) H', rt := D.rt, bk := fun σ' H' => D.bk (σ'.set i none) H', ct := fun σ' H' => D.ct (σ'.set i none) H' } (σ.set i (some (.ref a))) H) :
    WE (wAs K c i ts Wout D) σ cls d H := ⟨true, h, fun _ a ha => q a ha, fun e => nomatch e⟩
def excCB (K : PySem.W.Frag) (D : Addr) : Bool := decide (PySem.W.findIn K (.ref D) "__getattribute__" = some (some (.builtin "BaseException.__getattribute__"))) && (decide (PySem.W.findIn K (.ref D) "__getattr__" = some none) &&
  (decide (PySem.W.subIn K (.ref D) (.type "BaseException") = some true) && (PySem.W.hasDictIn K D && (decide (PySem.W.findIn K (.ref D) "__class__" = some (some (.builtin "object.__class__"))) &&
  (decide (PySem.W.specialIn K (.builtin "object.__class__") "__get__" = some (some (.builtin "getset_descriptor.__get__"))) && (decide (PySem.W.takesIn K (.builtin "object.__class__") = some true) && decide (PySem.W.mroIn K D (.type "object") = some true)))))))
theorem excC_of {K : PySem.W.Frag} {D : Addr} (h : excCB K D = true) : ExcC K D := by
  unfold excCB at h
  simp only [Bool.and_eq_true, decide_eq_true_eq] at h
  obtain ⟨h1, h2, h3, h4, h5, h6, h7, h8⟩ := h
  exact ⟨h1, h2, h3, h4, h5, h6, h7, h8⟩
theorem boot_ValueError : bootBuiltins "ValueError" = some (.type "ValueError") := by decide +kernel
/-! ### a tuple, none or one time -/
theorem tuple_mul1 (l : Addr) (items : Array Value) (n : Nat) (dd : Option Addr) (sl : Array (Option Value)) (u : Tok) :
    Meets (Builtin.«tuple.__mul__» ⟨[.ref l, .int 1 u], []⟩) (fun _ R s => s.heap.get? l = some { cls := .type "tuple", dict := dd, data := .seq items n, slots := sl } ∧ R (.ok (.ret (Value.ref l))) s) :=
  .of_wp fun prog w A R s h => by
    obtain ⟨hp, g, d, tk, os⟩ := s
    obtain ⟨hl, h⟩ := h
    have f1 := AutoSeq1.idx_int
    wp_walk using wpAny_loadPart' hl
    repeat (first
      | (refine wpAny_ite_true (by simp) ?_; wp_walk using wpAny_loadPart' hl)
      | (refine wpAny_ite_false (by simp) ?_; wp_walk using wpAny_loadPart' hl))
    exact ⟨_, rfl, h⟩
theorem tuple_mul0 (l : Addr) (items : Array Value) (n : Nat) (dd : Option Addr) (sl : Array (Option Value)) (u : Tok) (hi : items.isEmpty = false) :
    Meets (Builtin.«tuple.__mul__» ⟨[.ref l, .int 0 u], []⟩) (fun _ R s => s.heap.get? l = some { cls := .type "tuple", dict := dd, data := .seq items n, slots := sl } ∧
      R (.ok (.ret (Value.ref s.heap.objs.size))) { s with heap := s.heap.push { cls := Value.type "tuple", data := Data.seq #[] }, toks := s.toks }) :=
  .of_wp fun prog w A R s h => by
    obtain ⟨hp, g, d, tk, os⟩ := s
    obtain ⟨hl, h⟩ := h
    have f1 := AutoSeq1.idx_int
    wp_walk using wpAny_loadPart' hl
    repeat (first
      | (refine wpAny_ite_false (by simp [hi]) ?_; wp_walk using wpAny_loadPart' hl)
      | (refine wpAny_ite_true (by simp [hi]) ?_; wp_walk using wpAny_loadPart' hl))
    exact ⟨_, rfl, h⟩
def rRep01 (K : PySem.W.Frag) : R2 := fun x y H Q => ∃ l k xs, x = .ref l ∧ y = .int k ∧ SqT K H l xs ∧ xs ≠ [] ∧ (k = 0 ∨ k = 1) ∧ (k = 0 → ∀ p, H p = none → Q (.ref p) (upd H p (.tup []))) ∧ (k = 1 → Q (.ref l) H)
theorem op_rep01 {X : Cx} : OpR X (binaryOp .Mult) (rRep01 X.K) := by
  intro pins s σ H x y v u Q I rx ry h
  obtain ⟨l, k, xs, rfl, rfl, hT, hne, hk, q0, q1⟩ := h
  cases rx
  obtain ⟨t, rfl⟩ := ry
  obtain ⟨its, r, ⟨⟨cls, dd, data, sl⟩, ho, hc, n, hd⟩, hs⟩ := I.tuple hT
  simp only at hc hd
  subst hc hd
  have hle : its.length = xs.length := r.length.symm
  have hn : its ≠ [] := fun e => hne (by
    rw [e] at hle
    exact List.eq_nil_of_length_eq_zero hle.symm)
  have hi : its.toArray.isEmpty = false := by
    cases its with
    | nil => exact absurd rfl hn
    | cons a b => rfl
  rcases hk with rfl | rfl
  · refine wpAny_binaryOp_repeat_ref (T := "tuple") (U := "int") (by decide) ⟨_, ho, rfl⟩ (fun s' => typeIs_int s' 0 t) noFill_tuple_mul F.fills_int_mul F.slot_int_rmul repeat_tuple F.slot_int_index.lookup
      (call_meets F.slot_int_rmul (typeIs_int s 0 t) F.entry_int_rmul (F.args_int_rmul_2 _ _) (int_rmul_tuple 0 t l its.toArray n dd sl)
        ⟨ho, rfl, ⟨_, ho, rfl⟩, call_meets F.slot_tuple_mul ⟨_, ho, rfl⟩ F.entry_tuple_mul (F.args_tuple_mul_2 _ _) (tuple_mul0 l its.toArray n dd sl t hi) ⟨ho, ?_⟩⟩)
    refine ⟨.ref s.heap.objs.size, _, I.laid (t' := s.toks) (o := .tup []) (fun b ob q => Heap.get?_push_of_some _ q) (Nat.le_refl _) ?_, rfl, q0 rfl _ (I.hok.fresh (Nat.le_refl _))⟩
    exact ⟨Nat.zero_le _, [], .nil, IsTup.new _ _⟩
  · refine wpAny_binaryOp_repeat_ref (T := "tuple") (U := "int") (by decide) ⟨_, ho, rfl⟩ (fun s' => typeIs_int s' 1 t) noFill_tuple_mul F.fills_int_mul F.slot_int_rmul repeat_tuple F.slot_int_index.lookup
      (call_meets F.slot_int_rmul (typeIs_int s 1 t) F.entry_int_rmul (F.args_int_rmul_2 _ _) (int_rmul_tuple 1 t l its.toArray n dd sl)
        ⟨ho, rfl, ⟨_, ho, rfl⟩, call_meets F.slot_tuple_mul ⟨_, ho, rfl⟩ F.entry_tuple_mul (F.args_tuple_mul_2 _ _) (tuple_mul1 l its.toArray n dd sl t) ⟨ho, ?_⟩⟩)
    exact ⟨.ref l, H, I, rfl, q1 rfl⟩
theorem x_rep01 {K : PySem.W.Frag} {H : Hp} {Q : VK} {l : Addr} {xs : List V} {k : Int} (h : SqT K H l xs) (hne : xs ≠ []) (hk : k = 0 ∨ k = 1) (q0 : k = 0 → ∀ p, Fresh H p → Q (.ref p) (upd H p (.tup []))) (q1 : k = 1 → Q (.ref l) H) : rRep01 K (.ref l) (.int k) H Q := ⟨l, k, xs, rfl, rfl, h, hne, hk, q0, q1⟩
end Tw

/-! TwF: labels. -/
namespace Tw
open PySem PySem.Spec PyProof.Rows L2
/-- a label: height, least key, greatest key, how many rows -/
structure Lb where
  h : Int
  lo : PyData
  hi : PyData
  n : Int
def lbD (l : Lb) : PyData := .tuple [.int l.h, l.lo, l.hi, .int l.n]
/-- rows: a list of tuples (key, value) -/
def rowD (p : PyData × PyData) : PyData := .tuple [p.1, p.2]
def lbStep (f x y : Lb) : Bool := decide (y.h = f.h) && ltK x.hi y.lo
def lbRun (f : Lb) : List Lb → Bool
  | x :: y :: r => lbStep f x y && lbRun f (y :: r)
  | _ => true
/-- they may stand in one stem -/
def lbOk : List Lb → Bool
  | [] => false
  | f :: r => decide (2 ≤ (f :: r).length) && decide ((f :: r).length ≤ 4) && lbRun f (f :: r)
theorem lbOk_len {ls : List Lb} (h : ls.length < 2 ∨ 4 < ls.length) : lbOk ls = false := by
  cases ls with
  | nil => rfl
  | cons f r =>
    show (decide (2 ≤ (f :: r).length) && decide ((f :: r).length ≤ 4) && lbRun f (f :: r)) = false
    rcases h with h | h
    · rw [decide_eq_false (by omega)]; rfl
    · rw [decide_eq_true (show 2 ≤ (f :: r).length by omega), decide_eq_false (by omega)]; rfl
theorem lbOk_run {ls : List Lb} {f : Lb} (h1 : 2 ≤ ls.length) (h2 : ls.length ≤ 4) (hf : ls.head? = some f) : lbOk ls = lbRun f ls := by
  cases ls with
  | nil => cases hf
  | cons g r =>
    cases hf
    have h1 : 2 ≤ (f :: r).length := h1
    have h2 : (f :: r).length ≤ 4 := h2
    show (decide (2 ≤ (f :: r).length) && decide ((f :: r).length ≤ 4) && lbRun f (f :: r)) = _
    rw [decide_eq_true h1, decide_eq_true h2]; rfl
theorem lb_drop {ls : List Lb} {i : Nat} {x y : Lb} (hx : ls[i]? = some x) (hy : ls[i + 1]? = some y) (f : Lb) : lbRun f (ls.drop i) = (lbStep f x y && lbRun f (ls.drop (i + 1))) := by
  obtain ⟨a1, a2⟩ := List.getElem?_eq_some_iff.mp hx
  obtain ⟨b1, b2⟩ := List.getElem?_eq_some_iff.mp hy
  rw [List.drop_eq_getElem_cons a1, List.drop_eq_getElem_cons b1, a2, b2]; rfl
theorem lb_last {ls : List Lb} {n : Nat} (h : ls.length ≤ n + 1) (f : Lb) : lbRun f (ls.drop n) = true := by
  have e : (ls.drop n).length ≤ 1 := by rw [List.length_drop]; omega
  cases hd : ls.drop n with
  | nil => rfl
  | cons a r =>
    rw [hd] at e
    cases r with
    | nil => rfl
    | cons b r => simp only [List.length_cons] at e; omega
theorem DtAll.tup4 {H : Hp} {v : V} {a b c d : PyData} (h : Dt H v (.tuple [a, b, c, d])) : ∃ (p : Addr) (u0 u1 u2 u3 : V), v = .ref p ∧ H p = some (.tup [u0, u1, u2, u3]) ∧ Dt H u0 a ∧ Dt H u1 b ∧ Dt H u2 c ∧ Dt H u3 d := by
  cases h with
  | @tup p xs _ e hx =>
  cases hx with
  | cons h0 hx =>
  cases hx with
  | cons h1 hx =>
  cases hx with
  | cons h2 hx =>
  cases hx with
  | cons h3 hx =>
  cases hx
  exact ⟨p, _, _, _, _, rfl, e, h0, h1, h2, h3⟩
def lbSum (ls : List Lb) : Int := (ls.map (·.n)).sum
def lbOver (ls : List Lb) (f l : Lb) : PyData := .tuple [.int (f.h + 1), f.lo, l.hi, .int (lbSum ls)]
theorem cut_from {xs : List V} {k : Int} (h0 : 0 ≤ k) : cutV xs (some k) none = xs.drop k.toNat := by
  have e : HT.sIx xs.length 0 (some k) = min k.toNat xs.length := by
    show (if k < 0 then _ else min k.toNat xs.length) = _
    rw [if_neg (by omega)]
  rw [cutV_eq, HT.sIx_none, e]
  by_cases h : k.toNat ≤ xs.length
  · rw [Nat.min_eq_left h, List.take_of_length_le (by rw [List.length_drop]; omega)]
  · rw [Nat.min_eq_right (by omega), List.drop_eq_nil_of_le (Nat.le_refl _), List.drop_eq_nil_of_le (by omega), List.take_nil]
end Tw

/-! TwG: refusals with a field. -/
namespace Tw
open PySem PySem.Spec PyProof.Rows L2
/-- B.__init__(self, ..), B an own class over ValueError that has no own __init__ -/
structure BaseTX (K : PySem.W.Frag) (C : Addr) : Prop where
  ga : PySem.W.specialIn K (.ref C) "__getattribute__" = some (some (.builtin "type.__getattribute__"))
  rd : PySem.W.readsIn K C (.type "type") = true
  vi : PySem.W.findCls K (.ref C) (.type "type") "__init__" = some (.val (.builtin "ValueError.__init__"))
theorem pe_owninit {X : Cx} {C : Addr} {x : Str} {e : Expr} {es : List Expr} {ta : TA} {p1 p2 pos : Pos} {pl : Sem Bool} (hg : Gl X x) (gC : X.mg x = some (.ref C)) (B : BaseTX X.K C) (ha : PA X (e :: es) ta)
    (hc : eval (.Call (.Attribute (.Name x p1) "__init__" p2) (e :: es) [] pos) X.env = (do
      let ov ← eval (.Name x p1) X.env
      standAt p2.atName
      let (f, first) ← holding [ov] (getMethod ov "__init__" pl)
      callWith pos f first (backTo pos (starEach (e :: es) X.env)) (backToKw pos (keywordEach [] X.env))) := by rfl) (hdb : (x == ("__debug__" : Str)) = false := by decide)
    (he : starEach (e :: es) X.env = (false, eval e X.env) :: starEach es X.env := by rfl) (hpl : (backTo pos (starEach es X.env)).any (·.1) = false := by rfl) :
    PE X (.Call (.Attribute (.Name x p1) "__init__" p2) (e :: es) [] pos) (tVeI X.K ta) := by
  refine ⟨fun pins s σ H Q I h => ?_⟩
  refine PySem.W.methodCall_KW (ld_glob I hg gC ?_ hdb) hc
  refine PySem.W.method_cls I.kIn B.ga (PySem.W.cls_value I.kIn B.rd B.vi (by decide +kernel) ?_)
  show wpAny _ _ (callWith pos (Value.builtin "ValueError.__init__") [] (backTo pos (starEach (e :: es) X.env)) []) _ _ _
  refine PyProof.Rows.callWith_method1 (thn (ha.run pos pins _ σ H _ (I.tok _) h) fun us s1 ⟨vs, H1, I1, r1, a, C, ws, ev, hl, T, ea, q⟩ => ?_) he hpl
  subst ev
  cases r1 with
  | @cons _ u0 _ ur ra rw' =>
    obtain rfl : u0 = Value.ref a := ra
    have hlen : ur.length ≤ sizeLine := by
      rw [← Paired.length rw', sizeLine_eq]
      omega
    exact oinit_ok T I1 ea hlen fun s' J => ⟨.non, H1, J, rfl, q⟩
end Tw

/-! TwH: keys written as texts. -/
namespace Tw
open PySem PySem.Spec PyProof.Rows L2 TL
/-- quotes and strokes doubled -/
def escL : List Nat → List Nat
  | [] => []
  | c :: r => (if c = 34 ∨ c = 92 then [92, c] else [c]) ++ escL r
def intL (i : Int) : List Nat := (Str.ofString (toString i)).cps.toList
mutual
/-- the signs that write a key -/
def encL : PyData → List Nat
  | .int i => intL i
  | .str z => 34 :: (escL z.cps.toList ++ [34])
  | .tuple ds => 40 :: (encAll ds ++ [41])
  | .none => []
  | .bool _ => []
  | .list _ => []
  | .dict _ => []
def encAll : List PyData → List Nat
  | [] => []
  | d :: ds => encL d ++ encMore ds
def encMore : List PyData → List Nat
  | [] => []
  | d :: ds => 32 :: (encL d ++ encMore ds)
end
def strOf (l : List Nat) : Str := ⟨l.toArray⟩
theorem strOf_cps (l : List Nat) : (strOf l).cps.toList = l := rfl
theorem strOf_len (l : List Nat) : (strOf l).length = l.length := by rw [str_len]; rfl
theorem strOf_app (a b : List Nat) : strOf a ++ strOf b = strOf (a ++ b) := by
  refine PySem.W.str_of_cps ?_
  rw [str_app]; rfl
theorem of_cps (z : Str) : strOf z.cps.toList = z := PySem.W.str_of_cps rfl
def encS (d : PyData) : Str := strOf (encL d)
theorem encS_int (i : Int) : encS (.int i) = Str.ofString (toString i) := of_cps _
theorem escL_app (a b : List Nat) : escL (a ++ b) = escL a ++ escL b := by
  induction a with
  | nil => rfl
  | cons c a ih => rw [List.cons_append, escL, escL, ih, List.append_assoc]
theorem escL_len (a : List Nat) : (escL a).length ≤ 2 * a.length := by
  induction a with
  | nil => exact Nat.le_refl _
  | cons c a ih =>
    rw [escL, List.length_append, List.length_cons]
    split
    · simp only [List.length_cons, List.length_nil]; omega
    · simp only [List.length_cons, List.length_nil]; omega
/-! ### numbers -/
theorem intL_nat (n : Nat) : intL (n : Int) = numL n := tl_num n
theorem intL_neg (n : Nat) : intL (Int.negSucc n) = 45 :: numL (n + 1) := by
  have e : toString (Int.negSucc n) = "-" ++ Nat.repr (n + 1) := rfl
  unfold intL
  rw [e, PyProof.Rows.signs_ofString, String.toList_append, List.map_append, Nat.toList_repr]
  rfl
theorem numOk_nat {n : Nat} (h : numOk (n : Int)) : n < 10 ^ 60 := by
  have e : ((10 ^ 60 : Nat) : Int) = (10 : Int) ^ 60 := by decide
  have := h.2
  rw [← e] at this
  exact Int.ofNat_lt.mp this
theorem numOk_neg {n : Nat} (h : numOk (Int.negSucc n)) : n + 1 < 10 ^ 60 := by
  have e : ((10 ^ 60 : Nat) : Int) = (10 : Int) ^ 60 := by decide
  have h1 := h.1
  have e2 : Int.negSucc n = -((n + 1 : Nat) : Int) := rfl
  rw [e2, ← e] at h1
  have : ((n + 1 : Nat) : Int) < ((10 ^ 60 : Nat) : Int) := by omega
  exact Int.ofNat_lt.mp this
/-- a number's signs: perhaps a minus, then figures -/
theorem intL_cases {i : Int} (h : numOk i) : (∃ n : Nat, i = (n : Int) ∧ intL i = numL n ∧ n < 10 ^ 60) ∨ ∃ n : Nat, i = -((n + 1 : Nat) : Int) ∧ intL i = 45 :: numL (n + 1) ∧ n + 1 < 10 ^ 60 := by
  cases i with
  | ofNat n => exact .inl ⟨n, rfl, intL_nat n, numOk_nat h⟩
  | negSucc n => exact .inr ⟨n, rfl, intL_neg n, numOk_neg h⟩
theorem numL_60 {n : Nat} (h : n < 10 ^ 60) : (numL n).length ≤ 60 := numL_len (by decide) h
/-- the first figure is a nought just of nought -/
theorem numL_head : ∀ n : Nat, (numL n).head? = some 48 → n = 0 := by
  intro n
  induction n using Nat.strongRecOn with
  | _ n ih =>
    intro h
    by_cases hn : n < 10
    · rw [numL_lt hn] at h
      simp at h
      omega
    · rw [numL_step (by omega)] at h
      have hne : numL (n / 10) ≠ [] := numL_ne _
      rw [List.head?_append] at h
      cases hq : (numL (n / 10)).head? with
      | none => rw [List.head?_eq_none_iff] at hq; exact absurd hq hne
      | some c =>
        rw [hq] at h
        have h' : c = 48 := by simpa using h
        have := ih (n / 10) (by omega) (by rw [hq, h'])
        omega
theorem int_back_nat {n : Nat} (h : n < 10 ^ 60) : intText? (strOf (numL n)) = some (n : Int) := by
  have e := intText_digits (x := strOf (numL n)) (numL_digits n) (numL_ne n) (by rw [strOf_len]; exact Nat.le_trans (numL_60 h) (by decide))
  rw [strOf_cps, numL_val] at e
  exact e
theorem int_back_neg {n : Nat} (h : n < 10 ^ 60) : intText? (strOf (45 :: numL n)) = some (-(n : Int)) := by
  have e := intText_neg (x := strOf (45 :: numL n)) (cs := numL n) rfl (numL_digits n) (numL_ne n) (by rw [strOf_len, List.length_cons]; exact Nat.le_trans (Nat.succ_le_succ (numL_60 h)) (by decide))
  rw [numL_val] at e
  exact e
/-! ### signs by place -/
def sgO : Option Nat → Str
  | some c => ⟨#[c]⟩
  | none => ⟨#[]⟩
def digC (c : Nat) : Bool := decide (48 ≤ c) && decide (c ≤ 57)
def digO : Option Nat → Bool
  | some c => digC c
  | none => false
theorem cut_one {z : Str} {n : Nat} : cutS z (some (n : Int)) (some ((n : Int) + 1)) = sgO z.cps.toList[n]? := by
  have e1 : ((n : Int) + 1) = ((n + 1 : Nat) : Int) := by omega
  refine PySem.W.str_of_cps ?_
  rw [e1]
  show (z.cps.toList.drop (HT.sIx z.length 0 (some (n : Int)))).take (HT.sIx z.length z.length (some ((n + 1 : Nat) : Int)) - HT.sIx z.length 0 (some (n : Int))) = _
  rw [HT.sIx_nat, HT.sIx_nat, str_len]
  by_cases h : n < z.cps.toList.length
  · rw [Nat.min_eq_left (Nat.le_of_lt h), Nat.min_eq_left h, List.getElem?_eq_getElem h, List.drop_eq_getElem_cons h]
    have e : n + 1 - n = 1 := by omega
    rw [e]; rfl
  · rw [List.getElem?_eq_none (by omega), Nat.min_eq_right (show z.cps.toList.length ≤ n + 1 by omega), Nat.min_eq_right (show z.cps.toList.length ≤ n by omega), List.drop_eq_nil_of_le (Nat.le_refl _), List.take_nil]; rfl
theorem cut_mid {z : Str} {n m : Nat} {a b c : List Nat} (h : z.cps.toList = a ++ b ++ c) (hn : n = a.length) (hm : m = a.length + b.length) : cutS z (some (n : Int)) (some (m : Int)) = strOf b := by
  refine PySem.W.str_of_cps ?_
  show (z.cps.toList.drop (HT.sIx z.length 0 (some (n : Int)))).take (HT.sIx z.length z.length (some (m : Int)) - HT.sIx z.length 0 (some (n : Int))) = b
  rw [HT.sIx_nat, HT.sIx_nat, str_len, h, hn, hm]
  have l : (a ++ b ++ c).length = a.length + b.length + c.length := by simp only [List.length_append]
  rw [l, Nat.min_eq_left (by omega), Nat.min_eq_left (by omega)]
  have e : a.length + b.length - a.length = b.length := by omega
  rw [e, List.append_assoc, List.drop_left, List.take_left]
theorem sgO_one (c : Nat) : sgO (some c) = ⟨#[c]⟩ := rfl
theorem get_at {l a r : List Nat} {c n : Nat} (h : l.drop n = c :: r) : l[n]? = some c := by
  rw [← List.head?_drop, h]; rfl
theorem get_off {l : List Nat} {n : Nat} (h : l.drop n = []) : l[n]? = none := by
  rw [← List.head?_drop, h]; rfl
theorem drop_next {l r : List Nat} {c n : Nat} (h : l.drop n = c :: r) : l.drop (n + 1) = r := by
  rw [← List.drop_drop, h]; rfl
theorem drop_far {l a r : List Nat} {n : Nat} (h : l.drop n = a ++ r) : l.drop (n + a.length) = r := by
  rw [← List.drop_drop, h, List.drop_left]
/-! ### rules under names -/
section
variable {X : Cx}
def rInZ : R2 := fun x y H Q => ∃ (c : Nat) (z : Str), x = .str ⟨#[c]⟩ ∧ y = .str z ∧ Q (.bl (decide (c ∈ z.cps.toList))) H
theorem o_inZ : OpR X (compareOp .In) rInZ := op_in_sign
def rIntS : List V → Hp → VK → Prop := fun xs H Q => ∃ a n, xs = [.str a] ∧ intText? a = some n ∧ a.length ≤ 640 ∧ Q (.int n) H
theorem c_intS : CallR X (.type "int") rIntS := call_int_str
end
theorem x_inZ {H : Hp} {Q : VK} {c : Nat} {z : Str} (q : Q (.bl (decide (c ∈ z.cps.toList))) H) : rInZ (.str ⟨#[c]⟩) (.str z) H Q := ⟨c, z, rfl, rfl, q⟩
theorem x_intS {H : Hp} {Q : VK} {a : Str} {n : Int} (h : intText? a = some n) (hl : a.length ≤ 640) (q : Q (.int n) H) : rIntS [.str a] H Q := ⟨a, n, rfl, h, hl, q⟩
theorem dig_mem (c : Nat) : decide (c ∈ (Str.ofString "0123456789").cps.toList) = digC c := by
  have e : (Str.ofString "0123456789").cps.toList = [48, 49, 50, 51, 52, 53, 54, 55, 56, 57] := by decide +kernel
  rw [e]
  unfold digC
  rw [Bool.eq_iff_iff, decide_eq_true_eq, Bool.and_eq_true, decide_eq_true_eq, decide_eq_true_eq]
  simp only [List.mem_cons, List.not_mem_nil, or_false]
  omega
theorem x_aug {n : Nat} {x : V} {te : TE} {ti : TIp} {D : Ends} {σ : L2.St} {H : Hp} (h : σ[n]? = some (some x)) (q : te σ H fun y H1 => ti x y H1 fun z H2 => D.nx (σ.set n (some z)) H2) : tAug n te ti D σ H := ⟨x, h, q⟩
theorem x_ipA {H : Hp} {Q : VK} {i j : Int} (q : Q (.int (i + j)) H) : ipI (fun i j => i + j) (.int i) (.int j) H Q := ⟨i, j, rfl, rfl, q⟩
theorem x_ipS {H : Hp} {Q : VK} {i j : Int} (q : Q (.int (i - j)) H) : ipI (fun i j => i - j) (.int i) (.int j) H Q := ⟨i, j, rfl, rfl, q⟩
/-- one sign as it is written -/
def esc1 (c : Nat) : List Nat := if c = 34 ∨ c = 92 then [92, c] else [c]
theorem escL_cons (c : Nat) (r : List Nat) : escL (c :: r) = esc1 c ++ escL r := rfl
theorem esc1_head (c : Nat) : ∃ x r, esc1 c = x :: r ∧ x ≠ 34 := by
  unfold esc1
  by_cases h : c = 34 ∨ c = 92
  · rw [if_pos h]; exact ⟨92, [c], rfl, by decide⟩
  · rw [if_neg h]; exact ⟨c, [], rfl, fun e => h (.inl e)⟩
/-- the first sign of what writes a key -/
theorem encL_head {r : Nat} {d : PyData} (h : isK r d) : ∃ x t, encL d = x :: t ∧ x ≠ 41 ∧ x ≠ 32 := by
  rcases isK_cases h with ⟨i, rfl, hi⟩ | ⟨z, rfl, hz⟩ | ⟨r1, ds, rfl, rfl, _, _⟩
  · rcases intL_cases hi with ⟨m, h1, h2, h3⟩ | ⟨m, h1, h2, h3⟩
    · cases hq : numL m with
      | nil => exact absurd hq (numL_ne m)
      | cons c t =>
        have := numL_digits m c (by rw [hq]; exact List.mem_cons_self ..)
        refine ⟨c, t, by rw [encL, h2, hq], ?_, ?_⟩
        · have := this.1; omega
        · have := this.1; omega
    · exact ⟨45, _, by rw [encL, h2], by decide, by decide⟩
  · exact ⟨34, _, by rw [encL], by decide, by decide⟩
  · exact ⟨40, _, by rw [encL], by decide, by decide⟩
def B_key_from (r : Nat) : V → V → V → Hp → VK → XK → Prop := fun t n rm H Q _ => ∃ (z : Str) (k : Nat) (d : PyData) (rest : List Nat), t = .str z ∧ n = .int k ∧ rm = .int (r : Int) ∧ z.length ≤ 100000 ∧ isK r d ∧ z.cps.toList.drop k = encL d ++ rest ∧ (∀ c, rest.head? = some c → digC c = false) ∧
  ∀ p v H', Fr Non H H' → H' p = some (.tup [v, .int ((k + (encL d).length : Nat) : Int)]) → Dt H' v d → Q (.ref p) H'
def B_parts_from (r : Nat) : V → V → V → Hp → VK → XK → Prop := fun t n rm H Q _ => ∃ (z : Str) (k : Nat) (ds : List PyData) (rest : List Nat), t = .str z ∧ n = .int k ∧ rm = .int (r : Int) ∧ z.length ≤ 100000 ∧ (∀ d ∈ ds, isK r d) ∧ ds.length ≤ 4 ∧ z.cps.toList.drop k = encAll ds ++ 41 :: rest ∧
  ∀ p v H', Fr Non H H' → H' p = some (.tup [v, .int ((k + (encAll ds).length + 1 : Nat) : Int)]) → Dt H' v (.tuple ds) → Q (.ref p) H'
theorem sg_eq (x c : Nat) (s : String) (h : Str.ofString s = ⟨#[c]⟩) : decide (sgO (some x) = Str.ofString s) = decide (x = c) := by
  rw [h]; exact decide_eq_decide.mpr one_ne
theorem sg_q : Str.ofString "\"" = ⟨#[34]⟩ := by decide +kernel
theorem sg_b : Str.ofString "\\" = ⟨#[92]⟩ := by decide +kernel
theorem sg_o : Str.ofString "(" = ⟨#[40]⟩ := by decide +kernel
theorem sg_c : Str.ofString ")" = ⟨#[41]⟩ := by decide +kernel
theorem sg_s : Str.ofString " " = ⟨#[32]⟩ := by decide +kernel
theorem sg_e (x : Nat) : decide (sgO (some x) = Str.ofString "") = false := decide_eq_false fun h => by
  have h1 := congrArg Str.length h
  have e2 : (Str.ofString "").length = 0 := by decide +kernel
  rw [e2] at h1
  cases h1
/-! ### replace, join -/
section
variable {X : Cx}
theorem pe_opST {op : Operator} {r : R2} {m : Str} {j : Nat} {p pos : Pos} {f : Expr} {tf : TE} (ho : OpR X (binaryOp op) r) (hb : PET X f tf) : PE X (.BinOp (.Constant (.str m) j p) op f pos) (tOp r (tC (.str m)) tf) := by
  refine ⟨fun pins s σ H Q I h => ?_⟩
  refine wpAny_BinOp (Calls.Constant_str ?_)
  exact thn (hb pins { s with toks := s.toks + 1 } σ H _ (by show 1 ≤ s.toks + 1; omega) (I.tok _) h) fun u s2 ⟨y, H2, I2, r2, q2⟩ => ho pins s2 σ H2 (.str m) y _ u Q I2 ⟨_, rfl⟩ r2 q2
def rJoin (K : PySem.W.Frag) : V → List V → Hp → VK → Prop := fun x xs H Q => ∃ a p, ∃ ys : List Str, x = .str a ∧ xs = [.ref p] ∧ (SqL K H p (ys.map V.str) ∨ SqT K H p (ys.map V.str)) ∧
    (ys.map (·.length)).sum + ys.length * a.length ≤ 16777216 ∧ Q (.str (Txt.join a ys)) H
theorem m_join : MtR X "str.join" (rJoin X.K) := mt_join
end
theorem x_join {K : PySem.W.Frag} {H : Hp} {Q : VK} {a : Str} {p : Addr} {ys : List Str} (h : SqL K H p (ys.map V.str)) (hs : (ys.map (·.length)).sum + ys.length * a.length ≤ 16777216) (q : Q (.str (Txt.join a ys)) H) : rJoin K (.str a) [.ref p] H Q := ⟨a, p, ys, rfl, rfl, .inl h, hs, q⟩
theorem x_repl {to : TE} {y z : Str} {σ : L2.St} {H : Hp} {Q : VK} (q : to σ H fun v H1 => ∃ x, v = .str x ∧ x.length + (x.length + 1) * z.length ≤ 16777216 ∧ Q (.str (Txt.replace x y z)) H1) : CwR.tReplC to y z σ H Q := q
theorem join_enc1 : ∀ (ds : List PyData) (d : PyData), Str.join (Str.ofString " ") (encS d :: ds.map encS) = strOf (encL d ++ encMore ds)
  | [], d => by rw [List.map_nil, encMore, List.append_nil]; rfl
  | e :: ds, d => by
    rw [List.map_cons, PyProof.Rows.join_cons_cons, join_enc1 ds e, encMore]
    have e1 : Str.ofString " " = strOf [32] := by decide +kernel
    rw [e1]
    unfold encS
    rw [strOf_app, strOf_app, List.append_assoc]; rfl
theorem join_enc : ∀ ds : List PyData, Txt.join (Str.ofString " ") (ds.map encS) = strOf (encAll ds)
  | [] => by
    rw [show Txt.join (Str.ofString " ") ([].map encS) = Str.join (Str.ofString " ") ([].map encS) from StrLaws.glued_eq_join _ _]; rfl
  | d :: ds => by
    rw [show Txt.join (Str.ofString " ") ((d :: ds).map encS) = Str.join (Str.ofString " ") ((d :: ds).map encS) from StrLaws.glued_eq_join _ _, List.map_cons, join_enc1, encAll]
/-! ### show's way with quotes and strokes -/
theorem repl_cons {c x : Nat} {w r : List Nat} : StrLaws.replL [c] w (x :: r) = (if x = c then w else [x]) ++ StrLaws.replL [c] w r := by
  by_cases h : x = c
  · rw [if_pos h, StrLaws.replL_hit (by simp) (by rw [h]; rfl)]; rfl
  · rw [if_neg h, StrLaws.replL_miss (by intro e; exact h (by simpa using e))]; rfl
theorem repl_nil {c : Nat} {w : List Nat} : StrLaws.replL [c] w [] = [] := StrLaws.replL_nil
theorem esc_repl (l : List Nat) : StrLaws.replL [34] [92, 34] (StrLaws.replL [92] [92, 92] l) = escL l := by
  induction l with
  | nil => rw [repl_nil, repl_nil]; rfl
  | cons x r ih =>
    rw [repl_cons, escL, ← ih]
    by_cases h : x = 92
    · rw [if_pos h, if_pos (.inr h), h]
      show StrLaws.replL [34] [92, 34] (92 :: 92 :: _) = 92 :: 92 :: _
      rw [repl_cons, repl_cons, if_neg (by decide)]; rfl
    · rw [if_neg h]
      show StrLaws.replL [34] [92, 34] (x :: _) = _
      rw [repl_cons]
      by_cases h2 : x = 34
      · rw [if_pos h2, if_pos (.inl h2), h2]; rfl
      · rw [if_neg h2, if_neg (by rintro (e | e); exact h2 e; exact h e)]; rfl
theorem show_repl (z : Str) : Txt.replace (Txt.replace z (Str.ofString "\\") (Str.ofString "\\\\")) (Str.ofString "\"") (Str.ofString "\\\"") = strOf (escL z.cps.toList) := by
  refine PySem.W.str_of_cps ?_
  have e1 : (Str.ofString "\\").cps.toList = [92] := by decide +kernel
  have e2 : (Str.ofString "\\\\").cps.toList = [92, 92] := by decide +kernel
  have e3 : (Str.ofString "\"").cps.toList = [34] := by decide +kernel
  have e4 : (Str.ofString "\\\"").cps.toList = [92, 34] := by decide +kernel
  rw [StrLaws.replace_list (by decide +kernel), StrLaws.replace_list (by decide +kernel), e1, e2, e3, e4, esc_repl]; rfl
theorem repl_len (z : Str) : (Txt.replace z (Str.ofString "\\") (Str.ofString "\\\\")).length ≤ 2 * z.length := by
  have e1 : (Str.ofString "\\").cps.toList = [92] := by decide +kernel
  have e2 : (Str.ofString "\\\\").cps.toList = [92, 92] := by decide +kernel
  rw [str_len, str_len, StrLaws.replace_list (by decide +kernel), e1, e2]
  generalize z.cps.toList = l
  induction l with
  | nil => rw [repl_nil]; exact Nat.le_refl _
  | cons x r ih =>
    rw [repl_cons, List.length_append, List.length_cons]
    split
    · simp only [List.length_cons, List.length_nil]; omega
    · simp only [List.length_cons, List.length_nil]; omega
/-! ### how long -/
theorem intL_len {i : Int} (h : numOk i) : (intL i).length ≤ 61 := by
  rcases intL_cases h with ⟨m, h1, h2, h3⟩ | ⟨m, h1, h2, h3⟩
  · rw [h2]; have := numL_60 h3; omega
  · rw [h2, List.length_cons]; have := numL_60 h3; omega
theorem encMore_len {n : Nat} : ∀ {ds : List PyData}, (∀ d ∈ ds, (encL d).length ≤ n) → (encMore ds).length ≤ ds.length * (n + 1)
  | [], _ => Nat.zero_le _
  | d :: ds, h => by
    have h1 := h d (List.mem_cons_self ..)
    have h2 := encMore_len fun e he => h e (List.mem_cons_of_mem _ he)
    rw [encMore, List.length_cons, List.length_append, List.length_cons, Nat.succ_mul]
    omega
theorem encAll_len {n : Nat} {ds : List PyData} (h : ∀ d ∈ ds, (encL d).length ≤ n) : (encAll ds).length ≤ ds.length * (n + 1) := by
  cases ds with
  | nil => exact Nat.zero_le _
  | cons d ds =>
    have := encMore_len h
    rw [encMore, List.length_cons, List.length_append] at this
    rw [encAll, List.length_append]
    omega
theorem encL_len : ∀ {r : Nat} {d : PyData}, isK r d → (encL d).length ≤ 100 * 5 ^ r
  | r, d, h => by
    rcases isK_cases h with ⟨i, rfl, hi⟩ | ⟨z, rfl, hz⟩ | ⟨r1, ds, rfl, rfl, hl, hs⟩
    · rw [encL]
      exact Nat.le_trans (intL_len hi) (Nat.le_trans (by decide) (Nat.le_mul_of_pos_right 100 (Nat.pow_pos (by decide))))
    · rw [encL]
      have h1 := escL_len z.cps.toList
      have h2 := hz.1
      rw [str_len] at h2
      have h3 : 100 ≤ 100 * 5 ^ r := Nat.le_mul_of_pos_right 100 (Nat.pow_pos (by decide))
      simp only [List.length_cons, List.length_append, List.length_nil]
      omega
    · rw [encL]
      have h1 := encAll_len (n := 100 * 5 ^ r1) fun d hd => encL_len (hs d hd)
      have h2 : ds.length * (100 * 5 ^ r1 + 1) ≤ 4 * (100 * 5 ^ r1 + 1) := Nat.mul_le_mul_right _ hl
      have h3 : 100 ≤ 100 * 5 ^ r1 := Nat.le_mul_of_pos_right 100 (Nat.pow_pos (by decide))
      rw [Nat.pow_succ]
      simp only [List.length_cons, List.length_append, List.length_nil]
      omega
theorem encL_small {d : PyData} (h : isK 3 d) : (encL d).length ≤ 12500 := encL_len h
theorem sg_eqC (x c : Nat) (s : String) (h : Str.ofString s = ⟨#[c]⟩) : decide ((⟨#[x]⟩ : Str) = Str.ofString s) = decide (x = c) := sg_eq x c s h
theorem put_b (l : List Nat) : strOf l ++ Str.ofString "\\" = strOf (l ++ [92]) := by rw [show Str.ofString "\\" = strOf [92] by decide +kernel, strOf_app]
theorem put_1 (l : List Nat) (c : Nat) : strOf l ++ (⟨#[c]⟩ : Str) = strOf (l ++ [c]) := strOf_app l [c]
theorem quoted (l : List Nat) : Str.ofString "\"" ++ strOf l ++ Str.ofString "\"" = strOf (34 :: (l ++ [34])) := by
  rw [show Str.ofString "\"" = strOf [34] by decide +kernel, strOf_app, strOf_app]; rfl
theorem braced (l : List Nat) : Str.ofString "(" ++ strOf l ++ Str.ofString ")" = strOf (40 :: (l ++ [41])) := by
  rw [show Str.ofString "(" = strOf [40] by decide +kernel, show Str.ofString ")" = strOf [41] by decide +kernel, strOf_app, strOf_app]; rfl
theorem len_q : (Str.ofString "\"").length = 1 := by decide +kernel
theorem len_b : (Str.ofString "\\").length = 1 := by decide +kernel
theorem len_o : (Str.ofString "(").length = 1 := by decide +kernel
theorem len_c : (Str.ofString ")").length = 1 := by decide +kernel
theorem len_s : (Str.ofString " ").length = 1 := by decide +kernel
theorem sum_encS {n : Nat} : ∀ {ds : List PyData}, (∀ d ∈ ds, (encL d).length ≤ n) → ((ds.map encS).map (·.length)).sum ≤ ds.length * n
  | [], _ => Nat.zero_le _
  | d :: ds, h => by
    have h1 := h d (List.mem_cons_self ..)
    have h2 := sum_encS fun e he => h e (List.mem_cons_of_mem _ he)
    have h3 : (encS d).length = (encL d).length := strOf_len _
    rw [List.map_cons, List.map_cons, List.sum_cons, List.length_cons, Nat.succ_mul, h3]
    omega
theorem x_revL {K : PySem.W.Frag} {te : TE} {σ : L2.St} {H : Hp} {Q : VK} (q : te σ H fun x H1 => ∃ a xs, x = .ref a ∧ SqL K H1 a xs ∧ ∀ p, Fresh H1 p → Q (.ref p) (upd H1 p (.lst xs.reverse))) : tRevL K te σ H Q := q
end Tw

/-! TwI: refusals with a field: made, raised, held, asked. -/
namespace Tw
open PySem PySem.Spec PyProof.Rows L2
/-- the j-th def of a class -/
def inClass : Stmt → Nat → Stmt
  | .ClassDef _ _ _ b _ _ _ _ _ _ _, j => b.getD j (.Pass ⟨0, 0, 0, 0⟩)
  | s, _ => s
/-- a class whose refusals bear one thing, under f -/
structure OwnTX (K : PySem.W.Frag) (mg : Str → Option Value) (x f : Str) : Prop where
  m : mg x = some (.ref (clA mg x))
  o : OexC K (clA mg x)
  xf : XfC K (clA mg x)
  no : PySem.W.findIn K (.ref (clA mg x)) f = some none
/-- where its maker's own text stands -/
structure DefM (K : PySem.W.Frag) (mg : Str → Option Value) (x q : Str) (ps : List Str) (st : Stmt) : Prop where
  ex : ∃ fI fd, Fun K "__init__" q st fI fd ∧ PySem.W.findIn K (.ref (clA mg x)) "__init__" = some (some (.ref fI)) ∧ PySem.W.typeIn K (.ref fI) = some (.type "function") ∧ Binds K fd ps []
/-- what the maker's own text does with a raw one -/
def SpI (C : Addr) (f : Str) : Sp := Sp2 fun self y H Q _ => ∃ a, self = .ref a ∧ H a = some (exo a C none) ∧ ∀ dx, H dx = none → dx ≠ a → Q .non (upd (upd H dx (exd dx [(f, y)])) a (exo a C (some dx)))
structure MkX (P : Program) (w : World) (K : PySem.W.Frag) (mg : Str → Option Value) (base : Heap) (k : Nat) (x f : Str) : Prop where
  ex : ∃ fI fd ps, FnOk P w K mg base (L2.CX P w) k fI fd ps (SpI (clA mg x) f) ∧ PySem.W.findIn K (.ref (clA mg x)) "__init__" = some (some (.ref fI)) ∧ PySem.W.typeIn K (.ref fI) = some (.type "function") ∧ Binds K fd ps []
section
variable {X : Cx} {C : Addr}
theorem upd_del {H : Hp} {a dx : Addr} {e0 e1 e2 e3 : HO} (h : H a = none) (hn : dx ≠ a) : upd (del (upd (upd (upd H a e0) dx e1) a e2) a) dx e3 = upd H dx e3 := by
  funext b
  by_cases h1 : b = dx
  · subst h1; rw [upd_same, upd_same]
  · rw [upd_ne h1, upd_ne h1]
    by_cases h2 : b = a
    · subst h2
      rw [h]
      exact del_same
    · rw [del_ne h2, upd_ne h2, upd_ne h1, upd_ne h2]
/-- C(..), raised -/
def rMkI (C : Addr) (f : Str) (Q : XK) : List V → Hp → Prop := fun vs H1 => vs.length ≤ 1000 ∧ ∀ a, H1 a = none → SpI C f (.ref a :: (vs ++ [])) (upd H1 a (exo a C none)) (fun v H2 => v = .non ∧ ∃ (d : Addr) (fs : List (Str × V)), H2 a = some (exo a C (some d)) ∧ H2 d = some (exd d fs) ∧ H1 d = none ∧ Q (.ref C) (some d) (upd (del H2 a) d (.xd fs))) (fun _ _ _ => False)
def tMkI (C : Addr) (f : Str) (ta : TA) : L2.St → Hp → XK → Prop := fun σ H Q => ta σ H (rMkI C f Q)
theorem x_mkI0 {f : Str} {Q : XK} {y : V} {H : Hp} (q : ∀ d, Fresh H d → Q (.ref C) (some d) (upd H d (.xd [(f, y)]))) : rMkI C f Q [y] H := by
  refine ⟨Nat.le_trans (Nat.le_refl 1) (by decide), fun a na => ⟨.ref a, y, by simp, a, rfl, upd_same, fun dx nd hne => ⟨rfl, dx, [(f, y)], upd_same, ?_, ?_, ?_⟩⟩⟩
  · rw [upd_ne hne, upd_same]
  · rw [upd_ne hne] at nd; exact nd
  · rw [upd_del na hne]
    refine q dx ?_
    rw [upd_ne hne] at nd; exact nd
theorem pmk_I {k j : Nat} {x f : Str} {p pos : Pos} {e : Expr} {es : List Expr} {ta : TA} (M : MkX X.prog X.w X.K X.mg X.base k x f) (T : OwnTX X.K X.mg x f) (hr : Room j X.A) (hk : k + 1 ≤ j) (hg : Gl X x) (ha : PA X (e :: es) ta)
    (hdb : (x == ("__debug__" : Str)) = false := by decide) (he : starEach (e :: es) X.env = (false, eval e X.env) :: starEach es X.env := by rfl) (hpl : (backTo pos (starEach es X.env)).any (·.1) = false := by rfl) :
    PMk X (.Call (.Name x p) (e :: es) [] pos) (tMkI (clA X.mg x) f ta) := by
  obtain ⟨fI, fd, ps, F, iC, tI, hb⟩ := M.ex
  exact pmk_oex (pos := pos) (p := p) T.o iC tI F (hr.mono hk) hb .nil (fun _ _ _ _ _ _ _ h => by obtain ⟨_, _, _, _, _, _, _, _, _, _, _, _, h⟩ := h; exact h.elim) hg T.m ha hdb he hpl
/-- raise C(..) -/
def tRaiseI (W : WX) (C : Addr) (f : Str) (ta : TA) : TS := fun _ σ H => tMkI C f ta σ H fun cls d H' => W cls d σ H'
theorem ps_raiseI {W : WX} {e : Expr} {pos : Pos} {f : Str} {ta : TA} (hc : X.calm = true) (tk : Takes X W) (he : PMk X e (tMkI C f ta)) : PS X (.Raise (some e) none pos) (tRaiseI W C f ta) := ps_raise hc tk he
theorem x_raiseI {E : XK} {D : Ends} {σ : L2.St} {H : Hp} {f : Str} {ta : TA} (q : ta σ H (rMkI C f E)) : tRaiseI (fun cls d _ H => E cls d H) C f ta D σ H := q
/-- C(..), held -/
def rMkV (C : Addr) (f : Str) (Q : VK) : List V → Hp → Prop := fun vs H1 => vs.length ≤ 1000 ∧ ∀ a, H1 a = none → SpI C f (.ref a :: vs) (upd H1 a (exo a C none)) (fun v H2 => v = .non ∧ Q (.ref a) H2) (fun _ _ _ => False)
def tMkV (C : Addr) (f : Str) (ta : TA) : TE := fun σ H Q => ta σ H (rMkV C f Q)
theorem x_mkV0 {f : Str} {Q : VK} {y : V} {H : Hp} (q : ∀ a d, Fresh H a → Fresh H d → d ≠ a → Q (.ref a) (upd (upd H d (exd d [(f, y)])) a (exo a C (some d)))) : rMkV C f Q [y] H := by
  refine ⟨Nat.le_trans (Nat.le_refl 1) (by decide), fun a na => ⟨.ref a, y, rfl, a, rfl, upd_same, fun dx nd hne => ?_⟩⟩
  have nd' : Fresh H dx := by
    rw [upd_ne hne] at nd; exact nd
  have e : upd (upd (upd H a (exo a C none)) dx (exd dx [(f, y)])) a (exo a C (some dx)) = upd (upd H dx (exd dx [(f, y)])) a (exo a C (some dx)) := by
    funext b
    by_cases h2 : b = a
    · subst h2; rw [upd_same, upd_same]
    · rw [upd_ne h2, upd_ne h2]
      by_cases h1 : b = dx
      · subst h1; rw [upd_same, upd_same]
      · rw [upd_ne h1, upd_ne h1, upd_ne h2]
  refine ⟨rfl, ?_⟩
  rw [e]
  exact q a dx na nd' hne
theorem pe_mkV {k j : Nat} {x f : Str} {p pos : Pos} {e : Expr} {es : List Expr} {ta : TA} (M : MkX X.prog X.w X.K X.mg X.base k x f) (T : OwnTX X.K X.mg x f) (hr : Room j X.A) (hk : k + 1 ≤ j) (hg : Gl X x) (ha : PA X (e :: es) ta)
    (hdb : (x == ("__debug__" : Str)) = false := by decide) (he : starEach (e :: es) X.env = (false, eval e X.env) :: starEach es X.env := by rfl) (hpl : (backTo pos (starEach es X.env)).any (·.1) = false := by rfl) :
    PE X (.Call (.Name x p) (e :: es) [] pos) (tMkV (clA X.mg x) f ta) := by
  obtain ⟨fI, fd, ps, FI, iC, tI, hb⟩ := M.ex
  obtain ⟨nm, qn, N, bs, bm, sn, sub, ab, col, dd, k0, k1, k2, k3, k5, hC, hbm⟩ := T.o.cls
  refine ⟨fun pins s σ H Q I h => ?_⟩
  refine wpAny_Call_Name_kw (ld_glob I hg T.m ?_ hdb)
  refine PySem.W.callWith_K I.kIn T.o.kC (thn (ha.run pos pins _ σ H _ (I.tok _) h) fun us s1 ⟨vs, H1, I1, r1, hz, q1⟩ => ⟨I1.kIn, ?_⟩) he hpl
  obtain ⟨hp, g, dr, tk, os⟩ := s1
  have hn : H1 (hp.objs.size + 1) = none := I1.hok.fresh (Nat.le_succ _)
  have hq := q1 _ hn
  have kk : ∀ (b : Addr) (o : Obj), hp.get? b = some o → ((hp.push (PySem.W.kdv_tup us)).push (HandSPX.excO (clA X.mg x) hp.objs.size)).get? b = some o := fun b o e => Heap.get?_push_of_some _ (Heap.get?_push_of_some _ e)
  have hget : ((hp.push (PySem.W.kdv_tup us)).push (HandSPX.excO (clA X.mg x) hp.objs.size)).get? (hp.objs.size + 1) = some (HandSPX.excO (clA X.mg x) hp.objs.size) := Heap.get?_push_at (by simp) rfl
  have I2 : L2.Inv X pins σ (upd H1 (hp.objs.size + 1) (exo (hp.objs.size + 1) (clA X.mg x) none)) ⟨(hp.push (PySem.W.kdv_tup us)).push (HandSPX.excO (clA X.mg x) hp.objs.size), g, dr, tk, os⟩ := Inv.laid (t' := tk) I1 kk (Nat.le_succ _) (exo_ok hget)
  have r2 : Vals (.ref (hp.objs.size + 1) :: vs) (.ref (hp.objs.size + 1) :: us) := Paired.cons rfl r1
  have hl : (Value.ref (hp.objs.size + 1) :: us).length = ps.length := by rw [← Vals.length r2]; exact FI.len _ _ _ _ hq
  have hus : us.length ≤ sizeLine := by
    rw [← Paired.length r1, sizeLine_eq]; omega
  refine wpAny_call (HandSPX.call_own F.excBase_ValueError (fun Y => HandSPX.refsVE_contains Y bm hbm) (I1.kIn _ _ hC) (PySem.W.looks_findIn I1.kIn iC) (fun self => PySem.W.bind_fn I1.kIn self tI) hus ?_)
  refine codeAny_mono (FI.run _ X.stack _ _ _ (.ref (hp.objs.size + 1) :: us) _ _ _ ((hr.mono hk).make _ us []) (I2.env0.make _ us []) (by have z := hb _ (.ref (hp.objs.size + 1) :: us) I2.kIn (by rw [List.append_nil]; exact hl); rwa [List.append_nil] at z) r2 hq) ?_
  intro r s' hq'
  cases r with
  | error er =>
    obtain ⟨_, _, _, _, _, _, _, _, _, _, _, _, z⟩ := hq'
    exact z.elim
  | ok fl =>
    cases fl with
    | ret u =>
      obtain ⟨v, H2, os2, bare2, un2, hok2, rv, rfl, q2⟩ := hq'
      cases (show u = Value.none from rv)
      exact ⟨rfl, .ref (hp.objs.size + 1), H2, I2.call' (ch := []) os2 un2 hok2 bare2 (fun _ h => nomatch h), rfl, q2⟩
    | _ => exact hq'.elim
/-- C(), held -/
def tExc0 (C : Addr) : TE := fun _ H Q => ∀ a, Fresh H a → Q (.ref a) (upd H a (ExO (.ref C) a))
theorem pe_exc0 {bmB : List Value} {B newId initId : String} {x : Str} {p pos : Pos} (F : ExcBaseFacts B newId initId bmB) (q : PySem.W.excIn X.K C bmB newId = true) (gC : X.mg x = some (.ref C)) (kC : PySem.W.keepIn X.K (.ref C) = true) (hg : Gl X x)
    (hdb : (x == ("__debug__" : Str)) = false := by decide) : PE X (.Call (.Name x p) [] [] pos) (tExc0 C) := by
  refine ⟨fun pins s σ H Q I h => ?_⟩
  refine wpAny_Call_Name_kw (ld_glob I hg gC ?_ hdb)
  refine PySem.W.callWith_K0 (f := .ref C) I.kIn kC ?_
  show wpAny _ _ (call (.ref C) []) _ _ _
  obtain ⟨bm, N, nm, qn, bs, hdct, sn, sub, ab, col, dd, k0, k1, k2, k3, k5, mN, hC, hN, hni, T⟩ := exc_obj I.kIn q
  refine wpAny_call_exc_subT F T hC hN hni (fun h' a hm => ?_) (Nat.zero_le _)
  have hn := I.hok.gone hm.new
  obtain ⟨t, ht, _, _⟩ := hm.there
  exact ⟨.ref a, upd H a (ExO (.ref C) a), I.laidN hm.keeps hm.new hn (exO_ok ht ⟨rfl, rfl⟩ rfl rfl rfl (by show 4 < 6; decide)), rfl, h a hn⟩
theorem x_exc0 {σ : L2.St} {H : Hp} {Q : VK} (q : ∀ a, Fresh H a → Q (.ref a) (upd H a (ExO (.ref C) a))) : tExc0 C σ H Q := q
/-- the maker's own text: Base.__init__(self, ..); self.f = y -/
theorem x_init {K : PySem.W.Frag} {f : Str} {a : Addr} {y : V} {H : Hp} {Q : VK} {m : Str} (T : OexC K C) (no : PySem.W.findIn K (.ref C) f = some none) (ha : H a = some (exo a C none)) (q : ∀ dx, H dx = none → dx ≠ a → Q .non (upd (upd H dx (exd dx [(f, y)])) a (exo a C (some dx)))) :
    tSeq (tDrop (tVeI K (tCons (tVar 0) (tCons (tC (.str m)) tNil)))) (tOst K f (tVar 0) (tVar 1)) { nx := fun _ H' => Q .non H', rt := Q } [some (.ref a), some y] H :=
  ⟨.ref a, rfl, a, C, [.str m], rfl, Nat.le_trans (Nat.le_refl 1) (by decide), T, ha, ⟨y, rfl, .ref a, rfl, a, C, rfl, T, no, .inl ⟨ha, fun dx hd hn => q dx hd hn⟩⟩⟩
/-! ### a held one -/
/-- at a stands a refusal of the class C -/
def Held (H : Hp) (a C : Addr) : Prop := H a = some (ExO (.ref C) a) ∨ ∃ d fs, H a = some (exo a C (some d)) ∧ H d = some (exd d fs)
/-- at a stands a refusal of the class C that bears y under f -/
def HeldF (H : Hp) (a C : Addr) (f : Str) (y : V) : Prop := ∃ d, H a = some (exo a C (some d)) ∧ H d = some (exd d [(f, y)])
theorem HeldF.held {H : Hp} {a C : Addr} {f : Str} {y : V} (h : HeldF H a C f y) : Held H a C := by
  obtain ⟨d, h1, h2⟩ := h
  exact .inr ⟨d, _, h1, h2⟩
theorem Held.keep {H H' : Hp} {a C : Addr} (h : Held H a C) (f : ∀ b o, H b = some o → H' b = some o) : Held H' a C := by
  rcases h with h | ⟨d, fs, h1, h2⟩
  · exact .inl (f _ _ h)
  · exact .inr ⟨d, fs, f _ _ h1, f _ _ h2⟩
theorem HeldF.keep {H H' : Hp} {a C : Addr} {n : Str} {y : V} (h : HeldF H a C n y) (f : ∀ b o, H b = some o → H' b = some o) : HeldF H' a C n y := by
  obtain ⟨d, h1, h2⟩ := h
  exact ⟨d, f _ _ h1, f _ _ h2⟩
theorem Fr.all {H H' : Hp} (f : Fr Non H H') : ∀ b o, H b = some o → H' b = some o := fun b o h => f.keep b o h id
/-- what stands there -/
theorem Held.inst {pins : List (Addr × Obj)} {σ : L2.St} {H : Hp} {s : Shared} {a : Addr} (I : L2.Inv X pins σ H s) (h : Held H a C) : ∃ ox od, PySem.W.InstAt s.heap a ox C od := by
  rcases h with h | ⟨d, fs, h1, h2⟩
  · obtain ⟨⟨oe, vs, e1, e2, e3, _⟩, _⟩ := I.hok a _ h
    obtain ⟨oc, od, oda, osl⟩ := oe
    obtain ⟨h1, h2⟩ := e2
    dsimp only at h1 h2 e3
    subst h1 h2 e3
    exact ⟨_, none, e1, rfl, rfl, trivial⟩
  · obtain ⟨⟨t1, e1⟩, _⟩ := I.hok a _ h1
    obtain ⟨⟨mA, hns, hr⟩, _⟩ := I.hok d _ h2
    obtain ⟨od, ho, _⟩ := lookIn_ns hns
    exact ⟨_, some od, e1, rfl, rfl, ho⟩
structure HoldC (K : PySem.W.Frag) (C : Addr) : Prop where
  cl : (PySem.W.clsIn K C).isSome = true
  ex : ExcC K C
def rIsV (K : PySem.W.Frag) : List V → Hp → VK → Prop := fun xs H Q => ∃ (a D : Addr) (c : V) (cv : Value) (b : Bool), Held H a D ∧ HoldC K D ∧ xs = [.ref a, c] ∧ ClsV c cv ∧ PySem.W.kitOne K (.ref D) cv = some b ∧ Q (.bl b) H
theorem call_isV : CallR X (.builtin "isinstance") (rIsV X.K) := by
  intro pins s σ H xs us Q I r h
  obtain ⟨a, D, c, cv, b, hh, hC, rfl, hv, e, q⟩ := h
  obtain ⟨u1, u2, rfl, r1, r2⟩ := vals2 r
  cases (show u1 = Value.ref a from r1)
  cases hv.eq r2
  obtain ⟨ox, od, J⟩ := hh.inst I
  have C := hC.ex
  exact PySem.W.kia_one (PySem.W.kitx_exc hC.cl C.hg C.hk C.hs C.ha C.hn C.ht C.hm) I.kIn J e (fun z => nomatch z) fun tk => ⟨.bl b, H, I.kept (t' := tk) fun _ _ z => z, rfl, q⟩
theorem x_isV {K : PySem.W.Frag} {a D : Addr} {c : V} {cv : Value} {b : Bool} {H : Hp} {Q : VK} (hh : Held H a D) (hC : HoldC K D) (hv : ClsV c cv) (e : PySem.W.kitOne K (.ref D) cv = some b) (q : Q (.bl b) H) : rIsV K [.ref a, c] H Q := ⟨a, D, c, cv, b, hh, hC, rfl, hv, e, q⟩
def rIsVT (K : PySem.W.Frag) : List V → Hp → VK → Prop := fun xs H Q => ∃ (a D tp : Addr) (cs : List V) (us : List Value) (b : Bool), Held H a D ∧ HoldC K D ∧ xs = [.ref a, .ref tp] ∧ H tp = some (.tup cs) ∧ Paired ClsV cs us ∧ PySem.W.kitAny K (.ref D) us = some b ∧ Q (.bl b) H
theorem call_isVT : CallR X (.builtin "isinstance") (rIsVT X.K) := by
  intro pins s σ H xs us Q I r h
  obtain ⟨a, D, tp, cs, ws, b, hh, hC, rfl, hT, k, e, q⟩ := h
  obtain ⟨u1, u2, rfl, r1, r2⟩ := vals2 r
  cases (show u2 = Value.ref tp from r2)
  cases (show u1 = Value.ref a from r1)
  obtain ⟨_, its, rv, o, h1, h2, n, h3⟩ := (show ObjOk X.prog X.w H s.heap tp (.tup cs) from I.hok tp _ hT)
  have e3 := ClsV.all k rv
  subst e3
  obtain ⟨oc, od, dt, sl⟩ := o
  simp only at h2 h3
  subst h2 h3
  obtain ⟨ox, od, J⟩ := hh.inst I
  have C := hC.ex
  exact PySem.W.kia_tup (PySem.W.kitx_exc hC.cl C.hg C.hk C.hs C.ha C.hn C.ht C.hm) I.kIn J h1 e (fun z => nomatch z) fun tk => ⟨.bl b, H, I.kept (t' := tk) fun _ _ z => z, rfl, q⟩
theorem x_isVT {K : PySem.W.Frag} {a D tp : Addr} {cs : List V} {us : List Value} {b : Bool} {H : Hp} {Q : VK} (hh : Held H a D) (hC : HoldC K D) (hT : H tp = some (.tup cs)) (hv : Paired ClsV cs us) (e : PySem.W.kitAny K (.ref D) us = some b) (q : Q (.bl b) H) : rIsVT K [.ref a, .ref tp] H Q := ⟨a, D, tp, cs, us, b, hh, hC, rfl, hT, hv, e, q⟩
/-- e.n -/
def tXg (K : PySem.W.Frag) (n : Str) (te : TE) : TE := fun σ H Q => te σ H fun x H1 => ∃ (a D : Addr) (y : V), x = .ref a ∧ XfC K D ∧ PySem.W.findIn K (.ref D) n = some none ∧ HeldF H1 a D n y ∧ Q y H1
theorem pe_xg {e : Expr} {te : TE} {pos : Pos} {n : Str} (he : PE X e te) (hb : attributeBase e n X.env (eval e X.env) = eval e X.env := by rfl) : PE X (.Attribute e n pos) (tXg X.K n te) := by
  refine ⟨fun pins s σ H Q I h => ?_⟩
  refine attr_of hb (thn (he.run pins s σ H _ I h) fun u s1 ⟨x, H1, I1, rx, a, D, y, ex, T, hno, ⟨d, h1, h2⟩, q⟩ => ?_)
  subst ex
  cases (show u = Value.ref a from rx)
  obtain ⟨⟨t1, e1⟩, _⟩ := I1.hok a _ h1
  obtain ⟨⟨mA, hns, hr⟩, _⟩ := I1.hok d _ h2
  obtain ⟨od, ho, hl⟩ := lookIn_ns hns
  have hy : RelO (some y) (mA n) := by
    have z := hr n
    rwa [show List.lookup n [(n, y)] = some y by simp [List.lookup]] at z
  obtain ⟨u, hu, ru⟩ := RelO.some_of hy
  have J : PySem.W.InstAt s1.heap a _ D (some od) := ⟨e1, rfl, rfl, ho⟩
  exact HandSPX.exc_get I1.kIn J T.ga T.gg T.exC (PySem.W.findObj_own T.hdC hno rfl (by rw [hl n, hu])) (handed_of ru) ⟨y, H1, I1.tok _, ru, q⟩
theorem x_xg {K : PySem.W.Frag} {n : Str} {a D : Addr} {y : V} {H : Hp} {Q : VK} (T : XfC K D) (hno : PySem.W.findIn K (.ref D) n = some none) (hh : HeldF H a D n y) (q : Q y H) : ∃ (a' D : Addr) (y : V), V.ref a = .ref a' ∧ XfC K D ∧ PySem.W.findIn K (.ref D) n = some none ∧ HeldF H a' D n y ∧ Q y H := ⟨a, D, y, rfl, T, hno, hh, q⟩
end
theorem x_xgV {K : PySem.W.Frag} {n : Str} {i : Nat} {a D : Addr} {y : V} {σ : L2.St} {H : Hp} {Q : VK} (hv : σ[i]? = some (some (.ref a))) (T : XfC K D) (hno : PySem.W.findIn K (.ref D) n = some none) (hh : HeldF H a D n y) (q : Q y H) : tXg K n (tVar i) σ H Q := ⟨.ref a, hv, a, D, y, rfl, T, hno, hh, q⟩
theorem x_mkV {C : Addr} {f : Str} {ta : TA} {σ : L2.St} {H : Hp} {Q : VK} (q : ta σ H (rMkV C f Q)) : tMkV C f ta σ H Q := q
theorem x_exc0A {C : Addr} {σ : L2.St} {H : Hp} {Q : VK} (q : ∀ a H', Fr Non H H' → Held H' a C → Q (.ref a) H') : tExc0 C σ H Q := fun a na => q a _ (Fr.new (Fr.refl H) na) (.inl upd_same)
theorem x_mkVA {C : Addr} {f : Str} {Q : VK} {y : V} {H : Hp} (q : ∀ a H', Fr Non H H' → HeldF H' a C f y → Q (.ref a) H') : rMkV C f Q [y] H := x_mkV0 fun a d na nd hn => q a _ (Fr.new (Fr.new (Fr.refl H) nd) (by show upd H d _ a = none; rw [upd_ne (Ne.symm hn)]; exact na)) ⟨d, upd_same, by rw [upd_ne hn]; exact upd_same⟩
theorem keepN {H : Hp} {p : Addr} {u : HO} (n : Fresh H p) : ∀ b o, H b = some o → upd H p u b = some o := fun b o e => (upd_ne (ne_fr e n)).trans e
/-! ### the fifteen -/
def names15 : List Str := ["NoKey", "NoLeaf", "NoStem", "NoText", "NoPlace", "NotRising", "NoRow", "NoTwig", "NotHeld", "Shared", "NoVersion", "Overlap", "Stale", "NoName", "Taken"]
def flds15 : List Str := ["", "", "", "at", "at", "at", "at", "number", "number", "number", "number", "key", "key", "name", "name"]
def clK (mg : Str → Option Value) (k : Nat) : Addr := (names15.map (clA mg)).getD k 0
def flK (k : Nat) : Str := flds15.getD k ""
def kgOne (K : PySem.W.Frag) (cs : List Addr) (te : Addr) (i : Nat) : Bool :=
  (PySem.W.clsIn K (cs.getD i 0)).isSome && (excCB K (cs.getD i 0) && (decide (PySem.W.kitOne K (.ref (cs.getD i 0)) (.ref te) = some true) && (decide (PySem.W.kitOne K (.ref (cs.getD i 0)) (.type "ValueError") = some true) &&
  ((List.range 15).all (fun j => decide (PySem.W.kitOne K (.ref (cs.getD i 0)) (.ref (cs.getD j 0)) = some (decide (i = j)))) &&
  (decide (PySem.W.kitAny K (.ref (cs.getD i 0)) [.ref (cs.getD 3 0), .ref (cs.getD 4 0), .ref (cs.getD 5 0), .ref (cs.getD 6 0)] = some (decide (3 ≤ i ∧ i < 7))) &&
  (decide (PySem.W.kitAny K (.ref (cs.getD i 0)) [.ref (cs.getD 7 0), .ref (cs.getD 8 0), .ref (cs.getD 9 0), .ref (cs.getD 10 0)] = some (decide (7 ≤ i ∧ i < 11))) &&
  decide (PySem.W.kitAny K (.ref (cs.getD i 0)) [.ref (cs.getD 11 0), .ref (cs.getD 12 0)] = some (decide (11 ≤ i ∧ i < 13)))))))))
def kgrid (K : PySem.W.Frag) (cs : List Addr) (te : Addr) : Bool := (List.range 15).all (kgOne K cs te)
structure KgOne (K : PySem.W.Frag) (cs : List Addr) (te : Addr) (i : Nat) : Prop where
  hold : HoldC K (cs.getD i 0)
  te : PySem.W.kitOne K (.ref (cs.getD i 0)) (.ref te) = some true
  ve : PySem.W.kitOne K (.ref (cs.getD i 0)) (.type "ValueError") = some true
  on : ∀ j, j < 15 → PySem.W.kitOne K (.ref (cs.getD i 0)) (.ref (cs.getD j 0)) = some (decide (i = j))
  a1 : PySem.W.kitAny K (.ref (cs.getD i 0)) [.ref (cs.getD 3 0), .ref (cs.getD 4 0), .ref (cs.getD 5 0), .ref (cs.getD 6 0)] = some (decide (3 ≤ i ∧ i < 7))
  a2 : PySem.W.kitAny K (.ref (cs.getD i 0)) [.ref (cs.getD 7 0), .ref (cs.getD 8 0), .ref (cs.getD 9 0), .ref (cs.getD 10 0)] = some (decide (7 ≤ i ∧ i < 11))
  a3 : PySem.W.kitAny K (.ref (cs.getD i 0)) [.ref (cs.getD 11 0), .ref (cs.getD 12 0)] = some (decide (11 ≤ i ∧ i < 13))
theorem kg_of {K : PySem.W.Frag} {cs : List Addr} {te : Addr} (h : kgrid K cs te = true) {i : Nat} (hi : i < 15) : KgOne K cs te i := by
  have z : kgOne K cs te i = true := List.all_eq_true.mp h i (List.mem_range.mpr hi)
  unfold kgOne at z
  simp only [Bool.and_eq_true, decide_eq_true_eq] at z
  obtain ⟨h1, h2, h3, h4, h5, h6, h7, h8⟩ := z
  refine ⟨⟨h1, excC_of h2⟩, h3, h4, fun j hj => ?_, h6, h7, h8⟩
  have y := List.all_eq_true.mp h5 j (List.mem_range.mpr hj)
  exact of_decide_eq_true y
/-- the fifteen made: es the refusals, ys what they were made of -/
structure Made (mg : Str → Option Value) (H : Hp) (es ys : List V) : Prop where
  le : es.length = 15
  at_ : ∀ k, k < 15 → ∃ a, es[k]? = some (.ref a) ∧ Held H a (clK mg k) ∧ (3 ≤ k → ∃ y, ys[k]? = some y ∧ HeldF H a (clK mg k) (flK k) y)
theorem len15 {α : Type} {ys : List α} (h : ys.length = 15) : ∃ y0 y1 y2 y3 y4 y5 y6 y7 y8 y9 y10 y11 y12 y13 y14, ys = [y0, y1, y2, y3, y4, y5, y6, y7, y8, y9, y10, y11, y12, y13, y14] :=
  match ys, h with
  | [_, _, _, _, _, _, _, _, _, _, _, _, _, _, _], _ => ⟨_, _, _, _, _, _, _, _, _, _, _, _, _, _, _, rfl⟩
theorem Made.keep {mg : Str → Option Value} {H H' : Hp} {es ys : List V} (h : Made mg H es ys) (f : ∀ b o, H b = some o → H' b = some o) : Made mg H' es ys := ⟨h.le, fun k hk => by
  obtain ⟨a, h1, h2, h3⟩ := h.at_ k hk
  refine ⟨a, h1, h2.keep f, fun h => ?_⟩
  obtain ⟨y, h4, h5⟩ := h3 h
  exact ⟨y, h4, h5.keep f⟩⟩
end Tw

/-! TwJ: sorted(xs, key=f), f an own def. -/
namespace Tw
open PySem PySem.W PySem.Spec PyProof.Rows L2
/-- the object at b is just o -/
def exactO (b : Addr) (o : Obj) : HO := .ext fun h => h.get? b = some o
theorem exact_ok {P : Program} {w : World} {H : Hp} {h : Heap} {b : Addr} {o : Obj} (e : h.get? b = some o) : ObjOk P w H h b (exactO b o) := ⟨e, ⟨o, e⟩, fun _ _ e1 k => k _ e1⟩
theorem exact_at {P : Program} {w : World} {H : Hp} {h : Heap} {b : Addr} {o : Obj} (hk : HOk P w H h) (e : H b = some (exactO b o)) : h.get? b = some o := (hk b _ e).1
theorem un_of {fs : List Addr} {H H' : Hp} {h h' : Heap} (hh : ∀ b o, h.get? b = some o → h'.get? b = some o) (hk : ∀ b o, H b = some o → H' b = some o) (hf : ∀ b o, h.get? b = some o → H b = none → H' b = none) : Un fs [] H H' h h' where
  keep := fun b o e _ _ _ => hh b o e
  slot := fun b o e _ _ _ => ⟨o.slots, hh b o e⟩
  free := fun b o e n _ => hf b o e n
  there := fun b o e _ => ⟨o, hh b o e⟩
  tups := fun b xs e => hk b _ e
  frzs := fun b o u e => hk b _ e
  tbls := fun b ps e => ⟨#[], by rw [Array.append_empty]; exact hk b _ e⟩
/-- what changes behind a frame at places that did not stand ahead of it -/
theorem un_more {fs : List Addr} {H H1 H2 : Hp} {h h1 h2 : Heap} (S : Addr → Prop) (un : Un fs [] H H1 h h1) (hS : ∀ b, S b → H b = none ∧ h.get? b = none) (hh : ∀ b o, ¬ S b → h1.get? b = some o → h2.get? b = some o) (hH : ∀ b, ¬ S b → H2 b = H1 b) : Un fs [] H H2 h h2 := by
  have hs1 : ∀ b (o : Obj), h.get? b = some o → ¬ S b := fun b o e s => by rw [(hS b s).2] at e; cases e
  have hs2 : ∀ b (o : HO), H b = some o → ¬ S b := fun b o e s => by rw [(hS b s).1] at e; cases e
  exact {
    keep := fun b o e n a c => hh b o (hs1 b o e) (un.keep b o e n a c)
    slot := fun b o e n a c => by
      obtain ⟨sl, z⟩ := un.slot b o e n a c
      exact ⟨sl, hh b _ (hs1 b o e) z⟩
    free := fun b o e n c => by rw [hH b (hs1 b o e)]; exact un.free b o e n c
    there := fun b o e c => by
      obtain ⟨o', z⟩ := un.there b o e c
      exact ⟨o', hh b _ (hs1 b o e) z⟩
    tups := fun b xs e => by rw [hH b (hs2 b _ e)]; exact un.tups b xs e
    frzs := fun b o u e => by rw [hH b (hs2 b _ e)]; exact un.frzs b o u e
    tbls := fun b ps e => by rw [hH b (hs2 b _ e)]; exact un.tbls b ps e }
/-- other things than own, tup stay what they are -/
theorem hok_more {P : Program} {w : World} {H1 H2 : Hp} {h1 h2 : Heap} (S : Addr → Prop) (hk : HOk P w H1 h1) (hS : ∀ b, S b → H1 b = none ∨ ∃ φ, H1 b = some (.ext φ)) (hh : ∀ b o, ¬ S b → h1.get? b = some o → h2.get? b = some o) (hH : ∀ b, ¬ S b → H2 b = H1 b)
    (hn : ∀ b o, S b → H2 b = some o → ObjOk P w H2 h2 b o) : HOk P w H2 h2 := by
  intro b o e
  by_cases hb : S b
  · exact hn b o hb e
  · rw [hH b hb] at e
    have no : ∀ c (u : HO), H1 c = some u → (∀ φ, u ≠ .ext φ) → ¬ S c := fun c u hc hu s => by
      rcases hS c s with z | ⟨φ, z⟩
      · rw [z] at hc; cases hc
      · rw [z] at hc; cases hc; exact hu φ rfl
    refine ObjOk.stay (hk b o e) (fun c u hc hu => ?_) (fun c hc => ?_) (fun c xs hc => ?_)
    · rcases hc with rfl | hc
      · exact hh _ u hb hu
      · exact hh c u (no c _ hc (fun φ z => by cases z)) hu
    · rw [hH c (no c _ hc (fun φ z => by cases z))]; exact hc
    · rw [hH c (no c _ hc (fun φ z => by cases z))]; exact hc
/-- the heap without what stands at b -/
def lessO (h : Heap) (b : Addr) : Heap := h.update b fun o => { o with data := .freed }
theorem lessO_ne {h : Heap} {b c : Addr} (n : c ≠ b) : (lessO h b).get? c = h.get? c := Heap.get?_update_ne h c b _ n
theorem lessO_at {h : Heap} {b : Addr} : (lessO h b).get? b = none := by
  unfold lessO Heap.update Heap.get?
  simp only [Array.getElem?_modify, if_pos rfl]
  cases h.objs[b]? with
  | none => rfl
  | some o => rfl
theorem each_reads {h : Heap} : ∀ {vs : List Value} {ds : List PyData} {as : List Addr}, ReadsAll h vs ds as → EachIs (fun v d => ∃ as, Reads h v d as) vs ds
  | _, _, _, .nil => .nil
  | _, _, _, .cons a b => .cons ⟨_, a⟩ (each_reads b)
theorem each_vals : ∀ {ps : List (V × PyData)} {out : List Value}, EachIs (fun v (p : V × PyData) => RelV p.1 v) out ps → Vals (ps.map Prod.fst) out
  | _, _, .nil => .nil
  | _, _, .cons a b => .cons a (each_vals b)
theorem vals_each : ∀ {xs : List V} {us : List Value} {ks : List PyData}, Vals xs us → ks.length = xs.length → EachIs (fun v (p : V × PyData) => RelV p.1 v) us (xs.zip ks)
  | _, _, [], .nil, _ => .nil
  | _, _, _ :: _, .cons a b, h => .cons a (vals_each b (by simpa using h))
theorem vals_get : ∀ {xs : List V} {us : List Value} {i : Nat} {v : Value}, Vals xs us → us[i]? = some v → ∃ y, xs[i]? = some y ∧ RelV y v
  | _, _, _, _, .nil, e => by simp at e
  | _, _, 0, _, .cons a b, e => by
    simp at e; subst e; exact ⟨_, rfl, a⟩
  | _, _, i + 1, _, .cons a b, e => by
    obtain ⟨y, h1, h2⟩ := vals_get (i := i) b (by simpa using e)
    exact ⟨y, by simpa using h1, h2⟩
theorem vals_size {xs : List V} {us : Array Value} (h : Vals xs us.toList) : us.size = xs.length := by
  have z := Vals.length h
  simp only [Array.length_toList] at z
  first | exact z | exact z.symm
theorem zip_snd : ∀ {xs : List V} {ks : List PyData}, ks.length = xs.length → (xs.zip ks).map Prod.snd = ks
  | [], [], _ => rfl
  | x :: xs, k :: ks, h => by rw [List.zip_cons_cons, List.map_cons, zip_snd (by simpa using h)]
/-- the sorted ones -/
def byKey (xs : List V) (ks : List PyData) : List (V × PyData) := (xs.zip ks).mergeSort (dataLe false Prod.snd)
def rSortK (K : Frag) (f : Addr) (sp : Sp) : List V → List V → Hp → VK → Prop := fun vs zs H Q => ∃ (l : Addr) (xs : List V) (ks : List PyData), vs = [.ref l] ∧ zs = [.ref f] ∧ SqL K H l xs ∧ ks.length = xs.length ∧ AllAlike ks ∧ Sortable ks ∧ (∀ d ∈ ks, d.depth ≤ 60) ∧
  (∀ (i : Nat) v d H', xs[i]? = some v → ks[i]? = some d → Fr Non H H' → sp [v] H' (fun u H'' => Fr Non H' H'' ∧ Dt H'' u d) E0) ∧
  ∀ p H', Fr Non H H' → Fresh H p → H' p = some (.lst ((byKey xs ks).map Prod.fst)) → Q (.ref p) H'
section
variable {X : Cx}
/-- list.sort(key=f) of a new list -/
theorem sort_core {k j : Nat} {f : Addr} {fd : FuncData} {x : Str} {sp : Sp} (F : FnOk X.prog X.w X.K X.mg X.base (L2.CX X.prog X.w) k f fd [x] sp) (hr : Room j X.A) (hk : k + 2 ≤ j) (hb : Binds X.K fd [x] []) {pins : List (Addr × Obj)} {s : Shared} {σ : L2.St} {H : Hp} {Q : VK} {its : List Value} {xs : List V} {ks : List PyData} {a : Addr} {hc : Heap} {E' : Value → Shared → Prop}
    (I : L2.Inv X pins σ H s) (ri : Vals xs its) (hlen : ks.length = xs.length) (hal : AllAlike ks) (hso : Sortable ks) (hdp : ∀ d ∈ ks, d.depth ≤ 60)
    (hcall : ∀ (i : Nat) v d H', xs[i]? = some v → ks[i]? = some d → Fr Non H H' → sp [v] H' (fun u H'' => Fr Non H' H'' ∧ Dt H'' u d) E0)
    (q : ∀ p H', Fr Non H H' → Fresh H p → H' p = some (.lst ((byKey xs ks).map Prod.fst)) → Q (.ref p) H') (hzi : its.length ≤ sizeLine) (hge : s.heap.objs.size ≤ a) (hca : hc.objs.size = a + 1) (ho : hc.get? a = some (seqObj "list" its.toArray 0))
    (hold : ∀ (b : Addr) (o : Obj), s.heap.get? b = some o → hc.get? b = some o) :
    wpAny (model X.prog X.w) X.A.in1.in1 (Builtin.«list.sort» ⟨[.ref a], [("key", .ref f)]⟩) (fun fl s' => fl = .done (.ret .none) ∧ EP X pins σ Q (.ref a) s') E' { s with heap := hc } := by
  have hil : its.length = xs.length := (Vals.length ri).symm
  show wpAny _ _ (ksk_tree a (.ref f) false) _ _ _
  obtain ⟨e1, ho1⟩ : ∃ e1, (hc.update a (Obj.mapSeq fun _ => #[])).get? a = some (seqObj "list" #[] e1) := ⟨_, get?_update_seq ho fun _ => #[]⟩
  have hold1 : ∀ (b : Addr) (o : Obj), s.heap.get? b = some o → (hc.update a (Obj.mapSeq fun _ => #[])).get? b = some o := fun b o e => by
    have hb : b < s.heap.objs.size := Heap.lt_size e
    have hne : b ≠ a := Nat.ne_of_lt (Nat.lt_of_lt_of_le hb hge)
    rw [Heap.get?_update_ne _ _ _ _ hne]
    exact hold b o e
  have hc1 : (hc.update a (Obj.mapSeq fun _ => #[])).objs.size = a + 1 := by rw [Heap.size_update]; exact hca
  unfold ksk_tree
  refine wpAny_bind (listItems_at ho rfl (wpAny_bind (listUpdate_at ho rfl (wpAny_bind (seqEpoch_at ho1 rfl (wpAny_bind (wpAny_newTuple (wpAny_bind (wpAny_newList (wpAny_holding ?_) (Nat.zero_le sizeLine))) ?_)))) ?_ ?_)))
  rotate_left
  · simp only [List.size_toArray]; exact hzi
  · simp only [List.size_toArray]; exact hzi
  · exact Nat.zero_le _
  dsimp only
  generalize hc.update a (Obj.mapSeq fun _ => #[]) = hd at ho1 hold1 hc1 ⊢
  obtain ⟨kS, ekS⟩ : ∃ kS, kS = (hd.push (seqObj "tuple" its.toArray 0)).objs.size := ⟨_, rfl⟩
  have ekS2 : kS = a + 2 := by rw [ekS, Heap.size_push, hc1]
  have hkS : ((hd.push (seqObj "tuple" its.toArray 0)).push (seqObj "list" #[] 0)).get? kS = some (seqObj "list" #[] 0) := Heap.get?_push_at ekS rfl
  have ha2 : ((hd.push (seqObj "tuple" its.toArray 0)).push (seqObj "list" #[] 0)).get? a = some (seqObj "list" #[] e1) := Heap.get?_push_of_some _ (Heap.get?_push_of_some _ ho1)
  have hold2 : ∀ (b : Addr) (o : Obj), s.heap.get? b = some o → ((hd.push (seqObj "tuple" its.toArray 0)).push (seqObj "list" #[] 0)).get? b = some o := fun b o e => Heap.get?_push_of_some _ (Heap.get?_push_of_some _ (hold1 b o e))
  show wpAny _ _ (ksk_rest a (.ref f) false its.toArray e1 (.ref (hd.push (seqObj "tuple" its.toArray 0)).objs.size)) _ _ _
  rw [← ekS]
  show wpAny _ _ _ _ _ ⟨(hd.push (seqObj "tuple" its.toArray 0)).push (seqObj "list" #[] 0), s.gens, s.drawn, s.toks, s.os⟩
  generalize (hd.push (seqObj "tuple" its.toArray 0)).push (seqObj "list" #[] 0) = h1 at hkS ha2 hold2 ⊢
  have hka : kS ≠ a := by omega
  have Ha : H a = none := I.hok.fresh (by omega)
  have HkS : H kS = none := I.hok.fresh (by omega)
  have sa : s.heap.get? a = none := Heap.get?_none_of_le (by omega)
  have skS : s.heap.get? kS = none := Heap.get?_none_of_le (by omega)
  have hnew : ∀ b, (b = a ∨ b = kS) → H b = none ∧ s.heap.get? b = none := fun b hb => by
    rcases hb with rfl | rfl
    · exact ⟨Ha, sa⟩
    · exact ⟨HkS, skS⟩
  clear hc1 ho1 hold1 hold ho hca ekS
  unfold ksk_rest
  refine wpAny_bind (wpAny_rule ?_)
  rw [List.forIn_toArray]
  refine wpAny_bind (ksk_fold (fun i s' => ∃ (Hn : Hp) (kvs : List V) (kA : Array Value) (e : Nat), s'.os = s.os ∧ AllBare s'.gens ∧ Un (frs X.stack) [] H Hn s.heap s'.heap ∧ HOk X.prog X.w Hn s'.heap ∧ Fr Non H Hn ∧
    Hn a = some (exactO a (seqObj "list" #[] e1)) ∧ Hn kS = some (exactO kS (seqObj "list" kA e)) ∧ Vals kvs kA.toList ∧ DtAll Hn kvs (ks.take i) ∧ kvs.length = i ∧ i ≤ its.length) its 0 _ ?_ ?_ ?_)
  · have n1 : Fresh (upd H a (exactO a (seqObj "list" #[] e1))) kS := by show upd H a _ kS = none; rw [upd_ne hka]; exact HkS
    have k2 : ∀ b (o : HO), H b = some o → upd (upd H a (exactO a (seqObj "list" #[] e1))) kS (exactO kS (seqObj "list" #[] 0)) b = some o := fun b o e => keepN n1 b o (keepN Ha b o e)
    refine ⟨upd (upd H a (exactO a (seqObj "list" #[] e1))) kS (exactO kS (seqObj "list" #[] 0)), [], #[], 0, rfl, I.bare, ?_, ?_, Fr.new (Fr.new (Fr.refl _) Ha) n1, by rw [upd_ne (Ne.symm hka)]; exact upd_same, upd_same, .nil, .nil, rfl, Nat.zero_le _⟩
    · refine un_of hold2 k2 fun b o e n => ?_
      have h1 : b ≠ kS := fun z => by rw [z, skS] at e; cases e
      have h2 : b ≠ a := fun z => by rw [z, sa] at e; cases e
      rw [upd_ne h1, upd_ne h2]; exact n
    · refine hok_more (fun b => b = a ∨ b = kS) I.hok (fun b hb => .inl (hnew b hb).1) (fun b o _ e => hold2 b o e) (fun b hb => ?_) (fun b o hb e => ?_)
      · rw [upd_ne (fun z => hb (.inr z)), upd_ne (fun z => hb (.inl z))]
      · rcases hb with rfl | rfl
        · rw [upd_ne (Ne.symm hka), upd_same] at e
          cases e; exact exact_ok ha2
        · rw [upd_same] at e
          cases e; exact exact_ok hkS
  · rintro i v s' hv ⟨Hn, kvs, kA, e, hos, hbare, un, hok, fr, Hna, HnkS, rkv, hdt, hkl, hi⟩
    rw [Nat.zero_add] at hdt hkl hi ⊢
    have hi2 : i < its.length := (List.getElem?_eq_some_iff.mp hv).1
    obtain ⟨y, hy, ry⟩ := vals_get ri hv
    obtain ⟨d, hd⟩ : ∃ d, ks[i]? = some d := ⟨_, List.getElem?_eq_getElem (by omega)⟩
    have hsp := hcall i y d Hn hy hd fr
    have In : L2.Inv X pins σ Hn s' := I.call' (ch := []) hos un hok hbare (fun _ h => nomatch h)
    have rv1 : Vals [y] [v] := .cons ry .nil
    have hb1 := hb s' [v] In.kIn rfl
    rw [List.append_nil] at hb1
    refine wpAny_bind (wpAny_attempt (wpAny_call (codeAny_mono (F.run X.A.in1.in1 X.stack s' Hn ⟨[v], []⟩ [v] [y] _ _ (Room.in1 (Room.in1 (hr.mono hk))) (In.env0.in1.in1) hb1 rv1 hsp) ?_)))
    intro r s'' hq'
    cases r with
    | error er =>
      obtain ⟨_, _, _, _, _, _, _, _, _, _, _, _, z⟩ := hq'
      exact z.elim
    | ok fl =>
      cases fl with
      | ret u =>
        obtain ⟨y2, H2, os2, bare2, un2, hok2, ru2, f2, d2⟩ := hq'
        have HkS2 := f2.all _ _ HnkS
        have Ha2 := f2.all _ _ Hna
        have nk2 := exact_at hok2 HkS2
        have na2 := exact_at hok2 Ha2
        obtain ⟨c2, hc2⟩ : ∃ c2, (s''.heap.update kS (Obj.mapSeq fun x => x.push u)).get? kS = some (seqObj "list" (kA.push u) c2) := ⟨_, get?_update_seq nk2 fun x => x.push u⟩
        have hks : kA.size ≤ its.length := by rw [vals_size rkv, hkl]; omega
        show wpAny _ _ _ _ _ _
        refine wpAny_bind (listUpdate_at nk2 rfl (wpAny_pure ⟨rfl, ?_⟩) (by omega) (by rw [Array.size_push]; omega))
        refine ⟨upd H2 kS (exactO kS (seqObj "list" (kA.push u) c2)), kvs ++ [y2], kA.push u, c2, os2.trans hos, bare2, ?_, ?_, ?_, ?_, upd_same, ?_, ?_, ?_, hi2⟩
        · refine un_more (fun b => b = kS) (un.trans un2) (fun b hb => hnew b (.inr hb)) (fun b o hb e => ?_) (fun b hb => upd_ne hb)
          show (s''.heap.update kS _).get? b = some o
          rw [Heap.get?_update_ne _ _ _ _ hb]; exact e
        · refine hok_more (fun b => b = kS) hok2 (fun b hb => .inr ⟨_, hb ▸ HkS2⟩) (fun b o hb e => ?_) (fun b hb => upd_ne hb) (fun b o hb e => ?_)
          · show (s''.heap.update kS _).get? b = some o
            rw [Heap.get?_update_ne _ _ _ _ hb]; exact e
          · subst hb
            rw [upd_same] at e
            cases e; exact exact_ok hc2
        · exact Fr.mut (fr.trans f2) HkS2 rfl (.inr HkS)
        · rw [upd_ne (Ne.symm hka)]; exact Ha2
        · rw [Array.toList_push]; exact Vals.append rkv (.cons ru2 .nil)
        · rw [List.take_succ, hd]
          exact DtAll.app ((hdt.mono f2).updm HkS2 rfl) (.one (d2.updm HkS2 rfl))
        · rw [List.length_append, hkl]; rfl
      | _ => exact hq'.elim
  · rintro s' ⟨Hn, kvs, kA, e, hos, hbare, un, hok, fr, Hna, HnkS, rkv, hdt, hkl, hi⟩
    rw [Nat.zero_add] at hdt hkl
    rw [List.take_of_length_le (by omega)] at hdt
    have In : L2.Inv X pins σ Hn s' := I.call' (ch := []) hos un hok hbare (fun _ h => nomatch h)
    have nk := exact_at hok HnkS
    have na := exact_at hok Hna
    obtain ⟨as, hR⟩ := Dp.readsAll In ks kvs kA.toList (DtAll.dp ks kvs hdt) rkv
    have hE := each_reads hR
    have hks : kA.size = its.length := by rw [vals_size rkv, hkl]
    refine wpAny_bind (listItems_at nk rfl ?_)
    refine keyH_end (h₁ := lessO s'.heap kS) (fun b o hb e => ?_) lessO_at nk na hka (SortsAt.data hE hal hso fun d hd => ?_) hks hzi fun h' tk c k3 n3 => ?_
    · by_cases h : b = kS
      · subst h; rw [lessO_at] at e; cases e
      · rwa [lessO_ne h] at e
    · have z := (Room.in1 (Room.in1 (hr.mono hk))).un
      have := hdp d hd
      omega
    · have hX : ∃ out : List Value, out = sortVals (dataKind s'.heap ks) false kA.toList its := ⟨_, rfl⟩
      obtain ⟨out, eo⟩ := hX
      have hko : KeyedOut false ((xs.zip ks).map Prod.snd) its out := by
        rw [zip_snd hlen]
        exact ⟨s'.heap, kA.toList, hal, eo, hE⟩
      have ho := each_vals (keyedOut_each Prod.snd hko (vals_each ri hlen))
      rw [← eo] at n3
      have hol : out.length ≤ sizeLine := by
        rw [← Vals.length ho, List.length_map, List.length_mergeSort, List.length_zip]; omega
      refine ⟨rfl, .ref a, upd (del Hn kS) a (.lst ((byKey xs ks).map Prod.fst)), I.call' (ch := []) hos ?_ ?_ hbare (fun _ h => nomatch h), rfl, q a _ ?_ Ha upd_same⟩
      · refine un_more (fun b => b = a ∨ b = kS) un hnew (fun b o hb e => ?_) (fun b hb => ?_)
        · exact k3 b o (fun z => hb (.inl z)) (by rw [lessO_ne (fun z => hb (.inr z))]; exact e)
        · rw [upd_ne (fun z => hb (.inl z)), del_ne (fun z => hb (.inr z))]
      · refine hok_more (fun b => b = a ∨ b = kS) hok (fun b hb => ?_) (fun b o hb e => ?_) (fun b hb => ?_) (fun b o hb e => ?_)
        · rcases hb with rfl | rfl
          · exact .inr ⟨_, Hna⟩
          · exact .inr ⟨_, HnkS⟩
        · exact k3 b o (fun z => hb (.inl z)) (by rw [lessO_ne (fun z => hb (.inr z))]; exact e)
        · rw [upd_ne (fun z => hb (.inl z)), del_ne (fun z => hb (.inr z))]
        · rcases hb with rfl | rfl
          · rw [upd_same] at e
            cases e
            exact ⟨by rw [show ((byKey xs ks).map Prod.fst).length = out.length from Vals.length ho]; exact hol, out, _, ho, n3⟩
          · rw [upd_ne hka, del_same] at e; cases e
      · refine ⟨fun b o e _ => ?_, fun b ys e => ?_, fun b e => ?_⟩
        · have h1 : b ≠ a := fun z => by rw [z, Ha] at e; cases e
          have h2 : b ≠ kS := fun z => by rw [z, HkS] at e; cases e
          rw [upd_ne h1, del_ne h2]; exact fr.all _ _ e
        · have h1 : b ≠ a := fun z => by rw [z, Ha] at e; cases e
          have h2 : b ≠ kS := fun z => by rw [z, HkS] at e; cases e
          rw [upd_ne h1, del_ne h2]; exact fr.tup _ _ e
        · by_cases h1 : b = a
          · subst h1; exact Ha
          · by_cases h2 : b = kS
            · subst h2; exact HkS
            · rw [upd_ne h1, del_ne h2] at e; exact fr.back b e
theorem cr_sortK {k j : Nat} {f : Addr} {fd : FuncData} {x : Str} {sp : Sp} (F : FnOk X.prog X.w X.K X.mg X.base (L2.CX X.prog X.w) k f fd [x] sp) (hr : Room j X.A) (hk : k + 2 ≤ j) (hb : Binds X.K fd [x] []) : CallRK X (.builtin "sorted") [Str.ofString "key"] (rSortK X.K f sp) := by
  intro pins s σ H vs zs us ws Q I rv rz h
  obtain ⟨l, xs, ks, rfl, rfl, hL, hlen, hal, hso, hdp, hcall, q⟩ := h
  cases rv with
  | @cons _ u0 _ _ ru rv' =>
  cases rv'
  cases rz with
  | @cons _ u1 _ _ ru1 rz' =>
  cases rz'
  cases (show u0 = Value.ref l from ru)
  cases (show u1 = Value.ref f from ru1)
  obtain ⟨its, ri, hpl, hz⟩ := I.list hL
  have hil : its.length = xs.length := (Vals.length ri).symm
  have hzi : its.length ≤ sizeLine := by omega
  obtain ⟨o0, n0, g1, g2, g3, g4⟩ := hpl
  show wpAny _ _ (call (.builtin "sorted") [.ref l] [("key", .ref f)]) _ _ _
  refine sorted_of_sort ⟨o0, g1, g2, n0, g4⟩ hzi (by rfl) (fun x => by rfl) fun E' => ?_
  obtain ⟨a, ea⟩ : ∃ a, a = s.heap.objs.size + 1 := ⟨_, rfl⟩
  rw [← ea]
  have hca : (copyHeap s.heap its).objs.size = a + 1 := by
    unfold copyHeap
    simp only [Heap.size_push, Heap.size_update]; omega
  have ho : (copyHeap s.heap its).get? a = some (seqObj "list" its.toArray 0) := Heap.get?_push_at (by simp only [Heap.size_push, Heap.size_update]; omega) rfl
  have hold : ∀ (b : Addr) (o : Obj), s.heap.get? b = some o → (copyHeap s.heap its).get? b = some o := fun b o e => by
    have hb : b < s.heap.objs.size := Heap.lt_size e
    refine Heap.get?_push_of_some _ ?_
    rw [Heap.get?_update_ne _ _ _ _ (Nat.ne_of_lt hb)]
    exact Heap.get?_push_of_some _ e
  generalize copyHeap s.heap its = hc at hca ho hold ⊢
  exact sort_core F hr hk hb I ri hlen hal hso hdp hcall q hzi (by omega) hca ho hold
/-- sorted(xs, key=f) -/
theorem cr_sortC {k j : Nat} {x y : Str} {sp : Sp} (c : CalX X.prog X.w X.K X.mg X.base k x [y] sp) (hr : Room j X.A) (hk : k + 2 ≤ j) : CallRK X (.builtin "sorted") [Str.ofString "key"] (rSortK X.K (clA X.mg x) sp) := by
  obtain ⟨f, fd, F, hm1, kp, b⟩ := c.ex
  rw [clA_of hm1]
  exact cr_sortK F hr hk b
theorem pe_defC {k : Nat} {x : Str} {ps : List Str} {sp : Sp} {p : Pos} (c : CalX X.prog X.w X.K X.mg X.base k x ps sp) (hg : Gl X x) (hdb : (x == ("__debug__" : Str)) = false := by decide) : PE X (.Name x p) (tC (.ref (clA X.mg x))) := by
  obtain ⟨f, fd, F, hm1, kp, b⟩ := c.ex
  rw [clA_of hm1]
  exact pe_glob hg hm1 rfl hdb
end
end Tw

/-! TwK: keys in order. -/
namespace Tw
open PySem PySem.W PySem.Spec PyProof.Rows L2
/-- rising, alike ones side by side -/
def upK (es : List PyData) : Prop := es.Pairwise fun a b => ltK b a = false
theorem upK_unique {r : Nat} {es fs : List PyData} (h1 : upK es) (h2 : upK fs) (p : es.Perm fs) (hk : ∀ d ∈ es, isK r d) : es = fs :=
  List.Perm.eq_of_pairwise (le := fun a b => ltK b a = false) (fun a b ha hb q1 q2 => ltK_tot (hk a ha) (hk b (p.mem_iff.mpr hb)) q2 q1) h1 h2 p
theorem dle_eq (a b : V × PyData) : dataLe false (fun p : V × PyData => rankD p.2) a b = !ltK b.2 a.2 := by rw [dataLe_eq]; rfl
/-- what sorted(.., key=rank) tells -/
theorem byKey_rank {H : Hp} {xs : List V} {ds : List PyData} (hd : DtAll H xs ds) : ∃ es, es.Perm ds ∧ upK es ∧ DtAll H ((byKey xs (ds.map rankD)).map Prod.fst) es := by
  have hl := hd.length
  have ez : (xs.zip ds).map (fun p : V × PyData => (p.1, rankD p.2)) = xs.zip (ds.map rankD) := by
    rw [List.zip_map_right]; rfl
  have e1 : byKey xs (ds.map rankD) = ((xs.zip ds).mergeSort (dataLe false fun p : V × PyData => rankD p.2)).map fun p => (p.1, rankD p.2) := by
    unfold byKey
    rw [← ez]
    exact (List.map_mergeSort (fun a _ b _ => by rw [dataLe_eq, dataLe_eq])).symm
  obtain ⟨zs, ezs⟩ : ∃ zs, zs = (xs.zip ds).mergeSort (dataLe false fun p : V × PyData => rankD p.2) := ⟨_, rfl⟩
  have hp : zs.Perm (xs.zip ds) := ezs ▸ List.mergeSort_perm _ _
  have hs : zs.Pairwise fun a b => dataLe false (fun p : V × PyData => rankD p.2) a b = true := by
    rw [ezs]
    refine List.pairwise_mergeSort (fun a b c h1 h2 => ?_) (fun a b => ?_) _
    · rw [dle_eq] at h1 h2 ⊢
      simp only [Bool.not_eq_true'] at h1 h2 ⊢
      cases h3 : ltK c.2 a.2 with
      | false => rfl
      | true =>
        rcases ltK_neg (b := b.2) h3 with h | h
        · rw [h] at h2; cases h2
        · rw [h] at h1; cases h1
    · rw [dle_eq, dle_eq]
      cases h3 : ltK b.2 a.2 with
      | false => rfl
      | true => rw [ltK_asymm h3]; rfl
  rw [e1, ← ezs]
  clear e1 ez ezs
  refine ⟨zs.map Prod.snd, ?_, ?_, ?_⟩
  · have := hp.map Prod.snd
    rwa [List.map_snd_zip (by omega)] at this
  · show (zs.map Prod.snd).Pairwise _
    rw [List.pairwise_map]
    refine hs.imp fun {a b} h => ?_
    rw [dle_eq, Bool.not_eq_true'] at h
    exact h
  · have hall : ∀ p ∈ zs, Dt H p.1 p.2 := fun p hm => by
      have hm2 := hp.mem_iff.mp hm
      obtain ⟨i, hi, e⟩ := List.getElem_of_mem hm2
      have h1 : xs[i]? = some p.1 := by
        rw [List.length_zip] at hi
        rw [List.getElem_zip] at e
        rw [List.getElem?_eq_getElem (by omega), ← e]
      have h2 : ds[i]? = some p.2 := by
        rw [List.length_zip] at hi
        rw [List.getElem_zip] at e
        rw [List.getElem?_eq_getElem (by omega), ← e]
      obtain ⟨d, g1, g2⟩ := hd.get h1
      rw [h2] at g1; cases g1; exact g2
    clear hs hp
    induction zs with
    | nil => exact .nil
    | cons z zs ih => exact .cons (hall z (List.mem_cons_self ..)) (ih fun p hp => hall p (List.mem_cons_of_mem _ hp))
theorem rank_sortable (ds : List PyData) : Sortable (ds.map rankD) := .inl fun d hd => by
  obtain ⟨e, _, rfl⟩ := List.mem_map.mp hd
  cases e <;> (rw [rankD]; exact ⟨_, _, rfl⟩)
theorem rank_allalike (ds : List PyData) : AllAlike (ds.map rankD) := fun d hd e he => by
  obtain ⟨a, _, rfl⟩ := List.mem_map.mp hd
  obtain ⟨b, _, rfl⟩ := List.mem_map.mp he
  exact rank_alike a b
/-- how many stand ahead of a key -/
def aheadN (es : List PyData) (d : PyData) : Nat := es.countP fun e => ltK e d
theorem aheadN_at {es : List PyData} {d : PyData} {n : Nat} (hn : n ≤ es.length) (h1 : ∀ i e, es[i]? = some e → i < n → ltK e d = true) (h2 : ∀ i e, es[i]? = some e → n ≤ i → ltK e d = false) : aheadN es d = n := by
  unfold aheadN
  have e : es = es.take n ++ es.drop n := (List.take_append_drop n es).symm
  rw [e, List.countP_append]
  have a1 : (es.take n).countP (fun e => ltK e d) = (es.take n).length := by
    rw [List.countP_eq_length]
    intro x hx
    obtain ⟨i, hi, rfl⟩ := List.getElem_of_mem hx
    rw [List.length_take] at hi
    refine h1 i _ ?_ (by omega)
    rw [List.getElem_take, List.getElem?_eq_getElem]
  have a2 : (es.drop n).countP (fun e => ltK e d) = 0 := by
    rw [List.countP_eq_zero]
    intro x hx
    obtain ⟨i, hi, rfl⟩ := List.getElem_of_mem hx
    rw [List.length_drop] at hi
    rw [h2 (n + i) _ (by rw [List.getElem_drop, List.getElem?_eq_getElem]) (by omega)]
    exact Bool.false_ne_true
  rw [a1, a2, List.length_take]; omega
theorem upK_get {es : List PyData} (h : upK es) {i j : Nat} {a b : PyData} (hij : i < j) (ha : es[i]? = some a) (hb : es[j]? = some b) : ltK b a = false := by
  obtain ⟨h1, rfl⟩ := List.getElem?_eq_some_iff.mp ha
  obtain ⟨h2, rfl⟩ := List.getElem?_eq_some_iff.mp hb
  exact List.pairwise_iff_getElem.mp h i j h1 h2 hij
theorem ltK_le_lt {a b c : PyData} (h1 : ltK b a = false) (h2 : ltK b c = true) : ltK a c = true := by
  rcases ltK_neg (b := a) h2 with h | h
  · rw [h] at h1; cases h1
  · exact h
theorem ltK_lt_le {a b c : PyData} (h1 : ltK a b = true) (h2 : ltK c b = false) : ltK a c = true := by
  rcases ltK_neg (b := c) h1 with h | h
  · exact h
  · rw [h] at h2; cases h2
/-- one more, put behind those that do not stand behind it -/
theorem upK_ins {es : List PyData} {d : PyData} {n : Nat} (h : upK es) (h1 : ∀ i e, es[i]? = some e → i < n → ltK d e = false) (h2 : ∀ e, es[n]? = some e → ltK d e = true) : upK (es.take n ++ [d] ++ es.drop n) := by
  unfold upK
  rw [List.append_assoc, List.pairwise_append]
  refine ⟨h.sublist (List.take_sublist _ _), ?_, ?_⟩
  · rw [List.singleton_append, List.pairwise_cons]
    refine ⟨fun x hx => ?_, h.sublist (List.drop_sublist _ _)⟩
    obtain ⟨i, hi, rfl⟩ := List.getElem_of_mem hx
    rw [List.length_drop] at hi
    have q0 : es[n]? = some es[n] := List.getElem?_eq_getElem (by omega)
    have q1 := h2 _ q0
    rw [List.getElem_drop]
    cases i with
    | zero => exact ltK_asymm q1
    | succ i =>
      have q2 := upK_get h (show n < n + (i + 1) by omega) q0 (List.getElem?_eq_getElem (by omega))
      exact ltK_asymm (ltK_lt_le q1 q2)
  · intro x hx y hy
    obtain ⟨i, hi, rfl⟩ := List.getElem_of_mem hx
    rw [List.length_take] at hi
    rw [List.getElem_take]
    have q0 : es[i]? = some es[i] := List.getElem?_eq_getElem (by omega)
    rw [List.singleton_append] at hy
    rcases List.mem_cons.mp hy with rfl | hy
    · exact h1 i _ q0 (by omega)
    · obtain ⟨j, hj, rfl⟩ := List.getElem_of_mem hy
      rw [List.length_drop] at hj
      rw [List.getElem_drop]
      exact upK_get h (show i < n + j by omega) q0 (List.getElem?_eq_getElem (by omega))
theorem perm_ins {α : Type} (es : List α) (d : α) (n : Nat) : (es.take n ++ [d] ++ es.drop n).Perm (es ++ [d]) := by
  have e : es.take n ++ [d] ++ es.drop n = es.take n ++ d :: es.drop n := by rw [List.append_assoc]; rfl
  have h := List.perm_middle (a := d) (l₁ := es.take n) (l₂ := es.drop n)
  rw [List.take_append_drop] at h
  rw [e]
  exact h.trans (List.perm_append_singleton d es).symm
/-- texts, numbers, tuples of no more than a thousand of these -/
def wideK : Nat → PyData → Prop
  | _, .int _ => True
  | _, .str _ => True
  | r + 1, .tuple ds => ds.length ≤ 1000 ∧ ∀ d ∈ ds, wideK r d
  | _, _ => False
theorem isK_wide : ∀ {r : Nat} {d : PyData}, isK r d → wideK r d
  | r, d, h => by
    rcases isK_cases h with ⟨i, rfl, hi⟩ | ⟨z, rfl, hz⟩ | ⟨r1, ds, rfl, rfl, hl, hs⟩
    · cases r <;> exact trivial
    · cases r <;> exact trivial
    · exact ⟨by omega, fun d hd => isK_wide (hs d hd)⟩
theorem wide_cases {r : Nat} {d : PyData} (h : wideK r d) : (∃ i, d = .int i) ∨ (∃ z, d = .str z) ∨ ∃ r1 ds, r = r1 + 1 ∧ d = .tuple ds ∧ ds.length ≤ 1000 ∧ ∀ e ∈ ds, wideK r1 e := by
  cases d with
  | int i => exact .inl ⟨i, rfl⟩
  | str z => exact .inr (.inl ⟨z, rfl⟩)
  | tuple ds =>
    cases r with
    | zero => exact h.elim
    | succ r => exact .inr (.inr ⟨r, ds, rfl, rfl, h.1, h.2⟩)
  | none => cases r <;> exact h.elim
  | bool b => cases r <;> exact h.elim
  | list b => cases r <;> exact h.elim
  | dict b => cases r <;> exact h.elim
end Tw

/-! TwL: the laws' reader of keys, sign by sign. -/
namespace Tw
open PySem PySem.Spec PyProof.Rows L2 TL
inductive Wd
  | wanted | opened | minus | figures | text | freed | behind
  deriving DecidableEq
/-- the reader's state; how many things stand in the tuples around, the innermost first -/
structure Rs where
  w : Wd
  n : Nat
  inn : List Nat
def upI : List Nat → List Nat
  | [] => []
  | j :: u => (j + 1) :: u
def begunR (inn : List Nat) (c : Nat) : Option Rs :=
  if c = 34 then some ⟨.text, 0, upI inn⟩
  else if c = 40 ∧ inn.length < 3 then some ⟨.opened, 0, 0 :: upI inn⟩
  else if c = 45 then some ⟨.minus, 0, upI inn⟩
  else if c = 48 then some ⟨.behind, 0, upI inn⟩
  else if 49 ≤ c ∧ c ≤ 57 then some ⟨.figures, 1, upI inn⟩
  else none
def withinR (w : Wd) (n : Nat) (inn : List Nat) (c : Nat) : Option Rs :=
  if w = .minus ∧ 49 ≤ c ∧ c ≤ 57 then some ⟨.figures, 1, inn⟩
  else if w = .freed ∧ (c = 34 ∨ c = 92) then some ⟨.text, n + 1, inn⟩
  else if w = .text ∧ c = 34 then some ⟨.behind, 0, inn⟩
  else if w ≠ .text ∨ n = 40 ∨ c < 32 ∨ 126 < c then none
  else if c = 92 then some ⟨.freed, n, inn⟩
  else some ⟨.text, n + 1, inn⟩
def roomR (many : Bool) : List Nat → Bool
  | [] => many
  | j :: _ => decide (j < 4)
def stepR (many : Bool) (s : Rs) (c : Nat) : Option Rs :=
  if s.w = .minus ∨ s.w = .text ∨ s.w = .freed then withinR s.w s.n s.inn c
  else if s.w = .opened ∧ c = 41 then some ⟨.behind, 0, s.inn.tail⟩
  else if s.w = .opened ∨ s.w = .wanted then begunR s.inn c
  else if s.w = .figures ∧ digC c = true ∧ s.n < 60 then some ⟨.figures, s.n + 1, s.inn⟩
  else if c = 41 ∧ s.inn ≠ [] then some ⟨.behind, 0, s.inn.tail⟩
  else if c = 32 ∧ roomR many s.inn = true then some ⟨.wanted, 0, s.inn⟩
  else none
def goodR (s : Rs) : Bool := decide (s.w = .figures ∨ s.w = .behind) && s.inn.isEmpty
/-- the first sign with which it can't go on -/
def bad (many : Bool) : Rs → List Nat → Option Nat
  | s, [] => if goodR s = true then none else some 0
  | s, c :: l => match stepR many s c with
    | none => some 0
    | some t => (bad many t l).map (· + 1)
section
variable {m : Bool}
theorem bad_none {s : Rs} {c : Nat} {l : List Nat} (h : stepR m s c = none) : bad m s (c :: l) = some 0 := by rw [bad, h]
theorem bad_some {s t : Rs} {c : Nat} {l : List Nat} (h : stepR m s c = some t) : bad m s (c :: l) = (bad m t l).map (· + 1) := by rw [bad, h]
theorem map_add (o : Option Nat) (a b : Nat) : (o.map (· + a)).map (· + b) = o.map (· + (a + b)) := by
  cases o with
  | none => rfl
  | some x => simp only [Option.map_some]; congr 1; omega
theorem map_zero (o : Option Nat) : o.map (· + 0) = o := by cases o <;> rfl
theorem step_within {s : Rs} {c : Nat} (h : s.w = .minus ∨ s.w = .text ∨ s.w = .freed) : stepR m s c = withinR s.w s.n s.inn c := by unfold stepR; rw [if_pos h]
theorem step_text {n c : Nat} {inn : List Nat} : stepR m ⟨.text, n, inn⟩ c = withinR .text n inn c := step_within (.inr (.inl rfl))
theorem step_freed {n c : Nat} {inn : List Nat} : stepR m ⟨.freed, n, inn⟩ c = withinR .freed n inn c := step_within (.inr (.inr rfl))
theorem step_minus {n c : Nat} {inn : List Nat} : stepR m ⟨.minus, n, inn⟩ c = withinR .minus n inn c := step_within (.inl rfl)
theorem step_wanted {n c : Nat} {inn : List Nat} : stepR m ⟨.wanted, n, inn⟩ c = begunR inn c := by
  unfold stepR
  rw [if_neg (by rintro (h | h | h) <;> cases h), if_neg (by rintro ⟨h, _⟩; cases h), if_pos (.inr rfl)]
theorem step_opened {n c : Nat} {inn : List Nat} (hc : c ≠ 41) : stepR m ⟨.opened, n, inn⟩ c = begunR inn c := by
  unfold stepR
  rw [if_neg (by rintro (h | h | h) <;> cases h), if_neg (fun h => hc h.2), if_pos (.inl rfl)]
theorem step_shut {n : Nat} {inn : List Nat} : stepR m ⟨.opened, n, inn⟩ 41 = some ⟨.behind, 0, inn.tail⟩ := by
  unfold stepR
  rw [if_neg (by rintro (h | h | h) <;> cases h), if_pos ⟨rfl, rfl⟩]
def behindR (many : Bool) (inn : List Nat) (c : Nat) : Option Rs :=
  if c = 41 ∧ inn ≠ [] then some ⟨.behind, 0, inn.tail⟩
  else if c = 32 ∧ roomR many inn = true then some ⟨.wanted, 0, inn⟩
  else none
theorem step_behind {n c : Nat} {inn : List Nat} : stepR m ⟨.behind, n, inn⟩ c = behindR m inn c := by
  unfold stepR
  rw [if_neg (by rintro (h | h | h) <;> cases h), if_neg (by rintro ⟨h, _⟩; cases h), if_neg (by rintro (h | h) <;> cases h), if_neg (by rintro ⟨h, _⟩; cases h)]; rfl
theorem step_fig {n c : Nat} {inn : List Nat} (hc : digC c = true) (hn : n < 60) : stepR m ⟨.figures, n, inn⟩ c = some ⟨.figures, n + 1, inn⟩ := by
  unfold stepR
  rw [if_neg (by rintro (h | h | h) <;> cases h), if_neg (by rintro ⟨h, _⟩; cases h), if_neg (by rintro (h | h) <;> cases h), if_pos ⟨rfl, hc, hn⟩]
theorem step_figN {n c : Nat} {inn : List Nat} (h : digC c = false ∨ ¬ n < 60) : stepR m ⟨.figures, n, inn⟩ c = behindR m inn c := by
  unfold stepR
  rw [if_neg (by rintro (h | h | h) <;> cases h), if_neg (by rintro ⟨h, _⟩; cases h), if_neg (by rintro (h | h) <;> cases h), if_neg (by
    rintro ⟨_, h1, h2⟩
    rcases h with h | h
    · rw [h1] at h; cases h
    · exact h h2)]; rfl
theorem digC_iff {c : Nat} : digC c = true ↔ 48 ≤ c ∧ c ≤ 57 := by unfold digC; rw [Bool.and_eq_true, decide_eq_true_eq, decide_eq_true_eq]
theorem behindR_dig {c : Nat} {inn : List Nat} (h : digC c = true) : behindR m inn c = none := by
  have := digC_iff.mp h
  unfold behindR
  rw [if_neg (by omega), if_neg (by omega)]
/-- behind the figures of a number -/
theorem bad_fig {n : Nat} {inn : List Nat} {l : List Nat} (h : ∀ c, l.head? = some c → digC c = false) : bad m ⟨.figures, n, inn⟩ l = bad m ⟨.behind, 0, inn⟩ l := by
  cases l with
  | nil => rfl
  | cons c l =>
    rw [bad, bad, step_figN (.inl (h c rfl)), step_behind]
theorem bad_opened {n n2 : Nat} {inn : List Nat} {l : List Nat} (h : l.head? ≠ some 41) : bad m ⟨.opened, n, inn⟩ l = bad m ⟨.wanted, n2, inn⟩ l := by
  cases l with
  | nil => rfl
  | cons c l =>
    rw [bad, bad, step_opened (fun e => h (by rw [e]; rfl)), step_wanted]

/-! ### one sign of a text -/
def sgn : List Nat → Except Nat (Nat × Nat)
  | [] => .error 0
  | [c] => if c < 32 ∨ 126 < c then .error 0 else if c = 92 then .error 1 else .ok (c, 1)
  | c :: d :: _ => if c < 32 ∨ 126 < c then .error 0 else if c = 92 then (if d = 34 ∨ d = 92 then .ok (d, 2) else .error 1) else .ok (c, 1)
theorem sgn_one {c : Nat} : sgn [c] = if c < 32 ∨ 126 < c then .error 0 else if c = 92 then .error 1 else .ok (c, 1) := rfl
theorem sgn_two {c d : Nat} {l : List Nat} : sgn (c :: d :: l) = if c < 32 ∨ 126 < c then .error 0 else if c = 92 then (if d = 34 ∨ d = 92 then .ok (d, 2) else .error 1) else .ok (c, 1) := rfl
theorem within_text {n c : Nat} {inn : List Nat} (hn : n ≠ 40) (hc : c ≠ 34) : withinR .text n inn c = if c < 32 ∨ 126 < c then none else if c = 92 then some ⟨.freed, n, inn⟩ else some ⟨.text, n + 1, inn⟩ := by
  unfold withinR
  rw [if_neg (by rintro ⟨h, _⟩; cases h), if_neg (by rintro ⟨h, _⟩; cases h), if_neg (by rintro ⟨_, h⟩; exact hc h)]
  by_cases h : c < 32 ∨ 126 < c
  · rw [if_pos (.inr (.inr h)), if_pos h]
  · rw [if_neg (by
      rintro (h1 | h1 | h1)
      · exact h1 rfl
      · exact hn h1
      · exact h h1), if_neg h]
theorem within_freed {n c : Nat} {inn : List Nat} : withinR .freed n inn c = if c = 34 ∨ c = 92 then some ⟨.text, n + 1, inn⟩ else none := by
  unfold withinR
  rw [if_neg (by rintro ⟨h, _⟩; cases h)]
  by_cases h : c = 34 ∨ c = 92
  · rw [if_pos ⟨rfl, h⟩, if_pos h]
  · rw [if_neg (by rintro ⟨_, h1⟩; exact h h1), if_neg (by rintro ⟨h, _⟩; cases h), if_pos (.inl (fun e => nomatch e)), if_neg h]
theorem sgn_error {n e : Nat} {inn : List Nat} {l : List Nat} (hn : n ≠ 40) (hl : l.head? ≠ some 34) (h : sgn l = .error e) : bad m ⟨.text, n, inn⟩ l = some e := by
  cases l with
  | nil => cases h; rfl
  | cons c l =>
    have hc : c ≠ 34 := fun e => hl (by rw [e]; rfl)
    cases l with
    | nil =>
      first | rw [sgn_one] at h | rw [sgn_two] at h
      by_cases h1 : c < 32 ∨ 126 < c
      · rw [if_pos h1] at h; cases h
        exact bad_none (by rw [step_text, within_text hn hc, if_pos h1])
      · rw [if_neg h1] at h
        by_cases h2 : c = 92
        · rw [if_pos h2] at h; cases h
          rw [bad_some (by rw [step_text, within_text hn hc, if_neg h1, if_pos h2])]; rfl
        · rw [if_neg h2] at h; cases h
    | cons d l =>
      first | rw [sgn_one] at h | rw [sgn_two] at h
      by_cases h1 : c < 32 ∨ 126 < c
      · rw [if_pos h1] at h; cases h
        exact bad_none (by rw [step_text, within_text hn hc, if_pos h1])
      · rw [if_neg h1] at h
        by_cases h2 : c = 92
        · rw [if_pos h2] at h
          by_cases h3 : d = 34 ∨ d = 92
          · rw [if_pos h3] at h; cases h
          · rw [if_neg h3] at h; cases h
            rw [bad_some (by rw [step_text, within_text hn hc, if_neg h1, if_pos h2]), bad_none (by rw [step_freed, within_freed, if_neg h3])]; rfl
        · rw [if_neg h2] at h; cases h
theorem sgn_ok {n c' e : Nat} {inn : List Nat} {l : List Nat} (hn : n ≠ 40) (hl : l.head? ≠ some 34) (h : sgn l = .ok (c', e)) :
    (32 ≤ c' ∧ c' ≤ 126) ∧ e = (esc1 c').length ∧ l = esc1 c' ++ l.drop e ∧ bad m ⟨.text, n, inn⟩ l = (bad m ⟨.text, n + 1, inn⟩ (l.drop e)).map (· + e) := by
  cases l with
  | nil => cases h
  | cons c l =>
    have hc : c ≠ 34 := fun e => hl (by rw [e]; rfl)
    have one : ∀ (h1 : ¬ (c < 32 ∨ 126 < c)) (h2 : c ≠ 92), (32 ≤ c ∧ c ≤ 126) ∧ 1 = (esc1 c).length ∧ c :: l = esc1 c ++ (c :: l).drop 1 ∧ bad m ⟨.text, n, inn⟩ (c :: l) = (bad m ⟨.text, n + 1, inn⟩ ((c :: l).drop 1)).map (· + 1) := fun h1 h2 => by
      have e1 : esc1 c = [c] := by unfold esc1; rw [if_neg (by rintro (h | h); exact hc h; exact h2 h)]
      rw [e1]
      exact ⟨by omega, rfl, rfl, bad_some (by rw [step_text, within_text hn hc, if_neg h1, if_neg h2])⟩
    cases l with
    | nil =>
      first | rw [sgn_one] at h | rw [sgn_two] at h
      by_cases h1 : c < 32 ∨ 126 < c
      · rw [if_pos h1] at h; cases h
      · rw [if_neg h1] at h
        by_cases h2 : c = 92
        · rw [if_pos h2] at h; cases h
        · rw [if_neg h2] at h; cases h
          exact one h1 h2
    | cons d l =>
      first | rw [sgn_one] at h | rw [sgn_two] at h
      by_cases h1 : c < 32 ∨ 126 < c
      · rw [if_pos h1] at h; cases h
      · rw [if_neg h1] at h
        by_cases h2 : c = 92
        · rw [if_pos h2] at h
          by_cases h3 : d = 34 ∨ d = 92
          · rw [if_pos h3] at h
            obtain ⟨rfl, rfl⟩ : d = c' ∧ 2 = e := by injection h with h; injection h with h h'; exact ⟨h, h'⟩
            have e1 : esc1 d = [92, d] := by unfold esc1; rw [if_pos h3]
            rw [e1, h2]
            refine ⟨by omega, rfl, rfl, ?_⟩
            rw [bad_some (by rw [step_text, within_text hn (by decide), if_neg (by decide), if_pos rfl]), bad_some (by rw [step_freed, within_freed, if_pos h3]), map_add]; rfl
          · rw [if_neg h3] at h; cases h
        · rw [if_neg h2] at h; cases h
          exact one h1 h2

/-! ### figures -/
theorem numL_of : ∀ (k : Nat) (ds : List Nat), ds.length = k + 1 → (∀ c ∈ ds, 48 ≤ c ∧ c ≤ 57) → ds.head? ≠ some 48 → ∃ n, numL n = ds ∧ n ≠ 0
  | 0, ds, hl, hd, hh => by
    obtain ⟨c, rfl⟩ := List.length_eq_one_iff.mp hl
    have := hd c (List.mem_cons_self ..)
    have h2 : c ≠ 48 := fun e => hh (by rw [e]; rfl)
    refine ⟨c - 48, ?_, by omega⟩
    rw [numL_lt (by omega)]
    congr 1; omega
  | k + 1, ds, hl, hd, hh => by
    have hne : ds ≠ [] := fun e => by rw [e] at hl; cases hl
    have e := List.dropLast_concat_getLast hne
    generalize ds.getLast hne = c at e
    generalize ds.dropLast = es at e
    subst e
    rw [List.length_append] at hl
    have hel : es.length = k + 1 := Nat.succ.inj hl
    obtain ⟨n, h1, h2⟩ := numL_of k es hel (fun c hc => hd c (List.mem_append_left _ hc)) (fun h => hh (by rw [List.head?_append, h]; rfl))
    have hc := hd c (List.mem_append_right _ (List.mem_singleton.mpr rfl))
    refine ⟨n * 10 + (c - 48), ?_, by omega⟩
    rw [numL_step (by omega)]
    have e1 : (n * 10 + (c - 48)) / 10 = n := by omega
    have e2 : (n * 10 + (c - 48)) % 10 = c - 48 := by omega
    rw [e1, e2, h1]
    congr 2; omega
theorem numL_big : ∀ (k n : Nat), 10 ^ k ≤ n → k < (numL n).length
  | 0, n, _ => List.length_pos_iff.mpr (numL_ne n)
  | k + 1, n, h => by
    rw [Nat.pow_succ] at h
    have h1 : 1 ≤ 10 ^ k := Nat.pow_pos (by decide)
    rw [numL_step (by omega), List.length_append]
    have := numL_big k (n / 10) ((Nat.le_div_iff_mul_le (by decide)).mpr h)
    exact Nat.succ_lt_succ this
theorem numL_60' {n : Nat} (h : (numL n).length ≤ 60) : n < 10 ^ 60 := by
  rcases Nat.lt_or_ge n (10 ^ 60) with h1 | h1
  · exact h1
  · have := numL_big 60 n h1; omega
/-- figures, perhaps behind a minus, write a number -/
theorem intL_of {ds : List Nat} {neg : Bool} (hd : ∀ c ∈ ds, 48 ≤ c ∧ c ≤ 57) (h0 : ds ≠ []) (h1 : ds.length ≤ 60) (hh : ds.head? ≠ some 48) : ∃ i, numOk i ∧ intL i = (if neg = true then 45 :: ds else ds) ∧ intText? (strOf (intL i)) = some i := by
  obtain ⟨n, e, hn⟩ := numL_of (ds.length - 1) ds (by have := List.length_pos_iff.mpr h0; omega) hd hh
  have hb : n < 10 ^ 60 := numL_60' (by rw [e]; exact h1)
  have hbi : ((n : Nat) : Int) < (10 : Int) ^ 60 := by
    have e2 : ((10 ^ 60 : Nat) : Int) = (10 : Int) ^ 60 := by decide
    rw [← e2]; exact Int.ofNat_lt.mpr hb
  have h10 : (0 : Int) < (10 : Int) ^ 60 := by decide
  cases neg with
  | false =>
    refine ⟨n, ⟨by generalize (10 : Int) ^ 60 = t at *; omega, hbi⟩, ?_, ?_⟩
    · rw [intL_nat, e]; rfl
    · rw [intL_nat]; exact int_back_nat hb
  | true =>
    obtain ⟨k, rfl⟩ : ∃ k, n = k + 1 := ⟨n - 1, by omega⟩
    refine ⟨Int.negSucc k, ⟨?_, ?_⟩, ?_, ?_⟩
    · have e3 : Int.negSucc k = -((k + 1 : Nat) : Int) := rfl
      rw [e3]; generalize (10 : Int) ^ 60 = t at *; omega
    · have e3 : Int.negSucc k = -((k + 1 : Nat) : Int) := rfl
      rw [e3]; generalize (10 : Int) ^ 60 = t at *; omega
    · rw [intL_neg, e]; rfl
    · rw [intL_neg]
      have e3 : Int.negSucc k = -((k + 1 : Nat) : Int) := rfl
      rw [e3]; exact int_back_neg hb
theorem intL_zero : intL 0 = [48] := by decide +kernel
theorem bad_full {inn : List Nat} {l : List Nat} (h : l.head? ≠ some 34) : bad m ⟨.text, 40, inn⟩ l = some 0 := by
  cases l with
  | nil => rfl
  | cons c l =>
    refine bad_none ?_
    rw [step_text]
    unfold withinR
    rw [if_neg (by rintro ⟨h, _⟩; cases h), if_neg (by rintro ⟨h, _⟩; cases h), if_neg (by rintro ⟨_, h1⟩; exact h (by rw [h1]; rfl)), if_pos (.inr (.inl rfl))]
theorem bad_quote {n : Nat} {inn : List Nat} {l : List Nat} : bad m ⟨.text, n, inn⟩ (34 :: l) = (bad m ⟨.behind, 0, inn⟩ l).map (· + 1) := by
  refine bad_some ?_
  rw [step_text]
  unfold withinR
  rw [if_neg (by rintro ⟨h, _⟩; cases h), if_neg (by rintro ⟨h, _⟩; cases h), if_pos ⟨rfl, rfl⟩]
/-- it is refused with NoText of a place -/
def Refuses (mg : Str → Option Value) (H : Hp) (E : XK) (n : Nat) : Prop := ∀ d H', Fr Non H H' → H' d = some (.xd [("at", .int (n : Int))]) → E (.ref (clA mg "NoText")) (some d) H'
theorem Refuses.mono {mg : Str → Option Value} {H H1 : Hp} {E : XK} {n : Nat} (h : Refuses mg H E n) (f : Fr Non H H1) : Refuses mg H1 E n := fun d H' g e => h d H' (f.trans g) e
theorem head_34 {l : List Nat} : decide (sgO l.head? = Str.ofString "\"") = decide (l.head? = some 34) := by
  cases l with
  | nil => decide +kernel
  | cons c l =>
    rw [List.head?_cons, sg_eq c 34 _ sg_q]
    exact decide_eq_decide.mpr ⟨fun h => by rw [h], fun h => by injection h⟩
theorem sgO_dec (o : Option Nat) (x : Nat) (s : String) (h : Str.ofString s = ⟨#[x]⟩) : decide (sgO o = Str.ofString s) = decide (o = some x) := by
  cases o with
  | none =>
    rw [h]
    exact decide_eq_decide.mpr ⟨fun h => (by
      injection h with h
      have := congrArg Array.size h
      cases this), fun h => nomatch h⟩
  | some c =>
    rw [sg_eq c x s h]
    exact decide_eq_decide.mpr ⟨fun h => by rw [h], fun h => by injection h⟩
theorem encMore_snoc (d : PyData) : ∀ es : List PyData, encMore (es ++ [d]) = encMore es ++ 32 :: encL d
  | [] => by rw [List.nil_append, encMore, encMore, encMore, List.append_nil]; rfl
  | e :: es => by rw [List.cons_append, encMore, encMore, encMore_snoc d es, List.cons_append, List.append_assoc]
theorem encAll_snoc {ds : List PyData} (d : PyData) (h : ds ≠ []) : encAll (ds ++ [d]) = encAll ds ++ 32 :: encL d := by
  cases ds with
  | nil => exact absurd rfl h
  | cons e es => rw [List.cons_append, encAll, encAll, encMore_snoc, List.append_assoc]
theorem behindR_shut {j : Nat} {u : List Nat} : behindR m (j :: u) 41 = some ⟨.behind, 0, u⟩ := by
  unfold behindR
  rw [if_pos ⟨rfl, fun e => nomatch e⟩]; rfl
theorem behindR_more {j : Nat} {u : List Nat} (h : j < 4) : behindR m (j :: u) 32 = some ⟨.wanted, 0, j :: u⟩ := by
  unfold behindR
  rw [if_neg (by rintro ⟨h, _⟩; exact absurd h (by decide)), if_pos ⟨rfl, decide_eq_true h⟩]
theorem behindR_no {inn : List Nat} {c : Nat} (h : c ≠ 41 ∨ inn = []) (h2 : c ≠ 32 ∨ roomR m inn = false) : behindR m inn c = none := by
  unfold behindR
  rw [if_neg (by
    rintro ⟨a, b⟩
    rcases h with h | h
    · exact h a
    · exact b h), if_neg (by
    rintro ⟨a, b⟩
    rcases h2 with h2 | h2
    · exact h2 a
    · rw [h2] at b; cases b)]
theorem bad_behind {j n : Nat} {u : List Nat} {l : List Nat} (h : l.head? ≠ some 41) (h2 : l.head? = some 32 → ¬ j < 4) : bad m ⟨.behind, n, j :: u⟩ l = some 0 := by
  cases l with
  | nil => rfl
  | cons c l =>
    refine bad_none ?_
    rw [step_behind]
    refine behindR_no (.inl fun e => h (by rw [e]; rfl)) ?_
    by_cases hc : c = 32
    · exact .inr (decide_eq_false (h2 (by rw [hc]; rfl)))
    · exact .inl hc
/-- what key_from tells of a place -/
def R_key_from (mg : Str → Option Value) (r : Nat) : V → V → V → Hp → VK → XK → Prop := fun t n rm H Q E => ∃ (z : Str) (k : Nat) (m : Bool) (inn : List Nat), t = .str z ∧ n = .int k ∧ rm = .int (r : Int) ∧ z.length ≤ 1000000 ∧ inn.length + r = 3 ∧
  (∀ d rest p v H', isK r d → z.cps.toList.drop k = encL d ++ rest → bad m ⟨.wanted, 0, inn⟩ (z.cps.toList.drop k) = (bad m ⟨.behind, 0, upI inn⟩ rest).map (· + (encL d).length) → Fr Non H H' → H' p = some (.tup [v, .int ((k + (encL d).length : Nat) : Int)]) → Dt H' v d → Q (.ref p) H') ∧
  (∀ e, bad m ⟨.wanted, 0, inn⟩ (z.cps.toList.drop k) = some e → Refuses mg H E (k + e))
def R_parts_from (mg : Str → Option Value) (r : Nat) : V → V → V → Hp → VK → XK → Prop := fun t n rm H Q E => ∃ (z : Str) (k : Nat) (m : Bool) (u : List Nat), t = .str z ∧ n = .int k ∧ rm = .int (r : Int) ∧ z.length ≤ 1000000 ∧ u.length + 1 + r = 3 ∧
  (∀ ds rest p v H', (∀ d ∈ ds, isK r d) → ds.length ≤ 4 → z.cps.toList.drop k = encAll ds ++ 41 :: rest → bad m ⟨.opened, 0, 0 :: u⟩ (z.cps.toList.drop k) = (bad m ⟨.behind, 0, u⟩ rest).map (· + ((encAll ds).length + 1)) → Fr Non H H' → H' p = some (.tup [v, .int ((k + (encAll ds).length + 1 : Nat) : Int)]) → Dt H' v (.tuple ds) → Q (.ref p) H') ∧
  (∀ e, bad m ⟨.opened, 0, 0 :: u⟩ (z.cps.toList.drop k) = some e → Refuses mg H E (k + e))
end
end Tw

/-! TwM: the laws' reader of keys as tuples; texts made; refusals with a field, caught. -/
namespace Tw
open PySem PySem.Spec PyProof.Rows L2 TL
/-! ### signs up to the last printable one -/
def okT (z : Str) : Prop := ∀ c ∈ z.cps.toList, c ≤ 126
theorem okT_app {a b : Str} (h : okT a) (k : okT b) : okT (a ++ b) := fun c hc => by
  rw [str_app] at hc
  rcases List.mem_append.mp hc with hc | hc
  · exact h c hc
  · exact k c hc
theorem cut_list (z : Str) (lo hi : Option Int) : (cutS z lo hi).cps.toList = (z.cps.toList.drop (HT.sIx z.length 0 lo)).take (HT.sIx z.length z.length hi - HT.sIx z.length 0 lo) := rfl
theorem okT_cut {z : Str} (h : okT z) (lo hi : Option Int) : okT (cutS z lo hi) := fun c hc => by
  rw [cut_list] at hc
  exact h c (List.mem_of_mem_drop (List.mem_of_mem_take hc))
theorem cut_len (z : Str) (lo hi : Option Int) : (cutS z lo hi).length ≤ z.length := by
  rw [str_len, str_len, cut_list, List.length_take, List.length_drop]; omega
theorem cut_lenN (z : Str) {a n : Int} (ha : 0 ≤ a) (hn : 0 ≤ n) : ((cutS z (some a) (some (a + n))).length : Int) ≤ n := by
  have e1 : HT.sIx z.length 0 (some a) = min a.toNat z.length := by
    show (if a < 0 then _ else min a.toNat z.length) = _
    rw [if_neg (by omega)]
  have e2 : HT.sIx z.length z.length (some (a + n)) = min (a + n).toNat z.length := by
    show (if a + n < 0 then _ else min (a + n).toNat z.length) = _
    rw [if_neg (by omega)]
  rw [str_len, cut_list, List.length_take, e1, e2]
  omega
theorem okT_strOk {z : Str} (h : okT z) : PyData.strOk z = true := by
  unfold PyData.strOk
  rw [Array.all_eq_true_iff_forall_mem]
  intro c hc
  have := h c (Array.mem_toList_iff.mpr hc)
  exact decide_eq_true (by omega)
theorem okT_one {c : Nat} (h : c ≤ 126) : okT ⟨#[c]⟩ := fun d hd => by
  have e : d = c := by simpa using hd
  subst e; exact h
theorem okT_all {s : Str} (h : s.cps.toList.all (fun c => decide (c ≤ 126)) = true) : okT s := fun c hc => of_decide_eq_true (List.all_eq_true.mp h c hc)
theorem okT_encL : ∀ {r : Nat} {d : PyData}, isK r d → ∀ c ∈ encL d, c ≤ 126
  | r, d, h => by
    rcases isK_cases h with ⟨i, rfl, hi⟩ | ⟨z, rfl, hz⟩ | ⟨r1, ds, rfl, rfl, _, hs⟩
    · intro c hc
      rw [encL] at hc
      rcases intL_cases hi with ⟨m, h1, h2, h3⟩ | ⟨m, h1, h2, h3⟩
      · rw [h2] at hc
        have := numL_digits m c hc; omega
      · rw [h2] at hc
        rcases List.mem_cons.mp hc with rfl | hc
        · decide
        · have := numL_digits _ c hc; omega
    · intro c hc
      rw [encL] at hc
      have he : ∀ l : List Nat, (∀ x ∈ l, x ≤ 126) → ∀ x ∈ escL l, x ≤ 126 := by
        intro l hl
        induction l with
        | nil => intro x hx; cases hx
        | cons y l ih =>
          intro x hx
          rw [escL_cons] at hx
          rcases List.mem_append.mp hx with hx | hx
          · have hy := hl y (List.mem_cons_self ..)
            unfold esc1 at hx
            split at hx
            · rcases List.mem_cons.mp hx with rfl | hx
              · decide
              · rw [List.mem_singleton.mp hx]; exact hy
            · rw [List.mem_singleton.mp hx]; exact hy
          · exact ih (fun x hx => hl x (List.mem_cons_of_mem _ hx)) x hx
      rcases List.mem_cons.mp hc with rfl | hc
      · decide
      rcases List.mem_append.mp hc with hc | hc
      · exact he _ (fun x hx => (hz.2 x hx).2) c hc
      · rw [List.mem_singleton.mp hc]; decide
    · have hm : ∀ es : List PyData, (∀ e ∈ es, isK r1 e) → ∀ c ∈ encMore es, c ≤ 126 := by
        intro es
        induction es with
        | nil => intro _ c hc; cases hc
        | cons e es ih =>
          intro he c hc
          rw [encMore] at hc
          rcases List.mem_cons.mp hc with rfl | hc
          · decide
          rcases List.mem_append.mp hc with hc | hc
          · exact okT_encL (he e (List.mem_cons_self ..)) c hc
          · exact ih (fun x hx => he x (List.mem_cons_of_mem _ hx)) c hc
      intro c hc
      rw [encL] at hc
      rcases List.mem_cons.mp hc with rfl | hc
      · decide
      rcases List.mem_append.mp hc with hc | hc
      · cases ds with
        | nil => cases hc
        | cons e es =>
          rw [encAll] at hc
          rcases List.mem_append.mp hc with hc | hc
          · exact okT_encL (hs e (List.mem_cons_self ..)) c hc
          · exact hm es (fun x hx => hs x (List.mem_cons_of_mem _ hx)) c hc
      · rw [List.mem_singleton.mp hc]; decide

/-! ### the reader's state as a tuple -/
def wdS : Wd → Str
  | .wanted => "wanted"
  | .opened => "opened"
  | .minus => "minus"
  | .figures => "figures"
  | .text => "text"
  | .freed => "freed"
  | .behind => "behind"
def innD (inn : List Nat) : List PyData := inn.reverse.map fun (j : Nat) => PyData.int (j : Int)
def stD (s : Rs) : PyData := .tuple [.str (wdS s.w), .int (s.n : Int), .tuple (innD s.inn)]
theorem innD_nil : innD [] = [] := rfl
theorem innD_cons (j : Nat) (u : List Nat) : innD (j :: u) = innD u ++ [.int (j : Int)] := by unfold innD; rw [List.reverse_cons, List.map_append]; rfl
theorem innD_tail (inn : List Nat) : innD inn.tail = (innD inn).dropLast := by
  cases inn with
  | nil => rfl
  | cons j u => rw [innD_cons, List.dropLast_concat]; rfl
theorem innD_len (inn : List Nat) : (innD inn).length = inn.length := by unfold innD; rw [List.length_map, List.length_reverse]
theorem any3 (w : Wd) : ([PyData.str "minus", .str "text", .str "freed"].any fun z => PyData.eqv z (.str (wdS w))) = decide (w = .minus ∨ w = .text ∨ w = .freed) := by cases w <;> decide +kernel
theorem any2 (w : Wd) : ([PyData.str "opened", .str "wanted"].any fun z => PyData.eqv z (.str (wdS w))) = decide (w = .opened ∨ w = .wanted) := by cases w <;> decide +kernel
theorem any2b (w : Wd) : ([PyData.str "figures", .str "behind"].any fun z => PyData.eqv z (.str (wdS w))) = decide (w = .figures ∨ w = .behind) := by cases w <;> decide +kernel
theorem wd_ok (w : Wd) : SeqAt.shaped (.str (wdS w)) = true := by cases w <;> decide +kernel
theorem cut_init {α : Type} (ds : List α) {n : Nat} (h : n = ds.length) : (ds.drop (HT.sIx n 0 none)).take (HT.sIx n n (some (-1)) - HT.sIx n 0 none) = ds.dropLast := by
  have e : HT.sIx n n (some (-1)) = n - 1 := by
    show (if (-1 : Int) < 0 then ((-1 : Int) + (n : Int)).toNat else min (-1 : Int).toNat n) = _
    rw [if_pos (by decide)]; omega
  have e0 : HT.sIx n 0 none = 0 := rfl
  rw [e0, e, List.drop_zero, Nat.sub_zero, List.dropLast_eq_take, h]
theorem nz_mem (c : Nat) : decide (c ∈ (Str.ofString "123456789").cps.toList) = decide (49 ≤ c ∧ c ≤ 57) := by
  have e : (Str.ofString "123456789").cps.toList = [49, 50, 51, 52, 53, 54, 55, 56, 57] := by decide +kernel
  rw [e]
  refine decide_eq_decide.mpr ?_
  simp only [List.mem_cons, List.not_mem_nil, or_false]
  omega
theorem sg_lt (c : Nat) : decide ((⟨#[c]⟩ : Str).cps.toList < (Str.ofString " ").cps.toList) = decide (c < 32) := by
  rw [blank_cps]
  refine decide_eq_decide.mpr ?_
  show ([c] < [32]) ↔ _
  exact one_lt
theorem sg_gt (c : Nat) : decide ((Str.ofString "~").cps.toList < (⟨#[c]⟩ : Str).cps.toList) = decide (126 < c) := by
  rw [tilde_cps]
  refine decide_eq_decide.mpr ?_
  show ([126] < [c]) ↔ _
  exact one_lt
theorem inn_shaped (inn : List Nat) : SeqAt.shaped (.tuple (innD inn)) = true := by
  have h1 : (PyData.tuple (innD inn)).canLay0 = true := by
    show PyData.canLayAll0 (innD inn) = true
    exact canLayAll0_of fun d hd => by
      obtain ⟨j, _, rfl⟩ := List.mem_map.mp hd
      rfl
  have h2 : (PyData.tuple (innD inn)).depth ≤ 1 := by
    show PyData.depthAll (innD inn) + 1 ≤ 1
    exact Nat.succ_le_succ (depthAll_le fun d hd => by
      obtain ⟨j, _, rfl⟩ := List.mem_map.mp hd
      exact Nat.le_refl _)
  unfold SeqAt.shaped
  rw [h1, decide_eq_true (Nat.le_trans h2 (by decide))]; rfl
theorem inn_eqv (inn : List Nat) : PyData.eqv (.tuple (innD inn)) (.tuple []) = decide (inn = []) := by
  cases inn with
  | nil => decide +kernel
  | cons j u =>
    rw [innD_cons]
    cases hq : innD u ++ [PyData.int (j : Int)] with
    | nil => simp at hq
    | cons a b => simp [PyData.eqv, PyData.eqvAll]
theorem step_len {m : Bool} {s t : Rs} {c : Nat} (h : stepR m s c = some t) (hs : s.inn.length ≤ 3) : t.inn.length ≤ 3 := by
  have hu : (upI s.inn).length = s.inn.length := by cases s.inn <;> rfl
  have ht : s.inn.tail.length ≤ s.inn.length := by rw [List.length_tail]; omega
  have hw : ∀ w n, withinR w n s.inn c = some t → t.inn.length ≤ 3 := fun w n h => by
    unfold withinR at h
    repeat' split at h
    all_goals first | (cases h; exact hs) | cases h
  unfold stepR at h
  split at h
  · exact hw _ _ h
  split at h
  · cases h; exact Nat.le_trans ht hs
  split at h
  · unfold begunR at h
    split at h
    · cases h; show (upI s.inn).length ≤ 3; omega
    split at h
    · cases h; show (0 :: upI s.inn).length ≤ 3; rw [List.length_cons]; omega
    repeat' split at h
    all_goals first | (cases h; show (upI s.inn).length ≤ 3; omega) | cases h
  split at h
  · cases h; exact hs
  split at h
  · cases h; exact Nat.le_trans ht hs
  split at h
  · cases h; exact hs
  · cases h
/-- what the laws' reader tells of a text -/
def failsR (m : Bool) (z : Str) : Int := if m = true ∧ z.cps.toList = [] then -1 else match bad m ⟨.wanted, 0, []⟩ z.cps.toList with
  | none => -1
  | some e => (e : Int)

/-! ### isinstance of what is caught, with a field -/
section
variable {X : Cx}
def rIsY (K : PySem.W.Frag) (a : Addr) (cls : Value) (d : Option Addr) : List V → Hp → VK → Prop := fun xs H Q => ∃ (D dd : Addr) (fs : List (Str × V)) (c : V) (cv : Value) (b : Bool), cls = .ref D ∧ d = some dd ∧ H dd = some (.xd fs) ∧ HoldC K D ∧ xs = [.ref a, c] ∧ ClsV c cv ∧ PySem.W.kitOne K (.ref D) cv = some b ∧ Q (.bl b) H
theorem call_isY {a : Addr} {cls : Value} {d : Option Addr} {oe : Obj} {pn : List (Addr × Obj)} (hz : Zc cls d oe) (hf : ∃ vs, oe.data = .fields vs) : CallR (X.suite a ((a, oe) :: pn)) (.builtin "isinstance") (rIsY X.K a cls d) := by
  intro pins s σ H xs us Q I r h
  obtain ⟨D, dd, fs, c, cv, b, rfl, rfl, hd, hC, rfl, hv, e, q⟩ := h
  obtain ⟨u1, u2, rfl, r1, r2⟩ := vals2 r
  cases (show u1 = Value.ref a from r1)
  cases hv.eq r2
  obtain ⟨hget, _⟩ := I.pin (a, oe) (List.mem_append.mpr (.inl List.mem_cons_self))
  obtain ⟨vs, hv2⟩ := hf
  obtain ⟨mA, hns, hr⟩ := I.hok dd _ hd
  obtain ⟨od, ho, _⟩ := lookIn_ns hns
  have J : PySem.W.InstAt s.heap a oe D (some od) := by
    obtain ⟨oc, od', oda, osl⟩ := oe
    obtain ⟨h1, h2⟩ := hz
    dsimp only at h1 h2 hv2
    subst h1 h2 hv2
    exact ⟨hget, rfl, rfl, ho⟩
  have C := hC.ex
  exact PySem.W.kia_one (PySem.W.kitx_exc hC.cl C.hg C.hk C.hs C.ha C.hn C.ht C.hm) I.kIn J e (fun z => nomatch z) fun tk => ⟨.bl b, H, I.kept (t' := tk) fun _ _ z => z, rfl, q⟩
theorem x_isY {K : PySem.W.Frag} {a D dd : Addr} {fs : List (Str × V)} {c : V} {cv : Value} {b : Bool} {H : Hp} {Q : VK} (hd : H dd = some (.xd fs)) (hC : HoldC K D) (hv : ClsV c cv) (e : PySem.W.kitOne K (.ref D) cv = some b) (q : Q (.bl b) H) : rIsY K a (.ref D) (some dd) [.ref a, c] H Q := ⟨D, dd, fs, c, cv, b, rfl, rfl, hd, hC, rfl, hv, e, q⟩
end
/-- e.f of what is caught -/
theorem x_xf {a C dd : Addr} {f : Str} {v : V} {fs : List (Str × V)} {i : Nat} {σ : L2.St} {H : Hp} {Q : VK} (hv : σ[i]? = some (some (.ref a))) (hd : H dd = some (.xd fs)) (hl : List.lookup f fs = some v) (q : Q v H) : tXf a (.ref C) (some dd) C f (tVar i) σ H Q := ⟨.ref a, hv, rfl, rfl, dd, fs, v, rfl, hd, hl, q⟩
end Tw

/-! TwN: sets of numbers out of lists; dicts with lists in them. -/
namespace Tw
open PySem PySem.W PySem.Spec PyProof.Rows L2
set_option maxHeartbeats 8000000
theorem ints_get {vs : List Value} {ns : List Int} (h : IntsAre vs ns) : ∀ {i : Nat} {v : Value}, vs[i]? = some v → ∃ k t, ns[i]? = some k ∧ v = Value.int k t := by
  induction h with
  | nil => intro i v e; simp at e
  | cons n t h ih =>
    intro i v e
    cases i with
    | zero => simp at e; subst e; exact ⟨n, t, rfl, rfl⟩
    | succ i => exact ih (by simpa using e)
theorem call_set_listI {P : Program} {w : World} {A : Around} {E : Value → Shared → Prop} {s : Shared} {l : Addr} {items : Array Value} (ns : List Int) {Q : Value → Shared → Prop} (hh : A.handled = none) (hl : s.heap.IsList l items) (hi : IntsAre items.toList ns) (hb : ns.length + 1 < scanBound)
    (hQ : ∀ (h' : Heap) (tk c : Nat), SetR w h' s.heap.objs.size (fun j => decide (j ∈ ns)) c → c ≤ ns.length → (∀ (b : Addr) (o : Obj), s.heap.get? b = some o → h'.get? b = some o) →
      Q (Value.ref s.heap.objs.size) { heap := h', gens := s.gens, drawn := s.drawn, toks := tk, os := s.os }) : wpAny (model P w) A (call (Value.type "set") [Value.ref l]) Q E s := by
  obtain ⟨c, tl, hmro⟩ := F.called_set.mro
  have hmade := F.called_set.made
  have hsub := F.called_set.sub
  refine wpAny_call (codeAny_of_tree (id (wpAny_pure ⟨Code.quiet_builtin _ (by decide +kernel), codeAny_builtin F.entry_type_call ?_⟩)))
  rw [Around.under_plain (weight_type_call_type "set" [Value.ref l] []) rfl]
  have h1 := F.called_set.notType
  have h2 := F.called_set.canCreate
  have hct := F.typeCall_set_1 (Value.ref l)
  show wpAny _ _ (Builtin.«type.__call__» _) _ _ _
  unfold Builtin.«type.__call__»
  refine wpAny_ite_false (by decide +kernel) ?_
  refine wpAny_ite_false (by decide +kernel) ?_
  refine wpAny_bind (wpAny_of_eq hct (wpAny_bind (wpAny_of_eq hmro (wpAny_ite_false (by simp) (wpAny_bind (wpAny_of_eq hmade (wpAny_bind (wpAny_pure (wpAny_bind (wpAny_holding (wpAny_call (codeAny_mono (code_set_led1 (E := E) (Q₁ := fun obj s₁ => obj = Value.ref s.heap.objs.size ∧ s₁ = { heap := s.heap.push { cls := Value.type "set", data := Data.set #[] 0 (SetTable.fresh 0 0 !w.params.followText "set-order") }, gens := s.gens, drawn := s.drawn, toks := s.toks, os := s.os }) (Value.ref l) ⟨rfl, rfl⟩) fun r s₁ hr => ?_))))))))))))
  cases r with
  | error e => exact hr
  | ok fl =>
    cases fl with
    | ret obj =>
      obtain ⟨rfl, rfl⟩ := hr
      have hS := Heap.get?_push_size s.heap (o := { cls := Value.type "set", data := Data.set #[] 0 (SetTable.fresh 0 0 !w.params.followText "set-order") }) rfl
      have hT : Shared.TypeIs { heap := s.heap.push { cls := Value.type "set", data := Data.set #[] 0 (SetTable.fresh 0 0 !w.params.followText "set-order") }, gens := s.gens, drawn := s.drawn, toks := s.toks, os := s.os } (Value.ref s.heap.objs.size) "set" := ⟨_, hS, rfl⟩
      have hli := F.called_set.init.lookup
      have hbi := F.called_set.init.bind (Value.ref s.heap.objs.size)
      refine wpAny_bind (wpAny_isInstance hT hsub (wpAny_ite_false (by decide) (wpAny_bind (wpAny_holding (wpAny_bind (wpAny_specialOf hT hli (wpAny_holding (wpAny_bind ?_))))))))
      refine wpAny_of_eq hbi (wpAny_bind ?_)
      show wpAny (model P w) A.in1 (call (Value.builtin "set.__init__") [.ref s.heap.objs.size, .ref l] []) _ _ _
      refine wpAny_call (codeAny_call_builtin (by decide +kernel) F.entry_set_init (check_set_init_1 hT ?_))
      unfold Builtin.«set.__init__»
      have hfit : (SetTable.fresh 0 0 !w.params.followText "set-order").fits (#[] : Array (Int × Value)).size = true := by
        cases w.params.followText "set-order" <;> decide +kernel
      refine wpAny_bind ?_
      unfold noKeywords
      refine wpAny_ite_true rfl (wpAny_pure ?_)
      show wpAny (model P w) A.in1.in1 (do
        let n ← typeNameOfCut 200 (Value.ref s.heap.objs.size)
        _) _ _ _
      wp_walk
      obtain ⟨⟨oc, od, oda, osl⟩, hol, hcl, n, hdl⟩ := hl
      simp only at hcl hdl
      subst hcl hdl
      have hol' : (s.heap.push { cls := Value.type "set", data := Data.set #[] 0 (SetTable.fresh 0 0 !w.params.followText "set-order") }).get? l = some ⟨.type "list", od, .seq items n, osl⟩ := Heap.get?_push_of_some _ hol
      wp_walk using wpAny_loadPart' hol'
      refine wpAny_of_eq F.sub_list_set ?_
      wp_walk using wpAny_loadPart' hol'
      refine wpAny_of_eq F.sub_list_frozenset ?_
      refine wpAny_ite_false (by decide) ?_
      refine wpAny_bind (wpAny_typeOf ⟨_, hol', rfl⟩ ?_)
      refine wpAny_ite_false (by decide) ?_
      refine wpAny_bind (wpAny_pyIter_list (items := items) ⟨_, hol', rfl, n, rfl⟩ ?_)
      refine wpAny_bind (wpAny_runValue ?_)
      have hlt : l < s.heap.objs.size := Heap.lt_size hol
      have hn : items.size = ns.length := by
        have := hi.length
        rw [Array.length_toList] at this
        exact this
      refine set_update_ints (A := A.in1.in1) (Walks.list (A := A.in1.in1.in1) hh (s.heap.push { cls := Value.type "set", data := Data.set #[] 0 (SetTable.fresh 0 0 !w.params.followText "set-order") }).objs.size l (by rw [Heap.size_push]; exact Nat.ne_of_lt (Nat.lt_succ_of_lt hlt)) items).toS s.heap.objs.size ?_ ns hn hb ?_ items.size 0 _ rfl (Nat.zero_le _) ⟨?_, ?_⟩ ⟨0, Nat.le_refl _, ?_⟩ fun s' c' hm hc hS' => ?_
      · intro h
        rcases List.mem_cons.mp h with h | h
        · rw [Heap.size_push] at h; exact absurd h (Nat.ne_of_lt (Nat.lt_succ_self _))
        · exact absurd (List.mem_singleton.mp h) (Nat.ne_of_gt hlt)
      · intro i v hv
        exact ints_get hi (by rw [Array.getElem?_toList]; exact hv)
      · refine ⟨{ cls := Value.type "list_iterator", data := Data.fields #[Value.ref l, Value.int 0 0] }, ?_, rfl, rfl⟩
        have := Heap.get?_push_size (s.heap.push { cls := Value.type "set", data := Data.set #[] 0 (SetTable.fresh 0 0 !w.params.followText "set-order") }) (o := { cls := Value.type "list_iterator", data := Data.fields #[Value.ref l, Value.int 0 0] }) rfl
        exact this
      · exact ⟨_, Heap.get?_push_of_some _ hol', rfl, n, rfl⟩
      · exact setR_new_at (Heap.get?_push_of_some _ hS)
      · obtain ⟨h', g', d', tk', os'⟩ := s'
        have e1 : g' = s.gens := hm.gens
        have e2 : d' = s.drawn := hm.drawn
        have e3 : os' = s.os := hm.os
        subst e1 e2 e3
        refine wpAny_pure (wpAny_pure (wpAny_pure (wpAny_ite_false (by decide) (wpAny_pure ?_))))
        refine hQ h' tk' c' hS' (hn ▸ hc) fun b o e => ?_
        have hb0 := Heap.lt_size e
        refine hm.heap b o ?_ (Heap.get?_push_of_some _ (Heap.get?_push_of_some _ e))
        intro h
        rcases List.mem_cons.mp h with h | h
        · exact absurd h (Nat.ne_of_lt hb0)
        · have h := List.mem_singleton.mp h
          rw [Heap.size_push] at h
          exact absurd h (Nat.ne_of_lt (Nat.lt_succ_of_lt hb0))
    | _ => exact hr.elim

section
variable {X : Cx}
def rSetI (K : PySem.W.Frag) (w : World) : List V → Hp → VK → Prop := fun xs H Q => ∃ (a : Addr) (ns : List Int), xs = [.ref a] ∧ SqL K H a (ns.map V.int) ∧ ns.length ≤ 4000 ∧ ∀ p c, H p = none → c ≤ ns.length → Q (.ref p) (upd H p (SetO w p (fun j => decide (j ∈ ns)) c))
theorem cr_setI (hc : X.calm = true) : CallR X (.type "set") (rSetI X.K X.w) := by
  intro pins s σ H xs us Q I r h
  obtain ⟨a, ns, rfl, hS, hl, q⟩ := h
  rw [Vals.ref1 r]
  obtain ⟨its, rv, pl, _⟩ := I.list hS
  have hi : IntsAre its.toArray.toList ns := by
    rw [List.toList_toArray]
    clear hS hl q pl
    have go : ∀ (ns : List Int) (its : List Value), Vals (ns.map V.int) its → IntsAre its ns := by
      intro ns
      induction ns with
      | nil => intro its h; cases h; exact .nil
      | cons n ns ih =>
        intro its h
        cases h with
        | @cons _ v _ ur ra rw' =>
          obtain ⟨t, rfl⟩ := ra
          exact .cons n t (ih _ rw')
    exact go ns its rv
  obtain ⟨o, n, p1, p2, p3, p4⟩ := pl
  refine call_set_listI ns (I.ok.hd hc) ⟨o, p1, p2, n, p4⟩ hi (by show ns.length + 1 < 4096; omega) fun h' tk c hR hcl hk => ?_
  exact ⟨.ref s.heap.objs.size, upd H s.heap.objs.size (SetO X.w s.heap.objs.size (fun j => decide (j ∈ ns)) c), I.laid (t' := tk) hk (Nat.le_refl _) (setO_new hR), rfl, q _ c (I.hok.fresh (Nat.le_refl _)) hcl⟩
theorem KV_at {κ : Type} [DecidableEq κ] : ∀ {ks : List (κ × V)} {vs : List (κ × Value)}, KV ks vs → ∀ k, (valV ks k = none ∧ valueAt vs k = none) ∨ ∃ x v, valV ks k = some x ∧ valueAt vs k = some v ∧ L2.RelV x v
  | _, _, .nil, k => .inl ⟨rfl, rfl⟩
  | p :: ks, q :: vs, .cons e r, k => by
    obtain ⟨e1, e2⟩ := e
    by_cases h : p.1 = k
    · refine .inr ⟨p.2, q.2, valV_pos h, ?_, e2⟩
      have h2 : q.1 = k := e1 ▸ h
      show Option.map _ (List.find? _ (q :: vs)) = _
      rw [List.find?_cons_of_pos (by exact decide_eq_true h2)]; rfl
    · have h2 : ¬ q.1 = k := fun z => h (e1.trans z)
      have h3 : valueAt (q :: vs) k = valueAt vs k := by
        show Option.map _ (List.find? _ (q :: vs)) = _
        rw [List.find?_cons_of_neg (by simpa using h2)]; rfl
      rw [valV_neg h, h3]
      exact KV_at r k
theorem KV_mem {κ : Type} : ∀ {ks : List (κ × V)} {vs : List (κ × Value)}, KV ks vs → ∀ k v, (k, v) ∈ vs → ∃ x, (k, x) ∈ ks ∧ L2.RelV x v
  | _, _, .nil, k, v, h => nomatch h
  | p :: ks, q :: vs, .cons e r, k, v, h => by
    obtain ⟨e1, e2⟩ := e
    rcases List.mem_cons.mp h with h | h
    · subst h
      refine ⟨p.2, List.mem_cons.mpr (.inl ?_), e2⟩
      obtain ⟨p1, p2⟩ := p
      cases e1; rfl
    · obtain ⟨x, h1, h2⟩ := KV_mem r k v h
      exact ⟨x, List.mem_cons_of_mem _ h1, h2⟩
def rEqDL (K : PySem.W.Frag) : R2 := fun x y H Q => ∃ (a b : Addr) (ks ls : List (Key × V)), x = .ref a ∧ y = .ref b ∧ H a = some (.dK ks) ∧ H b = some (.dK ls) ∧ ks.length = ls.length ∧
  (∀ p ∈ ks, ∃ v d, valV ls p.1 = some v ∧ Dp K H p.2 d ∧ Dp K H v d ∧ d.canLay0 = true ∧ d.depth ≤ 20 ∧ PyData.eqv d d = true) ∧ Q (.bl true) H
theorem op_eqDL (hu : X.A.units + 64 < cLine) : OpR X (compareOp .Eq) (rEqDL X.K) := by
  intro pins s σ H x y v u Q I rx ry h
  obtain ⟨a, b, ks, ls, rfl, rfl, ha, hb, hl, hv, q⟩ := h
  cases (show v = Value.ref a from rx)
  cases (show u = Value.ref b from ry)
  obtain ⟨hz1, na, vs, kv1, da⟩ := (show ObjOk X.prog X.w H s.heap a (.dK ks) from I.hok a _ ha)
  obtain ⟨hz2, nb, us, kv2, db⟩ := (show ObjOk X.prog X.w H s.heap b (.dK ls) from I.hok b _ hb)
  refine eq_dictsT (n := 40) (e := fun _ => true) na nb da db (fun k v y hm hv' => ?_) (by omega) ?_
  · obtain ⟨x, hx, rx⟩ := KV_mem kv1 k v hm
    obtain ⟨v', d, e1, d1, d2, lay, dep, ev⟩ := hv (k, x) hx
    rcases KV_at kv2 k with ⟨g1, g2⟩ | ⟨z, zv, g1, g2, g3⟩
    · rw [g2] at hv'; cases hv'
    · rw [g2] at hv'; cases hv'
      rw [g1] at e1; cases e1
      obtain ⟨as, r1⟩ := Dp.reads I d x v d1 rx
      obtain ⟨bs, r2⟩ := Dp.reads I d _ _ d2 g3
      refine .leaf fun A hA => ?_
      have := SeqAt.eqAt_reads d d A s v y as bs r1 r2 lay lay (by have : min d.depth d.depth ≤ d.depth := Nat.min_le_left _ _; omega)
      rwa [ev] at this
  · refine ⟨.bl true, H, I, ?_, q⟩
    have e1 : (vs.length == us.length) = true := by
      rw [← KV.length kv1, ← KV.length kv2, hl]; exact beq_self_eq_true _
    have e2 : (vs.all fun p => (valueAt us p.1).isSome && true) = true := by
      rw [List.all_eq_true]
      intro p hp
      obtain ⟨x, hx, _⟩ := KV_mem kv1 p.1 p.2 hp
      obtain ⟨v', d, e1, _⟩ := hv (p.1, x) hx
      rcases KV_at kv2 p.1 with ⟨g1, g2⟩ | ⟨z, zv, g1, g2, g3⟩
      · rw [g1] at e1; cases e1
      · rw [g2]; rfl
    show Value.bool _ = Value.bool true
    rw [e1, e2]; rfl
def rDictP (K : PySem.W.Frag) : List V → Hp → VK → Prop := fun xs H Q => ∃ (a : Addr) (ps : List Addr) (kvs : List (Key × V)), xs = [.ref a] ∧ SqL K H a (ps.map V.ref) ∧ Paired (fun p kv => SqT K H p [kV kv.1, kv.2]) ps kvs ∧ ∀ p, H p = none → Q (.ref p) (upd H p (.dK (mergeK [] kvs)))
theorem c_dictP (hc : X.calm = true) : CallR X (.type "dict") (rDictP X.K) := call_dictP hc
theorem c_listD (hc : X.calm = true) : CallR X (.type "list") rListD := call_list_dK hc
end
theorem x_setI {K : PySem.W.Frag} {w : World} {H : Hp} {Q : VK} {a : Addr} {ns : List Int} (h : SqL K H a (ns.map V.int)) (hl : ns.length ≤ 4000) (q : ∀ p c, Fresh H p → c ≤ ns.length → Q (.ref p) (upd H p (SetO w p (fun j => decide (j ∈ ns)) c))) : rSetI K w [.ref a] H Q := ⟨a, ns, rfl, h, hl, q⟩
theorem x_sortedSet {w : World} {H : Hp} {Q : VK} {a : Addr} {S : Int → Bool} {n : Nat} (h : H a = some (SetO w a S n)) (hn : n < 64) (q : ∀ (ns : List Int) (p : Addr), ns.Pairwise (· < ·) → (∀ k : Int, k ∈ ns ↔ S k = true) → ns.length = n → Fresh H p → Q (.ref p) (upd H p (.lst (ns.map V.int)))) : rSortedSet w [.ref a] H Q := ⟨a, S, n, rfl, h, hn, q⟩
theorem x_listD {H : Hp} {Q : VK} {a : Addr} {kvs : List (Key × V)} (h : H a = some (.dK kvs)) (q : ∀ p, Fresh H p → Q (.ref p) (upd H p (.lst (kvs.map fun kv => kV kv.1)))) : rListD [.ref a] H Q := ⟨a, kvs, rfl, h, q⟩
end Tw

/-! TwO: who comes from whom. -/
namespace Tw
open PySem PySem.W PySem.Spec PyProof.Rows L2
abbrev Gr := List (Int × List Int)
def keysG (gs : Gr) : List Int := gs.map (·.1)
def eld : Gr → Int → List Int
  | [], _ => []
  | g :: gs, n => if g.1 = n then g.2 else eld gs n
structure GrOk (gs : Gr) : Prop where
  nd : (keysG gs).Nodup
  len : gs.length ≤ 60
  sub : ∀ g ∈ gs, ∀ e ∈ g.2, e ∈ keysG gs
  ndl : ∀ g ∈ gs, g.2.Nodup
inductive Rch (gs : Gr) (n : Int) : Int → Prop
  | refl : Rch gs n n
  | step {a c : Int} : Rch gs n a → c ∈ eld gs a → Rch gs n c
theorem Rch.trans {gs : Gr} {a b c : Int} (h : Rch gs a b) (k : Rch gs b c) : Rch gs a c := by
  induction k with
  | refl => exact h
  | step _ e ih => exact .step ih e
theorem eld_mem : ∀ {gs : Gr} {n : Int}, n ∈ keysG gs → (n, eld gs n) ∈ gs
  | g :: gs, n, h => by
    show (n, if g.1 = n then g.2 else eld gs n) ∈ _
    by_cases e : g.1 = n
    · rw [if_pos e, ← e]; exact List.mem_cons_self ..
    · rw [if_neg e]
      rcases List.mem_cons.mp h with h | h
      · exact absurd h.symm e
      · exact List.mem_cons_of_mem _ (eld_mem h)
theorem eld_of : ∀ {gs : Gr} {g : Int × List Int}, (keysG gs).Nodup → g ∈ gs → eld gs g.1 = g.2
  | g0 :: gs, g, h, hg => by
    have h' : (g0.1 :: keysG gs).Nodup := h
    rw [List.nodup_cons] at h'
    show (if g0.1 = g.1 then g0.2 else eld gs g.1) = g.2
    rcases List.mem_cons.mp hg with rfl | hg
    · rw [if_pos rfl]
    · rw [if_neg (by intro e; apply h'.1; rw [e]; exact List.mem_map_of_mem hg)]
      exact eld_of h'.2 hg
theorem Rch.keys {gs : Gr} {n k : Int} (ok : GrOk gs) (hn : n ∈ keysG gs) (h : Rch gs n k) : k ∈ keysG gs := by
  induction h with
  | refl => exact hn
  | step _ e ih => exact ok.sub _ (eld_mem ih) _ e
theorem GrOk.eld {gs : Gr} {n : Int} (ok : GrOk gs) (hn : n ∈ keysG gs) : (∀ e ∈ eld gs n, e ∈ keysG gs) ∧ (eld gs n).Nodup := ⟨ok.sub _ (eld_mem hn), ok.ndl _ (eld_mem hn)⟩
theorem len_sub {l m : List Int} (hd : l.Nodup) (hk : ∀ k ∈ l, k ∈ m) : l.length ≤ m.length := by
  induction l generalizing m with
  | nil => exact Nat.zero_le _
  | cons a l ih =>
    rw [List.nodup_cons] at hd
    have ha := hk a (List.mem_cons_self ..)
    have h1 := ih (m := m.erase a) hd.2 fun k h => (List.mem_erase_of_ne (by intro e; apply hd.1; rw [← e]; exact h)).mpr (hk k (List.mem_cons_of_mem _ h))
    rw [List.length_erase_of_mem ha] at h1
    have := List.length_pos_of_mem ha
    rw [List.length_cons]; omega
/-- without a number twice, all keys: no more than these -/
theorem GrOk.few {gs : Gr} (ok : GrOk gs) {l : List Int} (hd : l.Nodup) (hk : ∀ k ∈ l, k ∈ keysG gs) : l.length ≤ gs.length := by
  have h2 : l.length ≤ (keysG gs).length := len_sub hd hk
  rwa [keysG, List.length_map] at h2
/-- closed, from n on: all that it comes from -/
theorem rch_closed {gs : Gr} {n : Int} {fs : List Int} (h0 : n ∈ fs) (hr : ∀ f ∈ fs, Rch gs n f) (hc : ∀ f ∈ fs, ∀ e ∈ eld gs f, e ∈ fs) (k : Int) : k ∈ fs ↔ Rch gs n k :=
  ⟨hr k, fun h => by
    induction h with
    | refl => exact h0
    | step _ e ih => exact hc _ ih _ e⟩
def upI2 (l : List Int) : Prop := l.Pairwise (· < ·)
theorem up_ext : ∀ {l m : List Int}, upI2 l → upI2 m → (∀ k, k ∈ l ↔ k ∈ m) → l = m
  | [], [], _, _, _ => rfl
  | [], b :: m, _, _, h => by have := (h b).mpr (List.mem_cons_self ..); cases this
  | a :: l, [], _, _, h => by have := (h a).mp (List.mem_cons_self ..); cases this
  | a :: l, b :: m, hl, hm, h => by
    have h1 := List.pairwise_cons.mp hl
    have h2 := List.pairwise_cons.mp hm
    have e : a = b := by
      rcases List.mem_cons.mp ((h a).mp (List.mem_cons_self ..)) with e | e
      · exact e
      · rcases List.mem_cons.mp ((h b).mpr (List.mem_cons_self ..)) with e2 | e2
        · exact e2.symm
        · have := h2.1 a e
          have := h1.1 b e2
          omega
    subst e
    rw [up_ext h1.2 h2.2 fun k => ?_]
    constructor
    · intro hk
      rcases List.mem_cons.mp ((h k).mp (List.mem_cons_of_mem _ hk)) with e | e
      · have := h1.1 k hk; omega
      · exact e
    · intro hk
      rcases List.mem_cons.mp ((h k).mpr (List.mem_cons_of_mem _ hk)) with e | e
      · have := h2.1 k hk; omega
      · exact e
theorem upI2.nodup {l : List Int} (h : upI2 l) : l.Nodup := h.imp fun h => Int.ne_of_lt h
theorem up_of_le {l : List Int} (h : l.Pairwise (· ≤ ·)) (n : l.Nodup) : upI2 l := by
  have := List.Pairwise.and h n
  exact this.imp fun ⟨a, b⟩ => by omega
/-! ### in a heap -/
def kvG (gs : Gr) (as : List Addr) : List (Key × V) := (gs.zip as).map fun p => (Sum.inl p.1.1, V.ref p.2)
structure EldAt (H : Hp) (e : Addr) (gs : Gr) (as : List Addr) : Prop where
  len : as.length = gs.length
  dk : H e = some (.dK (kvG gs as))
  ls : ∀ p ∈ gs.zip as, H p.2 = some (.lst (p.1.2.map V.int))
theorem EldAt.keep {H H1 : Hp} {e : Addr} {gs : Gr} {as : List Addr} (h : EldAt H e gs as) (f : Fr Non H H1) : EldAt H1 e gs as := ⟨h.len, f.keep _ _ h.dk id, fun p hp => f.keep _ _ (h.ls p hp) id⟩
theorem val_zip : ∀ {gs : Gr} {as : List Addr} {n : Int}, as.length = gs.length → n ∈ keysG gs → ∃ a, valV (kvG gs as) (Sum.inl n) = some (.ref a) ∧ ((n, eld gs n), a) ∈ gs.zip as
  | [], as, n, _, h => nomatch h
  | g :: gs, [], n, hl, _ => by cases hl
  | g :: gs, a :: as, n, hl, h => by
    have hl' : as.length = gs.length := Nat.succ.inj hl
    show ∃ b, valV ((Sum.inl g.1, V.ref a) :: kvG gs as) (Sum.inl n) = _ ∧ ((n, if g.1 = n then g.2 else eld gs n), b) ∈ (g, a) :: gs.zip as
    by_cases e : g.1 = n
    · refine ⟨a, valV_pos (by rw [e]), ?_⟩
      rw [if_pos e, ← e]; exact List.mem_cons_self ..
    · rw [if_neg e]
      have h2 : n ∈ keysG gs := by
        rcases List.mem_cons.mp h with h | h
        · exact absurd h.symm e
        · exact h
      obtain ⟨b, h3, h4⟩ := val_zip hl' h2
      refine ⟨b, ?_, List.mem_cons_of_mem _ h4⟩
      rw [valV_neg (by intro z; injection z with z; exact e z)]
      exact h3
theorem EldAt.get {H : Hp} {e : Addr} {gs : Gr} {as : List Addr} {n : Int} (h : EldAt H e gs as) (hn : n ∈ keysG gs) : ∃ a, DGet H e (.int n) (some (.ref a)) ∧ H a = some (.lst ((eld gs n).map V.int)) := by
  obtain ⟨a, h1, h2⟩ := val_zip h.len hn
  refine ⟨a, ?_, h.ls _ h2⟩
  rw [← h1]
  exact DGet.k (k := Sum.inl n) h.dk
structure RowsAt (H : Hp) (r : Addr) (gs : Gr) (ts as : List Addr) : Prop where
  lt : ts.length = gs.length
  la : as.length = gs.length
  ls : H r = some (.lst (ts.map V.ref))
  at_ : ∀ (i : Nat) g t a, gs[i]? = some g → ts[i]? = some t → as[i]? = some a → H t = some (.tup [.int g.1, .ref a]) ∧ H a = some (.lst (g.2.map V.int))
theorem RowsAt.keep {H H1 : Hp} {r : Addr} {gs : Gr} {ts as : List Addr} (h : RowsAt H r gs ts as) (f : Fr Non H H1) : RowsAt H1 r gs ts as := ⟨h.lt, h.la, f.keep _ _ h.ls id, fun i g t a h1 h2 h3 => ⟨f.keep _ _ (h.at_ i g t a h1 h2 h3).1 id, f.keep _ _ (h.at_ i g t a h1 h2 h3).2 id⟩⟩
theorem x_dget {td ty : TE} {σ : L2.St} {H : Hp} {Q : VK} (q : td σ H fun x H1 => ty σ H1 fun y H2 => ∃ a v, x = .ref a ∧ DGet H2 a y (some v) ∧ Q v H2) : tDGet td ty σ H Q := q
theorem x_extend {l b : Addr} {xs zs : List V} {H : Hp} {Q : VK} (h : H l = some (.lst xs)) (k : H b = some (.lst zs)) (hs : xs.length + zs.length ≤ 100000) (q : Q .non (upd H l (.lst (xs ++ zs)))) : rExtend (.ref l) [.ref b] H Q := ⟨l, b, xs, zs, rfl, rfl, h, k, Nat.le_trans hs (by decide), q⟩
/-- membership among numbers -/
theorem any_int (ns : List Int) (k : Int) : ((ns.map PyData.int).any fun z => PyData.eqv z (.int k)) = decide (k ∈ ns) := by
  induction ns with
  | nil => rfl
  | cons n ns ih =>
    rw [List.map_cons, List.any_cons, ih]
    have e : PyData.eqv (.int n) (.int k) = decide (n = k) := by
      rw [PyData.eqv]
      by_cases h : n = k
      · subst h; rw [decide_eq_true rfl]; exact beq_self_eq_true _
      · rw [decide_eq_false h]; exact beq_false_of_ne h
    rw [e]
    by_cases h : n = k
    · subst h; rw [decide_eq_true rfl, decide_eq_true (List.mem_cons_self ..)]; rfl
    · rw [decide_eq_false h, Bool.false_or]
      exact decide_eq_decide.mpr ⟨List.mem_cons_of_mem _, fun h2 => by
        rcases List.mem_cons.mp h2 with h2 | h2
        · exact absurd h2.symm h
        · exact h2⟩
theorem dp_ints {K : PySem.W.Frag} {H : Hp} : ∀ ns : List Int, DpAll K H (ns.map V.int) (ns.map PyData.int)
  | [] => .nil
  | n :: ns => .cons (.int n) (dp_ints ns)
theorem ints_shaped (ns : List Int) : SeqAt.shaped (.list (ns.map PyData.int)) = true := by
  have h1 : (PyData.list (ns.map PyData.int)).canLay0 = true := by
    show PyData.canLayAll0 (ns.map PyData.int) = true
    exact canLayAll0_of fun d hd => by
      obtain ⟨j, _, rfl⟩ := List.mem_map.mp hd
      rfl
  have h2 : (PyData.list (ns.map PyData.int)).depth ≤ 1 := by
    show PyData.depthAll (ns.map PyData.int) + 1 ≤ 1
    exact Nat.succ_le_succ (depthAll_le fun d hd => by
      obtain ⟨j, _, rfl⟩ := List.mem_map.mp hd
      exact Nat.le_refl _)
  unfold SeqAt.shaped
  rw [h1, decide_eq_true (Nat.le_trans h2 (by decide))]; rfl
theorem eqv_ints (ns ms : List Int) : PyData.eqv (.list (ns.map PyData.int)) (.list (ms.map PyData.int)) = decide (ns = ms) := by
  rw [PyData.eqv]
  induction ns generalizing ms with
  | nil =>
    cases ms with
    | nil => rfl
    | cons m ms => rfl
  | cons n ns ih =>
    cases ms with
    | nil => rfl
    | cons m ms =>
      rw [List.map_cons, List.map_cons, PyData.eqvAll, ih, PyData.eqv]
      by_cases h : n = m
      · subst h
        rw [beq_self_eq_true, Bool.true_and]
        exact decide_eq_decide.mpr ⟨fun h => by rw [h], fun h => by injection h⟩
      · rw [beq_false_of_ne h, Bool.false_and]
        exact (decide_eq_false fun e => h (by injection e)).symm
/-- k in ns, ns a list of numbers -/
theorem x_inI {K : PySem.W.Frag} {H : Hp} {Q : VK} {a : Addr} {k : Int} {ns : List Int} (h : H a = some (.lst (ns.map V.int))) (q : Q (.bl (decide (k ∈ ns))) H) : rInD K (.int k) (.ref a) H Q :=
  x_inD (.int k) (.lst (SqL.of h) (dp_ints ns)) rfl (ints_shaped ns) (by rw [any_int]; exact q)
theorem x_notInI {K : PySem.W.Frag} {H : Hp} {Q : VK} {a : Addr} {k : Int} {ns : List Int} (h : H a = some (.lst (ns.map V.int))) (q : Q (.bl (!decide (k ∈ ns))) H) : rNotInD K (.int k) (.ref a) H Q :=
  x_notInD (.int k) (.lst (SqL.of h) (dp_ints ns)) rfl (ints_shaped ns) (by rw [any_int]; exact q)
theorem x_eqLI {K : PySem.W.Frag} {H : Hp} {Q : VK} {a b : Addr} {ns ms : List Int} (h : H a = some (.lst (ns.map V.int))) (k : H b = some (.lst (ms.map V.int))) (q : Q (.bl (decide (ns = ms))) H) : rEqD K (.ref a) (.ref b) H Q :=
  x_eqD (.lst (SqL.of h) (dp_ints ns)) (.lst (SqL.of k) (dp_ints ms)) (ints_shaped ns) (ints_shaped ms) (by rw [eqv_ints]; exact q)
theorem x_neLI {K : PySem.W.Frag} {H : Hp} {Q : VK} {a b : Addr} {ns ms : List Int} (h : H a = some (.lst (ns.map V.int))) (k : H b = some (.lst (ms.map V.int))) (q : Q (.bl (!decide (ns = ms))) H) : rNeD K (.ref a) (.ref b) H Q :=
  x_neD (.lst (SqL.of h) (dp_ints ns)) (.lst (SqL.of k) (dp_ints ms)) (ints_shaped ns) (ints_shaped ms) (by rw [eqv_ints]; exact q)
theorem Paired.snoc {α β : Type} {F : α → β → Prop} : ∀ {l : List α} {m : List β} {a : α} {b : β}, Paired F l m → F a b → Paired F (l ++ [a]) (m ++ [b])
  | _, _, _, _, .nil, h => .cons h .nil
  | _, _, _, _, .cons e r, h => .cons e (Paired.snoc r h)
theorem Paired.imp {α β : Type} {F G : α → β → Prop} (h : ∀ a b, F a b → G a b) : ∀ {l : List α} {m : List β}, Paired F l m → Paired G l m
  | _, _, .nil => .nil
  | _, _, .cons e r => .cons (h _ _ e) (Paired.imp h r)
theorem valV_none : ∀ {kvs : List (Key × V)} {k : Key}, k ∉ kvs.map (·.1) → valV kvs k = none
  | [], _, _ => rfl
  | p :: kvs, k, h => by
    rw [List.map_cons, List.mem_cons, not_or] at h
    rw [valV_neg (fun e => h.1 e.symm)]
    exact valV_none h.2
theorem merge_new : ∀ (more acc : List (Key × V)), (more.map (·.1)).Nodup → (∀ p ∈ more, p.1 ∉ acc.map (·.1)) → mergeK acc more = acc ++ more
  | [], acc, _, _ => (List.append_nil _).symm
  | p :: more, acc, h, hn => by
    rw [List.map_cons, List.nodup_cons] at h
    have e := putK_new p.2 (valV_none (hn p (List.mem_cons_self ..)))
    show mergeK (putK acc p.1 p.2) more = _
    rw [e, merge_new more _ h.2 fun q hq => ?_]
    · rw [List.append_assoc]; rfl
    · rw [List.map_append, List.mem_append, not_or]
      refine ⟨hn q (List.mem_cons_of_mem _ hq), fun hq2 => ?_⟩
      have hq2 : q.1 = p.1 := by simpa using hq2
      exact h.1 (by rw [← hq2]; exact List.mem_map_of_mem hq)
theorem kvG_keys : ∀ {gs : Gr} {as : List Addr}, as.length = gs.length → (kvG gs as).map (·.1) = (keysG gs).map Sum.inl
  | [], [], _ => rfl
  | [], _ :: _, h => by cases h
  | _ :: _, [], h => by cases h
  | g :: gs, a :: as, h => by
    show Sum.inl g.1 :: (kvG gs as).map (·.1) = Sum.inl g.1 :: (keysG gs).map Sum.inl
    rw [kvG_keys (Nat.succ.inj h)]
theorem merge_kvG {gs : Gr} {as : List Addr} (hl : as.length = gs.length) (hd : (keysG gs).Nodup) : mergeK [] (kvG gs as) = kvG gs as := by
  rw [merge_new _ _ ?_ (fun _ _ => List.not_mem_nil), List.nil_append]
  rw [kvG_keys hl]
  exact List.Pairwise.map _ (fun a b h e => h (by injection e)) hd
theorem kvG_snoc {gs : Gr} {as : List Addr} (g : Int × List Int) (a : Addr) (hl : as.length = gs.length) : kvG (gs ++ [g]) (as ++ [a]) = kvG gs as ++ [(Sum.inl g.1, V.ref a)] := by
  unfold kvG
  rw [List.zip_append hl.symm, List.map_append]; rfl
theorem kvG_paired {H : Hp} : ∀ {gs : Gr} {ts as : List Addr}, ts.length = gs.length → as.length = gs.length → (∀ (i : Nat) g t a, gs[i]? = some g → ts[i]? = some t → as[i]? = some a → H t = some (.tup [.int g.1, .ref a])) → Paired (fun t kv => H t = some (.tup [kV kv.1, kv.2])) ts (kvG gs as)
  | [], [], [], _, _, _ => .nil
  | [], _ :: _, _, h, _, _ => by cases h
  | [], [], _ :: _, _, h, _ => by cases h
  | _ :: _, [], _, h, _, _ => by cases h
  | _ :: _, _ :: _, [], _, h, _ => by cases h
  | g :: gs, t :: ts, a :: as, h1, h2, h => .cons (h 0 g t a rfl rfl rfl) (kvG_paired (Nat.succ.inj h1) (Nat.succ.inj h2) fun i g t a e1 e2 e3 => h (i + 1) g t a e1 e2 e3)
/-- what is left to be done -/
def costG (gs : Gr) (fs : List Int) : Nat := (gs.map fun g => if g.1 ∈ fs then 0 else g.2.length + 1).sum
theorem cost_same : ∀ {gs : Gr} {fs : List Int} {k : Int}, k ∉ keysG gs → costG gs (fs ++ [k]) = costG gs fs
  | [], _, _, _ => rfl
  | g :: gs, fs, k, h => by
    have h1 : k ≠ g.1 ∧ k ∉ keysG gs := by
      constructor
      · rintro rfl; exact h (List.mem_cons_self ..)
      · exact fun e => h (List.mem_cons_of_mem _ e)
    have ih := cost_same (fs := fs) h1.2
    unfold costG at ih ⊢
    rw [List.map_cons, List.map_cons, List.sum_cons, List.sum_cons, ih]
    by_cases hg : g.1 ∈ fs
    · rw [if_pos hg, if_pos (List.mem_append_left _ hg)]
    · rw [if_neg hg, if_neg (fun e => by
        rcases List.mem_append.mp e with e | e
        · exact hg e
        · exact h1.1 (List.mem_singleton.mp e).symm)]
theorem cost_new : ∀ {gs : Gr} {fs : List Int} {k : Int}, (keysG gs).Nodup → k ∈ keysG gs → k ∉ fs → costG gs (fs ++ [k]) + (eld gs k).length + 1 = costG gs fs
  | [], _, _, _, h, _ => nomatch h
  | g :: gs, fs, k, hd, h, hf => by
    have hd' : (g.1 :: keysG gs).Nodup := hd
    rw [List.nodup_cons] at hd'
    have e0 : eld (g :: gs) k = if g.1 = k then g.2 else eld gs k := rfl
    rw [e0]
    by_cases e : g.1 = k
    · have ih := cost_same (fs := fs) (show k ∉ keysG gs by rw [← e]; exact hd'.1)
      rw [if_pos e]
      unfold costG at ih ⊢
      rw [List.map_cons, List.map_cons, List.sum_cons, List.sum_cons, ih, if_pos (List.mem_append_right _ (by rw [e]; exact List.mem_singleton.mpr rfl)), if_neg (by rw [e]; exact hf)]
      omega
    · have hk : k ∈ keysG gs := by
        rcases List.mem_cons.mp h with h | h
        · exact absurd h.symm e
        · exact h
      have ih := cost_new hd'.2 hk hf
      rw [if_neg e]
      unfold costG at ih ⊢
      rw [List.map_cons, List.map_cons, List.sum_cons, List.sum_cons]
      have e2 : (if g.1 ∈ fs ++ [k] then 0 else g.2.length + 1) = (if g.1 ∈ fs then 0 else g.2.length + 1) := by
        by_cases hg : g.1 ∈ fs
        · rw [if_pos hg, if_pos (List.mem_append_left _ hg)]
        · rw [if_neg hg, if_neg (fun e3 => by
            rcases List.mem_append.mp e3 with e3 | e3
            · exact hg e3
            · exact e (List.mem_singleton.mp e3))]
      rw [e2]
      omega
theorem cost_le : ∀ {gs : Gr} {n : Nat}, (∀ g ∈ gs, g.2.length ≤ n) → costG gs [] ≤ gs.length * (n + 1)
  | [], _, _ => Nat.zero_le _
  | g :: gs, n, h => by
    have h1 := h g (List.mem_cons_self ..)
    have ih := cost_le fun x hx => h x (List.mem_cons_of_mem _ hx)
    unfold costG at ih ⊢
    rw [List.map_cons, List.sum_cons, List.length_cons, Nat.succ_mul, if_neg List.not_mem_nil]
    omega
theorem filter_yes {p : Int → Bool} {z : Int} (h : p z = true) : [z].filter p = [z] := by rw [List.filter_cons_of_pos h]; rfl
theorem filter_no {p : Int → Bool} {z : Int} (h : p z = false) : [z].filter p = [] := by rw [List.filter_cons_of_neg (by rw [h]; exact Bool.false_ne_true)]; rfl
inductive AtG (H : Hp) : Gr → List Addr → List Addr → Prop
  | nil : AtG H [] [] []
  | cons {g : Int × List Int} {gs : Gr} {t a : Addr} {ts as : List Addr} (ht : H t = some (.tup [.int g.1, .ref a])) (ha : H a = some (.lst (g.2.map V.int))) (r : AtG H gs ts as) : AtG H (g :: gs) (t :: ts) (a :: as)
theorem AtG.len {H : Hp} : ∀ {gs ts as}, AtG H gs ts as → ts.length = gs.length ∧ as.length = gs.length
  | _, _, _, .nil => ⟨rfl, rfl⟩
  | _, _, _, .cons _ _ r => ⟨congrArg (· + 1) r.len.1, congrArg (· + 1) r.len.2⟩
theorem AtG.app {H : Hp} : ∀ {gs ts as gs2 ts2 as2}, AtG H gs ts as → AtG H gs2 ts2 as2 → AtG H (gs ++ gs2) (ts ++ ts2) (as ++ as2)
  | _, _, _, _, _, _, .nil, k => k
  | _, _, _, _, _, _, .cons a b r, k => .cons a b (r.app k)
theorem AtG.take {H : Hp} : ∀ {gs ts as} (n : Nat), AtG H gs ts as → AtG H (gs.take n) (ts.take n) (as.take n)
  | _, _, _, 0, _ => .nil
  | _, _, _, _ + 1, .nil => .nil
  | _, _, _, n + 1, .cons a b r => .cons a b (r.take n)
theorem AtG.drop {H : Hp} : ∀ {gs ts as} (n : Nat), AtG H gs ts as → AtG H (gs.drop n) (ts.drop n) (as.drop n)
  | _, _, _, 0, h => h
  | _, _, _, _ + 1, .nil => .nil
  | _, _, _, n + 1, .cons _ _ r => r.drop n
theorem AtG.keepS {S : Addr → Prop} {H H1 : Hp} (f : Fr S H H1) : ∀ {gs ts as}, AtG H gs ts as → (∀ a ∈ as, ¬ S a) → AtG H1 gs ts as
  | _, _, _, .nil, _ => .nil
  | _, _, _, .cons a b r, h => .cons (f.tup _ _ a) (f.keep _ _ b (h _ (List.mem_cons_self ..))) (r.keepS f fun x hx => h x (List.mem_cons_of_mem _ hx))
theorem AtG.get {H : Hp} : ∀ {gs ts as} {i : Nat} {g t a}, AtG H gs ts as → gs[i]? = some g → ts[i]? = some t → as[i]? = some a → H t = some (.tup [.int g.1, .ref a]) ∧ H a = some (.lst (g.2.map V.int))
  | _, _, _, _, _, _, _, .nil, h, _, _ => by simp at h
  | _, _, _, 0, _, _, _, .cons a b r, h1, h2, h3 => by
    simp at h1 h2 h3
    subst h1 h2 h3
    exact ⟨a, b⟩
  | _, _, _, i + 1, _, _, _, .cons a b r, h1, h2, h3 => r.get (i := i) (by simpa using h1) (by simpa using h2) (by simpa using h3)
theorem AtG.rows {H : Hp} {r : Addr} {gs ts as} (h : AtG H gs ts as) (e : H r = some (.lst (ts.map V.ref))) : RowsAt H r gs ts as := ⟨h.len.1, h.len.2, e, fun _ _ _ _ h1 h2 h3 => h.get h1 h2 h3⟩
/-- numbers by steps -/
def numsL (st z : Int) (n : Nat) : List Int := (List.range n).map fun (j : Nat) => st + z * (j : Int)
theorem numsL_succ (st z : Int) (n : Nat) : numsL st z (n + 1) = numsL st z n ++ [st + z * (n : Int)] := by unfold numsL; rw [List.range_succ, List.map_append]; rfl
theorem numsL_len (st z : Int) (n : Nat) : (numsL st z n).length = n := by unfold numsL; rw [List.length_map, List.length_range]
theorem numsL_get {st z : Int} {n i : Nat} (h : i < n) : (numsL st z n)[i]? = some (st + z * (i : Int)) := by
  unfold numsL
  rw [List.getElem?_map, List.getElem?_range h]; rfl
theorem numsL_mem {st z k : Int} {n : Nat} : k ∈ numsL st z n ↔ ∃ i : Nat, i < n ∧ k = st + z * (i : Int) := by
  unfold numsL
  rw [List.mem_map]
  exact ⟨fun ⟨j, h1, h2⟩ => ⟨j, List.mem_range.mp h1, h2.symm⟩, fun ⟨j, h1, h2⟩ => ⟨j, List.mem_range.mpr h1, h2.symm⟩⟩
theorem mul_lt_mul' {z : Int} (hz : 1 ≤ z) {a b : Int} (h : a < b) : z * a < z * b := Int.mul_lt_mul_of_pos_left h (by omega)
theorem numsL_up (st : Int) {z : Int} (hz : 1 ≤ z) : ∀ n : Nat, upI2 (numsL st z n)
  | 0 => .nil
  | n + 1 => by
    rw [numsL_succ]
    unfold upI2
    rw [List.pairwise_append]
    refine ⟨numsL_up st hz n, List.pairwise_singleton _ _, fun a ha b hb => ?_⟩
    obtain ⟨i, hi, rfl⟩ := numsL_mem.mp ha
    rw [List.mem_singleton.mp hb]
    have := mul_lt_mul' hz (show (i : Int) < (n : Int) by omega)
    omega
theorem numsL_mono {st z k : Int} {n m : Nat} (h : n ≤ m) (hk : k ∈ numsL st z n) : k ∈ numsL st z m := by
  obtain ⟨i, hi, e⟩ := numsL_mem.mp hk
  exact numsL_mem.mpr ⟨i, by omega, e⟩
theorem numsL_take (st z : Int) {n i : Nat} (h : i ≤ n) : (numsL st z n).take i = numsL st z i := by
  unfold numsL
  rw [← List.map_take, List.take_range, Nat.min_eq_left h]
theorem AtG.mem {H : Hp} : ∀ {gs ts as}, AtG H gs ts as → ∀ x ∈ as, ∃ o, H x = some o
  | _, _, _, .nil, _, h => nomatch h
  | _, _, _, .cons a b r, x, h => by
    rcases List.mem_cons.mp h with rfl | h
    · exact ⟨_, b⟩
    · exact r.mem x h
theorem keysG_app (gs hs : Gr) : keysG (gs ++ hs) = keysG gs ++ keysG hs := List.map_append
theorem turn_ok {gs : Gr} (n : Nat) (ok : GrOk gs) : GrOk (gs.drop n ++ gs.take n) := by
  have p : (gs.drop n ++ gs.take n).Perm gs := by
    have := List.perm_append_comm (l₁ := gs.drop n) (l₂ := gs.take n)
    rwa [List.take_append_drop] at this
  have pk : (keysG (gs.drop n ++ gs.take n)).Perm (keysG gs) := p.map _
  exact ⟨pk.nodup_iff.mpr ok.nd, by rw [p.length_eq]; exact ok.len, fun g hg e he => pk.mem_iff.mpr (ok.sub g (p.mem_iff.mp hg) e he), fun g hg => ok.ndl g (p.mem_iff.mp hg)⟩
abbrev Two (a b : Addr) : Addr → Prop := fun c => c = a ∨ c = b
/-! ### a ladder -/
def lads (st z : Int) (n bk i : Nat) : List Int := ((numsL st z n).drop (i - bk)).take (i - (i - bk))
def ladG (st z : Int) (n bk i : Nat) : Gr := (List.range i).map fun (k : Nat) => (st + z * (k : Int), lads st z n bk k)
theorem ladG_succ (st z : Int) (n bk i : Nat) : ladG st z n bk (i + 1) = ladG st z n bk i ++ [(st + z * (i : Int), lads st z n bk i)] := by unfold ladG; rw [List.range_succ, List.map_append]; rfl
theorem ladG_keys (st z : Int) (n bk i : Nat) : keysG (ladG st z n bk i) = numsL st z i := by unfold ladG keysG numsL; rw [List.map_map]; rfl
theorem ladG_len (st z : Int) (n bk i : Nat) : (ladG st z n bk i).length = i := by unfold ladG; rw [List.length_map, List.length_range]
theorem lads_mem {st z e : Int} {n bk i : Nat} (hi : i ≤ n) : e ∈ lads st z n bk i ↔ ∃ j : Nat, i - bk ≤ j ∧ j < i ∧ e = st + z * (j : Int) := by
  unfold lads
  constructor
  · intro h
    obtain ⟨k, hk, rfl⟩ := List.getElem_of_mem h
    rw [List.length_take, List.length_drop, numsL_len] at hk
    refine ⟨i - bk + k, by omega, by omega, ?_⟩
    rw [List.getElem_take, List.getElem_drop]
    have := numsL_get (st := st) (z := z) (show i - bk + k < n by omega)
    rw [List.getElem?_eq_getElem (by rw [numsL_len]; omega)] at this
    exact Option.some.inj this
  · rintro ⟨j, h1, h2, rfl⟩
    refine List.mem_of_getElem? (i := j - (i - bk)) ?_
    rw [List.getElem?_take_of_lt (by omega), List.getElem?_drop, numsL_get (by omega)]
    have : i - bk + (j - (i - bk)) = j := by omega
    rw [this]
theorem lad_eld {st z : Int} (hz : 1 ≤ z) {n bk i : Nat} (hi : i < n) : eld (ladG st z n bk n) (st + z * (i : Int)) = lads st z n bk i := by
  have hm : (st + z * (i : Int), lads st z n bk i) ∈ ladG st z n bk n := List.mem_map.mpr ⟨i, List.mem_range.mpr hi, rfl⟩
  exact eld_of (by rw [ladG_keys]; exact (numsL_up st hz n).nodup) hm
theorem lad_ok {st z : Int} (hz : 1 ≤ z) {n bk : Nat} (hn : n ≤ 60) : GrOk (ladG st z n bk n) := by
  refine ⟨by rw [ladG_keys]; exact (numsL_up st hz n).nodup, by rw [ladG_len]; exact hn, fun g hg e he => ?_, fun g hg => ?_⟩
  · obtain ⟨i, hi, rfl⟩ := List.mem_map.mp hg
    have hi := List.mem_range.mp hi
    obtain ⟨j, _, h2, rfl⟩ := (lads_mem (Nat.le_of_lt hi)).mp he
    rw [ladG_keys]
    exact numsL_mem.mpr ⟨j, by omega, rfl⟩
  · obtain ⟨i, hi, rfl⟩ := List.mem_map.mp hg
    exact List.Pairwise.sublist ((List.take_sublist _ _).trans (List.drop_sublist _ _)) (numsL_up st hz n).nodup
theorem num_inj {st z : Int} (hz : 1 ≤ z) {i j : Nat} (h : st + z * (i : Int) = st + z * (j : Int)) : i = j := by
  rcases Nat.lt_trichotomy i j with h1 | h1 | h1
  · have := mul_lt_mul' hz (show (i : Int) < (j : Int) by omega); omega
  · exact h1
  · have := mul_lt_mul' hz (show (j : Int) < (i : Int) by omega); omega
theorem lad_rch {st z : Int} (hz : 1 ≤ z) {n bk i : Nat} (hb : 1 ≤ bk) (hi : i < n) (k : Int) : Rch (ladG st z n bk n) (st + z * (i : Int)) k ↔ k ∈ numsL st z (i + 1) := by
  constructor
  · intro h
    induction h with
    | refl => exact numsL_mem.mpr ⟨i, Nat.lt_succ_self _, rfl⟩
    | @step a c h1 h2 ih =>
      obtain ⟨j, hj, rfl⟩ := numsL_mem.mp ih
      rw [lad_eld hz (by omega)] at h2
      obtain ⟨l, _, h4, rfl⟩ := (lads_mem (by omega)).mp h2
      exact numsL_mem.mpr ⟨l, by omega, rfl⟩
  · intro h
    obtain ⟨j, hj, rfl⟩ := numsL_mem.mp h
    have go : ∀ d : Nat, d ≤ i → Rch (ladG st z n bk n) (st + z * (i : Int)) (st + z * ((i - d : Nat) : Int)) := by
      intro d
      induction d with
      | zero => intro _; exact .refl
      | succ d ih =>
        intro hd
        refine .step (ih (by omega)) ?_
        rw [lad_eld hz (by omega)]
        exact (lads_mem (by omega)).mpr ⟨i - (d + 1), by omega, by omega, rfl⟩
    have := go (i - j) (by omega)
    rwa [show i - (i - j) = j by omega] at this
/-- dicts of the same numbers -/
theorem x_eqEld {K : PySem.W.Frag} {H : Hp} {Q : VK} {a b : Addr} {gs : Gr} {as bs : List Addr} (ha : EldAt H a gs as) (hb : EldAt H b gs bs) (hd : (keysG gs).Nodup) (q : Q (.bl true) H) : rEqDL K (.ref a) (.ref b) H Q := by
  refine ⟨a, b, kvG gs as, kvG gs bs, rfl, rfl, ha.dk, hb.dk, ?_, fun p hp => ?_, q⟩
  · unfold kvG
    rw [List.length_map, List.length_map, List.length_zip, List.length_zip, ha.len, hb.len]
  · obtain ⟨z, hz, rfl⟩ := List.mem_map.mp hp
    have hg := (List.of_mem_zip hz).1
    have hk : z.1.1 ∈ keysG gs := List.mem_map_of_mem hg
    obtain ⟨c, h1, h2⟩ := val_zip hb.len hk
    have h3 := ha.ls z hz
    have h4 := hb.ls _ h2
    rw [eld_of hd hg] at h4
    refine ⟨.ref c, .list (z.1.2.map PyData.int), h1, .lst (SqL.of h3) (dp_ints _), .lst (SqL.of h4) (dp_ints _), ?_, ?_, ?_⟩
    · have := ints_shaped z.1.2
      unfold SeqAt.shaped at this
      rw [Bool.and_eq_true] at this
      exact this.1
    · show PyData.depthAll _ + 1 ≤ 20
      exact Nat.le_trans (Nat.succ_le_succ (depthAll_le (n := 0) fun d hd => by
        obtain ⟨j, _, rfl⟩ := List.mem_map.mp hd
        exact Nat.le_refl _)) (by decide)
    · rw [eqv_ints]; exact decide_eq_true rfl
theorem kvG_list : ∀ {gs : Gr} {as : List Addr}, as.length = gs.length → ((kvG gs as).map fun kv => kV kv.1) = (keysG gs).map V.int
  | [], [], _ => rfl
  | [], _ :: _, h => by cases h
  | _ :: _, [], h => by cases h
  | g :: gs, a :: as, h => by
    show kV (Sum.inl g.1) :: ((kvG gs as).map fun kv => kV kv.1) = V.int g.1 :: (keysG gs).map V.int
    rw [kvG_list (Nat.succ.inj h)]; rfl
theorem cut_both {xs : List V} {lo hi : Int} (h0 : 0 ≤ lo) (h1 : lo ≤ hi) (h2 : hi ≤ xs.length) : cutV xs (some lo) (some hi) = (xs.drop lo.toNat).take (hi.toNat - lo.toNat) := by
  have e1 : HT.sIx xs.length 0 (some lo) = min lo.toNat xs.length := by
    show (if lo < 0 then _ else min lo.toNat xs.length) = _
    rw [if_neg (by omega)]
  have e2 : HT.sIx xs.length xs.length (some hi) = min hi.toNat xs.length := by
    show (if hi < 0 then _ else min hi.toNat xs.length) = _
    rw [if_neg (by omega)]
  rw [cutV_eq, e1, e2, Nat.min_eq_left (by omega), Nat.min_eq_left (by omega)]
theorem atI_back {α : Type} {xs : List α} {k : Nat} {x : α} (h1 : 1 ≤ k) (h2 : k ≤ xs.length) (h : xs[xs.length - k]? = some x) : atI xs (-(k : Int)) = some x := by
  unfold atI ixN
  rw [if_neg (by omega), if_pos (by omega)]
  show xs[(-(k : Int) + (xs.length : Int)).toNat]? = some x
  have e : (-(k : Int) + (xs.length : Int)).toNat = xs.length - k := by omega
  rw [e, h]
theorem cut_butlast (xs : List V) : cutV xs none (some (-1)) = xs.dropLast := by rw [cutV_eq, cut_init xs rfl]
/-! ### bases -/
def GrLt (gs : Gr) : Prop := ∀ g ∈ gs, ∀ e ∈ g.2, e < g.1
def BaseOf (gs : Gr) (n m k : Int) : Prop := (Rch gs n k ∧ Rch gs m k) ∧ ∀ j, Rch gs n j → Rch gs m j → j ≠ k → ¬ Rch gs j k
theorem base_comm {gs : Gr} {n m k : Int} : BaseOf gs n m k ↔ BaseOf gs m n k :=
  ⟨fun h => ⟨⟨h.1.2, h.1.1⟩, fun j a b => h.2 j b a⟩, fun h => ⟨⟨h.1.2, h.1.1⟩, fun j a b => h.2 j b a⟩⟩
theorem rch_le {gs : Gr} (ok : GrOk gs) (lt : GrLt gs) {n k : Int} (hn : n ∈ keysG gs) (h : Rch gs n k) : k ≤ n := by
  induction h with
  | refl => exact Int.le_refl _
  | @step a c h1 h2 ih =>
    have := lt _ (eld_mem (h1.keys ok hn)) c h2
    have h3 : c < a := this
    omega
theorem base_one {gs : Gr} (ok : GrOk gs) (lt : GrLt gs) {n m : Int} (hn : n ∈ keysG gs) (hm : Rch gs m n) (k : Int) : BaseOf gs n m k ↔ k = n := by
  constructor
  · rintro ⟨⟨h1, h2⟩, h3⟩
    by_cases e : n = k
    · exact e.symm
    · exact absurd h1 (h3 n .refl hm e)
  · rintro rfl
    refine ⟨⟨.refl, hm⟩, fun j a b e c => e ?_⟩
    have h1 := rch_le ok lt hn a
    have h2 := rch_le ok lt (a.keys ok hn) c
    omega
theorem max_of : ∀ {l : List Int}, l ≠ [] → ∃ m ∈ l, ∀ j ∈ l, j ≤ m
  | [], h => absurd rfl h
  | [a], _ => ⟨a, List.mem_cons_self .., fun j hj => by rw [List.mem_singleton.mp hj]; exact Int.le_refl _⟩
  | a :: b :: l, _ => by
    obtain ⟨m, h1, h2⟩ := max_of (l := b :: l) (fun e => nomatch e)
    by_cases h : a ≤ m
    · refine ⟨m, List.mem_cons_of_mem _ h1, fun j hj => ?_⟩
      rcases List.mem_cons.mp hj with rfl | hj
      · exact h
      · exact h2 j hj
    · refine ⟨a, List.mem_cons_self .., fun j hj => ?_⟩
      rcases List.mem_cons.mp hj with rfl | hj
      · exact Int.le_refl _
      · have := h2 j hj; omega
/-- what reaches it, among what both reach: a base reaches it -/
theorem base_above {gs : Gr} (ok : GrOk gs) (lt : GrLt gs) {n m k : Int} {both : List Int} (hb : ∀ j, j ∈ both ↔ Rch gs n j ∧ Rch gs m j) (hn : n ∈ keysG gs) (R : Int → Bool) (hR : ∀ j ∈ both, R j = true ↔ Rch gs j k) (hk : k ∈ both) : ∃ j, BaseOf gs n m j ∧ Rch gs j k := by
  obtain ⟨j, h1, h2⟩ := max_of (l := both.filter R) (fun e => by
    have : k ∈ both.filter R := List.mem_filter.mpr ⟨hk, (hR k hk).mpr .refl⟩
    rw [e] at this; cases this)
  have h3 := List.mem_filter.mp h1
  have hj := (hb j).mp h3.1
  have hjk := (hR j h3.1).mp h3.2
  refine ⟨j, ⟨hj, fun i a b e c => e ?_⟩, hjk⟩
  have hi : i ∈ both := (hb i).mpr ⟨a, b⟩
  have := h2 i (List.mem_filter.mpr ⟨hi, (hR i hi).mpr (c.trans hjk)⟩)
  have h4 := rch_le ok lt (a.keys ok hn) c
  omega
structure BelOk (gs bs : Gr) : Prop where
  ks : keysG bs = keysG gs
  up : ∀ n ∈ keysG gs, upI2 (eld bs n)
  mem : ∀ n ∈ keysG gs, ∀ k, k ∈ eld bs n ↔ Rch gs n k
theorem BelOk.few {gs bs : Gr} (ok : GrOk gs) (h : BelOk gs bs) {n : Int} (hn : n ∈ keysG gs) : (eld bs n).length ≤ 60 := Nat.le_trans (ok.few (h.up n hn).nodup fun k hk => ((h.mem n hn k).mp hk).keys ok hn) ok.len
theorem lad_lt {st z : Int} (hz : 1 ≤ z) {n bk : Nat} : GrLt (ladG st z n bk n) := fun g hg e he => by
  obtain ⟨i, hi, rfl⟩ := List.mem_map.mp hg
  obtain ⟨j, _, h2, rfl⟩ := (lads_mem (Nat.le_of_lt (List.mem_range.mp hi))).mp he
  have := mul_lt_mul' hz (show (j : Int) < (i : Int) by omega)
  show st + z * (j : Int) < st + z * (i : Int)
  omega
theorem turn_lt {gs : Gr} (n : Nat) (h : GrLt gs) : GrLt (gs.drop n ++ gs.take n) := fun g hg => by
  rcases List.mem_append.mp hg with hg | hg
  · exact h g (List.mem_of_mem_drop hg)
  · exact h g (List.mem_of_mem_take hg)
theorem AtG.eld {H : Hp} {e : Addr} {gs : Gr} {ts as : List Addr} (h : AtG H gs ts as) (d : H e = some (.dK (kvG gs as))) : EldAt H e gs as := by
  refine ⟨h.len.2, d, fun p hp => ?_⟩
  obtain ⟨i, hi, rfl⟩ := List.getElem_of_mem hp
  rw [List.length_zip] at hi
  have hl := h.len
  rw [List.getElem_zip]
  obtain ⟨t, ht⟩ : ∃ t, ts[i]? = some t := ⟨_, List.getElem?_eq_getElem (by omega)⟩
  exact (h.get (List.getElem?_eq_getElem (by omega)) ht (List.getElem?_eq_getElem (by omega))).2
theorem AtG.paired {H : Hp} {gs : Gr} {ts as : List Addr} (h : AtG H gs ts as) : Paired (fun t kv => H t = some (.tup [kV kv.1, kv.2])) ts (kvG gs as) := kvG_paired h.len.1 h.len.2 fun _ _ _ _ h1 h2 h3 => (h.get h1 h2 h3).1
end Tw

/-! TwP: a dict with keys of all kinds. -/
namespace Tw
open PySem PySem.W PySem.Spec PyProof.Rows L2
mutual
def nkOf : PyData → NestedKey
  | .int i => .num i
  | .str x => .text x
  | .tuple ds => .tup (nksOf ds)
  | _ => .none
def nksOf : List PyData → List NestedKey
  | [] => []
  | d :: ds => nkOf d :: nksOf ds
end
theorem nks_map : ∀ ds : List PyData, nksOf ds = ds.map nkOf
  | [] => by rw [nksOf]; rfl
  | d :: ds => by rw [nksOf, nks_map ds]; rfl
theorem nk_data : ∀ {r : Nat} {d : PyData}, isK r d → (nkOf d).data = d := by
  intro r
  induction r with
  | zero =>
    intro d h
    rcases isK_cases h with ⟨i, rfl, _⟩ | ⟨z, rfl, _⟩ | ⟨r1, ds, e, _⟩
    · rw [nkOf, NestedKey.data]
    · rw [nkOf, NestedKey.data]
    · cases e
  | succ r ih =>
    intro d h
    rcases isK_cases h with ⟨i, rfl, _⟩ | ⟨z, rfl, _⟩ | ⟨r1, ds, e, rfl, hl, hs⟩
    · rw [nkOf, NestedKey.data]
    · rw [nkOf, NestedKey.data]
    · cases e
      rw [nkOf, NestedKey.data]
      congr 1
      clear h hl
      induction ds with
      | nil => rw [nksOf, NestedKey.datas]
      | cons a ds ih2 =>
        rw [nksOf, NestedKey.datas, ih (hs a (List.mem_cons_self ..)), ih2 fun x hx => hs x (List.mem_cons_of_mem _ hx)]
theorem nk_inj {r : Nat} {d e : PyData} (h : isK r d) (k : isK r e) (he : nkOf d = nkOf e) : d = e := by
  rw [← nk_data h, he, nk_data k]
theorem nk_is {hp : Heap} : ∀ {r : Nat} {d : PyData} {v : Value} {as : List Addr}, isK r d → Reads hp v d as → NestedIs hp (nkOf d) v ∧ (nkOf d).depth ≤ r := by
  intro r
  induction r with
  | zero =>
    intro d v as h x
    rcases isK_cases h with ⟨i, rfl, _⟩ | ⟨z, rfl, _⟩ | ⟨r1, ds, e, _⟩
    · cases x; exact ⟨by rw [nkOf]; exact .int _ _, by rw [nkOf]; exact Nat.le_refl _⟩
    · cases x; exact ⟨by rw [nkOf]; exact .text _ _, by rw [nkOf]; exact Nat.le_refl _⟩
    · cases e
  | succ r ih =>
    intro d v as h x
    rcases isK_cases h with ⟨i, rfl, _⟩ | ⟨z, rfl, _⟩ | ⟨r1, ds, e, rfl, _, hs⟩
    · cases x; exact ⟨by rw [nkOf]; exact .int _ _, by rw [nkOf]; exact Nat.zero_le _⟩
    · cases x; exact ⟨by rw [nkOf]; exact .text _ _, by rw [nkOf]; exact Nat.zero_le _⟩
    · cases e
      cases x with
      | @tuple a o vs n _ _ h1 h2 h3 h4 =>
        have go : ∀ (ds : List PyData) (vs : List Value) (as : List Addr), (∀ d ∈ ds, isK r d) → ReadsAll hp vs ds as → NestedAll hp (nksOf ds) vs ∧ NestedKey.depthAll (nksOf ds) ≤ r := by
          intro ds
          induction ds with
          | nil =>
            intro vs as _ y
            cases y
            rw [nksOf]
            exact ⟨.nil, Nat.zero_le _⟩
          | cons b ds ih2 =>
            intro vs as hb y
            cases y with
            | cons y1 y2 =>
              obtain ⟨p1, p2⟩ := ih (hb b (List.mem_cons_self ..)) y1
              obtain ⟨p3, p4⟩ := ih2 _ _ (fun x hx => hb x (List.mem_cons_of_mem _ hx)) y2
              rw [nksOf]
              exact ⟨.cons p1 p3, Nat.max_le.mpr ⟨p2, p4⟩⟩
        obtain ⟨p1, p2⟩ := go ds _ _ hs h4
        rw [nkOf]
        exact ⟨.tup h1 h2 h3 p1, Nat.succ_le_succ p2⟩
/-! ### entries -/
structure MxOf (w : World) (h : Heap) (ks : List NestedKey) (es : Array DictEntry) : Prop where
  len : es.size = ks.length
  is : ∀ (i : Nat) (hi : i < es.size) k, ks[i]? = some k → NestedIs h k es[i].key ∧ es[i].hash = k.hash w ∧ k.depth ≤ 8
  nd : ks.Nodup
section
variable {prog : Program} {w : World} {A : Around} {E : Value → Shared → Prop} {s : Shared}
theorem MxOf.at {h : Heap} {ks : List NestedKey} {es : Array DictEntry} (M : MxOf w h ks es) {i : Nat} (hi : i < es.size) : ∃ k, ks[i]? = some k ∧ NestedIs h k es[i].key ∧ es[i].hash = k.hash w ∧ k.depth ≤ 8 := by
  have h1 : i < ks.length := M.len ▸ hi
  exact ⟨ks[i], List.getElem?_eq_getElem h1, M.is i hi _ (List.getElem?_eq_getElem h1)⟩
theorem MxOf.one {h : Heap} {ks : List NestedKey} {es : Array DictEntry} (M : MxOf w h ks es) {i j : Nat} {k : NestedKey} (hi : ks[i]? = some k) (hj : ks[j]? = some k) : i = j :=
  (List.getElem?_inj (List.getElem?_eq_some_iff.mp hi).1 M.nd).mp (hi.trans hj.symm)
theorem quiet_mx {k : NestedKey} {key : Value} {stored : List Value} {Q : Bool → Shared → Prop} (hk : NestedIs s.heap k key) (h8 : k.depth ≤ 8)
    (hst : ∀ v ∈ stored, ∃ k, NestedIs s.heap k v ∧ k.depth ≤ 8) (h : Q false s) : wpAny (model prog w) A (tableMayTell key stored) Q E s := by
  unfold tableMayTell
  split
  · exact wpAny_pure h
  · refine wpAny_bind (quiet_key k key 8 s hk h8 _ _ _ ?_)
    rw [if_neg (by decide)]
    refine wpAny_bind (wpAny_forIn_list _ (fun rest r s' => s' = s ∧ r = (none, ()) ∧ ∀ v ∈ rest, ∃ k, NestedIs s.heap k v ∧ k.depth ≤ 8) _ ?_ ?_ _ _ ⟨rfl, rfl, hst⟩)
    · rintro x rest r s' ⟨rfl, rfl, hr⟩
      obtain ⟨k2, b1, b2⟩ := hr x List.mem_cons_self
      refine wpAny_bind (quiet_key k2 x 8 s' b1 b2 _ _ _ ?_)
      rw [if_neg (by decide)]
      exact wpAny_pure ⟨rfl, rfl, fun v hv => hr v (List.mem_cons_of_mem _ hv)⟩
    · rintro r s' ⟨rfl, rfl, _⟩
      exact wpAny_pure h
set_option hygiene false in
local macro_rules | `(tactic| walk_at "mx") => `(tactic| (
  rw [if_neg (by simp)]
  refine wpAny_bind ?_
  refine wpAny_forIn_list _ (fun rest b s' => s' = s ∧ ∃ (hit : Option Nat) (l : List Nat), b = (none, hit) ∧ l ++ rest = places ∧ ((hit = none ∧ ∀ i ∈ l, ks[i]? ≠ some k) ∨ ∃ j ∈ l, hit = some j ∧ ks[j]? = some k)) _ ?_ ?_ _ _ ⟨rfl, none, [], rfl, rfl, .inl ⟨rfl, fun _ h => by cases h⟩⟩
  · rintro x rest b s' ⟨rfl, hit, l, rfl, hl, hH⟩
    obtain ⟨hx, hh⟩ := (hpl x).mp (hl ▸ List.mem_append_right _ (List.mem_cons_self ..))
    obtain ⟨k2, b1, b2, b3, b4⟩ := M.at hx
    rw [Array.getElem?_eq_getElem hx]
    dsimp only
    rw [if_pos (by rw [hh]; exact beq_self_eq_true _)]
    refine wpAny_bind (wpAny_dictEpoch ho hd (wpAny_bind (heq x hx k2 _ _ b1 (wpAny_bind (wpAny_dictEpoch ho hd ?_)))))
    rw [if_neg (by simp)]
    by_cases hkk : k2 = k
    · rw [decide_eq_true hkk]
      subst hkk
      rcases hH with ⟨rfl, hn⟩ | ⟨j, hjl, rfl, hj⟩
      · rw [if_pos rfl]
        refine w_ite (fun h => absurd h (by simp)) (fun _ => ?_)
        refine wpAny_bind (wpAny_rule ?_)
        refine w_ite (fun _ => ?_) (fun _ => ?_)
        · exact wpAny_pure (wpAny_pure (hyes x b1))
        · exact wpAny_pure ⟨rfl, some x, l ++ [x], rfl, by rw [List.append_assoc]; exact hl, .inr ⟨x, List.mem_append_right _ (List.mem_singleton.mpr rfl), rfl, b1⟩⟩
      · have e := M.one hj b1
        subst e
        rw [← hl, List.nodup_append] at hnd
        exact absurd rfl (hnd.2.2 j hjl j (List.mem_cons_self ..))
    · rw [decide_eq_false hkk]
      rw [if_neg Bool.false_ne_true]
      refine wpAny_bind (wpAny_rule ?_)
      refine w_ite (fun h => absurd h (by simp)) (fun _ => ?_)
      refine wpAny_pure ⟨rfl, hit, l ++ [x], rfl, by rw [List.append_assoc]; exact hl, ?_⟩
      rcases hH with ⟨e1, hn⟩ | ⟨j, hjl, e1, hj⟩
      · refine .inl ⟨e1, fun i hi => ?_⟩
        rcases List.mem_append.mp hi with hi | hi
        · exact hn i hi
        · rw [List.mem_singleton.mp hi, b1]
          exact fun e => hkk (Option.some.inj e)
      · exact .inr ⟨j, List.mem_append_left _ hjl, e1, hj⟩
  · rintro b s' ⟨rfl, hit, l, rfl, hl, hH⟩
    rw [List.append_nil] at hl
    rcases hH with ⟨rfl, hn⟩ | ⟨j, hjl, rfl, hj⟩
    · exact wpAny_pure (hno (noin l hn hl))
    · exact wpAny_pure (hyes j hj)))
theorem w_ite {α : Type} {c : Prop} [Decidable c] {x y : Sem α} {Q : α → Shared → Prop} (h1 : c → wpAny (model prog w) A x Q E s) (h2 : ¬ c → wpAny (model prog w) A y Q E s) : wpAny (model prog w) A (if c then x else y) Q E s := by
  by_cases h : c
  · rw [if_pos h]; exact h1 h
  · rw [if_neg h]; exact h2 h
theorem find_mx {d : Addr} {o : Obj} {es : Array DictEntry} {ep : Nat} {ks : List NestedKey} {k : NestedKey} {key : Value} {Q : Option Nat → Shared → Prop} (hu : A.units + 8 < cLine) (hk : NestedIs s.heap k key) (h8 : k.depth ≤ 8)
    (ho : s.heap.get? d = some o) (hd : o.data = .dict es ep) (M : MxOf w s.heap ks es) (hno : k ∉ ks → Q none s) (hyes : ∀ j, ks[j]? = some k → Q (some j) s) :
    wpAny (model prog w) A (dictFind d key (k.hash w)) Q E s := by
  obtain ⟨places, epl⟩ : ∃ places, places = placesWithHash es.size (fun i => es[i]?.map (·.hash)) (k.hash w) := ⟨_, rfl⟩
  have hpl : ∀ i, i ∈ places ↔ ∃ hi : i < es.size, es[i].hash = k.hash w := fun i => by
    rw [epl, placesWithHash, List.mem_filter, List.mem_range]
    constructor
    · rintro ⟨h1, h2⟩
      rw [Array.getElem?_eq_getElem h1] at h2
      exact ⟨h1, by simpa using h2⟩
    · rintro ⟨h1, h2⟩
      refine ⟨h1, ?_⟩
      rw [Array.getElem?_eq_getElem h1]
      simpa using h2
  have hnd : places.Nodup := by
    rw [epl, placesWithHash]
    exact List.Nodup.sublist List.filter_sublist List.nodup_range
  have hin : ∀ j, ks[j]? = some k → j ∈ places := fun j hj => by
    have hj2 : j < es.size := by rw [M.len]; exact (List.getElem?_eq_some_iff.mp hj).1
    exact (hpl j).mpr ⟨hj2, (M.is j hj2 k hj).2.1⟩
  have heq : ∀ (i : Nat) (hi : i < es.size) (k2 : NestedKey) (Q' : Bool → Shared → Prop) (E' : Value → Shared → Prop), ks[i]? = some k2 → Q' (decide (k2 = k)) s → wpAny (model prog w) A (eqBool es[i].key key) Q' E' s := fun i hi k2 Q' E' h1 h2 => by
    obtain ⟨a1, _, a3⟩ := M.is i hi k2 h1
    exact eqAt_key k2 k A s _ _ a1 hk (by omega) _ _ _ _ (by rw [← NestedKey.decide_eq]; exact h2)
  have noin : ∀ l : List Nat, (∀ i ∈ l, ks[i]? ≠ some k) → l = places → k ∉ ks := fun l h1 h2 hm => by
    obtain ⟨j, hj⟩ := List.mem_iff_getElem?.mp hm
    exact h1 j (h2 ▸ hin j hj) hj
  have hst : ∀ v ∈ places.filterMap (fun i => es[i]?.map (·.key)), ∃ k, NestedIs s.heap k v ∧ k.depth ≤ 8 := fun v hv => by
    obtain ⟨i, hi, e⟩ := List.mem_filterMap.mp hv
    obtain ⟨h1, _⟩ := (hpl i).mp hi
    rw [Array.getElem?_eq_getElem h1] at e
    obtain ⟨k2, _, a1, _, a3⟩ := M.at h1
    have e2 : es[i].key = v := by simpa using e
    rw [← e2]
    exact ⟨k2, a1, a3⟩
  have plain : wpAny (model prog w) A (dictWalkPlain d key (k.hash w) es places) Q E s := by
    unfold dictWalkPlain
    refine wpAny_bind (wpAny_forIn_list _ (fun rest b s' => s' = s ∧ b = (none, ()) ∧ ∃ l, l ++ rest = places ∧ ∀ i ∈ l, ks[i]? ≠ some k) _ ?_ ?_ _ _ ⟨rfl, rfl, [], rfl, fun _ h => by cases h⟩)
    · rintro x rest b s' ⟨rfl, rfl, l, hl, hn⟩
      obtain ⟨hx, hh⟩ := (hpl x).mp (hl ▸ List.mem_append_right _ (List.mem_cons_self ..))
      obtain ⟨k2, b1, b2, b3, b4⟩ := M.at hx
      rw [Array.getElem?_eq_getElem hx]
      dsimp only
      rw [if_pos (by rw [hh]; exact beq_self_eq_true _)]
      refine wpAny_bind (wpAny_dictEpoch ho hd (wpAny_bind (heq x hx k2 _ _ b1 (wpAny_bind (wpAny_dictEpoch ho hd ?_)))))
      rw [if_neg (by simp)]
      by_cases hkk : k2 = k
      · rw [decide_eq_true hkk]
        subst hkk
        exact wpAny_bind (wpAny_rule (wpAny_pure (wpAny_pure (hyes x b1))))
      · rw [decide_eq_false hkk]
        refine wpAny_bind (wpAny_rule (wpAny_pure ⟨rfl, rfl, l ++ [x], by rw [List.append_assoc]; exact hl, fun i hi => ?_⟩))
        rcases List.mem_append.mp hi with hi | hi
        · exact hn i hi
        · rw [List.mem_singleton.mp hi, b1]
          exact fun e => hkk (Option.some.inj e)
    · rintro b s' ⟨rfl, rfl, l, hl, hn⟩
      rw [List.append_nil] at hl
      exact wpAny_pure (hno (noin l hn hl))
  unfold dictFind
  try with_reducible refine wpAny_holding ?_
  refine wpAny_bind (wpAny_dictEntries ho hd ?_)
  dsimp only
  rw [← epl]
  by_cases hs : ∃ x t, key = Value.str x t
  · obtain ⟨x, t, rfl⟩ := hs
    have hkx : k = NestedKey.text x := by cases hk; rfl
    dsimp only
    refine w_ite (fun hall => ?_) (fun _ => ?_)
    · skip
      unfold foundByValue
      have hstr : ∀ i (hi : i < es.size), es[i].key.isStr x = true → ks[i]? = some k := fun i hi h => by
        obtain ⟨k2, b1, b2, _⟩ := M.at hi
        rw [hkx, b1]
        generalize es[i].key = kk at b2 h
        cases b2 with
        | text y t2 =>
          have e : y = x := by simpa [Value.isStr] using h
          rw [e]
        | none => simp [Value.isStr] at h
        | bool _ => simp [Value.isStr] at h
        | int _ _ => simp [Value.isStr] at h
        | tup _ _ _ _ => simp [Value.isStr] at h
      have hst2 : ∀ i (hi : i < es.size), ks[i]? = some k → es[i].key.isStr x = true := fun i hi h => by
        obtain ⟨b2, _⟩ := M.is i hi _ h
        rw [hkx] at b2
        generalize es[i].key = kk at b2
        cases b2
        simp [Value.isStr]
      cases hf : es.findIdx? (fun e => e.key.isStr x) with
      | none =>
        refine wpAny_pure (hno fun hm => ?_)
        obtain ⟨j, hj⟩ := List.mem_iff_getElem?.mp hm
        have hj2 : j < es.size := by rw [M.len]; exact (List.getElem?_eq_some_iff.mp hj).1
        have z := Array.findIdx?_eq_none_iff.mp hf es[j] (Array.getElem_mem hj2)
        rw [hst2 j hj2 hj] at z
        cases z
      | some i =>
        obtain ⟨hlt, hi, _⟩ := Array.findIdx?_eq_some_iff_getElem.mp hf
        have hki := hstr i hlt hi
        simp only [Array.getElem?_eq_getElem hlt]
        refine wpAny_bind (wpAny_dictEpoch ho hd (wpAny_bind (heq i hlt _ _ _ hki (wpAny_bind (wpAny_dictEpoch ho hd ?_)))))
        rw [if_neg (by simp), decide_eq_true rfl]
        exact wpAny_bind (wpAny_rule (wpAny_pure (hyes i hki)))
    · refine w_ite (fun _ => plain) (fun _ => w_ite (fun _ => wpAny_bind (wpAny_pure ?_)) (fun _ => wpAny_bind (quiet_mx hk h8 hst ?_)))
      · walk_at "mx"
      · walk_at "mx"
  · by_cases hr : ∃ a, key = Value.ref a
    · obtain ⟨a, rfl⟩ := hr
      dsimp only
      refine w_ite (fun _ => plain) (fun _ => ?_)
      rw [if_neg (fun hany => by
        rw [← Array.any_toList, List.any_eq_true] at hany
        obtain ⟨e, he, hc⟩ := hany
        obtain ⟨i, hi, rfl⟩ := Array.mem_iff_getElem.mp (Array.mem_toList_iff.mp he)
        simp only [Bool.and_eq_true, beq_iff_eq, bne_iff_ne, ne_eq] at hc
        obtain ⟨k2, b1, b2, b3, _⟩ := M.at hi
        rw [hc.1] at b2
        rw [NestedIs.inj _ _ _ b2 hk] at b3
        exact hc.2 b3)]
      refine w_ite (fun _ => wpAny_bind (wpAny_pure ?_)) (fun _ => wpAny_bind (quiet_mx hk h8 hst ?_))
      · walk_at "mx"
      · walk_at "mx"
    · have hv : (∃ b, key = Value.bool b) ∨ (∃ i t, key = Value.int i t) ∨ key = Value.none := by
        cases hk with
        | none => exact .inr (.inr rfl)
        | bool _ => exact .inl ⟨_, rfl⟩
        | int i t => exact .inr (.inl ⟨i, t, rfl⟩)
        | text x t => exact absurd ⟨x, t, rfl⟩ hs
        | tup _ _ _ _ => exact absurd ⟨_, rfl⟩ hr
      rcases hv with ⟨b, rfl⟩ | ⟨i, t, rfl⟩ | rfl
      all_goals
        dsimp only
        refine w_ite (fun _ => plain) (fun _ => w_ite (fun _ => wpAny_bind (wpAny_pure ?_)) (fun _ => wpAny_bind (quiet_mx hk h8 hst ?_)))
        · walk_at "mx"
        · walk_at "mx"
/-- the dict's own object -/
structure Dd (h : Heap) (d : Addr) (es : Array DictEntry) : Prop where
  ex : ∃ o ep, h.get? d = some o ∧ o.ExactDict ∧ o.data = .dict es ep
theorem Dd.typeIs {d : Addr} {es : Array DictEntry} (x : Dd s.heap d es) : s.TypeIs (.ref d) "dict" := let ⟨o, _, ho, hc, _⟩ := x.ex; ⟨o, ho, hc.1⟩
/-- d[key] = v -/
def SetTo (w : World) (ks : List NestedKey) (es : Array DictEntry) (k : NestedKey) (key v : Value) (es' : Array DictEntry) : Prop :=
  (∃ j, ks[j]? = some k ∧ es' = es.modify j fun e => { e with val := v }) ∨ (k ∉ ks ∧ es' = es.push ⟨k.hash w, key, v⟩)
theorem dictSet_mx {d : Addr} {es : Array DictEntry} {ks : List NestedKey} {k : NestedKey} {key v : Value} {Q : Unit → Shared → Prop} (hu : A.units + 8 < cLine) (hk : NestedIs s.heap k key) (h8 : k.depth ≤ 8)
    (D : Dd s.heap d es) (M : MxOf w s.heap ks es) (hsz : ks.length ≤ sizeLine)
    (hQ : ∀ h' es', Dd h' d es' → SetTo w ks es k key v es' → Heap.SameBut d s.heap h' → Q () { s with heap := h', toks := s.toks + k.draws }) : wpAny (model prog w) A (dictSet d key v) Q E s := by
  obtain ⟨o, ep, ho, hc, hd⟩ := D.ex
  unfold dictSet
  try with_reducible refine wpAny_holding ?_
  refine wpAny_bind (pyHash_key k key A s _ hk (by omega) ?_)
  unfold dictSetHashed
  try with_reducible refine wpAny_holding ?_
  refine wpAny_bind (find_mx (s := { s with toks := s.toks + k.draws }) hu hk h8 ho hd M (fun hn => ?_) (fun j hj => ?_))
  · refine wpAny_bind (wpAny_rule (wpAny_updateDictKeys (hz := by have e := M.len; omega) (s := { s with toks := s.toks + k.draws }) ho hd (hQ _ _ ⟨_, ep + 1, Heap.get?_update_self _ ho (Obj.isFreed_of_dict (Obj.data_mapDictKeys hd _)),
      hc.mapDictKeys _, Obj.data_mapDictKeys hd _⟩ (.inr ⟨hn, rfl⟩) (Heap.SameBut.update ..))))
  · refine wpAny_bind (wpAny_rule (wpAny_bind (wpAny_updateDict (s := { s with toks := s.toks + k.draws }) ho hd (wpAny_point (hQ _ _ ⟨_, ep, Heap.get?_update_self _ ho (Obj.isFreed_of_dict (Obj.data_mapDict hd _)),
      hc.mapDict _, Obj.data_mapDict hd _⟩ (.inl ⟨j, hj, rfl⟩) (Heap.SameBut.update ..))))))
theorem setItem_mx {d : Addr} {es : Array DictEntry} {ks : List NestedKey} {k : NestedKey} {key v : Value} {Q : Unit → Shared → Prop} (hu : A.units + 9 < cLine) (hk : NestedIs s.heap k key) (h8 : k.depth ≤ 8)
    (D : Dd s.heap d es) (M : MxOf w s.heap ks es) (hsz : ks.length ≤ sizeLine)
    (hQ : ∀ h' es', Dd h' d es' → SetTo w ks es k key v es' → Heap.SameBut d s.heap h' → Q () { s with heap := h', toks := s.toks + k.draws }) : wpAny (model prog w) A (setItem (.ref d) key v) Q E s := by
  unfold setItem
  try with_reducible refine wpAny_holding ?_
  refine wpAny_bind (wpAny_sequenceKey D.typeIs (by decide) ?_)
  refine wpAny_bind (wpAny_callSpecial?_slot (name := Str.ofString "__setitem__") D.typeIs slot_dict_setitem
    (wpAny_call_entry slot_dict_setitem D.typeIs entry_dict_setitem ?_ (args_dict_setitem _ _ _)))
  show wpAny _ _ (Builtin.Dict.notOrdered "__setitem__" ⟨[.ref d, key, v], []⟩ >>= _) _ _ s
  refine wpAny_bind (wpAny_notOrdered_dict D.typeIs ?_)
  show wpAny _ _ (dictSet d key v >>= _) _ _ s
  exact wpAny_bind (dictSet_mx (A := A.in1) (by simp only [Around.in1_units]; omega) hk h8 D M hsz fun h' es' D' S hs' => wpAny_pure ⟨.none, rfl, wpAny_pure (hQ h' es' D' S hs')⟩)
theorem dictGet_mx {d : Addr} {es : Array DictEntry} {ks : List NestedKey} {k : NestedKey} {key : Value} {Q : Option Value → Shared → Prop} (hu : A.units + 8 < cLine) (hk : NestedIs s.heap k key) (h8 : k.depth ≤ 8)
    (D : Dd s.heap d es) (M : MxOf w s.heap ks es) (hno : k ∉ ks → Q none { s with toks := s.toks + k.draws }) (hyes : ∀ j (hj : j < es.size), ks[j]? = some k → Q (some es[j].val) { s with toks := s.toks + k.draws }) :
    wpAny (model prog w) A (dictGet d key) Q E s := by
  obtain ⟨o, ep, ho, hc, hd⟩ := D.ex
  unfold dictGet
  try with_reducible refine wpAny_holding ?_
  refine wpAny_bind (pyHash_key k key A s _ hk (by omega) (wpAny_bind (find_mx (s := { s with toks := s.toks + k.draws }) hu hk h8 ho hd M (fun hn => ?_) (fun j hj => ?_))))
  · exact wpAny_pure (hno hn)
  · refine wpAny_bind (wpAny_dictEntries (s := { s with toks := s.toks + k.draws }) ho hd ?_)
    have hj2 : j < es.size := by rw [M.len]; exact (List.getElem?_eq_some_iff.mp hj).1
    rw [Array.getElem?_eq_getElem hj2]
    exact wpAny_pure (hyes j hj2 hj)
/-- sorted of what is no list -/
theorem sorted_of_collect {l : Addr} {kw : List (Str × Value)} {Q : Value → Shared → Prop} (ha1 : argsOk "sorted" ⟨[.ref l], kw⟩) (ha2 : ∀ x, argsOk "list.sort" ⟨[.ref x], kw⟩)
    (hc : wpAny (model prog w) A.in1 (collect (.ref l)) (fun vs s1 => vs.length ≤ sizeLine ∧ ∀ E' : Value → Shared → Prop, wpAny (model prog w) A.in1.in1 (Builtin.«list.sort» ⟨[.ref s1.heap.objs.size], kw⟩) (fun f s' => f = .done (.ret .none) ∧ Q (.ref s1.heap.objs.size) s') E' { s1 with heap := s1.heap.push (seqObj "list" vs.toArray 0) }) E s) :
    wpAny (model prog w) A (call (.builtin "sorted") [.ref l] kw) Q E s := by
  refine call_function_entry_kw kind_sorted plain_sorted entry_sorted ha1 ?_
  unfold Builtin.«sorted»
  refine wpAny_bind (m := checkCount "sorted" 1 1 _) (wpAny_pure ?_)
  refine wpAny_bind (wpAny_mono hc (fun vs s1 h => ?_) fun _ _ e => e)
  obtain ⟨hL, body⟩ := h
  refine wpAny_bind (wpAny_newList ?_ hL)
  have hat : (s1.heap.push (seqObj "list" vs.toArray 0)).get? s1.heap.objs.size = some (seqObj "list" vs.toArray 0) := Heap.get?_push_size _ rfl
  refine wpAny_bind (wpAny_holding (wpAny_call_entry_kw slot_list_sort ⟨_, hat, rfl⟩ entry_list_sort ?body (ha2 _)))
  case body =>
    show wpAny (model prog w) A.in1.in1 (Builtin.«list.sort» ⟨[.ref s1.heap.objs.size], kw⟩) _ _ _
    refine wpAny_mono (body _) (fun f s' hf => ?_) fun _ _ e => e
    obtain ⟨rfl, hq⟩ := hf
    exact ⟨_, rfl, wpAny_pure ⟨_, rfl, hq⟩⟩
end
/-! ### in the hand layer -/
theorem paired_get {α β : Type} {F : α → β → Prop} : ∀ {l : List α} {m : List β} {i : Nat} {e : α}, Paired F l m → l[i]? = some e → ∃ x, m[i]? = some x ∧ F e x
  | _, _, _, _, .nil, h => by simp at h
  | _, _, 0, _, .cons a r, h => by
    simp at h; subst h; exact ⟨_, rfl, a⟩
  | _, _, i + 1, _, .cons a r, h => by
    obtain ⟨x, h1, h2⟩ := paired_get (i := i) r (by simpa using h)
    exact ⟨x, by simpa using h1, h2⟩
theorem paired_set {α β : Type} {F : α → β → Prop} {f : α → α} {y : β} : ∀ {l : List α} {m : List β} {j : Nat}, Paired F l m → (∀ e x, l[j]? = some e → m[j]? = some x → F e x → F (f e) y) → Paired F (l.modify j f) (m.set j y)
  | _, _, j, .nil, h => by simpa using Paired.nil
  | _, _, 0, .cons a r, h => by
    rw [List.modify_zero_cons, List.set_cons_zero]
    exact .cons (h _ _ rfl rfl a) r
  | _, _, j + 1, .cons a r, h => by
    rw [List.modify_succ_cons, List.set_cons_succ]
    exact .cons a (paired_set r fun e x h1 h2 => h e x (by simpa using h1) (by simpa using h2))
abbrev Mx := List (PyData × V × V)
def entIs (w : World) (e : DictEntry) (x : PyData × V × V) : Prop := e.hash = (nkOf x.1).hash w ∧ RelV x.2.1 e.key ∧ RelV x.2.2 e.val
def mxAt (w : World) (a : Addr) (xs : Mx) (h : Heap) : Prop := (a == sysModules) = false ∧ xs.length ≤ sizeLine ∧ ∃ es, Dd h a es ∧ Paired (entIs w) es.toList xs
def MixO (w : World) (a : Addr) (xs : Mx) : HO := .ext (mxAt w a xs)
theorem mix_ok {P : Program} {w : World} {H : Hp} {h : Heap} {a : Addr} {xs : Mx} (x : mxAt w a xs h) : ObjOk P w H h a (MixO w a xs) :=
  ⟨x, (let ⟨_, _, _, ⟨o, _, ho, _⟩, _⟩ := x; ⟨o, ho⟩), fun _ _ ⟨a1, a2, es, ⟨o, ep, ho, hc⟩, r⟩ k => ⟨a1, a2, es, ⟨o, ep, k _ ho, hc⟩, r⟩⟩
structure MxA (w : World) (H : Hp) (a : Addr) (xs : Mx) : Prop where
  at_ : H a = some (MixO w a xs) ∨ (xs = [] ∧ H a = some (.dK []))
  dt : ∀ x ∈ xs, Dt H x.2.1 x.1
  ok : ∀ x ∈ xs, isK 3 x.1
  nd : (xs.map (·.1)).Nodup
theorem MxA.keepS {S : Addr → Prop} {w : World} {H H1 : Hp} {a : Addr} {xs : Mx} (M : MxA w H a xs) (f : Fr S H H1) (ha : ¬ S a) : MxA w H1 a xs :=
  ⟨M.at_.imp (fun h => f.keep _ _ h ha) fun h => ⟨h.1, f.keep _ _ h.2 ha⟩, fun x hx => (M.dt x hx).mono f, M.ok, M.nd⟩
theorem MxA.has {w : World} {H : Hp} {a : Addr} {xs : Mx} (M : MxA w H a xs) : ∃ o, H a = some o := by
  rcases M.at_ with h | ⟨_, h⟩ <;> exact ⟨_, h⟩
theorem MxA.mut {w : World} {H : Hp} {a : Addr} {xs : Mx} (M : MxA w H a xs) : Mut (H a) := by
  rcases M.at_ with h | ⟨_, h⟩ <;> rw [h] <;> exact True.intro
theorem MxA.fr {S : Addr → Prop} {w : World} {H H1 : Hp} {a : Addr} {xs : Mx} {o : HO} (M : MxA w H1 a xs) (f : Fr S H H1) (ha : S a ∨ Fresh H a) : Fr S H (upd H1 a o) := by
  rcases M.at_ with h | ⟨_, h⟩ <;> exact Fr.mut f h rfl ha
/-- the rows behind d[i] = v -/
def PutM (xs : Mx) (d : PyData) (i v : V) (xs' : Mx) : Prop :=
  (∃ j x, xs[j]? = some x ∧ x.1 = d ∧ xs' = xs.set j (d, x.2.1, v)) ∨ ((∀ x ∈ xs, x.1 ≠ d) ∧ xs' = xs ++ [(d, i, v)])
theorem PutM.len {xs xs' : Mx} {d : PyData} {i v : V} (p : PutM xs d i v xs') : xs'.length ≤ xs.length + 1 := by
  rcases p with ⟨j, x, h1, h2, rfl⟩ | ⟨h1, rfl⟩
  · rw [List.length_set]; omega
  · rw [List.length_append]; exact Nat.le_refl _
theorem PutM.keys {xs xs' : Mx} {d : PyData} {i v : V} (p : PutM xs d i v xs') : (xs'.map (·.1) = xs.map (·.1) ∧ d ∈ xs.map (·.1)) ∨ (d ∉ xs.map (·.1) ∧ xs'.map (·.1) = xs.map (·.1) ++ [d]) := by
  rcases p with ⟨j, x, h1, h2, rfl⟩ | ⟨h1, rfl⟩
  · refine .inl ⟨?_, by rw [← h2]; exact List.mem_map_of_mem (List.mem_of_getElem? h1)⟩
    rw [List.map_set]
    refine List.ext_getElem? fun n => ?_
    rw [List.getElem?_set]
    split
    · rename_i e
      subst e
      split
      · rw [List.getElem?_map, h1, ← h2]; rfl
      · rename_i hn
        rw [List.length_map] at hn
        have := (List.getElem?_eq_some_iff.mp h1).1
        omega
    · rfl
  · refine .inr ⟨fun h => ?_, by rw [List.map_append]; rfl⟩
    obtain ⟨x, hx, e⟩ := List.mem_map.mp h
    exact h1 x hx e
theorem PutM.mem {xs xs' : Mx} {d : PyData} {i v : V} (p : PutM xs d i v xs') {y : PyData × V × V} (hy : y ∈ xs') : y ∈ xs ∨ (y.1 = d ∧ y.2.2 = v ∧ (y.2.1 = i ∨ ∃ x ∈ xs, x.1 = d ∧ y.2.1 = x.2.1)) := by
  rcases p with ⟨j, x, h1, h2, rfl⟩ | ⟨h1, rfl⟩
  · rcases List.mem_or_eq_of_mem_set hy with h | rfl
    · exact .inl h
    · exact .inr ⟨rfl, rfl, .inr ⟨x, List.mem_of_getElem? h1, h2, rfl⟩⟩
  · rcases List.mem_append.mp hy with h | h
    · exact .inl h
    · rw [List.mem_singleton.mp h]; exact .inr ⟨rfl, rfl, .inl rfl⟩
theorem MxA.put {w : World} {H : Hp} {a : Addr} {xs xs' : Mx} {d : PyData} {i v : V} (M : MxA w H a xs) (hd : Dt H i d) (hk : isK 3 d) (p : PutM xs d i v xs') : MxA w (upd H a (MixO w a xs')) a xs' := by
  have ht : ∀ b (zs : List V), H b = some (.tup zs) → upd H a (MixO w a xs') b = some (.tup zs) := fun b zs e => by
    rw [upd_ne (fun z => by
      subst z
      rcases M.at_ with h | ⟨_, h⟩ <;> rw [h] at e <;> cases e)]
    exact e
  refine ⟨.inl upd_same, fun y hy => Dt.mono' ht _ _ ?_, fun y hy => ?_, ?_⟩
  · rcases p.mem hy with h | ⟨h1, _, h2 | ⟨x, hx, h3, h4⟩⟩
    · exact M.dt y h
    · rw [h1, h2]; exact hd
    · rw [h1, h4, ← h3]; exact M.dt x hx
  · rcases p.mem hy with h | ⟨h1, _⟩
    · exact M.ok y h
    · rw [h1]; exact hk
  · rcases p.keys with ⟨h1, _⟩ | ⟨h1, h2⟩
    · rw [h1]; exact M.nd
    · rw [h2, List.nodup_append]
      refine ⟨M.nd, by simp, fun x hx y hy e => ?_⟩
      rw [List.mem_singleton] at hy
      subst hy
      exact h1 (e ▸ hx)
section
variable {X : Cx} {pins : List (Addr × Obj)} {σ : L2.St} {H : Hp} {s : Shared} {a : Addr} {xs : Mx}
theorem MxA.heap (I : L2.Inv X pins σ H s) (M : MxA X.w H a xs) : mxAt X.w a xs s.heap := by
  rcases M.at_ with h | ⟨rfl, h⟩
  · exact (I.hok a _ h).1
  · obtain ⟨z, lo, vs, rel, dd⟩ := dk_of I.hok h
    have : vs = [] := List.eq_nil_of_length_eq_zero (by rw [← rel.length]; rfl)
    subst this
    obtain ⟨o, es, ep, h1, h2, h3, _, h4, _⟩ := dd
    refine ⟨lo, Nat.zero_le _, es, ⟨o, ep, h1, h2, h3⟩, ?_⟩
    have : es.toList = [] := List.eq_nil_of_length_eq_zero (by rw [h4.length]; rfl)
    rw [this]
    exact .nil
theorem MxA.of (I : L2.Inv X pins σ H s) (M : MxA X.w H a xs) {es : Array DictEntry} (P : Paired (entIs X.w) es.toList xs) : MxOf X.w s.heap (xs.map fun x => nkOf x.1) es where
  len := by rw [← Array.length_toList, Paired.length P, List.length_map]
  is := fun i hi k hk => by
    obtain ⟨x, hx, e1, e2, e3⟩ := paired_get P (show es.toList[i]? = some es[i] by rw [Array.getElem?_toList, Array.getElem?_eq_getElem hi])
    rw [List.getElem?_map, hx] at hk
    have ek : nkOf x.1 = k := Option.some.inj hk
    have hm := List.mem_of_getElem? hx
    obtain ⟨as, hr⟩ := Dp.reads I x.1 x.2.1 es[i].key (Dt.dp _ _ (M.dt x hm)) e2
    obtain ⟨p1, p2⟩ := nk_is (M.ok x hm) hr
    rw [← ek]
    exact ⟨p1, e1, by omega⟩
  nd := by
    have h := M.nd
    unfold List.Nodup at h ⊢
    rw [List.pairwise_map] at h ⊢
    exact h.imp_of_mem fun hx hy hne e => hne (nk_inj (M.ok _ hx) (M.ok _ hy) e)
theorem nk_mem (M : MxA X.w H a xs) {d : PyData} (hk : isK 3 d) (h : ∀ x ∈ xs, x.1 ≠ d) : nkOf d ∉ xs.map fun x => nkOf x.1 := fun hm => by
  obtain ⟨x, hx, e⟩ := List.mem_map.mp hm
  exact h x hx (nk_inj (M.ok x hx) hk e)
theorem hu_of9 {A : Around} {k : Nat} (hr : Room k A) : A.units + 9 < cLine := Nat.lt_of_le_of_lt (Nat.add_le_add_left (by decide : 9 ≤ 64) _) hr.units
def rSetM (w : World) : TSet := fun o i v H Q => ∃ (a : Addr) (xs : Mx) (d : PyData), o = .ref a ∧ MxA w H a xs ∧ Dt H i d ∧ isK 3 d ∧ xs.length ≤ 100000 ∧ ∀ xs', PutM xs d i v xs' → MxA w (upd H a (MixO w a xs')) a xs' → Q (upd H a (MixO w a xs'))
theorem set_mix (hu : X.A.units + 9 < cLine) : PSet X (rSetM X.w) := by
  intro pins s σ H o i v ov iv u Q I ro ri rv h
  obtain ⟨a, xs, d, rfl, M, hd, hk, hl, q⟩ := h
  cases (show ov = Value.ref a from ro)
  obtain ⟨lo, hz, es, D, P⟩ := M.heap I
  have MO := M.of I P
  obtain ⟨as, hr⟩ := Dp.reads I d i iv (Dt.dp _ _ hd) ri
  obtain ⟨p1, p2⟩ := nk_is hk hr
  have h16 : 100000 < sizeLine := by rw [sizeLine_eq]; decide
  refine setItem_mx hu p1 (by omega) D MO (by rw [List.length_map]; omega) fun h' es' D' S hs => ?_
  have fin : ∀ xs', PutM xs d i v xs' → Paired (entIs X.w) es'.toList xs' → ∃ H', L2.Inv X pins σ H' { s with heap := h', toks := s.toks + (nkOf d).draws } ∧ Q H' := fun xs' pm pr => by
    refine ⟨upd H a (MixO X.w a xs'), d_write I M.mut hs ?_ (mix_ok ⟨lo, by have := pm.len; omega, es', D', pr⟩), q xs' pm (M.put hd hk pm)⟩
    obtain ⟨o, _, ho, _⟩ := D'.ex
    exact ⟨o, ho⟩
  rcases S with ⟨j, hj, rfl⟩ | ⟨hn, rfl⟩
  · rw [List.getElem?_map] at hj
    obtain ⟨x, hx, ex⟩ := Option.map_eq_some_iff.mp hj
    have exd := nk_inj (M.ok x (List.mem_of_getElem? hx)) hk ex
    refine fin (xs.set j (d, x.2.1, v)) (.inl ⟨j, x, hx, exd, rfl⟩) ?_
    rw [Array.toList_modify]
    refine paired_set P fun e y h1 h2 h3 => ?_
    rw [hx] at h2
    cases h2
    exact ⟨by rw [← exd]; exact h3.1, h3.2.1, rv⟩
  · refine fin (xs ++ [(d, i, v)]) (.inr ⟨fun x hx e => hn (by rw [← e]; exact List.mem_map.mpr ⟨x, hx, rfl⟩), rfl⟩) ?_
    rw [Array.toList_push]
    exact Paired.snoc P ⟨rfl, ri, rv⟩
theorem vals_idx : ∀ {xs : List V} {us : List Value}, xs.length = us.length → (∀ (i : Nat) v u, xs[i]? = some v → us[i]? = some u → RelV v u) → Vals xs us
  | [], [], _, _ => .nil
  | [], _ :: _, h, _ => by simp at h
  | _ :: _, [], h, _ => by simp at h
  | x :: xs, u :: us, h, k => .cons (k 0 x u rfl rfl) (vals_idx (by simpa using h) fun i v w h1 h2 => k (i + 1) v w (by simpa using h1) (by simpa using h2))
def rSortM (w : World) (f : Addr) (sp : Sp) : List V → List V → Hp → VK → Prop := fun vs zs H Q => ∃ (a : Addr) (xs : Mx) (ks : List PyData), vs = [.ref a] ∧ zs = [.ref f] ∧ MxA w H a xs ∧ ks.length = xs.length ∧ AllAlike ks ∧ Sortable ks ∧ (∀ d ∈ ks, d.depth ≤ 60) ∧
  (∀ (i : Nat) v d H', (xs.map (·.2.1))[i]? = some v → ks[i]? = some d → Fr Non H H' → sp [v] H' (fun u H'' => Fr Non H' H'' ∧ Dt H'' u d) E0) ∧
  ∀ p H', Fr Non H H' → Fresh H p → H' p = some (.lst ((byKey (xs.map (·.2.1)) ks).map Prod.fst)) → Q (.ref p) H'
theorem cr_sortMK {k j : Nat} {f : Addr} {fd : FuncData} {x : Str} {sp : Sp} (hcalm : X.calm = true) (F : FnOk X.prog X.w X.K X.mg X.base (L2.CX X.prog X.w) k f fd [x] sp) (hr : Room j X.A) (hk : k + 2 ≤ j) (hb : Binds X.K fd [x] []) : CallRK X (.builtin "sorted") [Str.ofString "key"] (rSortM X.w f sp) := by
  intro pins s σ H vs zs us ws Q I rv rz h
  obtain ⟨l, xs, ks, rfl, rfl, M, hlen, hal, hso, hdp, hcall, q⟩ := h
  cases rv with
  | @cons _ u0 _ _ ru rv' =>
  cases rv'
  cases rz with
  | @cons _ u1 _ _ ru1 rz' =>
  cases rz'
  cases (show u0 = Value.ref l from ru)
  cases (show u1 = Value.ref f from ru1)
  obtain ⟨lo, hz, es, D, P⟩ := M.heap I
  have hes : es.size = xs.length := by rw [← Array.length_toList, Paired.length P]
  obtain ⟨o, ep, ho, hc, hd⟩ := D.ex
  show wpAny _ _ (call (.builtin "sorted") [.ref l] [("key", .ref f)]) _ _ _
  refine sorted_of_collect (by rfl) (fun x => by rfl) ?_
  refine kdu_collect (A := X.A.in1) (KdlSrc.rawDict (es := es) (ep := ep) lo) (I.ok.hd hcalm) ⟨o, ho, hc, hd⟩ (by omega) fun h' tk acc hkp hacc => ⟨by rw [Array.length_toList, hacc.1]; omega, fun E' => ?_⟩
  have I1 : L2.Inv X pins σ H { s with heap := h', toks := tk } := I.kept hkp
  have ri : Vals (xs.map (·.2.1)) acc.toList := by
    refine vals_idx (by rw [List.length_map, ← hes, ← hacc.1]; simp) fun i v u h1 h2 => ?_
    rw [Array.getElem?_toList] at h2
    obtain ⟨hi, rfl⟩ := hacc.2 i u h2
    obtain ⟨x, hx, _, e2, _⟩ := paired_get P (show es.toList[i]? = some es[i] by rw [Array.getElem?_toList, Array.getElem?_eq_getElem hi])
    rw [List.getElem?_map, hx] at h1
    cases h1
    exact e2
  exact sort_core (s := { s with heap := h', toks := tk }) F hr hk hb I1 ri (by rw [List.length_map]; exact hlen) hal hso hdp hcall q (by rw [Array.length_toList, hacc.1]; omega) (Nat.le_refl _) (Heap.size_push ..) (Heap.get?_push_size _ rfl) fun b o e => Heap.get?_push_of_some _ e
/-- sorted(d, key=f) -/
theorem cr_sortM {k j : Nat} {x y : Str} {sp : Sp} (hcalm : X.calm = true) (c : CalX X.prog X.w X.K X.mg X.base k x [y] sp) (hr : Room j X.A) (hk : k + 2 ≤ j) : CallRK X (.builtin "sorted") [Str.ofString "key"] (rSortM X.w (clA X.mg x) sp) := by
  obtain ⟨f, fd, F, hm1, kp, b⟩ := c.ex
  rw [clA_of hm1]
  exact cr_sortMK hcalm F hr hk b
end
end Tw

/-! TwQ: rows of a key and two sides. -/
namespace Tw
open PySem PySem.W PySem.Spec PyProof.Rows L2
/-- a thing that is a key or none; the one list among these -/
def Gd (S : Addr → Prop) (H : Hp) (v : V) (d : PyData) : Prop := Dt H v d ∨ ∃ a, v = .ref a ∧ d = .list [.int 1] ∧ H a = some (.lst [.int 1]) ∧ ¬ S a
def okG (d : PyData) : Prop := txtSmall d ∧ d.canLay0 = true ∧ d.depth ≤ 9
theorem Gd.mono {S : Addr → Prop} {H H1 : Hp} {v : V} {d : PyData} (h : Gd S H v d) (f : Fr S H H1) : Gd S H1 v d := by
  rcases h with h | ⟨a, h1, h2, h3, h4⟩
  · exact .inl (h.mono f)
  · exact .inr ⟨a, h1, h2, f.keep _ _ h3 h4, h4⟩
theorem Gd.less {S T : Addr → Prop} {H : Hp} {v : V} {d : PyData} (h : Gd T H v d) (f : ∀ b, S b → T b) : Gd S H v d := by
  rcases h with h | ⟨a, h1, h2, h3, h4⟩
  · exact .inl h
  · exact .inr ⟨a, h1, h2, h3, fun s => h4 (f _ s)⟩
theorem Gd.key {S : Addr → Prop} {H : Hp} {v : V} {d : PyData} {r : Nat} (h : Gd S H v d) (k : isK r d) : Dt H v d := by
  rcases h with h | ⟨a, h1, h2, h3, h4⟩
  · exact h
  · subst h2; cases r <;> exact k.elim
theorem Gd.tg {S : Addr → Prop} {H : Hp} {v : V} {d : PyData} (h : Gd S H v d) (ok : okG d) : ∃ e, Tg H v e ∧ txtSmall e ∧ ∀ r, keyB r e = keyB r d := by
  rcases h with h | ⟨a, h1, h2, h3, h4⟩
  · exact ⟨d, Dt.tg _ _ h, ok.1, fun _ => rfl⟩
  · subst h1 h2
    exact ⟨.list [], .lst h3 id, trivial, fun r => by cases r <;> rfl⟩
theorem Gd.dp {K : PySem.W.Frag} {S : Addr → Prop} {H : Hp} {v : V} {d : PyData} (h : Gd S H v d) : Dp K H v d := by
  rcases h with h | ⟨a, h1, h2, h3, h4⟩
  · exact Dt.dp _ _ h
  · subst h1 h2
    exact .lst (SqL.of h3) (.cons (.int 1) .nil)
theorem isK_canLay {r : Nat} {d : PyData} (h : isK r d) : d.canLay0 = true := isK_lay h
theorem okG_key {r : Nat} {d : PyData} (h : isK r d) (hr : r ≤ 9) : okG d := ⟨isK_small h, isK_lay h, Nat.le_trans (isK_depth h) hr⟩
abbrev GdAll (S : Addr → Prop) (H : Hp) : List V → List PyData → Prop := Paired (Gd S H)
theorem GdAll.mono {S : Addr → Prop} {H H1 : Hp} {vs : List V} {ds : List PyData} (h : GdAll S H vs ds) (f : Fr S H H1) : GdAll S H1 vs ds := Paired.imp (fun _ _ k => k.mono f) h
theorem GdAll.less {S T : Addr → Prop} {H : Hp} {vs : List V} {ds : List PyData} (h : GdAll T H vs ds) (f : ∀ b, S b → T b) : GdAll S H vs ds := Paired.imp (fun _ _ k => k.less f) h
theorem GdAll.dp {K : PySem.W.Frag} {S : Addr → Prop} {H : Hp} : ∀ {vs : List V} {ds : List PyData}, GdAll S H vs ds → DpAll K H vs ds
  | _, _, .nil => .nil
  | _, _, .cons a r => .cons a.dp (GdAll.dp r)
theorem GdAll.keys {S : Addr → Prop} {H : Hp} {r : Nat} : ∀ {vs : List V} {ds : List PyData}, GdAll S H vs ds → (∀ d ∈ ds, isK r d) → DtAll H vs ds
  | _, _, .nil, _ => .nil
  | _, _, .cons a q, h => .cons (a.key (h _ (List.mem_cons_self ..))) (GdAll.keys q fun d hd => h d (List.mem_cons_of_mem _ hd))
theorem GdAll.of {S : Addr → Prop} {H : Hp} : ∀ {vs : List V} {ds : List PyData}, DtAll H vs ds → GdAll S H vs ds
  | _, _, .nil => .nil
  | _, _, .cons a q => .cons (.inl a) (GdAll.of q)
/-- a row: its key, its old side, its new one -/
abbrev Row := PyData × List PyData × List PyData
def RowA (S : Addr → Prop) (H : Hp) (t : Addr) (r : Row) : Prop := ∃ (x : V) (a b : Addr) (os ns : List V), H t = some (.tup [x, .ref a, .ref b]) ∧ Gd S H x r.1 ∧ H a = some (.lst os) ∧ ¬ S a ∧ GdAll S H os r.2.1 ∧ H b = some (.lst ns) ∧ ¬ S b ∧ GdAll S H ns r.2.2
theorem RowA.mono {S : Addr → Prop} {H H1 : Hp} {t : Addr} {r : Row} (h : RowA S H t r) (f : Fr S H H1) : RowA S H1 t r := by
  obtain ⟨x, a, b, os, ns, h1, h2, h3, h4, h5, h6, h7, h8⟩ := h
  exact ⟨x, a, b, os, ns, f.tup _ _ h1, h2.mono f, f.keep _ _ h3 h4, h4, h5.mono f, f.keep _ _ h6 h7, h7, h8.mono f⟩
theorem RowA.less {S T : Addr → Prop} {H : Hp} {t : Addr} {r : Row} (h : RowA T H t r) (f : ∀ b, S b → T b) : RowA S H t r := by
  obtain ⟨x, a, b, os, ns, h1, h2, h3, h4, h5, h6, h7, h8⟩ := h
  exact ⟨x, a, b, os, ns, h1, h2.less f, h3, fun s => h4 (f _ s), h5.less f, h6, fun s => h7 (f _ s), h8.less f⟩
abbrev RowsA (S : Addr → Prop) (H : Hp) : List Addr → List Row → Prop := Paired (RowA S H)
theorem RowsA.mono {S : Addr → Prop} {H H1 : Hp} {ts : List Addr} {rs : List Row} (h : RowsA S H ts rs) (f : Fr S H H1) : RowsA S H1 ts rs := Paired.imp (fun _ _ k => k.mono f) h
theorem RowsA.less {S T : Addr → Prop} {H : Hp} {ts : List Addr} {rs : List Row} (h : RowsA T H ts rs) (f : ∀ b, S b → T b) : RowsA S H ts rs := Paired.imp (fun _ _ k => k.less f) h
def okRow (r : Row) : Prop := okG r.1 ∧ (∀ d ∈ r.2.1, okG d) ∧ (∀ d ∈ r.2.2, okG d) ∧ r.2.1.length ≤ 9 ∧ r.2.2.length ≤ 9
def rowP (r : Row) : PyData := .tuple [r.1, .list r.2.1, .list r.2.2]
theorem RowA.dp {K : PySem.W.Frag} {S : Addr → Prop} {H : Hp} {t : Addr} {r : Row} (h : RowA S H t r) : Dp K H (.ref t) (rowP r) := by
  obtain ⟨x, a, b, os, ns, h1, h2, h3, h4, h5, h6, h7, h8⟩ := h
  exact .tup (SqT.of h1) (.cons h2.dp (.cons (.lst (SqL.of h3) h5.dp) (.cons (.lst (SqL.of h6) h8.dp) .nil)))
theorem RowsA.dp {K : PySem.W.Frag} {S : Addr → Prop} {H : Hp} : ∀ {ts : List Addr} {rs : List Row}, RowsA S H ts rs → DpAll K H (ts.map V.ref) (rs.map rowP)
  | _, _, .nil => .nil
  | _, _, .cons a r => .cons a.dp (RowsA.dp r)
theorem paired_at {α β : Type} {F : α → β → Prop} : ∀ {l : List α} {m : List β} {i : Nat} {x : β}, Paired F l m → m[i]? = some x → ∃ e, l[i]? = some e ∧ F e x
  | _, _, _, _, .nil, h => by simp at h
  | _, _, 0, _, .cons a r, h => by
    simp at h; subst h; exact ⟨_, rfl, a⟩
  | _, _, i + 1, _, .cons a r, h => by
    obtain ⟨x, h1, h2⟩ := paired_at (i := i) r (by simpa using h)
    exact ⟨x, by simpa using h1, h2⟩
theorem paired_app {α β : Type} {F : α → β → Prop} : ∀ {l l2 : List α} {m m2 : List β}, Paired F l m → Paired F l2 m2 → Paired F (l ++ l2) (m ++ m2)
  | _, _, _, _, .nil, k => k
  | _, _, _, _, .cons a r, k => .cons a (paired_app r k)
theorem paired_take {α β : Type} {F : α → β → Prop} : ∀ {l : List α} {m : List β} (n : Nat), Paired F l m → Paired F (l.take n) (m.take n)
  | _, _, 0, _ => .nil
  | _, _, _ + 1, .nil => .nil
  | _, _, n + 1, .cons a r => .cons a (paired_take n r)
theorem paired_drop {α β : Type} {F : α → β → Prop} : ∀ {l : List α} {m : List β} (n : Nat), Paired F l m → Paired F (l.drop n) (m.drop n)
  | _, _, 0, k => k
  | _, _, _ + 1, .nil => .nil
  | _, _, n + 1, .cons a r => paired_drop n r
theorem paired_rev {α β : Type} {F : α → β → Prop} : ∀ {l : List α} {m : List β}, Paired F l m → Paired F l.reverse m.reverse
  | _, _, .nil => .nil
  | _, _, .cons a r => by
    rw [List.reverse_cons, List.reverse_cons]
    exact paired_app (paired_rev r) (.cons a .nil)
theorem Gd.fresh {H : Hp} {D : Addr} {v : V} {d : PyData} (h : Gd Non H v d) (n : Fresh H D) : Gd (One D) H v d := by
  rcases h with h | ⟨a, h1, h2, h3, h4⟩
  · exact .inl h
  · exact .inr ⟨a, h1, h2, h3, not_One (ne_fr h3 n)⟩
theorem RowA.fresh {H : Hp} {D t : Addr} {r : Row} (h : RowA Non H t r) (n : Fresh H D) : RowA (One D) H t r := by
  obtain ⟨x, a, b, os, ns, h1, h2, h3, h4, h5, h6, h7, h8⟩ := h
  exact ⟨x, a, b, os, ns, h1, h2.fresh n, h3, not_One (ne_fr h3 n), Paired.imp (fun _ _ k => k.fresh n) h5, h6, not_One (ne_fr h6 n), Paired.imp (fun _ _ k => k.fresh n) h8⟩
theorem RowsA.fresh {H : Hp} {D : Addr} {ts : List Addr} {rs : List Row} (h : RowsA Non H ts rs) (n : Fresh H D) : RowsA (One D) H ts rs := Paired.imp (fun _ _ k => k.fresh n) h
/-! ### what a patch is -/
def sideB (ds : List PyData) : Bool := decide (ds.length < 2) && ds.all (keyB 3)
def dueB : Option PyData → List Row → Bool
  | _, [] => true
  | o, r :: rs => keyB 3 r.1 && sideB r.2.1 && sideB r.2.2 && !PyData.eqvAll r.2.1 r.2.2 && (match o with | some d => ltK d r.1 | none => true) && dueB (some r.1) rs
theorem eqvAll_ne {xs ys : List PyData} (h : xs.length ≠ ys.length) : PyData.eqvAll xs ys = false := by
  induction xs generalizing ys with
  | nil =>
    cases ys with
    | nil => exact absurd rfl h
    | cons y ys => rw [PyData.eqvAll]
  | cons x xs ih =>
    cases ys with
    | nil => rw [PyData.eqvAll]
    | cons y ys =>
      rw [PyData.eqvAll, ih (fun e => h (by rw [List.length_cons, List.length_cons, e])), Bool.and_false]
theorem eqvAll_range {xs ys : List PyData} (h : xs.length = ys.length) : ((List.range ys.length).map fun i => PyData.eqv (xs.getD i .none) (ys.getD i .none)).all id = PyData.eqvAll xs ys := by
  induction xs generalizing ys with
  | nil =>
    cases ys with
    | nil => rw [PyData.eqvAll]; rfl
    | cons y ys => cases h
  | cons x xs ih =>
    cases ys with
    | nil => cases h
    | cons y ys =>
      have e := ih (ys := ys) (by simpa using h)
      rw [PyData.eqvAll, ← e, List.length_cons, List.range_succ_eq_map, List.map_cons, List.all_cons, List.map_map]
      rfl
theorem dp_strs {K : PySem.W.Frag} {H : Hp} : ∀ cs : List Nat, DpAll K H (cs.map fun c => V.str ⟨#[c]⟩) (cs.map fun c => PyData.str ⟨#[c]⟩)
  | [] => .nil
  | c :: cs => .cons (.str ⟨#[c]⟩) (dp_strs cs)
theorem list_shaped {ds : List PyData} {n : Nat} (h1 : ∀ d ∈ ds, d.canLay0 = true) (h2 : ∀ d ∈ ds, d.depth ≤ n) (hn : n < 60) : SeqAt.shaped (.list ds) = true := by
  have h1 : (PyData.list ds).canLay0 = true := by
    show PyData.canLayAll0 ds = true
    exact canLayAll0_of h1
  have h2 : (PyData.list ds).depth ≤ n + 1 := by
    show PyData.depthAll ds + 1 ≤ n + 1
    exact Nat.succ_le_succ (depthAll_le h2)
  unfold SeqAt.shaped
  rw [h1, decide_eq_true (Nat.le_trans h2 (by omega))]; rfl
theorem strs_shaped (cs : List Nat) (h : ∀ c ∈ cs, c < 1114112) : SeqAt.shaped (.list (cs.map fun c => PyData.str ⟨#[c]⟩)) = true :=
  list_shaped (n := 0) (fun d hd => by
    obtain ⟨c, hc, rfl⟩ := List.mem_map.mp hd
    exact strOk_of fun c' hc' => by
      have e : c' = c := by simpa using hc'
      subst e
      exact h _ hc) (fun d hd => by
    obtain ⟨c, _, rfl⟩ := List.mem_map.mp hd
    exact Nat.le_refl _) (by decide)
def LastIs (H : Hp) (ls : List V) : Option PyData → Prop
  | none => ls = []
  | some d => ∃ v, ls = [v] ∧ Dt H v d ∧ isK 3 d
def lastL : Option PyData → List PyData
  | none => []
  | some d => [d]
theorem LastIs.dp {K : PySem.W.Frag} {H : Hp} {ls : List V} : ∀ {o : Option PyData}, LastIs H ls o → DpAll K H ls (lastL o)
  | none, h => by subst h; exact .nil
  | some d, ⟨v, h, k, _⟩ => by subst h; exact .cons (Dt.dp _ _ k) .nil
theorem LastIs.mono {S : Addr → Prop} {H H1 : Hp} (f : Fr S H H1) {ls : List V} : ∀ {o : Option PyData}, LastIs H ls o → LastIs H1 ls o
  | none, h => h
  | some d, ⟨v, h, k, m⟩ => ⟨v, h, k.mono f, m⟩
theorem LastIs.shaped {H : Hp} {ls : List V} : ∀ {o : Option PyData}, LastIs H ls o → SeqAt.shaped (.list (lastL o)) = true
  | none, _ => list_shaped (n := 0) (List.forall_mem_nil _) (List.forall_mem_nil _) (by decide)
  | some d, ⟨_, _, _, m⟩ => list_shaped (n := 3) (fun e he => by rw [List.mem_singleton.mp he]; exact isK_lay m) (fun e he => by rw [List.mem_singleton.mp he]; exact isK_depth m) (by decide)
theorem dueB_cons (o : Option PyData) (r : Row) (rs : List Row) : dueB o (r :: rs) = (keyB 3 r.1 && sideB r.2.1 && sideB r.2.2 && !PyData.eqvAll r.2.1 r.2.2 && (match o with | some d => ltK d r.1 | none => true) && dueB (some r.1) rs) := by cases o <;> rfl
theorem side_shaped {ds : List PyData} (h : ∀ d ∈ ds, okG d) : SeqAt.shaped (.list ds) = true := list_shaped (n := 9) (fun d hd => (h d hd).2.1) (fun d hd => (h d hd).2.2) (by decide)
theorem drop_row {α : Type} {rs : List α} {i : Nat} {r : α} (h : rs[i]? = some r) : rs.drop i = r :: rs.drop (i + 1) := by
  obtain ⟨h1, rfl⟩ := List.getElem?_eq_some_iff.mp h
  exact List.drop_eq_getElem_cons h1
theorem sideB_keys {ds : List PyData} (h : sideB ds = true) : ds.length ≤ 1 ∧ ∀ d ∈ ds, isK 3 d := by
  unfold sideB at h
  rw [Bool.and_eq_true, decide_eq_true_eq, List.all_eq_true] at h
  exact ⟨by omega, fun d hd => keyB_iff.mp (h.2 d hd)⟩
end Tw

/-! TwR: a comparison more. -/
namespace Tw
open PySem PySem.W PySem.Spec PyProof.Rows L2
section
variable {X : Cx}
def rGeD (K : PySem.W.Frag) : R2 := fun x y H Q => ∃ d e, Dp K H x d ∧ Dp K H y e ∧ PySem.W.alike d e = true ∧ d ≠ .none ∧ d.depth ≤ 60 ∧ Q (.bl (!PySem.W.dataLt d e)) H
theorem op_geD (hu : X.A.units + 64 < cLine) : OpR X (compareOp .GtE) (rGeD X.K) := by
  intro pins s σ H x y v u Q I rx ry h
  obtain ⟨d, e, hd, he, al, hn, dep, q⟩ := h
  obtain ⟨as, r1⟩ := Dp.reads I d x v hd rx
  obtain ⟨bs, r2⟩ := Dp.reads I e y u he ry
  refine PySem.W.ge_data r1 r2 al hn ?_ ⟨.bl _, H, I, rfl, q⟩
  have : min d.depth e.depth ≤ d.depth := Nat.min_le_left _ _
  omega
theorem x_geD {K : PySem.W.Frag} {H : Hp} {Q : VK} {x y : V} {d e : PyData} (h1 : Dp K H x d) (h2 : Dp K H y e) (al : PySem.W.alike d e = true) (hn : d ≠ .none) (hd : d.depth ≤ 60) (q : Q (.bl (!PySem.W.dataLt d e)) H) : rGeD K x y H Q := ⟨d, e, h1, h2, al, hn, hd, q⟩
end
mutual
theorem Dt.eqv {H : Hp} : ∀ (d : PyData) (v : V), Dt H v d → PyData.eqv d d = true
  | .none, _, _ => by rw [PyData.eqv]
  | .bool b, _, _ => by rw [PyData.eqv]; exact beq_self_eq_true b
  | .int i, _, _ => by rw [PyData.eqv]; exact beq_self_eq_true i
  | .str x, _, _ => by rw [PyData.eqv]; exact beq_self_eq_true x
  | .list _, _, h => by cases h
  | .dict _, _, h => by cases h
  | .tuple ds, _, h => by
    cases h with
    | tup e hs => rw [PyData.eqv]; exact DtAll.eqv ds _ hs
theorem DtAll.eqv {H : Hp} : ∀ (ds : List PyData) (vs : List V), DtAll H vs ds → PyData.eqvAll ds ds = true
  | [], _, _ => by rw [PyData.eqvAll]
  | d :: ds, _, h => by
    cases h with
    | cons h1 h2 => rw [PyData.eqvAll, Dt.eqv d _ h1, DtAll.eqv ds _ h2]; rfl
end
theorem Gd.eqv {S : Addr → Prop} {H : Hp} {v : V} {d : PyData} (h : Gd S H v d) : PyData.eqv d d = true := by
  rcases h with h | ⟨a, h1, h2, h3, h4⟩
  · exact Dt.eqv _ _ h
  · subst h2; rw [PyData.eqv, PyData.eqvAll, PyData.eqv, PyData.eqvAll]; rfl
theorem GdAll.eqv {S : Addr → Prop} {H : Hp} : ∀ {vs : List V} {ds : List PyData}, GdAll S H vs ds → PyData.eqvAll ds ds = true
  | _, _, .nil => by rw [PyData.eqvAll]
  | _, _, .cons a r => by rw [PyData.eqvAll, a.eqv, GdAll.eqv r]; rfl
theorem RowsA.eqv {S : Addr → Prop} {H : Hp} : ∀ {ts : List Addr} {rs : List Row}, RowsA S H ts rs → PyData.eqvAll (rs.map rowP) (rs.map rowP) = true
  | _, _, .nil => by rw [List.map_nil, PyData.eqvAll]
  | _, _, .cons ⟨x, a, b, os, ns, h1, h2, h3, h4, h5, h6, h7, h8⟩ r => by
    rw [List.map_cons, PyData.eqvAll, RowsA.eqv r, rowP, PyData.eqv, PyData.eqvAll, h2.eqv, PyData.eqvAll, PyData.eqv, GdAll.eqv h5, PyData.eqvAll, PyData.eqv, GdAll.eqv h8, PyData.eqvAll]; rfl
theorem rows_shaped {rs : List Row} (hok : ∀ r ∈ rs, okRow r) : SeqAt.shaped (.list (rs.map rowP)) = true := list_shaped (n := 20) (fun d hd => by
    obtain ⟨r, hr, rfl⟩ := List.mem_map.mp hd
    obtain ⟨o1, o2, o3, _, _⟩ := hok r hr
    show PyData.canLayAll0 [r.1, .list r.2.1, .list r.2.2] = true
    refine canLayAll0_of fun d hd => ?_
    rcases List.mem_cons.mp hd with rfl | hd
    · exact o1.2.1
    · rcases List.mem_cons.mp hd with rfl | hd
      · exact canLayAll0_of fun d hd => (o2 d hd).2.1
      · rw [List.mem_singleton.mp hd]
        exact canLayAll0_of fun d hd => (o3 d hd).2.1) (fun d hd => by
    obtain ⟨r, hr, rfl⟩ := List.mem_map.mp hd
    obtain ⟨o1, o2, o3, _, _⟩ := hok r hr
    show PyData.depthAll [r.1, .list r.2.1, .list r.2.2] + 1 ≤ 20
    refine Nat.succ_le_succ (depthAll_le fun d hd => ?_)
    rcases List.mem_cons.mp hd with rfl | hd
    · exact Nat.le_trans o1.2.2 (by decide)
    · rcases List.mem_cons.mp hd with rfl | hd
      · show PyData.depthAll r.2.1 + 1 ≤ 19
        exact Nat.succ_le_succ (Nat.le_trans (depthAll_le fun d hd => (o2 d hd).2.2) (by decide))
      · rw [List.mem_singleton.mp hd]
        show PyData.depthAll r.2.2 + 1 ≤ 19
        exact Nat.succ_le_succ (Nat.le_trans (depthAll_le fun d hd => (o3 d hd).2.2) (by decide))) (by decide)
theorem sIx_nn {n m : Nat} {r : Int} (h : 0 ≤ r) : HT.sIx n m (some r) = min r.toNat n := by
  show (if r < 0 then _ else min r.toNat n) = _
  rw [if_neg (by omega)]
theorem cut_some {xs : List V} (i k : Nat) : cutV xs (some (i : Int)) (some ((i : Int) + (k : Int))) = (xs.drop i).take k := by
  have e1 : HT.sIx xs.length 0 (some (i : Int)) = min i xs.length := by rw [sIx_nn (by omega), Int.toNat_natCast]
  have e2 : HT.sIx xs.length xs.length (some ((i : Int) + (k : Int))) = min (i + k) xs.length := by rw [sIx_nn (by omega), show ((i : Int) + (k : Int)).toNat = i + k by omega]
  rw [cutV_eq, e1, e2]
  rcases Nat.lt_or_ge i xs.length with h | h
  · rw [Nat.min_eq_left (Nat.le_of_lt h)]
    rcases Nat.lt_or_ge (i + k) xs.length with h2 | h2
    · rw [Nat.min_eq_left (Nat.le_of_lt h2)]
      congr 1
      omega
    · rw [Nat.min_eq_right h2, List.take_of_length_le (by rw [List.length_drop]; exact Nat.le_refl _), List.take_of_length_le (by rw [List.length_drop]; omega)]
  · rw [Nat.min_eq_right h, List.drop_eq_nil_of_le (Nat.le_refl xs.length), List.drop_eq_nil_of_le h, List.take_nil, List.take_nil]
end Tw

/-! TwS: more of a dict with keys of all kinds: asked, in, get, list. -/
namespace Tw
open PySem PySem.W PySem.Spec PyProof.Rows L2
section
variable {prog : Program} {w : World} {A : Around} {E : Value → Shared → Prop} {s : Shared}
theorem getItem_mx {d : Addr} {es : Array DictEntry} {ks : List NestedKey} {k : NestedKey} {key : Value} {Q : Value → Shared → Prop} (hu : A.units + 9 < cLine) (hk : NestedIs s.heap k key) (h8 : k.depth ≤ 8)
    (D : Dd s.heap d es) (M : MxOf w s.heap ks es) {j : Nat} (hj : j < es.size) (hjk : ks[j]? = some k) (h : Q es[j].val { s with toks := s.toks + k.draws }) : wpAny (model prog w) A (getItem (.ref d) key) Q E s := by
  unfold getItem
  try with_reducible refine wpAny_holding ?_
  refine wpAny_bind (wpAny_sequenceKey D.typeIs (by decide) ?_)
  refine wpAny_bind (wpAny_callSpecial?_slot (name := Str.ofString "__getitem__") D.typeIs slot_dict_getitem
    (wpAny_call_entry slot_dict_getitem D.typeIs entry_dict_getitem ?_ (args_dict_getitem _ _)))
  show wpAny _ _ (dictGet d key >>= _) _ _ s
  refine wpAny_bind (dictGet_mx (A := A.in1) (by simp only [Around.in1_units]; omega) hk h8 D M (fun hn => absurd (List.mem_of_getElem? hjk) hn) (fun i hi hik => ?_))
  have e := M.one hik hjk
  subst e
  exact wpAny_pure ⟨_, rfl, wpAny_pure h⟩
theorem contains_mx {d : Addr} {es : Array DictEntry} {ks : List NestedKey} {k : NestedKey} {key : Value} {Q : Bool → Shared → Prop} (hu : A.units + 9 < cLine) (hk : NestedIs s.heap k key) (h8 : k.depth ≤ 8) (lo : (d == sysModules) = false)
    (D : Dd s.heap d es) (M : MxOf w s.heap ks es) (hno : k ∉ ks → Q false { s with toks := s.toks + k.draws }) (hyes : k ∈ ks → Q true { s with toks := s.toks + k.draws }) : wpAny (model prog w) A (contains (.ref d) key) Q E s := by
  unfold contains
  try with_reducible refine wpAny_holding ?_
  refine wpAny_bind (wpAny_specialOf D.typeIs slot_dict_contains.lookup ?_)
  show wpAny _ _ (if (some (Value.builtin "dict.__contains__") == some Value.none) = true then _ else _) _ E s
  rw [if_neg (by rw [beq_builtin_none]; exact Bool.false_ne_true)]
  refine wpAny_bind (wpAny_callSpecialUnlessNone?_slot (name := Str.ofString "__contains__") D.typeIs slot_dict_contains
    (wpAny_call_entry slot_dict_contains D.typeIs entry_dict_contains ?_ (args_dict_contains _ _)))
  show wpAny _ _ (dictGet d key >>= _) _ _ s
  refine wpAny_bind (dictGet_mx (A := A.in1) (by simp only [Around.in1_units]; omega) hk h8 D M (fun hn => ?_) (fun i hi hik => ?_))
  · show wpAny _ _ (Builtin.Dict.pendingKey? d key >>= _) _ _ _
    exact wpAny_bind (wpAny_pendingKey_other lo (wpAny_pure ⟨_, rfl, wpAny_truthy_bool (hno hn)⟩))
  · show wpAny _ _ (ret (.bool true)) _ _ _
    exact wpAny_pure ⟨_, rfl, wpAny_truthy_bool (hyes (List.mem_of_getElem? hik))⟩
theorem get2_mx {d : Addr} {es : Array DictEntry} {ks : List NestedKey} {k : NestedKey} {key dflt : Value} {Q : Value → Shared → Prop} (hu : A.units + 9 < cLine) (hk : NestedIs s.heap k key) (h8 : k.depth ≤ 8) (lo : (d == sysModules) = false)
    (D : Dd s.heap d es) (M : MxOf w s.heap ks es) (hno : k ∉ ks → Q dflt { s with toks := s.toks + k.draws }) (hyes : ∀ j (hj : j < es.size), ks[j]? = some k → Q es[j].val { s with toks := s.toks + k.draws }) : wpAny (model prog w) A (call (.builtin "dict.get") [.ref d, key, dflt]) Q E s := by
  refine call_meetsIn PySem.F.slot_dict_get D.typeIs PySem.F.entry_dict_get (PySem.F.args_dict_get_3 _ _ _) (S := fun A' R s' => A' = A ∧ s' = s ∧ (k ∉ ks → R (.ok (.ret dflt)) { s with toks := s.toks + k.draws }) ∧ (∀ j (hj : j < es.size), ks[j]? = some k → R (.ok (.ret es[j].val)) { s with toks := s.toks + k.draws })) (fun A' R s' hS => ?_) ⟨rfl, rfl, hno, hyes⟩
  obtain ⟨rfl, rfl, q1, q2⟩ := hS
  show wpAny _ _ (dictGet d key >>= _) _ _ _
  refine wpAny_bind (dictGet_mx (by simp only [Around.in1_units]; omega) hk h8 D M (fun hn => ?_) (fun i hi hik => ?_))
  · show wpAny _ _ (Builtin.Dict.missed d key >>= _) _ _ _
    exact wpAny_bind (wpAny_missed_other lo (wpAny_pure (q1 hn)))
  · exact wpAny_pure (q2 i hi hik)
end
section
variable {X : Cx} {pins : List (Addr × Obj)} {σ : L2.St} {H : Hp} {s : Shared} {a : Addr} {xs : Mx}
theorem mx_has (M : MxA X.w H a xs) {d : PyData} (hk : isK 3 d) (h : nkOf d ∈ xs.map fun x => nkOf x.1) : ∃ x ∈ xs, x.1 = d := by
  obtain ⟨x, hx, e⟩ := List.mem_map.mp h
  exact ⟨x, hx, nk_inj (M.ok x hx) hk e⟩
/-- k in d, k not in d -/
def rInM (w : World) : R2 := fun x y H Q => ∃ (a : Addr) (xs : Mx) (d : PyData), y = .ref a ∧ MxA w H a xs ∧ Dt H x d ∧ isK 3 d ∧ ((∀ z ∈ xs, z.1 ≠ d) → Q (.bl false) H) ∧ (∀ z ∈ xs, z.1 = d → Q (.bl true) H)
def rNotInM (w : World) : R2 := fun x y H Q => ∃ (a : Addr) (xs : Mx) (d : PyData), y = .ref a ∧ MxA w H a xs ∧ Dt H x d ∧ isK 3 d ∧ ((∀ z ∈ xs, z.1 ≠ d) → Q (.bl true) H) ∧ (∀ z ∈ xs, z.1 = d → Q (.bl false) H)
theorem op_inM (hu : X.A.units + 9 < cLine) : OpR X (compareOp .In) (rInM X.w) := by
  intro pins s σ H x y v u Q I rx ry h
  obtain ⟨a, xs, d, rfl, M, hd, hk, q0, q1⟩ := h
  cases (show u = Value.ref a from ry)
  obtain ⟨lo, hz, es, D, P⟩ := M.heap I
  have MO := M.of I P
  obtain ⟨as, hr⟩ := Dp.reads I d x v (Dt.dp _ _ hd) rx
  obtain ⟨p1, p2⟩ := nk_is hk hr
  show wpAny _ _ (do return Value.bool (← contains (.ref a) v) : Sem Value) _ _ s
  refine wpAny_bind (contains_mx hu p1 (by omega) lo D MO (fun hn => wpAny_pure ⟨.bl false, H, I.tok _, rfl, q0 fun z hz e => hn (by rw [← e]; exact List.mem_map_of_mem hz)⟩) fun hy => ?_)
  obtain ⟨z, hz, e⟩ := mx_has M hk hy
  exact wpAny_pure ⟨.bl true, H, I.tok _, rfl, q1 z hz e⟩
theorem op_notInM (hu : X.A.units + 9 < cLine) : OpR X (compareOp .NotIn) (rNotInM X.w) := by
  intro pins s σ H x y v u Q I rx ry h
  obtain ⟨a, xs, d, rfl, M, hd, hk, q0, q1⟩ := h
  cases (show u = Value.ref a from ry)
  obtain ⟨lo, hz, es, D, P⟩ := M.heap I
  have MO := M.of I P
  obtain ⟨as, hr⟩ := Dp.reads I d x v (Dt.dp _ _ hd) rx
  obtain ⟨p1, p2⟩ := nk_is hk hr
  show wpAny _ _ (do return Value.bool (!(← contains (.ref a) v)) : Sem Value) _ _ s
  refine wpAny_bind (contains_mx hu p1 (by omega) lo D MO (fun hn => wpAny_pure ⟨.bl true, H, I.tok _, rfl, q0 fun z hz e => hn (by rw [← e]; exact List.mem_map_of_mem hz)⟩) fun hy => ?_)
  obtain ⟨z, hz, e⟩ := mx_has M hk hy
  exact wpAny_pure ⟨.bl false, H, I.tok _, rfl, q1 z hz e⟩
theorem mx_val {w : World} {es : Array DictEntry} (P : Paired (entIs w) es.toList xs) {j : Nat} (hj : j < es.size) : ∃ x, xs[j]? = some x ∧ RelV x.2.2 es[j].val := by
  obtain ⟨x, hx, _, _, e3⟩ := paired_get P (show es.toList[j]? = some es[j] by rw [Array.getElem?_toList, Array.getElem?_eq_getElem hj])
  exact ⟨x, hx, e3⟩
/-- d[k] -/
def rIxM (w : World) : R2 := fun x y H Q => ∃ (a : Addr) (xs : Mx) (d : PyData) (z : PyData × V × V), x = .ref a ∧ MxA w H a xs ∧ Dt H y d ∧ isK 3 d ∧ z ∈ xs ∧ z.1 = d ∧ Q z.2.2 H
theorem ix_mix (hu : X.A.units + 9 < cLine) : IxR X (rIxM X.w) := by
  intro value slice pins s σ H x y v u Q I rx ry h hs
  obtain ⟨a, xs, d, z, rfl, M, hd, hk, hz, he, q⟩ := h
  cases (show v = Value.ref a from rx)
  obtain ⟨lo, _, es, D, P⟩ := M.heap I
  have MO := M.of I P
  obtain ⟨as, hr⟩ := Dp.reads I d y u (Dt.dp _ _ hd) ry
  obtain ⟨p1, p2⟩ := nk_is hk hr
  obtain ⟨j, hj⟩ := List.mem_iff_getElem?.mp hz
  have hjs : j < es.size := by
    rw [MO.len, List.length_map]; exact (List.getElem?_eq_some_iff.mp hj).1
  obtain ⟨z', hz', rv⟩ := mx_val P hjs
  rw [hj] at hz'
  cases hz'
  exact subscriptTail_builtinR (x := es[j].val) D.typeIs slot_dict_getitem.lookup
    (getItem_mx (Q := fun r s' => r = es[j].val ∧ EP X pins σ Q r s') hu p1 (by omega) D MO hjs (by rw [List.getElem?_map, hj, ← he]; rfl) ⟨rfl, z.2.2, H, I.tok _, rv, q⟩) hs
/-- d.get(k, x) -/
def tGetM (w : World) (td ty tx : TE) : TE := fun σ H Q => td σ H fun x H1 => ∃ a, x = .ref a ∧ (∃ xs, MxA w H1 a xs) ∧ ty σ H1 fun y H2 => tx σ H2 fun z H3 => ∃ (xs : Mx) (d : PyData), MxA w H3 a xs ∧ Dt H3 y d ∧ isK 3 d ∧ ((∀ e ∈ xs, e.1 ≠ d) → Q z H3) ∧ (∀ e ∈ xs, e.1 = d → Q e.2.2 H3)
theorem pe_getM {o e f : Expr} {apos cpos : Pos} {td ty tx : TE} (hu : X.A.units + 9 < cLine) (ho : PE X o td) (he : PE X e ty) (hf : PE X f tx) (m : M2 X o "get" apos e f cpos) : PE X (.Call (.Attribute o "get" apos) [e, f] [] cpos) (tGetM X.w td ty tx) := by
  refine ⟨fun pins s σ H Q I h => ?_⟩
  refine wpAny_Call_method m.base m.few m.line PySem.F.plainAttrs_dict PySem.F.slot_dict_get PySem.F.type_dict_get (thn (ho.run pins s σ H _ I h) fun u s1 ⟨x, H1, I1, rx, a, ex, ⟨xs1, M1⟩, q1⟩ => ?_)
  subst ex
  obtain rfl : u = Value.ref a := rx
  obtain ⟨lo, _, es1, D1, _⟩ := M1.heap I1
  refine ⟨D1.typeIs, fun b q => ?_, ?_⟩
  · cases q
    obtain ⟨o, ep, ho, hc, hd⟩ := D1.ex
    exact ⟨o, ho, hc.2.1⟩
  rw [m.trees]
  refine Calls.callWith_builtin rfl (Calls.evalArgs_plain (Calls.spliced_cons (thn (he.run pins s1 σ H1 _ I1 q1) fun iv s2 ⟨y, H2, I2, ry, q2⟩ =>
    Calls.spliced_cons (thn (hf.run pins s2 σ H2 _ I2 q2) fun fv s3 ⟨z, H3, I3, rz, xs, d, M, hd, hk, q3, q4⟩ => Calls.spliced_nil ?_))))
  obtain ⟨_, _, es, D, P⟩ := M.heap I3
  have MO := M.of I3 P
  obtain ⟨as, hr⟩ := Dp.reads I3 d y iv (Dt.dp _ _ hd) ry
  obtain ⟨p1, p2⟩ := nk_is hk hr
  refine get2_mx hu p1 (by omega) lo D MO (fun hn => ⟨z, H3, I3.tok _, rz, q3 fun x hx e => hn (by rw [← e]; exact List.mem_map.mpr ⟨x, hx, rfl⟩)⟩) fun j hj hjk => ?_
  obtain ⟨x, hx, rv⟩ := mx_val P hj
  rw [List.getElem?_map, hx] at hjk
  have hm := List.mem_of_getElem? hx
  exact ⟨x.2.2, H3, I3.tok _, rv, q4 x hm (nk_inj (M.ok x hm) hk (Option.some.inj hjk))⟩
/-- list(d) -/
def rListM (w : World) : List V → Hp → VK → Prop := fun vs H Q => ∃ (a : Addr) (xs : Mx), vs = [.ref a] ∧ MxA w H a xs ∧ ∀ p, Fresh H p → Q (.ref p) (upd H p (.lst (xs.map (·.2.1))))
theorem c_listM (hc : X.calm = true) : CallR X (.type "list") (rListM X.w) := by
  intro pins s σ H vs us Q I r h
  obtain ⟨a, xs, rfl, M, q⟩ := h
  obtain ⟨u, rfl, rx⟩ := vals1 r
  cases (show u = Value.ref a from rx)
  obtain ⟨lo, hz, es, D, P⟩ := M.heap I
  have hes : es.size = xs.length := by rw [← Array.length_toList, Paired.length P]
  obtain ⟨o, ep, ho, hc1, hd⟩ := D.ex
  refine PySem.W.kdl_call (KdlSrc.rawDict (es := es) (ep := ep) lo) (I.ok.hd hc) ⟨o, ho, hc1, hd⟩ (by omega) fun h' tk acc c' hkeep hS hacc => ?_
  refine ⟨.ref s.heap.objs.size, upd H s.heap.objs.size (.lst (xs.map (·.2.1))), I.laid hkeep (Nat.le_refl _) (show ObjOk X.prog X.w _ _ _ (.lst (xs.map (·.2.1))) from ⟨by rw [List.length_map]; exact hz, acc.toList, c', ?_, ?_⟩), rfl, q _ (I.hok.fresh (Nat.le_refl _))⟩
  · refine vals_idx (by rw [List.length_map, ← hes, ← hacc.1]; simp) fun i v u h1 h2 => ?_
    rw [Array.getElem?_toList] at h2
    obtain ⟨hi, rfl⟩ := hacc.2 i u h2
    obtain ⟨x, hx, _, e2, _⟩ := paired_get P (show es.toList[i]? = some es[i] by rw [Array.getElem?_toList, Array.getElem?_eq_getElem hi])
    rw [List.getElem?_map, hx] at h1
    cases h1
    exact e2
  · rw [Array.toArray_toList]; exact hS
end
end Tw

/-! TwT: patches behind one another, in plain Lean. -/
namespace Tw
open PySem PySem.W PySem.Spec PyProof.Rows L2 TL
/-- a join behind one statement or two -/
theorem x_cut {a b : TS} {D : Ends} {σ : L2.St} {H : Hp} (I : L2.St → Hp → Prop) (h1 : ∀ nx : L2.St → Hp → Prop, (∀ σ' H', I σ' H' → nx σ' H') → a { D with nx := nx } σ H) (h2 : ∀ σ' H', I σ' H' → b D σ' H') : tSeq a b D σ H := h1 _ h2
theorem x_cut2 {a b c : TS} {D : Ends} {σ : L2.St} {H : Hp} (I : L2.St → Hp → Prop) (h1 : ∀ nx : L2.St → Hp → Prop, (∀ σ' H', I σ' H' → nx σ' H') → tSeq a b { D with nx := nx } σ H) (h2 : ∀ σ' H', I σ' H' → c D σ' H') : tSeq a (tSeq b c) D σ H := h1 _ h2
theorem x_cut3 {a b c d : TS} {D : Ends} {σ : L2.St} {H : Hp} (I : L2.St → Hp → Prop) (h1 : ∀ nx : L2.St → Hp → Prop, (∀ σ' H', I σ' H' → nx σ' H') → tSeq a (tSeq b c) { D with nx := nx } σ H) (h2 : ∀ σ' H', I σ' H' → d D σ' H') : tSeq a (tSeq b (tSeq c d)) D σ H := h1 _ h2
abbrev Sides := List PyData × List PyData
abbrev SMap := PyData → Option Sides
def okD (on : Sides) : Prop := (∀ d ∈ on.1, isK 3 d) ∧ (∀ d ∈ on.2, isK 3 d) ∧ on.1.length ≤ 1 ∧ on.2.length ≤ 1
def okS (r : Row) : Prop := isK 3 r.1 ∧ okD r.2
theorem okS.row {r : Row} (h : okS r) : okRow r := ⟨okG_key h.1 (by decide), fun d hd => okG_key (h.2.1 d hd) (by decide), fun d hd => okG_key (h.2.2.1 d hd) (by decide), Nat.le_trans h.2.2.2.1 (by decide), Nat.le_trans h.2.2.2.2 (by decide)⟩
structure Patch (rs : List Row) : Prop where
  ok : ∀ r ∈ rs, okS r
  up : upK (rs.map (·.1))
  nd : (rs.map (·.1)).Nodup
theorem upK_sub {xs ys : List PyData} (h : upK ys) (s : xs.Sublist ys) : upK xs := List.Pairwise.sublist s h
theorem Patch.sub {rs ss : List Row} (h : Patch ss) (s : rs.Sublist ss) : Patch rs := ⟨fun r hr => h.ok r (s.subset hr), upK_sub h.up (s.map _), h.nd.sublist (s.map _)⟩
theorem Patch.take {rs : List Row} (h : Patch rs) (i : Nat) : Patch (rs.take i) := h.sub (List.take_sublist i rs)
theorem nd_one {α β : Type} {f : α → β} : ∀ {l : List α}, (l.map f).Nodup → ∀ {x y : α}, x ∈ l → y ∈ l → f x = f y → x = y
  | [], _, _, _, hx, _, _ => nomatch hx
  | a :: l, h, x, y, hx, hy, e => by
    rw [List.map_cons, List.nodup_cons] at h
    rcases List.mem_cons.mp hx with h1 | h1
    · rcases List.mem_cons.mp hy with h2 | h2
      · rw [h1, h2]
      · exact absurd (by rw [← h1, e]; exact List.mem_map_of_mem h2) h.1
    · rcases List.mem_cons.mp hy with h2 | h2
      · exact absurd (by rw [← h2, ← e]; exact List.mem_map_of_mem h1) h.1
      · exact nd_one h.2 h1 h2 e
open Classical in
noncomputable def look (rs : List Row) : SMap := fun k => (rs.find? fun r => decide (r.1 = k)).map (·.2)
open Classical in
noncomputable def putS (m : SMap) (d : PyData) (on : Sides) : SMap := fun e => if e = d then some on else m e
theorem putS_same {m : SMap} {d : PyData} {on : Sides} : putS m d on d = some on := by unfold putS; rw [if_pos rfl]
theorem putS_ne {m : SMap} {d e : PyData} {on : Sides} (h : e ≠ d) : putS m d on e = m e := by unfold putS; rw [if_neg h]
open Classical in
theorem look_some {rs : List Row} {k : PyData} {on : Sides} (h : look rs k = some on) : (k, on) ∈ rs := by
  unfold look at h
  obtain ⟨r, h1, h2⟩ := Option.map_eq_some_iff.mp h
  have h3 := List.find?_some h1
  have e : r.1 = k := of_decide_eq_true h3
  have hm := List.mem_of_find?_eq_some h1
  rw [← h2, ← e]
  exact hm
theorem look_no {rs : List Row} {k : PyData} (h : ∀ r ∈ rs, r.1 ≠ k) : look rs k = none := by
  cases e : look rs k with
  | none => rfl
  | some on => exact absurd rfl (h _ (look_some e))
open Classical in
theorem look_mem {rs : List Row} (hn : (rs.map (·.1)).Nodup) {r : Row} (hr : r ∈ rs) : look rs r.1 = some r.2 := by
  cases e : look rs r.1 with
  | none =>
    unfold look at e
    rw [Option.map_eq_none_iff, List.find?_eq_none] at e
    exact absurd (decide_eq_true rfl) (e r hr)
  | some on =>
    have := nd_one hn (look_some e) hr rfl
    rw [← this]
theorem take_snoc {rs : List Row} {i : Nat} {r : Row} (h : rs[i]? = some r) : rs.take (i + 1) = rs.take i ++ [r] := by rw [List.take_succ, h]; rfl
theorem look_fresh {rs : List Row} (hn : (rs.map (·.1)).Nodup) {i : Nat} {r : Row} (h : rs[i]? = some r) : look (rs.take i) r.1 = none := by
  refine look_no fun x hx e => ?_
  have h1 : ((rs.take (i + 1)).map (·.1)).Nodup := hn.sublist ((List.take_sublist _ _).map _)
  rw [take_snoc h, List.map_append, List.nodup_append] at h1
  exact h1.2.2 x.1 (List.mem_map_of_mem hx) r.1 (by simp) e
open Classical in
theorem look_put {rs : List Row} (hn : (rs.map (·.1)).Nodup) {i : Nat} {r : Row} (h : rs[i]? = some r) : look (rs.take (i + 1)) = putS (look (rs.take i)) r.1 r.2 := by
  have hf := look_fresh hn h
  funext e
  by_cases he : e = r.1
  · subst he
    rw [putS_same]
    refine look_mem (hn.sublist ((List.take_sublist _ _).map _)) ?_
    rw [take_snoc h]; exact List.mem_append_right _ (List.mem_singleton.mpr rfl)
  · rw [putS_ne he, take_snoc h]
    unfold look
    rw [List.find?_append, List.find?_cons_of_neg (by rw [decide_eq_true_eq]; exact fun z => he z.symm), List.find?_nil, Option.or_none]
/-- one patch laid over another: the old side of the first, the new one of the second -/
noncomputable def comb (F S : SMap) : SMap := fun k => match F k, S k with
  | some a, some b => some (a.1, b.2)
  | some a, none => some a
  | none, y => y
theorem comb_none2 {F S : SMap} {k : PyData} (h : S k = none) : comb F S k = F k := by
  unfold comb; rw [h]; cases F k <;> rfl
theorem comb_none1 {F S : SMap} {k : PyData} (h : F k = none) : comb F S k = S k := by
  unfold comb; rw [h]
theorem comb_both {F S : SMap} {k : PyData} {a b : Sides} (h : F k = some a) (h2 : S k = some b) : comb F S k = some (a.1, b.2) := by
  unfold comb; rw [h, h2]
theorem comb_put2 {F S : SMap} {d : PyData} {on : Sides} (o : List PyData) (h : o = match F d with | some a => a.1 | none => on.1) : comb F (putS S d on) = putS (comb F S) d (o, on.2) := by
  funext e
  by_cases he : e = d
  · subst he
    rw [putS_same]
    cases hf : F e with
    | none => rw [comb_none1 hf, putS_same]; rw [hf] at h; rw [h]
    | some a => rw [comb_both hf putS_same]; rw [hf] at h; rw [h]
  · rw [putS_ne he]
    unfold comb
    rw [putS_ne he]
theorem comb_put1 {F S : SMap} {d : PyData} {on : Sides} (n : List PyData) (h : n = match S d with | some b => b.2 | none => on.2) : comb (putS F d on) S = putS (comb F S) d (on.1, n) := by
  funext e
  by_cases he : e = d
  · subst he
    rw [putS_same]
    cases hf : S e with
    | none => rw [comb_none2 hf, putS_same]; rw [hf] at h; rw [h]
    | some a => rw [comb_both putS_same hf]; rw [hf] at h; rw [h]
  · rw [putS_ne he]
    unfold comb
    rw [putS_ne he]
theorem look_ok {rs : List Row} (h : Patch rs) {k : PyData} {on : Sides} (e : look rs k = some on) : isK 3 k ∧ okD on := h.ok _ (look_some e)
theorem comb_ok {F S : List Row} (hF : Patch F) (hS : Patch S) {k : PyData} {on : Sides} (e : comb (look F) (look S) k = some on) : isK 3 k ∧ okD on := by
  cases h1 : look F k with
  | none => rw [comb_none1 h1] at e; exact look_ok hS e
  | some a =>
    cases h2 : look S k with
    | none => rw [comb_none2 h2] at e; exact look_ok hF e
    | some b =>
      rw [comb_both h1 h2] at e
      cases e
      obtain ⟨k1, k2, k3, k4, k5⟩ := look_ok hF h1
      obtain ⟨_, g2, g3, g4, g5⟩ := look_ok hS h2
      exact ⟨k1, k2, g3, k4, g5⟩
theorem eqvAll_comm {ds es : List PyData} (h : ∀ d ∈ ds, isK 3 d) (k : ∀ d ∈ es, isK 3 d) : PyData.eqvAll ds es = PyData.eqvAll es ds := by
  cases h1 : PyData.eqvAll ds es with
  | true => rw [eqAll_of_eqv h k h1]; exact (eqvAll_of_eq k).symm
  | false =>
    cases h2 : PyData.eqvAll es ds with
    | false => rfl
    | true => rw [eqAll_of_eqv k h h2, eqvAll_of_eq h] at h1; cases h1
/-- a row of the second that doesn't fit behind the first, seen from either -/
noncomputable def staleB (F : List Row) (r : Row) : Bool := match look F r.1 with | some on => !PyData.eqvAll on.2 r.2.1 | none => false
noncomputable def staleF (S : List Row) (r : Row) : Bool := match look S r.1 with | some on => !PyData.eqvAll on.1 r.2.2 | none => false
theorem staleB_some {F : List Row} {r : Row} {on : Sides} (h : look F r.1 = some on) : staleB F r = !PyData.eqvAll on.2 r.2.1 := by unfold staleB; rw [h]
theorem staleB_none {F : List Row} {r : Row} (h : look F r.1 = none) : staleB F r = false := by unfold staleB; rw [h]
theorem staleF_some {F : List Row} {r : Row} {on : Sides} (h : look F r.1 = some on) : staleF F r = !PyData.eqvAll on.1 r.2.2 := by unfold staleF; rw [h]
theorem staleF_none {F : List Row} {r : Row} (h : look F r.1 = none) : staleF F r = false := by unfold staleF; rw [h]
theorem perm_of_mem {xs ys : List PyData} (h1 : xs.Nodup) (h2 : ys.Nodup) (h : ∀ d, d ∈ xs ↔ d ∈ ys) : xs.Perm ys := (List.perm_ext_iff_of_nodup h1 h2).mpr h
theorem up_one {xs ys : List PyData} (u1 : upK xs) (h1 : xs.Nodup) (u2 : upK ys) (h2 : ys.Nodup) (k : ∀ d ∈ xs, isK 3 d) (h : ∀ d, d ∈ xs ↔ d ∈ ys) : xs = ys := upK_unique u1 u2 (perm_of_mem h1 h2 h) k
theorem stale_one {F S : List Row} (hF : Patch F) (hS : Patch S) : (F.filter (staleF S)).map (·.1) = (S.filter (staleB F)).map (·.1) := by
  have s1 : (F.filter (staleF S)).Sublist F := List.filter_sublist
  have s2 : (S.filter (staleB F)).Sublist S := List.filter_sublist
  refine up_one (hF.sub s1).up (hF.sub s1).nd (hS.sub s2).up (hS.sub s2).nd (fun d hd => ?_) fun d => ⟨fun h => ?_, fun h => ?_⟩
  · obtain ⟨r, hr, rfl⟩ := List.mem_map.mp hd
    exact ((hF.sub s1).ok r hr).1
  · obtain ⟨r, hr, rfl⟩ := List.mem_map.mp h
    obtain ⟨hr1, hr2⟩ := List.mem_filter.mp hr
    cases e : look S r.1 with
    | none => rw [staleF_none e] at hr2; cases hr2
    | some on =>
      rw [staleF_some e] at hr2
      refine List.mem_map.mpr ⟨(r.1, on), List.mem_filter.mpr ⟨look_some e, ?_⟩, rfl⟩
      rw [staleB_some (r := (r.1, on)) (show look F r.1 = some r.2 from look_mem hF.nd hr1), eqvAll_comm (hF.ok r hr1).2.2.1 (look_ok hS e).2.1]
      exact hr2
  · obtain ⟨r, hr, rfl⟩ := List.mem_map.mp h
    obtain ⟨hr1, hr2⟩ := List.mem_filter.mp hr
    cases e : look F r.1 with
    | none => rw [staleB_none e] at hr2; cases hr2
    | some on =>
      rw [staleB_some e] at hr2
      refine List.mem_map.mpr ⟨(r.1, on), List.mem_filter.mpr ⟨look_some e, ?_⟩, rfl⟩
      rw [staleF_some (r := (r.1, on)) (show look S r.1 = some r.2 from look_mem hS.nd hr1), eqvAll_comm (hS.ok r hr1).2.1 (look_ok hF e).2.2.1]
      exact hr2
def KeysOf (m : SMap) (ks : List PyData) : Prop := upK ks ∧ ks.Nodup ∧ (∀ d ∈ ks, isK 3 d) ∧ ∀ k, k ∈ ks ↔ ∃ on, m k = some on
theorem KeysOf.one {m : SMap} {ks ls : List PyData} (h : KeysOf m ks) (k : KeysOf m ls) : ks = ls := up_one h.1 h.2.1 k.1 k.2.1 h.2.2.1 fun d => (h.2.2.2 d).trans (k.2.2.2 d).symm
noncomputable def rowOf (m : SMap) (k : PyData) : Option Row := match m k with | some on => if PyData.eqvAll on.1 on.2 = true then none else some (k, on) | none => none
noncomputable def rowsOf (m : SMap) (ks : List PyData) : List Row := ks.filterMap (rowOf m)
theorem rowsOf_snoc {m : SMap} {ks : List PyData} {i : Nat} {k : PyData} {on : Sides} (h : ks[i]? = some k) (hm : m k = some on) : rowsOf m (ks.take (i + 1)) = rowsOf m (ks.take i) ++ (if PyData.eqvAll on.1 on.2 = true then [] else [(k, on)]) := by
  unfold rowsOf
  rw [List.take_succ, h, List.filterMap_append]
  congr 1
  show List.filterMap (rowOf m) [k] = _
  rw [List.filterMap_cons]
  unfold rowOf
  rw [hm]
  dsimp only
  by_cases e : PyData.eqvAll on.1 on.2 = true
  · rw [if_pos e, if_pos e]; rfl
  · rw [if_neg e, if_neg e]; rfl
theorem rowsOf_len (m : SMap) (ks : List PyData) : (rowsOf m ks).length ≤ ks.length := List.length_filterMap_le _ _
theorem rowsOf_ok {m : SMap} {ks : List PyData} (h : ∀ k on, m k = some on → isK 3 k ∧ okD on) : ∀ r ∈ rowsOf m ks, okS r := fun r hr => by
  obtain ⟨k, _, hk⟩ := List.mem_filterMap.mp hr
  unfold rowOf at hk
  cases e : m k with
  | none => rw [e] at hk; cases hk
  | some on =>
    rw [e] at hk
    dsimp only at hk
    by_cases c : PyData.eqvAll on.1 on.2 = true
    · rw [if_pos c] at hk; cases hk
    · rw [if_neg c] at hk; cases hk; exact h k on e
/-! ### in the heap -/
def PairA (S : Addr → Prop) (H : Hp) (v : V) (on : Sides) : Prop := ∃ (t a b : Addr) (os ns : List V), v = .ref t ∧ H t = some (.tup [.ref a, .ref b]) ∧ H a = some (.lst os) ∧ ¬ S a ∧ DtAll H os on.1 ∧ H b = some (.lst ns) ∧ ¬ S b ∧ DtAll H ns on.2
theorem PairA.mono {S : Addr → Prop} {H H1 : Hp} {v : V} {on : Sides} (h : PairA S H v on) (f : Fr S H H1) : PairA S H1 v on := by
  obtain ⟨t, a, b, os, ns, h1, h2, h3, h4, h5, h6, h7, h8⟩ := h
  exact ⟨t, a, b, os, ns, h1, f.tup _ _ h2, f.keep _ _ h3 h4, h4, h5.mono f, f.keep _ _ h6 h7, h7, h8.mono f⟩
def SidesA (S : Addr → Prop) (H : Hp) (xs : Mx) (m : SMap) : Prop := (∀ x ∈ xs, ∃ on, m x.1 = some on ∧ PairA S H x.2.2 on) ∧ ∀ d on, m d = some on → ∃ x ∈ xs, x.1 = d
theorem SidesA.mono {S : Addr → Prop} {H H1 : Hp} {xs : Mx} {m : SMap} (h : SidesA S H xs m) (f : Fr S H H1) : SidesA S H1 xs m := ⟨fun x hx => let ⟨on, h1, h2⟩ := h.1 x hx; ⟨on, h1, h2.mono f⟩, h.2⟩
theorem SidesA.nil {S : Addr → Prop} {H : Hp} : SidesA S H [] (look []) := ⟨List.forall_mem_nil _, fun d on h => nomatch look_some h⟩
theorem SidesA.at {S : Addr → Prop} {H : Hp} {xs : Mx} {m : SMap} (h : SidesA S H xs m) {d : PyData} {on : Sides} (e : m d = some on) : ∃ z ∈ xs, z.1 = d ∧ PairA S H z.2.2 on := by
  obtain ⟨z, hz, hd⟩ := h.2 d on e
  obtain ⟨on', h1, h2⟩ := h.1 z hz
  rw [hd, e] at h1
  cases h1
  exact ⟨z, hz, hd, h2⟩
theorem SidesA.no {S : Addr → Prop} {H : Hp} {xs : Mx} {m : SMap} (h : SidesA S H xs m) {d : PyData} (e : ∀ z ∈ xs, z.1 ≠ d) : m d = none := by
  cases q : m d with
  | none => rfl
  | some on => obtain ⟨z, hz, hd⟩ := h.2 d on q; exact absurd hd (e z hz)
theorem PutM.has {xs xs' : Mx} {d : PyData} {i v : V} (p : PutM xs d i v xs') : ∃ e ∈ xs', e.1 = d ∧ e.2.2 = v := by
  rcases p with ⟨j, x, h1, h2, rfl⟩ | ⟨h1, rfl⟩
  · exact ⟨(d, x.2.1, v), List.mem_of_getElem? (i := j) (by rw [List.getElem?_set_self (List.getElem?_eq_some_iff.mp h1).1]), rfl, rfl⟩
  · exact ⟨(d, i, v), List.mem_append_right _ (List.mem_singleton.mpr rfl), rfl, rfl⟩
theorem SidesA.put {S : Addr → Prop} {H H1 : Hp} {xs xs' : Mx} {m : SMap} {d : PyData} {i v : V} {on : Sides} (h : SidesA S H xs m) (f : Fr S H H1) (p : PutM xs d i v xs') (hn : (xs'.map (·.1)).Nodup) (hv : PairA S H v on) : SidesA S H1 xs' (putS m d on) := by
  obtain ⟨e0, hm0, hd0, hv0⟩ := p.has
  refine ⟨fun y hy => ?_, fun e on' he => ?_⟩
  · by_cases c : y.1 = d
    · have : y = e0 := nd_one hn hy hm0 (c.trans hd0.symm)
      subst this
      exact ⟨on, by rw [c, putS_same], by rw [hv0]; exact hv.mono f⟩
    · rcases p.mem hy with h1 | ⟨h1, _⟩
      · obtain ⟨on', h2, h3⟩ := h.1 y h1
        exact ⟨on', by rw [putS_ne c, h2], h3.mono f⟩
      · exact absurd h1 c
  · by_cases c : e = d
    · exact ⟨e0, hm0, by rw [hd0, c]⟩
    · rw [putS_ne c] at he
      obtain ⟨x, hx, hxe⟩ := h.2 e on' he
      have hk : e ∈ xs'.map (·.1) := by
        rcases p.keys with ⟨h1, _⟩ | ⟨_, h1⟩
        · rw [h1, ← hxe]; exact List.mem_map_of_mem hx
        · rw [h1, ← hxe]; exact List.mem_append_left _ (List.mem_map_of_mem hx)
      obtain ⟨y, hy, hye⟩ := List.mem_map.mp hk
      exact ⟨y, hy, hye⟩
theorem SidesA.keys {S : Addr → Prop} {H : Hp} {xs : Mx} {m : SMap} {es : List PyData} (h : SidesA S H xs m) (p : es.Perm (xs.map (·.1))) (u : upK es) (nd : (xs.map (·.1)).Nodup) (ok : ∀ x ∈ xs, isK 3 x.1) : KeysOf m es := by
  refine ⟨u, p.nodup_iff.mpr nd, fun d hd => ?_, fun k => ⟨fun hk => ?_, fun ⟨on, hk⟩ => ?_⟩⟩
  · obtain ⟨x, hx, rfl⟩ := List.mem_map.mp (p.mem_iff.mp hd)
    exact ok x hx
  · obtain ⟨x, hx, rfl⟩ := List.mem_map.mp (p.mem_iff.mp hk)
    obtain ⟨on, h1, _⟩ := h.1 x hx
    exact ⟨on, h1⟩
  · obtain ⟨x, hx, rfl⟩ := h.2 k on hk
    exact p.mem_iff.mpr (List.mem_map_of_mem hx)
def NewA (H : Hp) : Addr → Prop := fun b => Fresh H b
theorem NewA.not {H : Hp} {b : Addr} {o : HO} (h : H b = some o) : ¬ NewA H b := fun n => by
  have n : H b = none := n
  rw [h] at n; cases n
theorem Gd.old {H : Hp} {v : V} {d : PyData} (h : Gd Non H v d) : Gd (NewA H) H v d := by
  rcases h with h | ⟨a, h1, h2, h3, h4⟩
  · exact .inl h
  · exact .inr ⟨a, h1, h2, h3, NewA.not h3⟩
theorem RowA.old {H : Hp} {t : Addr} {r : Row} (h : RowA Non H t r) : RowA (NewA H) H t r := by
  obtain ⟨x, a, b, os, ns, h1, h2, h3, h4, h5, h6, h7, h8⟩ := h
  exact ⟨x, a, b, os, ns, h1, h2.old, h3, NewA.not h3, Paired.imp (fun _ _ k => k.old) h5, h6, NewA.not h6, Paired.imp (fun _ _ k => k.old) h8⟩
theorem RowsA.old {H : Hp} {ts : List Addr} {rs : List Row} (h : RowsA Non H ts rs) : RowsA (NewA H) H ts rs := Paired.imp (fun _ _ k => k.old) h
theorem Fr.back_new {H H1 H2 : Hp} (a : Fr Non H H1) (b : Fr (NewA H) H1 H2) : Fr Non H H2 := a.sub' b fun _ h => .inr h
/-- a row of keys in the heap -/
theorem RowA.keys {S : Addr → Prop} {H : Hp} {t : Addr} {r : Row} (h : RowA S H t r) (ok : okS r) : ∃ (x : V) (a b : Addr) (os ns : List V), H t = some (.tup [x, .ref a, .ref b]) ∧ Dt H x r.1 ∧ H a = some (.lst os) ∧ ¬ S a ∧ DtAll H os r.2.1 ∧ H b = some (.lst ns) ∧ ¬ S b ∧ DtAll H ns r.2.2 := by
  obtain ⟨x, a, b, os, ns, h1, h2, h3, h4, h5, h6, h7, h8⟩ := h
  exact ⟨x, a, b, os, ns, h1, h2.key ok.1, h3, h4, h5.keys ok.2.1, h6, h7, h8.keys ok.2.2.1⟩
def OldP (H : Hp) (p : Addr) : Addr → Prop := fun b => (∃ o, H b = some o) ∨ b = p
/-- what is due, what is told: a key of the sides that don't fit, or the rows -/
def TellsA (N : Addr → Prop) (S : Addr → Addr → Prop) (H' : Hp) (v : V) (F S2 : List Row) : Prop := (∃ (t : Addr) (x : V) (d : PyData), v = .ref t ∧ H' t = some (.tup [.str (Str.ofString "stale"), x]) ∧ Dt H' x d ∧ isK 3 d ∧ ((S2.filter (staleB F)).map (·.1)).head? = some d) ∨
  (∃ (t p : Addr) (ts : List Addr) (ks : List PyData), v = .ref t ∧ H' t = some (.tup [.str (Str.ofString "told"), .ref p]) ∧ N p ∧ S2.filter (staleB F) = [] ∧ KeysOf (comb (look F) (look S2)) ks ∧ ks.length ≤ 200 ∧ H' p = some (.lst (ts.map V.ref)) ∧ RowsA (S p) H' ts (rowsOf (comb (look F) (look S2)) ks))
/-- rows whose lists may be changed -/
def MarkA (S : Addr → Prop) (n : Nat) (H : Hp) (ts : List Addr) : Prop := ∀ t ∈ ts, ∃ (x : V) (a b : Addr) (os ns : List V), H t = some (.tup [x, .ref a, .ref b]) ∧ H a = some (.lst os) ∧ ¬ S a ∧ os.length ≤ n ∧ H b = some (.lst ns) ∧ ¬ S b ∧ ns.length ≤ n
theorem MarkA.of {S : Addr → Prop} {H : Hp} {n : Nat} : ∀ {ts : List Addr} {rs : List Row}, RowsA S H ts rs → (∀ r ∈ rs, r.2.1.length ≤ n ∧ r.2.2.length ≤ n) → MarkA S n H ts
  | _, _, .nil, _ => List.forall_mem_nil _
  | _, _, .cons a r, h => fun t ht => by
    rcases List.mem_cons.mp ht with rfl | ht
    · obtain ⟨x, a, b, os, ns, h1, h2, h3, h4, h5, h6, h7, h8⟩ := a
      have := h _ (List.mem_cons_self ..)
      exact ⟨x, a, b, os, ns, h1, h3, h4, by rw [Paired.length h5]; exact this.1, h6, h7, by rw [Paired.length h8]; exact this.2⟩
    · exact MarkA.of r (fun r hr => h r (List.mem_cons_of_mem _ hr)) t ht
theorem MarkA.put {S : Addr → Prop} {H : Hp} {n : Nat} {ts : List Addr} {c : Addr} {xs ys : List V} (h : MarkA S n H ts) (hc : H c = some (.lst xs)) (hy : ys.length ≤ n + 1) : MarkA S (n + 1) (upd H c (.lst ys)) ts := fun t ht => by
  obtain ⟨x, a, b, os, ns, h1, h2, h3, h4, h5, h6, h7⟩ := h t ht
  have ht : t ≠ c := fun e => by rw [e, hc] at h1; cases h1
  have one : ∀ (a : Addr) (os : List V), H a = some (.lst os) → os.length ≤ n → ∃ os', upd H c (.lst ys) a = some (.lst os') ∧ os'.length ≤ n + 1 := fun a os ha hl => by
    by_cases e : a = c
    · subst e; exact ⟨ys, upd_same, hy⟩
    · exact ⟨os, (upd_ne e).trans ha, by omega⟩
  obtain ⟨os', e1, e2⟩ := one a os h2 h4
  obtain ⟨ns', e3, e4⟩ := one b ns h5 h7
  exact ⟨x, a, b, os', ns', (upd_ne ht).trans h1, e1, h3, e2, e3, h6, e4⟩
def swapR (r : Row) : Row := (r.1, r.2.2, r.2.1)
section
variable {X : Cx}
def rIsYT (K : PySem.W.Frag) (a : Addr) (cls : Value) (d : Option Addr) : List V → Hp → VK → Prop := fun xs H Q => ∃ (D dd tp : Addr) (fs : List (Str × V)) (cs : List V) (us : List Value) (b : Bool), cls = .ref D ∧ d = some dd ∧ H dd = some (.xd fs) ∧ HoldC K D ∧ xs = [.ref a, .ref tp] ∧ H tp = some (.tup cs) ∧ Paired ClsV cs us ∧ PySem.W.kitAny K (.ref D) us = some b ∧ Q (.bl b) H
theorem call_isYT {a : Addr} {cls : Value} {d : Option Addr} {oe : Obj} {pn : List (Addr × Obj)} (hz : Zc cls d oe) (hf : ∃ vs, oe.data = .fields vs) : CallR (X.suite a ((a, oe) :: pn)) (.builtin "isinstance") (rIsYT X.K a cls d) := by
  intro pins s σ H xs us Q I r h
  obtain ⟨D, dd, tp, fs, cs, ws, b, rfl, rfl, hd, hC, rfl, hT, k, e, q⟩ := h
  obtain ⟨u1, u2, rfl, r1, r2⟩ := vals2 r
  cases (show u2 = Value.ref tp from r2)
  cases (show u1 = Value.ref a from r1)
  obtain ⟨_, its, rv, o, h1, h2, n, h3⟩ := (show ObjOk X.prog X.w H s.heap tp (.tup cs) from I.hok tp _ hT)
  have e3 := ClsV.all k rv
  subst e3
  obtain ⟨oc0, od0, dt0, sl0⟩ := o
  simp only at h2 h3
  subst h2 h3
  obtain ⟨hget, _⟩ := I.pin (a, oe) (List.mem_append.mpr (.inl List.mem_cons_self))
  obtain ⟨vs, hv2⟩ := hf
  obtain ⟨mA, hns, hr⟩ := I.hok dd _ hd
  obtain ⟨od, ho, _⟩ := lookIn_ns hns
  have J : PySem.W.InstAt s.heap a oe D (some od) := by
    obtain ⟨oc, od', oda, osl⟩ := oe
    obtain ⟨h1, h2⟩ := hz
    dsimp only at h1 h2 hv2
    subst h1 h2 hv2
    exact ⟨hget, rfl, rfl, ho⟩
  have C := hC.ex
  exact PySem.W.kia_tup (PySem.W.kitx_exc hC.cl C.hg C.hk C.hs C.ha C.hn C.ht C.hm) I.kIn J h1 e (fun z => nomatch z) fun tk => ⟨.bl b, H, I.kept (t' := tk) fun _ _ z => z, rfl, q⟩
theorem x_isYT {K : PySem.W.Frag} {a D dd tp : Addr} {fs : List (Str × V)} {cs : List V} {us : List Value} {b : Bool} {H : Hp} {Q : VK} (hd : H dd = some (.xd fs)) (hC : HoldC K D) (hT : H tp = some (.tup cs)) (hv : Paired ClsV cs us) (e : PySem.W.kitAny K (.ref D) us = some b) (q : Q (.bl b) H) : rIsYT K a (.ref D) (some dd) [.ref a, .ref tp] H Q := ⟨D, dd, tp, fs, cs, us, b, rfl, rfl, hd, hC, rfl, hT, hv, e, q⟩
end
end Tw

/-! TwU: rows taken apart; patches over one another. -/
namespace Tw
open PySem PySem.W PySem.Spec PyProof.Rows L2
theorem x_row3 {K : PySem.W.Frag} {t : Addr} {x y z : V} {i j k : Nat} {σ : L2.St} {H : Hp} {R : L2.St → Hp → Prop} (h : H t = some (.tup [x, y, z])) (q : R (((σ.set i (some x)).set j (some y)).set k (some z)) H) : gTup K 3 (gCons (gName i) (gCons (gName j) (gCons (gName k) gNil))) (.ref t) σ H R :=
  x_gtup (SqT.of h) rfl ⟨_, _, rfl, ⟨_, _, rfl, ⟨_, _, rfl, ⟨rfl, q⟩⟩⟩⟩
theorem comb_nil {F : SMap} : comb F (look []) = F := funext fun _ => comb_none2 (look_no (List.forall_mem_nil _))
theorem comb_nil1 {S : SMap} : comb (look []) S = S := funext fun _ => comb_none1 (look_no (List.forall_mem_nil _))
theorem filter_snoc {α : Type} {p : α → Bool} {l : List α} {x : α} : (l ++ [x]).filter p = l.filter p ++ (if p x = true then [x] else []) := by
  rw [List.filter_append]
  congr 1
  by_cases h : p x = true
  · rw [if_pos h, List.filter_cons_of_pos h]; rfl
  · rw [if_neg h, List.filter_cons_of_neg h]; rfl
theorem MxA.keysdt {w : World} {H : Hp} {a : Addr} {xs : Mx} (M : MxA w H a xs) : DtAll H (xs.map (·.2.1)) (xs.map (·.1)) := by
  have h := M.dt
  clear M
  induction xs with
  | nil => exact .nil
  | cons x xs ih => exact .cons (h x (List.mem_cons_self ..)) (ih fun y hy => h y (List.mem_cons_of_mem _ hy))
theorem head_filter {α β : Type} {p : α → Bool} {f : α → β} {l : List α} {i : Nat} {r : α} (h0 : (l.take i).filter p = []) (h : l[i]? = some r) (hp : p r = true) : ((l.filter p).map f).head? = some (f r) := by
  have e : l.filter p = (l.drop i).filter p := by
    conv => lhs; rw [← List.take_append_drop i l]
    rw [List.filter_append, h0, List.nil_append]
  rw [e, drop_row h, List.filter_cons_of_pos hp]
  rfl
theorem take_filter {α : Type} {p : α → Bool} {l : List α} {i : Nat} {r : α} (h0 : (l.take i).filter p = []) (h : l[i]? = some r) (hp : p r = false) : (l.take (i + 1)).filter p = [] := by
  rw [show l.take (i + 1) = l.take i ++ [r] by rw [List.take_succ, h]; rfl, filter_snoc, h0, if_neg (by rw [hp]; exact Bool.false_ne_true)]
  rfl
theorem TellsA.mono {N : Addr → Prop} {S : Addr → Addr → Prop} {H H1 : Hp} {v : V} {F S2 : List Row} (h : TellsA N S H v F S2) (f : Fr Non H H1) : TellsA N S H1 v F S2 := by
  rcases h with ⟨t, x, d, h1, h2, h3, h4, h5⟩ | ⟨t, p, ts, ks, h1, h2, h3, h4, h5, h6, h7, h8⟩
  · exact .inl ⟨t, x, d, h1, f.tup _ _ h2, h3.mono f, h4, h5⟩
  · exact .inr ⟨t, p, ts, ks, h1, f.tup _ _ h2, h3, h4, h5, h6, f.keep _ _ h7 id, RowsA.mono h8 f.non⟩
theorem Fr.marks {H H1 H2 : Hp} {p : Addr} (a : Fr Non H H1) (n : Fresh H p) (b : Fr (fun b => ¬ OldP H p b ∨ b = p) H1 H2) : Fr Non H H2 := a.sub' b fun c hc => by
  rcases hc with hc | hc
  · cases e : H c with
    | none => exact .inr e
    | some o => exact absurd (.inl ⟨o, e⟩) hc
  · subst hc; exact .inr n
theorem swap_ok {r : Row} (h : okS r) : okS (swapR r) := ⟨h.1, h.2.2.1, h.2.1, h.2.2.2.2, h.2.2.2.1⟩
theorem okS_len {rs : List Row} (h : ∀ r ∈ rs, okS r) : ∀ r ∈ rs, r.2.1.length ≤ 1 ∧ r.2.2.length ≤ 1 := fun r hr => (h r hr).2.2.2
end Tw

namespace Tw
open PySem L2
def top (i : Nat) : Stmt := PySem.Challenge.pw_twigmap_k65_behind_and_turned.main.body.getD i (.Pass ⟨0, 0, 0, 0⟩)
abbrev s_law_pull : Stmt := top 14
abbrev s_law_text : Stmt := top 16
abbrev s_law_great : Stmt := top 15
abbrev s_law_key : Stmt := top 17
abbrev s_law_rank : Stmt := top 18
abbrev s_law_keys : Stmt := top 19
abbrev s_law_value : Stmt := top 22
abbrev s_law_alike : Stmt := top 20
abbrev s_law_rows_alike : Stmt := top 21
abbrev s_law_side : Stmt := top 24
abbrev s_law_patches : Stmt := top 25
abbrev s_law_well : Stmt := top 13
abbrev s_law_due : Stmt := top 26
abbrev s_law_copy : Stmt := top 28
abbrev s_rank : Stmt := top 7
abbrev s_order : Stmt := top 8
abbrev s_Stale___init__ : Stmt := inClass (top 5) 0
abbrev s_behind : Stmt := top 11
abbrev s_law_told : Stmt := top 27
abbrev s_turned : Stmt := top 10
abbrev s_law_marked : Stmt := top 29
abbrev s_law_patch_alike : Stmt := top 23
abbrev s_law_asked : Stmt := top 30
abbrev s_law : Stmt := top 31
structure TX (K : PySem.W.Frag) (mg : Str → Option Value) : Prop where
  d_law_pull : DefX K mg "_law_pull" ["_law_well_here", "_law_many"] s_law_pull
  d_law_text : DefX K mg "_law_text" ["_law_well_here"] s_law_text
  d_law_great : DefX K mg "_law_great" ["_law_well_here", "_law_bound"] s_law_great
  d_law_key : DefX K mg "_law_key" ["_law_well_here", "_law_room"] s_law_key
  d_law_rank : DefX K mg "_law_rank" ["_law_spot"] s_law_rank
  d_law_keys : DefX K mg "_law_keys" ["_law_well_here", "_law_many"] s_law_keys
  d_law_value : DefX K mg "_law_value" ["_law_well_here"] s_law_value
  d_law_alike : DefX K mg "_law_alike" ["_law_found", "_law_due_here"] s_law_alike
  d_law_rows_alike : DefX K mg "_law_rows_alike" ["_law_found", "_law_due_here"] s_law_rows_alike
  d_law_side : DefX K mg "_law_side" ["_law_well_here", "_law_other"] s_law_side
  d_law_patches : DefX K mg "_law_patches" ["_law_well_here"] s_law_patches
  d_law_well : DefX K mg "_law_well" ["_law_script", "_law_k"] s_law_well
  d_law_due : DefX K mg "_law_due" ["_law_first", "_law_second"] s_law_due
  d_law_copy : DefX K mg "_law_copy" ["_law_rows"] s_law_copy
  d_rank : DefX K mg "rank" ["key"] s_rank
  d_order : DefX K mg "order" ["keys"] s_order
  d_Stale___init__ : DefM K mg "Stale" "Stale.__init__" ["self", "key"] s_Stale___init__
  o_Stale : OwnTX K mg "Stale" "key"
  d_behind : DefX K mg "behind" ["first", "second"] s_behind
  d_law_told : DefX K mg "_law_told" ["_law_first", "_law_second"] s_law_told
  d_turned : DefX K mg "turned" ["patch"] s_turned
  d_law_marked : DefX K mg "_law_marked" ["_law_rows"] s_law_marked
  d_law_patch_alike : DefX K mg "_law_patch_alike" ["_law_found", "_law_due_here"] s_law_patch_alike
  d_law_asked : DefX K mg "_law_asked" ["_law_first", "_law_second"] s_law_asked
  d_law : DefX K mg "law" ["_law_script"] s_law
  bs_TwigError : BaseTX K (clA mg "TwigError")
  b_ValueError : mg "ValueError" = none
  b_abs : mg "abs" = none
  b_all : mg "all" = none
  b_bool : mg "bool" = none
  b_int : mg "int" = none
  b_isinstance : mg "isinstance" = none
  b_len : mg "len" = none
  b_list : mg "list" = none
  b_max : mg "max" = none
  b_min : mg "min" = none
  b_range : mg "range" = none
  b_sorted : mg "sorted" = none
  b_str : mg "str" = none
  b_tuple : mg "tuple" = none
  x_NoKey : ClsTX K mg "NoKey"
  x_NotRising : ClsTX K mg "NotRising"
  x_Overlap : ClsTX K mg "Overlap"
  x_Stale : ClsTX K mg "Stale"
  x_TwigError : ClsTX K mg "TwigError"
  em_Stale : PySem.W.exmOne K (.ref (clA mg "Stale")) (.ref (clA mg "TwigError")) = some true
  xc_Stale : excCB K (clA mg "Stale") = true
  cl_Stale : (PySem.W.clsIn K (clA mg "Stale")).isSome = true
  ki_Stale : PySem.W.kitOne K (.ref (clA mg "Stale")) (.ref (clA mg "Stale")) = some true
  ki_Stale_VE : PySem.W.kitOne K (.ref (clA mg "Stale")) (.type "ValueError") = some true
  ka_Stale_3 : PySem.W.kitAny K (.ref (clA mg "Stale")) [.ref (clA mg "NoKey"), .ref (clA mg "NotRising"), .ref (clA mg "Overlap")] = some false
local macro_rules | `(tactic| walk_at "nn") => `(tactic| first
  | assumption
  | exact upd_back (by assumption)
  | exact upd_back (upd_back (by assumption))
  | exact upd_back (upd_back (upd_back (by assumption)))
  | exact upd_back (upd_back (upd_back (upd_back (by assumption))))
  | exact upd_back (upd_back (upd_back (upd_back (upd_back (by assumption)))))
  | exact upd_back (upd_back (upd_back (upd_back (upd_back (upd_back (by assumption))))))
  | exact upd_back (upd_back (upd_back (upd_back (upd_back (upd_back (upd_back (by assumption)))))))
  | exact upd_back (upd_back (upd_back (upd_back (upd_back (upd_back (upd_back (upd_back (by assumption))))))))
  | exact upd_back (upd_back (upd_back (upd_back (upd_back (upd_back (upd_back (upd_back (upd_back (by assumption)))))))))
  | exact upd_back (upd_back (upd_back (upd_back (upd_back (upd_back (upd_back (upd_back (upd_back (upd_back (by assumption))))))))))
  | exact Fr.free (by assumption) (by walk_at "nn")
  | exact upd_back (Fr.free (by assumption) (by walk_at "nn"))
  | exact upd_back (upd_back (Fr.free (by assumption) (by walk_at "nn")))
  | exact upd_back (upd_back (upd_back (Fr.free (by assumption) (by walk_at "nn"))))
  | exact upd_back (upd_back (upd_back (upd_back (Fr.free (by assumption) (by walk_at "nn")))))
  | exact upd_back (upd_back (upd_back (upd_back (upd_back (Fr.free (by assumption) (by walk_at "nn"))))))
  | exact upd_back (upd_back (upd_back (upd_back (upd_back (upd_back (Fr.free (by assumption) (by walk_at "nn")))))))
  | fail "no way")
local macro_rules | `(tactic| walk_at "ne1") => `(tactic| first
  | assumption
  | exact Ne.symm (by assumption)
  | fail "no way")
local macro_rules | `(tactic| walk_at "ne") => `(tactic| first
  | walk_at "ne1"
  | (refine ne_fr (H := ?H) (o := ?o) ?h1 ?h2; (case h2 => assumption); (case h1 => walk_at "hp"))
  | (refine ne_fr (H := ?H) (o := .tup ?xs) ?h1 ?h2; (case h2 => assumption); (case h1 => walk_at "hp"))
  | (refine Ne.symm (ne_fr (H := ?H) (o := ?o) ?h1 ?h2); (case h2 => assumption); (case h1 => walk_at "hp"))
  | (refine Ne.symm (ne_fr (H := ?H) (o := .tup ?xs) ?h1 ?h2); (case h2 => assumption); (case h1 => walk_at "hp"))
  | (refine Well.ne (H := ?H) ?h1 ?h2; (case h2 => assumption); (case h1 => walk_at "we"))
  | (refine Ne.symm (Well.ne (H := ?H) ?h1 ?h2); (case h2 => assumption); (case h1 => walk_at "we"))
  | (refine ne_of (by assumption) (by assumption) ?_; (intro z; cases z; done))
  | fail "no way")
local macro_rules | `(tactic| walk_at "we") => `(tactic| first
  | assumption
  | (refine Well.fr (S := Non) ?h1 (Fr.new (Fr.refl _) ?h2) id; (case h2 => assumption); (case h1 => walk_at "we"))
  | (refine Well.fr (S := One _) ?h1 (Fr.mut (u := ?u) (Fr.refl _) ?h2 ?h3 (.inl rfl)) ?h4; (case h1 => walk_at "we"); (case h2 => walk_at "hp"); (case h3 => rfl); (case h4 => walk_at "ns"))
  | (refine Well.fr (S := ?S) (H := ?H) ?h1 ?f ?h2; (case f => assumption); (case h1 => walk_at "we"); (case h2 => walk_at "ns"))
  | fail "no way")
local macro_rules | `(tactic| walk_at "ns") => `(tactic| first
  | exact id
  | assumption
  | ((with_reducible refine not_One ?_); walk_at "ne")
  | fail "no way")
local macro_rules | `(tactic| walk_at "hp") => `(tactic| first
  | assumption
  | exact upd_same
  | ((with_reducible refine Eq.trans (upd_ne ?h1) ?h2); (case h1 => walk_at "ne"); (case h2 => walk_at "hp"))
  | (refine Fr.tup (S := ?S) (H := ?H0) ?f _ _ ?h1; (case f => assumption); (case h1 => walk_at "hp"))
  | (refine Fr.keep (S := ?S) (H := ?H0) ?f _ _ ?h1 ?h2; (case f => assumption); (case h1 => walk_at "hp"); (case h2 => walk_at "ns"))
  | fail "no way")
local macro_rules | `(tactic| walk_at "sq") => `(tactic| first
  | assumption
  | exact SqL.of (by walk_at "hp")
  | exact SqT.of (by walk_at "hp")
  | exact .inl (SqL.of (by walk_at "hp"))
  | exact .inr (SqT.of (by walk_at "hp"))
  | exact .inl (by assumption)
  | exact .inr (by assumption)
  | (refine SqL_upd ?_ (by assumption); walk_at "sq")
  | (refine .inl (SqL_upd ?_ (by assumption)); walk_at "sq")
  | (refine SqL_fr ?_ (by assumption) (by walk_at "ns"); walk_at "sq")
  | (refine .inl (SqL_fr ?_ (by assumption) (by walk_at "ns")); walk_at "sq")
  | fail "no way")
local macro_rules | `(tactic| walk_at "tg") => `(tactic| first
  | assumption
  | exact TgS.non
  | exact TgS.bl _
  | exact TgS.int _
  | exact TgS.str _
  | exact TgAllS.nil
  | (refine TgS.tup (by walk_at "hp") ?_; walk_at "tg")
  | (refine TgS.lst (by walk_at "hp") (by walk_at "ns"))
  | (refine TgS.dct (by walk_at "hp") (by walk_at "ns"))
  | (refine TgAllS.cons ?_ ?_ <;> walk_at "tg")
  | (refine TgS.new ?_ (by assumption); walk_at "tg")
  | (refine TgAllS.new ?_ (by assumption); walk_at "tg")
  | fail "no way")
local macro_rules | `(tactic| walk_at "dt") => `(tactic| first
  | assumption
  | exact Dt.int _
  | exact Dt.str _
  | exact DtAll.nil
  | (refine Dt.tup (by walk_at "hp") ?_; walk_at "dt")
  | (refine DtAll.cons ?_ ?_ <;> walk_at "dt")
  | (refine Dt.upd ?_ (by assumption); walk_at "dt")
  | (refine DtAll.upd ?_ (by assumption); walk_at "dt")
  | (refine Dt.updm (u := ?u) ?_ ?h1 ?h2; (case h1 => walk_at "hp"); (case h2 => rfl); walk_at "dt")
  | (refine DtAll.updm (u := ?u) ?_ ?h1 ?h2; (case h1 => walk_at "hp"); (case h2 => rfl); walk_at "dt")
  | (refine Dt.mono ?_ (by assumption); walk_at "dt")
  | (refine DtAll.mono ?_ (by assumption); walk_at "dt")
  | fail "no way")
local macro_rules | `(tactic| walk_at "mu") => `(tactic| first
  | exact Or.inl rfl
  | exact Or.inl trivial
  | exact Or.inr (by walk_at "nn")
  | exact Or.inl (by assumption)
  | fail "no way")
local macro_rules | `(tactic| walk_at "fr") => `(tactic| first
  | assumption
  | exact Fr.refl _
  | ((with_reducible refine Fr.new ?_ ?h1); (case h1 => assumption); walk_at "fr")
  | ((with_reducible refine Fr.mut (u := ?u) ?_ ?h1 ?h2 ?h3); (case h1 => walk_at "hp"); (case h2 => rfl); (case h3 => walk_at "mu"); walk_at "fr")
  | ((with_reducible refine Fr.sub' (H1 := ?H1) (T := ?T) ?_ ?h1 ?h2); (case h1 => assumption); (case h2 => walk_at "su"); walk_at "fr")
  | fail "no way")
local macro_rules | `(tactic| walk_at "su") => `(tactic| first
  | exact fun _ h => h.elim
  | exact fun _ h => .inl h
  | (intro b h; subst h; walk_at "mu")
  | fail "no way")
local macro_rules | `(tactic| walk_at "ix") => `(tactic| first
  | rfl
  | assumption
  | exact ix2i _ _ _
  | exact atI0 _ _
  | fail "no way")
local macro_rules | `(tactic| walk_at "sz") => `(tactic| first
  | (show _ ≤ 1000; decide)
  | assumption
  | (simp only [List.length_cons, List.length_nil, List.length_append, List.length_map, List.length_set, List.length_replicate]; omega)
  | omega
  | fail "no way")
local macro_rules | `(tactic| walk_at "zs") => `(tactic| first
  | assumption
  | (show _ ≤ 16777216; omega)
  | decide
  | fail "no way")
local macro_rules | `(tactic| walk_at "za") => `(tactic| first
  | assumption
  | (show _ ≤ 16777216; omega)
  | (refine Nat.le_trans (Nat.add_le_add_left (Nat.le_of_eq (str_one _)) _) ?_; show _ ≤ 16777216; omega)
  | (refine Nat.le_trans (Nat.add_le_add_right (Nat.le_of_eq (str_one _)) _) ?_; show _ ≤ 16777216; omega)
  | fail "no way")
local macro_rules | `(tactic| walk_at "ty") => `(tactic| first
  | exact .base (.int _)
  | exact .base (.bl _)
  | exact .base (.str _)
  | exact .base .non
  | exact .base (.tup (by walk_at "hp"))
  | exact .base (.lst (by walk_at "hp"))
  | fail "no way")
local macro_rules | `(tactic| walk_at "kit") => `(tactic| first
  | exact kit_int_int | exact kit_int_bool | exact kit_int_str | exact kit_int_tuple | exact kit_int_list
  | exact kit_bool_int | exact kit_bool_bool | exact kit_bool_str | exact kit_bool_tuple | exact kit_bool_list
  | exact kit_str_int | exact kit_str_bool | exact kit_str_str | exact kit_str_tuple | exact kit_str_list
  | exact kit_tuple_int | exact kit_tuple_bool | exact kit_tuple_str | exact kit_tuple_tuple | exact kit_tuple_list
  | exact kit_list_int | exact kit_list_bool | exact kit_list_str | exact kit_list_tuple | exact kit_list_list
  | exact kit_NoneType_int | exact kit_NoneType_bool | exact kit_NoneType_str | exact kit_NoneType_tuple | exact kit_NoneType_list
  | exact kit_dict_int | exact kit_dict_bool | exact kit_dict_str | exact kit_dict_tuple | exact kit_dict_list | exact kit_dict_dict
  | exact kit_int_dict | exact kit_bool_dict | exact kit_str_dict | exact kit_tuple_dict | exact kit_list_dict | exact kit_NoneType_dict
  | fail "no way")
local macro_rules | `(tactic| walk_at "mul") => `(tactic| first
  | exact .inr ⟨by decide, by decide⟩
  | exact .inl ⟨by decide, by decide⟩
  | (refine .inl ⟨?_, ?_⟩ <;> omega)
  | (refine .inr ⟨?_, ?_⟩ <;> omega)
  | (refine .inr ⟨?_, ?_⟩ <;> split <;> decide)
  | fail "no way")
local macro_rules | `(tactic| walk_at "rd1") => `(tactic| first
  | with_reducible refine x_seq ?_
  | with_reducible refine x_asg ?_
  | ((with_reducible refine x_var (v := ?v) ?h1 ?_); (case h1 => rfl))
  | with_reducible refine x_c ?_
  | with_reducible refine x_gname ?_
  | with_reducible refine x_op ?_
  | with_reducible refine x_if ?_
  | with_reducible refine x_test ?_
  | with_reducible refine x_bl ?_
  | with_reducible refine x_ret ?_
  | with_reducible refine x_next ?_
  | with_reducible refine x_cons ?_
  | with_reducible refine x_nil ?_
  | with_reducible refine x_cal ?_
  | with_reducible refine x_cb ?_
  | with_reducible refine x_sp1 ?_
  | with_reducible refine x_sp2 ?_
  | with_reducible refine x_sp3 ?_
  | with_reducible refine x_sp4 ?_
  | ((with_reducible refine x_ixL (xs := ?xs) (v := ?v) ?h1 ?h2 ?_); (case h1 => walk_at "sq"); (case h2 => walk_at "ix"))
  | ((with_reducible refine x_ixS (c := ?c) ?h1 ?h2 ?_); (case h1 => walk_at "zs"); (case h2 => walk_at "ix"))
  | ((with_reducible refine x_addS ?h1 ?_); (case h1 => walk_at "za"))
  | ((with_reducible refine x_ixT (xs := ?xs) (v := ?v) ?h1 ?h2 ?_); (case h1 => walk_at "sq"); (case h2 => walk_at "ix"))
  | with_reducible refine x_eqI ?_
  | with_reducible refine x_neI ?_
  | with_reducible refine x_add ?_
  | with_reducible refine x_sub ?_
  | with_reducible refine x_lt ?_
  | with_reducible refine x_le ?_
  | with_reducible refine x_gt ?_
  | with_reducible refine x_ge ?_
  | ((with_reducible refine x_mul ?h1 ?_); (case h1 => walk_at "mul"))
  | ((with_reducible refine x_pow ?h1 ?_); (case h1 => exact ⟨by decide, by decide, by decide⟩))
  | ((with_reducible refine x_mod ?h1 ?_); (case h1 => first | decide | assumption | omega | fail "no way"))
  | ((with_reducible refine x_div ?h1 ?_); (case h1 => exact ⟨by omega, by omega⟩))
  | ((with_reducible refine x_divW ?h1 ?_); (case h1 => first | assumption | exact ⟨by decide, by decide⟩ | exact ⟨by assumption, by assumption⟩ | fail "no way"))
  | with_reducible refine x_neg ?_
  | with_reducible refine x_un ?_
  | with_reducible refine x_isN ?_
  | with_reducible refine x_notN ?_
  | with_reducible refine x_not ?_
  | with_reducible refine x_and ?_
  | with_reducible refine x_or ?_
  | with_reducible refine x_andV ?_
  | with_reducible refine x_orV ?_
  | with_reducible refine x_notV ?_
  | with_reducible refine x_tB ?_
  | with_reducible refine x_iteF ?_
  | with_reducible refine x_iteT ?_
  | with_reducible refine x_ife ?_
  | with_reducible refine x_drop ?_
  | with_reducible refine x_retN ?_
  | with_reducible refine x_gsub ?_
  | ((with_reducible refine x_setL (xs := ?xs) (n := ?n) ?h1 ?h2 ?_); (case h1 => walk_at "hp"); (case h2 => walk_at "ix"))
  | ((with_reducible refine x_gtup (xs := ?xs) ?h1 ?h2 ?_); (case h1 => walk_at "sq"); (case h2 => rfl))
  | with_reducible refine x_gcons ?_
  | with_reducible refine x_gnil ?_
  | with_reducible refine x_tup ?_
  | with_reducible refine x_lst ?_
  | ((with_reducible refine x_sz ?h1 ?_); (case h1 => walk_at "sz"))
  | ((with_reducible refine x_len (xs := ?xs) ?h1 ?_); (case h1 => walk_at "sq"))
  | ((with_reducible refine x_cat (xs := ?xs) (zs := ?zs) ?h1 ?h2 ?h3 ?_); (case h1 => walk_at "hp"); (case h2 => walk_at "hp"); (case h3 => walk_at "sz"))
  | with_reducible refine x_abs ?_
  | with_reducible refine x_max2 ?_
  | with_reducible refine x_min2 ?_
  | with_reducible refine x_intI ?_
  | with_reducible refine x_intB ?_
  | ((with_reducible refine x_isiI (r := ?r) ?h2 ?_); (case h2 => walk_at "kit"))
  | ((with_reducible refine x_isiB (r := ?r) ?h2 ?_); (case h2 => walk_at "kit"))
  | ((with_reducible refine x_isiS (r := ?r) ?h2 ?_); (case h2 => walk_at "kit"))
  | ((with_reducible refine x_isiN (r := ?r) ?h2 ?_); (case h2 => walk_at "kit"))
  | ((with_reducible refine x_isiT (xs := ?xs) (r := ?r) ?h1 ?h2 ?_); (case h1 => walk_at "hp"); (case h2 => walk_at "kit"))
  | ((with_reducible refine x_isiL (xs := ?xs) (r := ?r) ?h1 ?h2 ?_); (case h1 => walk_at "hp"); (case h2 => walk_at "kit"))
  | ((with_reducible refine x_isiD (xs := ?xs) (r := ?r) ?h1 ?h2 ?_); (case h1 => walk_at "hp"); (case h2 => walk_at "kit"))
  | ((with_reducible refine x_listOf (xs := ?xs) ?h1 ?_); (case h1 => walk_at "sq"))
  | ((with_reducible refine x_tupL (xs := ?xs) ?h1 ?_); (case h1 => walk_at "sq"))
  | with_reducible refine x_eqS ?_
  | with_reducible refine x_neS ?_
  | with_reducible refine x_eqB ?_
  | with_reducible refine x_neB ?_
  | with_reducible refine x_ltS ?_
  | with_reducible refine x_leS ?_
  | with_reducible refine x_rng1 ?_
  | with_reducible refine x_rng2 ?_
  | ((with_reducible refine x_rng1' ?h1 ?_); (case h1 => first | exact ⟨by decide, by decide⟩ | assumption | (constructor <;> omega) | fail "no way"))
  | with_reducible refine x_for ?_
  | with_reducible refine x_lc ?_
  | with_reducible refine x_lct ?_
  | ((with_reducible refine x_wip ?h1 ?_); (case h1 => rfl))
  | with_reducible refine x_tyes ?_
  | ((with_reducible refine x_acc (acc := ?acc) ?h1 ?h2 ?_); (case h1 => walk_at "hp"); (case h2 => walk_at "sz"))
  | with_reducible refine x_iList ?_
  | with_reducible refine x_iTup ?_
  | with_reducible refine x_sl ?_
  | with_reducible refine x_noP ?_
  | with_reducible refine x_part ?_
  | with_reducible refine x_int ?_
  | ((with_reducible refine x_slL (xs := ?xs) ?h1 ?_); (case h1 => walk_at "sq"))
  | with_reducible refine x_bm ?_
  | with_reducible refine x_bm0 ?_
  | with_reducible refine x_chain ?_
  | with_reducible refine x_revL ?_
  | with_reducible refine x_repl ?_
  | ((with_reducible refine x_aug (x := ?v) ?h1 ?_); (case h1 => rfl))
  | with_reducible refine x_ipA ?_
  | with_reducible refine x_ipS ?_
  | with_reducible refine x_inZ ?_
  | with_reducible refine x_dnew ?_
  | ((with_reducible refine x_slZ ?h1 ?_); (case h1 => walk_at "zs"))
  | with_reducible refine x_gtS ?_
  | with_reducible refine x_geS ?_
  | with_reducible refine x_tryAs ?_
  | with_reducible refine x_calS ?_
  | with_reducible refine x_raise0 ?_
  | with_reducible refine x_mkV ?_
  | with_reducible refine x_raiseI ?_
  | with_reducible refine x_iStr ?_
  | with_reducible refine x_isStr ?_
  | with_reducible refine x_isB ?_
  | with_reducible refine x_notB ?_
  | with_reducible refine x_ckw ?_
  | ((with_reducible refine x_insert (xs := ?xs) ?h1 ?h2 ?h3 ?_); (case h1 => walk_at "hp"); (case h2 => walk_at "sz"); (case h3 => first | assumption | (constructor <;> omega) | fail "no way"))
  | ((with_reducible refine x_tyL (xs := ?xs) ?h1 ?_); (case h1 => walk_at "sq"))
  | with_reducible refine x_tyS ?_
  | ((with_reducible refine x_tyD (kvs := ?xs) ?h1 ?_); (case h1 => walk_at "hp"))
  | ((with_reducible refine x_append (xs := ?xs) ?h1 ?h2 ?_); (case h1 => walk_at "hp"); (case h2 => walk_at "sz"))
  | ((with_reducible refine x_lenAs (xs := ?xs) ?h1 ?_); (case h1 => walk_at "sq"))
  | ((with_reducible refine x_lenAz ?h1 ?_); (case h1 => walk_at "zs"))
  | ((with_reducible refine x_lenZ ?h1 ?_); (case h1 => walk_at "zs"))
  | ((with_reducible refine x_addTz ?h1 ?_); (case h1 => walk_at "za"))
  | ((with_reducible refine x_slXz ?h1 ?_); (case h1 => walk_at "zs"))
  | ((with_reducible refine x_ixAt (xs := ?xs) (v := ?v) ?h1 ?h2 ?_); (case h1 => walk_at "sq"); (case h2 => walk_at "ix"))
  | ((with_reducible refine x_ixAl (xs := ?xs) (v := ?v) ?h1 ?h2 ?_); (case h1 => walk_at "sq"); (case h2 => walk_at "ix"))
  | ((with_reducible refine x_ixAz (c := ?c) ?h1 ?h2 ?_); (case h1 => walk_at "zs"); (case h2 => walk_at "ix"))
  | with_reducible refine x_dget ?_
  | with_reducible refine x_brk ?_
  | with_reducible refine x_cont ?_
  | ((with_reducible refine x_yes ?h1 ?_); (case h1 => decide))
  | ((with_reducible refine x_no ?h1 ?_); (case h1 => decide))
  | fail "no way")
local macro_rules | `(tactic| walk_at "rd") => `(tactic| first | (walk_at "rd1"; walk_at "rd") | skip)
-- the def top 14
theorem sc_law_pull : FnScope ["_law_well_here", "_law_many", "_law_first", "_law_second", "_law_found"] ["_law_well_here", "_law_many"] (defScope s_law_pull) := ⟨rfl, rfl, rfl, by decide +kernel, rfl, by decide +kernel, by decide +kernel⟩
/-- a number below m; only the well changes -/
def B_law_pull : BK2 := fun wl mm H Q _ => ∃ (a : Addr) (m : Int), wl = .ref a ∧ mm = .int m ∧ 0 < m ∧ m.natAbs.log2 < 9000 ∧ Well H a ∧
  ∀ r H', Fr (One a) H H' → Well H' a → 0 ≤ r → r < m → Q (.int r) H'
section
variable {P : Program} {w : World} {K : PySem.W.Frag} {mg : Str → Option Value} {base : Heap}
theorem ok_law_pull (T : TX K mg) : CalX P w K mg base 1 "_law_pull" ["_law_well_here", "_law_many"] (Sp2 (B_law_pull)) := by
  obtain ⟨f, fd, F, hm, bd⟩ := T.d_law_pull.ex
  refine ⟨f, fd, F.okX sc_law_pull len2 (fun cdv A outer s H vs Q E hr h => ?_), hm, F.kp, bd⟩
  obtain ⟨wl, mm, rfl, h⟩ := h
  refine ⟨_, (pss_cons (ps_if (pt_cmpR op_eq (pe_ix ix_list (pv 0) pe_int (fun _ _ => rfl)) pe_int (nomark _)) (pss_one (ps_ret pe_int)) pss_nil) (pss_cons (ps_asg (pe_op op_sub (pe_ix ix_list (pv 0) pe_int (fun _ _ => rfl)) pe_int) (pg_sub (pv 0) pe_int set_list)) (pss_cons (ps_if (pt_cmpR op_gt (pe_ix ix_list (pv 0) pe_int (fun _ _ => rfl)) pe_int (nomark _)) (pss_cons (ps_set (i := 4) sc_law_pull.nd rfl (Or.inl rfl) (pe_op op_mod (pe_ix ix_list (pv 0) pe_int (fun _ _ => rfl)) (pv 1))) (pss_cons (ps_asg (pe_op op_fdivW (pe_ix ix_list (pv 0) pe_int (fun _ _ => rfl)) (pv 1)) (pg_sub (pv 0) pe_int set_list)) (pss_one (ps_ret (pv 4))))) pss_nil) (pss_cons (ps_asg (pe_op op_add (pe_ix ix_list (pv 0) pe_int (fun _ _ => rfl)) pe_int) (pg_sub (pv 0) pe_int set_list)) (pss_cons (ps_set (i := 2) sc_law_pull.nd rfl (Or.inl rfl) (pe_op op_mod (pe_op op_mul (pe_op op_add (pe_ix ix_list (pv 0) pe_int (fun _ _ => rfl)) pe_int) (pe_op op_add pe_int (pe_op op_mul pe_int (pe_ix ix_list (pv 0) pe_int (fun _ _ => rfl))))) pe_int)) (pss_cons (ps_set (i := 3) sc_law_pull.nd rfl (Or.inl rfl) (pe_op op_mod (pe_op op_mul (pe_op op_add (pe_op op_fdivW (pv 2) pe_int) pe_int) (pe_op op_add (pe_op op_mod (pv 2) pe_int) pe_int)) pe_int)) (pss_one (ps_ret (pe_op op_mod (pe_op op_fdivW (pv 3) pe_int) (pv 1)))))))))), ?_⟩
  show (_ : TS) _ [some wl, some mm, none, none, none] H
  first | dsimp only [L2.cxOf] | skip
  obtain ⟨a, m, rfl, rfl, hm0, hml, ⟨c, n, g, l, hL, hc0, hc1⟩, q⟩ := h
  walk_at "rd"
  refine x_dec (fun _ => ?_) (fun _ => ?_)
  · walk_at "rd"
    exact q _ _ (Fr.refl _) ⟨c, n, g, l, hL, hc0, hc1⟩ (by omega) hm0
  · walk_at "rd"
    refine x_dec (fun _ => ?_) (fun _ => ?_)
    · walk_at "rd"
      exact q _ _ (by walk_at "fr") ⟨_, _, _, _, upd_same, hc0, hc1⟩ (Int.emod_nonneg _ (by omega)) (Int.emod_lt_of_pos _ hm0)
    · walk_at "rd"
      exact q _ _ (by walk_at "fr") ⟨_, _, _, _, upd_same, hc0, hc1⟩ (Int.emod_nonneg _ (by omega)) (Int.emod_lt_of_pos _ hm0)
end

-- the def top 16
theorem sc_law_text : FnScope ["_law_well_here", "_law_signs", "_law_text_here", "_law_few", "_law_j", "_law_sign"] ["_law_well_here"] (defScope s_law_text) := ⟨rfl, rfl, rfl, by decide +kernel, rfl, by decide +kernel, by decide +kernel⟩
def B_law_text : BK1 := fun wl H Q _ => ∃ (a : Addr), wl = .ref a ∧ Well H a ∧
  ∀ z H', Fr (One a) H H' → Well H' a → txtOk z → Q (.str z) H'
section
variable {P : Program} {w : World} {K : PySem.W.Frag} {mg : Str → Option Value} {base : Heap}
theorem ok_law_text (T : TX K mg) : CalX P w K mg base 2 "_law_text" ["_law_well_here"] (Sp1 (B_law_text)) := by
  have C_law_pull := ok_law_pull (P := P) (w := w) (base := base) T
  obtain ⟨f, fd, F, hm, bd⟩ := T.d_law_text.ex
  refine ⟨f, fd, F.okX sc_law_text len1 (fun cdv A outer s H vs Q E hr h => ?_), hm, F.kp, bd⟩
  obtain ⟨wl, rfl, h⟩ := h
  refine ⟨_, (pss_cons (ps_set (i := 1) sc_law_text.nd rfl (Or.inl rfl) pe_str) (pss_cons (ps_set (i := 2) sc_law_text.nd rfl (Or.inl rfl) pe_str) (pss_cons (ps_set (i := 3) sc_law_text.nd rfl (Or.inl rfl) (pcall C_law_pull hr (by first | decide | omega) rfl Passes.none (pa_cons (pv 0) (pa_cons pe_int pa_nil)))) (pss_cons (ps_for (passes_of rfl) rfl (pi_range1 rfl T.b_range (pa_cons (pcall C_law_pull hr (by first | decide | omega) rfl Passes.none (pa_cons (pv 0) (pa_cons (pe_ix ix_list (pe_lst (pa_cons pe_int (pa_cons pe_int pa_nil))) (pcall C_law_pull hr (by first | decide | omega) rfl Passes.none (pa_cons (pv 0) (pa_cons pe_int pa_nil))) (fun _ _ => rfl)) pa_nil))) pa_nil)) (pg_name (i := 4) sc_law_text.nd rfl (Or.inl rfl)) (pss_cons (ps_set (i := 5) sc_law_text.nd rfl (Or.inl rfl) pe_str) (pss_cons (ps_if (PW.pt (pw_or (pt_cmpR op_gt (pv 3) pe_int (nomark _)) (pw_or1 (pt_cmpR op_eq (pcall C_law_pull hr (by first | decide | omega) rfl Passes.none (pa_cons (pv 0) (pa_cons pe_int pa_nil))) pe_int (nomark _))))) (pss_one (ps_set (i := 5) sc_law_text.nd rfl (Or.inl rfl) (pe_ix ix_str (pv 1) (pcall C_law_pull hr (by first | decide | omega) rfl Passes.none (pa_cons (pv 0) (pa_cons (pe_ix ix_list (pe_lst (pa_cons pe_int (pa_cons pe_int pa_nil))) (pe_op op_fdivW (pv 3) pe_int) (fun _ _ => rfl)) pa_nil))) (fun _ _ => rfl)))) pss_nil) (pss_one (ps_set (i := 2) sc_law_text.nd rfl (Or.inl rfl) (pe_op o_addS (pv 2) (pv 5))))))) (pss_one (ps_ret (pv 2))))))), ?_⟩
  show (_ : TS) _ [some wl, none, none, none, none, none] H
  first | dsimp only [L2.cxOf] | skip
  obtain ⟨a, rfl, W, q⟩ := h
  have hsl : (strIn s_law_text).length = 94 := by decide +kernel
  have hsc : ∀ c ∈ (strIn s_law_text).cps.toList, 32 ≤ c ∧ c ≤ 126 := by decide +kernel
  have hix : ∀ r : Int, 0 ≤ r → r < 94 → ∃ c, atI (strIn s_law_text).cps.toList r = some c ∧ (32 ≤ c ∧ c ≤ 126) := fun r h0 h1 => by
    obtain ⟨c, e1, e2⟩ := atI_ex (xs := (strIn s_law_text).cps.toList) h0 (by rw [← str_len, hsl]; exact h1)
    exact ⟨c, e1, hsc c (List.mem_of_getElem? e2)⟩
  have hsz : (strIn s_law_text).length ≤ sizeLine := by rw [hsl]; decide
  have hpick : ∀ (x y r : Int), 0 ≤ r → r < 2 → ∃ z, atI [V.int x, V.int y] r = some (V.int z) ∧ (z = x ∨ z = y) := fun x y r h0 h1 => by
    obtain rfl | rfl : r = 0 ∨ r = 1 := by omega
    · exact ⟨x, rfl, .inl rfl⟩
    · exact ⟨y, rfl, .inr rfl⟩
  walk_at "rd"
  refine ⟨a, _, rfl, rfl, by decide, by decide +kernel, W, fun pl H1 f1 w1 p0 p1 => ?_⟩
  walk_at "rd"
  intro l1 n1
  walk_at "rd"
  refine ⟨a, _, rfl, rfl, by decide, by decide +kernel, w1.fr (Fr.new (S := Non) (Fr.refl _) n1) id, fun r2 H2 f2 w2 r20 r21 => ?_⟩
  obtain ⟨m, hm1, hm2⟩ := hpick 4 41 r2 r20 r21
  walk_at "rd"
  refine ⟨a, _, rfl, rfl, by omega, (PullOk.small (by omega) (by omega)).2, w2, fun r3 H3 f3 w3 r30 r31 => ?_⟩
  walk_at "rd"
  refine x_forR (n := r3.toNat) (fun i σ H' => ∃ (z : Str) (v u : Option V), σ = [some (.ref a), some (.str (strIn s_law_text)), some (.str z), some (.int pl), v, u] ∧ Fr (One a) H H' ∧ Well H' a ∧ z.length ≤ i ∧ ∀ c ∈ z.cps.toList, 32 ≤ c ∧ c ≤ 126)
    ⟨_, none, none, rfl, by walk_at "fr", w3, Nat.le_refl _, fun c h => nomatch h⟩ ?_ ?_
  · rintro i σ H4 hi ⟨z, v, u, rfl, f4, w4, hz1, hz2⟩
    have hi40 : i < 40 := by omega
    have hpl : ∃ m : Int, atI [V.int 94, V.int 5] (pl / 2) = some (V.int m) ∧ (m = 94 ∨ m = 5) := hpick 94 5 (pl / 2) (by omega) (by omega)
    obtain ⟨m2, hm3, hm4⟩ := hpl
    walk_at "rd"
    refine x_dec (fun _ => ?b1) (fun _ => ?b2)
    case b2 =>
      walk_at "rd"
      refine ⟨a, _, rfl, rfl, by decide, by decide +kernel, w4, fun r4 H5 f5 w5 r40 r41 => ?_⟩
      walk_at "rd"
      refine x_dec (fun _ => ?b3) (fun _ => ?b4)
      case b3 =>
        have f6 := f4.trans f5
        have w6 := w5
        walk_at "rd"
        intro l2 n2
        walk_at "rd"
        refine ⟨a, _, rfl, rfl, by omega, (PullOk.small (by omega) (by omega)).2, w6.fr (Fr.new (S := Non) (Fr.refl _) n2) id, fun r7 H7 f7 w7 r70 r71 => ?_⟩
        obtain ⟨c, hc1, hc2⟩ := hix r7 r70 (by omega)
        walk_at "rd"
        obtain ⟨t1, t2⟩ := txt_app hz1 hz2 hc2
        exact ⟨_, _, _, rfl, by walk_at "fr", w7, t1, t2⟩
      case b4 =>
        walk_at "rd"
        obtain ⟨t1, t2⟩ := txt_app (c := 97) hz1 hz2 (by decide)
        exact ⟨_, _, _, rfl, f4.trans f5, w5, t1, t2⟩
    case b1 =>
      have f6 := f4
      have w6 := w4
      walk_at "rd"
      intro l2 n2
      walk_at "rd"
      refine ⟨a, _, rfl, rfl, by omega, (PullOk.small (by omega) (by omega)).2, w6.fr (Fr.new (S := Non) (Fr.refl _) n2) id, fun r7 H7 f7 w7 r70 r71 => ?_⟩
      obtain ⟨c, hc1, hc2⟩ := hix r7 r70 (by omega)
      walk_at "rd"
      obtain ⟨t1, t2⟩ := txt_app hz1 hz2 hc2
      exact ⟨_, _, _, rfl, by walk_at "fr", w7, t1, t2⟩
  · rintro σ H4 ⟨z, v, u, rfl, f4, w4, hz1, hz2⟩
    walk_at "rd"
    exact q _ _ f4 w4 ⟨by omega, hz2⟩
end

-- the def top 15
theorem sc_law_great : FnScope ["_law_well_here", "_law_bound", "_law_found", "_law_j"] ["_law_well_here", "_law_bound"] (defScope s_law_great) := ⟨rfl, rfl, rfl, by decide +kernel, rfl, by decide +kernel, by decide +kernel⟩
def B_law_great : BK2 := fun wl mm H Q _ => ∃ (a : Addr) (m : Int), wl = .ref a ∧ mm = .int m ∧ 0 < m ∧ m.natAbs.log2 < 9000 ∧ Well H a ∧
  ∀ r H', Fr (One a) H H' → Well H' a → 0 ≤ r → r < m → Q (.int r) H'
section
variable {P : Program} {w : World} {K : PySem.W.Frag} {mg : Str → Option Value} {base : Heap}
theorem ok_law_great (T : TX K mg) : CalX P w K mg base 2 "_law_great" ["_law_well_here", "_law_bound"] (Sp2 (B_law_great)) := by
  have C_law_pull := ok_law_pull (P := P) (w := w) (base := base) T
  obtain ⟨f, fd, F, hm, bd⟩ := T.d_law_great.ex
  refine ⟨f, fd, F.okX sc_law_great len2 (fun cdv A outer s H vs Q E hr h => ?_), hm, F.kp, bd⟩
  obtain ⟨wl, bd, rfl, h⟩ := h
  refine ⟨_, (pss_cons (ps_if (pt_cmpR op_gt (pe_ix ix_list (pv 0) pe_int (fun _ _ => rfl)) pe_int (nomark _)) (pss_one (ps_ret (pcall C_law_pull hr (by first | decide | omega) rfl Passes.none (pa_cons (pv 0) (pa_cons (pv 1) pa_nil))))) pss_nil) (pss_cons (ps_set (i := 2) sc_law_great.nd rfl (Or.inl rfl) pe_int) (pss_cons (ps_for (passes_of rfl) rfl (pi_range1 rfl T.b_range (pa_cons pe_int pa_nil)) (pg_name (i := 3) sc_law_great.nd rfl (Or.inl rfl)) (pss_one (ps_set (i := 2) sc_law_great.nd rfl (Or.inl rfl) (pe_op op_add (pe_op op_mul (pv 2) pe_int) (pcall C_law_pull hr (by first | decide | omega) rfl Passes.none (pa_cons (pv 0) (pa_cons pe_int pa_nil))))))) (pss_one (ps_ret (pe_op op_mod (pv 2) (pv 1))))))), ?_⟩
  show (_ : TS) _ [some wl, some bd, none, none] H
  first | dsimp only [L2.cxOf] | skip
  obtain ⟨a, m, rfl, rfl, hm0, hml, W, q⟩ := h
  obtain ⟨c, n, g, l, hL, hc0, hc1⟩ := id W
  walk_at "rd"
  refine x_dec (fun _ => ?_) (fun _ => ?_)
  · walk_at "rd"
    exact ⟨a, m, rfl, rfl, hm0, hml, W, q⟩
  · walk_at "rd"
    refine x_forR (n := 8) (fun i σ H' => ∃ (z : Int) (v : Option V), σ = [some (.ref a), some (.int m), some (.int z), v] ∧ Fr (One a) H H' ∧ Well H' a ∧ 0 ≤ z) ⟨0, none, rfl, Fr.refl _, W, by omega⟩ ?_ ?_
    · rintro i σ H1 hi ⟨z, v, rfl, f1, w1, hz⟩
      walk_at "rd"
      refine ⟨a, _, rfl, rfl, by decide, by decide +kernel, w1, fun r H2 f2 w2 h0 h1 => ?_⟩
      walk_at "rd"
      exact ⟨_, _, rfl, f1.trans f2, w2, by omega⟩
    · rintro σ H1 ⟨z, v, rfl, f1, w1, hz⟩
      walk_at "rd"
      exact q _ _ f1 w1 (Int.emod_nonneg _ (by omega)) (Int.emod_lt_of_pos _ hm0)
end

-- the def top 17
theorem sc_law_key : FnScope ["_law_well_here", "_law_room", "_law_way", "_law_j"] ["_law_well_here", "_law_room"] (defScope s_law_key) := ⟨rfl, rfl, rfl, by decide +kernel, rfl, by decide +kernel, by decide +kernel⟩
/-- any key in which no more tuples than r lie within one another -/
def B_law_key (r : Nat) : BK2 := fun wl rm H Q _ => ∃ (a : Addr), wl = .ref a ∧ rm = .int (r : Int) ∧ Well H a ∧
  ∀ v d H', Fr (One a) H H' → Well H' a → Dt H' v d → isK r d → Q v H'
section
variable {P : Program} {w : World} {K : PySem.W.Frag} {mg : Str → Option Value} {base : Heap}
theorem step_law_key (T : TX K mg) (r k : Nat) (spR : Sp) (hR : ∀ r1, r = r1 + 1 → ∀ vs H Q E, Sp2 (B_law_key r1) vs H Q E → spR vs H Q E) (C_law_key : CalX P w K mg base k "_law_key" ["_law_well_here", "_law_room"] spR) (hk : 2 ≤ k) : CalX P w K mg base (k + 1) "_law_key" ["_law_well_here", "_law_room"] (Sp2 (B_law_key r)) := by
  have C_law_pull := ok_law_pull (P := P) (w := w) (base := base) T
  have C_law_text := ok_law_text (P := P) (w := w) (base := base) T
  have C_law_great := ok_law_great (P := P) (w := w) (base := base) T
  obtain ⟨f, fd, F, hm, bd⟩ := T.d_law_key.ex
  refine ⟨f, fd, F.okX sc_law_key len2 (fun cdv A outer s H vs Q E hr h => ?_), hm, F.kp, bd⟩
  obtain ⟨wl, rm, rfl, h⟩ := h
  refine ⟨_, (pss_cons (ps_set (i := 2) sc_law_key.nd rfl (Or.inl rfl) (pcall C_law_pull hr (by first | decide | omega) rfl Passes.none (pa_cons (pv 0) (pa_cons pe_int pa_nil)))) (pss_cons (ps_if (pt_cmpR op_lt (pv 2) pe_int (nomark _)) (pss_one (ps_ret (pe_op op_sub (pcall C_law_pull hr (by first | decide | omega) rfl Passes.none (pa_cons (pv 0) (pa_cons pe_int pa_nil))) pe_int))) pss_nil) (pss_cons (ps_if (pt_cmpR op_eq (pv 2) pe_int (nomark _)) (pss_one (ps_ret (pe_op op_add (pe_op op_sub (pcall C_law_great hr (by first | decide | omega) rfl Passes.none (pa_cons (pv 0) (pa_cons (pe_op op_sub (pe_op op_mul pe_int (pe_op op_pow pe_int pe_int)) pe_int) pa_nil))) (pe_op op_pow pe_int pe_int)) pe_int))) pss_nil) (pss_cons (ps_if (PW.pt (pw_or (pt_cmpR op_lt (pv 2) pe_int (nomark _)) (pw_or1 (pt_cmpR op_eq (pv 1) pe_int (nomark _))))) (pss_one (ps_ret (pcall C_law_text hr (by first | decide | omega) rfl Passes.none (pa_cons (pv 0) pa_nil)))) pss_nil) (pss_one (ps_ret (pe_callTy c_tupOf (by rfl) T.b_tuple (by decide +kernel) (pa_cons (pe_lc (own := [("_law_j", 3)]) (g := gName 3) (tt := tYes) rfl sc_law_key.nd (pi_range1 rfl T.b_range (pa_cons (pcall C_law_pull hr (by first | decide | omega) rfl Passes.none (pa_cons (pv 0) (pa_cons pe_int pa_nil))) pa_nil)) (blkOk_by (N := ["_law_well_here", "_law_room", "_law_way", "_law_j"]) (sc := defScope s_law_key) (own := [("_law_j", 3)]) (by decide +kernel)) (fun _ _ _ _ _ => pg_name (i := 3) sc_law_key.nd rfl (by first | exact Or.inl rfl | exact Or.inr rfl)) (fun _ _ _ _ _ => pts_nil) (fun _ _ _ _ _ => (pcall C_law_key hr (by first | decide | omega) rfl Passes.none (pa_cons (pv 0) (pa_cons (pe_op op_sub (pv 1) pe_int) pa_nil))))) pa_nil)))))))), ?_⟩
  show (_ : TS) _ [some wl, some rm, none, none] H
  first | dsimp only [L2.cxOf] | skip
  obtain ⟨a, rfl, rfl, W, q⟩ := h
  walk_at "rd"
  refine ⟨a, _, rfl, rfl, by decide, by decide +kernel, W, fun wy H1 f1 w1 y0 y1 => ?_⟩
  walk_at "rd"
  refine x_dec (fun _ => ?_) (fun _ => ?_)
  · walk_at "rd"
    refine ⟨a, _, rfl, rfl, by decide, by decide +kernel, w1, fun z H2 f2 w2 z0 z1 => ?_⟩
    walk_at "rd"
    refine q _ _ _ (f1.trans f2) w2 (.int _) ?_
    rw [isK_int]
    have e : (10 : Int) ^ 60 > 100 := by decide
    exact ⟨by omega, by omega⟩
  · walk_at "rd"
    refine x_dec (fun _ => ?_) (fun _ => ?_)
    · walk_at "rd"
      refine ⟨a, _, rfl, rfl, by decide, by decide +kernel, w1, fun z H2 f2 w2 z0 z1 => ?_⟩
      walk_at "rd"
      refine q _ _ _ (f1.trans f2) w2 (.int _) ?_
      rw [isK_int]
      show -((10 : Int) ^ 60) < z - (10 : Int) ^ 60 + 1 ∧ z - (10 : Int) ^ 60 + 1 < (10 : Int) ^ 60
      have z1' : z < 2 * (10 : Int) ^ 60 - 1 := z1
      generalize (10 : Int) ^ 60 = t at z1' ⊢
      exact ⟨by omega, by omega⟩
    · walk_at "rd"
      refine x_dec (fun _ => ?_) (fun _ => ?_)
      · walk_at "rd"
        exact ⟨a, rfl, w1, fun z H2 f2 w2 hz => q _ _ _ (f1.trans f2) w2 (.str _) (by rw [isK_str]; exact hz)⟩
      · walk_at "rd"
        refine x_dec (fun h0 => ?_) (fun h0 => ?_)
        · walk_at "rd"
          exact ⟨a, rfl, w1, fun z H2 f2 w2 hz => q _ _ _ (f1.trans f2) w2 (.str _) (by rw [isK_str]; exact hz)⟩
        · obtain ⟨r1, rfl⟩ : ∃ r1, r = r1 + 1 := ⟨r - 1, by omega⟩
          walk_at "rd"
          refine ⟨a, _, rfl, rfl, by decide, by decide +kernel, w1, fun m H2 f2 w2 m0 m1 => ?_⟩
          walk_at "rd"
          intro D nD
          have nD0 : Fresh H D := f1.free (f2.free nD)
          refine x_lcR (n := m.toNat) (fun i H' => ∃ acc ds, H' D = some (.lst acc) ∧ DtAll H' acc ds ∧ acc.length = i ∧ (∀ d ∈ ds, isK r1 d) ∧ Fr (One a) H H' ∧ Well H' a) ⟨[], [], upd_same, .nil, rfl, List.forall_mem_nil _, by walk_at "fr", by walk_at "we"⟩ ?_ ?_
          · rintro i H3 hi ⟨acc, ds, hD, hds, hl, hk1, f3, w3⟩
            walk_at "rd"
            refine hR r1 rfl _ _ _ _ ?_
            walk_at "rd"
            refine ⟨a, rfl, congrArg V.int (by omega), w3, fun v d H4 f4 w4 hd hk4 => ?_⟩
            walk_at "rd"
            refine ⟨acc ++ [v], ds ++ [d], upd_same, ?_, by rw [List.length_append, hl]; rfl, ?_, ?_, ?_⟩
            · exact DtAll.app (by walk_at "dt") (DtAll.one (by walk_at "dt"))
            · intro d' hd'
              rcases List.mem_append.mp hd' with hd' | hd'
              · exact hk1 d' hd'
              · rw [List.mem_singleton] at hd'; subst hd'; exact hk4
            · walk_at "fr"
            · walk_at "we"
          · rintro H3 ⟨acc, ds, hD, hds, hl, hk1, f3, w3⟩
            walk_at "rd"
            intro l nl
            refine q _ _ _ (by walk_at "fr") (by walk_at "we") (.tup upd_same (hds.upd nl)) ?_
            rw [isK_tup, ← hds.length, hl]
            exact ⟨by omega, hk1⟩
theorem ok_law_key (T : TX K mg) : ∀ r : Nat, CalX P w K mg base (3 + r) "_law_key" ["_law_well_here", "_law_room"] (Sp2 (B_law_key r))
  | 0 => step_law_key T 0 2 _ (fun _ e => nomatch e) (CalX.never T.d_law_key sc_law_key (by decide)) (Nat.le_refl _)
  | r + 1 => step_law_key T (r + 1) (3 + r) _ (fun r1 e => by cases e; exact fun _ _ _ _ h => h) (ok_law_key T r) (by omega)
end

-- the def top 18
theorem sc_law_rank : FnScope ["_law_spot", "_law_part"] ["_law_spot"] (defScope s_law_rank) := ⟨rfl, rfl, rfl, by decide +kernel, rfl, by decide +kernel, by decide +kernel⟩
/-- the key in the place of which the program compares -/
def B_law_rank (r : Nat) : BK1 := fun k H Q _ => ∃ d, Dt H k d ∧ isK r d ∧ ∀ v H', Fr Non H H' → Dt H' v (rankD d) → Q v H'
section
variable {P : Program} {w : World} {K : PySem.W.Frag} {mg : Str → Option Value} {base : Heap}
theorem step_law_rank (T : TX K mg) (r k : Nat) (spR : Sp) (hR : ∀ r1, r = r1 + 1 → ∀ vs H Q E, Sp1 (B_law_rank r1) vs H Q E → spR vs H Q E) (C_law_rank : CalX P w K mg base k "_law_rank" ["_law_spot"] spR) (hk : 1 ≤ k) : CalX P w K mg base (k + 1) "_law_rank" ["_law_spot"] (Sp1 (B_law_rank r)) := by
  obtain ⟨f, fd, F, hm, bd⟩ := T.d_law_rank.ex
  refine ⟨f, fd, F.okX sc_law_rank len1 (fun cdv A outer s H vs Q E hr h => ?_), hm, F.kp, bd⟩
  obtain ⟨k, rfl, h⟩ := h
  refine ⟨_, (pss_cons (ps_if (pt_val (pe_callB call_isi (by rfl) T.b_isinstance PyProof.Rows.boot_isinstance (pa_cons (pv 0) (pa_cons (pe_bltn (v := .ty "int") rfl T.b_int PyProof.Rows.boot_int rfl) pa_nil)))) (pss_one (ps_ret (pe_tup (pa_cons pe_int (pa_cons (pv 0) (pa_cons pe_str (pa_cons (pe_tup pa_nil) pa_nil))))))) pss_nil) (pss_cons (ps_if (pt_val (pe_callB call_isi (by rfl) T.b_isinstance PyProof.Rows.boot_isinstance (pa_cons (pv 0) (pa_cons (pe_bltn (v := .ty "str") rfl T.b_str PyProof.Rows.boot_str rfl) pa_nil)))) (pss_one (ps_ret (pe_tup (pa_cons pe_int (pa_cons pe_int (pa_cons (pv 0) (pa_cons (pe_tup pa_nil) pa_nil))))))) pss_nil) (pss_one (ps_ret (pe_tup (pa_cons pe_int (pa_cons pe_int (pa_cons pe_str (pa_cons (pe_callTy c_tupOf (by rfl) T.b_tuple (by decide +kernel) (pa_cons (pe_lc (own := [("_law_part", 1)]) (g := gName 1) (tt := tYes) rfl sc_law_rank.nd (pi_tup (pv 0)) (blkOk_by (N := ["_law_spot", "_law_part"]) (sc := defScope s_law_rank) (own := [("_law_part", 1)]) (by decide +kernel)) (fun _ _ _ _ _ => pg_name (i := 1) sc_law_rank.nd rfl (by first | exact Or.inl rfl | exact Or.inr rfl)) (fun _ _ _ _ _ => pts_nil) (fun _ _ _ _ _ => (pcall C_law_rank hr (by first | decide | omega) rfl Passes.none (pa_cons (pv 1) pa_nil)))) pa_nil)) pa_nil))))))))), ?_⟩
  show (_ : TS) _ [some k, none] H
  first | dsimp only [L2.cxOf] | skip
  obtain ⟨d, hd, hk, q⟩ := h
  rcases isK_cases hk with ⟨i, rfl, hi⟩ | ⟨z, rfl, hz⟩ | ⟨r1, ds, rfl, rfl, hl, hs⟩
  · cases hd
    walk_at "rd"
    intro p1 n1
    walk_at "rd"
    intro p2 n2
    exact q _ _ (by walk_at "fr") (by rw [rankD]; walk_at "dt")
  · cases hd
    walk_at "rd"
    intro p1 n1
    walk_at "rd"
    intro p2 n2
    exact q _ _ (by walk_at "fr") (by rw [rankD]; walk_at "dt")
  · cases hd with
    | @tup a xs _ e hx =>
    have hlx : xs.length ≤ 4 := by rw [hx.length]; exact hl
    walk_at "rd"
    refine x_iRef (C := fun a => ∃ xs, SqT K H a xs) ⟨xs, SqT.of e⟩ ?_
    walk_at "rd"
    intro D nD
    refine x_lcT xs (fun i H' => ∃ acc, H' D = some (.lst acc) ∧ DtAll H' acc (rankAll (ds.take i)) ∧ acc.length = i ∧ Fr Non H H') ⟨[], upd_same, .nil, rfl, by walk_at "fr"⟩ (fun i H' _ ⟨_, _, _, _, f⟩ => SqT.of (f.tup _ _ e)) ?_ ?_
    · rintro i x H3 hxi ⟨acc, hD, hds, hla, f3⟩
      obtain ⟨d, hd1, hd2⟩ := hx.get hxi
      have hil : i < xs.length := (List.getElem?_eq_some_iff.mp hxi).1
      have hla4 : acc.length ≤ 100000 := by omega
      walk_at "rd"
      refine hR r1 rfl _ _ _ _ ?_
      walk_at "rd"
      refine ⟨d, hd2.mono f3, hs d (List.mem_of_getElem? hd1), fun v H4 f4 hv => ?_⟩
      walk_at "rd"
      refine ⟨acc ++ [v], upd_same, ?_, by rw [List.length_append, hla]; rfl, ?_⟩
      · rw [List.take_add_one, hd1, rankAll_map, List.map_append, ← rankAll_map]
        exact DtAll.app (by walk_at "dt") (DtAll.one (by walk_at "dt"))
      · walk_at "fr"
    · rintro H3 ⟨acc, hD, hds, hla, f3⟩
      rw [List.take_of_length_le (by rw [← hx.length]; exact Nat.le_refl _)] at hds
      walk_at "rd"
      intro l1 n1
      walk_at "rd"
      intro l2 n2
      exact q _ _ (by walk_at "fr") (by rw [rankD]; walk_at "dt")
theorem ok_law_rank (T : TX K mg) : ∀ r : Nat, CalX P w K mg base (2 + r) "_law_rank" ["_law_spot"] (Sp1 (B_law_rank r))
  | 0 => step_law_rank T 0 1 _ (fun _ e => nomatch e) (CalX.never T.d_law_rank sc_law_rank (by decide)) (Nat.le_refl _)
  | r + 1 => step_law_rank T (r + 1) (2 + r) _ (fun r1 e => by cases e; exact fun _ _ _ _ h => h) (ok_law_rank T r) (by omega)
end

-- the def top 19
theorem sc_law_keys : FnScope ["_law_well_here", "_law_many", "_law_found", "_law_j"] ["_law_well_here", "_law_many"] (defScope s_law_keys) := ⟨rfl, rfl, rfl, by decide +kernel, rfl, by decide +kernel, by decide +kernel⟩
def B_law_keys (K : PySem.W.Frag) : BK2 := fun wl n H Q _ => ∃ (a : Addr) (m : Nat), wl = .ref a ∧ n = .int (m : Int) ∧ m ≤ 1000 ∧ Well H a ∧
  ∀ p xs ds H', Fr (One a) H H' → Well H' a → Fresh H p → H' p = some (.lst xs) → DtAll H' xs ds → (∀ d ∈ ds, isK 3 d) → upK ds → ds.Nodup → ds.length ≤ m → Q (.ref p) H'
section
variable {P : Program} {w : World} {K : PySem.W.Frag} {mg : Str → Option Value} {base : Heap}
theorem ok_law_keys (T : TX K mg) : CalX P w K mg base 9 "_law_keys" ["_law_well_here", "_law_many"] (Sp2 (B_law_keys K)) := by
  have C_law_key := ok_law_key (P := P) (w := w) (base := base) T 3
  have C_law_rank := ok_law_rank (P := P) (w := w) (base := base) T 3
  obtain ⟨f, fd, F, hm, bd⟩ := T.d_law_keys.ex
  refine ⟨f, fd, F.okX sc_law_keys len2 (fun cdv A outer s H vs Q E hr h => ?_), hm, F.kp, bd⟩
  obtain ⟨wl, n, rfl, h⟩ := h
  refine ⟨_, (pss_cons (ps_set (i := 2) sc_law_keys.nd rfl (Or.inl rfl) pe_dnewK) (pss_cons (ps_for (passes_of rfl) rfl (pi_range1 rfl T.b_range (pa_cons (pv 1) pa_nil)) (pg_name (i := 3) sc_law_keys.nd rfl (Or.inl rfl)) (pss_one (ps_asg pe_bl (pg_sub (pv 2) (pcall C_law_key hr (by first | decide | omega) rfl Passes.none (pa_cons (pv 0) (pa_cons pe_int pa_nil))) (set_mix (hu_of9 hr)))))) (pss_one (ps_ret (pe_callBK (cr_sortM rfl C_law_rank hr (by first | decide | omega)) (by rfl) T.b_sorted (by decide +kernel) (pa_cons (pv 2) pa_nil) (pk_cons (pe_defC C_law_rank rfl) pk_nil)))))), ?_⟩
  show (_ : TS) _ [some wl, some n, none, none] H
  first | dsimp only [L2.cxOf] | skip
  obtain ⟨a, m, rfl, rfl, hm, W, q⟩ := h
  walk_at "rd"
  intro D nD
  have hDa : D ≠ a := Well.ne W nD
  walk_at "rd"
  refine x_forR (n := m) (fun i σ H' => ∃ (v3 : Option V) (xs : Mx), σ = [some (.ref a), some (.int (m : Int)), some (.ref D), v3] ∧ Fr (One a) H H' ∧ Well H' a ∧ MxA w H' D xs ∧ xs.length ≤ i) ⟨none, [], rfl, Fr.new (Fr.refl _) nD, W.new nD, ⟨.inr ⟨rfl, upd_same⟩, List.forall_mem_nil _, List.forall_mem_nil _, List.nodup_nil⟩, Nat.zero_le _⟩ ?_ ?_
  · rintro i σ H1 hi ⟨v3, xs, rfl, f1, w1, M, hl⟩
    walk_at "rd"
    refine ⟨a, rfl, rfl, w1, fun v d H2 f2 w2 hd hk => ?_⟩
    have M2 := M.keepS f2 (not_One hDa)
    walk_at "rd"
    refine ⟨D, xs, d, rfl, M2, hd, hk, by omega, fun xs' pm M3 => ?_⟩
    have f3 : Fr (One D) H2 (upd H2 D (MixO w D xs')) := M2.fr (Fr.refl _) (.inl rfl)
    walk_at "rd"
    exact ⟨_, xs', rfl, M2.fr (f1.trans f2) (.inr nD), w2.fr f3 (not_One (Ne.symm hDa)), M3, by have := pm.len; omega⟩
  · rintro σ H1 ⟨v3, xs, rfl, f1, w1, M, hl⟩
    walk_at "rd"
    have hd : DtAll H1 (xs.map (·.2.1)) (xs.map (·.1)) := by
      have h := M.dt
      clear M hl
      induction xs with
      | nil => exact .nil
      | cons x xs ih => exact .cons (h x (List.mem_cons_self ..)) (ih fun y hy => h y (List.mem_cons_of_mem _ hy))
    have hk : ∀ d ∈ xs.map (·.1), isK 3 d := fun d hm => by
      obtain ⟨x, hx, rfl⟩ := List.mem_map.mp hm
      exact M.ok x hx
    refine ⟨D, xs, (xs.map (·.1)).map rankD, rfl, rfl, M, by rw [List.length_map, List.length_map], rank_allalike _, rank_sortable _, fun d hm => ?_, fun i v d H' hv hdd f => ?_, fun p H' f n hp => ?_⟩
    · obtain ⟨e, he, rfl⟩ := List.mem_map.mp hm
      exact Nat.le_trans (rank_depth (hk e he)) (by decide)
    · obtain ⟨e, he1, he2⟩ := hd.get hv
      rw [List.getElem?_map, he1] at hdd
      cases hdd
      exact ⟨v, rfl, e, he2.mono f, hk e (List.mem_of_getElem? he1), fun u H2 f2 h2 => ⟨f2, h2⟩⟩
    · obtain ⟨es, e1, e2, e3⟩ := byKey_rank (hd.mono f)
      have wn := w1.fr f id
      refine q p _ es H' (f1.sub' f fun _ h => h.elim) wn (f1.free n) hp e3 (fun d hd => hk d (e1.mem_iff.mp hd)) e2 (e1.nodup_iff.mpr M.nd) (by rw [e1.length_eq, List.length_map]; exact hl)
end

-- the def top 22
theorem sc_law_value : FnScope ["_law_well_here"] ["_law_well_here"] (defScope s_law_value) := ⟨rfl, rfl, rfl, by decide +kernel, rfl, by decide +kernel, by decide +kernel⟩
def B_law_value : BK1 := fun wl H Q _ => ∃ (a : Addr), wl = .ref a ∧ Well H a ∧
  ∀ v d H', Fr (One a) H H' → Well H' a → Dt H' v d → isK 3 d → Q v H'
section
variable {P : Program} {w : World} {K : PySem.W.Frag} {mg : Str → Option Value} {base : Heap}
theorem ok_law_value (T : TX K mg) : CalX P w K mg base 7 "_law_value" ["_law_well_here"] (Sp1 (B_law_value)) := by
  have C_law_pull := ok_law_pull (P := P) (w := w) (base := base) T
  have C_law_key := ok_law_key (P := P) (w := w) (base := base) T 3
  obtain ⟨f, fd, F, hm, bd⟩ := T.d_law_value.ex
  refine ⟨f, fd, F.okX sc_law_value len1 (fun cdv A outer s H vs Q E hr h => ?_), hm, F.kp, bd⟩
  obtain ⟨wl, rfl, h⟩ := h
  refine ⟨_, (pss_cons (ps_if (pt_cmpR op_eq (pcall C_law_pull hr (by first | decide | omega) rfl Passes.none (pa_cons (pv 0) (pa_cons pe_int pa_nil))) pe_int (nomark _)) (pss_one (ps_ret (pcall C_law_key hr (by first | decide | omega) rfl Passes.none (pa_cons (pv 0) (pa_cons pe_int pa_nil))))) pss_nil) (pss_one (ps_ret (pe_ix ix_list (pe_lst (pa_cons pe_int (pa_cons pe_int (pa_cons pe_str (pa_cons (pe_tup (pa_cons pe_int pa_nil)) (pa_cons pe_str (pa_cons (pe_tup pa_nil) pa_nil))))))) (pcall C_law_pull hr (by first | decide | omega) rfl Passes.none (pa_cons (pv 0) (pa_cons pe_int pa_nil))) (fun _ _ => rfl))))), ?_⟩
  show (_ : TS) _ [some wl] H
  first | dsimp only [L2.cxOf] | skip
  obtain ⟨a, rfl, W, q⟩ := h
  walk_at "rd"
  refine ⟨a, _, rfl, rfl, by decide, by decide +kernel, W, fun w1v H1 f1 w1 y0 y1 => ?_⟩
  walk_at "rd"
  refine x_dec (fun _ => ?_) (fun _ => ?_)
  · walk_at "rd"
    refine ⟨a, rfl, rfl, w1, fun k d H2 f2 w2 hd hk => ?_⟩
    exact q _ _ _ (f1.trans f2) w2 hd hk
  · walk_at "rd"
    intro p1 np1
    walk_at "rd"
    intro p2 np2
    walk_at "rd"
    intro p3 np3
    have t1 : Dt (upd (upd (upd H1 p1 (.tup [.int 1])) p2 (.tup [])) p3 (.lst [.int 0, .int 1, .str (Str.ofString "1"), .ref p1, .str (Str.ofString ""), .ref p2])) (.ref p1) (.tuple [.int 1]) := Dt.upd (Dt.upd (.tup upd_same (.cons (.int _) .nil)) np2) np3
    have t2 : Dt (upd (upd (upd H1 p1 (.tup [.int 1])) p2 (.tup [])) p3 (.lst [.int 0, .int 1, .str (Str.ofString "1"), .ref p1, .str (Str.ofString ""), .ref p2])) (.ref p2) (.tuple []) := Dt.upd (.tup upd_same .nil) np3
    have e3 : upd (upd (upd H1 p1 (.tup [.int 1])) p2 (.tup [])) p3 (.lst [.int 0, .int 1, .str (Str.ofString "1"), .ref p1, .str (Str.ofString ""), .ref p2]) p3 = some (.lst [.int 0, .int 1, .str (Str.ofString "1"), .ref p1, .str (Str.ofString ""), .ref p2]) := upd_same
    have w3 : Well (upd (upd (upd H1 p1 (.tup [.int 1])) p2 (.tup [])) p3 (.lst [.int 0, .int 1, .str (Str.ofString "1"), .ref p1, .str (Str.ofString ""), .ref p2])) a := ((w1.new np1).new np2).new np3
    have f3 : Fr (One a) H (upd (upd (upd H1 p1 (.tup [.int 1])) p2 (.tup [])) p3 (.lst [.int 0, .int 1, .str (Str.ofString "1"), .ref p1, .str (Str.ofString ""), .ref p2])) := Fr.new (Fr.new (Fr.new f1 np1) np2) np3
    have n3a : p3 ≠ a := Well.ne ((w1.new np1).new np2) np3
    generalize upd (upd (upd H1 p1 (.tup [.int 1])) p2 (.tup [])) p3 (.lst [.int 0, .int 1, .str (Str.ofString "1"), .ref p1, .str (Str.ofString ""), .ref p2]) = H3 at t1 t2 e3 w3 f3 ⊢
    walk_at "rd"
    refine ⟨a, _, rfl, rfl, by decide, by decide +kernel, w3, fun r H4 f4 w4 r0 r1 => ?_⟩
    have e4 := f4.keep _ _ e3 (not_One n3a)
    have t14 := t1.mono f4
    have t24 := t2.mono f4
    obtain ⟨v, d, hv, hd, hk⟩ : ∃ v d, atI [V.int 0, .int 1, .str (Str.ofString "1"), .ref p1, .str (Str.ofString ""), .ref p2] r = some v ∧ Dt H4 v d ∧ isK 3 d := by
      obtain rfl | rfl | rfl | rfl | rfl | rfl : r = 0 ∨ r = 1 ∨ r = 2 ∨ r = 3 ∨ r = 4 ∨ r = 5 := by omega
      · exact ⟨_, _, rfl, .int _, keyB_iff.mp (by decide +kernel)⟩
      · exact ⟨_, _, rfl, .int _, keyB_iff.mp (by decide +kernel)⟩
      · exact ⟨_, _, rfl, .str _, keyB_iff.mp (by decide +kernel)⟩
      · exact ⟨_, _, rfl, t14, keyB_iff.mp (by decide +kernel)⟩
      · exact ⟨_, _, rfl, .str _, keyB_iff.mp (by decide +kernel)⟩
      · exact ⟨_, _, rfl, t24, keyB_iff.mp (by decide +kernel)⟩
    walk_at "rd"
    exact q v d H4 (f3.trans f4) w4 hd hk
end

-- the def top 20
theorem sc_law_alike : FnScope ["_law_found", "_law_due_here", "_law_j"] ["_law_found", "_law_due_here"] (defScope s_law_alike) := ⟨rfl, rfl, rfl, by decide +kernel, rfl, by decide +kernel, by decide +kernel⟩
def B_law_alike (r : Nat) : BK2 := fun f g H Q _ => ∃ d e, Dt H f d ∧ Dt H g e ∧ isK r d ∧ isK r e ∧ ∀ H', Fr Non H H' → Q (.bl (PyData.eqv d e)) H'
section
variable {P : Program} {w : World} {K : PySem.W.Frag} {mg : Str → Option Value} {base : Heap}
theorem step_law_alike (T : TX K mg) (r k : Nat) (spR : Sp) (hR : ∀ r1, r = r1 + 1 → ∀ vs H Q E, Sp2 (B_law_alike r1) vs H Q E → spR vs H Q E) (C_law_alike : CalX P w K mg base k "_law_alike" ["_law_found", "_law_due_here"] spR) (hk : 1 ≤ k) : CalX P w K mg base (k + 1) "_law_alike" ["_law_found", "_law_due_here"] (Sp2 (B_law_alike r)) := by
  obtain ⟨f, fd, F, hm, bd⟩ := T.d_law_alike.ex
  refine ⟨f, fd, F.okX sc_law_alike len2 (fun cdv A outer s H vs Q E hr h => ?_), hm, F.kp, bd⟩
  obtain ⟨f, g, rfl, h⟩ := h
  refine ⟨_, (pss_cons (ps_if (pt_val (pe_callB call_isi (by rfl) T.b_isinstance PyProof.Rows.boot_isinstance (pa_cons (pv 1) (pa_cons (pe_bltn (v := .ty "tuple") rfl T.b_tuple PyProof.Rows.boot_tuple rfl) pa_nil)))) (pss_cons (ps_if (PW.pt (pw_or (pt_not (pt_val (pe_callB call_isi (by rfl) T.b_isinstance PyProof.Rows.boot_isinstance (pa_cons (pv 0) (pa_cons (pe_bltn (v := .ty "tuple") rfl T.b_tuple PyProof.Rows.boot_tuple rfl) pa_nil))))) (pw_or1 (pt_cmpR op_ne (pe_callB c_lenA (by rfl) T.b_len (by decide +kernel) (pa_cons (pv 0) pa_nil)) (pe_callB c_lenA (by rfl) T.b_len (by decide +kernel) (pa_cons (pv 1) pa_nil)) (nomark _))))) (pss_one (ps_ret pe_bl)) pss_nil) (pss_one (ps_ret (pe_callB (cr_all rfl) (by rfl) T.b_all (by decide +kernel) (pa_cons (pe_lc (own := [("_law_j", 2)]) (g := gName 2) (tt := tYes) rfl sc_law_alike.nd (pi_range1 rfl T.b_range (pa_cons (pe_callB c_lenA (by rfl) T.b_len (by decide +kernel) (pa_cons (pv 1) pa_nil)) pa_nil)) (blkOk_by (N := ["_law_found", "_law_due_here", "_law_j"]) (sc := defScope s_law_alike) (own := [("_law_j", 2)]) (by decide +kernel)) (fun _ _ _ _ _ => pg_name (i := 2) sc_law_alike.nd rfl (by first | exact Or.inl rfl | exact Or.inr rfl)) (fun _ _ _ _ _ => pts_nil) (fun _ _ _ _ _ => (pcall C_law_alike hr (by first | decide | omega) rfl Passes.none (pa_cons (pe_ix (r := rIx K) ix_seq (pv 0) (pv 2) (fun _ _ => rfl)) (pa_cons (pe_ix (r := rIx K) ix_seq (pv 1) (pv 2) (fun _ _ => rfl)) pa_nil))))) pa_nil))))) pss_nil) (pss_cons (ps_if (pt_val (pe_callB call_isi (by rfl) T.b_isinstance PyProof.Rows.boot_isinstance (pa_cons (pv 1) (pa_cons (pe_bltn (v := .ty "str") rfl T.b_str PyProof.Rows.boot_str rfl) pa_nil)))) (pss_one (ps_ret (pe_and (pe_callB call_isi (by rfl) T.b_isinstance PyProof.Rows.boot_isinstance (pa_cons (pv 0) (pa_cons (pe_bltn (v := .ty "str") rfl T.b_str PyProof.Rows.boot_str rfl) pa_nil))) (pe_one (pe_cmpR op_eq (pv 0) (pv 1) (nomark _)))))) pss_nil) (pss_one (ps_ret (pe_and (pe_callB call_isi (by rfl) T.b_isinstance PyProof.Rows.boot_isinstance (pa_cons (pv 0) (pa_cons (pe_bltn (v := .ty "int") rfl T.b_int PyProof.Rows.boot_int rfl) pa_nil))) (pe_and (pe_not (pe_callB call_isi (by rfl) T.b_isinstance PyProof.Rows.boot_isinstance (pa_cons (pv 0) (pa_cons (pe_bltn (v := .ty "bool") rfl T.b_bool PyProof.Rows.boot_bool rfl) pa_nil)))) (pe_one (pe_cmpR op_eq (pv 0) (pv 1) (nomark _))))))))), ?_⟩
  show (_ : TS) _ [some f, some g, none] H
  first | dsimp only [L2.cxOf] | skip
  obtain ⟨d, e, hf, hg, hk, hk2, q⟩ := h
  rcases isK_cases hk2 with ⟨i, rfl, hi⟩ | ⟨z, rfl, hz⟩ | ⟨r1, es, rfl, rfl, hl, hs⟩
  · cases hg
    rcases isK_cases hk with ⟨j, rfl, hj⟩ | ⟨u, rfl, hw⟩ | ⟨r2, ds, rfl, rfl, hl2, hs2⟩
    · cases hf
      have e : PyData.eqv (.int j) (.int i) = decide (j = i) := by rw [PyData.eqv]; rfl
      rw [e] at q
      walk_at "rd"
      exact q _ (Fr.refl _)
    · cases hf
      have e : PyData.eqv (.str u) (.int i) = false := by rw [PyData.eqv]
      rw [e] at q
      walk_at "rd"
      exact q _ (Fr.refl _)
    · cases hf with
      | @tup a xs _ e1 h1 =>
      have e : PyData.eqv (.tuple ds) (.int i) = false := by rw [PyData.eqv]
      rw [e] at q
      walk_at "rd"
      exact q _ (Fr.refl _)
  · cases hg
    rcases isK_cases hk with ⟨j, rfl, hj⟩ | ⟨u, rfl, hw⟩ | ⟨r2, ds, rfl, rfl, hl2, hs2⟩
    · cases hf
      have e : PyData.eqv (.int j) (.str z) = false := by rw [PyData.eqv]
      rw [e] at q
      walk_at "rd"
      exact q _ (Fr.refl _)
    · cases hf
      have e : PyData.eqv (.str u) (.str z) = decide (u = z) := by rw [PyData.eqv, Bool.eq_iff_iff, str_beq, decide_eq_true_eq]
      rw [e] at q
      walk_at "rd"
      exact q _ (Fr.refl _)
    · cases hf with
      | @tup a xs _ e1 h1 =>
      have e : PyData.eqv (.tuple ds) (.str z) = false := by rw [PyData.eqv]
      rw [e] at q
      walk_at "rd"
      exact q _ (Fr.refl _)
  · cases hg with
    | @tup b ys _ e2 h2 =>
    rcases isK_cases hk with ⟨j, rfl, hj⟩ | ⟨u, rfl, hw⟩ | ⟨r2, ds, hrr, rfl, hl2, hs2⟩
    · cases hf
      have e : PyData.eqv (.int j) (.tuple es) = false := by rw [PyData.eqv]
      rw [e] at q
      walk_at "rd"
      exact q _ (Fr.refl _)
    · cases hf
      have e : PyData.eqv (.str u) (.tuple es) = false := by rw [PyData.eqv]
      rw [e] at q
      walk_at "rd"
      exact q _ (Fr.refl _)
    · cases hrr
      cases hf with
      | @tup a xs _ e1 h1 =>
      have l1 := h1.length
      have l2 := h2.length
      have hbd : -(2 ^ 62) ≤ ((ys.length : Nat) : Int) ∧ ((ys.length : Nat) : Int) < 2 ^ 62 := by constructor <;> omega
      have ee : PyData.eqv (.tuple ds) (.tuple es) = PyData.eqvAll ds es := by rw [PyData.eqv]
      rw [ee] at q
      walk_at "rd"
      refine x_ndec (fun h => ?_) (fun h => ?_)
      · rw [eqvAll_ne (by omega)] at q
        walk_at "rd"
        exact q _ (Fr.refl _)
      have hlen : ds.length = es.length := by omega
      rw [← eqvAll_range hlen] at q
      walk_at "rd"
      intro D nD
      refine x_lcR (n := ys.length) (fun i H' => Fr Non H H' ∧ H' D = some (.lst (((List.range i).map fun i => PyData.eqv (ds.getD i .none) (es.getD i .none)).map V.bl))) ⟨by walk_at "fr", upd_same⟩ ?_ ?_
      · rintro i H3 hi ⟨f3, hD⟩
        have e1' := List.getElem?_eq_getElem (show i < xs.length by omega)
        have e2' := List.getElem?_eq_getElem hi
        obtain ⟨d, g1, k1⟩ := h1.get e1'
        obtain ⟨e, g2, k2⟩ := h2.get e2'
        have a1 : atI xs (0 + (i : Int)) = some (xs[i]) := by rw [Int.zero_add]; exact atI_nat e1'
        have a2 : atI ys (0 + (i : Int)) = some (ys[i]) := by rw [Int.zero_add]; exact atI_nat e2'
        generalize xs[i] = vx at a1 k1
        generalize ys[i] = vy at a2 k2
        have e13 := f3.tup _ _ e1
        have e23 := f3.tup _ _ e2
        have hl3 : (((List.range i).map fun i => PyData.eqv (ds.getD i .none) (es.getD i .none)).map V.bl).length ≤ 100000 := by simp only [List.length_map, List.length_range]; omega
        walk_at "rd"
        refine hR r1 rfl _ _ _ _ ?_
        walk_at "rd"
        refine ⟨d, e, k1.mono f3, k2.mono f3, hs2 d (List.mem_of_getElem? g1), hs e (List.mem_of_getElem? g2), fun H4 f4 => ?_⟩
        walk_at "rd"
        refine ⟨by walk_at "fr", ?_⟩
        rw [List.range_succ, List.map_append, List.map_append, List.map_cons, List.map_cons, List.getD_eq_getElem?_getD, List.getD_eq_getElem?_getD, g1, g2]
        exact upd_same
      · rintro H3 ⟨f3, hD⟩
        rw [l2] at hD
        walk_at "rd"
        refine x_all (SqL.of hD) ?_
        exact q _ f3
theorem ok_law_alike (T : TX K mg) : ∀ r : Nat, CalX P w K mg base (2 + r) "_law_alike" ["_law_found", "_law_due_here"] (Sp2 (B_law_alike r))
  | 0 => step_law_alike T 0 1 _ (fun _ e => nomatch e) (CalX.never T.d_law_alike sc_law_alike (by decide)) (Nat.le_refl _)
  | r + 1 => step_law_alike T (r + 1) (2 + r) _ (fun r1 e => by cases e; exact fun _ _ _ _ h => h) (ok_law_alike T r) (by omega)
end

-- the def top 21
theorem sc_law_rows_alike : FnScope ["_law_found", "_law_due_here"] ["_law_found", "_law_due_here"] (defScope s_law_rows_alike) := ⟨rfl, rfl, rfl, by decide +kernel, rfl, by decide +kernel, by decide +kernel⟩
def B_law_rows_alike : BK2 := fun f g H Q _ => ∃ (a b : Addr) (xs ys : List V) (ds es : List PyData), f = .ref a ∧ g = .ref b ∧ H a = some (.lst xs) ∧ H b = some (.lst ys) ∧ DtAll H xs ds ∧ DtAll H ys es ∧ ds.length ≤ 4 ∧ es.length ≤ 4 ∧ (∀ d ∈ ds, isK 3 d) ∧ (∀ d ∈ es, isK 3 d) ∧ ∀ H', Fr Non H H' → Q (.bl (PyData.eqvAll ds es)) H'
section
variable {P : Program} {w : World} {K : PySem.W.Frag} {mg : Str → Option Value} {base : Heap}
theorem ok_law_rows_alike (T : TX K mg) : CalX P w K mg base 7 "_law_rows_alike" ["_law_found", "_law_due_here"] (Sp2 (B_law_rows_alike)) := by
  have C_law_alike := ok_law_alike (P := P) (w := w) (base := base) T 4
  obtain ⟨f, fd, F, hm, bd⟩ := T.d_law_rows_alike.ex
  refine ⟨f, fd, F.okX sc_law_rows_alike len2 (fun cdv A outer s H vs Q E hr h => ?_), hm, F.kp, bd⟩
  obtain ⟨f, g, rfl, h⟩ := h
  refine ⟨_, (pss_one (ps_ret (pe_and (pe_callB call_isi (by rfl) T.b_isinstance PyProof.Rows.boot_isinstance (pa_cons (pv 0) (pa_cons (pe_bltn (v := .ty "list") rfl T.b_list PyProof.Rows.boot_list rfl) pa_nil))) (pe_one (pcall C_law_alike hr (by first | decide | omega) rfl Passes.none (pa_cons (pe_callTy c_tupOf (by rfl) T.b_tuple (by decide +kernel) (pa_cons (pv 0) pa_nil)) (pa_cons (pe_callTy c_tupOf (by rfl) T.b_tuple (by decide +kernel) (pa_cons (pv 1) pa_nil)) pa_nil))))))), ?_⟩
  show (_ : TS) _ [some f, some g] H
  first | dsimp only [L2.cxOf] | skip
  obtain ⟨a, b, xs, ys, ds, es, rfl, rfl, ha, hb, hd, he, l1, l2, k1, k2, q⟩ := h
  walk_at "rd"
  intro p1 n1
  walk_at "rd"
  intro p2 n2
  have t1 : Dt (upd (upd H p1 (.tup xs)) p2 (.tup ys)) (.ref p1) (.tuple ds) := Dt.upd (.tup upd_same (hd.upd n1)) n2
  have t2 : Dt (upd (upd H p1 (.tup xs)) p2 (.tup ys)) (.ref p2) (.tuple es) := .tup upd_same ((he.upd n1).upd n2)
  have f2 : Fr Non H (upd (upd H p1 (.tup xs)) p2 (.tup ys)) := Fr.new (Fr.new (Fr.refl _) n1) n2
  walk_at "rd"
  refine ⟨.tuple ds, .tuple es, t1, t2, ⟨l1, k1⟩, ⟨l2, k2⟩, fun H' f => ?_⟩
  rw [PyData.eqv]
  exact q _ (f2.trans f)
end

-- the def top 24
theorem sc_law_side : FnScope ["_law_well_here", "_law_other", "_law_value_here"] ["_law_well_here", "_law_other"] (defScope s_law_side) := ⟨rfl, rfl, rfl, by decide +kernel, rfl, by decide +kernel, by decide +kernel⟩
def B_law_side : BK2 := fun wl ot H Q _ => ∃ (a b : Addr) (os : List V) (ds : List PyData), wl = .ref a ∧ ot = .ref b ∧ Well H a ∧ H b = some (.lst os) ∧ b ≠ a ∧ DtAll H os ds ∧ (∀ d ∈ ds, isK 3 d) ∧ ds.length ≤ 1 ∧
  ∀ p ys es H', Fr (One a) H H' → Well H' a → Fresh H p → p ≠ a → H' p = some (.lst ys) → DtAll H' ys es → (∀ d ∈ es, isK 3 d) → es.length ≤ 1 → Q (.ref p) H'
section
variable {P : Program} {w : World} {K : PySem.W.Frag} {mg : Str → Option Value} {base : Heap}
theorem ok_law_side (T : TX K mg) : CalX P w K mg base 8 "_law_side" ["_law_well_here", "_law_other"] (Sp2 (B_law_side)) := by
  have C_law_value := ok_law_value (P := P) (w := w) (base := base) T
  have C_law_rows_alike := ok_law_rows_alike (P := P) (w := w) (base := base) T
  have C_law_pull := ok_law_pull (P := P) (w := w) (base := base) T
  obtain ⟨f, fd, F, hm, bd⟩ := T.d_law_side.ex
  refine ⟨f, fd, F.okX sc_law_side len2 (fun cdv A outer s H vs Q E hr h => ?_), hm, F.kp, bd⟩
  obtain ⟨wl, ot, rfl, h⟩ := h
  refine ⟨_, (pss_cons (ps_if (PW.pt (pw_and (pt_cmpR op_eq (pcall C_law_pull hr (by first | decide | omega) rfl Passes.none (pa_cons (pv 0) (pa_cons pe_int pa_nil))) pe_int (nomark _)) (pw_and1 (pt_cmpR (op_neD hr.units) (pv 1) (pe_lst pa_nil) (nomark _))))) (pss_one (ps_ret (pe_lst pa_nil))) pss_nil) (pss_cons (ps_set (i := 2) sc_law_side.nd rfl (Or.inl rfl) (pcall C_law_value hr (by first | decide | omega) rfl Passes.none (pa_cons (pv 0) pa_nil))) (pss_cons (ps_if (pt_val (pcall C_law_rows_alike hr (by first | decide | omega) rfl Passes.none (pa_cons (pe_lst (pa_cons (pv 2) pa_nil)) (pa_cons (pv 1) pa_nil)))) (pss_one (ps_ret (pe_lst pa_nil))) pss_nil) (pss_one (ps_ret (pe_lst (pa_cons (pv 2) pa_nil))))))), ?_⟩
  show (_ : TS) _ [some wl, some ot, none] H
  first | dsimp only [L2.cxOf] | skip
  obtain ⟨a, b, os, ds, rfl, rfl, W, hb, nba, hd, hk, hl, q⟩ := h
  refine x_cut (fun σ' H' => σ' = [some (.ref a), some (.ref b), none] ∧ Fr (One a) H H' ∧ Well H' a) (fun nx hnx => ?_) ?_
  · walk_at "rd"
    refine ⟨a, _, rfl, rfl, by decide, by decide +kernel, W, fun r H1 f1 w1 y0 y1 => ?_⟩
    have hb1 := f1.keep _ _ hb (not_One nba)
    have hd1 := hd.mono f1
    walk_at "rd"
    refine x_dec (fun c1 => ?_) (fun c1 => ?_)
    · walk_at "rd"
      intro p np
      refine x_neD (.lst (SqL.of (keepU hb1 np)) (DtAll.dp _ _ (hd1.upd np))) (.lst (SqL.of upd_same) .nil) (side_shaped fun d hd => okG_key (hk d hd) (by decide)) (by decide +kernel) ?_
      cases hs : PyData.eqv (.list ds) (.list []) with
      | true =>
        walk_at "rd"
        exact hnx _ _ ⟨rfl, Fr.new f1 np, w1.new np⟩
      | false =>
        walk_at "rd"
        intro p2 np2
        exact q p2 [] [] _ (Fr.new (Fr.new f1 np) np2) ((w1.new np).new np2) (Fr.free (Fr.new f1 np) np2) (Well.ne (w1.new np) np2) upd_same .nil (List.forall_mem_nil _) (by decide)
    · walk_at "rd"
      exact hnx _ _ ⟨rfl, f1, w1⟩
  · rintro σ' H1 ⟨rfl, f1, w1⟩
    walk_at "rd"
    refine ⟨a, rfl, w1, fun v d H2 f2 w2 hv hkd => ?_⟩
    have f02 := f1.trans f2
    have hb2 := f02.keep _ _ hb (not_One nba)
    have hd2 := hd.mono f02
    walk_at "rd"
    intro l nl
    have f03 : Fr (One a) H (upd H2 l (.lst [v])) := Fr.new f02 nl
    have w3 : Well (upd H2 l (.lst [v])) a := w2.new nl
    have hv3 := hv.upd (o := .lst [v]) nl
    walk_at "rd"
    refine ⟨l, b, [v], os, [d], ds, rfl, rfl, upd_same, keepU hb2 nl, .cons hv3 .nil, hd2.upd nl, by simp, by omega, (fun e he => by rw [List.mem_singleton.mp he]; exact hkd), hk, fun H4 f4 => ?_⟩
    have f04 := f03.trans f4.non
    have w4 := w3.fr f4 id
    have hv4 := hv3.mono f4
    cases hs : PyData.eqvAll [d] ds with
    | true =>
      walk_at "rd"
      intro p np
      exact q p [] [] _ (Fr.new f04 np) (w4.new np) (Fr.free f04 np) (Well.ne w4 np) upd_same .nil (List.forall_mem_nil _) (by decide)
    | false =>
      walk_at "rd"
      intro p np
      exact q p [v] [d] _ (Fr.new f04 np) (w4.new np) (Fr.free f04 np) (Well.ne w4 np) upd_same (.cons (hv4.upd np) .nil) (fun e he => by rw [List.mem_singleton.mp he]; exact hkd) (Nat.le_refl _)
end

-- the def top 25
theorem sc_law_patches : FnScope ["_law_well_here", "_law_spots", "_law_first", "_law_second", "_law_spot", "_law_way", "_law_old", "_law_new", "_law_begin", "_law_end"] ["_law_well_here"] (defScope s_law_patches) := ⟨rfl, rfl, rfl, by decide +kernel, rfl, by decide +kernel, by decide +kernel⟩
def T3 (a A B : Addr) : Addr → Prop := fun b => b = a ∨ b = A ∨ b = B
def SideA (S : Addr → Prop) (H : Hp) (p : Addr) (es : List PyData) : Prop := ∃ ys : List V, H p = some (.lst ys) ∧ ¬ S p ∧ DtAll H ys es ∧ (∀ d ∈ es, isK 3 d) ∧ es.length ≤ 1
theorem SideA.mono {S : Addr → Prop} {H H1 : Hp} {p : Addr} {es : List PyData} (h : SideA S H p es) (f : Fr S H H1) : SideA S H1 p es := by
  obtain ⟨ys, h1, h2, h3, h4, h5⟩ := h
  exact ⟨ys, f.keep _ _ h1 h2, h2, h3.mono f, h4, h5⟩
def PInv (a sp A B : Addr) (xs : List V) (ds : List PyData) (H : Hp) : Nat → L2.St → Hp → Prop := fun i σ H' => ∃ (v4 v5 v6 v7 v8 v9 : Option V) (ts us : List Addr) (F S : List Row), σ = [some (.ref a), some (.ref sp), some (.ref A), some (.ref B), v4, v5, v6, v7, v8, v9] ∧ Fr (T3 a A B) H H' ∧ Well H' a ∧ H' sp = some (.lst xs) ∧ DtAll H' xs ds ∧ H' A = some (.lst (ts.map V.ref)) ∧ H' B = some (.lst (us.map V.ref)) ∧ RowsA (T3 a A B) H' ts F ∧ RowsA (T3 a A B) H' us S ∧ (F.map (·.1)).Sublist (ds.take i) ∧ (S.map (·.1)).Sublist (ds.take i) ∧ (∀ r ∈ F, okS r) ∧ ∀ r ∈ S, okS r
def B_law_patches (K : PySem.W.Frag) : BK1 := fun wl H Q _ => ∃ (a : Addr), wl = .ref a ∧ Well H a ∧
  ∀ t p1 p2 ts us F S H', Fr (One a) H H' → Well H' a → H' t = some (.tup [.ref p1, .ref p2]) → H' p1 = some (.lst (ts.map V.ref)) → H' p2 = some (.lst (us.map V.ref)) → RowsA Non H' ts F → RowsA Non H' us S → Patch F → Patch S → F.length ≤ 6 → S.length ≤ 6 → Q (.ref t) H'
section
variable {P : Program} {w : World} {K : PySem.W.Frag} {mg : Str → Option Value} {base : Heap}
theorem ok_law_patches (T : TX K mg) : CalX P w K mg base 10 "_law_patches" ["_law_well_here"] (Sp1 (B_law_patches K)) := by
  have C_law_keys := ok_law_keys (P := P) (w := w) (base := base) T
  have C_law_pull := ok_law_pull (P := P) (w := w) (base := base) T
  have C_law_side := ok_law_side (P := P) (w := w) (base := base) T
  have C_law_rows_alike := ok_law_rows_alike (P := P) (w := w) (base := base) T
  obtain ⟨f, fd, F, hm, bd⟩ := T.d_law_patches.ex
  refine ⟨f, fd, F.okX sc_law_patches len1 (fun cdv A outer s H vs Q E hr h => ?_), hm, F.kp, bd⟩
  obtain ⟨wl, rfl, h⟩ := h
  refine ⟨_, (pss_cons (ps_set (i := 1) sc_law_patches.nd rfl (Or.inl rfl) (pcall C_law_keys hr (by first | decide | omega) rfl Passes.none (pa_cons (pv 0) (pa_cons (pe_op op_add pe_int (pcall C_law_pull hr (by first | decide | omega) rfl Passes.none (pa_cons (pv 0) (pa_cons pe_int pa_nil)))) pa_nil)))) (pss_cons (ps_set (i := 2) sc_law_patches.nd rfl (Or.inl rfl) (pe_lst pa_nil)) (pss_cons (ps_set (i := 3) sc_law_patches.nd rfl (Or.inl rfl) (pe_lst pa_nil)) (pss_cons (ps_for (passes_of rfl) rfl (pi_list (pv 1)) (pg_name (i := 4) sc_law_patches.nd rfl (Or.inl rfl)) (pss_cons (ps_set (i := 5) sc_law_patches.nd rfl (Or.inl rfl) (pcall C_law_pull hr (by first | decide | omega) rfl Passes.none (pa_cons (pv 0) (pa_cons pe_int pa_nil)))) (pss_cons (ps_set (i := 6) sc_law_patches.nd rfl (Or.inl rfl) (pcall C_law_side hr (by first | decide | omega) rfl Passes.none (pa_cons (pv 0) (pa_cons (pe_slice sl_list (pe_lst (pa_cons pe_int pa_nil)) po_none (po_some (pcall C_law_pull hr (by first | decide | omega) rfl Passes.none (pa_cons (pv 0) (pa_cons pe_int pa_nil))))) pa_nil)))) (pss_cons (ps_set (i := 7) sc_law_patches.nd rfl (Or.inl rfl) (pcall C_law_side hr (by first | decide | omega) rfl Passes.none (pa_cons (pv 0) (pa_cons (pv 6) pa_nil)))) (pss_cons (ps_if (pt_cmpR op_ne (pv 5) pe_int (nomark _)) (pss_one (ps_expr (pe_bm PySem.F.plainAttrs_list PySem.F.slot_list_append PySem.F.type_list_append mt_append (pv 2) (pa_cons (pe_tup (pa_cons (pv 4) (pa_cons (pv 6) (pa_cons (pv 7) pa_nil)))) pa_nil)))) pss_nil) (pss_cons (ps_set (i := 8) sc_law_patches.nd rfl (Or.inl rfl) (pv 7)) (pss_cons (ps_if (pt_cmpR op_eq (pcall C_law_pull hr (by first | decide | omega) rfl Passes.none (pa_cons (pv 0) (pa_cons pe_int pa_nil))) pe_int (nomark _)) (pss_one (ps_set (i := 8) sc_law_patches.nd rfl (Or.inl rfl) (pcall C_law_side hr (by first | decide | omega) rfl Passes.none (pa_cons (pv 0) (pa_cons (pv 7) pa_nil))))) pss_nil) (pss_cons (ps_set (i := 9) sc_law_patches.nd rfl (Or.inl rfl) (pcall C_law_side hr (by first | decide | omega) rfl Passes.none (pa_cons (pv 0) (pa_cons (pv 8) pa_nil)))) (pss_cons (ps_if (PW.pt (pw_and (pt_cmpR op_eq (pcall C_law_pull hr (by first | decide | omega) rfl Passes.none (pa_cons (pv 0) (pa_cons pe_int pa_nil))) pe_int (nomark _)) (pw_and1 (pt_not (pt_val (pcall C_law_rows_alike hr (by first | decide | omega) rfl Passes.none (pa_cons (pv 6) (pa_cons (pv 8) pa_nil)))))))) (pss_one (ps_set (i := 9) sc_law_patches.nd rfl (Or.inl rfl) (pe_callTy c_listOf (by rfl) T.b_list (by decide +kernel) (pa_cons (pv 6) pa_nil)))) pss_nil) (pss_one (ps_if (pt_cmpR op_ne (pv 5) pe_int (nomark _)) (pss_one (ps_expr (pe_bm PySem.F.plainAttrs_list PySem.F.slot_list_append PySem.F.type_list_append mt_append (pv 3) (pa_cons (pe_tup (pa_cons (pv 4) (pa_cons (pv 8) (pa_cons (pv 9) pa_nil)))) pa_nil)))) pss_nil))))))))))) (pss_one (ps_ret (pe_tup (pa_cons (pv 2) (pa_cons (pv 3) pa_nil))))))))), ?_⟩
  show (_ : TS) _ [some wl, none, none, none, none, none, none, none, none, none] H
  first | dsimp only [L2.cxOf] | skip
  obtain ⟨a, rfl, W, q⟩ := h
  walk_at "rd"
  refine ⟨a, _, rfl, rfl, by decide, by decide +kernel, W, fun m H1 f1 w1 m0 m1 => ?_⟩
  obtain ⟨n, hn⟩ : ∃ n : Nat, 1 + m = (n : Int) := ⟨(1 + m).toNat, by omega⟩
  walk_at "rd"
  refine ⟨a, n, rfl, by rw [hn], by omega, w1, fun sp xs ds H2 f2 w2 nsp hsp hd hk up nd hl => ?_⟩
  have f02 := f1.trans f2
  have nspa : sp ≠ a := Well.ne w1 nsp
  walk_at "rd"
  intro A nA
  walk_at "rd"
  intro B nB
  have nAH : Fresh H A := f02.free nA
  have nBH : Fresh H B := (Fr.new (o := .lst []) f02 nA).free nB
  have nAa : A ≠ a := Well.ne w2 nA
  have nBa : B ≠ a := Well.ne (w2.new nA) nB
  have hspB : upd (upd H2 A (.lst [])) B (.lst []) sp = some (.lst xs) := keepU (keepU hsp nA) nB
  have spA : sp ≠ A := ne_fr hsp nA
  have spB : sp ≠ B := ne_fr (keepU (u := .lst []) hsp nA) nB
  have nAB : A ≠ B := ne_fr (upd_same : upd H2 A (.lst []) A = some (.lst [])) nB
  have hxl := hd.length
  have fin : ∀ {H'}, Fr (T3 a A B) H H' → Fr (One a) H H' := fun f => (Fr.refl H).sub' f fun b hb => by
    rcases hb with rfl | rfl | rfl
    · exact .inl rfl
    · exact .inr nAH
    · exact .inr nBH
  walk_at "rd"
  refine x_iRef (C := fun a => ∃ xs, SqL K (upd (upd H2 A (.lst [])) B (.lst [])) a xs) ⟨_, SqL.of hspB⟩ ?_
  refine x_forL xs (PInv a sp A B xs ds H) ⟨_, _, _, _, _, _, [], [], [], [], rfl, (Fr.new (Fr.new f02 nA) nB).sub (fun _ h => .inl h), (w2.new nA).new nB, hspB, (hd.upd nA).upd nB, keepU upd_same nB, upd_same, .nil, .nil, List.nil_sublist _, List.nil_sublist _, List.forall_mem_nil _, List.forall_mem_nil _⟩ (fun i σ H' _ ⟨_, _, _, _, _, _, _, _, _, _, _, _, _, h, _⟩ => SqL.of h) ?_ ?_
  · rintro i x σ H3 hx ⟨v4, v5, v6, v7, v8, v9, ts, us, F, S, rfl, f3, w3, hsp3, hd3, hA3, hB3, hF, hS, sF, sS, oF, oS⟩
    obtain ⟨d, hd1, hd2⟩ := hd3.get hx
    have hkd := hk d (List.mem_of_getElem? hd1)
    have hdt : ds.take (i + 1) = ds.take i ++ [d] := by rw [List.take_succ, hd1]; rfl
    have spT : ¬ T3 a A B sp := fun h => by
      rcases h with h | h | h
      · exact nspa h
      · exact spA h
      · exact spB h
    have hil := (List.getElem?_eq_some_iff.mp hd1).1
    have lF : ts.length ≤ i := by
      rw [Paired.length hF, ← List.length_map (f := (·.1))]
      exact Nat.le_trans sF.length_le (by rw [List.length_take]; omega)
    have lS : us.length ≤ i := by
      rw [Paired.length hS, ← List.length_map (f := (·.1))]
      exact Nat.le_trans sS.length_le (by rw [List.length_take]; omega)
    have sub1 : ∀ {H H'}, Fr (One a) H H' → Fr (T3 a A B) H H' := fun f => f.sub fun _ h => .inl h
    have nT3 : ∀ {H : Hp} {o : Addr} {u v : HO}, H A = some u → H B = some v → Fresh H o → o ≠ a → ¬ T3 a A B o := fun h1 h2 n na h => by
      rcases h with h | h | h
      · exact na h
      · exact ne_fr h1 n h.symm
      · exact ne_fr h2 n h.symm
    have hTA : T3 a A B A := .inr (.inl rfl)
    have hTB : T3 a A B B := .inr (.inr rfl)
    -- the state behind the two sides
    refine x_cut3 (fun σ' H' => ∃ (wy : Int) (o nn : Addr) (os ns : List PyData), σ' = [some (.ref a), some (.ref sp), some (.ref A), some (.ref B), some x, some (.int wy), some (.ref o), some (.ref nn), v8, v9] ∧ Fr (One a) H3 H' ∧ Well H' a ∧ SideA (T3 a A B) H' o os ∧ SideA (T3 a A B) H' nn ns) (fun nx hnx => ?_) ?_
    · walk_at "rd"
      refine ⟨a, _, rfl, rfl, by decide, by decide +kernel, w3, fun wy H4 f4 w4 y0 y1 => ?_⟩
      walk_at "rd"
      intro c0 nc0
      walk_at "rd"
      refine ⟨a, _, rfl, rfl, by decide, by decide +kernel, w4.new nc0, fun r H5 f5 w5 z0 z1 => ?_⟩
      have hc5 := f5.keep _ _ (upd_same : upd H4 c0 (.lst [V.int 0]) c0 = some (.lst [V.int 0])) (not_One (Well.ne w4 nc0))
      obtain ⟨vs0, es0, hcut, hdt0, hk0, hl0⟩ : ∃ (vs0 : List V) (es0 : List PyData), cutV [V.int 0] none (some r) = vs0 ∧ (∀ H, DtAll H vs0 es0) ∧ (∀ d ∈ es0, isK 3 d) ∧ es0.length ≤ 1 := by
        obtain rfl | rfl : r = 0 ∨ r = 1 := by omega
        · exact ⟨[], [], rfl, fun _ => .nil, List.forall_mem_nil _, by decide⟩
        · exact ⟨[.int 0], [.int 0], rfl, fun _ => .cons (.int _) .nil, (fun d hd => by rw [List.mem_singleton.mp hd]; exact keyB_iff.mp (by decide +kernel)), Nat.le_refl _⟩
      walk_at "rd"
      intro c1 nc1
      rw [hcut]
      have fa : Fr (One a) H3 (upd H5 c1 (.lst vs0)) := Fr.new ((Fr.new f4 nc0).trans f5) nc1
      have hAa := fa.keep _ _ hA3 (not_One nAa)
      have hBa := fa.keep _ _ hB3 (not_One nBa)
      walk_at "rd"
      refine ⟨a, c1, vs0, es0, rfl, rfl, w5.new nc1, upd_same, Well.ne w5 nc1, hdt0 _, hk0, hl0, fun o ys os H6 f6 w6 no noa ho hos kos los => ?_⟩
      have hAb := f6.keep _ _ hAa (not_One nAa)
      have hBb := f6.keep _ _ hBa (not_One nBa)
      walk_at "rd"
      refine ⟨a, o, ys, os, rfl, rfl, w6, ho, noa, hos, kos, los, fun nn zs ns H7 f7 w7 nnn nna hnn hns kns lns => ?_⟩
      walk_at "rd"
      exact hnx _ _ ⟨wy, o, nn, os, ns, rfl, (fa.trans f6).trans f7, w7, ⟨ys, f7.keep _ _ ho (not_One noa), nT3 hAa hBa no noa, hos.mono f7, kos, los⟩, ⟨zs, hnn, nT3 hAb hBb nnn nna, hns, kns, lns⟩⟩
    · rintro σ' H4 ⟨wy, o, nn, os, ns, rfl, f4, w4, ho, hn⟩
      have hA4 := f4.keep _ _ hA3 (not_One nAa)
      have hB4 := f4.keep _ _ hB3 (not_One nBa)
      have hF4 := RowsA.mono hF (sub1 f4)
      have hS4 := RowsA.mono hS (sub1 f4)
      have hx4 := hd2.mono f4
      refine x_cut (fun σ' H' => ∃ (ts : List Addr) (F : List Row), σ' = [some (.ref a), some (.ref sp), some (.ref A), some (.ref B), some x, some (.int wy), some (.ref o), some (.ref nn), v8, v9] ∧ Fr (T3 a A B) H4 H' ∧ Well H' a ∧ H' A = some (.lst (ts.map V.ref)) ∧ H' B = some (.lst (us.map V.ref)) ∧ RowsA (T3 a A B) H' ts F ∧ (F.map (·.1)).Sublist (ds.take (i + 1)) ∧ (∀ r ∈ F, okS r)) (fun nx hnx => ?_) ?_
      · obtain ⟨ys, o1, o2, o3, o4, o5⟩ := ho
        obtain ⟨zs, n1, n2, n3, n4, n5⟩ := hn
        walk_at "rd"
        cases hwy : decide (wy = 0) with
        | true =>
          walk_at "rd"
          exact hnx _ _ ⟨ts, F, rfl, Fr.refl _, w4, hA4, hB4, hF4, sF.trans (by rw [hdt]; exact List.sublist_append_left _ _), oF⟩
        | false =>
          walk_at "rd"
          intro u nu
          have hA5 := keepU (u := .tup [x, .ref o, .ref nn]) hA4 nu
          have hB5 := keepU (u := .tup [x, .ref o, .ref nn]) hB4 nu
          have f5 : Fr (T3 a A B) H4 (upd H4 u (.tup [x, .ref o, .ref nn])) := Fr.new (Fr.refl _) nu
          have w5 := w4.new (u := .tup [x, .ref o, .ref nn]) nu
          have hu5 : upd H4 u (.tup [x, .ref o, .ref nn]) u = some (.tup [x, .ref o, .ref nn]) := upd_same
          have row : RowA (T3 a A B) (upd H4 u (.tup [x, .ref o, .ref nn])) u (d, os, ns) := ⟨x, o, nn, ys, zs, hu5, .inl (hx4.upd nu), keepU o1 nu, o2, GdAll.of (o3.upd nu), keepU n1 nu, n2, GdAll.of (n3.upd nu)⟩
          generalize upd H4 u (.tup [x, .ref o, .ref nn]) = H5 at hA5 hB5 f5 w5 hu5 row ⊢
          have hsz : (ts.map V.ref).length ≤ 100000 := by rw [List.length_map]; omega
          walk_at "rd"
          have fm : Fr (T3 a A B) H5 (upd H5 A (.lst (ts.map V.ref ++ [.ref u]))) := Fr.mut (Fr.refl _) hA5 rfl (.inl hTA)
          have fm1 : Fr (One A) H5 (upd H5 A (.lst (ts.map V.ref ++ [.ref u]))) := Fr.mut (Fr.refl _) hA5 rfl (.inl rfl)
          refine hnx _ _ ⟨ts ++ [u], F ++ [(d, os, ns)], rfl, f5.trans fm, w5.fr fm1 (not_One (Ne.symm nAa)), by rw [List.map_append]; exact upd_same, (upd_ne (Ne.symm nAB)).trans hB5, RowsA.mono (paired_app (RowsA.mono hF4 f5) (.cons row .nil)) fm, ?_, ?_⟩
          · rw [List.map_append, hdt]; exact List.Sublist.append sF (List.Sublist.refl _)
          · intro r hr'
            rcases List.mem_append.mp hr' with hr' | hr'
            · exact oF r hr'
            · rw [List.mem_singleton.mp hr']; exact ⟨hkd, o4, n4, o5, n5⟩
      · rintro σ' H5 ⟨ts, F, rfl, f5, w5, hA5, hB5, hF5, sF, oF⟩
        have ho5 := ho.mono f5
        have hn5 := hn.mono f5
        have hS5 := RowsA.mono hS4 f5
        have hx5 := hx4.mono f5
        refine x_cut2 (fun σ' H' => ∃ (g : Addr) (gs : List PyData), σ' = [some (.ref a), some (.ref sp), some (.ref A), some (.ref B), some x, some (.int wy), some (.ref o), some (.ref nn), some (.ref g), v9] ∧ Fr (One a) H5 H' ∧ Well H' a ∧ SideA (T3 a A B) H' g gs) (fun nx hnx => ?_) ?_
        · walk_at "rd"
          refine ⟨a, _, rfl, rfl, by decide, by decide +kernel, w5, fun r H6 f6 w6 z0 z1 => ?_⟩
          have hn6 := hn5.mono (sub1 f6)
          have hA6 := f6.keep _ _ hA5 (not_One nAa)
          have hB6 := f6.keep _ _ hB5 (not_One nBa)
          walk_at "rd"
          refine x_dec (fun c1 => ?_) (fun c1 => ?_)
          · obtain ⟨zs, n1, n2, n3, n4, n5⟩ := hn6
            walk_at "rd"
            refine ⟨a, nn, zs, ns, rfl, rfl, w6, n1, (fun h => n2 (.inl h)), n3, n4, n5, fun g ys gs H7 f7 w7 ng nga hg hgs kgs lgs => ?_⟩
            walk_at "rd"
            exact hnx _ _ ⟨g, gs, rfl, f6.trans f7, w7, ⟨ys, hg, nT3 hA6 hB6 ng nga, hgs, kgs, lgs⟩⟩
          · walk_at "rd"
            exact hnx _ _ ⟨nn, ns, rfl, f6, w6, hn6⟩
        · rintro σ' H6 ⟨g, gs, rfl, f6, w6, hg6⟩
          have hA6 := f6.keep _ _ hA5 (not_One nAa)
          have hB6 := f6.keep _ _ hB5 (not_One nBa)
          have ho6 := ho5.mono (sub1 f6)
          refine x_cut2 (fun σ' H' => ∃ (g' : Addr) (gs' : List PyData), σ' = [some (.ref a), some (.ref sp), some (.ref A), some (.ref B), some x, some (.int wy), some (.ref o), some (.ref nn), some (.ref g), some (.ref g')] ∧ Fr (One a) H6 H' ∧ Well H' a ∧ SideA (T3 a A B) H' g' gs') (fun nx hnx => ?_) ?_
          · obtain ⟨zs, n1, n2, n3, n4, n5⟩ := id hg6
            walk_at "rd"
            refine ⟨a, g, zs, gs, rfl, rfl, w6, n1, (fun h => n2 (.inl h)), n3, n4, n5, fun e ys es H7 f7 w7 ne nea he hes kes les => ?_⟩
            have he7 : SideA (T3 a A B) H7 e es := ⟨ys, he, nT3 hA6 hB6 ne nea, hes, kes, les⟩
            have hA7 := f7.keep _ _ hA6 (not_One nAa)
            have hB7 := f7.keep _ _ hB6 (not_One nBa)
            have ho7 := ho6.mono (sub1 f7)
            have hg7 := hg6.mono (sub1 f7)
            walk_at "rd"
            refine ⟨a, _, rfl, rfl, by decide, by decide +kernel, w7, fun r H8 f8 w8 z0 z1 => ?_⟩
            have hA8 := f8.keep _ _ hA7 (not_One nAa)
            have hB8 := f8.keep _ _ hB7 (not_One nBa)
            have he8 := he7.mono (sub1 f8)
            walk_at "rd"
            refine x_dec (fun c1 => ?_) (fun c1 => ?_)
            · obtain ⟨zs, n1, n2, n3, n4, n5⟩ := ho7.mono (sub1 f8)
              obtain ⟨zs2, g1, g2, g3, g4, g5⟩ := hg7.mono (sub1 f8)
              have lz : zs.length ≤ 1 := by rw [n3.length]; exact n5
              walk_at "rd"
              refine ⟨o, g, zs, zs2, os, gs, rfl, rfl, n1, g1, n3, g3, by omega, by omega, n4, g4, fun H9 f9 => ?_⟩
              have hA9 := f9.keep _ _ hA8 id
              have hB9 := f9.keep _ _ hB8 id
              have n19 := f9.keep _ _ n1 id
              have n39 := n3.mono f9
              have w9 := w8.fr f9 id
              have f79 : Fr (One a) H6 H9 := (f7.trans f8).trans f9.non
              have he9 := he8.mono f9.non
              cases hal : PyData.eqvAll os gs with
              | true =>
                walk_at "rd"
                exact hnx _ _ ⟨e, es, rfl, f79, w9, he9⟩
              | false =>
                walk_at "rd"
                intro p np
                exact hnx _ _ ⟨p, os, rfl, Fr.new f79 np, w9.new np, ⟨zs, upd_same, nT3 hA9 hB9 np (Well.ne w9 np), n39.upd np, n4, n5⟩⟩
            · walk_at "rd"
              exact hnx _ _ ⟨e, es, rfl, f7.trans f8, w8, he8⟩
          · rintro σ' H7 ⟨e, es, rfl, f7, w7, he7⟩
            have f57 := f6.trans f7
            have hA7 := f7.keep _ _ hA6 (not_One nAa)
            have hB7 := f7.keep _ _ hB6 (not_One nBa)
            have hF7 := RowsA.mono hF5 (sub1 f57)
            have hS7 := RowsA.mono hS5 (sub1 f57)
            have hx7 := hx5.mono f57
            have f37 : Fr (T3 a A B) H3 H7 := ((sub1 f4).trans f5).trans (sub1 f57)
            have hsp7 := f37.keep _ _ hsp3 spT
            obtain ⟨ys, e1, e2, e3, e4, e5⟩ := he7
            obtain ⟨zs, g1, g2, g3, g4, g5⟩ := hg6.mono (sub1 f7)
            walk_at "rd"
            cases hwy : decide (wy = 1) with
            | true =>
              walk_at "rd"
              exact ⟨_, _, _, _, _, _, ts, us, F, S, rfl, f3.trans f37, w7, hsp7, hd3.mono f37, hA7, hB7, hF7, hS7, sF, sS.trans (by rw [hdt]; exact List.sublist_append_left _ _), oF, oS⟩
            | false =>
              walk_at "rd"
              intro u nu
              have hA8 := keepU (u := .tup [x, .ref g, .ref e]) hA7 nu
              have hB8 := keepU (u := .tup [x, .ref g, .ref e]) hB7 nu
              have f8 : Fr (T3 a A B) H7 (upd H7 u (.tup [x, .ref g, .ref e])) := Fr.new (Fr.refl _) nu
              have w8 := w7.new (u := .tup [x, .ref g, .ref e]) nu
              have hu8 : upd H7 u (.tup [x, .ref g, .ref e]) u = some (.tup [x, .ref g, .ref e]) := upd_same
              have row : RowA (T3 a A B) (upd H7 u (.tup [x, .ref g, .ref e])) u (d, gs, es) := ⟨x, g, e, zs, ys, hu8, .inl (hx7.upd nu), keepU g1 nu, g2, GdAll.of (g3.upd nu), keepU e1 nu, e2, GdAll.of (e3.upd nu)⟩
              generalize upd H7 u (.tup [x, .ref g, .ref e]) = H8 at hA8 hB8 f8 w8 hu8 row ⊢
              have hsz : (us.map V.ref).length ≤ 100000 := by rw [List.length_map]; omega
              walk_at "rd"
              have fm : Fr (T3 a A B) H8 (upd H8 B (.lst (us.map V.ref ++ [.ref u]))) := Fr.mut (Fr.refl _) hB8 rfl (.inl hTB)
              have fm1 : Fr (One B) H8 (upd H8 B (.lst (us.map V.ref ++ [.ref u]))) := Fr.mut (Fr.refl _) hB8 rfl (.inl rfl)
              have f38 := (f37.trans f8).trans fm
              refine ⟨_, _, _, _, _, _, ts, us ++ [u], F, S ++ [(d, gs, es)], rfl, f3.trans f38, w8.fr fm1 (not_One (Ne.symm nBa)), f38.keep _ _ hsp3 spT, hd3.mono f38, (upd_ne nAB).trans hA8, by rw [List.map_append]; exact upd_same, RowsA.mono hF7 (f8.trans fm), RowsA.mono (paired_app (RowsA.mono hS7 f8) (.cons row .nil)) fm, sF, ?_, oF, ?_⟩
              · rw [List.map_append, hdt]; exact List.Sublist.append sS (List.Sublist.refl _)
              · intro r hr'
                rcases List.mem_append.mp hr' with hr' | hr'
                · exact oS r hr'
                · rw [List.mem_singleton.mp hr']; exact ⟨hkd, g4, e4, g5, e5⟩
  · rintro σ H3 ⟨v4, v5, v6, v7, v8, v9, ts, us, F, S, rfl, f3, w3, hsp3, hd3, hA3, hB3, hF, hS, sF, sS, oF, oS⟩
    rw [List.take_of_length_le (by omega)] at sF sS
    walk_at "rd"
    intro t nt
    have fR : Fr Non H3 (upd H3 t (.tup [.ref A, .ref B])) := Fr.new (Fr.refl _) nt
    refine q t A B ts us F S _ (fin (Fr.new f3 nt)) (w3.new nt) upd_same (keepU hA3 nt) (keepU hB3 nt) (RowsA.mono (RowsA.less hF fun _ h => h.elim) fR) (RowsA.mono (RowsA.less hS fun _ h => h.elim) fR) ⟨oF, upK_sub up sF, nd.sublist sF⟩ ⟨oS, upK_sub up sS, nd.sublist sS⟩ ?_ ?_
    · rw [← List.length_map (f := (·.1))]; exact Nat.le_trans sF.length_le (by omega)
    · rw [← List.length_map (f := (·.1))]; exact Nat.le_trans sS.length_le (by omega)
end

-- the def top 13
theorem sc_law_well : FnScope ["_law_script", "_law_k", "_law_left", "_law_cell", "_law_digits"] ["_law_script", "_law_k"] (defScope s_law_well) := ⟨rfl, rfl, rfl, by decide +kernel, rfl, by decide +kernel, by decide +kernel⟩
def B_law_well (K : PySem.W.Frag) : BK2 := fun s k H Q _ => ∃ (a : Addr) (ns : List Int) (i : Int), s = .ref a ∧ k = .int i ∧ 0 ≤ i ∧ SqL K H a (ns.map V.int) ∧ ns.length ≤ 63 ∧
  ∀ p H', Fr Non H H' → Fresh H p → Well H' p → Q (.ref p) H'
section
variable {P : Program} {w : World} {K : PySem.W.Frag} {mg : Str → Option Value} {base : Heap}
theorem ok_law_well (T : TX K mg) : CalX P w K mg base 1 "_law_well" ["_law_script", "_law_k"] (Sp2 (B_law_well K)) := by
  obtain ⟨f, fd, F, hm, bd⟩ := T.d_law_well.ex
  refine ⟨f, fd, F.okX sc_law_well len2 (fun cdv A outer s H vs Q E hr h => ?_), hm, F.kp, bd⟩
  obtain ⟨s, k, rfl, h⟩ := h
  refine ⟨_, (pss_cons (ps_set (i := 2) sc_law_well.nd rfl (Or.inl rfl) (pe_ix ix_list (pe_lst (pa_cons pe_int (pa_cons pe_int pa_nil))) (pe_callTy c_int (by rfl) T.b_int (by decide +kernel) (pa_cons (pe_cmpR op_eq (pv 1) pe_int (nomark _)) pa_nil)) (fun _ _ => rfl))) (pss_cons (ps_set (i := 3) sc_law_well.nd rfl (Or.inl rfl) (pe_ix ix_list (pe_op op_cat (pe_callTy c_listOf (by rfl) T.b_list (by decide +kernel) (pa_cons (pv 0) pa_nil)) (pe_lst (pa_cons pe_int pa_nil))) (pe_op op_mod (pv 1) (pe_callB (c_max2 rfl) (by rfl) T.b_max (by decide +kernel) (pa_cons pe_int (pa_cons (pe_callB c_len (by rfl) T.b_len (by decide +kernel) (pa_cons (pv 0) pa_nil)) pa_nil)))) (fun _ _ => rfl))) (pss_cons (ps_set (i := 4) sc_law_well.nd rfl (Or.inl rfl) (pe_op op_mul (pe_callB c_abs (by rfl) T.b_abs (by decide +kernel) (pa_cons (pv 3) pa_nil)) (pe_callTy c_int (by rfl) T.b_int (by decide +kernel) (pa_cons (pe_and (pe_cmpR op_ge (pe_callB c_abs (by rfl) T.b_abs (by decide +kernel) (pa_cons (pv 3) pa_nil)) (pe_op op_pow pe_int pe_int) (nomark _)) (pe_one (pe_cmpR op_lt (pv 1) (pe_callB c_len (by rfl) T.b_len (by decide +kernel) (pa_cons (pv 0) pa_nil)) (nomark _)))) pa_nil)))) (pss_one (ps_ret (pe_lst (pa_cons (pe_op op_mod (pv 3) pe_int) (pa_cons (pe_op op_mul pe_int (pv 1)) (pa_cons (pv 4) (pa_cons (pv 2) pa_nil)))))))))), ?_⟩
  show (_ : TS) _ [some s, some k, none, none, none] H
  first | dsimp only [L2.cxOf] | skip
  obtain ⟨a, ns, i, rfl, rfl, hi, hS, hn, q⟩ := h
  have hx : ∃ z : Int, atI (ns.map V.int ++ [V.int 0]) (i % (if ((ns.map V.int).length : Int) > 1 then ((ns.map V.int).length : Int) else 1)) = some (V.int z) := by
    have hm1 : (0 : Int) < (if ((ns.map V.int).length : Int) > 1 then ((ns.map V.int).length : Int) else 1) := by split <;> omega
    have hm2 : (if ((ns.map V.int).length : Int) > 1 then ((ns.map V.int).length : Int) else 1) ≤ ((ns.map V.int ++ [V.int 0]).length : Int) := by
      rw [List.length_append, List.length_singleton]; split <;> omega
    obtain ⟨v, h1, h2⟩ := atI_ex (xs := ns.map V.int ++ [V.int 0]) (Int.emod_nonneg i (by omega)) (Int.lt_of_lt_of_le (Int.emod_lt_of_pos i hm1) hm2)
    have hv : v ∈ ns.map V.int ++ [V.int 0] := List.mem_of_getElem? h2
    rcases List.mem_append.mp hv with hv | hv
    · obtain ⟨z, _, rfl⟩ := List.mem_map.mp hv
      exact ⟨z, h1⟩
    · rw [List.mem_singleton] at hv
      exact ⟨0, by rw [h1, hv]⟩
  have hm1 : (0 : Int) < (if ((ns.map V.int).length : Int) > 1 then ((ns.map V.int).length : Int) else 1) := by split <;> omega
  obtain ⟨z, hz⟩ := hx
  walk_at "rd"
  intro p1 n1
  walk_at "rd"
  intro p2 n2
  walk_at "rd"
  intro p3 n3
  walk_at "rd"
  intro p4 n4
  walk_at "rd"
  refine x_dec (fun _ => ?_) (fun _ => ?_)
  · walk_at "rd"
    intro p5 n5
    exact q _ _ (by walk_at "fr") (by walk_at "nn") ⟨_, _, _, _, upd_same, by omega, by omega⟩
  · walk_at "rd"
    intro p5 n5
    exact q _ _ (by walk_at "fr") (by walk_at "nn") ⟨_, _, _, _, upd_same, by omega, by omega⟩
end

-- the def top 26
theorem sc_law_due : FnScope ["_law_first", "_law_second", "_law_sides", "_law_spot", "_law_old", "_law_new", "_law_stale", "_law_rows"] ["_law_first", "_law_second"] (defScope s_law_due) := ⟨rfl, rfl, rfl, by decide +kernel, rfl, by decide +kernel, by decide +kernel⟩
def B_law_due (K : PySem.W.Frag) : BK2 := fun f s H Q _ => ∃ (pf ps : Addr) (ts us : List Addr) (F S : List Row), f = .ref pf ∧ s = .ref ps ∧ H pf = some (.lst (ts.map V.ref)) ∧ H ps = some (.lst (us.map V.ref)) ∧ RowsA Non H ts F ∧ RowsA Non H us S ∧ Patch F ∧ Patch S ∧ F.length ≤ 6 ∧ S.length ≤ 6 ∧ ∀ v H', Fr Non H H' → TellsA (fun _ => True) (fun _ => Non) H' v F S → Q v H'
def Due1 (w : World) (H : Hp) (F : List Row) (pf ps D : Addr) : Nat → L2.St → Hp → Prop := fun i σ H' => ∃ (v3 v4 v5 : Option V) (xs : Mx), σ = [some (.ref pf), some (.ref ps), some (.ref D), v3, v4, v5, none, none] ∧ Fr Non H H' ∧ MxA w H' D xs ∧ SidesA (NewA H) H' xs (look (F.take i)) ∧ xs.length ≤ i
def Due2 (w : World) (H : Hp) (F S : List Row) (pf ps D T : Addr) : Nat → L2.St → Hp → Prop := fun i σ H' => ∃ (v3 v4 v5 : Option V) (xs : Mx) (vs : List V), σ = [some (.ref pf), some (.ref ps), some (.ref D), v3, v4, v5, some (.ref T), none] ∧ Fr Non H H' ∧ MxA w H' D xs ∧ SidesA (NewA H) H' xs (comb (look F) (look (S.take i))) ∧ xs.length ≤ 6 + i ∧ H' T = some (.lst vs) ∧ DtAll H' vs (((S.take i).filter (staleB F)).map (·.1))
def Due3 (w : World) (H : Hp) (m : SMap) (es : List PyData) (xs : Mx) (vs : List V) (pf ps D T L R : Addr) : Nat → L2.St → Hp → Prop := fun i σ H' => ∃ (v3 v4 v5 : Option V) (ts : List Addr), σ = [some (.ref pf), some (.ref ps), some (.ref D), v3, v4, v5, some (.ref T), some (.ref R)] ∧ Fr Non H H' ∧ MxA w H' D xs ∧ SidesA (NewA H) H' xs m ∧ H' L = some (.lst vs) ∧ DtAll H' vs es ∧ H' R = some (.lst (ts.map V.ref)) ∧ RowsA (NewA H) H' ts (rowsOf m (es.take i))
section
variable {P : Program} {w : World} {K : PySem.W.Frag} {mg : Str → Option Value} {base : Heap}
theorem ok_law_due (T : TX K mg) : CalX P w K mg base 10 "_law_due" ["_law_first", "_law_second"] (Sp2 (B_law_due K)) := by
  have C_law_rank := ok_law_rank (P := P) (w := w) (base := base) T 3
  have C_law_rows_alike := ok_law_rows_alike (P := P) (w := w) (base := base) T
  obtain ⟨f, fd, F, hm, bd⟩ := T.d_law_due.ex
  refine ⟨f, fd, F.okX sc_law_due len2 (fun cdv A outer s H vs Q E hr h => ?_), hm, F.kp, bd⟩
  obtain ⟨f, s, rfl, h⟩ := h
  refine ⟨_, (pss_cons (ps_set (i := 2) sc_law_due.nd rfl (Or.inl rfl) pe_dnewK) (pss_cons (ps_for (passes_of rfl) rfl (pi_list (pv 0)) (pg_tup rfl (pgs_cons (pg_name (i := 3) sc_law_due.nd rfl (Or.inl rfl)) (pgs_cons (pg_name (i := 4) sc_law_due.nd rfl (Or.inl rfl)) (pgs_cons (pg_name (i := 5) sc_law_due.nd rfl (Or.inl rfl)) pgs_nil)))) (pss_one (ps_asg (pe_tup (pa_cons (pv 4) (pa_cons (pv 5) pa_nil))) (pg_sub (pv 2) (pv 3) (set_mix (hu_of9 hr)))))) (pss_cons (ps_set (i := 6) sc_law_due.nd rfl (Or.inl rfl) (pe_lst pa_nil)) (pss_cons (ps_for (passes_of rfl) rfl (pi_list (pv 1)) (pg_tup rfl (pgs_cons (pg_name (i := 3) sc_law_due.nd rfl (Or.inl rfl)) (pgs_cons (pg_name (i := 4) sc_law_due.nd rfl (Or.inl rfl)) (pgs_cons (pg_name (i := 5) sc_law_due.nd rfl (Or.inl rfl)) pgs_nil)))) (pss_cons (ps_if (PW.pt (pw_and (pt_cmpR (op_inM (hu_of9 hr)) (pv 3) (pv 2) rfl) (pw_and1 (pt_not (pt_val (pcall C_law_rows_alike hr (by first | decide | omega) rfl Passes.none (pa_cons (pe_ix ix_seq (pe_ix (ix_mix (hu_of9 hr)) (pv 2) (pv 3) (fun _ _ => rfl)) pe_int (fun _ _ => rfl)) (pa_cons (pv 4) pa_nil)))))))) (pss_one (ps_expr (pe_bm PySem.F.plainAttrs_list PySem.F.slot_list_append PySem.F.type_list_append mt_append (pv 6) (pa_cons (pv 3) pa_nil)))) pss_nil) (pss_one (ps_asg (pe_tup (pa_cons (pe_ix ix_seq (pe_getM (hu_of9 hr) (pv 2) (pv 3) (pe_tup (pa_cons (pv 4) (pa_cons (pv 5) pa_nil))) ⟨rfl, rfl, rfl, rfl⟩) pe_int (fun _ _ => rfl)) (pa_cons (pv 5) pa_nil))) (pg_sub (pv 2) (pv 3) (set_mix (hu_of9 hr))))))) (pss_cons (ps_if (pt_cmpR (op_neD hr.units) (pv 6) (pe_lst pa_nil) (nomark _)) (pss_one (ps_ret (pe_tup (pa_cons pe_str (pa_cons (pe_ix ix_list (pe_callBK (cr_sortC C_law_rank hr (by first | decide | omega)) (by rfl) T.b_sorted (by decide +kernel) (pa_cons (pv 6) pa_nil) (pk_cons (pe_defC C_law_rank rfl) pk_nil)) pe_int (fun _ _ => rfl)) pa_nil))))) pss_nil) (pss_cons (ps_set (i := 7) sc_law_due.nd rfl (Or.inl rfl) (pe_lst pa_nil)) (pss_cons (ps_for (passes_of rfl) rfl (pi_list (pe_callBK (cr_sortM rfl C_law_rank hr (by first | decide | omega)) (by rfl) T.b_sorted (by decide +kernel) (pa_cons (pv 2) pa_nil) (pk_cons (pe_defC C_law_rank rfl) pk_nil))) (pg_name (i := 3) sc_law_due.nd rfl (Or.inl rfl)) (pss_cons (ps_asg (pe_ix (ix_mix (hu_of9 hr)) (pv 2) (pv 3) (fun _ _ => rfl)) (pg_tup rfl (pgs_cons (pg_name (i := 4) sc_law_due.nd rfl (Or.inl rfl)) (pgs_cons (pg_name (i := 5) sc_law_due.nd rfl (Or.inl rfl)) pgs_nil)))) (pss_one (ps_if (pt_not (pt_val (pcall C_law_rows_alike hr (by first | decide | omega) rfl Passes.none (pa_cons (pv 4) (pa_cons (pv 5) pa_nil))))) (pss_one (ps_expr (pe_bm PySem.F.plainAttrs_list PySem.F.slot_list_append PySem.F.type_list_append mt_append (pv 7) (pa_cons (pe_tup (pa_cons (pv 3) (pa_cons (pv 4) (pa_cons (pv 5) pa_nil)))) pa_nil)))) pss_nil)))) (pss_one (ps_ret (pe_tup (pa_cons pe_str (pa_cons (pv 7) pa_nil)))))))))))), ?_⟩
  show (_ : TS) _ [some f, some s, none, none, none, none, none, none] H
  first | dsimp only [L2.cxOf] | skip
  obtain ⟨pf, ps, ts, us, F, S, rfl, rfl, hpf, hps, hF, hS, PF, PS, lF, lS, q⟩ := h
  have hFo := RowsA.old hF
  have hSo := RowsA.old hS
  walk_at "rd"
  intro D nD
  walk_at "rd"
  refine x_iRef (C := fun a => ∃ xs, SqL K (upd H D (.dK [])) a xs) ⟨_, SqL.of (keepU hpf nD)⟩ ?_
  refine x_forL (ts.map V.ref) (Due1 w H F pf ps D) ⟨_, _, _, [], rfl, Fr.new (Fr.refl _) nD, ⟨.inr ⟨rfl, upd_same⟩, List.forall_mem_nil _, List.forall_mem_nil _, List.nodup_nil⟩, by rw [List.take_zero]; exact SidesA.nil, Nat.zero_le _⟩ (fun i σ H' _ ⟨_, _, _, _, _, f, _⟩ => SqL.of (f.keep _ _ hpf id)) ?_ ?_
  · rintro i x σ H1 hx ⟨v3, v4, v5, xs, rfl, f1, M, hs, hl⟩
    rw [List.getElem?_map] at hx
    obtain ⟨t, ht, rfl⟩ := Option.map_eq_some_iff.mp hx
    obtain ⟨r, hri, hrow⟩ := paired_get (RowsA.mono hFo f1.non) ht
    have ok := PF.ok r (List.mem_of_getElem? hri)
    have hil := (List.getElem?_eq_some_iff.mp hri).1
    obtain ⟨x, a1, b1, os, ns, e1, e2, e3, e4, e5, e6, e7, e8⟩ := hrow.keys ok
    walk_at "rd"
    intro u nu
    have fu : Fr Non H1 (upd H1 u (.tup [.ref a1, .ref b1])) := Fr.new (Fr.refl _) nu
    have M2 := M.keepS fu id
    walk_at "rd"
    refine ⟨D, xs, r.1, rfl, M2, e2.upd nu, ok.1, by omega, fun xs' pm M3 => ?_⟩
    walk_at "rd"
    refine ⟨_, _, _, xs', rfl, M2.fr (f1.trans fu) (.inr nD), M3, ?_, by have := pm.len; omega⟩
    rw [look_put PF.nd hri]
    exact (hs.mono fu.non).put (M2.fr (Fr.refl _) (.inl nD)) pm M3.nd ⟨u, a1, b1, os, ns, rfl, upd_same, keepU e3 nu, e4, e5.upd nu, keepU e6 nu, e7, e8.upd nu⟩
  · rintro σ H1 ⟨v3, v4, v5, xs, rfl, f1, M, hs, hl⟩
    rw [List.take_of_length_le (by rw [List.length_map, Paired.length hF]; exact Nat.le_refl _)] at hs
    rw [List.length_map, Paired.length hF] at hl
    walk_at "rd"
    intro T nT
    have fT : Fr Non H1 (upd H1 T (.lst [])) := Fr.new (Fr.refl _) nT
    have nTH : Fresh H T := f1.free nT
    have nDT : D ≠ T := by
      obtain ⟨o, ho⟩ := M.has
      exact ne_fr ho nT
    have f2 := f1.trans fT
    have hps2 := f2.keep _ _ hps id
    walk_at "rd"
    refine x_iRef (C := fun a => ∃ xs, SqL K (upd H1 T (.lst [])) a xs) ⟨_, SqL.of hps2⟩ ?_
    refine x_forL (us.map V.ref) (Due2 w H F S pf ps D T) ⟨_, _, _, xs, [], rfl, f2, M.keepS fT id, by rw [List.take_zero, comb_nil]; exact hs.mono fT.non, by omega, upd_same, by rw [List.take_zero]; exact .nil⟩ (fun i σ H' _ ⟨_, _, _, _, _, _, f, _⟩ => SqL.of (f.keep _ _ hps id)) ?_ ?_
    · rintro i x σ H3 hx ⟨v3, v4, v5, xs, vs, rfl, f3, M, hs, hl, hT, hvs⟩
      rw [List.getElem?_map] at hx
      obtain ⟨t, ht, rfl⟩ := Option.map_eq_some_iff.mp hx
      obtain ⟨r, hri, hrow⟩ := paired_get (RowsA.mono hSo f3.non) ht
      have ok := PS.ok r (List.mem_of_getElem? hri)
      have hil := (List.getElem?_eq_some_iff.mp hri).1
      obtain ⟨x, a1, b1, os, ns, e1, e2, e3, e4, e5, e6, e7, e8⟩ := hrow.keys ok
      have hno := look_fresh PS.nd hri
      have hm : comb (look F) (look (S.take i)) r.1 = look F r.1 := comb_none2 hno
      have hvl : vs.length ≤ 100000 := by
        rw [hvs.length, List.length_map]
        exact Nat.le_trans (List.length_filter_le _ _) (by rw [List.length_take]; omega)
      refine x_row3 e1 ?_
      refine x_cut (fun σ' H' => ∃ vs, σ' = [some (.ref pf), some (.ref ps), some (.ref D), some x, some (.ref a1), some (.ref b1), some (.ref T), none] ∧ Fr (One T) H3 H' ∧ H' T = some (.lst vs) ∧ DtAll H' vs (((S.take (i + 1)).filter (staleB F)).map (·.1))) (fun nx hnx => ?_) ?_
      · walk_at "rd"
        refine ⟨D, xs, r.1, rfl, M, e2, ok.1, fun hn => ?_, fun z hz hzd => ?_⟩
        · have h0 : look F r.1 = none := by rw [← hm]; exact hs.no hn
          walk_at "rd"
          refine hnx _ _ ⟨vs, rfl, Fr.refl _, hT, ?_⟩
          rw [take_snoc hri, filter_snoc, staleB_none h0, if_neg Bool.false_ne_true, List.append_nil]
          exact hvs
        · obtain ⟨on, h1, tt, c1, c2, os', ns', ev, g1, g2, g3, g4, g5, g6, g7⟩ := hs.1 z hz
          rw [hzd, hm] at h1
          have okF := look_ok PF h1
          have lc : ns'.length ≤ 1 := by rw [g7.length]; exact okF.2.2.2.2
          walk_at "rd"
          refine ⟨D, xs, r.1, z, rfl, M, e2, ok.1, hz, hzd, ?_⟩
          rw [ev]
          walk_at "rd"
          refine ⟨c2, a1, ns', os, on.2, r.2.1, rfl, rfl, g5, e3, g7, e5, Nat.le_trans okF.2.2.2.2 (by decide), Nat.le_trans ok.2.2.2.1 (by decide), okF.2.2.1, ok.2.1, fun H4 f4 => ?_⟩
          have hT4 := f4.keep _ _ hT id
          have hvs4 := hvs.mono f4
          have e24 := e2.mono f4
          have hst := staleB_some (r := r) h1
          cases hal : PyData.eqvAll on.2 r.2.1 with
          | true =>
            walk_at "rd"
            rw [hal] at hst
            refine hnx _ _ ⟨vs, rfl, f4.non, hT4, ?_⟩
            rw [take_snoc hri, filter_snoc, hst, if_neg (by decide), List.append_nil]
            exact hvs4
          | false =>
            walk_at "rd"
            rw [hal] at hst
            refine hnx _ _ ⟨vs ++ [x], rfl, Fr.mut f4.non hT4 rfl (.inl rfl), upd_same, ?_⟩
            rw [take_snoc hri, filter_snoc, hst, if_pos (by decide), List.map_append]
            exact (DtAll.app hvs4 (.cons e24 .nil)).updm hT4 rfl
      · rintro σ' H4 ⟨vs, rfl, f4, hT4, hvs4⟩
        have fo : Fr (NewA H) H3 H4 := f4.sub fun b h => by
          cases h; exact nTH
        have f04 : Fr Non H H4 := f3.back_new fo
        have M4 := M.keepS f4 (not_One nDT)
        have hs4 := hs.mono fo
        have e24 := e2.mono fo
        have e34 := fo.keep _ _ e3 e4
        have e54 := e5.mono fo
        have e64 := fo.keep _ _ e6 e7
        have e84 := e8.mono fo
        walk_at "rd"
        refine ⟨.ref D, rfl, D, rfl, ⟨xs, M4⟩, x, rfl, ?_⟩
        walk_at "rd"
        intro u nu
        have fu : Fr Non H4 (upd H4 u (.tup [.ref a1, .ref b1])) := Fr.new (Fr.refl _) nu
        have hu : upd H4 u (.tup [.ref a1, .ref b1]) u = some (.tup [.ref a1, .ref b1]) := upd_same
        generalize upd H4 u (.tup [.ref a1, .ref b1]) = H5 at fu hu ⊢
        have f05 := f04.trans fu
        have M5 := M4.keepS fu id
        have hs5 := hs4.mono fu.non
        have e25 := e24.mono fu
        have e35 := fu.keep _ _ e34 id
        have e55 := e54.mono fu
        have e65 := fu.keep _ _ e64 id
        have e85 := e84.mono fu
        have hT5 := fu.keep _ _ hT4 id
        have hvs5 := hvs4.mono fu
        walk_at "rd"
        refine ⟨xs, r.1, M5, e25, ok.1, fun hn => ?_, fun z hz hzd => ?_⟩
        · have h0 : look F r.1 = none := by rw [← hm]; exact hs5.no hn
          walk_at "rd"
          intro u2 nu2
          have f2 : Fr Non H5 (upd H5 u2 (.tup [.ref a1, .ref b1])) := Fr.new (Fr.refl _) nu2
          have M6 := M5.keepS f2 id
          walk_at "rd"
          refine ⟨D, xs, r.1, rfl, M6, e25.upd nu2, ok.1, by omega, fun xs' pm M7 => ?_⟩
          have fD : Fr (One D) (upd H5 u2 (.tup [.ref a1, .ref b1])) (upd (upd H5 u2 (.tup [.ref a1, .ref b1])) D (MixO w D xs')) := M6.fr (Fr.refl _) (.inl rfl)
          walk_at "rd"
          refine ⟨_, _, _, xs', vs, rfl, M6.fr (f05.trans f2) (.inr nD), M7, ?_, by have := pm.len; omega, fD.keep _ _ (f2.keep _ _ hT5 id) (not_One (Ne.symm nDT)), ?_⟩
          · rw [look_put PS.nd hri, comb_put2 r.2.1 (by rw [h0])]
            exact (hs5.mono f2.non).put (M6.fr (Fr.refl _) (.inl nD)) pm M7.nd ⟨u2, a1, b1, os, ns, rfl, upd_same, keepU e35 nu2, e4, e55.upd nu2, keepU e65 nu2, e7, e85.upd nu2⟩
          · exact (hvs5.mono f2).mono fD
        · obtain ⟨on, h1, tt, c1, c2, os', ns', ev, g1, g2, g3, g4, g5, g6, g7⟩ := hs5.1 z hz
          rw [hzd, hm] at h1
          rw [ev]
          walk_at "rd"
          intro u2 nu2
          have f2 : Fr Non H5 (upd H5 u2 (.tup [.ref c1, .ref b1])) := Fr.new (Fr.refl _) nu2
          have M6 := M5.keepS f2 id
          walk_at "rd"
          refine ⟨D, xs, r.1, rfl, M6, e25.upd nu2, ok.1, by omega, fun xs' pm M7 => ?_⟩
          have fD : Fr (One D) (upd H5 u2 (.tup [.ref c1, .ref b1])) (upd (upd H5 u2 (.tup [.ref c1, .ref b1])) D (MixO w D xs')) := M6.fr (Fr.refl _) (.inl rfl)
          walk_at "rd"
          refine ⟨_, _, _, xs', vs, rfl, M6.fr (f05.trans f2) (.inr nD), M7, ?_, by have := pm.len; omega, fD.keep _ _ (f2.keep _ _ hT5 id) (not_One (Ne.symm nDT)), ?_⟩
          · rw [look_put PS.nd hri, comb_put2 on.1 (by rw [h1])]
            exact (hs5.mono f2.non).put (M6.fr (Fr.refl _) (.inl nD)) pm M7.nd ⟨u2, c1, b1, os', ns, rfl, upd_same, keepU g2 nu2, g3, g4.upd nu2, keepU e65 nu2, e7, e85.upd nu2⟩
          · exact (hvs5.mono f2).mono fD
    · rintro σ H3 ⟨v3, v4, v5, xs, vs, rfl, f3, M, hs, hl, hT, hvs⟩
      rw [List.take_of_length_le (by rw [List.length_map, Paired.length hS]; exact Nat.le_refl _)] at hs hvs
      rw [List.length_map, Paired.length hS] at hl
      have hkS : ∀ d ∈ (S.filter (staleB F)).map (·.1), isK 3 d := fun d hd => by
        obtain ⟨r, hr', rfl⟩ := List.mem_map.mp hd
        exact (PS.ok r (List.mem_filter.mp hr').1).1
      have PT : Patch (S.filter (staleB F)) := PS.sub List.filter_sublist
      walk_at "rd"
      intro p np
      refine x_neD (.lst (SqL.of (keepU hT np)) (DtAll.dp _ _ (hvs.upd np))) (.lst (SqL.of upd_same) .nil) (side_shaped fun d hd => okG_key (hkS d hd) (by decide)) (by decide +kernel) ?_
      have fp : Fr Non H3 (upd H3 p (.lst [])) := Fr.new (Fr.refl _) np
      generalize upd H3 p (.lst []) = H4 at fp ⊢
      have f4 := f3.trans fp
      have M4 := M.keepS fp id
      have hs4 := hs.mono fp.non
      have hT4 := fp.keep _ _ hT id
      have hvs4 := hvs.mono fp
      cases hst : (S.filter (staleB F)).map (·.1) with
      | cons d ds =>
        have e0 : PyData.eqv (.list (d :: ds)) (.list []) = false := by rw [PyData.eqv]; rfl
        rw [e0]
        have u1 : upK (d :: ds) := by rw [← hst]; exact PT.up
        have n1 : (d :: ds).Nodup := by rw [← hst]; exact PT.nd
        rw [hst] at hvs4 hkS
        walk_at "rd"
        refine ⟨T, vs, (d :: ds).map rankD, rfl, rfl, SqL.of hT4, by rw [List.length_map, hvs4.length], rank_allalike _, rank_sortable _, fun e hm => ?_, fun i v e H' hv hdd f => ?_, fun p H' f n hp => ?_⟩
        · obtain ⟨e, he, rfl⟩ := List.mem_map.mp hm
          exact Nat.le_trans (rank_depth (hkS e he)) (by decide)
        · obtain ⟨e, he1, he2⟩ := hvs4.get hv
          rw [List.getElem?_map, he1] at hdd
          cases hdd
          exact ⟨v, rfl, e, he2.mono f, hkS e (List.mem_of_getElem? he1), fun u H2 f2 h2 => ⟨f2, h2⟩⟩
        · obtain ⟨es, e1, e2, e3⟩ := byKey_rank (hvs4.mono f)
          obtain rfl : es = d :: ds := upK_unique e2 u1 e1 fun x hx => hkS x (e1.mem_iff.mp hx)
          generalize (byKey vs ((d :: ds).map rankD)).map Prod.fst = ys at hp e3
          cases e3 with
          | @cons v0 _ vs0 _ hv0 hr0 =>
          walk_at "rd"
          intro t nt
          refine q _ _ (Fr.new (f4.trans f) nt) (.inl ⟨t, v0, d, rfl, upd_same, hv0.upd nt, hkS d (List.mem_cons_self ..), by rw [hst]; rfl⟩)
      | nil =>
        have e0 : PyData.eqv (.list []) (.list []) = true := by rw [PyData.eqv]; rfl
        rw [e0]
        have hnone : S.filter (staleB F) = [] := List.map_eq_nil_iff.mp hst
        walk_at "rd"
        intro R nR
        have fR : Fr Non H4 (upd H4 R (.lst [])) := Fr.new (Fr.refl _) nR
        have hR : upd H4 R (.lst []) R = some (.lst []) := upd_same
        have nDR : D ≠ R := by
          obtain ⟨o, ho⟩ := M4.has
          exact ne_fr ho nR
        have nRH : Fresh H R := f4.free nR
        generalize upd H4 R (.lst []) = H5 at fR hR ⊢
        have f5 := f4.trans fR
        have M5 := M4.keepS fR id
        have hs5 := hs4.mono fR.non
        have hd5 : DtAll H5 (xs.map (·.2.1)) (xs.map (·.1)) := M5.keysdt
        have hk5 : ∀ d ∈ xs.map (·.1), isK 3 d := fun d hm => by
          obtain ⟨x, hx, rfl⟩ := List.mem_map.mp hm
          exact M5.ok x hx
        walk_at "rd"
        refine ⟨D, xs, (xs.map (·.1)).map rankD, rfl, rfl, M5, by rw [List.length_map, List.length_map], rank_allalike _, rank_sortable _, fun d hm => ?_, fun i v d H' hv hdd f => ?_, fun p H6 f6 n hp => ?_⟩
        · obtain ⟨e, he, rfl⟩ := List.mem_map.mp hm
          exact Nat.le_trans (rank_depth (hk5 e he)) (by decide)
        · obtain ⟨e, he1, he2⟩ := hd5.get hv
          rw [List.getElem?_map, he1] at hdd
          cases hdd
          exact ⟨v, rfl, e, he2.mono f, hk5 e (List.mem_of_getElem? he1), fun u H2 f2 h2 => ⟨f2, h2⟩⟩
        · obtain ⟨es, e1, e2, e3⟩ := byKey_rank (hd5.mono f6)
          generalize (byKey (xs.map (·.2.1)) ((xs.map (·.1)).map rankD)).map Prod.fst = ys at hp e3
          have KO : KeysOf (comb (look F) (look S)) es := hs5.keys e1 e2 M5.nd M5.ok
          have lE : es.length ≤ 12 := by rw [e1.length_eq, List.length_map]; omega
          have npR : p ≠ R := fun e => ne_fr hR n e.symm
          have npD : D ≠ p := by
            obtain ⟨o, ho⟩ := M5.has
            exact ne_fr ho n
          refine x_iRef (C := fun a => ∃ xs, SqL K H6 a xs) ⟨_, SqL.of hp⟩ ?_
          refine x_forL ys (Due3 w H (comb (look F) (look S)) es xs ys pf ps D T p R) ⟨_, _, _, [], rfl, f5.trans f6, M5.keepS f6 id, hs5.mono f6.non, hp, e3, f6.keep _ _ hR id, by rw [List.take_zero]; exact .nil⟩ (fun i σ H' _ ⟨_, _, _, _, _, _, _, _, h, _⟩ => SqL.of h) ?_ ?_
          · rintro i x σ H7 hx ⟨v3, v4, v5, ts, rfl, f7, M7, hs7, hp7, hd7, hR7, hrs7⟩
            obtain ⟨d, hd1, hd2⟩ := hd7.get hx
            obtain ⟨on, hon⟩ := (KO.2.2.2 d).mp (List.mem_of_getElem? hd1)
            have okC := comb_ok PF PS hon
            obtain ⟨z, hz, hzd, tt, c1, c2, os, ns, ev, g1, g2, g3, g4, g5, g6, g7⟩ := hs7.at hon
            have hsn := rowsOf_snoc hd1 hon
            have lt : (ts.map V.ref).length ≤ 100000 := by
              rw [List.length_map, Paired.length hrs7]
              exact Nat.le_trans (rowsOf_len _ _) (by rw [List.length_take]; omega)
            walk_at "rd"
            refine ⟨D, xs, d, z, rfl, M7, hd2, okC.1, hz, hzd, ?_⟩
            rw [ev]
            walk_at "rd"
            refine ⟨c1, c2, os, ns, on.1, on.2, rfl, rfl, g2, g5, g4, g7, Nat.le_trans okC.2.2.2.1 (by decide), Nat.le_trans okC.2.2.2.2 (by decide), okC.2.1, okC.2.2.1, fun H8 f8 => ?_⟩
            have M8 := M7.keepS f8 id
            have hs8 := hs7.mono f8.non
            have hp8 := f8.keep _ _ hp7 id
            have hd8 := hd7.mono f8
            have hR8 := f8.keep _ _ hR7 id
            have hrs8 := RowsA.mono hrs7 f8.non
            have hx8 := hd2.mono f8
            have g28 := f8.keep _ _ g2 id
            have g48 := g4.mono f8
            have g58 := f8.keep _ _ g5 id
            have g78 := g7.mono f8
            cases hal : PyData.eqvAll on.1 on.2 with
            | true =>
              walk_at "rd"
              refine ⟨_, _, _, ts, rfl, f7.trans f8, M8, hs8, hp8, hd8, hR8, ?_⟩
              rw [hsn, if_pos hal, List.append_nil]; exact hrs8
            | false =>
              walk_at "rd"
              intro u nu
              have f9 : Fr Non H8 (upd H8 u (.tup [x, .ref c1, .ref c2])) := Fr.new (Fr.refl _) nu
              have hu : upd H8 u (.tup [x, .ref c1, .ref c2]) u = some (.tup [x, .ref c1, .ref c2]) := upd_same
              generalize upd H8 u (.tup [x, .ref c1, .ref c2]) = H9 at f9 hu ⊢
              have hR9 := f9.keep _ _ hR8 id
              walk_at "rd"
              have fm : Fr (NewA H) H9 (upd H9 R (.lst (ts.map V.ref ++ [.ref u]))) := Fr.mut (Fr.refl _) hR9 rfl (.inl nRH)
              have fm1 : Fr (One R) H9 (upd H9 R (.lst (ts.map V.ref ++ [.ref u]))) := Fr.mut (Fr.refl _) hR9 rfl (.inl rfl)
              refine ⟨_, _, _, ts ++ [u], rfl, ((f7.trans f8).trans f9).back_new fm, (M8.keepS f9 id).keepS fm1 (not_One nDR), (hs8.mono f9.non).mono fm, fm1.keep _ _ (f9.keep _ _ hp8 id) (not_One npR), (hd8.mono f9).mono fm1, by rw [List.map_append]; exact upd_same, ?_⟩
              rw [hsn, if_neg (by rw [hal]; exact Bool.false_ne_true)]
              exact RowsA.mono (paired_app (RowsA.mono hrs8 f9.non) (.cons ⟨x, c1, c2, os, ns, hu, .inl (hx8.mono f9), f9.keep _ _ g28 id, g3, GdAll.of (g48.mono f9), f9.keep _ _ g58 id, g6, GdAll.of (g78.mono f9)⟩ .nil)) fm
          · rintro σ H7 ⟨v3, v4, v5, ts, rfl, f7, M7, hs7, hp7, hd7, hR7, hrs7⟩
            rw [hd7.length, List.take_length] at hrs7
            walk_at "rd"
            intro t nt
            exact q _ _ (Fr.new f7 nt) (.inr ⟨t, R, ts, es, rfl, upd_same, trivial, hnone, KO, by omega, keepU hR7 nt, RowsA.mono (RowsA.less hrs7 fun _ h => h.elim) (Fr.new (Fr.refl _) nt)⟩)
end

-- the def top 28
theorem sc_law_copy : FnScope ["_law_rows", "_law_spot", "_law_old", "_law_new"] ["_law_rows"] (defScope s_law_copy) := ⟨rfl, rfl, rfl, by decide +kernel, rfl, by decide +kernel, by decide +kernel⟩
def B_law_copy (K : PySem.W.Frag) : BK1 := fun t H Q _ => ∃ (a : Addr) (ts : List Addr) (rs : List Row), t = .ref a ∧ H a = some (.lst (ts.map V.ref)) ∧ RowsA Non H ts rs ∧ rs.length ≤ 100 ∧ (∀ r ∈ rs, okRow r) ∧
  ∀ p us H', Fr Non H H' → H' p = some (.lst (us.map V.ref)) → RowsA Non H' us rs → Q (.ref p) H'
section
variable {P : Program} {w : World} {K : PySem.W.Frag} {mg : Str → Option Value} {base : Heap}
theorem ok_law_copy (T : TX K mg) : CalX P w K mg base 1 "_law_copy" ["_law_rows"] (Sp1 (B_law_copy K)) := by
  obtain ⟨f, fd, F, hm, bd⟩ := T.d_law_copy.ex
  refine ⟨f, fd, F.okX sc_law_copy len1 (fun cdv A outer s H vs Q E hr h => ?_), hm, F.kp, bd⟩
  obtain ⟨t, rfl, h⟩ := h
  refine ⟨_, (pss_one (ps_ret (pe_lc (own := [("_law_spot", 1), ("_law_old", 2), ("_law_new", 3)]) (g := gTup K 3 (gCons (gName 1) (gCons (gName 2) (gCons (gName 3) gNil)))) (tt := tYes) rfl sc_law_copy.nd (pi_list (pv 0)) (blkOk_by (N := ["_law_rows", "_law_spot", "_law_old", "_law_new"]) (sc := defScope s_law_copy) (own := [("_law_spot", 1), ("_law_old", 2), ("_law_new", 3)]) (by decide +kernel)) (fun _ _ _ _ _ => pg_tup rfl (pgs_cons (pg_name (i := 1) sc_law_copy.nd rfl (by first | exact Or.inl rfl | exact Or.inr rfl)) (pgs_cons (pg_name (i := 2) sc_law_copy.nd rfl (by first | exact Or.inl rfl | exact Or.inr rfl)) (pgs_cons (pg_name (i := 3) sc_law_copy.nd rfl (by first | exact Or.inl rfl | exact Or.inr rfl)) pgs_nil)))) (fun _ _ _ _ _ => pts_nil) (fun _ _ _ _ _ => (pe_tup (pa_cons (pv 1) (pa_cons (pe_callTy (r := rListOf K) c_listOf (by rfl) T.b_list (by decide +kernel) (pa_cons (pv 2) pa_nil)) (pa_cons (pe_callTy (r := rListOf K) c_listOf (by rfl) T.b_list (by decide +kernel) (pa_cons (pv 3) pa_nil)) pa_nil)))))))), ?_⟩
  show (_ : TS) _ [some t, none, none, none] H
  first | dsimp only [L2.cxOf] | skip
  obtain ⟨a, ts, rs, rfl, ha, hr', hl, hok, q⟩ := h
  walk_at "rd"
  refine x_iRef (C := fun a => ∃ xs, SqL K H a xs) ⟨_, SqL.of ha⟩ ?_
  intro D nD
  refine x_lcL (ts.map V.ref) (fun i H' => Fr Non H H' ∧ ∃ us : List Addr, H' D = some (.lst (us.map V.ref)) ∧ RowsA (One D) H' us (rs.take i)) ⟨Fr.new (Fr.refl _) nD, [], upd_same, by rw [List.take_zero]; exact .nil⟩ (fun i H' _ ⟨g, _⟩ => SqL.of (g.keep _ _ ha id)) ?_ ?_
  · rintro i x H1 hx ⟨f1, us, hD, hus⟩
    rw [List.getElem?_map] at hx
    obtain ⟨t, ht, rfl⟩ := Option.map_eq_some_iff.mp hx
    obtain ⟨r, hri, x, a1, b1, os, ns, e1, e2, e3, e4, e5, e6, e7, e8⟩ := paired_get (RowsA.mono hr' f1) ht
    have hok1 := hok r (List.mem_of_getElem? hri)
    have htk : rs.take (i + 1) = rs.take i ++ [r] := by rw [List.take_succ, hri]; rfl
    have hul : us.length = (rs.take i).length := Paired.length hus
    have hul2 : us.length ≤ 100 := by rw [hul, List.length_take]; omega
    walk_at "rd"
    intro l nl
    walk_at "rd"
    intro l2 nl2
    walk_at "rd"
    intro u nu
    have f4 : Fr Non H1 (upd (upd (upd H1 l (.lst os)) l2 (.lst ns)) u (.tup [x, .ref l, .ref l2])) := Fr.new (Fr.new (Fr.new (Fr.refl _) nl) nl2) nu
    have hl1 : (upd (upd (upd H1 l (.lst os)) l2 (.lst ns)) u (.tup [x, .ref l, .ref l2])) l = some (.lst os) := keepU (keepU upd_same nl2) nu
    have hl2 : (upd (upd (upd H1 l (.lst os)) l2 (.lst ns)) u (.tup [x, .ref l, .ref l2])) l2 = some (.lst ns) := keepU upd_same nu
    have hu4 : (upd (upd (upd H1 l (.lst os)) l2 (.lst ns)) u (.tup [x, .ref l, .ref l2])) u = some (.tup [x, .ref l, .ref l2]) := upd_same
    have n1 : l ≠ D := Ne.symm (ne_fr hD nl)
    have n2 : l2 ≠ D := Ne.symm (ne_fr (keepU (u := .lst os) hD nl) nl2)
    generalize upd (upd (upd H1 l (.lst os)) l2 (.lst ns)) u (.tup [x, .ref l, .ref l2]) = H4 at f4 hl1 hl2 hu4 ⊢
    have hD4 := f4.keep _ _ hD id
    have hsz : (us.map V.ref).length ≤ 100000 := by rw [List.length_map]; omega
    walk_at "rd"
    have fm : Fr (One D) H4 (upd H4 D (.lst (us.map V.ref ++ [.ref u]))) := Fr.mut (Fr.refl _) hD4 rfl (.inl rfl)
    obtain ⟨r2, hr2, x', a', b', os', ns', e1', e2', e3', e4', e5', e6', e7', e8'⟩ := paired_get ((RowsA.fresh hr' nD).mono (f1.sub fun _ h => h.elim)) ht
    rw [hri] at hr2
    cases hr2
    rw [e1] at e1'
    cases e1'
    rw [e3] at e3'
    cases e3'
    rw [e6] at e6'
    cases e6'
    refine ⟨Fr.mut (f1.trans f4) hD4 rfl (.inr nD), us ++ [u], by rw [List.map_append]; exact upd_same, ?_⟩
    rw [htk]
    have fO : Fr (One D) H1 H4 := f4.sub fun _ h => h.elim
    exact RowsA.mono (paired_app (RowsA.mono hus fO) (.cons ⟨x, l, l2, os, ns, hu4, e2'.mono fO, hl1, not_One n1, e5'.mono fO, hl2, not_One n2, e8'.mono fO⟩ .nil)) fm
  · rintro H1 ⟨f1, us, hD, hus⟩
    rw [List.take_of_length_le (by rw [List.length_map, Paired.length hr']; exact Nat.le_refl _)] at hus
    exact q D us H1 f1 hD (RowsA.less hus fun _ h => h.elim)
end

-- the def top 7
theorem sc_rank : FnScope ["key", "part"] ["key"] (defScope s_rank) := ⟨rfl, rfl, rfl, by decide +kernel, rfl, by decide +kernel, by decide +kernel⟩
/-- the key in the place of which the program compares -/
def B_rank (r : Nat) : BK1 := fun k H Q _ => ∃ d, Dt H k d ∧ isK r d ∧ ∀ v H', Fr Non H H' → Dt H' v (rankD d) → Q v H'
section
variable {P : Program} {w : World} {K : PySem.W.Frag} {mg : Str → Option Value} {base : Heap}
theorem step_rank (T : TX K mg) (r k : Nat) (spR : Sp) (hR : ∀ r1, r = r1 + 1 → ∀ vs H Q E, Sp1 (B_rank r1) vs H Q E → spR vs H Q E) (C_rank : CalX P w K mg base k "rank" ["key"] spR) (hk : 1 ≤ k) : CalX P w K mg base (k + 1) "rank" ["key"] (Sp1 (B_rank r)) := by
  obtain ⟨f, fd, F, hm, bd⟩ := T.d_rank.ex
  refine ⟨f, fd, F.okX sc_rank len1 (fun cdv A outer s H vs Q E hr h => ?_), hm, F.kp, bd⟩
  obtain ⟨k, rfl, h⟩ := h
  refine ⟨_, (pss_cons (ps_if (pt_val (pe_callB call_isi (by rfl) T.b_isinstance PyProof.Rows.boot_isinstance (pa_cons (pv 0) (pa_cons (pe_bltn (v := .ty "int") rfl T.b_int PyProof.Rows.boot_int rfl) pa_nil)))) (pss_one (ps_ret (pe_tup (pa_cons pe_int (pa_cons (pv 0) (pa_cons pe_str (pa_cons (pe_tup pa_nil) pa_nil))))))) pss_nil) (pss_cons (ps_if (pt_val (pe_callB call_isi (by rfl) T.b_isinstance PyProof.Rows.boot_isinstance (pa_cons (pv 0) (pa_cons (pe_bltn (v := .ty "str") rfl T.b_str PyProof.Rows.boot_str rfl) pa_nil)))) (pss_one (ps_ret (pe_tup (pa_cons pe_int (pa_cons pe_int (pa_cons (pv 0) (pa_cons (pe_tup pa_nil) pa_nil))))))) pss_nil) (pss_one (ps_ret (pe_tup (pa_cons pe_int (pa_cons pe_int (pa_cons pe_str (pa_cons (pe_callTy c_tupOf (by rfl) T.b_tuple (by decide +kernel) (pa_cons (pe_lc (own := [("part", 1)]) (g := gName 1) (tt := tYes) rfl sc_rank.nd (pi_tup (pv 0)) (blkOk_by (N := ["key", "part"]) (sc := defScope s_rank) (own := [("part", 1)]) (by decide +kernel)) (fun _ _ _ _ _ => pg_name (i := 1) sc_rank.nd rfl (by first | exact Or.inl rfl | exact Or.inr rfl)) (fun _ _ _ _ _ => pts_nil) (fun _ _ _ _ _ => (pcall C_rank hr (by first | decide | omega) rfl Passes.none (pa_cons (pv 1) pa_nil)))) pa_nil)) pa_nil))))))))), ?_⟩
  show (_ : TS) _ [some k, none] H
  first | dsimp only [L2.cxOf] | skip
  obtain ⟨d, hd, hk, q⟩ := h
  rcases isK_cases hk with ⟨i, rfl, hi⟩ | ⟨z, rfl, hz⟩ | ⟨r1, ds, rfl, rfl, hl, hs⟩
  · cases hd
    walk_at "rd"
    intro p1 n1
    walk_at "rd"
    intro p2 n2
    exact q _ _ (by walk_at "fr") (by rw [rankD]; walk_at "dt")
  · cases hd
    walk_at "rd"
    intro p1 n1
    walk_at "rd"
    intro p2 n2
    exact q _ _ (by walk_at "fr") (by rw [rankD]; walk_at "dt")
  · cases hd with
    | @tup a xs _ e hx =>
    have hlx : xs.length ≤ 4 := by rw [hx.length]; exact hl
    walk_at "rd"
    refine x_iRef (C := fun a => ∃ xs, SqT K H a xs) ⟨xs, SqT.of e⟩ ?_
    walk_at "rd"
    intro D nD
    refine x_lcT xs (fun i H' => ∃ acc, H' D = some (.lst acc) ∧ DtAll H' acc (rankAll (ds.take i)) ∧ acc.length = i ∧ Fr Non H H') ⟨[], upd_same, .nil, rfl, by walk_at "fr"⟩ (fun i H' _ ⟨_, _, _, _, f⟩ => SqT.of (f.tup _ _ e)) ?_ ?_
    · rintro i x H3 hxi ⟨acc, hD, hds, hla, f3⟩
      obtain ⟨d, hd1, hd2⟩ := hx.get hxi
      have hil : i < xs.length := (List.getElem?_eq_some_iff.mp hxi).1
      have hla4 : acc.length ≤ 100000 := by omega
      walk_at "rd"
      refine hR r1 rfl _ _ _ _ ?_
      walk_at "rd"
      refine ⟨d, hd2.mono f3, hs d (List.mem_of_getElem? hd1), fun v H4 f4 hv => ?_⟩
      walk_at "rd"
      refine ⟨acc ++ [v], upd_same, ?_, by rw [List.length_append, hla]; rfl, ?_⟩
      · rw [List.take_add_one, hd1, rankAll_map, List.map_append, ← rankAll_map]
        exact DtAll.app (by walk_at "dt") (DtAll.one (by walk_at "dt"))
      · walk_at "fr"
    · rintro H3 ⟨acc, hD, hds, hla, f3⟩
      rw [List.take_of_length_le (by rw [← hx.length]; exact Nat.le_refl _)] at hds
      walk_at "rd"
      intro l1 n1
      walk_at "rd"
      intro l2 n2
      exact q _ _ (by walk_at "fr") (by rw [rankD]; walk_at "dt")
theorem ok_rank (T : TX K mg) : ∀ r : Nat, CalX P w K mg base (2 + r) "rank" ["key"] (Sp1 (B_rank r))
  | 0 => step_rank T 0 1 _ (fun _ e => nomatch e) (CalX.never T.d_rank sc_rank (by decide)) (Nat.le_refl _)
  | r + 1 => step_rank T (r + 1) (2 + r) _ (fun r1 e => by cases e; exact fun _ _ _ _ h => h) (ok_rank T r) (by omega)
end

-- the def top 8
theorem sc_order : FnScope ["keys"] ["keys"] (defScope s_order) := ⟨rfl, rfl, rfl, by decide +kernel, rfl, by decide +kernel, by decide +kernel⟩
def B_order (K : PySem.W.Frag) : BK1 := fun t H Q _ => ∃ (a : Addr) (xs : List V) (ds : List PyData), t = .ref a ∧ SqL K H a xs ∧ DtAll H xs ds ∧ (∀ d ∈ ds, isK 3 d) ∧
  ∀ p H' ys es, Fr Non H H' → Fresh H p → H' p = some (.lst ys) → DtAll H' ys es → es.Perm ds → upK es → Q (.ref p) H'
section
variable {P : Program} {w : World} {K : PySem.W.Frag} {mg : Str → Option Value} {base : Heap}
theorem ok_order (T : TX K mg) : CalX P w K mg base 8 "order" ["keys"] (Sp1 (B_order K)) := by
  have C_rank := ok_rank (P := P) (w := w) (base := base) T 3
  obtain ⟨f, fd, F, hm, bd⟩ := T.d_order.ex
  refine ⟨f, fd, F.okX sc_order len1 (fun cdv A outer s H vs Q E hr h => ?_), hm, F.kp, bd⟩
  obtain ⟨t, rfl, h⟩ := h
  refine ⟨_, (pss_one (ps_ret (pe_callBK (cr_sortC C_rank hr (by first | decide | omega)) (by rfl) T.b_sorted (by decide +kernel) (pa_cons (pv 0) pa_nil) (pk_cons (pe_defC C_rank rfl) pk_nil)))), ?_⟩
  show (_ : TS) _ [some t] H
  first | dsimp only [L2.cxOf] | skip
  obtain ⟨a, xs, ds, rfl, ha, hd, hk, q⟩ := h
  walk_at "rd"
  refine ⟨a, xs, ds.map rankD, rfl, rfl, ha, by rw [List.length_map, hd.length], rank_allalike ds, rank_sortable ds, fun d hm => ?_, fun i v d H' hv hdd f => ?_, fun p H' f n hp => ?_⟩
  · obtain ⟨e, he, rfl⟩ := List.mem_map.mp hm
    exact Nat.le_trans (rank_depth (hk e he)) (by decide)
  · obtain ⟨e, he1, he2⟩ := hd.get hv
    rw [List.getElem?_map, he1] at hdd
    cases hdd
    exact ⟨v, rfl, e, he2.mono f, hk e (List.mem_of_getElem? he1), fun u H2 f2 h2 => ⟨f2, h2⟩⟩
  · obtain ⟨es, e1, e2, e3⟩ := byKey_rank (hd.mono f)
    exact q p H' _ es f n hp e3 e1 e2
end

-- the def inClass (top 5) 0
theorem sc_Stale___init__ : FnScope ["self", "key"] ["self", "key"] (defScope s_Stale___init__) := ⟨rfl, rfl, rfl, by decide +kernel, rfl, by decide +kernel, by decide +kernel⟩
section
variable {P : Program} {w : World} {K : PySem.W.Frag} {mg : Str → Option Value} {base : Heap}
theorem ok_Stale___init__ (T : TX K mg) : MkX P w K mg base 1 "Stale" "key" := by
  obtain ⟨fI, fd, F, iC, tI, b⟩ := T.d_Stale___init__.ex
  refine ⟨fI, fd, _, F.okX sc_Stale___init__ len2 (fun cdv A outer s H vs Q E hr h => ?_), iC, tI, b⟩
  obtain ⟨self, y, rfl, a, rfl, ha, q⟩ := h
  refine ⟨_, (pss_cons (ps_expr (pe_owninit rfl T.x_TwigError.m T.bs_TwigError (pa_cons (pv 0) (pa_cons pe_str pa_nil)))) (pss_one (ps_ost (pv 0) (pv 1)))), ?_⟩
  exact x_init T.o_Stale.o T.o_Stale.no ha q
end

-- the def top 11
theorem sc_behind : FnScope ["first", "second", "sides", "key", "old", "new", "rows"] ["first", "second"] (defScope s_behind) := ⟨rfl, rfl, rfl, by decide +kernel, rfl, by decide +kernel, by decide +kernel⟩
def B_behind (K : PySem.W.Frag) (mg : Str → Option Value) : BK2 := fun f s H Q E => ∃ (pf ps : Addr) (ts us : List Addr) (F S : List Row), f = .ref pf ∧ s = .ref ps ∧ H pf = some (.lst (ts.map V.ref)) ∧ H ps = some (.lst (us.map V.ref)) ∧ RowsA Non H ts F ∧ RowsA Non H us S ∧ Patch F ∧ Patch S ∧ F.length ≤ 6 ∧ S.length ≤ 6 ∧
  (∀ d v dd H', ((S.filter (staleB F)).map (·.1)).head? = some d → isK 3 d → Fr Non H H' → H' dd = some (.xd [("key", v)]) → Dt H' v d → E (.ref (clA mg "Stale")) (some dd) H') ∧
  (∀ R ws ks H', S.filter (staleB F) = [] → KeysOf (comb (look F) (look S)) ks → ks.length ≤ 200 → Fr Non H H' → Fresh H R → H' R = some (.lst (ws.map V.ref)) → RowsA (OldP H R) H' ws (rowsOf (comb (look F) (look S)) ks) → Q (.ref R) H')
def Beh1 (w : World) (H : Hp) (S : List Row) (pf ps D : Addr) : Nat → L2.St → Hp → Prop := fun i σ H' => ∃ (v3 v4 v5 : Option V) (xs : Mx), σ = [some (.ref pf), some (.ref ps), some (.ref D), v3, v4, v5, none] ∧ Fr Non H H' ∧ MxA w H' D xs ∧ SidesA (NewA H) H' xs (look (S.take i)) ∧ xs.length ≤ i
def Beh2 (w : World) (H : Hp) (F S : List Row) (pf ps D : Addr) : Nat → L2.St → Hp → Prop := fun i σ H' => ∃ (v3 v4 v5 : Option V) (xs : Mx), σ = [some (.ref pf), some (.ref ps), some (.ref D), v3, v4, v5, none] ∧ Fr Non H H' ∧ MxA w H' D xs ∧ SidesA (NewA H) H' xs (comb (look (F.take i)) (look S)) ∧ xs.length ≤ 6 + i ∧ (F.take i).filter (staleF S) = []
def Beh3 (w : World) (H : Hp) (m : SMap) (es : List PyData) (xs : Mx) (vs : List V) (pf ps D L R : Addr) : Nat → L2.St → Hp → Prop := fun i σ H' => ∃ (v3 v4 v5 : Option V) (ts : List Addr), σ = [some (.ref pf), some (.ref ps), some (.ref D), v3, v4, v5, some (.ref R)] ∧ Fr Non H H' ∧ MxA w H' D xs ∧ SidesA (NewA H) H' xs m ∧ H' L = some (.lst vs) ∧ DtAll H' vs es ∧ H' R = some (.lst (ts.map V.ref)) ∧ RowsA (OldP H R) H' ts (rowsOf m (es.take i))
section
variable {P : Program} {w : World} {K : PySem.W.Frag} {mg : Str → Option Value} {base : Heap}
theorem ok_behind (T : TX K mg) : CalX P w K mg base 9 "behind" ["first", "second"] (Sp2 (B_behind K mg)) := by
  have C_order := ok_order (P := P) (w := w) (base := base) T
  have C_Stale___init__ := ok_Stale___init__ (P := P) (w := w) (base := base) T
  obtain ⟨f, fd, F, hm, bd⟩ := T.d_behind.ex
  refine ⟨f, fd, F.okX sc_behind len2 (fun cdv A outer s H vs Q E hr h => ?_), hm, F.kp, bd⟩
  obtain ⟨f, s, rfl, h⟩ := h
  refine ⟨_, (pss_cons (ps_set (i := 2) sc_behind.nd rfl (Or.inl rfl) pe_dnewK) (pss_cons (ps_for (passes_of rfl) rfl (pi_list (pv 1)) (pg_tup rfl (pgs_cons (pg_name (i := 3) sc_behind.nd rfl (Or.inl rfl)) (pgs_cons (pg_name (i := 4) sc_behind.nd rfl (Or.inl rfl)) (pgs_cons (pg_name (i := 5) sc_behind.nd rfl (Or.inl rfl)) pgs_nil)))) (pss_one (ps_asg (pe_tup (pa_cons (pv 4) (pa_cons (pv 5) pa_nil))) (pg_sub (pv 2) (pv 3) (set_mix (hu_of9 hr)))))) (pss_cons (ps_for (passes_of rfl) rfl (pi_list (pv 0)) (pg_tup rfl (pgs_cons (pg_name (i := 3) sc_behind.nd rfl (Or.inl rfl)) (pgs_cons (pg_name (i := 4) sc_behind.nd rfl (Or.inl rfl)) (pgs_cons (pg_name (i := 5) sc_behind.nd rfl (Or.inl rfl)) pgs_nil)))) (pss_one (ps_if (pt_cmpR (op_notInM (hu_of9 hr)) (pv 3) (pv 2) rfl) (pss_one (ps_asg (pe_tup (pa_cons (pv 4) (pa_cons (pv 5) pa_nil))) (pg_sub (pv 2) (pv 3) (set_mix (hu_of9 hr))))) (pss_one (ps_if (pt_cmpR (op_neD hr.units) (pe_ix ix_seq (pe_ix (ix_mix (hu_of9 hr)) (pv 2) (pv 3) (fun _ _ => rfl)) pe_int (fun _ _ => rfl)) (pv 5) (nomark _)) (pss_one (ps_raiseI rfl (takes_of rfl rfl rfl rfl) (pmk_I C_Stale___init__ T.o_Stale hr (by first | decide | omega) rfl (pa_cons (pv 3) pa_nil)))) (pss_one (ps_asg (pe_tup (pa_cons (pv 4) (pa_cons (pe_ix ix_seq (pe_ix (ix_mix (hu_of9 hr)) (pv 2) (pv 3) (fun _ _ => rfl)) pe_int (fun _ _ => rfl)) pa_nil))) (pg_sub (pv 2) (pv 3) (set_mix (hu_of9 hr)))))))))) (pss_cons (ps_set (i := 6) sc_behind.nd rfl (Or.inl rfl) (pe_lst pa_nil)) (pss_cons (ps_for (passes_of rfl) rfl (pi_list (pcall C_order hr (by first | decide | omega) rfl (passes_call (takes_of rfl rfl rfl rfl) (fun _ _ _ _ h => h)) (pa_cons (pe_callTy (c_listM rfl) (by rfl) T.b_list (by decide +kernel) (pa_cons (pv 2) pa_nil)) pa_nil))) (pg_name (i := 3) sc_behind.nd rfl (Or.inl rfl)) (pss_cons (ps_asg (pe_ix (ix_mix (hu_of9 hr)) (pv 2) (pv 3) (fun _ _ => rfl)) (pg_tup rfl (pgs_cons (pg_name (i := 4) sc_behind.nd rfl (Or.inl rfl)) (pgs_cons (pg_name (i := 5) sc_behind.nd rfl (Or.inl rfl)) pgs_nil)))) (pss_one (ps_if (pt_cmpR (op_neD hr.units) (pv 4) (pv 5) (nomark _)) (pss_one (ps_expr (pe_bm PySem.F.plainAttrs_list PySem.F.slot_list_append PySem.F.type_list_append mt_append (pv 6) (pa_cons (pe_tup (pa_cons (pv 3) (pa_cons (pe_callTy c_listOf (by rfl) T.b_list (by decide +kernel) (pa_cons (pv 4) pa_nil)) (pa_cons (pe_callTy c_listOf (by rfl) T.b_list (by decide +kernel) (pa_cons (pv 5) pa_nil)) pa_nil)))) pa_nil)))) pss_nil)))) (pss_one (ps_ret (pv 6)))))))), ?_⟩
  show (_ : TS) _ [some f, some s, none, none, none, none, none] H
  first | dsimp only [L2.cxOf] | skip
  obtain ⟨pf, ps, ts, us, F, S, rfl, rfl, hpf, hps, hF, hS, PF, PS, lF, lS, qe, q⟩ := h
  have hFo := RowsA.old hF
  have hSo := RowsA.old hS
  have hst1 := stale_one PF PS
  walk_at "rd"
  intro D nD
  walk_at "rd"
  refine x_iRef (C := fun a => ∃ xs, SqL K (upd H D (.dK [])) a xs) ⟨_, SqL.of (keepU hps nD)⟩ ?_
  refine x_forL (us.map V.ref) (Beh1 w H S pf ps D) ⟨_, _, _, [], rfl, Fr.new (Fr.refl _) nD, ⟨.inr ⟨rfl, upd_same⟩, List.forall_mem_nil _, List.forall_mem_nil _, List.nodup_nil⟩, by rw [List.take_zero]; exact SidesA.nil, Nat.zero_le _⟩ (fun i σ H' _ ⟨_, _, _, _, _, f, _⟩ => SqL.of (f.keep _ _ hps id)) ?_ ?_
  · rintro i x σ H1 hx ⟨v3, v4, v5, xs, rfl, f1, M, hs, hl⟩
    rw [List.getElem?_map] at hx
    obtain ⟨t, ht, rfl⟩ := Option.map_eq_some_iff.mp hx
    obtain ⟨r, hri, hrow⟩ := paired_get (RowsA.mono hSo f1.non) ht
    have ok := PS.ok r (List.mem_of_getElem? hri)
    have hil := (List.getElem?_eq_some_iff.mp hri).1
    obtain ⟨x, a1, b1, os, ns, e1, e2, e3, e4, e5, e6, e7, e8⟩ := hrow.keys ok
    walk_at "rd"
    intro u nu
    have fu : Fr Non H1 (upd H1 u (.tup [.ref a1, .ref b1])) := Fr.new (Fr.refl _) nu
    have M2 := M.keepS fu id
    walk_at "rd"
    refine ⟨D, xs, r.1, rfl, M2, e2.upd nu, ok.1, by omega, fun xs' pm M3 => ?_⟩
    walk_at "rd"
    refine ⟨_, _, _, xs', rfl, M2.fr (f1.trans fu) (.inr nD), M3, ?_, by have := pm.len; omega⟩
    rw [look_put PS.nd hri]
    exact (hs.mono fu.non).put (M2.fr (Fr.refl _) (.inl nD)) pm M3.nd ⟨u, a1, b1, os, ns, rfl, upd_same, keepU e3 nu, e4, e5.upd nu, keepU e6 nu, e7, e8.upd nu⟩
  · rintro σ H1 ⟨v3, v4, v5, xs, rfl, f1, M, hs, hl⟩
    rw [List.take_of_length_le (by rw [List.length_map, Paired.length hS]; exact Nat.le_refl _)] at hs
    rw [List.length_map, Paired.length hS] at hl
    have hpf2 := f1.keep _ _ hpf id
    walk_at "rd"
    refine x_iRef (C := fun a => ∃ xs, SqL K H1 a xs) ⟨_, SqL.of hpf2⟩ ?_
    refine x_forL (ts.map V.ref) (Beh2 w H F S pf ps D) ⟨_, _, _, xs, rfl, f1, M, by rw [List.take_zero, comb_nil1]; exact hs, by omega, by rw [List.take_zero]; rfl⟩ (fun i σ H' _ ⟨_, _, _, _, _, f, _⟩ => SqL.of (f.keep _ _ hpf id)) ?_ ?_
    · rintro i x σ H3 hx ⟨v3, v4, v5, xs, rfl, f3, M, hs, hl, hnone⟩
      rw [List.getElem?_map] at hx
      obtain ⟨t, ht, rfl⟩ := Option.map_eq_some_iff.mp hx
      obtain ⟨r, hri, hrow⟩ := paired_get (RowsA.mono hFo f3.non) ht
      have ok := PF.ok r (List.mem_of_getElem? hri)
      have hil := (List.getElem?_eq_some_iff.mp hri).1
      obtain ⟨x, a1, b1, os, ns, e1, e2, e3, e4, e5, e6, e7, e8⟩ := hrow.keys ok
      have hno := look_fresh PF.nd hri
      have hm : comb (look (F.take i)) (look S) r.1 = look S r.1 := comb_none1 hno
      walk_at "rd"
      refine ⟨D, xs, r.1, rfl, M, e2, ok.1, fun hn => ?_, fun z hz hzd => ?_⟩
      · have h0 : look S r.1 = none := by rw [← hm]; exact hs.no hn
        walk_at "rd"
        intro u2 nu2
        have f2 : Fr Non H3 (upd H3 u2 (.tup [.ref a1, .ref b1])) := Fr.new (Fr.refl _) nu2
        have M6 := M.keepS f2 id
        walk_at "rd"
        refine ⟨D, xs, r.1, rfl, M6, e2.upd nu2, ok.1, by omega, fun xs' pm M7 => ?_⟩
        walk_at "rd"
        refine ⟨_, _, _, xs', rfl, M6.fr (f3.trans f2) (.inr nD), M7, ?_, by have := pm.len; omega, take_filter hnone hri (staleF_none h0)⟩
        rw [look_put PF.nd hri, comb_put1 r.2.2 (by rw [h0])]
        exact (hs.mono f2.non).put (M6.fr (Fr.refl _) (.inl nD)) pm M7.nd ⟨u2, a1, b1, os, ns, rfl, upd_same, keepU e3 nu2, e4, e5.upd nu2, keepU e6 nu2, e7, e8.upd nu2⟩
      · obtain ⟨on, h1, tt, c1, c2, os', ns', ev, g1, g2, g3, g4, g5, g6, g7⟩ := hs.1 z hz
        rw [hzd, hm] at h1
        have okS := look_ok PS h1
        walk_at "rd"
        refine ⟨D, xs, r.1, z, rfl, M, e2, ok.1, hz, hzd, ?_⟩
        rw [ev]
        walk_at "rd"
        refine x_neD (.lst (SqL.of g2) (DtAll.dp _ _ g4)) (.lst (SqL.of e6) (DtAll.dp _ _ e8)) (side_shaped fun d hd => okG_key (okS.2.1 d hd) (by decide)) (side_shaped fun d hd => okG_key (ok.2.2.1 d hd) (by decide)) ?_
        have ee : PyData.eqv (.list on.1) (.list r.2.2) = PyData.eqvAll on.1 r.2.2 := by rw [PyData.eqv]
        rw [ee]
        have hst := staleF_some (r := r) h1
        cases hal : PyData.eqvAll on.1 r.2.2 with
        | false =>
          rw [hal] at hst
          walk_at "rd"
          refine x_mkI0 fun dd nd => ?_
          exact qe r.1 x dd _ (by rw [← hst1]; exact head_filter hnone hri hst) ok.1 (Fr.new f3 nd) upd_same (e2.upd nd)
        | true =>
          rw [hal] at hst
          walk_at "rd"
          refine ⟨D, xs, r.1, z, rfl, M, e2, ok.1, hz, hzd, ?_⟩
          rw [ev]
          walk_at "rd"
          intro u2 nu2
          have f2 : Fr Non H3 (upd H3 u2 (.tup [.ref a1, .ref c2])) := Fr.new (Fr.refl _) nu2
          have M6 := M.keepS f2 id
          walk_at "rd"
          refine ⟨D, xs, r.1, rfl, M6, e2.upd nu2, ok.1, by omega, fun xs' pm M7 => ?_⟩
          walk_at "rd"
          refine ⟨_, _, _, xs', rfl, M6.fr (f3.trans f2) (.inr nD), M7, ?_, by have := pm.len; omega, take_filter hnone hri hst⟩
          rw [look_put PF.nd hri, comb_put1 on.2 (by rw [h1])]
          exact (hs.mono f2.non).put (M6.fr (Fr.refl _) (.inl nD)) pm M7.nd ⟨u2, a1, c2, os, ns', rfl, upd_same, keepU e3 nu2, e4, e5.upd nu2, keepU g5 nu2, g6, g7.upd nu2⟩
    · rintro σ H3 ⟨v3, v4, v5, xs, rfl, f3, M, hs, hl, hnone⟩
      rw [List.take_of_length_le (by rw [List.length_map, Paired.length hF]; exact Nat.le_refl _)] at hs hnone
      rw [List.length_map, Paired.length hF] at hl
      have hnone2 : S.filter (staleB F) = [] := by
        rw [hnone] at hst1
        exact List.map_eq_nil_iff.mp hst1.symm
      walk_at "rd"
      intro R nR
      have fR : Fr Non H3 (upd H3 R (.lst [])) := Fr.new (Fr.refl _) nR
      have hR : upd H3 R (.lst []) R = some (.lst []) := upd_same
      have nDR : D ≠ R := by
        obtain ⟨o, ho⟩ := M.has
        exact ne_fr ho nR
      have nRH : Fresh H R := f3.free nR
      generalize upd H3 R (.lst []) = H5 at fR hR ⊢
      have f5 := f3.trans fR
      have M5 := M.keepS fR id
      have hs5 := hs.mono fR.non
      have hd5 : DtAll H5 (xs.map (·.2.1)) (xs.map (·.1)) := M5.keysdt
      have hk5 : ∀ d ∈ xs.map (·.1), isK 3 d := fun d hm => by
        obtain ⟨x, hx, rfl⟩ := List.mem_map.mp hm
        exact M5.ok x hx
      walk_at "rd"
      refine ⟨D, xs, rfl, M5, fun p0 np0 => ?_⟩
      have f6 : Fr Non H5 (upd H5 p0 (.lst (xs.map (·.2.1)))) := Fr.new (Fr.refl _) np0
      walk_at "rd"
      refine ⟨p0, xs.map (·.2.1), xs.map (·.1), rfl, SqL.of upd_same, hd5.upd np0, hk5, fun p H6 ys es f7 n hp e3 e1 e2 => ?_⟩
      have f56 := f6.trans f7
      have KO : KeysOf (comb (look F) (look S)) es := hs5.keys e1 e2 M5.nd M5.ok
      have lE : es.length ≤ 12 := by rw [e1.length_eq, List.length_map]; omega
      have npR : p ≠ R := fun e => ne_fr (f6.keep _ _ hR id) n e.symm
      refine x_iRef (C := fun a => ∃ xs, SqL K H6 a xs) ⟨_, SqL.of hp⟩ ?_
      refine x_forL ys (Beh3 w H (comb (look F) (look S)) es xs ys pf ps D p R) ⟨_, _, _, [], rfl, f5.trans f56, M5.keepS f56 id, hs5.mono f56.non, hp, e3, f56.keep _ _ hR id, by rw [List.take_zero]; exact .nil⟩ (fun i σ H' _ ⟨_, _, _, _, _, _, _, _, h, _⟩ => SqL.of h) ?_ ?_
      · rintro i x σ H7 hx ⟨v3, v4, v5, ts, rfl, f7, M7, hs7, hp7, hd7, hR7, hrs7⟩
        obtain ⟨d, hd1, hd2⟩ := hd7.get hx
        obtain ⟨on, hon⟩ := (KO.2.2.2 d).mp (List.mem_of_getElem? hd1)
        have okC := comb_ok PF PS hon
        obtain ⟨z, hz, hzd, tt, c1, c2, os, ns, ev, g1, g2, g3, g4, g5, g6, g7⟩ := hs7.at hon
        have hsn := rowsOf_snoc hd1 hon
        have lt : (ts.map V.ref).length ≤ 100000 := by
          rw [List.length_map, Paired.length hrs7]
          exact Nat.le_trans (rowsOf_len _ _) (by rw [List.length_take]; omega)
        have lo : os.length ≤ 1 := by rw [g4.length]; exact okC.2.2.2.1
        have ln : ns.length ≤ 1 := by rw [g7.length]; exact okC.2.2.2.2
        walk_at "rd"
        refine ⟨D, xs, d, z, rfl, M7, hd2, okC.1, hz, hzd, ?_⟩
        rw [ev]
        walk_at "rd"
        refine x_neD (.lst (SqL.of g2) (DtAll.dp _ _ g4)) (.lst (SqL.of g5) (DtAll.dp _ _ g7)) (side_shaped fun d hd => okG_key (okC.2.1 d hd) (by decide)) (side_shaped fun d hd => okG_key (okC.2.2.1 d hd) (by decide)) ?_
        have ee : PyData.eqv (.list on.1) (.list on.2) = PyData.eqvAll on.1 on.2 := by rw [PyData.eqv]
        rw [ee]
        cases hal : PyData.eqvAll on.1 on.2 with
        | true =>
          walk_at "rd"
          refine ⟨_, _, _, ts, rfl, f7, M7, hs7, hp7, hd7, hR7, ?_⟩
          rw [hsn, if_pos hal, List.append_nil]; exact hrs7
        | false =>
          walk_at "rd"
          intro l nl
          walk_at "rd"
          intro l2 nl2
          walk_at "rd"
          intro u nu
          have f9 : Fr Non H7 (upd (upd (upd H7 l (.lst os)) l2 (.lst ns)) u (.tup [x, .ref l, .ref l2])) := Fr.new (Fr.new (Fr.new (Fr.refl _) nl) nl2) nu
          have hl1 : (upd (upd (upd H7 l (.lst os)) l2 (.lst ns)) u (.tup [x, .ref l, .ref l2])) l = some (.lst os) := keepU (keepU upd_same nl2) nu
          have hl2 : (upd (upd (upd H7 l (.lst os)) l2 (.lst ns)) u (.tup [x, .ref l, .ref l2])) l2 = some (.lst ns) := keepU upd_same nu
          have hu : (upd (upd (upd H7 l (.lst os)) l2 (.lst ns)) u (.tup [x, .ref l, .ref l2])) u = some (.tup [x, .ref l, .ref l2]) := upd_same
          have n1 : ¬ OldP H R l := fun h => h.elim (fun ⟨o, h⟩ => ne_fr h (f7.free nl) rfl) (Ne.symm (ne_fr hR7 nl))
          have n2 : ¬ OldP H R l2 := fun h => h.elim (fun ⟨o, h⟩ => ne_fr h ((Fr.new (o := .lst os) f7 nl).free nl2) rfl) (Ne.symm (ne_fr (keepU (u := .lst os) hR7 nl) nl2))
          generalize upd (upd (upd H7 l (.lst os)) l2 (.lst ns)) u (.tup [x, .ref l, .ref l2]) = H9 at f9 hl1 hl2 hu ⊢
          have hR9 := f9.keep _ _ hR7 id
          walk_at "rd"
          have fm : Fr (NewA H) H9 (upd H9 R (.lst (ts.map V.ref ++ [.ref u]))) := Fr.mut (Fr.refl _) hR9 rfl (.inl nRH)
          have fm1 : Fr (One R) H9 (upd H9 R (.lst (ts.map V.ref ++ [.ref u]))) := Fr.mut (Fr.refl _) hR9 rfl (.inl rfl)
          have fm2 : Fr (OldP H R) H9 (upd H9 R (.lst (ts.map V.ref ++ [.ref u]))) := Fr.mut (Fr.refl _) hR9 rfl (.inl (.inr rfl))
          refine ⟨_, _, _, ts ++ [u], rfl, (f7.trans f9).back_new fm, (M7.keepS f9 id).keepS fm1 (not_One nDR), (hs7.mono f9.non).mono fm, fm1.keep _ _ (f9.keep _ _ hp7 id) (not_One npR), (hd7.mono f9).mono fm1, by rw [List.map_append]; exact upd_same, ?_⟩
          rw [hsn, if_neg (by rw [hal]; exact Bool.false_ne_true)]
          exact RowsA.mono (paired_app (RowsA.mono hrs7 f9.non) (.cons ⟨x, l, l2, os, ns, hu, .inl (hd2.mono f9), hl1, n1, GdAll.of (g4.mono f9), hl2, n2, GdAll.of (g7.mono f9)⟩ .nil)) fm2
      · rintro σ H7 ⟨v3, v4, v5, ts, rfl, f7, M7, hs7, hp7, hd7, hR7, hrs7⟩
        rw [hd7.length, List.take_length] at hrs7
        walk_at "rd"
        exact q R ts es H7 hnone2 KO (by omega) f7 nRH hR7 hrs7
end

-- the def top 27
theorem sc_law_told : FnScope ["_law_first", "_law_second", "_law_found", "e"] ["_law_first", "_law_second"] (defScope s_law_told) := ⟨rfl, rfl, rfl, by decide +kernel, rfl, by decide +kernel, by decide +kernel⟩
def B_law_told (K : PySem.W.Frag) (mg : Str → Option Value) : BK2 := fun f s H Q _ => ∃ (pf ps : Addr) (ts us : List Addr) (F S : List Row), f = .ref pf ∧ s = .ref ps ∧ H pf = some (.lst (ts.map V.ref)) ∧ H ps = some (.lst (us.map V.ref)) ∧ RowsA Non H ts F ∧ RowsA Non H us S ∧ Patch F ∧ Patch S ∧ F.length ≤ 6 ∧ S.length ≤ 6 ∧
  ∀ v H', Fr Non H H' → TellsA (Fresh H) (OldP H) H' v F S → Q v H'
section
variable {P : Program} {w : World} {K : PySem.W.Frag} {mg : Str → Option Value} {base : Heap}
theorem ok_law_told (T : TX K mg) : CalX P w K mg base 10 "_law_told" ["_law_first", "_law_second"] (Sp2 (B_law_told K mg)) := by
  have C_behind := ok_behind (P := P) (w := w) (base := base) T
  obtain ⟨f, fd, F, hm, bd⟩ := T.d_law_told.ex
  refine ⟨f, fd, F.okX sc_law_told len2 (fun cdv A outer s H vs Q E hr h => ?_), hm, F.kp, bd⟩
  obtain ⟨f, s, rfl, h⟩ := h
  refine ⟨_, (pss_cons (ps_tryAs (i := 3) rfl rfl sc_law_told.nd rfl rfl ⟨rfl, by decide, .inl T.x_TwigError.m⟩ takes0 (fun W pn xe tk _ => (pss_one (ps_set (i := 2) sc_law_told.nd rfl (Or.inl rfl) (pcallX C_behind hr (by first | decide | omega) rfl tk (pa_cons (pv 0) (pa_cons (pv 1) pa_nil)))))) (fun a oe cls d pn hz hf => (pss_cons (ps_if (PW.pt (pw_or (pt_not (pt_val (pe_callB (r := rIsY K a cls d) (call_isY hz hf) (by rfl) T.b_isinstance PyProof.Rows.boot_isinstance (pa_cons (pv 3) (pa_cons (pe_glob (v := .ref (clA mg "Stale")) rfl T.x_Stale.m rfl) pa_nil))))) (pw_or1 (pt_not (pt_val (pe_callB (r := rIsY K a cls d) (call_isY hz hf) (by rfl) T.b_isinstance PyProof.Rows.boot_isinstance (pa_cons (pv 3) (pa_cons (pe_bltn (v := .ty "ValueError") rfl T.b_ValueError boot_ValueError rfl) pa_nil)))))))) (pss_one (ps_ret (pe_tup (pa_cons pe_str (pa_cons pe_int pa_nil))))) pss_nil) (pss_cons (ps_if (pt_val (pe_callB (r := rIsYT K a cls d) (call_isYT hz hf) (by rfl) T.b_isinstance PyProof.Rows.boot_isinstance (pa_cons (pv 3) (pa_cons (pe_tup (pa_cons (pe_glob (v := .ref (clA mg "NoKey")) rfl T.x_NoKey.m rfl) (pa_cons (pe_glob (v := .ref (clA mg "NotRising")) rfl T.x_NotRising.m rfl) (pa_cons (pe_glob (v := .ref (clA mg "Overlap")) rfl T.x_Overlap.m rfl) pa_nil)))) pa_nil)))) (pss_one (ps_ret (pe_tup (pa_cons pe_str (pa_cons pe_int pa_nil))))) pss_nil) (pss_one (ps_ret (pe_tup (pa_cons pe_str (pa_cons (pe_xf T.o_Stale.xf T.o_Stale.no hz hf (pv 3)) pa_nil))))))))) (pss_one (ps_ret (pe_tup (pa_cons pe_str (pa_cons (pv 2) pa_nil)))))), ?_⟩
  show (_ : TS) _ [some f, some s, none, none] H
  first | dsimp only [L2.cxOf] | skip
  obtain ⟨pf, ps, ts, us, F, S, rfl, rfl, hpf, hps, hF, hS, PF, PS, lF, lS, q⟩ := h
  have hC : HoldC K (clA mg "Stale") := ⟨T.cl_Stale, excC_of T.xc_Stale⟩
  walk_at "rd"
  refine ⟨pf, ps, ts, us, F, S, rfl, rfl, hpf, hps, hF, hS, PF, PS, lF, lS, fun d v dd H1 hh hk f1 hd hv => ?_, fun R ws ks H1 hn KO lk f1 nR hR hrs => ?_⟩
  · refine x_wAsT T.em_Stale fun a ha => ?_
    walk_at "rd"
    refine x_isY hd hC (.own _) T.ki_Stale ?_
    walk_at "rd"
    refine x_isY hd hC (.ty _) T.ki_Stale_VE ?_
    walk_at "rd"
    intro tp ntp
    walk_at "rd"
    refine x_isYT (keepU hd ntp) hC upd_same (.cons (.own _) (.cons (.own _) (.cons (.own _) .nil))) T.ka_Stale_3 ?_
    walk_at "rd"
    refine x_xf rfl (keepU hd ntp) rfl ?_
    walk_at "rd"
    intro t nt
    exact q _ _ (Fr.new (Fr.new f1 ntp) nt) (.inl ⟨t, v, d, rfl, upd_same, (hv.upd ntp).upd nt, hk, hh⟩)
  · walk_at "rd"
    intro t nt
    exact q _ _ (Fr.new f1 nt) (.inr ⟨t, R, ws, ks, rfl, upd_same, nR, hn, KO, lk, keepU hR nt, RowsA.mono hrs (Fr.new (Fr.refl _) nt)⟩)
end

-- the def top 10
theorem sc_turned : FnScope ["patch", "key", "old", "new"] ["patch"] (defScope s_turned) := ⟨rfl, rfl, rfl, by decide +kernel, rfl, by decide +kernel, by decide +kernel⟩
def B_turned (K : PySem.W.Frag) : BK1 := fun t H Q _ => ∃ (a : Addr) (ts : List Addr) (rs : List Row), t = .ref a ∧ H a = some (.lst (ts.map V.ref)) ∧ RowsA Non H ts rs ∧ rs.length ≤ 100 ∧ (∀ r ∈ rs, okS r) ∧
  ∀ p us H', Fr Non H H' → Fresh H p → H' p = some (.lst (us.map V.ref)) → RowsA (OldP H p) H' us (rs.map swapR) → Q (.ref p) H'
section
variable {P : Program} {w : World} {K : PySem.W.Frag} {mg : Str → Option Value} {base : Heap}
theorem ok_turned (T : TX K mg) : CalX P w K mg base 1 "turned" ["patch"] (Sp1 (B_turned K)) := by
  obtain ⟨f, fd, F, hm, bd⟩ := T.d_turned.ex
  refine ⟨f, fd, F.okX sc_turned len1 (fun cdv A outer s H vs Q E hr h => ?_), hm, F.kp, bd⟩
  obtain ⟨t, rfl, h⟩ := h
  refine ⟨_, (pss_one (ps_ret (pe_lc (own := [("key", 1), ("old", 2), ("new", 3)]) (g := gTup K 3 (gCons (gName 1) (gCons (gName 2) (gCons (gName 3) gNil)))) (tt := tYes) rfl sc_turned.nd (pi_list (pv 0)) (blkOk_by (N := ["patch", "key", "old", "new"]) (sc := defScope s_turned) (own := [("key", 1), ("old", 2), ("new", 3)]) (by decide +kernel)) (fun _ _ _ _ _ => pg_tup rfl (pgs_cons (pg_name (i := 1) sc_turned.nd rfl (by first | exact Or.inl rfl | exact Or.inr rfl)) (pgs_cons (pg_name (i := 2) sc_turned.nd rfl (by first | exact Or.inl rfl | exact Or.inr rfl)) (pgs_cons (pg_name (i := 3) sc_turned.nd rfl (by first | exact Or.inl rfl | exact Or.inr rfl)) pgs_nil)))) (fun _ _ _ _ _ => pts_nil) (fun _ _ _ _ _ => (pe_tup (pa_cons (pv 1) (pa_cons (pe_callTy (r := rListOf K) c_listOf (by rfl) T.b_list (by decide +kernel) (pa_cons (pv 3) pa_nil)) (pa_cons (pe_callTy (r := rListOf K) c_listOf (by rfl) T.b_list (by decide +kernel) (pa_cons (pv 2) pa_nil)) pa_nil)))))))), ?_⟩
  show (_ : TS) _ [some t, none, none, none] H
  first | dsimp only [L2.cxOf] | skip
  obtain ⟨a, ts, rs, rfl, ha, hr', hl, hok, q⟩ := h
  walk_at "rd"
  refine x_iRef (C := fun a => ∃ xs, SqL K H a xs) ⟨_, SqL.of ha⟩ ?_
  intro D nD
  refine x_lcL (ts.map V.ref) (fun i H' => Fr Non H H' ∧ ∃ us : List Addr, H' D = some (.lst (us.map V.ref)) ∧ RowsA (OldP H D) H' us ((rs.take i).map swapR)) ⟨Fr.new (Fr.refl _) nD, [], upd_same, by rw [List.take_zero]; exact .nil⟩ (fun i H' _ ⟨g, _⟩ => SqL.of (g.keep _ _ ha id)) ?_ ?_
  · rintro i x H1 hx ⟨f1, us, hD, hus⟩
    rw [List.getElem?_map] at hx
    obtain ⟨t, ht, rfl⟩ := Option.map_eq_some_iff.mp hx
    obtain ⟨r, hri, hrow⟩ := paired_get (RowsA.mono hr' f1) ht
    have hok1 := hok r (List.mem_of_getElem? hri)
    obtain ⟨x, a1, b1, os, ns, e1, e2, e3, e4, e5, e6, e7, e8⟩ := hrow.keys hok1
    have htk : (rs.take (i + 1)).map swapR = (rs.take i).map swapR ++ [swapR r] := by rw [take_snoc hri, List.map_append]; rfl
    have hul : us.length = ((rs.take i).map swapR).length := Paired.length hus
    have hul2 : us.length ≤ 100 := by rw [hul, List.length_map, List.length_take]; omega
    have lo : os.length ≤ 1 := by rw [e5.length]; exact hok1.2.2.2.1
    have ln : ns.length ≤ 1 := by rw [e8.length]; exact hok1.2.2.2.2
    walk_at "rd"
    intro l nl
    walk_at "rd"
    intro l2 nl2
    walk_at "rd"
    intro u nu
    have f4 : Fr Non H1 (upd (upd (upd H1 l (.lst ns)) l2 (.lst os)) u (.tup [x, .ref l, .ref l2])) := Fr.new (Fr.new (Fr.new (Fr.refl _) nl) nl2) nu
    have hl1 : (upd (upd (upd H1 l (.lst ns)) l2 (.lst os)) u (.tup [x, .ref l, .ref l2])) l = some (.lst ns) := keepU (keepU upd_same nl2) nu
    have hl2 : (upd (upd (upd H1 l (.lst ns)) l2 (.lst os)) u (.tup [x, .ref l, .ref l2])) l2 = some (.lst os) := keepU upd_same nu
    have hu4 : (upd (upd (upd H1 l (.lst ns)) l2 (.lst os)) u (.tup [x, .ref l, .ref l2])) u = some (.tup [x, .ref l, .ref l2]) := upd_same
    have n1 : ¬ OldP H D l := fun h => h.elim (fun ⟨o, h⟩ => ne_fr h (f1.free nl) rfl) (Ne.symm (ne_fr hD nl))
    have n2 : ¬ OldP H D l2 := fun h => h.elim (fun ⟨o, h⟩ => ne_fr h ((Fr.new (o := .lst ns) f1 nl).free nl2) rfl) (Ne.symm (ne_fr (keepU (u := .lst ns) hD nl) nl2))
    generalize upd (upd (upd H1 l (.lst ns)) l2 (.lst os)) u (.tup [x, .ref l, .ref l2]) = H4 at f4 hl1 hl2 hu4 ⊢
    have hD4 := f4.keep _ _ hD id
    have hsz : (us.map V.ref).length ≤ 100000 := by rw [List.length_map]; omega
    walk_at "rd"
    have fm : Fr (OldP H D) H4 (upd H4 D (.lst (us.map V.ref ++ [.ref u]))) := Fr.mut (Fr.refl _) hD4 rfl (.inl (.inr rfl))
    refine ⟨Fr.mut (f1.trans f4) hD4 rfl (.inr nD), us ++ [u], by rw [List.map_append]; exact upd_same, ?_⟩
    rw [htk]
    have fO : Fr (OldP H D) H1 H4 := f4.non
    exact RowsA.mono (paired_app (RowsA.mono hus fO) (.cons ⟨x, l, l2, ns, os, hu4, .inl (e2.mono f4), hl1, n1, GdAll.of (e8.mono f4), hl2, n2, GdAll.of (e5.mono f4)⟩ .nil)) fm
  · rintro H1 ⟨f1, us, hD, hus⟩
    rw [List.take_of_length_le (by rw [List.length_map, Paired.length hr']; exact Nat.le_refl _)] at hus
    exact q D us H1 f1 nD hD hus
end

-- the def top 29
theorem sc_law_marked : FnScope ["_law_rows", "_law_spot", "_law_old", "_law_new"] ["_law_rows"] (defScope s_law_marked) := ⟨rfl, rfl, rfl, by decide +kernel, rfl, by decide +kernel, by decide +kernel⟩
def B_law_marked (K : PySem.W.Frag) : BK1 := fun t H Q _ => ∃ (p : Addr) (ts : List Addr) (S : Addr → Prop), t = .ref p ∧ H p = some (.lst (ts.map V.ref)) ∧ S p ∧ MarkA S 1 H ts ∧ ts.length ≤ 300 ∧
  ∀ H', Fr (fun b => ¬ S b ∨ b = p) H H' → Q .non H'
section
variable {P : Program} {w : World} {K : PySem.W.Frag} {mg : Str → Option Value} {base : Heap}
theorem ok_law_marked (T : TX K mg) : CalX P w K mg base 1 "_law_marked" ["_law_rows"] (Sp1 (B_law_marked K)) := by
  obtain ⟨f, fd, F, hm, bd⟩ := T.d_law_marked.ex
  refine ⟨f, fd, F.okX sc_law_marked len1 (fun cdv A outer s H vs Q E hr h => ?_), hm, F.kp, bd⟩
  obtain ⟨t, rfl, h⟩ := h
  refine ⟨_, (pss_cons (ps_for (passes_of rfl) rfl (pi_list (pv 0)) (pg_tup rfl (pgs_cons (pg_name (i := 1) sc_law_marked.nd rfl (Or.inl rfl)) (pgs_cons (pg_name (i := 2) sc_law_marked.nd rfl (Or.inl rfl)) (pgs_cons (pg_name (i := 3) sc_law_marked.nd rfl (Or.inl rfl)) pgs_nil)))) (pss_cons (ps_expr (pe_bm PySem.F.plainAttrs_list PySem.F.slot_list_append PySem.F.type_list_append mt_append (pv 2) (pa_cons pe_int pa_nil))) (pss_one (ps_expr (pe_bm PySem.F.plainAttrs_list PySem.F.slot_list_append PySem.F.type_list_append mt_append (pv 3) (pa_cons pe_int pa_nil)))))) (pss_one (ps_expr (pe_bm0 PySem.F.plainAttrs_list PySem.F.slot_list_clear PySem.F.type_list_clear mt_clear (pv 0))))), ?_⟩
  show (_ : TS) _ [some t, none, none, none] H
  first | dsimp only [L2.cxOf] | skip
  obtain ⟨p, ts, S, rfl, hp, hSp, hM, hl, q⟩ := h
  walk_at "rd"
  refine x_iRef (C := fun a => ∃ xs, SqL K H a xs) ⟨_, SqL.of hp⟩ ?_
  refine x_forL (ts.map V.ref) (fun i σ H' => ∃ v2 v3 v4 : Option V, σ = [some (.ref p), v2, v3, v4] ∧ Fr (fun b => ¬ S b) H H' ∧ MarkA S (1 + 2 * i) H' ts) ⟨_, _, _, rfl, Fr.refl _, hM⟩ (fun i σ H' _ ⟨_, _, _, _, f, _⟩ => SqL.of (f.keep _ _ hp (fun h => h hSp))) ?_ ?_
  · rintro i x σ H1 hx ⟨v2, v3, v4, rfl, f1, M⟩
    have hil := (List.getElem?_eq_some_iff.mp hx).1
    rw [List.length_map] at hil
    rw [List.getElem?_map] at hx
    obtain ⟨t, ht, rfl⟩ := Option.map_eq_some_iff.mp hx
    obtain ⟨x, a1, b1, os, ns, e1, e2, e3, e4, e5, e6, e7⟩ := M t (List.mem_of_getElem? ht)
    walk_at "rd"
    have M2 : MarkA S (1 + 2 * i + 1) (upd H1 a1 (.lst (os ++ [.int 0]))) ts := M.put e2 (by rw [List.length_append]; exact Nat.succ_le_succ e4)
    obtain ⟨x', a1', b1', os', ns', d1, d2, d3, d4, d5, d6, d7⟩ := M2 t (List.mem_of_getElem? ht)
    have f2 : Fr (fun b => ¬ S b) H (upd H1 a1 (.lst (os ++ [.int 0]))) := Fr.mut f1 e2 rfl (.inl e3)
    have e1' : upd H1 a1 (.lst (os ++ [.int 0])) t = some (.tup [x, .ref a1, .ref b1]) := (upd_ne (fun e => by rw [e, e2] at e1; cases e1)).trans e1
    rw [e1'] at d1
    cases d1
    generalize upd H1 a1 (.lst (os ++ [.int 0])) = H2 at M2 d2 d5 f2 e1' ⊢
    walk_at "rd"
    exact ⟨_, _, _, rfl, Fr.mut f2 d5 rfl (.inl d6), M2.put d5 (by rw [List.length_append]; exact Nat.succ_le_succ d7)⟩
  · rintro σ H1 ⟨v2, v3, v4, rfl, f1, M⟩
    have hp1 := f1.keep _ _ hp (fun h => h hSp)
    walk_at "rd"
    refine ⟨p, _, rfl, rfl, hp1, ?_⟩
    exact q _ (Fr.mut (f1.sub fun _ h => .inl h) hp1 rfl (.inl (.inr rfl)))
end

-- the def top 23
theorem sc_law_patch_alike : FnScope ["_law_found", "_law_due_here", "_law_j", "_law_row"] ["_law_found", "_law_due_here"] (defScope s_law_patch_alike) := ⟨rfl, rfl, rfl, by decide +kernel, rfl, by decide +kernel, by decide +kernel⟩
def B_law_patch_alike : BK2 := fun f g H Q _ => ∃ (a b : Addr) (ts us : List Addr) (rs : List Row), f = .ref a ∧ g = .ref b ∧ H a = some (.lst (ts.map V.ref)) ∧ H b = some (.lst (us.map V.ref)) ∧ RowsA Non H ts rs ∧ RowsA Non H us rs ∧ (∀ r ∈ rs, okS r) ∧ rs.length ≤ 200 ∧ ∀ H', Fr Non H H' → Q (.bl true) H'
section
variable {P : Program} {w : World} {K : PySem.W.Frag} {mg : Str → Option Value} {base : Heap}
theorem ok_law_patch_alike (T : TX K mg) : CalX P w K mg base 8 "_law_patch_alike" ["_law_found", "_law_due_here"] (Sp2 (B_law_patch_alike)) := by
  have C_law_alike := ok_law_alike (P := P) (w := w) (base := base) T 4
  have C_law_rows_alike := ok_law_rows_alike (P := P) (w := w) (base := base) T
  obtain ⟨f, fd, F, hm, bd⟩ := T.d_law_patch_alike.ex
  refine ⟨f, fd, F.okX sc_law_patch_alike len2 (fun cdv A outer s H vs Q E hr h => ?_), hm, F.kp, bd⟩
  obtain ⟨f, g, rfl, h⟩ := h
  refine ⟨_, (pss_cons (ps_if (PW.pt (pw_or (pt_not (pt_val (pe_callB call_isi (by rfl) T.b_isinstance PyProof.Rows.boot_isinstance (pa_cons (pv 0) (pa_cons (pe_bltn (v := .ty "list") rfl T.b_list PyProof.Rows.boot_list rfl) pa_nil))))) (pw_or1 (pt_cmpR op_ne (pe_callB c_len (by rfl) T.b_len (by decide +kernel) (pa_cons (pv 0) pa_nil)) (pe_callB c_len (by rfl) T.b_len (by decide +kernel) (pa_cons (pv 1) pa_nil)) (nomark _))))) (pss_one (ps_ret pe_bl)) pss_nil) (pss_cons (ps_for (passes_of rfl) rfl (pi_range1 rfl T.b_range (pa_cons (pe_callB c_len (by rfl) T.b_len (by decide +kernel) (pa_cons (pv 1) pa_nil)) pa_nil)) (pg_name (i := 2) sc_law_patch_alike.nd rfl (Or.inl rfl)) (pss_cons (ps_set (i := 3) sc_law_patch_alike.nd rfl (Or.inl rfl) (pe_ix ix_list (pv 0) (pv 2) (fun _ _ => rfl))) (pss_cons (ps_if (PW.pt (pw_or (pt_not (pt_val (pe_callB call_isi (by rfl) T.b_isinstance PyProof.Rows.boot_isinstance (pa_cons (pv 3) (pa_cons (pe_bltn (v := .ty "tuple") rfl T.b_tuple PyProof.Rows.boot_tuple rfl) pa_nil))))) (pw_or (pt_cmpR op_ne (pe_callB c_len (by rfl) T.b_len (by decide +kernel) (pa_cons (pv 3) pa_nil)) pe_int (nomark _)) (pw_or1 (pt_not (pt_val (pcall C_law_alike hr (by first | decide | omega) rfl Passes.none (pa_cons (pe_ix ix_tup (pv 3) pe_int (fun _ _ => rfl)) (pa_cons (pe_ix ix_seq (pe_ix ix_list (pv 1) (pv 2) (fun _ _ => rfl)) pe_int (fun _ _ => rfl)) pa_nil))))))))) (pss_one (ps_ret pe_bl)) pss_nil) (pss_one (ps_if (PW.pt (pw_or (pt_not (pt_val (pcall C_law_rows_alike hr (by first | decide | omega) rfl Passes.none (pa_cons (pe_ix ix_tup (pv 3) pe_int (fun _ _ => rfl)) (pa_cons (pe_ix ix_seq (pe_ix ix_list (pv 1) (pv 2) (fun _ _ => rfl)) pe_int (fun _ _ => rfl)) pa_nil))))) (pw_or1 (pt_not (pt_val (pcall C_law_rows_alike hr (by first | decide | omega) rfl Passes.none (pa_cons (pe_ix ix_tup (pv 3) pe_int (fun _ _ => rfl)) (pa_cons (pe_ix ix_seq (pe_ix ix_list (pv 1) (pv 2) (fun _ _ => rfl)) pe_int (fun _ _ => rfl)) pa_nil)))))))) (pss_one (ps_ret pe_bl)) pss_nil))))) (pss_one (ps_ret pe_bl)))), ?_⟩
  show (_ : TS) _ [some f, some g, none, none] H
  first | dsimp only [L2.cxOf] | skip
  obtain ⟨a, b, ts, us, rs, rfl, rfl, ha, hb, hts, hus, ok, hl, q⟩ := h
  have l1 : ts.length = rs.length := Paired.length hts
  have l2 : us.length = rs.length := Paired.length hus
  walk_at "rd"
  have eL : decide (((ts.map V.ref).length : Int) = ((us.map V.ref).length : Int)) = true := decide_eq_true (by rw [List.length_map, List.length_map, l1, l2])
  rw [eL]
  walk_at "rd"
  have hlu : (us.map V.ref).length ≤ 200 := by rw [List.length_map, l2]; exact hl
  refine ⟨_, rfl, by omega, by omega, ?_⟩
  refine x_forR (n := (us.map V.ref).length) (fun i σ H' => ∃ v2 v3 : Option V, σ = [some (.ref a), some (.ref b), v2, v3] ∧ Fr Non H H') ⟨_, _, rfl, Fr.refl _⟩ ?_ ?_
  · rintro i σ H1 hi ⟨v2, v3, rfl, f1⟩
    rw [List.length_map, l2] at hi
    have ha1 := f1.keep _ _ ha id
    have hb1 := f1.keep _ _ hb id
    obtain ⟨r, hr'⟩ : ∃ r, rs[i]? = some r := ⟨rs[i], List.getElem?_eq_getElem hi⟩
    have okr := ok r (List.mem_of_getElem? hr')
    obtain ⟨t, ht, hrow⟩ := paired_at (RowsA.mono hts f1) hr'
    obtain ⟨u, hu, hrow2⟩ := paired_at (RowsA.mono hus f1) hr'
    obtain ⟨x, a1, b1, os, ns, e1, e2, e3, e4, e5, e6, e7, e8⟩ := hrow.keys okr
    obtain ⟨y, c1, d1, os2, ns2, g1, g2, g3, g4, g5, g6, g7, g8⟩ := hrow2.keys okr
    have ht2 : (ts.map V.ref)[i]? = some (.ref t) := by rw [List.getElem?_map, ht]; rfl
    have hu2 : (us.map V.ref)[i]? = some (.ref u) := by rw [List.getElem?_map, hu]; rfl
    have ai : atI (ts.map V.ref) (0 + (i : Int)) = some (.ref t) := by rw [Int.zero_add]; exact atI_nat ht2
    have au : atI (us.map V.ref) (0 + (i : Int)) = some (.ref u) := by rw [Int.zero_add]; exact atI_nat hu2
    have ed3 : decide (((([x, V.ref a1, V.ref b1] : List V).length : Nat) : Int) = 3) = true := decide_eq_true rfl
    walk_at "rd"
    rw [ed3]
    walk_at "rd"
    refine ⟨r.1, r.1, e2, g2, isK_up okr.1, isK_up okr.1, fun H2 f2 => ?_⟩
    rw [eqv_of_eq okr.1]
    have e22 := f2.tup _ _ e1
    have g12 := f2.tup _ _ g1
    have ha2 := f2.keep _ _ ha1 id
    have hb2 := f2.keep _ _ hb1 id
    walk_at "rd"
    refine ⟨a1, c1, os, os2, r.2.1, r.2.1, rfl, rfl, f2.keep _ _ e3 id, f2.keep _ _ g3 id, e5.mono f2, g5.mono f2, Nat.le_trans okr.2.2.2.1 (by decide), Nat.le_trans okr.2.2.2.1 (by decide), okr.2.1, okr.2.1, fun H3 f3 => ?_⟩
    rw [eqvAll_of_eq okr.2.1]
    have f23 := f2.trans f3
    have e23 := f23.tup _ _ e1
    have g13 := f23.tup _ _ g1
    have ha3 := f23.keep _ _ ha1 id
    have hb3 := f23.keep _ _ hb1 id
    walk_at "rd"
    refine ⟨b1, d1, ns, ns2, r.2.2, r.2.2, rfl, rfl, f23.keep _ _ e6 id, f23.keep _ _ g6 id, e8.mono f23, g8.mono f23, Nat.le_trans okr.2.2.2.2 (by decide), Nat.le_trans okr.2.2.2.2 (by decide), okr.2.2.1, okr.2.2.1, fun H4 f4 => ?_⟩
    rw [eqvAll_of_eq okr.2.2.1]
    walk_at "rd"
    exact ⟨_, _, rfl, (f1.trans f23).trans f4⟩
  · rintro σ H1 ⟨v2, v3, rfl, f1⟩
    walk_at "rd"
    exact q _ f1
end

-- the def top 30
theorem sc_law_asked : FnScope ["_law_first", "_law_second", "_law_handed", "_law_due_here", "_law_turn", "_law_told_here", "_law_back", "_law_spot", "_law_old", "_law_new"] ["_law_first", "_law_second"] (defScope s_law_asked) := ⟨rfl, rfl, rfl, by decide +kernel, rfl, by decide +kernel, by decide +kernel⟩
def B_law_asked (K : PySem.W.Frag) : BK2 := fun f s H Q _ => ∃ (pf ps : Addr) (ts us : List Addr) (F S : List Row), f = .ref pf ∧ s = .ref ps ∧ H pf = some (.lst (ts.map V.ref)) ∧ H ps = some (.lst (us.map V.ref)) ∧ RowsA Non H ts F ∧ RowsA Non H us S ∧ Patch F ∧ Patch S ∧ F.length ≤ 6 ∧ S.length ≤ 6 ∧ ∀ H', Fr Non H H' → Q (.bl true) H'
section
variable {P : Program} {w : World} {K : PySem.W.Frag} {mg : Str → Option Value} {base : Heap}
theorem ok_law_asked (T : TX K mg) : CalX P w K mg base 11 "_law_asked" ["_law_first", "_law_second"] (Sp2 (B_law_asked K)) := by
  have C_law_due := ok_law_due (P := P) (w := w) (base := base) T
  have C_law_copy := ok_law_copy (P := P) (w := w) (base := base) T
  have C_law_told := ok_law_told (P := P) (w := w) (base := base) T
  have C_turned := ok_turned (P := P) (w := w) (base := base) T
  have C_law_marked := ok_law_marked (P := P) (w := w) (base := base) T
  have C_law_patch_alike := ok_law_patch_alike (P := P) (w := w) (base := base) T
  have C_law_alike := ok_law_alike (P := P) (w := w) (base := base) T 4
  obtain ⟨f, fd, F, hm, bd⟩ := T.d_law_asked.ex
  refine ⟨f, fd, F.okX sc_law_asked len2 (fun cdv A outer s H vs Q E hr h => ?_), hm, F.kp, bd⟩
  obtain ⟨f, s, rfl, h⟩ := h
  refine ⟨_, (pss_cons (ps_set (i := 2) sc_law_asked.nd rfl (Or.inl rfl) (pe_lst (pa_cons (pcall C_law_copy hr (by first | decide | omega) rfl Passes.none (pa_cons (pv 0) pa_nil)) (pa_cons (pcall C_law_copy hr (by first | decide | omega) rfl Passes.none (pa_cons (pv 1) pa_nil)) pa_nil)))) (pss_cons (ps_set (i := 3) sc_law_asked.nd rfl (Or.inl rfl) (pcall C_law_due hr (by first | decide | omega) rfl Passes.none (pa_cons (pv 0) (pa_cons (pv 1) pa_nil)))) (pss_cons (ps_for (passes_of rfl) rfl (pi_range1 rfl T.b_range (pa_cons pe_int pa_nil)) (pg_name (i := 4) sc_law_asked.nd rfl (Or.inl rfl)) (pss_cons (ps_set (i := 5) sc_law_asked.nd rfl (Or.inl rfl) (pcall C_law_told hr (by first | decide | omega) rfl Passes.none (pa_cons (pe_ix ix_list (pv 2) pe_int (fun _ _ => rfl)) (pa_cons (pe_ix ix_list (pv 2) pe_int (fun _ _ => rfl)) pa_nil)))) (pss_cons (ps_if (PW.pt (pw_or (pt_cmpR op_ne (pe_ix ix_tup (pv 5) pe_int (fun _ _ => rfl)) (pe_ix ix_tup (pv 3) pe_int (fun _ _ => rfl)) (nomark _)) (pw_or1 (PW.pt (pw_and (pt_cmpR op_eq (pe_ix ix_tup (pv 5) pe_int (fun _ _ => rfl)) pe_str (nomark _)) (pw_and1 (pt_not (pt_val (pcall C_law_alike hr (by first | decide | omega) rfl Passes.none (pa_cons (pe_ix ix_tup (pv 5) pe_int (fun _ _ => rfl)) (pa_cons (pe_ix ix_tup (pv 3) pe_int (fun _ _ => rfl)) pa_nil))))))))))) (pss_one (ps_ret pe_bl)) pss_nil) (pss_cons (ps_if (PW.pt (pw_and (pt_cmpR op_eq (pe_ix ix_tup (pv 5) pe_int (fun _ _ => rfl)) pe_str (nomark _)) (pw_and1 (pt_not (pt_val (pcall C_law_patch_alike hr (by first | decide | omega) rfl Passes.none (pa_cons (pe_ix ix_tup (pv 5) pe_int (fun _ _ => rfl)) (pa_cons (pe_ix ix_tup (pv 3) pe_int (fun _ _ => rfl)) pa_nil)))))))) (pss_one (ps_ret pe_bl)) pss_nil) (pss_cons (ps_set (i := 6) sc_law_asked.nd rfl (Or.inl rfl) (pcall C_turned hr (by first | decide | omega) rfl Passes.none (pa_cons (pe_ix ix_list (pv 2) pe_int (fun _ _ => rfl)) pa_nil))) (pss_cons (ps_if (pt_not (pt_val (pcall C_law_patch_alike hr (by first | decide | omega) rfl Passes.none (pa_cons (pv 6) (pa_cons (pe_lc (own := [("_law_spot", 7), ("_law_old", 8), ("_law_new", 9)]) (g := gTup K 3 (gCons (gName 7) (gCons (gName 8) (gCons (gName 9) gNil)))) (tt := tYes) rfl sc_law_asked.nd (pi_list (pv 0)) (blkOk_by (N := ["_law_first", "_law_second", "_law_handed", "_law_due_here", "_law_turn", "_law_told_here", "_law_back", "_law_spot", "_law_old", "_law_new"]) (sc := defScope s_law_asked) (own := [("_law_spot", 7), ("_law_old", 8), ("_law_new", 9)]) (by decide +kernel)) (fun _ _ _ _ _ => pg_tup rfl (pgs_cons (pg_name (i := 7) sc_law_asked.nd rfl (by first | exact Or.inl rfl | exact Or.inr rfl)) (pgs_cons (pg_name (i := 8) sc_law_asked.nd rfl (by first | exact Or.inl rfl | exact Or.inr rfl)) (pgs_cons (pg_name (i := 9) sc_law_asked.nd rfl (by first | exact Or.inl rfl | exact Or.inr rfl)) pgs_nil)))) (fun _ _ _ _ _ => pts_nil) (fun _ _ _ _ _ => (pe_tup (pa_cons (pv 7) (pa_cons (pv 9) (pa_cons (pv 8) pa_nil)))))) pa_nil))))) (pss_one (ps_ret pe_bl)) pss_nil) (pss_cons (ps_expr (pcall C_law_marked hr (by first | decide | omega) rfl Passes.none (pa_cons (pv 6) pa_nil))) (pss_one (ps_if (pt_cmpR op_eq (pe_ix ix_tup (pv 5) pe_int (fun _ _ => rfl)) pe_str (nomark _)) (pss_one (ps_expr (pcall C_law_marked hr (by first | decide | omega) rfl Passes.none (pa_cons (pe_ix ix_tup (pv 5) pe_int (fun _ _ => rfl)) pa_nil)))) pss_nil))))))))) (pss_one (ps_ret (pe_and (pcall C_law_patch_alike hr (by first | decide | omega) rfl Passes.none (pa_cons (pe_ix ix_list (pv 2) pe_int (fun _ _ => rfl)) (pa_cons (pv 0) pa_nil))) (pe_one (pcall C_law_patch_alike hr (by first | decide | omega) rfl Passes.none (pa_cons (pe_ix ix_list (pv 2) pe_int (fun _ _ => rfl)) (pa_cons (pv 1) pa_nil)))))))))), ?_⟩
  show (_ : TS) _ [some f, some s, none, none, none, none, none, none, none, none] H
  first | dsimp only [L2.cxOf] | skip
  obtain ⟨pf, ps, ts, us, F, S, rfl, rfl, hpf, hps, hF, hS, PF, PS, lF, lS, q⟩ := h
  walk_at "rd"
  refine ⟨pf, ts, F, rfl, hpf, hF, by omega, fun r hr => (PF.ok r hr).row, fun p1 ws1 H1 f1 hp1 hw1 => ?_⟩
  have hps1 := f1.keep _ _ hps id
  have hS1 := RowsA.mono hS f1
  walk_at "rd"
  refine ⟨ps, us, S, rfl, hps1, hS1, by omega, fun r hr => (PS.ok r hr).row, fun p2 ws2 H2 f2 hp2 hw2 => ?_⟩
  walk_at "rd"
  intro hd nhd
  have f3 : Fr Non H2 (upd H2 hd (.lst [.ref p1, .ref p2])) := Fr.new (Fr.refl _) nhd
  have hhd : upd H2 hd (.lst [.ref p1, .ref p2]) hd = some (.lst [.ref p1, .ref p2]) := upd_same
  generalize upd H2 hd (.lst [.ref p1, .ref p2]) = H3 at f3 hhd ⊢
  have f13 := f2.trans f3
  have f03 := f1.trans f13
  walk_at "rd"
  refine ⟨pf, ps, ts, us, F, S, rfl, rfl, f03.keep _ _ hpf id, f03.keep _ _ hps id, RowsA.mono hF f03, RowsA.mono hS f03, PF, PS, lF, lS, fun v H4 f4 due => ?_⟩
  have f14 := f13.trans f4
  have f24 := f3.trans f4
  have f04 := f03.trans f4
  have hpf := f04.keep _ _ hpf id
  have hps := f04.keep _ _ hps id
  have hF := RowsA.mono hF f04
  have hS := RowsA.mono hS f04
  have hp1 := f14.keep _ _ hp1 id
  have hp2 := f24.keep _ _ hp2 id
  have hw1 := RowsA.mono hw1 f14
  have hw2 := RowsA.mono hw2 f24
  have hhd := f4.keep _ _ hhd id
  have okC : ∀ k on, comb (look F) (look S) k = some on → isK 3 k ∧ okD on := fun k on h => comb_ok PF PS h
  have lw1 : ws1.length ≤ 6 := by rw [Paired.length hw1]; exact lF
  walk_at "rd"
  refine x_forR (n := 2) (fun i σ H' => ∃ v4 v5 v6 v7 v8 v9 : Option V, σ = [some (.ref pf), some (.ref ps), some (.ref hd), some v, v4, v5, v6, v7, v8, v9] ∧ Fr Non H4 H') ⟨_, _, _, _, _, _, rfl, Fr.refl _⟩ ?_ ?_
  · rintro i σ H5 hi ⟨v4, v5, v6, v7, v8, v9, rfl, f5⟩
    have hhd5 := f5.keep _ _ hhd id
    refine x_cut3 (fun σ' H' => ∃ u, σ' = [some (.ref pf), some (.ref ps), some (.ref hd), some v, some (.int (0 + (i : Int))), some u, v6, v7, v8, v9] ∧ Fr Non H5 H' ∧ TellsA (Fresh H5) (OldP H5) H' u F S) (fun nx hnx => ?_) ?_
    · walk_at "rd"
      refine ⟨p1, p2, ws1, ws2, F, S, rfl, rfl, f5.keep _ _ hp1 id, f5.keep _ _ hp2 id, RowsA.mono hw1 f5, RowsA.mono hw2 f5, PF, PS, lF, lS, fun u H6 f6 told => ?_⟩
      have f46 := f5.trans f6
      have due6 := due.mono f46
      have told6 := told
      rcases due6 with ⟨t, x, d, rfl, g1, g2, g3, g4⟩ | ⟨t, R, rs, ks, rfl, g1, _, g3, g4, g5, g6, g7⟩
      · rcases told with ⟨t2, x2, d2, rfl, k1, k2, k3, k4⟩ | ⟨t2, R2, rs2, ks2, rfl, k1, k2, k3, k4, k5, k6, k7⟩
        · rw [g4] at k4
          cases k4
          walk_at "rd"
          refine ⟨d, d, k2, g2, isK_up g3, isK_up g3, fun H7 f7 => ?_⟩
          rw [eqv_of_eq g3]
          have k17 := f7.tup _ _ k1
          have g17 := f7.tup _ _ g1
          walk_at "rd"
          exact hnx _ _ ⟨_, rfl, f6.trans f7, told6.mono f7⟩
        · rw [k3] at g4; cases g4
      · rcases told with ⟨t2, x2, d2, rfl, k1, k2, k3, k4⟩ | ⟨t2, R2, rs2, ks2, rfl, k1, k2, k3, k4, k5, k6, k7⟩
        · rw [g3] at k4; cases k4
        · cases g4.one k4
          walk_at "rd"
          refine ⟨R2, R, rs2, rs, _, rfl, rfl, k6, g6, RowsA.less k7 fun _ h => h.elim, g7, rowsOf_ok okC, Nat.le_trans (rowsOf_len _ _) k5, fun H7 f7 => ?_⟩
          have k17 := f7.tup _ _ k1
          have g17 := f7.tup _ _ g1
          walk_at "rd"
          exact hnx _ _ ⟨_, rfl, f6.trans f7, told6.mono f7⟩
    · rintro σ' H6 ⟨u, rfl, f6, told⟩
      have f46 := f5.trans f6
      have hhd6 := f6.keep _ _ hhd5 id
      walk_at "rd"
      refine ⟨p1, ws1, F, rfl, f46.keep _ _ hp1 id, RowsA.mono hw1 f46, by omega, PF.ok, fun B bs H7 f7 nB hB hbs => ?_⟩
      have f47 := f46.trans f7
      have hpf7 := f47.keep _ _ hpf id
      have hF7 := RowsA.mono hF f47
      walk_at "rd"
      refine x_iRef (C := fun a => ∃ xs, SqL K H7 a xs) ⟨_, SqL.of hpf7⟩ ?_
      intro D nD
      have nBD : B ≠ D := ne_fr hB nD
      refine x_lcL (ts.map V.ref) (fun i H' => Fr Non H7 H' ∧ ∃ us : List Addr, H' D = some (.lst (us.map V.ref)) ∧ RowsA (One D) H' us ((F.take i).map swapR)) ⟨Fr.new (Fr.refl _) nD, [], upd_same, by rw [List.take_zero]; exact .nil⟩ (fun i H' _ ⟨g, _⟩ => SqL.of (g.keep _ _ hpf7 id)) ?_ ?_
      · rintro j x H8 hx ⟨f8, cs, hD, hcs⟩
        rw [List.getElem?_map] at hx
        obtain ⟨t, ht, rfl⟩ := Option.map_eq_some_iff.mp hx
        obtain ⟨r, hri, hrow⟩ := paired_get ((RowsA.fresh hF7 nD).mono f8.non) ht
        have hok1 := PF.ok r (List.mem_of_getElem? hri)
        obtain ⟨x, a1, b1, os, ns, e1, e2, e3, e4, e5, e6, e7, e8⟩ := hrow.keys hok1
        have htk : (F.take (j + 1)).map swapR = (F.take j).map swapR ++ [swapR r] := by rw [take_snoc hri, List.map_append]; rfl
        have hul : cs.length = ((F.take j).map swapR).length := Paired.length hcs
        have hul2 : (cs.map V.ref).length ≤ 100000 := by rw [List.length_map, hul, List.length_map, List.length_take]; omega
        walk_at "rd"
        intro w1 nw1
        have f9 : Fr Non H8 (upd H8 w1 (.tup [x, .ref b1, .ref a1])) := Fr.new (Fr.refl _) nw1
        have hw19 : upd H8 w1 (.tup [x, .ref b1, .ref a1]) w1 = some (.tup [x, .ref b1, .ref a1]) := upd_same
        generalize upd H8 w1 (.tup [x, .ref b1, .ref a1]) = H9 at f9 hw19 ⊢
        have hD9 := f9.keep _ _ hD id
        walk_at "rd"
        have fm : Fr (One D) H9 (upd H9 D (.lst (cs.map V.ref ++ [.ref w1]))) := Fr.mut (Fr.refl _) hD9 rfl (.inl rfl)
        refine ⟨Fr.mut (f8.trans f9) hD9 rfl (.inr nD), cs ++ [w1], by rw [List.map_append]; exact upd_same, ?_⟩
        rw [htk]
        exact RowsA.mono (paired_app (RowsA.mono hcs f9.non) (.cons ⟨x, b1, a1, ns, os, hw19, .inl (e2.mono f9), f9.keep _ _ e6 id, e7, GdAll.of (e8.mono f9), f9.keep _ _ e3 id, e4, GdAll.of (e5.mono f9)⟩ .nil)) fm
      · rintro H8 ⟨f8, cs, hD, hcs⟩
        rw [List.take_of_length_le (by rw [List.length_map, Paired.length hF7]; exact Nat.le_refl _)] at hcs
        have hB8 := f8.keep _ _ hB id
        have hbs8 := RowsA.mono hbs f8.non
        have okW : ∀ r ∈ F.map swapR, okS r := fun r hr => by
          obtain ⟨r', h1, rfl⟩ := List.mem_map.mp hr
          exact swap_ok (PF.ok r' h1)
        have lW : (F.map swapR).length ≤ 6 := by rw [List.length_map]; exact lF
        walk_at "rd"
        refine ⟨B, D, bs, cs, F.map swapR, rfl, rfl, hB8, hD, RowsA.less hbs8 fun _ h => h.elim, RowsA.less hcs fun _ h => h.elim, okW, by omega, fun H9 f9 => ?_⟩
        have hB9 := f9.keep _ _ hB8 id
        have hbs9 := RowsA.mono hbs8 f9.non
        walk_at "rd"
        refine ⟨B, bs, OldP H6 B, rfl, hB9, .inr rfl, MarkA.of hbs9 (okS_len okW), by rw [Paired.length hbs9]; omega, fun H10 fm => ?_⟩
        have f610 : Fr Non H6 H10 := ((f7.trans f8).trans f9).marks nB fm
        have f410 := f46.trans f610
        have told10 := told.mono f610
        rcases told10 with ⟨t2, x2, d2, rfl, k1, k2, k3, k4⟩ | ⟨t2, R2, rs2, ks2, rfl, k1, k2, k3, k4, k5, k6, k7⟩
        · walk_at "rd"
          exact ⟨_, _, _, _, _, _, rfl, f410⟩
        · walk_at "rd"
          refine ⟨R2, rs2, OldP H5 R2, rfl, k6, .inr rfl, MarkA.of k7 (okS_len (rowsOf_ok okC)), by rw [Paired.length k7]; exact Nat.le_trans (rowsOf_len _ _) (by omega), fun H11 fm2 => ?_⟩
          walk_at "rd"
          exact ⟨_, _, _, _, _, _, rfl, f5.trans ((f6.trans f610).marks k2 fm2)⟩
  · rintro σ H5 ⟨v4, v5, v6, v7, v8, v9, rfl, f5⟩
    have hhd5 := f5.keep _ _ hhd id
    walk_at "rd"
    refine ⟨p1, pf, ws1, ts, F, rfl, rfl, f5.keep _ _ hp1 id, f5.keep _ _ hpf id, RowsA.mono hw1 f5, RowsA.mono hF f5, PF.ok, by omega, fun H6 f6 => ?_⟩
    have hhd6 := f6.keep _ _ hhd5 id
    have f46 := f5.trans f6
    walk_at "rd"
    refine ⟨p2, ps, ws2, us, S, rfl, rfl, f46.keep _ _ hp2 id, f46.keep _ _ hps id, RowsA.mono hw2 f46, RowsA.mono hS f46, PS.ok, by omega, fun H7 f7 => ?_⟩
    walk_at "rd"
    exact q _ (f04.trans (f46.trans f7))
end

-- the def top 31
theorem sc_law : FnScope ["_law_script", "_law_k", "_law_first", "_law_second"] ["_law_script"] (defScope s_law) := ⟨rfl, rfl, rfl, by decide +kernel, rfl, by decide +kernel, by decide +kernel⟩
def B_law (K : PySem.W.Frag) : BK1 := fun s H Q _ => ∃ (a : Addr) (ns : List Int), s = .ref a ∧ SqL K H a (ns.map V.int) ∧ ns.length ≤ 63 ∧ ∀ H', Q (.bl true) H'
section
variable {P : Program} {w : World} {K : PySem.W.Frag} {mg : Str → Option Value} {base : Heap}
theorem ok_law (T : TX K mg) {f : Addr} {fd : FuncData} (F : Fun K "law" "law" s_law f fd) : FnOk P w K mg base (L2.CX P w) 12 f fd ["_law_script"] (Sp1 (B_law K)) := by
  have C_law_patches := ok_law_patches (P := P) (w := w) (base := base) T
  have C_law_well := ok_law_well (P := P) (w := w) (base := base) T
  have C_law_asked := ok_law_asked (P := P) (w := w) (base := base) T
  refine F.okX sc_law len1 (fun cdv A outer s H vs Q E hr h => ?_)
  obtain ⟨s, rfl, h⟩ := h
  refine ⟨_, (pss_cons (ps_for (passes_of rfl) rfl (pi_range2 rfl T.b_range (pa_cons pe_int (pa_cons (pe_callB (c_max2 rfl) (by rfl) T.b_max (by decide +kernel) (pa_cons pe_int (pa_cons (pe_callB (c_min2 rfl) (by rfl) T.b_min (by decide +kernel) (pa_cons (pe_callB c_lenA (by rfl) T.b_len (by decide +kernel) (pa_cons (pv 0) pa_nil)) (pa_cons pe_int pa_nil))) pa_nil))) pa_nil))) (pg_name (i := 1) sc_law.nd rfl (Or.inl rfl)) (pss_cons (ps_asg (pcall C_law_patches hr (by first | decide | omega) rfl Passes.none (pa_cons (pcall C_law_well hr (by first | decide | omega) rfl Passes.none (pa_cons (pv 0) (pa_cons (pv 1) pa_nil))) pa_nil)) (pg_tup rfl (pgs_cons (pg_name (i := 2) sc_law.nd rfl (Or.inl rfl)) (pgs_cons (pg_name (i := 3) sc_law.nd rfl (Or.inl rfl)) pgs_nil)))) (pss_one (ps_if (pt_not (pt_val (pcall C_law_asked hr (by first | decide | omega) rfl Passes.none (pa_cons (pv 2) (pa_cons (pv 3) pa_nil))))) (pss_one (ps_ret pe_bl)) pss_nil)))) (pss_one (ps_ret pe_bl))), ?_⟩
  show (_ : TS) _ [some s, none, none, none] H
  first | dsimp only [L2.cxOf] | skip
  obtain ⟨a, ns, rfl, hS, hn, q⟩ := h
  obtain ⟨top, htop, htop1⟩ : ∃ top : Int, top = (if (if 63 < ((ns.map V.int).length : Int) then (63 : Int) else ((ns.map V.int).length : Int)) > 4 then (if 63 < ((ns.map V.int).length : Int) then (63 : Int) else ((ns.map V.int).length : Int)) else 4) ∧ (4 ≤ top ∧ top ≤ 63) := by
    refine ⟨_, rfl, ?_⟩
    rw [List.length_map]
    constructor <;> (repeat' split) <;> omega
  have hrg : (-(2 ^ 62) ≤ (1 : Int) ∧ (1 : Int) < 2 ^ 62 ∧ -(2 ^ 62) ≤ top ∧ top < 2 ^ 62) := ⟨by decide, by decide, by omega, by omega⟩
  walk_at "rd"
  rw [← htop]
  refine ⟨_, _, rfl, hrg, ?_⟩
  refine x_forR (n := (top - 1).toNat) (fun i σ H' => ∃ v1 v2 v3 : Option V, σ = [some (.ref a), v1, v2, v3] ∧ Fr Non H H') ⟨_, _, _, rfl, Fr.refl _⟩ ?_ ?_
  · rintro i σ H1 hi ⟨v1, v2, v3, rfl, f1⟩
    walk_at "rd"
    refine ⟨a, ns, _, rfl, rfl, by omega, SqL_fr hS f1 id, hn, fun W H2 f2 nW w2 => ?_⟩
    have nWH : Fresh H W := f1.free nW
    walk_at "rd"
    refine ⟨W, rfl, w2, fun t p1 p2 ts us F S H3 f3 w3 ht hp1 hp2 hF hS2 PF PS lF lS => ?_⟩
    have f03 : Fr Non H H3 := (f1.trans f2).sub' f3 fun b h => by subst h; exact .inr nWH
    walk_at "rd"
    refine ⟨p1, p2, ts, us, F, S, rfl, rfl, hp1, hp2, hF, hS2, PF, PS, lF, lS, fun H4 f4 => ?_⟩
    walk_at "rd"
    exact ⟨_, _, _, rfl, f03.trans f4⟩
  · rintro σ H1 ⟨v1, v2, v3, rfl, f1⟩
    walk_at "rd"
    exact q _
end

theorem all_mk {l : PySem.W.OpenLaw} {w : World} {K : PySem.W.Frag} {h : Heap} {mg : Str → Option Value} {fa : Addr} {k_NoKey : Addr} {k_NotRising : Addr} {k_Overlap : Addr} {k_Stale : Addr} {k_TwigError : Addr} {f0 : Addr} {od0 an0 : Option Addr} {sl0 : Array (Option Value)} {oc0 kV0 dc0 pm0 cd0 ct0 : Value} {f1 : Addr} {od1 an1 : Option Addr} {sl1 : Array (Option Value)} {oc1 kV1 dc1 pm1 cd1 ct1 : Value} {f2 : Addr} {od2 an2 : Option Addr} {sl2 : Array (Option Value)} {oc2 kV2 dc2 pm2 cd2 ct2 : Value} {f3 : Addr} {od3 an3 : Option Addr} {sl3 : Array (Option Value)} {oc3 kV3 dc3 pm3 cd3 ct3 : Value} {f4 : Addr} {od4 an4 : Option Addr} {sl4 : Array (Option Value)} {oc4 kV4 dc4 pm4 cd4 ct4 : Value} {f5 : Addr} {od5 an5 : Option Addr} {sl5 : Array (Option Value)} {oc5 kV5 dc5 pm5 cd5 ct5 : Value} {f6 : Addr} {od6 an6 : Option Addr} {sl6 : Array (Option Value)} {oc6 kV6 dc6 pm6 cd6 ct6 : Value} {f7 : Addr} {od7 an7 : Option Addr} {sl7 : Array (Option Value)} {oc7 kV7 dc7 pm7 cd7 ct7 : Value} {f8 : Addr} {od8 an8 : Option Addr} {sl8 : Array (Option Value)} {oc8 kV8 dc8 pm8 cd8 ct8 : Value} {f9 : Addr} {od9 an9 : Option Addr} {sl9 : Array (Option Value)} {oc9 kV9 dc9 pm9 cd9 ct9 : Value} {f10 : Addr} {od10 an10 : Option Addr} {sl10 : Array (Option Value)} {oc10 kV10 dc10 pm10 cd10 ct10 : Value} {f11 : Addr} {od11 an11 : Option Addr} {sl11 : Array (Option Value)} {oc11 kV11 dc11 pm11 cd11 ct11 : Value} {f12 : Addr} {od12 an12 : Option Addr} {sl12 : Array (Option Value)} {oc12 kV12 dc12 pm12 cd12 ct12 : Value} {f13 : Addr} {od13 an13 : Option Addr} {sl13 : Array (Option Value)} {oc13 kV13 dc13 pm13 cd13 ct13 : Value} {f14 : Addr} {od14 an14 : Option Addr} {sl14 : Array (Option Value)} {oc14 kV14 dc14 pm14 cd14 ct14 : Value} {f15 : Addr} {od15 an15 : Option Addr} {sl15 : Array (Option Value)} {oc15 kV15 dc15 pm15 cd15 ct15 : Value} {f16 : Addr} {od16 an16 : Option Addr} {sl16 : Array (Option Value)} {oc16 kV16 dc16 pm16 cd16 ct16 : Value} {f17 : Addr} {od17 an17 : Option Addr} {sl17 : Array (Option Value)} {oc17 kV17 dc17 pm17 cd17 ct17 : Value} {f18 : Addr} {od18 an18 : Option Addr} {sl18 : Array (Option Value)} {oc18 kV18 dc18 pm18 cd18 ct18 : Value} {f19 : Addr} {od19 an19 : Option Addr} {sl19 : Array (Option Value)} {oc19 kV19 dc19 pm19 cd19 ct19 : Value} {f20 : Addr} {od20 an20 : Option Addr} {sl20 : Array (Option Value)} {oc20 kV20 dc20 pm20 cd20 ct20 : Value} {f21 : Addr} {od21 an21 : Option Addr} {sl21 : Array (Option Value)} {oc21 kV21 dc21 pm21 cd21 ct21 : Value} {f22 : Addr} {od22 an22 : Option Addr} {sl22 : Array (Option Value)} {oc22 kV22 dc22 pm22 cd22 ct22 : Value} {f23 : Addr} {od23 an23 : Option Addr} {sl23 : Array (Option Value)} {oc23 kV23 dc23 pm23 cd23 ct23 : Value} {nm_Stale qn_Stale : Str} {N_Stale : Addr} {bs_Stale bm_Stale su_Stale : List Value} {sn_Stale : List Str} {ab_Stale : Bool} {co_Stale : Option Bool} {dd_Stale : Option Addr} {g0_Stale g1_Stale g2_Stale g3_Stale g5_Stale : Option Value} (X : K.In h) (G : h.Ns mainGlobals mg) (hfa : mg "law" = some (.ref fa))
    (n_NoKey : PySem.W.nsIn K mainGlobals "NoKey" = some (some (.ref k_NoKey)))
    (n_NotRising : PySem.W.nsIn K mainGlobals "NotRising" = some (some (.ref k_NotRising)))
    (n_Overlap : PySem.W.nsIn K mainGlobals "Overlap" = some (some (.ref k_Overlap)))
    (n_Stale : PySem.W.nsIn K mainGlobals "Stale" = some (some (.ref k_Stale)))
    (n_TwigError : PySem.W.nsIn K mainGlobals "TwigError" = some (some (.ref k_TwigError)))
    (a0 : PySem.W.nsIn K mainGlobals "_law_pull" = some (some (.ref f0))) (l0 : K.lookup f0 = some ⟨oc0, od0, .func (PySem.W.fnOf "_law_pull" "_law_pull" (defArgs s_law_pull) (defBody s_law_pull) (defScope s_law_pull) .none kV0 dc0 pm0 an0 cd0 ct0), sl0⟩) (c0 : PySem.W.codeIn K cd0 "_law_pull" = true) (k0 : PySem.W.keepIn K (.ref f0) = true)
    (a1 : PySem.W.nsIn K mainGlobals "_law_text" = some (some (.ref f1))) (l1 : K.lookup f1 = some ⟨oc1, od1, .func (PySem.W.fnOf "_law_text" "_law_text" (defArgs s_law_text) (defBody s_law_text) (defScope s_law_text) .none kV1 dc1 pm1 an1 cd1 ct1), sl1⟩) (c1 : PySem.W.codeIn K cd1 "_law_text" = true) (k1 : PySem.W.keepIn K (.ref f1) = true)
    (a2 : PySem.W.nsIn K mainGlobals "_law_great" = some (some (.ref f2))) (l2 : K.lookup f2 = some ⟨oc2, od2, .func (PySem.W.fnOf "_law_great" "_law_great" (defArgs s_law_great) (defBody s_law_great) (defScope s_law_great) .none kV2 dc2 pm2 an2 cd2 ct2), sl2⟩) (c2 : PySem.W.codeIn K cd2 "_law_great" = true) (k2 : PySem.W.keepIn K (.ref f2) = true)
    (a3 : PySem.W.nsIn K mainGlobals "_law_key" = some (some (.ref f3))) (l3 : K.lookup f3 = some ⟨oc3, od3, .func (PySem.W.fnOf "_law_key" "_law_key" (defArgs s_law_key) (defBody s_law_key) (defScope s_law_key) .none kV3 dc3 pm3 an3 cd3 ct3), sl3⟩) (c3 : PySem.W.codeIn K cd3 "_law_key" = true) (k3 : PySem.W.keepIn K (.ref f3) = true)
    (a4 : PySem.W.nsIn K mainGlobals "_law_rank" = some (some (.ref f4))) (l4 : K.lookup f4 = some ⟨oc4, od4, .func (PySem.W.fnOf "_law_rank" "_law_rank" (defArgs s_law_rank) (defBody s_law_rank) (defScope s_law_rank) .none kV4 dc4 pm4 an4 cd4 ct4), sl4⟩) (c4 : PySem.W.codeIn K cd4 "_law_rank" = true) (k4 : PySem.W.keepIn K (.ref f4) = true)
    (a5 : PySem.W.nsIn K mainGlobals "_law_keys" = some (some (.ref f5))) (l5 : K.lookup f5 = some ⟨oc5, od5, .func (PySem.W.fnOf "_law_keys" "_law_keys" (defArgs s_law_keys) (defBody s_law_keys) (defScope s_law_keys) .none kV5 dc5 pm5 an5 cd5 ct5), sl5⟩) (c5 : PySem.W.codeIn K cd5 "_law_keys" = true) (k5 : PySem.W.keepIn K (.ref f5) = true)
    (a6 : PySem.W.nsIn K mainGlobals "_law_value" = some (some (.ref f6))) (l6 : K.lookup f6 = some ⟨oc6, od6, .func (PySem.W.fnOf "_law_value" "_law_value" (defArgs s_law_value) (defBody s_law_value) (defScope s_law_value) .none kV6 dc6 pm6 an6 cd6 ct6), sl6⟩) (c6 : PySem.W.codeIn K cd6 "_law_value" = true) (k6 : PySem.W.keepIn K (.ref f6) = true)
    (a7 : PySem.W.nsIn K mainGlobals "_law_alike" = some (some (.ref f7))) (l7 : K.lookup f7 = some ⟨oc7, od7, .func (PySem.W.fnOf "_law_alike" "_law_alike" (defArgs s_law_alike) (defBody s_law_alike) (defScope s_law_alike) .none kV7 dc7 pm7 an7 cd7 ct7), sl7⟩) (c7 : PySem.W.codeIn K cd7 "_law_alike" = true) (k7 : PySem.W.keepIn K (.ref f7) = true)
    (a8 : PySem.W.nsIn K mainGlobals "_law_rows_alike" = some (some (.ref f8))) (l8 : K.lookup f8 = some ⟨oc8, od8, .func (PySem.W.fnOf "_law_rows_alike" "_law_rows_alike" (defArgs s_law_rows_alike) (defBody s_law_rows_alike) (defScope s_law_rows_alike) .none kV8 dc8 pm8 an8 cd8 ct8), sl8⟩) (c8 : PySem.W.codeIn K cd8 "_law_rows_alike" = true) (k8 : PySem.W.keepIn K (.ref f8) = true)
    (a9 : PySem.W.nsIn K mainGlobals "_law_side" = some (some (.ref f9))) (l9 : K.lookup f9 = some ⟨oc9, od9, .func (PySem.W.fnOf "_law_side" "_law_side" (defArgs s_law_side) (defBody s_law_side) (defScope s_law_side) .none kV9 dc9 pm9 an9 cd9 ct9), sl9⟩) (c9 : PySem.W.codeIn K cd9 "_law_side" = true) (k9 : PySem.W.keepIn K (.ref f9) = true)
    (a10 : PySem.W.nsIn K mainGlobals "_law_patches" = some (some (.ref f10))) (l10 : K.lookup f10 = some ⟨oc10, od10, .func (PySem.W.fnOf "_law_patches" "_law_patches" (defArgs s_law_patches) (defBody s_law_patches) (defScope s_law_patches) .none kV10 dc10 pm10 an10 cd10 ct10), sl10⟩) (c10 : PySem.W.codeIn K cd10 "_law_patches" = true) (k10 : PySem.W.keepIn K (.ref f10) = true)
    (a11 : PySem.W.nsIn K mainGlobals "_law_well" = some (some (.ref f11))) (l11 : K.lookup f11 = some ⟨oc11, od11, .func (PySem.W.fnOf "_law_well" "_law_well" (defArgs s_law_well) (defBody s_law_well) (defScope s_law_well) .none kV11 dc11 pm11 an11 cd11 ct11), sl11⟩) (c11 : PySem.W.codeIn K cd11 "_law_well" = true) (k11 : PySem.W.keepIn K (.ref f11) = true)
    (a12 : PySem.W.nsIn K mainGlobals "_law_due" = some (some (.ref f12))) (l12 : K.lookup f12 = some ⟨oc12, od12, .func (PySem.W.fnOf "_law_due" "_law_due" (defArgs s_law_due) (defBody s_law_due) (defScope s_law_due) .none kV12 dc12 pm12 an12 cd12 ct12), sl12⟩) (c12 : PySem.W.codeIn K cd12 "_law_due" = true) (k12 : PySem.W.keepIn K (.ref f12) = true)
    (a13 : PySem.W.nsIn K mainGlobals "_law_copy" = some (some (.ref f13))) (l13 : K.lookup f13 = some ⟨oc13, od13, .func (PySem.W.fnOf "_law_copy" "_law_copy" (defArgs s_law_copy) (defBody s_law_copy) (defScope s_law_copy) .none kV13 dc13 pm13 an13 cd13 ct13), sl13⟩) (c13 : PySem.W.codeIn K cd13 "_law_copy" = true) (k13 : PySem.W.keepIn K (.ref f13) = true)
    (a14 : PySem.W.nsIn K mainGlobals "rank" = some (some (.ref f14))) (l14 : K.lookup f14 = some ⟨oc14, od14, .func (PySem.W.fnOf "rank" "rank" (defArgs s_rank) (defBody s_rank) (defScope s_rank) .none kV14 dc14 pm14 an14 cd14 ct14), sl14⟩) (c14 : PySem.W.codeIn K cd14 "rank" = true) (k14 : PySem.W.keepIn K (.ref f14) = true)
    (a15 : PySem.W.nsIn K mainGlobals "order" = some (some (.ref f15))) (l15 : K.lookup f15 = some ⟨oc15, od15, .func (PySem.W.fnOf "order" "order" (defArgs s_order) (defBody s_order) (defScope s_order) .none kV15 dc15 pm15 an15 cd15 ct15), sl15⟩) (c15 : PySem.W.codeIn K cd15 "order" = true) (k15 : PySem.W.keepIn K (.ref f15) = true)
    (b16 : PySem.W.findIn K (.ref k_Stale) "__init__" = some (some (.ref f16))) (t16 : PySem.W.typeIn K (.ref f16) = some (.type "function")) (l16 : K.lookup f16 = some ⟨oc16, od16, .func (PySem.W.fnOf "__init__" "Stale.__init__" (defArgs s_Stale___init__) (defBody s_Stale___init__) (defScope s_Stale___init__) .none kV16 dc16 pm16 an16 cd16 ct16), sl16⟩) (c16 : PySem.W.codeIn K cd16 "Stale.__init__" = true) (k16 : PySem.W.keepIn K (.ref f16) = true)
    (a17 : PySem.W.nsIn K mainGlobals "behind" = some (some (.ref f17))) (l17 : K.lookup f17 = some ⟨oc17, od17, .func (PySem.W.fnOf "behind" "behind" (defArgs s_behind) (defBody s_behind) (defScope s_behind) .none kV17 dc17 pm17 an17 cd17 ct17), sl17⟩) (c17 : PySem.W.codeIn K cd17 "behind" = true) (k17 : PySem.W.keepIn K (.ref f17) = true)
    (a18 : PySem.W.nsIn K mainGlobals "_law_told" = some (some (.ref f18))) (l18 : K.lookup f18 = some ⟨oc18, od18, .func (PySem.W.fnOf "_law_told" "_law_told" (defArgs s_law_told) (defBody s_law_told) (defScope s_law_told) .none kV18 dc18 pm18 an18 cd18 ct18), sl18⟩) (c18 : PySem.W.codeIn K cd18 "_law_told" = true) (k18 : PySem.W.keepIn K (.ref f18) = true)
    (a19 : PySem.W.nsIn K mainGlobals "turned" = some (some (.ref f19))) (l19 : K.lookup f19 = some ⟨oc19, od19, .func (PySem.W.fnOf "turned" "turned" (defArgs s_turned) (defBody s_turned) (defScope s_turned) .none kV19 dc19 pm19 an19 cd19 ct19), sl19⟩) (c19 : PySem.W.codeIn K cd19 "turned" = true) (k19 : PySem.W.keepIn K (.ref f19) = true)
    (a20 : PySem.W.nsIn K mainGlobals "_law_marked" = some (some (.ref f20))) (l20 : K.lookup f20 = some ⟨oc20, od20, .func (PySem.W.fnOf "_law_marked" "_law_marked" (defArgs s_law_marked) (defBody s_law_marked) (defScope s_law_marked) .none kV20 dc20 pm20 an20 cd20 ct20), sl20⟩) (c20 : PySem.W.codeIn K cd20 "_law_marked" = true) (k20 : PySem.W.keepIn K (.ref f20) = true)
    (a21 : PySem.W.nsIn K mainGlobals "_law_patch_alike" = some (some (.ref f21))) (l21 : K.lookup f21 = some ⟨oc21, od21, .func (PySem.W.fnOf "_law_patch_alike" "_law_patch_alike" (defArgs s_law_patch_alike) (defBody s_law_patch_alike) (defScope s_law_patch_alike) .none kV21 dc21 pm21 an21 cd21 ct21), sl21⟩) (c21 : PySem.W.codeIn K cd21 "_law_patch_alike" = true) (k21 : PySem.W.keepIn K (.ref f21) = true)
    (a22 : PySem.W.nsIn K mainGlobals "_law_asked" = some (some (.ref f22))) (l22 : K.lookup f22 = some ⟨oc22, od22, .func (PySem.W.fnOf "_law_asked" "_law_asked" (defArgs s_law_asked) (defBody s_law_asked) (defScope s_law_asked) .none kV22 dc22 pm22 an22 cd22 ct22), sl22⟩) (c22 : PySem.W.codeIn K cd22 "_law_asked" = true) (k22 : PySem.W.keepIn K (.ref f22) = true)
    (a23 : PySem.W.nsIn K mainGlobals "law" = some (some (.ref f23))) (l23 : K.lookup f23 = some ⟨oc23, od23, .func (PySem.W.fnOf "law" "law" (defArgs s_law) (defBody s_law) (defScope s_law) .none kV23 dc23 pm23 an23 cd23 ct23), sl23⟩) (c23 : PySem.W.codeIn K cd23 "law" = true) (k23 : PySem.W.keepIn K (.ref f23) = true)
    (z_ValueError : PySem.W.nsIn K mainGlobals "ValueError" = some none)
    (z_abs : PySem.W.nsIn K mainGlobals "abs" = some none)
    (z_all : PySem.W.nsIn K mainGlobals "all" = some none)
    (z_bool : PySem.W.nsIn K mainGlobals "bool" = some none)
    (z_int : PySem.W.nsIn K mainGlobals "int" = some none)
    (z_isinstance : PySem.W.nsIn K mainGlobals "isinstance" = some none)
    (z_len : PySem.W.nsIn K mainGlobals "len" = some none)
    (z_list : PySem.W.nsIn K mainGlobals "list" = some none)
    (z_max : PySem.W.nsIn K mainGlobals "max" = some none)
    (z_min : PySem.W.nsIn K mainGlobals "min" = some none)
    (z_range : PySem.W.nsIn K mainGlobals "range" = some none)
    (z_sorted : PySem.W.nsIn K mainGlobals "sorted" = some none)
    (z_str : PySem.W.nsIn K mainGlobals "str" = some none)
    (z_tuple : PySem.W.nsIn K mainGlobals "tuple" = some none)
    (v1_Stale : K.lookup k_Stale = some (excClassObj nm_Stale qn_Stale k_Stale N_Stale bs_Stale bm_Stale true sn_Stale su_Stale ab_Stale co_Stale dd_Stale g0_Stale g1_Stale g2_Stale g3_Stale g5_Stale "ValueError.__new__")) (v2_Stale : HandSPX.refsVE bm_Stale = true)
    (v3_Stale : PySem.W.findIn K (.ref k_Stale) "__setattr__" = some (some (.builtin "object.__setattr__"))) (v4_Stale : PySem.W.subIn K (.ref k_Stale) (.type "BaseException") = some true) (v5_Stale : PySem.W.typeIn K (.ref k_Stale) = some (.type "type")) (v6_Stale : PySem.W.keepIn K (.ref k_Stale) = true)
    (v7_Stale : PySem.W.findIn K (.ref k_Stale) "__getattribute__" = some (some (.builtin "BaseException.__getattribute__"))) (v8_Stale : PySem.W.findIn K (.ref k_Stale) "__getattr__" = some none) (v9_Stale : PySem.W.hasDictIn K k_Stale = true) (va_Stale : PySem.W.findIn K (.ref k_Stale) "key" = some none)
    (w1_TwigError : PySem.W.specialIn K (.ref k_TwigError) "__getattribute__" = some (some (.builtin "type.__getattribute__"))) (w2_TwigError : PySem.W.readsIn K k_TwigError (.type "type") = true) (w3_TwigError : PySem.W.findCls K (.ref k_TwigError) (.type "type") "__init__" = some (.val (.builtin "ValueError.__init__")))
    (y_em_Stale : PySem.W.exmOne K (.ref k_Stale) (.ref k_TwigError) = some true)
    (y_xc_Stale : excCB K k_Stale = true)
    (y_cl_Stale : (PySem.W.clsIn K k_Stale).isSome = true)
    (y_ki_Stale : PySem.W.kitOne K (.ref k_Stale) (.ref k_Stale) = some true)
    (y_ki_Stale_VE : PySem.W.kitOne K (.ref k_Stale) (.type "ValueError") = some true)
    (y_ka_Stale_3 : PySem.W.kitAny K (.ref k_Stale) [.ref k_NoKey, .ref k_NotRising, .ref k_Overlap] = some false) :
    ∃ fd : FuncData, (∀ (s : Shared) (v : Value), BindsTo s fd ⟨[v], []⟩ [("_law_script", v)]) ∧ ∀ base : Heap, K.In base → base.Ns mainGlobals mg → FnOk l.prog w K mg base (L2.CX l.prog w) 12 fa fd ["_law_script"] (Sp1 (B_law K)) := by
  have e := hfa.symm.trans (PySem.W.mg_of X G a23)
  cases e
  have e_NoKey : clA mg "NoKey" = k_NoKey := clA_of (PySem.W.mg_of X G n_NoKey)
  have e_NotRising : clA mg "NotRising" = k_NotRising := clA_of (PySem.W.mg_of X G n_NotRising)
  have e_Overlap : clA mg "Overlap" = k_Overlap := clA_of (PySem.W.mg_of X G n_Overlap)
  have e_Stale : clA mg "Stale" = k_Stale := clA_of (PySem.W.mg_of X G n_Stale)
  have e_TwigError : clA mg "TwigError" = k_TwigError := clA_of (PySem.W.mg_of X G n_TwigError)
  have T : TX K mg := {
    d_law_pull := ⟨_, _, fun_mk (st := s_law_pull) l0 c0 k0, PySem.W.mg_of X G a0, (fun_mk (st := s_law_pull) l0 c0 k0).binds (ps := ["_law_well_here", "_law_many"]) fun _ _ _ _ _ _ us hl => match us, hl with | [_, _], _ => rfl⟩,
    d_law_text := ⟨_, _, fun_mk (st := s_law_text) l1 c1 k1, PySem.W.mg_of X G a1, (fun_mk (st := s_law_text) l1 c1 k1).binds (ps := ["_law_well_here"]) fun _ _ _ _ _ _ us hl => match us, hl with | [_], _ => rfl⟩,
    d_law_great := ⟨_, _, fun_mk (st := s_law_great) l2 c2 k2, PySem.W.mg_of X G a2, (fun_mk (st := s_law_great) l2 c2 k2).binds (ps := ["_law_well_here", "_law_bound"]) fun _ _ _ _ _ _ us hl => match us, hl with | [_, _], _ => rfl⟩,
    d_law_key := ⟨_, _, fun_mk (st := s_law_key) l3 c3 k3, PySem.W.mg_of X G a3, (fun_mk (st := s_law_key) l3 c3 k3).binds (ps := ["_law_well_here", "_law_room"]) fun _ _ _ _ _ _ us hl => match us, hl with | [_, _], _ => rfl⟩,
    d_law_rank := ⟨_, _, fun_mk (st := s_law_rank) l4 c4 k4, PySem.W.mg_of X G a4, (fun_mk (st := s_law_rank) l4 c4 k4).binds (ps := ["_law_spot"]) fun _ _ _ _ _ _ us hl => match us, hl with | [_], _ => rfl⟩,
    d_law_keys := ⟨_, _, fun_mk (st := s_law_keys) l5 c5 k5, PySem.W.mg_of X G a5, (fun_mk (st := s_law_keys) l5 c5 k5).binds (ps := ["_law_well_here", "_law_many"]) fun _ _ _ _ _ _ us hl => match us, hl with | [_, _], _ => rfl⟩,
    d_law_value := ⟨_, _, fun_mk (st := s_law_value) l6 c6 k6, PySem.W.mg_of X G a6, (fun_mk (st := s_law_value) l6 c6 k6).binds (ps := ["_law_well_here"]) fun _ _ _ _ _ _ us hl => match us, hl with | [_], _ => rfl⟩,
    d_law_alike := ⟨_, _, fun_mk (st := s_law_alike) l7 c7 k7, PySem.W.mg_of X G a7, (fun_mk (st := s_law_alike) l7 c7 k7).binds (ps := ["_law_found", "_law_due_here"]) fun _ _ _ _ _ _ us hl => match us, hl with | [_, _], _ => rfl⟩,
    d_law_rows_alike := ⟨_, _, fun_mk (st := s_law_rows_alike) l8 c8 k8, PySem.W.mg_of X G a8, (fun_mk (st := s_law_rows_alike) l8 c8 k8).binds (ps := ["_law_found", "_law_due_here"]) fun _ _ _ _ _ _ us hl => match us, hl with | [_, _], _ => rfl⟩,
    d_law_side := ⟨_, _, fun_mk (st := s_law_side) l9 c9 k9, PySem.W.mg_of X G a9, (fun_mk (st := s_law_side) l9 c9 k9).binds (ps := ["_law_well_here", "_law_other"]) fun _ _ _ _ _ _ us hl => match us, hl with | [_, _], _ => rfl⟩,
    d_law_patches := ⟨_, _, fun_mk (st := s_law_patches) l10 c10 k10, PySem.W.mg_of X G a10, (fun_mk (st := s_law_patches) l10 c10 k10).binds (ps := ["_law_well_here"]) fun _ _ _ _ _ _ us hl => match us, hl with | [_], _ => rfl⟩,
    d_law_well := ⟨_, _, fun_mk (st := s_law_well) l11 c11 k11, PySem.W.mg_of X G a11, (fun_mk (st := s_law_well) l11 c11 k11).binds (ps := ["_law_script", "_law_k"]) fun _ _ _ _ _ _ us hl => match us, hl with | [_, _], _ => rfl⟩,
    d_law_due := ⟨_, _, fun_mk (st := s_law_due) l12 c12 k12, PySem.W.mg_of X G a12, (fun_mk (st := s_law_due) l12 c12 k12).binds (ps := ["_law_first", "_law_second"]) fun _ _ _ _ _ _ us hl => match us, hl with | [_, _], _ => rfl⟩,
    d_law_copy := ⟨_, _, fun_mk (st := s_law_copy) l13 c13 k13, PySem.W.mg_of X G a13, (fun_mk (st := s_law_copy) l13 c13 k13).binds (ps := ["_law_rows"]) fun _ _ _ _ _ _ us hl => match us, hl with | [_], _ => rfl⟩,
    d_rank := ⟨_, _, fun_mk (st := s_rank) l14 c14 k14, PySem.W.mg_of X G a14, (fun_mk (st := s_rank) l14 c14 k14).binds (ps := ["key"]) fun _ _ _ _ _ _ us hl => match us, hl with | [_], _ => rfl⟩,
    d_order := ⟨_, _, fun_mk (st := s_order) l15 c15 k15, PySem.W.mg_of X G a15, (fun_mk (st := s_order) l15 c15 k15).binds (ps := ["keys"]) fun _ _ _ _ _ _ us hl => match us, hl with | [_], _ => rfl⟩,
    d_Stale___init__ := ⟨_, _, fun_mk (st := s_Stale___init__) l16 c16 k16, by rw [e_Stale]; exact b16, t16, (fun_mk (st := s_Stale___init__) l16 c16 k16).binds (ps := ["self", "key"]) fun _ _ _ _ _ _ us hl => match us, hl with | [_, _], _ => rfl⟩,
    d_behind := ⟨_, _, fun_mk (st := s_behind) l17 c17 k17, PySem.W.mg_of X G a17, (fun_mk (st := s_behind) l17 c17 k17).binds (ps := ["first", "second"]) fun _ _ _ _ _ _ us hl => match us, hl with | [_, _], _ => rfl⟩,
    d_law_told := ⟨_, _, fun_mk (st := s_law_told) l18 c18 k18, PySem.W.mg_of X G a18, (fun_mk (st := s_law_told) l18 c18 k18).binds (ps := ["_law_first", "_law_second"]) fun _ _ _ _ _ _ us hl => match us, hl with | [_, _], _ => rfl⟩,
    d_turned := ⟨_, _, fun_mk (st := s_turned) l19 c19 k19, PySem.W.mg_of X G a19, (fun_mk (st := s_turned) l19 c19 k19).binds (ps := ["patch"]) fun _ _ _ _ _ _ us hl => match us, hl with | [_], _ => rfl⟩,
    d_law_marked := ⟨_, _, fun_mk (st := s_law_marked) l20 c20 k20, PySem.W.mg_of X G a20, (fun_mk (st := s_law_marked) l20 c20 k20).binds (ps := ["_law_rows"]) fun _ _ _ _ _ _ us hl => match us, hl with | [_], _ => rfl⟩,
    d_law_patch_alike := ⟨_, _, fun_mk (st := s_law_patch_alike) l21 c21 k21, PySem.W.mg_of X G a21, (fun_mk (st := s_law_patch_alike) l21 c21 k21).binds (ps := ["_law_found", "_law_due_here"]) fun _ _ _ _ _ _ us hl => match us, hl with | [_, _], _ => rfl⟩,
    d_law_asked := ⟨_, _, fun_mk (st := s_law_asked) l22 c22 k22, PySem.W.mg_of X G a22, (fun_mk (st := s_law_asked) l22 c22 k22).binds (ps := ["_law_first", "_law_second"]) fun _ _ _ _ _ _ us hl => match us, hl with | [_, _], _ => rfl⟩,
    d_law := ⟨_, _, fun_mk (st := s_law) l23 c23 k23, PySem.W.mg_of X G a23, (fun_mk (st := s_law) l23 c23 k23).binds (ps := ["_law_script"]) fun _ _ _ _ _ _ us hl => match us, hl with | [_], _ => rfl⟩,
    b_ValueError := PySem.W.mg_none_of X G z_ValueError,
    b_abs := PySem.W.mg_none_of X G z_abs,
    b_all := PySem.W.mg_none_of X G z_all,
    b_bool := PySem.W.mg_none_of X G z_bool,
    b_int := PySem.W.mg_none_of X G z_int,
    b_isinstance := PySem.W.mg_none_of X G z_isinstance,
    b_len := PySem.W.mg_none_of X G z_len,
    b_list := PySem.W.mg_none_of X G z_list,
    b_max := PySem.W.mg_none_of X G z_max,
    b_min := PySem.W.mg_none_of X G z_min,
    b_range := PySem.W.mg_none_of X G z_range,
    b_sorted := PySem.W.mg_none_of X G z_sorted,
    b_str := PySem.W.mg_none_of X G z_str,
    b_tuple := PySem.W.mg_none_of X G z_tuple,
    x_NoKey := ⟨by rw [e_NoKey]; exact PySem.W.mg_of X G n_NoKey⟩,
    x_NotRising := ⟨by rw [e_NotRising]; exact PySem.W.mg_of X G n_NotRising⟩,
    x_Overlap := ⟨by rw [e_Overlap]; exact PySem.W.mg_of X G n_Overlap⟩,
    x_Stale := ⟨by rw [e_Stale]; exact PySem.W.mg_of X G n_Stale⟩,
    x_TwigError := ⟨by rw [e_TwigError]; exact PySem.W.mg_of X G n_TwigError⟩,
    o_Stale := ⟨by rw [e_Stale]; exact PySem.W.mg_of X G n_Stale, by rw [e_Stale]; exact ⟨⟨_, _, _, _, _, _, _, _, _, _, _, _, _, _, _, v1_Stale, v2_Stale⟩, v3_Stale, v4_Stale, v5_Stale, v6_Stale⟩, by rw [e_Stale]; exact ⟨v7_Stale, v8_Stale, v4_Stale, v9_Stale⟩, by rw [e_Stale]; exact va_Stale⟩,
    bs_TwigError := by rw [e_TwigError]; exact ⟨w1_TwigError, w2_TwigError, w3_TwigError⟩,
    em_Stale := by rw [e_Stale, e_TwigError]; exact y_em_Stale,
    xc_Stale := by rw [e_Stale]; exact y_xc_Stale,
    cl_Stale := by rw [e_Stale]; exact y_cl_Stale,
    ki_Stale := by rw [e_Stale]; exact y_ki_Stale,
    ki_Stale_VE := by rw [e_Stale]; exact y_ki_Stale_VE,
    ka_Stale_3 := by rw [e_NoKey, e_NotRising, e_Overlap, e_Stale]; exact y_ka_Stale_3 }
  exact ⟨_, fun s v => .of_eq rfl, fun base _ _ => ok_law T (fun_mk (st := s_law) l23 c23 k23)⟩
theorem walk {l : PySem.W.OpenLaw} {q : Program} {loose : List Str} {XP : (Str → Option Value) → Heap → Prop} {YP : World → Heap → Prop} {d : DefRec} {K : Params → PySem.W.Frag} (hn : l.most = some 63) (hdf : d.params.defaults = [])
    (hY : ∀ (w : World) (h : Heap), YP w h → (K w.params).In h)
    (F : ∀ (w : World) (mg : Str → Option Value) (fa : Addr) (h : Heap), (K w.params).In h → h.Ns mainGlobals mg → mg d.name = some (.ref fa) →
      ∃ fd : FuncData, (∀ (s : Shared) (v : Value), BindsTo s fd ⟨[v], []⟩ [("_law_script", v)]) ∧ ∀ base : Heap, (K w.params).In base → base.Ns mainGlobals mg → FnOk l.prog w (K w.params) mg base (L2.CX l.prog w) 12 fa fd ["_law_script"] (Sp1 (B_law (K w.params)))) :
    PySem.W.WalkO q loose XP YP l.row.toRowW d [] (fun f vs => PySem.call f vs) :=
  L2.walk_of (n := 63) (k := 12) (x := "_law_script") (CX := fun w => L2.CX l.prog w) (sp := fun w => Sp1 (B_law (K w.params))) hn (by decide) hdf ⟨rfl, by decide, by decide⟩ hY F (fun _ _ a ns hl _ hS => ⟨_, rfl, a, ns, rfl, hS, hl, fun _ => rfl⟩) fun _ _ _ _ _ z => by obtain ⟨_, _, _, _, _, _, _, _, _, _, _, _, h⟩ := z; exact h
end Tw

open PySem PySem.W PyProof.Rows in
set_option maxRecDepth 100000 in
set_option maxHeartbeats 0 in
theorem PySem.Challenge.cw_twigmap_k65_behind_and_turned_holds : PySem.Challenge.rw_twigmap_k65_behind_and_turned.Holds := by
  w_on; o_law; k_head; (case hw => w_witness2)
  k_fill
  refine Tw.walk (l := PySem.Challenge.rw_twigmap_k65_behind_and_turned) rfl rfl (fun w h Y => PySem.W.kIn_of Y) ?F
  case F =>
    intro w mg fa h KX G hmg
    refine' Tw.all_mk KX G hmg ?n_NoKey ?n_NotRising ?n_Overlap ?n_Stale ?n_TwigError ?a0 ?l0 ?c0 ?k0 ?a1 ?l1 ?c1 ?k1 ?a2 ?l2 ?c2 ?k2 ?a3 ?l3 ?c3 ?k3 ?a4 ?l4 ?c4 ?k4 ?a5 ?l5 ?c5 ?k5 ?a6 ?l6 ?c6 ?k6 ?a7 ?l7 ?c7 ?k7 ?a8 ?l8 ?c8 ?k8 ?a9 ?l9 ?c9 ?k9 ?a10 ?l10 ?c10 ?k10 ?a11 ?l11 ?c11 ?k11 ?a12 ?l12 ?c12 ?k12 ?a13 ?l13 ?c13 ?k13 ?a14 ?l14 ?c14 ?k14 ?a15 ?l15 ?c15 ?k15 ?b16 ?t16 ?l16 ?c16 ?k16 ?a17 ?l17 ?c17 ?k17 ?a18 ?l18 ?c18 ?k18 ?a19 ?l19 ?c19 ?k19 ?a20 ?l20 ?c20 ?k20 ?a21 ?l21 ?c21 ?k21 ?a22 ?l22 ?c22 ?k22 ?a23 ?l23 ?c23 ?k23 ?z_ValueError ?z_abs ?z_all ?z_bool ?z_int ?z_isinstance ?z_len ?z_list ?z_max ?z_min ?z_range ?z_sorted ?z_str ?z_tuple ?v1_Stale ?v2_Stale ?v3_Stale ?v4_Stale ?v5_Stale ?v6_Stale ?v7_Stale ?v8_Stale ?v9_Stale ?va_Stale ?w1_TwigError ?w2_TwigError ?w3_TwigError ?y_em_Stale ?y_xc_Stale ?y_cl_Stale ?y_ki_Stale ?y_ki_Stale_VE ?y_ka_Stale_3
    (case n_NoKey => k_is)
    (case n_NotRising => k_is)
    (case n_Overlap => k_is)
    (case n_Stale => k_is)
    (case n_TwigError => k_is)
    (case a0 => k_is)
    (case l0 => k_is)
    (case c0 => k_is)
    (case k0 => k_is)
    (case a1 => k_is)
    (case l1 => k_is)
    (case c1 => k_is)
    (case k1 => k_is)
    (case a2 => k_is)
    (case l2 => k_is)
    (case c2 => k_is)
    (case k2 => k_is)
    (case a3 => k_is)
    (case l3 => k_is)
    (case c3 => k_is)
    (case k3 => k_is)
    (case a4 => k_is)
    (case l4 => k_is)
    (case c4 => k_is)
    (case k4 => k_is)
    (case a5 => k_is)
    (case l5 => k_is)
    (case c5 => k_is)
    (case k5 => k_is)
    (case a6 => k_is)
    (case l6 => k_is)
    (case c6 => k_is)
    (case k6 => k_is)
    (case a7 => k_is)
    (case l7 => k_is)
    (case c7 => k_is)
    (case k7 => k_is)
    (case a8 => k_is)
    (case l8 => k_is)
    (case c8 => k_is)
    (case k8 => k_is)
    (case a9 => k_is)
    (case l9 => k_is)
    (case c9 => k_is)
    (case k9 => k_is)
    (case a10 => k_is)
    (case l10 => k_is)
    (case c10 => k_is)
    (case k10 => k_is)
    (case a11 => k_is)
    (case l11 => k_is)
    (case c11 => k_is)
    (case k11 => k_is)
    (case a12 => k_is)
    (case l12 => k_is)
    (case c12 => k_is)
    (case k12 => k_is)
    (case a13 => k_is)
    (case l13 => k_is)
    (case c13 => k_is)
    (case k13 => k_is)
    (case a14 => k_is)
    (case l14 => k_is)
    (case c14 => k_is)
    (case k14 => k_is)
    (case a15 => k_is)
    (case l15 => k_is)
    (case c15 => k_is)
    (case k15 => k_is)
    (case b16 => k_is)
    (case t16 => k_is)
    (case l16 => k_is)
    (case c16 => k_is)
    (case k16 => k_is)
    (case a17 => k_is)
    (case l17 => k_is)
    (case c17 => k_is)
    (case k17 => k_is)
    (case a18 => k_is)
    (case l18 => k_is)
    (case c18 => k_is)
    (case k18 => k_is)
    (case a19 => k_is)
    (case l19 => k_is)
    (case c19 => k_is)
    (case k19 => k_is)
    (case a20 => k_is)
    (case l20 => k_is)
    (case c20 => k_is)
    (case k20 => k_is)
    (case a21 => k_is)
    (case l21 => k_is)
    (case c21 => k_is)
    (case k21 => k_is)
    (case a22 => k_is)
    (case l22 => k_is)
    (case c22 => k_is)
    (case k22 => k_is)
    (case a23 => k_is)
    (case l23 => k_is)
    (case c23 => k_is)
    (case k23 => k_is)
    (case z_ValueError => k_is)
    (case z_abs => k_is)
    (case z_all => k_is)
    (case z_bool => k_is)
    (case z_int => k_is)
    (case z_isinstance => k_is)
    (case z_len => k_is)
    (case z_list => k_is)
    (case z_max => k_is)
    (case z_min => k_is)
    (case z_range => k_is)
    (case z_sorted => k_is)
    (case z_str => k_is)
    (case z_tuple => k_is)
    (case v1_Stale => k_is)
    (case v2_Stale => kernel_rfl)
    (case v3_Stale => k_is)
    (case v4_Stale => k_is)
    (case v5_Stale => k_is)
    (case v6_Stale => k_is)
    (case v7_Stale => k_is)
    (case v8_Stale => k_is)
    (case v9_Stale => k_is)
    (case va_Stale => k_is)
    (case w1_TwigError => k_is)
    (case w2_TwigError => k_is)
    (case w3_TwigError => k_is)
    (case y_em_Stale => kernel_rfl)
    (case y_xc_Stale => kernel_rfl)
    (case y_cl_Stale => kernel_rfl)
    (case y_ki_Stale => kernel_rfl)
    (case y_ki_Stale_VE => kernel_rfl)
    (case y_ka_Stale_3 => kernel_rfl)
