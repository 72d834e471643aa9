import PyProof.Rows.All
import Wide.All
import OpenK.AllK
import Wide.FinOn
import KE.DataCmp
import HandS.ForMost
import HandS.Exc
import HandS.TryOnly
import HandS.ExcOwn
import HandS.WordsExc
import HandS.IsInst
import HandS.Wide
import HandS.EndBits
import HandS.Flow
import HandS.Conv
import HandS.SortKw
import HandS.TupAny
import HandS.Style
import HandS.Iter
import HandS.Comp
import HandS.More
import KE.DatumOrd
import HandS.ExcIs
import HandS.TryMany
import KE.KIsAll
import HandS.Deep
import HandS.Text
import PyProof.Rows.StrMul
import HandS.TupMul
import HandS.ExcInit
import HandS.ExcField
import KE.IntTextLaws
import HandS.ReplaceList
import HandS.ReplaceLit
import HandS.ExcValue
import KE.KExcIs
import KE.SortKeyHeap
import KE.KSortKey
import HandS.TupSets
import HandS.SetFor
import HandS.Strs
import HandS.DictComp
import KE.KEqNest
import PyProof.EqKinds
import PySem.Challenge.RW_twigmap_k82_bases
set_option Elab.async false
set_option linter.all false
set_option maxRecDepth 100000
set_option maxHeartbeats 4000000
set_option Elab.async false
set_option linter.all false
set_option maxRecDepth 100000
set_option maxHeartbeats 2000000
/-! Tw: frames of heaps, data in tuples, steps of readings. -/
namespace Tw
open PySem PySem.Spec PyProof.Rows L2

/-! ### frames -/
/-- all that stood and is not in S stands; tuples stand; nothing is lost -/
structure Fr (S : Addr → Prop) (H H' : Hp) : Prop where
  keep : ∀ b o, H b = some o → ¬ S b → H' b = some o
  tup : ∀ b xs, H b = some (.tup xs) → H' b = some (.tup xs)
  back : ∀ b, H' b = none → H b = none
/-- an address that nothing stands at -/
def Fresh (H : Hp) (p : Addr) : Prop := H p = none
abbrev Non : Addr → Prop := fun _ => False
abbrev One (a : Addr) : Addr → Prop := fun b => b = a
theorem not_One {a b : Addr} (h : b ≠ a) : ¬ One a b := h
theorem Fr.refl {S : Addr → Prop} (H : Hp) : Fr S H H := ⟨fun _ _ h _ => h, fun _ _ h => h, fun _ h => h⟩
theorem Fr.trans {S : Addr → Prop} {H H1 H2 : Hp} (a : Fr S H H1) (b : Fr S H1 H2) : Fr S H H2 :=
  ⟨fun c o h n => b.keep c o (a.keep c o h n) n, fun c xs h => b.tup c xs (a.tup c xs h), fun c h => a.back c (b.back c h)⟩
theorem Fr.sub {S T : Addr → Prop} {H H1 : Hp} (a : Fr S H H1) (h : ∀ b, S b → T b) : Fr T H H1 :=
  ⟨fun c o e n => a.keep c o e (fun s => n (h c s)), a.tup, a.back⟩
/-- what changed lies in S or was not there -/
theorem Fr.sub' {S T : Addr → Prop} {H H1 H2 : Hp} (a : Fr S H H1) (b : Fr T H1 H2) (h : ∀ b, T b → S b ∨ Fresh H b) : Fr S H H2 :=
  ⟨fun c o e n => b.keep c o (a.keep c o e n) (fun t => (h c t).elim n fun z => by have z0 : H c = none := z; rw [z0] at e; cases e), fun c xs e => b.tup c xs (a.tup c xs e), fun c e => a.back c (b.back c e)⟩
theorem Fr.non {S : Addr → Prop} {H H1 : Hp} (a : Fr Non H H1) : Fr S H H1 := a.sub fun _ h => h.elim
theorem Fr.new {S : Addr → Prop} {H H1 : Hp} {p : Addr} {o : HO} (a : Fr S H H1) (hp : Fresh H1 p) : Fr S H (upd H1 p o) := by
  have h0 := a.back p hp
  refine ⟨fun c u e n => ?_, fun c xs e => ?_, fun c e => ?_⟩
  · rw [upd_ne (ne_of_none e h0)]; exact a.keep c u e n
  · rw [upd_ne (ne_of_none e h0)]; exact a.tup c xs e
  · by_cases hc : c = p
    · subst hc; exact h0
    · rw [upd_ne hc] at e; exact a.back c e
def noTup : HO → Bool
  | .tup _ => false
  | _ => true
theorem Fr.mut {S : Addr → Prop} {H H1 : Hp} {p : Addr} {o u : HO} (a : Fr S H H1) (hu : H1 p = some u) (ht : noTup u = true) (hp : S p ∨ Fresh H p) : Fr S H (upd H1 p o) := by
  refine ⟨fun c v e n => ?_, fun c xs e => ?_, fun c e => ?_⟩
  · have hc : c ≠ p := fun z => by
      subst z
      rcases hp with h | h
      · exact n h
      · have h0 : H c = none := h
        rw [h0] at e; cases e
    rw [upd_ne hc]; exact a.keep c v e n
  · have q := a.tup c xs e
    have hc : c ≠ p := fun z => by
      subst z
      rw [hu] at q; cases q; cases ht
    rw [upd_ne hc]; exact q
  · by_cases hc : c = p
    · subst hc; rw [upd_same] at e; cases e
    · rw [upd_ne hc] at e; exact a.back c e
theorem Fr.free {S : Addr → Prop} {H H1 : Hp} {p : Addr} (a : Fr S H H1) (h : Fresh H1 p) : Fresh H p := a.back p h
theorem ne_fr {H : Hp} {a b : Addr} {o : HO} (h : H a = some o) (n : Fresh H b) : a ≠ b := ne_of_none h n

/-! ### data in tuples -/
mutual
/-- the value v is the datum d, all of it in tuples -/
inductive Dt (H : Hp) : V → PyData → Prop
  | non : Dt H .non .none
  | bl (b : Bool) : Dt H (.bl b) (.bool b)
  | int (i : Int) : Dt H (.int i) (.int i)
  | str (x : Str) : Dt H (.str x) (.str x)
  | tup {a : Addr} {xs : List V} {ds : List PyData} (h : H a = some (.tup xs)) (hs : DtAll H xs ds) : Dt H (.ref a) (.tuple ds)
inductive DtAll (H : Hp) : List V → List PyData → Prop
  | nil : DtAll H [] []
  | cons {v : V} {vs : List V} {d : PyData} {ds : List PyData} (h : Dt H v d) (hs : DtAll H vs ds) : DtAll H (v :: vs) (d :: ds)
end
mutual
theorem Dt.mono' {H H1 : Hp} (f : ∀ b xs, H b = some (.tup xs) → H1 b = some (.tup xs)) : ∀ (d : PyData) (v : V), Dt H v d → Dt H1 v d
  | .none, _, h => by cases h; exact .non
  | .bool b, _, h => by cases h; exact .bl b
  | .int i, _, h => by cases h; exact .int i
  | .str x, _, h => by cases h; exact .str x
  | .list _, _, h => by cases h
  | .dict _, _, h => by cases h
  | .tuple ds, _, h => by
    cases h with
    | tup e hs => exact .tup (f _ _ e) (DtAll.mono' f ds _ hs)
theorem DtAll.mono' {H H1 : Hp} (f : ∀ b xs, H b = some (.tup xs) → H1 b = some (.tup xs)) : ∀ (ds : List PyData) (vs : List V), DtAll H vs ds → DtAll H1 vs ds
  | [], _, h => by cases h; exact .nil
  | d :: ds, _, h => by
    cases h with
    | cons h1 h2 => exact .cons (Dt.mono' f d _ h1) (DtAll.mono' f ds _ h2)
end
theorem Dt.mono {S : Addr → Prop} {H H1 : Hp} {v : V} {d : PyData} (h : Dt H v d) (f : Fr S H H1) : Dt H1 v d := Dt.mono' f.tup d v h
theorem DtAll.mono {S : Addr → Prop} {H H1 : Hp} {v : List V} {d : List PyData} (h : DtAll H v d) (f : Fr S H H1) : DtAll H1 v d := DtAll.mono' f.tup d v h
mutual
theorem Dt.dp {K : PySem.W.Frag} {H : Hp} : ∀ (d : PyData) (v : V), Dt H v d → Dp K H v d
  | .none, _, h => by cases h; exact .non
  | .bool b, _, h => by cases h; exact .bl b
  | .int i, _, h => by cases h; exact .int i
  | .str x, _, h => by cases h; exact .str x
  | .list _, _, h => by cases h
  | .dict _, _, h => by cases h
  | .tuple ds, _, h => by
    cases h with
    | tup e hs => exact .tup (SqT.of e) (DtAll.dp ds _ hs)
theorem DtAll.dp {K : PySem.W.Frag} {H : Hp} : ∀ (ds : List PyData) (vs : List V), DtAll H vs ds → DpAll K H vs ds
  | [], _, h => by cases h; exact .nil
  | d :: ds, _, h => by
    cases h with
    | cons h1 h2 => exact .cons (Dt.dp d _ h1) (DtAll.dp ds _ h2)
end
mutual
theorem Dt.fn {H : Hp} : ∀ (d e : PyData) (v : V), Dt H v d → Dt H v e → d = e
  | .none, _, _, h, k => by cases h; cases k; rfl
  | .bool b, _, _, h, k => by cases h; cases k; rfl
  | .int i, _, _, h, k => by cases h; cases k; rfl
  | .str x, _, _, h, k => by cases h; cases k; rfl
  | .list _, _, _, h, _ => by cases h
  | .dict _, _, _, h, _ => by cases h
  | .tuple ds, _, _, h, k => by
    cases h with
    | tup h1 h2 =>
      cases k with
      | tup k1 k2 =>
        rw [h1] at k1; cases k1
        rw [DtAll.fn ds _ _ h2 k2]
theorem DtAll.fn {H : Hp} : ∀ (ds es : List PyData) (vs : List V), DtAll H vs ds → DtAll H vs es → ds = es
  | [], _, _, h, k => by cases h; cases k; rfl
  | d :: ds, _, _, h, k => by
    cases h with
    | cons h1 h2 =>
      cases k with
      | cons k1 k2 => rw [Dt.fn d _ _ h1 k1, DtAll.fn ds _ _ h2 k2]
end
theorem Dt.upd {H : Hp} {p : Addr} {o : HO} {v : V} {d : PyData} (h : Dt H v d) (n : Fresh H p) : Dt (L2.upd H p o) v d := h.mono (Fr.new (S := Non) (Fr.refl H) n)
theorem Dt.updm {H : Hp} {p : Addr} {o u : HO} {v : V} {d : PyData} (h : Dt H v d) (e : H p = some u) (n : noTup u = true) : Dt (L2.upd H p o) v d := h.mono (Fr.mut (S := fun _ => True) (Fr.refl H) e n (.inl trivial))
theorem DtAll.upd {H : Hp} {p : Addr} {o : HO} {v : List V} {d : List PyData} (h : DtAll H v d) (n : Fresh H p) : DtAll (L2.upd H p o) v d := h.mono (Fr.new (S := Non) (Fr.refl H) n)
theorem DtAll.updm {H : Hp} {p : Addr} {o u : HO} {v : List V} {d : List PyData} (h : DtAll H v d) (e : H p = some u) (n : noTup u = true) : DtAll (L2.upd H p o) v d := h.mono (Fr.mut (S := fun _ => True) (Fr.refl H) e n (.inl trivial))
theorem upd_back {H : Hp} {a p : Addr} {o : HO} (h : Fresh (L2.upd H a o) p) : Fresh H p := by
  have h0 : L2.upd H a o p = none := h
  by_cases e : p = a
  · subst e; rw [upd_same] at h0; cases h0
  · rw [upd_ne e] at h0; exact h0
theorem DtAll.length {H : Hp} : ∀ {vs : List V} {ds : List PyData}, DtAll H vs ds → vs.length = ds.length
  | _, [], h => by cases h; rfl
  | _, d :: ds, h => by
    cases h with
    | cons h1 h2 => rw [List.length_cons, List.length_cons, DtAll.length h2]
theorem DtAll.get {H : Hp} : ∀ {vs : List V} {ds : List PyData} {i : Nat} {v : V}, DtAll H vs ds → vs[i]? = some v → ∃ d, ds[i]? = some d ∧ Dt H v d
  | _, [], _, _, h, e => by cases h; simp at e
  | _, d :: ds, 0, _, h, e => by
    cases h with
    | cons h1 h2 => simp at e; subst e; exact ⟨d, rfl, h1⟩
  | _, d :: ds, i + 1, _, h, e => by
    cases h with
    | cons h1 h2 =>
      obtain ⟨d', q1, q2⟩ := DtAll.get (i := i) h2 (by simpa using e)
      exact ⟨d', by simpa using q1, q2⟩
theorem DtAll.app {H : Hp} : ∀ {vs ws : List V} {ds es : List PyData}, DtAll H vs ds → DtAll H ws es → DtAll H (vs ++ ws) (ds ++ es)
  | _, _, [], _, h, k => by cases h; exact k
  | _, _, d :: ds, _, h, k => by
    cases h with
    | cons h1 h2 => exact .cons h1 (DtAll.app h2 k)
theorem DtAll.one {H : Hp} {v : V} {d : PyData} (h : Dt H v d) : DtAll H [v] [d] := .cons h .nil
theorem DtAll.take {H : Hp} : ∀ {vs : List V} {ds : List PyData} (n : Nat), DtAll H vs ds → DtAll H (vs.take n) (ds.take n)
  | _, _, 0, _ => .nil
  | _, [], _ + 1, h => by cases h; exact .nil
  | _, d :: ds, n + 1, h => by
    cases h with
    | cons h1 h2 => exact .cons h1 (DtAll.take n h2)
theorem DtAll.drop {H : Hp} : ∀ {vs : List V} {ds : List PyData} (n : Nat), DtAll H vs ds → DtAll H (vs.drop n) (ds.drop n)
  | _, _, 0, h => h
  | _, [], _ + 1, h => by cases h; exact .nil
  | _, d :: ds, n + 1, h => by
    cases h with
    | cons h1 h2 => exact DtAll.drop n h2

/-! ### own rules -/
section
variable {X : Cx}
def rLtD (K : PySem.W.Frag) : R2 := fun x y H Q => ∃ d e, Dp K H x d ∧ Dp K H y e ∧ PySem.W.alike d e = true ∧ d ≠ .none ∧ d.depth ≤ 60 ∧ Q (.bl (PySem.W.dataLt d e)) H
theorem op_ltD (hu : X.A.units + 64 < cLine) : OpR X (compareOp .Lt) (rLtD X.K) := by
  intro pins s σ H x y v u Q I rx ry h
  obtain ⟨d, e, hd, he, al, hn, dep, q⟩ := h
  obtain ⟨as, r1⟩ := Dp.reads I d x v hd rx
  obtain ⟨bs, r2⟩ := Dp.reads I e y u he ry
  refine PySem.W.lt_data r1 r2 al hn ?_ ⟨.bl _, H, I, rfl, q⟩
  have : min d.depth e.depth ≤ d.depth := Nat.min_le_left _ _
  omega
/-- built-ins' calls under names -/
def rLen (K : PySem.W.Frag) : List V → Hp → VK → Prop := fun xs H Q => ∃ p ys, xs = [.ref p] ∧ (SqL K H p ys ∨ SqT K H p ys) ∧ Q (.int ys.length) H
theorem c_len : CallR X (.builtin "len") (rLen X.K) := call_len_seq
def rLenZ : List V → Hp → VK → Prop := fun xs H Q => ∃ z, xs = [.str z] ∧ z.length ≤ sizeLine ∧ Q (.int z.length) H
theorem c_lenZ : CallR X (.builtin "len") rLenZ := call_len_str
def rLenD : List V → Hp → VK → Prop := fun xs H Q => ∃ a kvs, xs = [V.ref a] ∧ H a = some (.dK kvs) ∧ Q (.int kvs.length) H
theorem c_lenD : CallR X (.builtin "len") rLenD := call_lenD
def rAbs : List V → Hp → VK → Prop := fun xs H Q => ∃ i, xs = [.int i] ∧ Q (.int (if i < 0 then -i else i)) H
theorem c_abs : CallR X (.builtin "abs") rAbs := call_abs
def rMx2 : List V → Hp → VK → Prop := fun xs H Q => ∃ i j, xs = [.int i, .int j] ∧ Q (.int (if j > i then j else i)) H
theorem c_max2 (hc : X.calm = true) : CallR X (.builtin "max") rMx2 := call_max2 hc
def rMn2 : List V → Hp → VK → Prop := fun xs H Q => ∃ i j, xs = [.int i, .int j] ∧ Q (.int (if j < i then j else i)) H
theorem c_min2 (hc : X.calm = true) : CallR X (.builtin "min") rMn2 := call_min2 hc
def rInt1 : List V → Hp → VK → Prop := fun xs H Q => (∃ i, xs = [.int i] ∧ Q (.int i) H) ∨ ∃ k, xs = [.bl k] ∧ Q (.int (if k then 1 else 0)) H
theorem c_int : CallR X (.type "int") rInt1 := call_int1
def rStrI : List V → Hp → VK → Prop := fun xs H Q => ∃ i, xs = [.int i] ∧ i.natAbs.log2 < 1920 ∧ Q (.str (toString i)) H
theorem c_strI : CallR X (.type "str") rStrI := call_str_int
def rListOf (K : PySem.W.Frag) : List V → Hp → VK → Prop := fun xs H Q => ∃ p ys, xs = [.ref p] ∧ (SqL K H p ys ∨ SqT K H p ys) ∧ ∀ l, H l = none → Q (.ref l) (upd H l (.lst ys))
theorem c_listOf : CallR X (.type "list") (rListOf X.K) := call_list_of
def rTupOf (K : PySem.W.Frag) : List V → Hp → VK → Prop := fun xs H Q => ∃ p ys, xs = [.ref p] ∧ ((SqL K H p ys ∧ ∀ l, H l = none → Q (.ref l) (upd H l (.tup ys))) ∨ (SqT K H p ys ∧ Q (.ref p) H))
theorem c_tupOf : CallR X (.type "tuple") (rTupOf X.K) := call_tuple_of
def rAddS : R2 := fun x y H Q => ∃ i j, x = .str i ∧ y = .str j ∧ i.length + j.length ≤ sizeLine ∧ Q (.str (i ++ j)) H
theorem o_addS : OpR X (binaryOp .Add) rAddS := op_add_str
def rLtS : R2 := fun x y H Q => ∃ i j, x = .str i ∧ y = .str j ∧ Q (.bl (decide (i.cps.toList < j.cps.toList))) H
theorem o_ltS : OpR X (compareOp .Lt) rLtS := op_lt_str
def rLeS : R2 := fun x y H Q => ∃ i j, x = .str i ∧ y = .str j ∧ Q (.bl (!decide (j.cps.toList < i.cps.toList))) H
theorem o_leS : OpR X (compareOp .LtE) rLeS := op_le_str
def rIsN : R2 := fun x y H Q => y = .non ∧ Q (.bl (decide (x = .non))) H
theorem o_isN : OpR X (compareOp .Is) rIsN := op_isN
def rNotN : R2 := fun x y H Q => y = .non ∧ Q (.bl (!decide (x = .non))) H
theorem o_notN : OpR X (compareOp .IsNot) rNotN := op_notN
end

/-! ### defs by name -/
/-- a def that may be called by its name -/
structure CalX (P : Program) (w : World) (K : PySem.W.Frag) (mg : Str → Option Value) (base : Heap) (k : Nat) (x : Str) (ps : List Str) (sp : Sp) : Prop where
  ex : ∃ (f : Addr) (fd : FuncData), FnOk P w K mg base (L2.CX P w) k f fd ps sp ∧ mg x = some (.ref f) ∧ PySem.W.keepIn K (.ref f) = true ∧ Binds K fd ps []
/-- a def as it stands behind the top -/
structure DefX (K : PySem.W.Frag) (mg : Str → Option Value) (x : Str) (ps : List Str) (st : Stmt) : Prop where
  ex : ∃ (f : Addr) (fd : FuncData), Fun K x x st f fd ∧ mg x = some (.ref f) ∧ Binds K fd ps []
theorem Passes.none {X : Cx} : Passes (L2.CX X.prog X.w) X E0 := fun _ _ _ _ _ _ _ h => by
  obtain ⟨_, _, _, _, _, _, _, _, _, _, _, _, h⟩ := h
  exact h.elim
def tCal (sp : Sp) (E : XK) (t : TA) : TE := fun σ H Q => t σ H fun vs H1 => sp vs H1 Q E
theorem tCal_eq {sp : Sp} {E : XK} {t : TA} : tCall sp [] E t = tCal sp E t := by
  funext σ H Q
  show t σ H (fun vs H1 => sp (vs ++ []) H1 Q E) = t σ H (fun vs H1 => sp vs H1 Q E)
  have e : (fun (vs : List V) (H1 : Hp) => sp (vs ++ []) H1 Q E) = fun vs H1 => sp vs H1 Q E := by
    funext vs H1
    rw [List.append_nil]
  rw [e]
section
variable {X : Cx} {k j : Nat} {x : Str} {ps : List Str} {sp : Sp} {p pos : Pos} {e : Expr} {es : List Expr} {E : XK} {t : TA}
theorem pcall (c : CalX X.prog X.w X.K X.mg X.base k x ps sp) (hr : Room j X.A) (hk : k ≤ j) (hg : Gl X x) (hx : Passes (L2.CX X.prog X.w) X E) (ha : PA X (e :: es) t)
    (hdb : (x == ("__debug__" : Str)) = false := by decide) (he : starEach (e :: es) X.env = (false, eval e X.env) :: starEach es X.env := by rfl) (hpl : (backTo pos (starEach es X.env)).any (·.1) = false := by rfl) :
    PE X (.Call (.Name x p) (e :: es) [] pos) (tCal sp E t) := by
  obtain ⟨f, fd, F, hm, kp, b⟩ := c.ex
  rw [← tCal_eq]
  exact pe_call F (hr.mono hk) hg hm kp b .nil hx ha hdb he hpl
theorem pcall0 (c : CalX X.prog X.w X.K X.mg X.base k x ps sp) (hr : Room j X.A) (hk : k ≤ j) (hg : Gl X x) (hx : Passes (L2.CX X.prog X.w) X E)
    (hdb : (x == ("__debug__" : Str)) = false := by decide) : PE X (.Call (.Name x p) [] [] pos) (tCal sp E tNil) := by
  obtain ⟨f, fd, F, hm, kp, b⟩ := c.ex
  rw [← tCal_eq]
  exact pe_call0 F (hr.mono hk) hg hm kp b .nil hx hdb
theorem CalX.mono {P : Program} {w : World} {K : PySem.W.Frag} {mg : Str → Option Value} {base : Heap} {sp' : Sp} (c : CalX P w K mg base k x ps sp) (h : ∀ vs H Q E, sp' vs H Q E → sp vs H Q E) : CalX P w K mg base k x ps sp' := by
  obtain ⟨f, fd, F, hm, kp, b⟩ := c.ex
  exact ⟨f, fd, ⟨fun vs H Q E q => F.len vs H Q E (h _ _ _ _ q), fun A outer s H args us vs Q E hr e0 hb r q => F.run A outer s H args us vs Q E hr e0 hb r (h _ _ _ _ q)⟩, hm, kp, b⟩
end

theorem CalX.never {P : Program} {w : World} {K : PySem.W.Frag} {mg : Str → Option Value} {base : Heap} {k : Nat} {x : Str} {ps N : List Str} {st : Stmt} (D : DefX K mg x ps st) (S : FnScope N ps (defScope st)) (hk : 1 ≤ k) : CalX P w K mg base k x ps (fun _ _ _ _ => False) := by
  obtain ⟨f, fd, F, hm, bd⟩ := D.ex
  obtain ⟨j, rfl⟩ : ∃ j, k = j + 1 := ⟨k - 1, by omega⟩
  exact ⟨f, fd, F.okX S (fun _ _ _ _ h => h.elim) (fun _ _ _ _ _ _ _ _ _ h => h.elim), hm, F.kp, bd⟩
theorem str_one (c : Nat) : (⟨#[c]⟩ : Str).length = 1 := rfl
/-- a constant of the module -/
structure ConstX (mg : Str → Option Value) (x : Str) (v : V) : Prop where
  ex : ∃ u, mg x = some u ∧ RelV v u
theorem pconst {X : Cx} {x : Str} {v : V} {pos : Pos} (h : ConstX X.mg x v) (hg : Gl X x) (hd : (x == ("__debug__" : Str)) = false := by decide) : PE X (.Name x pos) (tC v) := by
  obtain ⟨u, hm, r⟩ := h.ex
  exact pe_glob hg hm r hd
theorem SqL_fr {K : PySem.W.Frag} {S : Addr → Prop} {H H1 : Hp} {a : Addr} {xs : List V} (h : SqL K H a xs) (f : Fr S H H1) (n : ¬ S a) : SqL K H1 a xs := by
  rcases h with (h | ⟨o, h⟩) | h
  · exact .inl (.inl (f.keep _ _ h n))
  · exact .inl (.inr ⟨o, f.keep _ _ h n⟩)
  · exact .inr h
theorem SqL_upd {K : PySem.W.Frag} {H : Hp} {a p : Addr} {xs : List V} {o : HO} (h : SqL K H a xs) (n : Fresh H p) : SqL K (upd H p o) a xs := SqL_fr h (Fr.new (S := Non) (Fr.refl H) n) id
theorem ix2i (b : Bool) (x y : Int) : atI [V.int x, V.int y] (if b = true then 1 else 0) = some (V.int (if b = true then y else x)) := by cases b <;> rfl
theorem atI_ex {α : Type} {xs : List α} {i : Int} (h0 : 0 ≤ i) (h1 : i < xs.length) : ∃ v, atI xs i = some v ∧ xs[i.toNat]? = some v := by
  obtain ⟨n, rfl⟩ : ∃ n : Nat, i = n := ⟨i.toNat, by omega⟩
  have h : n < xs.length := by omega
  exact ⟨xs[n], atI_nat (List.getElem?_eq_getElem h), by simp [h]⟩

/-! ### promises by the number of arguments -/
abbrev BK1 := V → Hp → VK → XK → Prop
abbrev BK2 := V → V → Hp → VK → XK → Prop
abbrev BK3 := V → V → V → Hp → VK → XK → Prop
abbrev BK4 := V → V → V → V → Hp → VK → XK → Prop
def Sp0 (B : Hp → VK → XK → Prop) : Sp := fun vs H Q E => vs = [] ∧ B H Q E
def Sp1 (B : BK1) : Sp := fun vs H Q E => ∃ a, vs = [a] ∧ B a H Q E
def Sp2 (B : BK2) : Sp := fun vs H Q E => ∃ a b, vs = [a, b] ∧ B a b H Q E
def Sp3 (B : BK3) : Sp := fun vs H Q E => ∃ a b c, vs = [a, b, c] ∧ B a b c H Q E
def Sp4 (B : BK4) : Sp := fun vs H Q E => ∃ a b c d, vs = [a, b, c, d] ∧ B a b c d H Q E
theorem len0 {B x} : ∀ vs H Q E, Sp0 B vs H Q E → vs.length = ([] : List x).length := fun _ _ _ _ ⟨e, _⟩ => by rw [e]; rfl
theorem len1 {B} {p : Str} : ∀ vs H Q E, Sp1 B vs H Q E → vs.length = [p].length := fun _ _ _ _ ⟨_, e, _⟩ => by rw [e]; rfl
theorem len2 {B} {p q : Str} : ∀ vs H Q E, Sp2 B vs H Q E → vs.length = [p, q].length := fun _ _ _ _ ⟨_, _, e, _⟩ => by rw [e]; rfl
theorem len3 {B} {p q r : Str} : ∀ vs H Q E, Sp3 B vs H Q E → vs.length = [p, q, r].length := fun _ _ _ _ ⟨_, _, _, e, _⟩ => by rw [e]; rfl
theorem len4 {B} {p q r s : Str} : ∀ vs H Q E, Sp4 B vs H Q E → vs.length = [p, q, r, s].length := fun _ _ _ _ ⟨_, _, _, _, e, _⟩ => by rw [e]; rfl

/-! ### steps of readings -/
section
variable {K : PySem.W.Frag} {σ : L2.St} {H : Hp} {Q : VK} {D : Ends} {x y v : V} {ta tb te tc : TE} {t u : TS} {tt uu : TT} {i j : Int} {b : Bool}
theorem x_var {n : Nat} (h : σ[n]? = some (some v)) (q : Q v H) : tVar n σ H Q := ⟨v, h, q⟩
theorem x_c (q : Q v H) : tC v σ H Q := q
theorem x_op {r : R2} (q : ta σ H fun x H1 => tb σ H1 fun y H2 => r x y H2 Q) : tOp r ta tb σ H Q := q
theorem x_un {r : V → Hp → VK → Prop} (q : ta σ H fun x H1 => r x H1 Q) : tUn r ta σ H Q := q
theorem x_add (q : Q (.int (i + j)) H) : rI0 (fun i j => .int (i + j)) (.int i) (.int j) H Q := ⟨i, j, rfl, rfl, q⟩
theorem x_sub (q : Q (.int (i - j)) H) : rI0 (fun i j => .int (i - j)) (.int i) (.int j) H Q := ⟨i, j, rfl, rfl, q⟩
theorem x_lt (q : Q (.bl (decide (i < j))) H) : rI0 (fun i j => .bl (decide (i < j))) (.int i) (.int j) H Q := ⟨i, j, rfl, rfl, q⟩
theorem x_le (q : Q (.bl (decide (i ≤ j))) H) : rI0 (fun i j => .bl (decide (i ≤ j))) (.int i) (.int j) H Q := ⟨i, j, rfl, rfl, q⟩
theorem x_gt (q : Q (.bl (decide (j < i))) H) : rI0 (fun i j => .bl (decide (j < i))) (.int i) (.int j) H Q := ⟨i, j, rfl, rfl, q⟩
theorem x_ge (q : Q (.bl (decide (j ≤ i))) H) : rI0 (fun i j => .bl (decide (j ≤ i))) (.int i) (.int j) H Q := ⟨i, j, rfl, rfl, q⟩
theorem x_mul (h : CMul i j) (q : Q (.int (i * j)) H) : rI CMul (fun i j => .int (i * j)) (.int i) (.int j) H Q := ⟨i, j, rfl, rfl, h, q⟩
theorem x_mulW (h : CMulW i j) (q : Q (.int (i * j)) H) : rI CMulW (fun i j => .int (i * j)) (.int i) (.int j) H Q := ⟨i, j, rfl, rfl, h, q⟩
theorem x_pow (h : CPow i j) (q : Q (.int (i ^ j.toNat)) H) : rI CPow (fun i j => .int (i ^ j.toNat)) (.int i) (.int j) H Q := ⟨i, j, rfl, rfl, h, q⟩
theorem x_mod (h : 0 < j) (q : Q (.int (i % j)) H) : rI (fun _ j => 0 < j) (fun i j => .int (i % j)) (.int i) (.int j) H Q := ⟨i, j, rfl, rfl, h, q⟩
theorem x_div (h : CDiv i j) (q : Q (.int (i / j)) H) : rI CDiv (fun i j => .int (i / j)) (.int i) (.int j) H Q := ⟨i, j, rfl, rfl, h, q⟩
theorem x_divW (h : CDivW i j) (q : Q (.int (i / j)) H) : rI CDivW (fun i j => .int (i / j)) (.int i) (.int j) H Q := ⟨i, j, rfl, rfl, h, q⟩
theorem x_neg (q : Q (.int (-i)) H) : rU (fun i => .int (-i)) (.int i) H Q := ⟨i, rfl, q⟩
/-- == of two ints, as ints -/
theorem x_eqI (q : Q (.bl (decide (i = j))) H) : rEq (.int i) (.int j) H Q := ⟨rfl, by
  have e : decide (V.int i = V.int j) = decide (i = j) := decide_eq_decide.mpr ⟨fun h => V.int.inj h, fun h => congrArg V.int h⟩
  rw [e]; exact q⟩
theorem x_neI (q : Q (.bl (!decide (i = j))) H) : rNe (.int i) (.int j) H Q := ⟨rfl, by
  have e : decide (V.int i = V.int j) = decide (i = j) := decide_eq_decide.mpr ⟨fun h => V.int.inj h, fun h => congrArg V.int h⟩
  rw [e]; exact q⟩
theorem x_eqS {z w : Str} (q : Q (.bl (decide (z = w))) H) : rEq (.str z) (.str w) H Q := ⟨rfl, by
  have e : decide (V.str z = V.str w) = decide (z = w) := decide_eq_decide.mpr ⟨fun h => V.str.inj h, fun h => congrArg V.str h⟩
  rw [e]; exact q⟩
theorem x_neS {z w : Str} (q : Q (.bl (!decide (z = w))) H) : rNe (.str z) (.str w) H Q := ⟨rfl, by
  have e : decide (V.str z = V.str w) = decide (z = w) := decide_eq_decide.mpr ⟨fun h => V.str.inj h, fun h => congrArg V.str h⟩
  rw [e]; exact q⟩
theorem x_eqB {a c : Bool} (q : Q (.bl (decide (a = c))) H) : rEq (.bl a) (.bl c) H Q := ⟨rfl, by
  have e : decide (V.bl a = V.bl c) = decide (a = c) := decide_eq_decide.mpr ⟨fun h => V.bl.inj h, fun h => congrArg V.bl h⟩
  rw [e]; exact q⟩
theorem x_neB {a c : Bool} (q : Q (.bl (!decide (a = c))) H) : rNe (.bl a) (.bl c) H Q := ⟨rfl, by
  have e : decide (V.bl a = V.bl c) = decide (a = c) := decide_eq_decide.mpr ⟨fun h => V.bl.inj h, fun h => congrArg V.bl h⟩
  rw [e]; exact q⟩
theorem x_eqD {d e : PyData} (h1 : Dp K H x d) (h2 : Dp K H y e) (s1 : SeqAt.shaped d = true) (s2 : SeqAt.shaped e = true) (q : Q (.bl (PyData.eqv d e)) H) : rEqD K x y H Q := ⟨d, e, h1, h2, s1, s2, q⟩
theorem x_neD {d e : PyData} (h1 : Dp K H x d) (h2 : Dp K H y e) (s1 : SeqAt.shaped d = true) (s2 : SeqAt.shaped e = true) (q : Q (.bl (!PyData.eqv d e)) H) : rNeD K x y H Q := ⟨d, e, h1, h2, s1, s2, q⟩
theorem x_ltD {d e : PyData} (h1 : Dp K H x d) (h2 : Dp K H y e) (al : PySem.W.alike d e = true) (hn : d ≠ .none) (hd : d.depth ≤ 60) (q : Q (.bl (PySem.W.dataLt d e)) H) : rLtD K x y H Q := ⟨d, e, h1, h2, al, hn, hd, q⟩
theorem x_test {R : Bool → Hp → Prop} (q : te σ H fun x H' => ∃ k, x = .bl k ∧ R k H') : tTest te σ H R := q
theorem x_tB {R : Bool → Hp → Prop} (q : te σ H fun x H' => ∃ k, x = .bl k ∧ R k H') : tB te σ H R := q
theorem x_bl {R : Bool → Prop} (q : R b) : ∃ k, V.bl b = .bl k ∧ R k := ⟨b, rfl, q⟩
theorem x_seq (q : t { D with nx := u D } σ H) : tSeq t u D σ H := q
theorem x_asg {g : TG} (q : te σ H fun x H1 => g x σ H1 D.nx) : tAsg te g D σ H := q
theorem x_gname {n : Nat} {R : L2.St → Hp → Prop} (q : R (σ.set n (some v)) H) : gName n v σ H R := q
theorem x_ret (q : te σ H D.rt) : tRet te D σ H := q
theorem x_retN (q : D.rt .non H) : tRetN D σ H := q
theorem x_next (q : D.nx σ H) : tNext D σ H := q
theorem x_brk (q : D.bk σ H) : tBreak D σ H := q
theorem x_cont (q : D.ct σ H) : tCont D σ H := q
theorem x_drop (q : te σ H fun _ H1 => D.nx σ H1) : tDrop te D σ H := q
theorem x_if (q : tt σ H fun b H1 => if b = true then t D σ H1 else u D σ H1) : tIfS tt t u D σ H := q
theorem x_ife (q : tt σ H fun c H1 => if c = true then ta σ H1 Q else tb σ H1 Q) : tIf tt ta tb σ H Q := q
theorem x_and {R : Bool → Hp → Prop} (q : tt σ H fun c H1 => if c = true then uu σ H1 R else R false H1) : tAnd tt uu σ H R := q
theorem x_or {R : Bool → Hp → Prop} (q : tt σ H fun c H1 => if c = true then R true H1 else uu σ H1 R) : tOr tt uu σ H R := q
theorem x_not {R : Bool → Hp → Prop} (q : tt σ H fun c H1 => R (!c) H1) : tNot tt σ H R := q
theorem x_andV (q : ta σ H fun x H1 => ∃ c, x = .bl c ∧ if c = true then tb σ H1 Q else Q (.bl false) H1) : tAndV ta tb σ H Q := q
theorem x_orV (q : ta σ H fun x H1 => ∃ c, x = .bl c ∧ if c = true then Q (.bl true) H1 else tb σ H1 Q) : tOrV ta tb σ H Q := q
theorem x_notV (q : ta σ H fun x H1 => ∃ c, x = .bl c ∧ Q (.bl (!c)) H1) : tNotV ta σ H Q := q
theorem x_nil {R : List V → Hp → Prop} (q : R [] H) : tNil σ H R := q
theorem x_cons {tr : TA} {R : List V → Hp → Prop} (q : ta σ H fun x H1 => tr σ H1 fun xs H2 => R (x :: xs) H2) : tCons ta tr σ H R := q
theorem x_tup {tr : TA} (q : tr σ H fun xs H1 => xs.length ≤ sizeLine ∧ ∀ p, Fresh H1 p → Q (.ref p) (upd H1 p (.tup xs))) : tTup tr σ H Q := q
theorem x_lst {tr : TA} (q : tr σ H fun xs H1 => xs.length ≤ sizeLine ∧ ∀ p, Fresh H1 p → Q (.ref p) (upd H1 p (.lst xs))) : tLst tr σ H Q := q
theorem x_cal {sp : Sp} {E : XK} {tr : TA} (q : tr σ H fun vs H1 => sp vs H1 Q E) : tCal sp E tr σ H Q := q
theorem x_cb {r : List V → Hp → VK → Prop} {tr : TA} (q : tr σ H fun vs H1 => r vs H1 Q) : tCB r tr σ H Q := q
theorem x_sp1 {B : BK1} {E : XK} {a : V} (q : B a H Q E) : Sp1 B [a] H Q E := ⟨a, rfl, q⟩
theorem x_sp2 {B : BK2} {E : XK} {a b : V} (q : B a b H Q E) : Sp2 B [a, b] H Q E := ⟨a, b, rfl, q⟩
theorem x_sp3 {B : BK3} {E : XK} {a b c : V} (q : B a b c H Q E) : Sp3 B [a, b, c] H Q E := ⟨a, b, c, rfl, q⟩
theorem x_sp4 {B : BK4} {E : XK} {a b c d : V} (q : B a b c d H Q E) : Sp4 B [a, b, c, d] H Q E := ⟨a, b, c, d, rfl, q⟩
theorem x_sz {xs : List V} {P : Prop} (h : xs.length ≤ 1000) (q : P) : xs.length ≤ sizeLine ∧ P := ⟨Nat.le_trans h (by decide), q⟩
theorem x_ixL {p : Addr} {xs : List V} (h : SqL K H p xs) (ha : atI xs i = some v) (q : Q v H) : rIxL K (.ref p) (.int i) H Q := ⟨p, xs, i, v, rfl, rfl, h, ha, q⟩
theorem x_ixT {p : Addr} {xs : List V} (h : SqT K H p xs) (ha : atI xs i = some v) (q : Q v H) : rIxT K (.ref p) (.int i) H Q := ⟨p, xs, i, v, rfl, rfl, h, ha, q⟩
theorem x_ixS {z : Str} {c : Nat} (h : z.length ≤ sizeLine) (ha : atI z.cps.toList i = some c) (q : Q (.str ⟨#[c]⟩) H) : rIxS (.str z) (.int i) H Q := ⟨z, i, c, rfl, rfl, h, ha, q⟩
theorem x_gsub {to ti : TE} {s : TSet} {R : L2.St → Hp → Prop} (q : to σ H fun o H1 => ti σ H1 fun i H2 => s o i v H2 fun H3 => R σ H3) : gSub to ti s v σ H R := q
theorem x_setL {p : Addr} {xs : List V} {n : Nat} {R : Hp → Prop} (h : H p = some (.lst xs)) (hj : ixN xs.length i = some n) (q : R (upd H p (.lst (xs.set n v)))) : rSetL (.ref p) (.int i) v H R := ⟨p, xs, i, n, rfl, rfl, h, hj, q⟩
theorem x_gtup {p : Addr} {xs : List V} {n : Nat} {s : TGs} {R : L2.St → Hp → Prop} (h : SqT K H p xs) (hn : xs.length = n) (q : s xs σ H R) : gTup K n s (.ref p) σ H R := ⟨p, xs, rfl, h, hn, q⟩
theorem x_gcons {g : TG} {s : TGs} {vs : List V} {R : L2.St → Hp → Prop} (q : g v σ H fun σ' H' => s vs σ' H' R) : gCons g s (v :: vs) σ H R := ⟨v, vs, rfl, q⟩
theorem x_gnil {R : L2.St → Hp → Prop} (q : R σ H) : gNil [] σ H R := ⟨rfl, q⟩
theorem x_len {p : Addr} {xs : List V} (h : SqL K H p xs ∨ SqT K H p xs) (q : Q (.int xs.length) H) : rLen K [.ref p] H Q := ⟨p, xs, rfl, h, q⟩
theorem x_lenZ {z : Str} (h : z.length ≤ sizeLine) (q : Q (.int z.length) H) : rLenZ [.str z] H Q := ⟨z, rfl, h, q⟩
theorem x_lenD {p : Addr} {kvs : List (Key × V)} (h : H p = some (.dK kvs)) (q : Q (.int kvs.length) H) : rLenD [.ref p] H Q := ⟨p, kvs, rfl, h, q⟩
theorem x_abs (q : Q (.int (if i < 0 then -i else i)) H) : rAbs [.int i] H Q := ⟨i, rfl, q⟩
theorem x_max2 (q : Q (.int (if j > i then j else i)) H) : rMx2 [.int i, .int j] H Q := ⟨i, j, rfl, q⟩
theorem x_min2 (q : Q (.int (if j < i then j else i)) H) : rMn2 [.int i, .int j] H Q := ⟨i, j, rfl, q⟩
theorem x_intI (q : Q (.int i) H) : rInt1 [.int i] H Q := .inl ⟨i, rfl, q⟩
theorem x_intB (q : Q (.int (if b then 1 else 0)) H) : rInt1 [.bl b] H Q := .inr ⟨b, rfl, q⟩
theorem x_strI (h : i.natAbs.log2 < 1920) (q : Q (.str (toString i)) H) : rStrI [.int i] H Q := ⟨i, rfl, h, q⟩
theorem x_listOf {p : Addr} {xs : List V} (h : SqL K H p xs ∨ SqT K H p xs) (q : ∀ l, Fresh H l → Q (.ref l) (upd H l (.lst xs))) : rListOf K [.ref p] H Q := ⟨p, xs, rfl, h, q⟩
theorem x_tupL {p : Addr} {xs : List V} (h : SqL K H p xs) (q : ∀ l, Fresh H l → Q (.ref l) (upd H l (.tup xs))) : rTupOf K [.ref p] H Q := ⟨p, xs, rfl, .inl ⟨h, q⟩⟩
theorem x_addS {z w : Str} (h : z.length + w.length ≤ sizeLine) (q : Q (.str (z ++ w)) H) : rAddS (.str z) (.str w) H Q := ⟨z, w, rfl, rfl, h, q⟩
theorem x_ltS {z w : Str} (q : Q (.bl (decide (z.cps.toList < w.cps.toList))) H) : rLtS (.str z) (.str w) H Q := ⟨z, w, rfl, rfl, q⟩
theorem x_leS {z w : Str} (q : Q (.bl (!decide (w.cps.toList < z.cps.toList))) H) : rLeS (.str z) (.str w) H Q := ⟨z, w, rfl, rfl, q⟩
theorem x_isN (q : Q (.bl (decide (x = .non))) H) : rIsN x .non H Q := ⟨rfl, q⟩
theorem x_notN (q : Q (.bl (!decide (x = .non))) H) : rNotN x .non H Q := ⟨rfl, q⟩
theorem x_isi {a b : String} {r : Bool} (h : TyX K H x (.type a)) (k : kitB a b = some r) (q : Q (.bl r) H) : rIsi K [x, .ty b] H Q := ⟨x, .ty b, .type a, .type b, r, rfl, .ty b, h, kit_ty k, q⟩
theorem x_rng1 {R : It → Hp → Prop} {tr : TA} (q : tr σ H fun vs H1 => ∃ j : Int, vs = [.int j] ∧ -(2 ^ 62) ≤ j ∧ j < 2 ^ 62 ∧ R (Itr 0 j.toNat) H1) : iRng1 tr σ H R := q
theorem x_rng1' {R : Int → Prop} (h : -(2 ^ 62) ≤ i ∧ i < 2 ^ 62) (q : R i) : ∃ j : Int, [V.int i] = [.int j] ∧ -(2 ^ 62) ≤ j ∧ j < 2 ^ 62 ∧ R j := ⟨i, rfl, h.1, h.2, q⟩
theorem x_rng2 {R : It → Hp → Prop} {tr : TA} (q : tr σ H fun vs H1 => ∃ i j : Int, vs = [.int i, .int j] ∧ (-(2 ^ 62) ≤ i ∧ i < 2 ^ 62 ∧ -(2 ^ 62) ≤ j ∧ j < 2 ^ 62) ∧ R (Itr i (j - i).toNat) H1) : iRng2 tr σ H R := q
theorem x_iList {R : It → Hp → Prop} (q : te σ H fun x H1 => ∃ a, x = .ref a ∧ (∃ xs, SqL K H1 a xs) ∧ R (Itl K a) H1) : iList K te σ H R := q
theorem x_iTup {R : It → Hp → Prop} (q : te σ H fun x H1 => ∃ a, x = .ref a ∧ (∃ xs, SqT K H1 a xs) ∧ R (Itt K a) H1) : iTup K te σ H R := q
theorem x_iRef {p : Addr} {C : Addr → Prop} {R : Addr → Prop} (h : C p) (q : R p) : ∃ a, V.ref p = .ref a ∧ C a ∧ R a := ⟨p, rfl, h, q⟩
theorem x_sl {r : V → Option Int → Option Int → Hp → VK → Prop} {tl th : TO} (q : te σ H fun x H1 => tl σ H1 fun l H2 => th σ H2 fun u H3 => r x l u H3 Q) : tSl r te tl th σ H Q := q
theorem x_noP {R : Option Int → Hp → Prop} (q : R none H) : tNoPart σ H R := q
theorem x_part {R : Option Int → Hp → Prop} (q : te σ H fun x H1 => ∃ i, x = .int i ∧ R (some i) H1) : tPart te σ H R := q
theorem x_int {R : Int → Prop} (q : R i) : ∃ k, V.int i = .int k ∧ R k := ⟨i, rfl, q⟩
theorem x_slL {p : Addr} {xs : List V} {lo hi : Option Int} (h : SqL K H p xs) (q : ∀ l, Fresh H l → Q (.ref l) (upd H l (.lst (cutV xs lo hi)))) : rSlL K (.ref p) lo hi H Q := ⟨p, xs, rfl, h, q⟩
theorem x_bm {T : String} {r : V → List V → Hp → VK → Prop} {tr : TA} (q : te σ H fun x H1 => tyV K T x H1 ∧ tr σ H1 fun xs H2 => r x xs H2 Q) : tBM K T r te tr σ H Q := q
theorem x_bm0 {T : String} {r : V → List V → Hp → VK → Prop} (q : te σ H fun x H1 => tyV K T x H1 ∧ r x [] H1 Q) : tBM0 K T r te σ H Q := q
theorem x_append {p : Addr} {xs : List V} (h : H p = some (.lst xs)) (hs : xs.length ≤ 100000) (q : Q .non (upd H p (.lst (xs ++ [y])))) : rAppend (.ref p) [y] H Q := ⟨p, xs, y, rfl, rfl, h, Nat.lt_of_le_of_lt hs (by decide), q⟩
theorem x_cat {p r : Addr} {xs zs : List V} (h : H p = some (.lst xs)) (k : H r = some (.lst zs)) (hs : xs.length + zs.length ≤ 100000) (q : ∀ l, Fresh H l → Q (.ref l) (upd H l (.lst (xs ++ zs)))) : rCat (.ref p) (.ref r) H Q := ⟨p, r, xs, zs, rfl, rfl, h, k, Nat.le_trans hs (by decide), q⟩
theorem x_all {p : Addr} {bs : List Bool} (h : SqL K H p (bs.map V.bl)) (q : Q (.bl (bs.all id)) H) : rAll K [.ref p] H Q := ⟨p, bs, rfl, h, q⟩
/-- a for's turns -/
def ForG (J : It) (g : TG) (tb : TS) (D : Ends) (σ : L2.St) (H1 : Hp) : Prop := ∃ W : Nat → Nat → L2.St → Hp → Prop, (∃ m, W 0 m σ H1) ∧ ∀ i m σ H, W i m σ H →
  (J.stop i H ∧ D.nx σ H) ∨ (J.go i H ∧ ∃ N : L2.St → Hp → Prop, (∀ σ' H', N σ' H' → ∃ m', m' < m ∧ W (i + 1) m' σ' H') ∧ ∀ x H', J.yld i H x H' → g x σ H' fun σ2 H2 => tb { D with nx := N, ct := N, bk := D.nx } σ2 H2)
theorem x_for {wi : TI} {g : TG} {tb : TS} (q : wi σ H fun J H1 => ForG J g tb D σ H1) : tFor wi g tb D σ H := q
theorem x_forR {lo : Int} {n : Nat} {g : TG} {tb : TS} (Pv : Nat → L2.St → Hp → Prop) (h0 : Pv 0 σ H)
    (hs : ∀ i σ H, i < n → Pv i σ H → g (.int (lo + i)) σ H fun σ2 H2 => tb { D with nx := Pv (i + 1), ct := Pv (i + 1), bk := D.nx } σ2 H2) (hd : ∀ σ H, Pv n σ H → D.nx σ H) : ForG (Itr lo n) g tb D σ H := for_range Pv h0 hs hd
theorem x_forL {a : Addr} (xs : List V) {g : TG} {tb : TS} (Pv : Nat → L2.St → Hp → Prop) (h0 : Pv 0 σ H) (hl : ∀ i σ H, i ≤ xs.length → Pv i σ H → SqL K H a xs)
    (hs : ∀ i x σ H, xs[i]? = some x → Pv i σ H → g x σ H fun σ2 H2 => tb { D with nx := Pv (i + 1), ct := Pv (i + 1), bk := D.nx } σ2 H2) (hd : ∀ σ H, Pv xs.length σ H → D.nx σ H) : ForG (Itl K a) g tb D σ H := for_list Pv h0 hl hs hd
theorem x_forT {a : Addr} (xs : List V) {g : TG} {tb : TS} (Pv : Nat → L2.St → Hp → Prop) (h0 : Pv 0 σ H) (hl : ∀ i σ H, i ≤ xs.length → Pv i σ H → SqT K H a xs)
    (hs : ∀ i x σ H, xs[i]? = some x → Pv i σ H → g x σ H fun σ2 H2 => tb { D with nx := Pv (i + 1), ct := Pv (i + 1), bk := D.nx } σ2 H2) (hd : ∀ σ H, Pv xs.length σ H → D.nx σ H) : ForG (Itt K a) g tb D σ H := for_tup Pv h0 hl hs hd
/-- a list comprehension's turns -/
def LcG (J : It) (g : TG) (tt : TT) (te : TE) (vs : List Nat) (σ : L2.St) (H1 : Hp) (D : Addr) (Q : Hp → Prop) : Prop := ∃ W : Nat → Nat → Hp → Prop, (∃ m, W 0 m (upd H1 D (.lst []))) ∧ ∀ i m H, W i m H →
  (J.stop i H ∧ Q H) ∨ (J.go i H ∧ ∃ Nx : Hp → Prop, (∀ H', Nx H' → ∃ m', m' < m ∧ W (i + 1) m' H') ∧ ∀ x H', J.yld i H x H' → g x (wipe σ vs) H' fun σ2 H2 => wipe σ2 vs = wipe σ vs ∧ tt σ2 H2 fun b H3 =>
    if b = true then te σ2 H3 fun y H4 => ∃ acc, H4 D = some (.lst acc) ∧ acc.length < sizeLine ∧ Nx (upd H4 D (.lst (acc ++ [y]))) else Nx H3)
theorem x_lc {wi : TI} {g : TG} {vs : List Nat} (q : wi σ H fun J H1 => ∀ D, Fresh H1 D → LcG J g tt te vs σ H1 D fun H => Q (.ref D) H) : tLc wi g tt te vs σ H Q := q
/-- one turn -/
def LcT (g : TG) (tt : TT) (te : TE) (vs : List Nat) (σ : L2.St) (D : Addr) (x : V) (Nx : Hp → Prop) (H : Hp) : Prop := g x (wipe σ vs) H fun σ2 H2 => wipe σ2 vs = wipe σ vs ∧ tt σ2 H2 fun b H3 =>
    if b = true then te σ2 H3 fun y H4 => ∃ acc, H4 D = some (.lst acc) ∧ acc.length < sizeLine ∧ Nx (upd H4 D (.lst (acc ++ [y]))) else Nx H3
theorem x_lcR {lo : Int} {n : Nat} {g : TG} {vs : List Nat} {DD : Addr} {Qd : Hp → Prop} (Pv : Nat → Hp → Prop) (h0 : Pv 0 (upd H DD (.lst [])))
    (hs : ∀ i H, i < n → Pv i H → LcT g tt te vs σ DD (.int (lo + i)) (Pv (i + 1)) H) (hd : ∀ H, Pv n H → Qd H) : LcG (Itr lo n) g tt te vs σ H DD Qd := lc_range Pv h0 hs hd
theorem x_lcL {a : Addr} (xs : List V) {g : TG} {vs : List Nat} {DD : Addr} {Qd : Hp → Prop} (Pv : Nat → Hp → Prop) (h0 : Pv 0 (upd H DD (.lst []))) (hl : ∀ i H, i ≤ xs.length → Pv i H → SqL K H a xs)
    (hs : ∀ i x H, xs[i]? = some x → Pv i H → LcT g tt te vs σ DD x (Pv (i + 1)) H) (hd : ∀ H, Pv xs.length H → Qd H) : LcG (Itl K a) g tt te vs σ H DD Qd := lc_list Pv h0 hl hs hd
theorem x_lcT {a : Addr} (xs : List V) {g : TG} {vs : List Nat} {DD : Addr} {Qd : Hp → Prop} (Pv : Nat → Hp → Prop) (h0 : Pv 0 (upd H DD (.lst []))) (hl : ∀ i H, i ≤ xs.length → Pv i H → SqT K H a xs)
    (hs : ∀ i x H, xs[i]? = some x → Pv i H → LcT g tt te vs σ DD x (Pv (i + 1)) H) (hd : ∀ H, Pv xs.length H → Qd H) : LcG (Itt K a) g tt te vs σ H DD Qd := lc_tup Pv h0 hl hs hd
theorem x_lct {g : TG} {vs : List Nat} {DD : Addr} {Nx : Hp → Prop} (q : g v (wipe σ vs) H fun σ2 H2 => wipe σ2 vs = wipe σ vs ∧ tt σ2 H2 fun b H3 =>
    if b = true then te σ2 H3 fun y H4 => ∃ acc, H4 DD = some (.lst acc) ∧ acc.length < sizeLine ∧ Nx (upd H4 DD (.lst (acc ++ [y]))) else Nx H3) : LcT g tt te vs σ DD v Nx H := q
theorem x_wip {a b : L2.St} {B : Prop} (h : a = b) (q : B) : a = b ∧ B := ⟨h, q⟩
theorem x_tyes {R : Bool → Hp → Prop} (q : R true H) : tYes σ H R := q
theorem x_acc {DD : Addr} {acc : List V} {R : List V → Prop} (h : H DD = some (.lst acc)) (hs : acc.length ≤ 100000) (q : R acc) : ∃ acc, H DD = some (.lst acc) ∧ acc.length < sizeLine ∧ R acc := ⟨acc, h, Nat.lt_of_le_of_lt hs (by decide), q⟩
theorem x_while {W : Nat → L2.St → Hp → Prop} {tb : TS} (m : Nat) (h0 : W m σ H) (hs : ∀ m σ H, W m σ H → tt σ H fun c H1 => if c = true then ∃ N : L2.St → Hp → Prop, (∀ σ' H', N σ' H' → ∃ m', m' < m ∧ W m' σ' H') ∧ tb { D with nx := N, ct := N, bk := D.nx } σ H1 else D.nx σ H1) : tWhile tt tb D σ H := ⟨W, ⟨m, h0⟩, hs⟩
theorem x_yes {c : Bool} {A B : Prop} (hc : c = true) (q : A) : if c = true then A else B := by rw [if_pos hc]; exact q
theorem x_no {c : Bool} {A B : Prop} (hc : c = false) (q : B) : if c = true then A else B := by rw [hc, if_neg Bool.false_ne_true]; exact q
theorem x_iteT {A B : Prop} (q : A) : if true = true then A else B := by rw [if_pos rfl]; exact q
theorem x_iteF {A B : Prop} (q : B) : if false = true then A else B := by rw [if_neg Bool.false_ne_true]; exact q
theorem x_bool {c : Bool} {A B : Prop} (h1 : c = true → A) (h2 : c = false → B) : if c = true then A else B := by
  cases c with
  | true => exact x_iteT (h1 rfl)
  | false => exact x_iteF (h2 rfl)
theorem x_dec {p : Prop} [Decidable p] {A B : Prop} (h1 : p → A) (h2 : ¬ p → B) : if decide p = true then A else B := x_bool (fun e => h1 (of_decide_eq_true e)) (fun e => h2 (of_decide_eq_false e))
theorem x_ndec {p : Prop} [Decidable p] {A B : Prop} (h1 : ¬ p → A) (h2 : p → B) : if (!decide p) = true then A else B := x_bool (fun e => h1 (of_decide_eq_false (by simpa using e))) (fun e => h2 (of_decide_eq_true (by simpa using e)))
end
theorem kit_NoneType_bool : kitB "NoneType" "bool" = some false := by decide +kernel
theorem kit_NoneType_int : kitB "NoneType" "int" = some false := by decide +kernel
theorem kit_NoneType_str : kitB "NoneType" "str" = some false := by decide +kernel
theorem kit_NoneType_list : kitB "NoneType" "list" = some false := by decide +kernel
theorem kit_NoneType_tuple : kitB "NoneType" "tuple" = some false := by decide +kernel
theorem kit_NoneType_dict : kitB "NoneType" "dict" = some false := by decide +kernel
theorem kit_bool_bool : kitB "bool" "bool" = some true := by decide +kernel
theorem kit_bool_int : kitB "bool" "int" = some true := by decide +kernel
theorem kit_bool_str : kitB "bool" "str" = some false := by decide +kernel
theorem kit_bool_list : kitB "bool" "list" = some false := by decide +kernel
theorem kit_bool_tuple : kitB "bool" "tuple" = some false := by decide +kernel
theorem kit_bool_dict : kitB "bool" "dict" = some false := by decide +kernel
theorem kit_int_bool : kitB "int" "bool" = some false := by decide +kernel
theorem kit_int_int : kitB "int" "int" = some true := by decide +kernel
theorem kit_int_str : kitB "int" "str" = some false := by decide +kernel
theorem kit_int_list : kitB "int" "list" = some false := by decide +kernel
theorem kit_int_tuple : kitB "int" "tuple" = some false := by decide +kernel
theorem kit_int_dict : kitB "int" "dict" = some false := by decide +kernel
theorem kit_str_bool : kitB "str" "bool" = some false := by decide +kernel
theorem kit_str_int : kitB "str" "int" = some false := by decide +kernel
theorem kit_str_str : kitB "str" "str" = some true := by decide +kernel
theorem kit_str_list : kitB "str" "list" = some false := by decide +kernel
theorem kit_str_tuple : kitB "str" "tuple" = some false := by decide +kernel
theorem kit_str_dict : kitB "str" "dict" = some false := by decide +kernel
theorem kit_list_bool : kitB "list" "bool" = some false := by decide +kernel
theorem kit_list_int : kitB "list" "int" = some false := by decide +kernel
theorem kit_list_str : kitB "list" "str" = some false := by decide +kernel
theorem kit_list_list : kitB "list" "list" = some true := by decide +kernel
theorem kit_list_tuple : kitB "list" "tuple" = some false := by decide +kernel
theorem kit_list_dict : kitB "list" "dict" = some false := by decide +kernel
theorem kit_tuple_bool : kitB "tuple" "bool" = some false := by decide +kernel
theorem kit_tuple_int : kitB "tuple" "int" = some false := by decide +kernel
theorem kit_tuple_str : kitB "tuple" "str" = some false := by decide +kernel
theorem kit_tuple_list : kitB "tuple" "list" = some false := by decide +kernel
theorem kit_tuple_tuple : kitB "tuple" "tuple" = some true := by decide +kernel
theorem kit_tuple_dict : kitB "tuple" "dict" = some false := by decide +kernel
theorem kit_dict_bool : kitB "dict" "bool" = some false := by decide +kernel
theorem kit_dict_int : kitB "dict" "int" = some false := by decide +kernel
theorem kit_dict_str : kitB "dict" "str" = some false := by decide +kernel
theorem kit_dict_list : kitB "dict" "list" = some false := by decide +kernel
theorem kit_dict_tuple : kitB "dict" "tuple" = some false := by decide +kernel
theorem kit_dict_dict : kitB "dict" "dict" = some true := by decide +kernel
end Tw

/-! TwB: what the laws draw from; keys. -/
namespace Tw
open PySem PySem.Spec PyProof.Rows L2
/-- a well: a list of four ints, the first one a rest -/
def Well (H : Hp) (p : Addr) : Prop := ∃ c n g l : Int, H p = some (.lst [.int c, .int n, .int g, .int l]) ∧ 0 ≤ c ∧ c < 2147483647
theorem Well.fr {S : Addr → Prop} {H H1 : Hp} {p : Addr} (h : Well H p) (f : Fr S H H1) (n : ¬ S p) : Well H1 p := by
  obtain ⟨c, m, g, l, e, r⟩ := h
  exact ⟨c, m, g, l, f.keep _ _ e n, r⟩
theorem Well.some {H : Hp} {p : Addr} (h : Well H p) : ∃ xs, H p = some (.lst xs) := by
  obtain ⟨c, m, g, l, e, r⟩ := h
  exact ⟨_, e⟩
theorem Well.ne {H : Hp} {p l : Addr} (h : Well H p) (n : Fresh H l) : l ≠ p := fun e => by
  obtain ⟨xs, q⟩ := h.some
  have n0 : H l = none := n
  rw [← e, n0] at q; cases q
/-- what may be drawn from -/
def PullOk (m : Int) : Prop := 0 < m ∧ m.natAbs.log2 < 9000
theorem PullOk.small {m : Int} (h : 0 < m) (h2 : m ≤ 9223372036854775808) : PullOk m := by
  refine ⟨h, Nat.lt_of_lt_of_le (PySem.Flt.log2_lt_of (show 0 < 64 by decide) ?_) (by decide)⟩
  have e : (2 : Nat) ^ 64 = 18446744073709551616 := by decide
  rw [e]; omega
/-- a text's first written constant -/
def strIn (s : Stmt) : Str := match defBody s with
  | (.Assign _ (.Constant (.str x) _ _) _) :: _ => x
  | _ => PySem.Str.empty

/-! ### keys as data -/
def numOk (i : Int) : Prop := -(10 ^ 60) < i ∧ i < 10 ^ 60
def txtOk (z : Str) : Prop := z.length ≤ 40 ∧ ∀ c ∈ z.cps.toList, 32 ≤ c ∧ c ≤ 126
/-- a key in which no more tuples than r lie within one another -/
def isK : Nat → PyData → Prop
  | _, .int i => numOk i
  | _, .str z => txtOk z
  | r + 1, .tuple ds => ds.length ≤ 4 ∧ ∀ d ∈ ds, isK r d
  | _, _ => False
theorem isK_int {r : Nat} {i : Int} : isK r (.int i) = numOk i := by cases r <;> rfl
theorem isK_str {r : Nat} {z : Str} : isK r (.str z) = txtOk z := by cases r <;> rfl
theorem isK_tup {r : Nat} {ds : List PyData} : isK (r + 1) (.tuple ds) = (ds.length ≤ 4 ∧ ∀ d ∈ ds, isK r d) := rfl
theorem str_len (z : Str) : z.length = z.cps.toList.length := by simp [PySem.Str.length]
theorem str_app (a b : Str) : (a ++ b).cps.toList = a.cps.toList ++ b.cps.toList := by simp [PySem.Str.cps_append]
theorem txt_app {z : Str} {c n : Nat} (h : z.length ≤ n) (hz : ∀ d ∈ z.cps.toList, 32 ≤ d ∧ d ≤ 126) (hc : 32 ≤ c ∧ c ≤ 126) : (z ++ (⟨#[c]⟩ : Str)).length ≤ n + 1 ∧ ∀ d ∈ (z ++ (⟨#[c]⟩ : Str)).cps.toList, 32 ≤ d ∧ d ≤ 126 := by
  refine ⟨?_, fun d hd => ?_⟩
  · rw [PySem.Str.length_append]
    have : (⟨#[c]⟩ : Str).length = 1 := rfl
    omega
  · rw [str_app] at hd
    rcases List.mem_append.mp hd with hd | hd
    · exact hz d hd
    · have e : d = c := by simpa using hd
      subst e; exact hc
end Tw

/-! TwC: readings for values of several kinds; the order of keys. -/
namespace Tw
open PySem PySem.Spec PyProof.Rows L2
section
variable {X : Cx}
/-- len of a list, a tuple or a text -/
def rLenA (K : PySem.W.Frag) : List V → Hp → VK → Prop := fun xs H Q => rLen K xs H Q ∨ rLenZ xs H Q
theorem c_lenA : CallR X (.builtin "len") (rLenA X.K) := CallR.or c_len c_lenZ
/-- + of two texts or two tuples -/
def rAddT (K : PySem.W.Frag) : R2 := fun x y H Q => rAddS x y H Q ∨ rCatA K x y H Q
theorem o_addT : OpR X (binaryOp .Add) (rAddT X.K) := OpR.or o_addS op_catA
def rGtS : R2 := fun x y H Q => ∃ i j, x = .str i ∧ y = .str j ∧ Q (.bl (decide (j.cps.toList < i.cps.toList))) H
theorem o_gtS : OpR X (compareOp .Gt) rGtS := op_gt_str
def rGeS : R2 := fun x y H Q => ∃ i j, x = .str i ∧ y = .str j ∧ Q (.bl (!decide (i.cps.toList < j.cps.toList))) H
theorem o_geS : OpR X (compareOp .GtE) rGeS := op_ge_str
theorem u65 {k : Nat} {A : Around} (hr : Room k A) : A.units + 65 < cLine := by have := hr.un; omega
/-- a part of a list, a tuple or a text -/
def rSlX (K : PySem.W.Frag) : V → Option Int → Option Int → Hp → VK → Prop := fun x lo hi H Q => rSlL K x lo hi H Q ∨ (rSlA K x lo hi H Q ∨ rSlS x lo hi H Q)
theorem sl_any : SlR X (rSlX X.K) := SlR.or sl_list (SlR.or sl_tupA sl_str)
end
section
variable {K : PySem.W.Frag} {H : Hp} {Q : VK} {x y v : V} {i j : Int}
theorem x_chain {σ : L2.St} {ta tb tc : TE} {r r' : R2} (q : ta σ H fun x H1 => tb σ H1 fun y H2 => r x y H2 fun z H3 => ∃ k, z = .bl k ∧ (if k = true then tc σ H3 fun w' H4 => r' y w' H4 Q else Q (.bl false) H3)) : tChain r r' ta tb tc σ H Q := q
theorem x_gtS {z w : Str} (q : Q (.bl (decide (w.cps.toList < z.cps.toList))) H) : rGtS (.str z) (.str w) H Q := ⟨z, w, rfl, rfl, q⟩
theorem x_geS {z w : Str} (q : Q (.bl (!decide (z.cps.toList < w.cps.toList))) H) : rGeS (.str z) (.str w) H Q := ⟨z, w, rfl, rfl, q⟩
theorem x_inD {d : PyData} {ds : List PyData} (h1 : Dp K H x d) (h2 : Dp K H y (.list ds)) (s1 : SeqAt.shaped d = true) (s2 : SeqAt.shaped (.list ds) = true) (q : Q (.bl (ds.any fun z => PyData.eqv z d)) H) : rInD K x y H Q := ⟨d, ds, h1, h2, s1, s2, q⟩
theorem x_notInD {d : PyData} {ds : List PyData} (h1 : Dp K H x d) (h2 : Dp K H y (.list ds)) (s1 : SeqAt.shaped d = true) (s2 : SeqAt.shaped (.list ds) = true) (q : Q (.bl (!ds.any fun z => PyData.eqv z d)) H) : rNotInD K x y H Q := ⟨d, ds, h1, h2, s1, s2, q⟩
theorem x_isiI {b : String} {r : Bool} (k : kitB "int" b = some r) (q : Q (.bl r) H) : rIsi K [.int i, .ty b] H Q := x_isi (.base (.int i)) k q
theorem x_isiB {c : Bool} {b : String} {r : Bool} (k : kitB "bool" b = some r) (q : Q (.bl r) H) : rIsi K [.bl c, .ty b] H Q := x_isi (.base (.bl c)) k q
theorem x_isiS {c : Str} {b : String} {r : Bool} (k : kitB "str" b = some r) (q : Q (.bl r) H) : rIsi K [.str c, .ty b] H Q := x_isi (.base (.str c)) k q
theorem x_isiN {b : String} {r : Bool} (k : kitB "NoneType" b = some r) (q : Q (.bl r) H) : rIsi K [.non, .ty b] H Q := x_isi (.base .non) k q
theorem x_isiT {p : Addr} {xs : List V} {b : String} {r : Bool} (h : H p = some (.tup xs)) (k : kitB "tuple" b = some r) (q : Q (.bl r) H) : rIsi K [.ref p, .ty b] H Q := x_isi (.base (.tup h)) k q
theorem x_isiL {p : Addr} {xs : List V} {b : String} {r : Bool} (h : H p = some (.lst xs)) (k : kitB "list" b = some r) (q : Q (.bl r) H) : rIsi K [.ref p, .ty b] H Q := x_isi (.base (.lst h)) k q
theorem x_isiD {p : Addr} {xs : List (Key × V)} {b : String} {r : Bool} (h : H p = some (.dK xs)) (k : kitB "dict" b = some r) (q : Q (.bl r) H) : rIsi K [.ref p, .ty b] H Q := x_isi (.base (.dK h)) k q
theorem x_tyL {p : Addr} {xs : List V} {B : Prop} (h : SqL K H p xs) (q : B) : tyV K "list" (.ref p) H ∧ B := ⟨.inl ⟨rfl, xs, h⟩, q⟩
theorem x_tyS {z : Str} {B : Prop} (q : B) : tyV K "str" (.str z) H ∧ B := ⟨rfl, q⟩
theorem x_tyD {p : Addr} {kvs : List (Key × V)} {B : Prop} (h : H p = some (.dK kvs)) (q : B) : tyV K "dict" (.ref p) H ∧ B := ⟨.inr (.inr (.inl ⟨rfl, .inl ⟨kvs, h⟩⟩)), q⟩
theorem x_lenAs {p : Addr} {xs : List V} (h : SqL K H p xs ∨ SqT K H p xs) (q : Q (.int xs.length) H) : rLenA K [.ref p] H Q := .inl ⟨p, xs, rfl, h, q⟩
theorem x_lenAz {z : Str} (h : z.length ≤ sizeLine) (q : Q (.int z.length) H) : rLenA K [.str z] H Q := .inr ⟨z, rfl, h, q⟩
theorem x_addTz {z w : Str} (h : z.length + w.length ≤ sizeLine) (q : Q (.str (z ++ w)) H) : rAddT K (.str z) (.str w) H Q := .inl ⟨z, w, rfl, rfl, h, q⟩
/-- + of tuples: where it stands, that is one tuple -/
theorem x_catA {a b : Addr} {xs ys : List V} (ha : SqT K H a xs) (hb : SqT K H b ys) (hz : xs.length + ys.length ≤ 100000)
    (q0 : xs = [] → Q (.ref b) H) (q1 : xs ≠ [] → ys = [] → Q (.ref a) H) (q2 : xs ≠ [] → ys ≠ [] → ∀ p, Fresh H p → Q (.ref p) (upd H p (.tup (xs ++ ys)))) : rCatA K (.ref a) (.ref b) H Q :=
  ⟨a, b, xs, ys, rfl, rfl, ha, hb, Nat.le_trans hz (by decide), q0, q1, q2⟩
theorem x_catD {a b : Addr} {xs ys : List V} {ds es : List PyData} (ha : H a = some (.tup xs)) (hb : H b = some (.tup ys)) (da : DtAll H xs ds) (db : DtAll H ys es) (hz : xs.length + ys.length ≤ 100000)
    (q : ∀ p H', Fr Non H H' → Dt H' (.ref p) (.tuple (ds ++ es)) → Q (.ref p) H') : rCatA K (.ref a) (.ref b) H Q := by
  refine x_catA (SqT.of ha) (SqT.of hb) hz (fun e => ?_) (fun _ e => ?_) (fun _ _ p n => ?_)
  · subst e; cases da; exact q b H (Fr.refl _) (.tup hb db)
  · subst e; cases db; rw [List.append_nil] at q; exact q a H (Fr.refl _) (.tup ha da)
  · exact q p _ (Fr.new (Fr.refl _) n) (.tup upd_same (DtAll.app (da.upd n) (db.upd n)))
theorem x_addTt (q : rCatA K x y H Q) : rAddT K x y H Q := .inr q
theorem x_slXz {z : Str} {lo hi : Option Int} (h : z.length ≤ sizeLine) (q : Q (.str (cutS z lo hi)) H) : rSlX K (.str z) lo hi H Q := .inr (.inr ⟨z, rfl, h, q⟩)
theorem x_slXt {lo hi : Option Int} (q : rSlA K x lo hi H Q) : rSlX K x lo hi H Q := .inr (.inl q)
theorem cutV_eq (xs : List V) (lo hi : Option Int) : cutV xs lo hi = (xs.drop (HT.sIx xs.length 0 lo)).take (HT.sIx xs.length xs.length hi - HT.sIx xs.length 0 lo) := rfl
theorem x_slD {a : Addr} {xs : List V} {ds : List PyData} {lo hi : Option Int} (ha : H a = some (.tup xs)) (da : DtAll H xs ds)
    (q : ∀ p H', Fr Non H H' → Dt H' (.ref p) (.tuple ((ds.drop (HT.sIx xs.length 0 lo)).take (HT.sIx xs.length xs.length hi - HT.sIx xs.length 0 lo))) → Q (.ref p) H') : rSlA K (.ref a) lo hi H Q := by
  refine ⟨a, xs, rfl, SqT.of ha, fun ⟨e1, e2⟩ => ?_, fun _ p n => ?_⟩
  · refine q a H (Fr.refl _) ?_
    rw [e1, e2, List.drop_zero, Nat.sub_zero, List.take_of_length_le (Nat.le_of_eq da.length.symm)]
    exact .tup ha da
  · exact q p _ (Fr.new (Fr.refl _) n) (.tup upd_same (by rw [cutV_eq]; exact ((da.drop _).take _).upd n))
theorem x_ixAt {p : Addr} {xs : List V} (h : SqT K H p xs) (ha : atI xs i = some v) (q : Q v H) : rIx K (.ref p) (.int i) H Q := .inr (.inl ⟨p, xs, i, v, rfl, rfl, h, ha, q⟩)
theorem x_ixAl {p : Addr} {xs : List V} (h : SqL K H p xs) (ha : atI xs i = some v) (q : Q v H) : rIx K (.ref p) (.int i) H Q := .inl ⟨p, xs, i, v, rfl, rfl, h, ha, q⟩
theorem x_ixAz {z : Str} {c : Nat} (h : z.length ≤ sizeLine) (ha : atI z.cps.toList i = some c) (q : Q (.str ⟨#[c]⟩) H) : rIx K (.str z) (.int i) H Q := .inr (.inr ⟨z, i, c, rfl, rfl, h, ha, q⟩)
end

/-! ### keys: depth, equality -/
theorem isK_cases {r : Nat} {d : PyData} (h : isK r d) : (∃ i, d = .int i ∧ numOk i) ∨ (∃ z, d = .str z ∧ txtOk z) ∨ ∃ r1 ds, r = r1 + 1 ∧ d = .tuple ds ∧ ds.length ≤ 4 ∧ ∀ e ∈ ds, isK r1 e := by
  cases d with
  | int i => rw [isK_int] at h; exact .inl ⟨i, rfl, h⟩
  | str z => rw [isK_str] at h; exact .inr (.inl ⟨z, rfl, h⟩)
  | tuple ds =>
    cases r with
    | zero => cases h
    | succ r1 => exact .inr (.inr ⟨r1, ds, rfl, rfl, h.1, h.2⟩)
  | none => cases r <;> cases h
  | bool => cases r <;> cases h
  | list => cases r <;> cases h
  | dict => cases r <;> cases h
theorem isK_up : ∀ {r : Nat} {d : PyData}, isK r d → isK (r + 1) d
  | r, d, h => by
    rcases isK_cases h with ⟨i, rfl, h3⟩ | ⟨z, rfl, h3⟩ | ⟨r1, ds, rfl, rfl, h1, h2⟩
    · rw [isK_int]; exact h3
    · rw [isK_str]; exact h3
    · rw [isK_tup]; exact ⟨h1, fun e he => isK_up (h2 e he)⟩
theorem isK_le {r s : Nat} (h : r ≤ s) {d : PyData} (k : isK r d) : isK s d := by
  obtain ⟨t, rfl⟩ : ∃ t, s = r + t := ⟨s - r, by omega⟩
  clear h
  induction t with
  | zero => exact k
  | succ t ih => exact isK_up ih
theorem depthAll_le {n : Nat} : ∀ {ds : List PyData}, (∀ d ∈ ds, d.depth ≤ n) → PyData.depthAll ds ≤ n
  | [], _ => Nat.zero_le _
  | d :: ds, h => by
    rw [PyData.depthAll]
    exact Nat.max_le.mpr ⟨h d (List.mem_cons_self ..), depthAll_le fun e he => h e (List.mem_cons_of_mem _ he)⟩
theorem isK_depth : ∀ {r : Nat} {d : PyData}, isK r d → d.depth ≤ r
  | r, d, h => by
    rcases isK_cases h with ⟨i, rfl, _⟩ | ⟨z, rfl, _⟩ | ⟨r1, ds, rfl, rfl, _, h2⟩
    · exact Nat.zero_le _
    · exact Nat.zero_le _
    · show PyData.depthAll ds + 1 ≤ r1 + 1
      exact Nat.succ_le_succ (depthAll_le fun e he => isK_depth (h2 e he))
theorem canLayAll0_of : ∀ {ds : List PyData}, (∀ d ∈ ds, d.canLay0 = true) → PyData.canLayAll0 ds = true
  | [], _ => rfl
  | d :: ds, h => by
    rw [PyData.canLayAll0, h d (List.mem_cons_self ..), canLayAll0_of fun e he => h e (List.mem_cons_of_mem _ he)]; rfl
theorem txt_strOk {z : Str} (h : ∀ c ∈ z.cps.toList, 32 ≤ c ∧ c ≤ 126) : PyData.strOk z = true := by
  unfold PyData.strOk
  rw [Array.all_eq_true_iff_forall_mem]
  intro c hc
  have := h c (Array.mem_toList_iff.mpr hc)
  exact decide_eq_true (by omega)
theorem isK_lay : ∀ {r : Nat} {d : PyData}, isK r d → d.canLay0 = true
  | r, d, h => by
    rcases isK_cases h with ⟨i, rfl, _⟩ | ⟨z, rfl, h3⟩ | ⟨r1, ds, rfl, rfl, _, h2⟩
    · rfl
    · exact txt_strOk h3.2
    · show PyData.canLayAll0 ds = true
      exact canLayAll0_of fun e he => isK_lay (h2 e he)
theorem isK_shaped {r : Nat} {d : PyData} (h : isK r d) (hr : r ≤ 60) : SeqAt.shaped d = true := by
  unfold SeqAt.shaped
  rw [isK_lay h, decide_eq_true (Nat.le_trans (isK_depth h) (by omega))]; rfl
theorem isK_ne {r : Nat} {d : PyData} (h : isK r d) : d ≠ .none := fun e => by subst e; cases r <;> cases h
theorem str_beq {x y : Str} : (x == y) = true ↔ x = y := by simp
mutual
theorem eqv_of_eq : ∀ {r : Nat} {d : PyData}, isK r d → PyData.eqv d d = true
  | r, d, h => by
    rcases isK_cases h with ⟨i, rfl, _⟩ | ⟨z, rfl, h⟩ | ⟨r1, ds, rfl, rfl, _, h2⟩
    · rw [PyData.eqv]; exact beq_self_eq_true _
    · rw [PyData.eqv]; exact beq_self_eq_true _
    · rw [PyData.eqv]; exact eqvAll_of_eq h2
theorem eqvAll_of_eq : ∀ {r : Nat} {ds : List PyData}, (∀ d ∈ ds, isK r d) → PyData.eqvAll ds ds = true
  | r, [], _ => rfl
  | r, d :: ds, h => by
    rw [PyData.eqvAll, eqv_of_eq (h d (List.mem_cons_self ..)), eqvAll_of_eq fun e he => h e (List.mem_cons_of_mem _ he)]; rfl
end
mutual
theorem eq_of_eqv : ∀ {r s : Nat} {d e : PyData}, isK r d → isK s e → PyData.eqv d e = true → d = e
  | r, s, d, e, h, k, q => by
    rcases isK_cases h with ⟨i, rfl, _⟩ | ⟨z, rfl, h⟩ | ⟨r1, ds, rfl, rfl, _, h2⟩
    · rcases isK_cases k with ⟨j, rfl, _⟩ | ⟨w, rfl, k⟩ | ⟨s1, es, rfl, rfl, _, k2⟩
      · rw [PyData.eqv] at q; rw [eq_of_beq q]
      · rw [PyData.eqv] at q; cases q
      · rw [PyData.eqv] at q; cases q
    · rcases isK_cases k with ⟨j, rfl, _⟩ | ⟨w, rfl, k⟩ | ⟨s1, es, rfl, rfl, _, k2⟩
      · rw [PyData.eqv] at q; cases q
      · rw [PyData.eqv] at q; rw [eq_of_beq q]
      · rw [PyData.eqv] at q; cases q
    · rcases isK_cases k with ⟨j, rfl, _⟩ | ⟨w, rfl, k⟩ | ⟨s1, es, rfl, rfl, _, k2⟩
      · rw [PyData.eqv] at q; cases q
      · rw [PyData.eqv] at q; cases q
      · rw [PyData.eqv] at q; rw [eqAll_of_eqv h2 k2 q]
theorem eqAll_of_eqv : ∀ {r s : Nat} {ds es : List PyData}, (∀ d ∈ ds, isK r d) → (∀ d ∈ es, isK s d) → PyData.eqvAll ds es = true → ds = es
  | r, s, [], [], _, _, _ => rfl
  | r, s, d :: ds, e :: es, h, k, q => by
    rw [PyData.eqvAll, Bool.and_eq_true] at q
    rw [eq_of_eqv (h d (List.mem_cons_self ..)) (k e (List.mem_cons_self ..)) q.1, eqAll_of_eqv (fun e he => h e (List.mem_cons_of_mem _ he)) (fun e he => k e (List.mem_cons_of_mem _ he)) q.2]
  | r, s, [], e :: es, _, _, q => by rw [PyData.eqvAll] at q; cases q
  | r, s, d :: ds, [], _, _, q => by rw [PyData.eqvAll] at q; cases q
end
theorem eqv_iff {r s : Nat} {d e : PyData} (h : isK r d) (k : isK s e) : PyData.eqv d e = true ↔ d = e :=
  ⟨eq_of_eqv h k, fun q => by subst q; exact eqv_of_eq h⟩

/-! ### the order -/
mutual
/-- what the program compares in a key's place -/
def rankD : PyData → PyData
  | .int i => .tuple [.int 0, .int i, .str "", .tuple []]
  | .str z => .tuple [.int 1, .int 0, .str z, .tuple []]
  | .tuple ds => .tuple [.int 2, .int 0, .str "", .tuple (rankAll ds)]
  | .none | .bool _ | .list _ | .dict _ => .tuple [.int 3, .int 0, .str "", .tuple []]
def rankAll : List PyData → List PyData
  | [] => []
  | d :: ds => rankD d :: rankAll ds
end
theorem rankAll_map : ∀ ds : List PyData, rankAll ds = ds.map rankD
  | [] => rfl
  | d :: ds => by rw [rankAll, rankAll_map ds]; rfl
open PySem.W in
theorem alike4 (a b c d : Int) (x y : Str) {ds es : List PyData} (h : alikeAll ds es = true) : alike (.tuple [.int a, .int b, .str x, .tuple ds]) (.tuple [.int c, .int d, .str y, .tuple es]) = true := by
  simp [alike, alikeAll, h]
open PySem.W in
mutual
theorem rank_alike : ∀ d e : PyData, alike (rankD d) (rankD e) = true
  | .tuple ds, e => by
    cases e with
    | tuple es => exact alike4 _ _ _ _ _ _ (rankAll_alike ds es)
    | int => exact alike4 _ _ _ _ _ _ (by cases ds <;> simp [rankAll, alikeAll])
    | str => exact alike4 _ _ _ _ _ _ (by cases ds <;> simp [rankAll, alikeAll])
    | none => exact alike4 _ _ _ _ _ _ (by cases ds <;> simp [rankAll, alikeAll])
    | bool => exact alike4 _ _ _ _ _ _ (by cases ds <;> simp [rankAll, alikeAll])
    | list => exact alike4 _ _ _ _ _ _ (by cases ds <;> simp [rankAll, alikeAll])
    | dict => exact alike4 _ _ _ _ _ _ (by cases ds <;> simp [rankAll, alikeAll])
  | .int i, e => by cases e <;> exact alike4 _ _ _ _ _ _ (by simp [alikeAll])
  | .str i, e => by cases e <;> exact alike4 _ _ _ _ _ _ (by simp [alikeAll])
  | .none, e => by cases e <;> exact alike4 _ _ _ _ _ _ (by simp [alikeAll])
  | .bool i, e => by cases e <;> exact alike4 _ _ _ _ _ _ (by simp [alikeAll])
  | .list i, e => by cases e <;> exact alike4 _ _ _ _ _ _ (by simp [alikeAll])
  | .dict i, e => by cases e <;> exact alike4 _ _ _ _ _ _ (by simp [alikeAll])
theorem rankAll_alike : ∀ ds es : List PyData, alikeAll (rankAll ds) (rankAll es) = true
  | [], _ => by simp [rankAll, alikeAll]
  | _ :: _, [] => by simp [rankAll, alikeAll]
  | d :: ds, e :: es => by rw [rankAll, rankAll, alikeAll, rank_alike d e, rankAll_alike ds es]; rfl
end
theorem rank_ne (d : PyData) : rankD d ≠ .none := by cases d <;> (rw [rankD]; exact fun h => nomatch h)
theorem depth4 (a b : Int) (x : Str) {ds : List PyData} {n : Nat} (h : PyData.depthAll ds ≤ n) : (PyData.tuple [.int a, .int b, .str x, .tuple ds]).depth ≤ n + 2 := by
  simp only [PyData.depth, PyData.depthAll]
  omega
theorem rank_depth : ∀ {r : Nat} {d : PyData}, isK r d → (rankD d).depth ≤ 2 * r + 2
  | r, d, h => by
    rcases isK_cases h with ⟨i, rfl, _⟩ | ⟨z, rfl, _⟩ | ⟨r1, ds, rfl, rfl, _, h2⟩
    · rw [rankD]; exact depth4 _ _ _ (Nat.zero_le _)
    · rw [rankD]; exact depth4 _ _ _ (Nat.zero_le _)
    · rw [rankD]
      refine depth4 _ _ _ ?_
      rw [rankAll_map]
      refine depthAll_le fun e he => ?_
      obtain ⟨e0, h0, rfl⟩ := List.mem_map.mp he
      have := rank_depth (h2 e0 h0)
      omega
/-- d stands ahead of e -/
def ltK (d e : PyData) : Bool := PySem.W.dataLt (rankD d) (rankD e)
def ltKs (ds es : List PyData) : Bool := PySem.W.dataLt (.tuple (rankAll ds)) (.tuple (rankAll es))
section
open PySem.W
theorem dl_yes {x y : PyData} {xs ys : List PyData} (h : alike x y = true) (e : PyData.eqv x y = true) : dataLt (.tuple (x :: xs)) (.tuple (y :: ys)) = dataLt (.tuple xs) (.tuple ys) := by
  rw [dataLt_tuple, dataLt_tuple]; exact dataLt_all_yes h e
theorem dl_no {x y : PyData} {xs ys : List PyData} (h : alike x y = true) (e : PyData.eqv x y = false) : dataLt (.tuple (x :: xs)) (.tuple (y :: ys)) = dataLt x y := by
  rw [dataLt_tuple]; exact dataLt_all_no h e
theorem dl_nil : dataLt (.tuple []) (.tuple []) = false := by rw [dataLt_tuple]; exact lex_irrefl _
theorem dl_nilc {y : PyData} {ys : List PyData} : dataLt (.tuple []) (.tuple (y :: ys)) = true := by
  rw [dataLt_tuple, toks_all_cons, keyToksAll, lex_diff (O := itemOrd) (by simp)]; rfl
theorem dl_cnil {y : PyData} {ys : List PyData} : dataLt (.tuple (y :: ys)) (.tuple []) = false := by
  rw [dataLt_tuple, toks_all_cons, keyToksAll, lex_diff (O := itemOrd) (by simp)]; rfl
theorem eqv_i {i j : Int} (h : i ≠ j) : PyData.eqv (.int i) (.int j) = false := by rw [PyData.eqv]; exact beq_false_of_ne h
theorem eqv_ii (i : Int) : PyData.eqv (.int i) (.int i) = true := by rw [PyData.eqv]; exact beq_self_eq_true _
theorem eqv_s {i j : Str} (h : i ≠ j) : PyData.eqv (.str i) (.str j) = false := by rw [PyData.eqv]; exact beq_false_of_ne h
theorem eqv_ss (i : Str) : PyData.eqv (.str i) (.str i) = true := by rw [PyData.eqv]; exact beq_self_eq_true _
theorem al_i (i j : Int) : alike (.int i) (.int j) = true := by rw [alike]
theorem al_s (i j : Str) : alike (.str i) (.str j) = true := by rw [alike]
theorem ltK_kind {a b c d : Int} {x y : Str} {ds es : List PyData} (h : a ≠ c) : dataLt (.tuple [.int a, .int b, .str x, .tuple ds]) (.tuple [.int c, .int d, .str y, .tuple es]) = decide (a < c) := by
  rw [dl_no (al_i _ _) (eqv_i h), dataLt_int]
theorem ltK_int (i j : Int) : ltK (.int i) (.int j) = decide (i < j) := by
  unfold ltK
  rw [rankD, rankD, dl_yes (al_i _ _) (eqv_ii _)]
  by_cases h : i = j
  · subst h
    rw [dl_yes (al_i _ _) (eqv_ii _), dl_yes (al_s _ _) (eqv_ss _), dl_yes (by rw [alike, alikeAll]) (by rw [PyData.eqv, PyData.eqvAll]), dl_nil]
    exact (decide_eq_false (by omega)).symm
  · rw [dl_no (al_i _ _) (eqv_i h), dataLt_int]
theorem ltK_str (i j : Str) : ltK (.str i) (.str j) = decide (i.cps.toList < j.cps.toList) := by
  unfold ltK
  rw [rankD, rankD, dl_yes (al_i _ _) (eqv_ii _), dl_yes (al_i _ _) (eqv_ii _)]
  by_cases h : i = j
  · subst h
    rw [dl_yes (al_s _ _) (eqv_ss _), dl_yes (by rw [alike, alikeAll]) (by rw [PyData.eqv, PyData.eqvAll]), dl_nil]
    exact (decide_eq_false (List.lt_irrefl _)).symm
  · rw [dl_no (al_s _ _) (eqv_s h), dataLt_str]
theorem ltK_tup (ds es : List PyData) : ltK (.tuple ds) (.tuple es) = ltKs ds es := by
  unfold ltK ltKs
  rw [rankD, rankD, dl_yes (al_i _ _) (eqv_ii _), dl_yes (al_i _ _) (eqv_ii _), dl_yes (al_s _ _) (eqv_ss _)]
  cases h : PyData.eqv (.tuple (rankAll ds)) (.tuple (rankAll es)) with
  | true =>
    have ha : alike (.tuple (rankAll ds)) (.tuple (rankAll es)) = true := by rw [alike]; exact rankAll_alike ds es
    rw [dl_yes ha h, dl_nil]
    have e := (toks_eqv _ _ ha).1 h
    unfold dataLt
    rw [e]; exact (lex_irrefl _).symm
  | false =>
    rw [dl_no (by rw [alike]; exact rankAll_alike ds es) h]
theorem ltK_is (i : Int) (z : Str) : ltK (.int i) (.str z) = true := by unfold ltK; rw [rankD, rankD, ltK_kind (by decide)]; rfl
theorem ltK_si (i : Int) (z : Str) : ltK (.str z) (.int i) = false := by unfold ltK; rw [rankD, rankD, ltK_kind (by decide)]; rfl
theorem ltK_it (i : Int) (z : List PyData) : ltK (.int i) (.tuple z) = true := by unfold ltK; rw [rankD, rankD, ltK_kind (by decide)]; rfl
theorem ltK_ti (i : Int) (z : List PyData) : ltK (.tuple z) (.int i) = false := by unfold ltK; rw [rankD, rankD, ltK_kind (by decide)]; rfl
theorem ltK_st (i : Str) (z : List PyData) : ltK (.str i) (.tuple z) = true := by unfold ltK; rw [rankD, rankD, ltK_kind (by decide)]; rfl
theorem ltK_ts (i : Str) (z : List PyData) : ltK (.tuple z) (.str i) = false := by unfold ltK; rw [rankD, rankD, ltK_kind (by decide)]; rfl
theorem ltKs_nil : ltKs [] [] = false := dl_nil
theorem ltKs_nilc {y : PyData} {ys : List PyData} : ltKs [] (y :: ys) = true := by unfold ltKs; rw [rankAll, rankAll]; exact dl_nilc
theorem ltKs_cnil {y : PyData} {ys : List PyData} : ltKs (y :: ys) [] = false := by unfold ltKs; rw [rankAll, rankAll]; exact dl_cnil
mutual
theorem rank_eqv : ∀ d : PyData, PyData.eqv (rankD d) (rankD d) = true
  | .tuple ds => by rw [rankD]; simp only [PyData.eqv, PyData.eqvAll, beq_self_eq_true, Bool.true_and, Bool.and_true]; exact rankAll_eqv ds
  | .int i => by rw [rankD]; simp [PyData.eqv, PyData.eqvAll]
  | .str i => by rw [rankD]; simp [PyData.eqv, PyData.eqvAll]
  | .none => by rw [rankD]; simp [PyData.eqv, PyData.eqvAll]
  | .bool _ => by rw [rankD]; simp [PyData.eqv, PyData.eqvAll]
  | .list _ => by rw [rankD]; simp [PyData.eqv, PyData.eqvAll]
  | .dict _ => by rw [rankD]; simp [PyData.eqv, PyData.eqvAll]
theorem rankAll_eqv : ∀ ds : List PyData, PyData.eqvAll (rankAll ds) (rankAll ds) = true
  | [] => rfl
  | d :: ds => by rw [rankAll, PyData.eqvAll, rank_eqv d, rankAll_eqv ds]; rfl
end
theorem eqv4 {a b c d : Int} {x y : Str} {ds es : List PyData} (h : PyData.eqv (.tuple [.int a, .int b, .str x, .tuple ds]) (.tuple [.int c, .int d, .str y, .tuple es]) = true) : a = c ∧ b = d ∧ x = y ∧ PyData.eqvAll ds es = true := by
  simp only [PyData.eqv, PyData.eqvAll, Bool.and_eq_true, Bool.and_true] at h
  exact ⟨eq_of_beq h.1, eq_of_beq h.2.1, eq_of_beq h.2.2.1, h.2.2.2⟩
mutual
theorem rank_inj : ∀ {r s : Nat} {d e : PyData}, isK r d → isK s e → PyData.eqv (rankD d) (rankD e) = true → d = e
  | r, s, d, e, h, k, q => by
    rcases isK_cases h with ⟨i, rfl, _⟩ | ⟨z, rfl, h⟩ | ⟨r1, ds, rfl, rfl, _, h2⟩
    · rcases isK_cases k with ⟨j, rfl, _⟩ | ⟨w, rfl, k⟩ | ⟨s1, es, rfl, rfl, _, k2⟩
      · rw [rankD, rankD] at q; rw [(eqv4 q).2.1]
      · rw [rankD, rankD] at q; exact absurd (eqv4 q).1 (by decide)
      · rw [rankD, rankD] at q; exact absurd (eqv4 q).1 (by decide)
    · rcases isK_cases k with ⟨j, rfl, _⟩ | ⟨w, rfl, k⟩ | ⟨s1, es, rfl, rfl, _, k2⟩
      · rw [rankD, rankD] at q; exact absurd (eqv4 q).1 (by decide)
      · rw [rankD, rankD] at q; rw [(eqv4 q).2.2.1]
      · rw [rankD, rankD] at q; exact absurd (eqv4 q).1 (by decide)
    · rcases isK_cases k with ⟨j, rfl, _⟩ | ⟨w, rfl, k⟩ | ⟨s1, es, rfl, rfl, _, k2⟩
      · rw [rankD, rankD] at q; exact absurd (eqv4 q).1 (by decide)
      · rw [rankD, rankD] at q; exact absurd (eqv4 q).1 (by decide)
      · rw [rankD, rankD] at q; rw [rankAll_inj h2 k2 (eqv4 q).2.2.2]
theorem rankAll_inj : ∀ {r s : Nat} {ds es : List PyData}, (∀ d ∈ ds, isK r d) → (∀ d ∈ es, isK s d) → PyData.eqvAll (rankAll ds) (rankAll es) = true → ds = es
  | r, s, [], [], _, _, _ => rfl
  | r, s, d :: ds, e :: es, h, k, q => by
    rw [rankAll, rankAll, PyData.eqvAll, Bool.and_eq_true] at q
    rw [rank_inj (h d (List.mem_cons_self ..)) (k e (List.mem_cons_self ..)) q.1, rankAll_inj (fun e he => h e (List.mem_cons_of_mem _ he)) (fun e he => k e (List.mem_cons_of_mem _ he)) q.2]
  | r, s, [], e :: es, _, _, q => by rw [rankAll, rankAll, PyData.eqvAll] at q; cases q
  | r, s, d :: ds, [], _, _, q => by rw [rankAll, rankAll, PyData.eqvAll] at q; cases q
end
theorem ltKs_same (d : PyData) (ds es : List PyData) : ltKs (d :: ds) (d :: es) = ltKs ds es := by
  unfold ltKs; rw [rankAll, rankAll, dl_yes (rank_alike d d) (rank_eqv d)]
theorem ltKs_diff {r s : Nat} {d e : PyData} (hd : isK r d) (he : isK s e) (hn : d ≠ e) (ds es : List PyData) : ltKs (d :: ds) (e :: es) = ltK d e := by
  unfold ltKs; rw [rankAll, rankAll, dl_no (rank_alike d e) ?_]
  · rfl
  · cases h : PyData.eqv (rankD d) (rankD e) with
    | false => rfl
    | true => exact absurd (rank_inj hd he h) hn
theorem ltK_irrefl (d : PyData) : ltK d d = false := lex_irrefl _
theorem ltK_trans {a b c : PyData} : ltK a b = true → ltK b c = true → ltK a c = true := lex_trans _ _ _
theorem ltK_neg {a b c : PyData} : ltK a c = true → ltK a b = true ∨ ltK b c = true := lex_negTrans _ _ _
theorem ltK_tot {r s : Nat} {a b : PyData} (ha : isK r a) (hb : isK s b) (h1 : ltK a b = false) (h2 : ltK b a = false) : a = b := by
  have e : keyToks (rankD a) = keyToks (rankD b) := lex_total _ _ h1 h2
  refine rank_inj ha hb ?_
  cases h : PyData.eqv (rankD a) (rankD b) with
  | true => rfl
  | false =>
    have q := (toks_eqv _ _ (rank_alike a b)).2 h [.inl 0] [.inl 1]
    rw [e, lex_pre, lex_irrefl, lex_diff (O := itemOrd) (by simp)] at q
    exact absurd q (by decide)
theorem ltK_asymm {a b : PyData} (h : ltK a b = true) : ltK b a = false := by
  cases q : ltK b a with
  | false => rfl
  | true => have := ltK_trans h q; rw [ltK_irrefl] at this; cases this
end

/-! ### sign by sign, thing by thing -/
theorem ltN_at : ∀ (i : Nat) {a b : List Nat} {x y : Nat}, a.take i = b.take i → a[i]? = some x → b[i]? = some y → x ≠ y → decide (a < b) = decide ([x] < [y])
  | 0, [], _, _, _, _, h, _, _ => by simp at h
  | 0, _ :: _, [], _, _, _, _, h, _ => by simp at h
  | 0, c :: a, d :: b, x, y, _, hx, hy, hn => by
    simp at hx hy
    subst hx; subst hy
    refine decide_eq_decide.mpr ?_
    rw [List.cons_lt_cons_iff, List.cons_lt_cons_iff]
    constructor
    · rintro (h | ⟨h, _⟩)
      · exact .inl h
      · exact absurd h hn
    · rintro (h | ⟨h, _⟩)
      · exact .inl h
      · exact absurd h hn
  | i + 1, [], _, _, _, _, h, _, _ => by simp at h
  | i + 1, _ :: _, [], _, _, _, _, h, _ => by simp at h
  | i + 1, c :: a, d :: b, x, y, ht, hx, hy, hn => by
    simp at ht hx hy
    obtain ⟨rfl, ht⟩ := ht
    rw [← ltN_at i ht hx hy hn]
    refine decide_eq_decide.mpr ?_
    rw [List.cons_lt_cons_iff]
    constructor
    · rintro (h | ⟨_, h⟩)
      · exact absurd h (Nat.lt_irrefl _)
      · exact h
    · exact fun h => .inr ⟨rfl, h⟩
theorem ltN_end : ∀ {a b : List Nat}, a.take (min a.length b.length) = b.take (min a.length b.length) → decide (a < b) = decide (a.length < b.length)
  | [], [], _ => by simp
  | [], _ :: _, _ => by simp
  | _ :: _, [], _ => by simp
  | c :: a, d :: b, h => by
    have e : min (c :: a).length (d :: b).length = min a.length b.length + 1 := by simp only [List.length_cons]; omega
    rw [e] at h
    simp only [List.take_succ_cons, List.cons.injEq] at h
    obtain ⟨rfl, h⟩ := h
    have q := ltN_end h
    have q2 : (a < b) ↔ a.length < b.length := decide_eq_decide.mp q
    refine decide_eq_decide.mpr ?_
    rw [List.cons_lt_cons_iff]
    constructor
    · rintro (h | ⟨_, h⟩)
      · exact absurd h (Nat.lt_irrefl _)
      · simp only [List.length_cons]; exact Nat.succ_lt_succ (q2.mp h)
    · intro h
      simp only [List.length_cons] at h
      exact .inr ⟨rfl, q2.mpr (Nat.lt_of_succ_lt_succ h)⟩
theorem ltKs_at {r s : Nat} : ∀ (i : Nat) {a b : List PyData} {x y : PyData}, (∀ d ∈ a, isK r d) → (∀ d ∈ b, isK s d) → a.take i = b.take i → a[i]? = some x → b[i]? = some y → x ≠ y → ltKs a b = ltK x y
  | 0, [], _, _, _, _, _, _, h, _, _ => by simp at h
  | 0, _ :: _, [], _, _, _, _, _, _, h, _ => by simp at h
  | 0, c :: a, d :: b, x, y, ha, hb, _, hx, hy, hn => by
    simp at hx hy
    subst hx; subst hy
    exact ltKs_diff (ha _ (List.mem_cons_self ..)) (hb _ (List.mem_cons_self ..)) hn _ _
  | i + 1, [], _, _, _, _, _, _, h, _, _ => by simp at h
  | i + 1, _ :: _, [], _, _, _, _, _, _, h, _ => by simp at h
  | i + 1, c :: a, d :: b, x, y, ha, hb, ht, hx, hy, hn => by
    simp at ht hx hy
    obtain ⟨rfl, ht⟩ := ht
    rw [ltKs_same]
    exact ltKs_at i (fun e he => ha e (List.mem_cons_of_mem _ he)) (fun e he => hb e (List.mem_cons_of_mem _ he)) ht hx hy hn
theorem ltKs_end : ∀ {a b : List PyData}, a.take (min a.length b.length) = b.take (min a.length b.length) → ltKs a b = decide (a.length < b.length)
  | [], [], _ => by rw [ltKs_nil]; rfl
  | [], _ :: _, _ => by rw [ltKs_nilc]; simp
  | _ :: _, [], _ => by rw [ltKs_cnil]; simp
  | c :: a, d :: b, h => by
    have e : min (c :: a).length (d :: b).length = min a.length b.length + 1 := by simp only [List.length_cons]; omega
    rw [e] at h
    simp only [List.take_succ_cons, List.cons.injEq] at h
    obtain ⟨rfl, h⟩ := h
    rw [ltKs_same, ltKs_end h]
    exact decide_eq_decide.mpr (by simp only [List.length_cons]; omega)
theorem take_succ_eq {α : Type} {a b : List α} {i : Nat} {x : α} (h : a.take i = b.take i) (hx : a[i]? = some x) (hy : b[i]? = some x) : a.take (i + 1) = b.take (i + 1) := by
  rw [List.take_add_one, List.take_add_one, h, hx, hy]
theorem one_ne {x y : Nat} : (⟨#[x]⟩ : Str) = ⟨#[y]⟩ ↔ x = y := by
  constructor
  · intro h
    injection h with h
    simpa using h
  · rintro rfl; rfl
/-- the text of a small number -/
theorem txt_num {i : Int} (h0 : 0 ≤ i) (h1 : i < 10 ^ 9) : txtOk (toString i : String) := by
  refine ⟨?_, fun c hc => ?_⟩
  · have := int_text_length_le10 (a := i) (k := 9) (by decide) (by omega)
    have e : ((toString i : String) : Str).length = (toString i).length := by
      exact PySem.ofString_length _
    rw [e]; omega
  · by_cases hk : c ≠ 45 ∧ (c < 48 ∨ 57 < c)
    · exact absurd hc (int_text_free' c hk i)
    · omega
end Tw

/-! TwD: things of any kind; is_key's answer; max with a default; walks over a text. -/
namespace Tw
open PySem PySem.Spec PyProof.Rows L2
mutual
/-- the value v is the thing d; what lies in its lists and dicts is left open; none of these is in S -/
inductive TgS (S : Addr → Prop) (H : Hp) : V → PyData → Prop
  | non : TgS S H .non .none
  | bl (b : Bool) : TgS S H (.bl b) (.bool b)
  | int (i : Int) : TgS S H (.int i) (.int i)
  | str (x : Str) : TgS S H (.str x) (.str x)
  | lst {a : Addr} {xs : List V} (h : H a = some (.lst xs)) (n : ¬ S a) : TgS S H (.ref a) (.list [])
  | dct {a : Addr} {kvs : List (Key × V)} (h : H a = some (.dK kvs)) (n : ¬ S a) : TgS S H (.ref a) (.dict [])
  | tup {a : Addr} {xs : List V} {ds : List PyData} (h : H a = some (.tup xs)) (hs : TgAllS S H xs ds) : TgS S H (.ref a) (.tuple ds)
inductive TgAllS (S : Addr → Prop) (H : Hp) : List V → List PyData → Prop
  | nil : TgAllS S H [] []
  | cons {v : V} {vs : List V} {d : PyData} {ds : List PyData} (h : TgS S H v d) (hs : TgAllS S H vs ds) : TgAllS S H (v :: vs) (d :: ds)
end
abbrev Tg := TgS Non
abbrev TgAll := TgAllS Non
mutual
theorem Dt.tg {S : Addr → Prop} {H : Hp} : ∀ (d : PyData) (v : V), Dt H v d → TgS S H v d
  | .none, _, h => by cases h; exact .non
  | .bool b, _, h => by cases h; exact .bl b
  | .int i, _, h => by cases h; exact .int i
  | .str x, _, h => by cases h; exact .str x
  | .list _, _, h => by cases h
  | .dict _, _, h => by cases h
  | .tuple ds, _, h => by
    cases h with
    | tup e hs => exact .tup e (DtAll.tg ds _ hs)
theorem DtAll.tg {S : Addr → Prop} {H : Hp} : ∀ (ds : List PyData) (vs : List V), DtAll H vs ds → TgAllS S H vs ds
  | [], _, h => by cases h; exact .nil
  | d :: ds, _, h => by
    cases h with
    | cons h1 h2 => exact .cons (Dt.tg d _ h1) (DtAll.tg ds _ h2)
end
mutual
theorem TgS.mono {S : Addr → Prop} {H H1 : Hp} (f : Fr S H H1) : ∀ (d : PyData) (v : V), TgS S H v d → TgS S H1 v d
  | .none, _, h => by cases h; exact .non
  | .bool b, _, h => by cases h; exact .bl b
  | .int i, _, h => by cases h; exact .int i
  | .str x, _, h => by cases h; exact .str x
  | .list _, _, h => by
    cases h with
    | lst e n => exact .lst (f.keep _ _ e n) n
  | .dict _, _, h => by
    cases h with
    | dct e n => exact .dct (f.keep _ _ e n) n
  | .tuple ds, _, h => by
    cases h with
    | tup e hs => exact .tup (f.tup _ _ e) (TgAllS.mono f ds _ hs)
theorem TgAllS.mono {S : Addr → Prop} {H H1 : Hp} (f : Fr S H H1) : ∀ (ds : List PyData) (vs : List V), TgAllS S H vs ds → TgAllS S H1 vs ds
  | [], _, h => by cases h; exact .nil
  | d :: ds, _, h => by
    cases h with
    | cons h1 h2 => exact .cons (TgS.mono f d _ h1) (TgAllS.mono f ds _ h2)
end
mutual
theorem TgS.weak {S : Addr → Prop} {H : Hp} : ∀ (d : PyData) (v : V), TgS S H v d → Tg H v d
  | .none, _, h => by cases h; exact .non
  | .bool b, _, h => by cases h; exact .bl b
  | .int i, _, h => by cases h; exact .int i
  | .str x, _, h => by cases h; exact .str x
  | .list _, _, h => by
    cases h with
    | lst e n => exact .lst e id
  | .dict _, _, h => by
    cases h with
    | dct e n => exact .dct e id
  | .tuple ds, _, h => by
    cases h with
    | tup e hs => exact .tup e (TgAllS.weak ds _ hs)
theorem TgAllS.weak {S : Addr → Prop} {H : Hp} : ∀ (ds : List PyData) (vs : List V), TgAllS S H vs ds → TgAll H vs ds
  | [], _, h => by cases h; exact .nil
  | d :: ds, _, h => by
    cases h with
    | cons h1 h2 => exact .cons (TgS.weak d _ h1) (TgAllS.weak ds _ h2)
end
theorem Tg.mono {H H1 : Hp} (f : Fr Non H H1) (d : PyData) (v : V) (h : Tg H v d) : Tg H1 v d := TgS.mono f d v h
theorem TgAll.mono {H H1 : Hp} (f : Fr Non H H1) (d : List PyData) (v : List V) (h : TgAll H v d) : TgAll H1 v d := TgAllS.mono f d v h
theorem TgS.new {S : Addr → Prop} {H : Hp} {p : Addr} {o : HO} {v : V} {d : PyData} (h : TgS S H v d) (n : Fresh H p) : TgS S (upd H p o) v d := TgS.mono (Fr.new (Fr.refl H) n) d v h
theorem TgAllS.new {S : Addr → Prop} {H : Hp} {p : Addr} {o : HO} {v : List V} {d : List PyData} (h : TgAllS S H v d) (n : Fresh H p) : TgAllS S (upd H p o) v d := TgAllS.mono (Fr.new (Fr.refl H) n) d v h
theorem TgAllS.length {S : Addr → Prop} {H : Hp} : ∀ {vs : List V} {ds : List PyData}, TgAllS S H vs ds → vs.length = ds.length
  | _, [], h => by cases h; rfl
  | _, d :: ds, h => by
    cases h with
    | cons h1 h2 => rw [List.length_cons, List.length_cons, TgAllS.length h2]
theorem TgAllS.get {S : Addr → Prop} {H : Hp} : ∀ {vs : List V} {ds : List PyData} {i : Nat} {v : V}, TgAllS S H vs ds → vs[i]? = some v → ∃ d, ds[i]? = some d ∧ TgS S H v d
  | _, [], _, _, h, e => by cases h; simp at e
  | _, d :: ds, 0, _, h, e => by
    cases h with
    | cons h1 h2 => simp at e; subst e; exact ⟨d, rfl, h1⟩
  | _, d :: ds, i + 1, _, h, e => by
    cases h with
    | cons h1 h2 =>
      obtain ⟨d', q1, q2⟩ := TgAllS.get (i := i) h2 (by simpa using e)
      exact ⟨d', by simpa using q1, q2⟩
theorem TgAllS.app {S : Addr → Prop} {H : Hp} : ∀ {vs ws : List V} {ds es : List PyData}, TgAllS S H vs ds → TgAllS S H ws es → TgAllS S H (vs ++ ws) (ds ++ es)
  | _, _, [], _, h, k => by cases h; exact k
  | _, _, d :: ds, _, h, k => by
    cases h with
    | cons h1 h2 => exact .cons h1 (TgAllS.app h2 k)
theorem TgAllS.take {S : Addr → Prop} {H : Hp} : ∀ {vs : List V} {ds : List PyData} (n : Nat), TgAllS S H vs ds → TgAllS S H (vs.take n) (ds.take n)
  | _, _, 0, _ => .nil
  | _, [], _ + 1, h => by cases h; exact .nil
  | _, d :: ds, n + 1, h => by
    cases h with
    | cons h1 h2 => exact .cons h1 (TgAllS.take n h2)
theorem TgAllS.set {S : Addr → Prop} {H : Hp} {v : V} {d : PyData} (k : TgS S H v d) : ∀ {vs : List V} {ds : List PyData} (n : Nat), TgAllS S H vs ds → TgAllS S H (vs.set n v) (ds.set n d)
  | _, [], _, h => by cases h; exact .nil
  | _, e :: ds, 0, h => by
    cases h with
    | cons h1 h2 => exact .cons k h2
  | _, e :: ds, n + 1, h => by
    cases h with
    | cons h1 h2 => exact .cons h1 (TgAllS.set k n h2)

theorem keepU {H : Hp} {p q : Addr} {o u : HO} (h : H p = some o) (n : Fresh H q) : upd H q u p = some o := (upd_ne (ne_fr h n)).trans h
theorem Well.new {H : Hp} {a q : Addr} {u : HO} (h : Well H a) (n : Fresh H q) : Well (upd H q u) a := h.fr (Fr.new (S := Non) (Fr.refl _) n) id
/-- what stands already -/
abbrev Old (H : Hp) : Addr → Prop := fun b => ¬ Fresh H b
theorem old_of {H : Hp} {p : Addr} {o : HO} (h : H p = some o) : Old H p := fun n => by
  have n0 : H p = none := n
  rw [n0] at h; cases h
theorem Well.old {H : Hp} {a : Addr} (h : Well H a) : ∀ b, One a b → Old H b := fun b e => by
  subst e
  obtain ⟨xs, q⟩ := h.some
  exact old_of q
mutual
theorem TgS.less {S T : Addr → Prop} {H : Hp} (f : ∀ b, S b → T b) : ∀ (d : PyData) (v : V), TgS T H v d → TgS S H v d
  | .none, _, h => by cases h; exact .non
  | .bool b, _, h => by cases h; exact .bl b
  | .int i, _, h => by cases h; exact .int i
  | .str x, _, h => by cases h; exact .str x
  | .list _, _, h => by
    cases h with
    | lst e n => exact .lst e fun s => n (f _ s)
  | .dict _, _, h => by
    cases h with
    | dct e n => exact .dct e fun s => n (f _ s)
  | .tuple ds, _, h => by
    cases h with
    | tup e hs => exact .tup e (TgAllS.less f ds _ hs)
theorem TgAllS.less {S T : Addr → Prop} {H : Hp} (f : ∀ b, S b → T b) : ∀ (ds : List PyData) (vs : List V), TgAllS T H vs ds → TgAllS S H vs ds
  | [], _, h => by cases h; exact .nil
  | d :: ds, _, h => by
    cases h with
    | cons h1 h2 => exact .cons (TgS.less f d _ h1) (TgAllS.less f ds _ h2)
end
/-! ### what is_key tells -/
def bnd : Int := 10 ^ 60
def numB (i : Int) : Bool := decide (-bnd < i) && decide (i < bnd)
def signB (c : Nat) : Bool := decide (32 ≤ c) && decide (c ≤ 126)
def txtB (z : Str) : Bool := decide (z.length ≤ 40) && z.cps.toList.all signB
def keyB : Nat → PyData → Bool
  | _, .int i => numB i
  | _, .str z => txtB z
  | r + 1, .tuple ds => decide (ds.length ≤ 4) && ds.all (keyB r)
  | _, _ => false
theorem numB_iff {i : Int} : numB i = true ↔ numOk i := by unfold numB numOk bnd; simp
theorem txtB_iff {z : Str} : txtB z = true ↔ txtOk z := by
  unfold txtB txtOk
  rw [Bool.and_eq_true, decide_eq_true_eq, List.all_eq_true]
  refine and_congr_right fun _ => forall_congr' fun c => forall_congr' fun _ => ?_
  unfold signB
  rw [Bool.and_eq_true, decide_eq_true_eq, decide_eq_true_eq]
theorem keyB_int {r : Nat} {i : Int} : keyB r (.int i) = numB i := by cases r <;> rfl
theorem keyB_str {r : Nat} {z : Str} : keyB r (.str z) = txtB z := by cases r <;> rfl
theorem keyB_iff : ∀ {r : Nat} {d : PyData}, keyB r d = true ↔ isK r d
  | r, .int i => by rw [keyB_int, isK_int, numB_iff]
  | r, .str z => by rw [keyB_str, isK_str, txtB_iff]
  | 0, .tuple ds => by simp [keyB, isK]
  | r + 1, .tuple ds => by
    rw [isK_tup]
    show (decide (ds.length ≤ 4) && ds.all (keyB r)) = true ↔ _
    rw [Bool.and_eq_true, decide_eq_true_eq, List.all_eq_true]
    exact ⟨fun h => ⟨h.1, fun d hd => keyB_iff.mp (h.2 d hd)⟩, fun h => ⟨h.1, fun d hd => keyB_iff.mpr (h.2 d hd)⟩⟩
  | r, .none => by cases r <;> simp [keyB, isK]
  | r, .bool b => by cases r <;> simp [keyB, isK]
  | r, .list b => by cases r <;> simp [keyB, isK]
  | r, .dict b => by cases r <;> simp [keyB, isK]
theorem keyB_of {r : Nat} {d : PyData} (h : isK r d) : keyB r d = true := keyB_iff.mpr h

theorem one_lt {c d : Nat} : ([c] < [d]) ↔ c < d := by
  rw [List.cons_lt_cons_iff]
  exact ⟨fun h => h.elim id fun h => absurd h.2 (List.lt_irrefl _), .inl⟩
theorem blank_cps : (Str.ofString " ").cps.toList = [32] := by decide +kernel
theorem tilde_cps : (Str.ofString "~").cps.toList = [126] := by decide +kernel
theorem sg_lo (c : Nat) : (!decide ((⟨#[c]⟩ : Str).cps.toList < (Str.ofString " ").cps.toList)) = decide (32 ≤ c) := by
  rw [blank_cps, Bool.eq_iff_iff, Bool.not_eq_true', decide_eq_false_iff_not, decide_eq_true_eq]
  show ¬ ([c] < [32]) ↔ _
  rw [one_lt]; omega
theorem sg_hi (c : Nat) : (!decide ((Str.ofString "~").cps.toList < (⟨#[c]⟩ : Str).cps.toList)) = decide (c ≤ 126) := by
  rw [tilde_cps, Bool.eq_iff_iff, Bool.not_eq_true', decide_eq_false_iff_not, decide_eq_true_eq]
  show ¬ ([126] < [c]) ↔ _
  rw [one_lt]; omega
theorem all_map {α : Type} (f : α → Bool) (l : List α) : (l.map f).all id = l.all f := by rw [List.all_map]; rfl
mutual
/-- texts within are of a size that the machine holds -/
def txtSmall : PyData → Prop
  | .str z => z.length ≤ 100000 ∧ PyData.strOk z = true
  | .tuple ds => txtSmallAll ds
  | .none => True
  | .bool _ => True
  | .int _ => True
  | .list _ => True
  | .dict _ => True
def txtSmallAll : List PyData → Prop
  | [] => True
  | d :: ds => txtSmall d ∧ txtSmallAll ds
end
theorem txtSmallAll_mem : ∀ {ds : List PyData}, txtSmallAll ds → ∀ d ∈ ds, txtSmall d
  | d :: ds, h, e, he => by
    rcases List.mem_cons.mp he with rfl | he
    · exact h.1
    · exact txtSmallAll_mem h.2 e he
theorem txtSmallAll_of : ∀ {ds : List PyData}, (∀ d ∈ ds, txtSmall d) → txtSmallAll ds
  | [], _ => trivial
  | d :: ds, h => ⟨h d (List.mem_cons_self ..), txtSmallAll_of fun e he => h e (List.mem_cons_of_mem _ he)⟩
theorem isK_small : ∀ {r : Nat} {d : PyData}, isK r d → txtSmall d
  | r, d, h => by
    rcases isK_cases h with ⟨i, rfl, _⟩ | ⟨z, rfl, h3⟩ | ⟨r1, ds, rfl, rfl, _, h2⟩
    · trivial
    · exact ⟨Nat.le_trans h3.1 (by decide), txt_strOk h3.2⟩
    · exact txtSmallAll_of fun e he => isK_small (h2 e he)
/-! ### a depth as a number -/
def deepK : PyData → Int := fun d => (d.depth : Int)

/-! ### a walk over a text, in a comprehension -/
section
variable {K : PySem.W.Frag} {σ : L2.St} {H : Hp} {tt : TT} {te : TE} {Q : VK} {x y v : V} {D : Ends}
theorem x_iStr {R : It → Hp → Prop} (q : te σ H fun x H1 => ∃ z, x = .str z ∧ R (Its z) H1) : iStr te σ H R := q
theorem x_isStr {z : Str} {R : Str → Prop} (q : R z) : ∃ w, V.str z = .str w ∧ R w := ⟨z, rfl, q⟩
theorem x_lcS {z : Str} {g : TG} {vs : List Nat} {DD : Addr} {Qd : Hp → Prop} (Pv : Nat → Hp → Prop) (h0 : Pv 0 (upd H DD (.lst [])))
    (hs : ∀ i c H, z.cps.toList[i]? = some c → Pv i H → LcT g tt te vs σ DD (.str ⟨#[c]⟩) (Pv (i + 1)) H) (hd : ∀ H, Pv z.cps.toList.length H → Qd H) : LcG (Its z) g tt te vs σ H DD Qd := by
  refine ⟨fun i m H => m = z.cps.size - i ∧ i ≤ z.cps.size ∧ Pv i H, ⟨z.cps.size, by simp, Nat.zero_le _, h0⟩, ?_⟩
  rintro i m H ⟨rfl, hi, p⟩
  by_cases hlt : i < z.cps.size
  · refine .inr ⟨hlt, Pv (i + 1), fun H' p' => ⟨z.cps.size - (i + 1), by omega, rfl, hlt, p'⟩, fun x H' yy => ?_⟩
    obtain ⟨rfl, c, hc, rfl⟩ := yy
    exact hs i c _ (by rw [Array.getElem?_toList]; exact hc) p
  · have e : i = z.cps.toList.length := by rw [Array.length_toList]; omega
    refine .inl ⟨by show z.cps.size ≤ i; omega, hd H (e ▸ p)⟩
theorem x_forS {z : Str} {g : TG} {tb : TS} (Pv : Nat → L2.St → Hp → Prop) (h0 : Pv 0 σ H)
    (hs : ∀ i c σ H, z.cps.toList[i]? = some c → Pv i σ H → g (.str ⟨#[c]⟩) σ H fun σ2 H2 => tb { D with nx := Pv (i + 1), ct := Pv (i + 1), bk := D.nx } σ2 H2) (hd : ∀ σ H, Pv z.cps.toList.length σ H → D.nx σ H) : ForG (Its z) g tb D σ H := by
  refine ⟨fun i m σ H => m = z.cps.size - i ∧ i ≤ z.cps.size ∧ Pv i σ H, ⟨z.cps.size, by simp, Nat.zero_le _, h0⟩, ?_⟩
  rintro i m σ H ⟨rfl, hi, p⟩
  by_cases hlt : i < z.cps.size
  · refine .inr ⟨hlt, Pv (i + 1), fun σ' H' p' => ⟨z.cps.size - (i + 1), by omega, rfl, hlt, p'⟩, fun x H' yy => ?_⟩
    obtain ⟨rfl, c, hc, rfl⟩ := yy
    exact hs i c σ _ (by rw [Array.getElem?_toList]; exact hc) p
  · have e : i = z.cps.toList.length := by rw [Array.length_toList]; omega
    refine .inl ⟨by show z.cps.size ≤ i; omega, hd σ H (e ▸ p)⟩
theorem x_isB {a b : Bool} (q : Q (.bl (decide (a = b))) H) : rIsB (.bl a) (.bl b) H Q := ⟨a, b, rfl, rfl, q⟩
theorem x_notB {a b : Bool} (q : Q (.bl (!decide (a = b))) H) : rNotB (.bl a) (.bl b) H Q := ⟨a, b, rfl, rfl, q⟩
end

/-! ### max(numbers, default=number) -/
def rMaxDef (K : PySem.W.Frag) : List V → List V → Hp → VK → Prop := fun vs zs H Q => ∃ (a : Addr) (ns : List Int) (d : Int), vs = [.ref a] ∧ zs = [.int d] ∧ SqL K H a (ns.map V.int) ∧
  (ns = [] → Q (.int d) H) ∧ (∀ m : Int, m ∈ ns → (∀ j ∈ ns, j ≤ m) → Q (.int m) H)
theorem maxOf_mem (x : Int) : ∀ xs : List Int, PySem.W.maxOf x xs ∈ x :: xs ∧ ∀ j ∈ x :: xs, j ≤ PySem.W.maxOf x xs := fun xs => by
  induction xs generalizing x with
  | nil => exact ⟨List.mem_cons_self .., fun j hj => by rw [List.mem_singleton.mp hj]; exact Int.le_refl _⟩
  | cons y ys ih =>
    have e : PySem.W.maxOf x (y :: ys) = PySem.W.maxOf (if decide (x < y) = true then y else x) ys := rfl
    rw [e]
    obtain ⟨h1, h2⟩ := ih (if decide (x < y) = true then y else x)
    have h3 := h2 _ (List.mem_cons_self ..)
    constructor
    · rcases List.mem_cons.mp h1 with h | h
      · rw [h]; split <;> simp
      · exact List.mem_cons_of_mem _ (List.mem_cons_of_mem _ h)
    · intro j hj
      rcases List.mem_cons.mp hj with rfl | hj
      · refine Int.le_trans ?_ h3
        split
        · exact Int.le_of_lt (of_decide_eq_true (by assumption))
        · exact Int.le_refl _
      · rcases List.mem_cons.mp hj with rfl | hj
        · refine Int.le_trans ?_ h3
          split
          · exact Int.le_refl _
          · rename_i h; have := of_decide_eq_false (Bool.eq_false_iff.mpr h); omega
        · exact h2 j (List.mem_cons_of_mem _ hj)
theorem dpAll_ints {K : PySem.W.Frag} {H : Hp} : ∀ ns : List Int, DpAll K H (ns.map V.int) (ns.map PySem.W.Datum.toD)
  | [] => .nil
  | n :: ns => .cons (.int n) (dpAll_ints ns)
theorem cr_maxDef {X : Cx} (hc : X.calm = true) (hu : X.A.units + 64 < cLine) : CallRK X (.builtin "max") [Str.ofString "default"] (rMaxDef X.K) := by
  intro pins s σ H vs zs us ws Q I r rz h
  obtain ⟨a, ns, d, rfl, rfl, hs, q0, q1⟩ := h
  obtain rfl := Vals.ref1 r
  obtain ⟨w1, rfl, e1⟩ := vals1 rz
  obtain ⟨t, rfl⟩ := e1
  obtain ⟨its, rv, hl, _⟩ := I.list hs
  obtain ⟨as, hR⟩ := Dp.readsAll I _ _ _ (dpAll_ints (K := X.K) (H := H) ns) rv
  refine PySem.W.max_list_datum_default (α := Int) (xs := ns) (I.ok.hd hc) hl.isList ⟨as, hR⟩ ?_ (fun e h' tk k => ?_) fun y ys i v h' tk e hi hv k => ?_
  · show X.A.units + 1 + 0 < cLine
    omega
  · exact ⟨.int d, H, I.kept k, ⟨_, rfl⟩, q0 e⟩
  · obtain ⟨bs, hv⟩ := hv
    obtain ⟨m1, m2⟩ := maxOf_mem y ys
    generalize PySem.W.maxOf y ys = m at hv m1 m2
    have e2 : ∃ t, v = .int m t := by
      cases hv with
      | int => exact ⟨_, rfl⟩
    obtain ⟨t2, rfl⟩ := e2
    exact ⟨.int m, H, I.kept k, ⟨_, rfl⟩, q1 m (e ▸ m1) (e ▸ m2)⟩
section
variable {K : PySem.W.Frag} {σ : L2.St} {H : Hp} {Q : VK}
theorem x_ckw {r : List V → List V → Hp → VK → Prop} {t tk : TA} (q : t σ H fun vs H1 => tk σ H1 fun zs H2 => r vs zs H2 Q) : tCKw r t tk σ H Q := q
theorem x_maxDef {a : Addr} {ns : List Int} {d : Int} (h : SqL K H a (ns.map V.int)) (q0 : ns = [] → Q (.int d) H) (q1 : ∀ m : Int, m ∈ ns → (∀ j ∈ ns, j ≤ m) → Q (.int m) H) : rMaxDef K [.ref a] [.int d] H Q := ⟨a, ns, d, rfl, rfl, h, q0, q1⟩
def rInsert : V → List V → Hp → VK → Prop := fun x vs H Q => ∃ (l : Addr) (xs : List V) (i : Int) (y : V), x = .ref l ∧ vs = [.int i, y] ∧ H l = some (.lst xs) ∧ xs.length < sizeLine ∧ 0 ≤ i ∧ i < 2 ^ 63 ∧
    Q .non (upd H l (.lst (xs.take i.toNat ++ [y] ++ xs.drop i.toNat)))
theorem m_insert {X : Cx} : MtR X "list.insert" rInsert := mt_insert
theorem x_insert {l : Addr} {xs : List V} {i : Int} {y : V} (h : H l = some (.lst xs)) (hs : xs.length ≤ 100000) (hi : 0 ≤ i ∧ i < 2 ^ 63) (q : Q .non (upd H l (.lst (xs.take i.toNat ++ [y] ++ xs.drop i.toNat)))) :
    rInsert (.ref l) [.int i, y] H Q := ⟨l, xs, i, y, rfl, rfl, h, Nat.lt_of_le_of_lt hs (by decide), hi.1, hi.2, q⟩
end
theorem pickD {H : Hp} {xs : List V} {ds : List PyData} {r : Int} (h : DtAll H xs ds) (h0 : 0 ≤ r) (h1 : r < xs.length) : ∃ v d, atI xs r = some v ∧ Dt H v d ∧ d ∈ ds := by
  obtain ⟨v, e1, e2⟩ := atI_ex (xs := xs) h0 h1
  obtain ⟨d, d1, d2⟩ := h.get e2
  exact ⟨v, d, e1, d2, List.mem_of_getElem? d1⟩
/-- the first r items -/
theorem cut_to {xs : List V} {r : Int} (h0 : 0 ≤ r) : cutV xs none (some r) = xs.take r.toNat := by
  have e : HT.sIx xs.length xs.length (some r) = min r.toNat xs.length := by
    show (if r < 0 then _ else min r.toNat xs.length) = _
    rw [if_neg (by omega)]
  rw [cutV_eq, HT.sIx_none, e, List.drop_zero, Nat.sub_zero]
  by_cases h : r.toNat ≤ xs.length
  · rw [Nat.min_eq_left h]
  · rw [Nat.min_eq_right (by omega), List.take_of_length_le (Nat.le_refl _), List.take_of_length_le (by omega)]
mutual
theorem TgS.dt {S : Addr → Prop} {H : Hp} : ∀ (r : Nat) (d : PyData) (v : V), isK r d → TgS S H v d → Dt H v d
  | r, .int i, _, _, h => by cases h; exact .int i
  | r, .str i, _, _, h => by cases h; exact .str i
  | r + 1, .tuple ds, _, k, h => by
    cases h with
    | tup e hs => exact .tup e (TgAllS.dt r ds _ k.2 hs)
  | 0, .tuple ds, _, k, _ => k.elim
  | r, .none, _, k, _ => by cases r <;> cases k
  | r, .bool _, _, k, _ => by cases r <;> cases k
  | r, .list _, _, k, _ => by cases r <;> cases k
  | r, .dict _, _, k, _ => by cases r <;> cases k
theorem TgAllS.dt {S : Addr → Prop} {H : Hp} : ∀ (r : Nat) (ds : List PyData) (vs : List V), (∀ d ∈ ds, isK r d) → TgAllS S H vs ds → DtAll H vs ds
  | r, [], _, _, h => by cases h; exact .nil
  | r, d :: ds, _, k, h => by
    cases h with
    | cons h1 h2 => exact .cons (TgS.dt r d _ (k d (List.mem_cons_self ..)) h1) (TgAllS.dt r ds _ (fun e he => k e (List.mem_cons_of_mem _ he)) h2)
end
theorem pickT {S : Addr → Prop} {H : Hp} {xs : List V} {ds : List PyData} {r : Int} (h : TgAllS S H xs ds) (h0 : 0 ≤ r) (h1 : r < xs.length) : ∃ v d, atI xs r = some v ∧ TgS S H v d ∧ d ∈ ds := by
  obtain ⟨v, e1, e2⟩ := atI_ex (xs := xs) h0 h1
  obtain ⟨d, d1, d2⟩ := h.get e2
  exact ⟨v, d, e1, d2, List.mem_of_getElem? d1⟩
/-! ### texts told again and again; parts of texts -/
def rMulS : R2 := fun x y H Q => ∃ (z : Str) (n : Int), x = .str z ∧ y = .int n ∧ z.length ≤ 100 ∧ -(2 ^ 63) ≤ n ∧ n ≤ 1000 ∧ ∀ w : Str, (w.length : Int) = z.length * (if n < 0 then 0 else n) → (∀ c ∈ w.cps.toList, c ∈ z.cps.toList) → Q (.str w) H
theorem reps_mem (x : Array Nat) : ∀ (k : Nat) (acc : Array Nat) (c : Nat), c ∈ ((List.replicate k x).foldl (· ++ ·) acc).toList → c ∈ acc.toList ∨ c ∈ x.toList
  | 0, _, _, h => .inl h
  | k + 1, acc, c, h => by
    rw [List.replicate_succ, List.foldl_cons] at h
    rcases reps_mem x k _ c h with h | h
    · rw [Array.toList_append] at h
      exact (List.mem_append.mp h)
    · exact .inr h
theorem mul_mem {z : Str} {n : Int} {c : Nat} (h : c ∈ (Txt.mul z n).cps.toList) : c ∈ z.cps.toList := by
  unfold Txt.mul at h
  split at h
  · cases h
  · split at h
    · exact h
    · rcases reps_mem z.cps _ _ c h with h | h
      · cases h
      · exact h
theorem o_mulS {X : Cx} : OpR X (binaryOp .Mult) rMulS := by
  intro pins s σ H x y v u Q I rx ry h
  obtain ⟨z, n, rfl, rfl, hz, h0, h1, q⟩ := h
  obtain ⟨t, rfl⟩ := rx
  obtain ⟨t2, rfl⟩ := ry
  refine SB.mul (mulOk_of 100 1000 hz (by omega) h0 (by decide) (by decide)) fun t' k => ⟨.str (Txt.mul z n), H, I.tok _, ⟨_, rfl⟩, q _ ?_ fun c hc => mul_mem hc⟩
  have e := len_mul z n
  by_cases hn : n < 0
  · rw [decide_eq_true hn, if_pos rfl] at e; rw [if_pos hn]; exact e
  · rw [decide_eq_false hn, if_neg Bool.false_ne_true] at e; rw [if_neg hn]; exact e
theorem x_mulS {H : Hp} {Q : VK} {z : Str} {n : Int} (hz : z.length ≤ 100) (h : -(2 ^ 63) ≤ n ∧ n ≤ 1000) (q : ∀ w : Str, (w.length : Int) = z.length * (if n < 0 then 0 else n) → (∀ c ∈ w.cps.toList, c ∈ z.cps.toList) → Q (.str w) H) : rMulS (.str z) (.int n) H Q := ⟨z, n, rfl, rfl, hz, h.1, h.2, q⟩
theorem x_slZ {H : Hp} {Q : VK} {z : Str} {lo hi : Option Int} (h : z.length ≤ sizeLine) (q : Q (.str (cutS z lo hi)) H) : rSlS (.str z) lo hi H Q := ⟨z, rfl, h, q⟩
theorem cutS_mem {z : Str} {lo hi : Option Int} {c : Nat} (h : c ∈ (cutS z lo hi).cps.toList) : c ∈ z.cps.toList := by
  have h2 : c ∈ (z.cps.toList.drop (HT.sIx z.length 0 lo)).take (HT.sIx z.length z.length hi - HT.sIx z.length 0 lo) := h
  exact List.mem_of_mem_drop (List.mem_of_mem_take h2)
theorem strOk_of {z : Str} (h : ∀ c ∈ z.cps.toList, c < 1114112) : PyData.strOk z = true := by
  unfold PyData.strOk
  rw [Array.all_eq_true_iff_forall_mem]
  intro c hc
  exact decide_eq_true (h c (Array.mem_toList_iff.mpr hc))
theorem strOk_mem {z : Str} (h : PyData.strOk z = true) : ∀ c ∈ z.cps.toList, c < 1114112 := by
  unfold PyData.strOk at h
  rw [Array.all_eq_true_iff_forall_mem] at h
  exact fun c hc => of_decide_eq_true (h c (Array.mem_toList_iff.mp hc))
theorem strOk_app {z w : Str} (h : PyData.strOk z = true) (k : PyData.strOk w = true) : PyData.strOk (z ++ w) = true := strOk_of fun c hc => by
  rw [str_app] at hc
  exact (List.mem_append.mp hc).elim (strOk_mem h c) (strOk_mem k c)
theorem x_dnew {σ : L2.St} {H : Hp} {Q : VK} (q : ∀ p, Fresh H p → Q (.ref p) (upd H p (.dK []))) : tDNewK σ H Q := q
theorem x_mulTup {P : Prop} (q : P) : P := q
theorem x_slT {K : PySem.W.Frag} {S : Addr → Prop} {H : Hp} {Q : VK} {a : Addr} {xs : List V} {ds : List PyData} {hi : Option Int} (ha : H a = some (.tup xs)) (da : TgAllS S H xs ds)
    (q : ∀ p H' n, Fr Non H H' → TgS S H' (.ref p) (.tuple (ds.take n)) → Q (.ref p) H') : rSlA K (.ref a) none hi H Q := by
  refine ⟨a, xs, rfl, SqT.of ha, fun _ => ?_, fun _ p n => ?_⟩
  · refine q a H ds.length (Fr.refl _) ?_
    rw [List.take_length]
    exact .tup ha da
  · exact q p _ (HT.sIx xs.length xs.length hi) (Fr.new (Fr.refl _) n) (.tup upd_same (by rw [cutV_eq, HT.sIx_none, List.drop_zero, Nat.sub_zero]; exact (da.take _).new n))
theorem x_catT {K : PySem.W.Frag} {S : Addr → Prop} {H : Hp} {Q : VK} {a b : Addr} {xs ys : List V} {ds es : List PyData} (ha : H a = some (.tup xs)) (hb : H b = some (.tup ys)) (da : TgAllS S H xs ds) (db : TgAllS S H ys es) (hz : xs.length + ys.length ≤ 100000)
    (q : ∀ p H', Fr Non H H' → TgS S H' (.ref p) (.tuple (ds ++ es)) → Q (.ref p) H') : rCatA K (.ref a) (.ref b) H Q := by
  refine x_catA (SqT.of ha) (SqT.of hb) hz (fun e => ?_) (fun _ e => ?_) (fun _ _ p n => ?_)
  · subst e; cases da; exact q b H (Fr.refl _) (.tup hb db)
  · subst e; cases db; rw [List.append_nil] at q; exact q a H (Fr.refl _) (.tup ha da)
  · exact q p _ (Fr.new (Fr.refl _) n) (.tup upd_same (TgAllS.app (da.new n) (db.new n)))
theorem atI_last {α : Type} {xs : List α} {x : α} (h : xs.getLast? = some x) : atI xs (-1) = some x := by
  have hn : xs ≠ [] := fun e => by subst e; cases h
  have hl : 0 < xs.length := List.length_pos_iff.mpr hn
  unfold atI ixN
  rw [if_neg (by decide), if_pos (by omega)]
  show xs[((-1 : Int) + (xs.length : Int)).toNat]? = some x
  have e : ((-1 : Int) + (xs.length : Int)).toNat = xs.length - 1 := by omega
  rw [e, ← List.getLast?_eq_getElem?, h]
theorem atI0 {α : Type} (v : α) (vs : List α) : atI (v :: vs) 0 = some v := by
  unfold atI ixN
  rw [if_pos (by decide), if_pos (by simp only [List.length_cons]; omega)]
  rfl
theorem DtAll.head {H : Hp} {xs : List V} {ds : List PyData} {d : PyData} (h : DtAll H xs ds) (e : ds.head? = some d) : ∃ v, atI xs 0 = some v ∧ Dt H v d := by
  cases h with
  | nil => cases e
  | cons h1 h2 => cases e; exact ⟨_, atI0 _ _, h1⟩
theorem DtAll.last {H : Hp} {xs : List V} {ds : List PyData} {d : PyData} (h : DtAll H xs ds) (e : ds.getLast? = some d) : ∃ v, atI xs (-1) = some v ∧ Dt H v d := by
  have hl := h.length
  rw [List.getLast?_eq_getElem?] at e
  have hlt : ds.length - 1 < ds.length := (List.getElem?_eq_some_iff.mp e).1
  have hx : ds.length - 1 < xs.length := by omega
  have e2 := List.getElem?_eq_getElem hx
  obtain ⟨d', e3, e4⟩ := h.get e2
  rw [e] at e3
  cases e3
  refine ⟨xs[ds.length - 1], atI_last ?_, e4⟩
  rw [List.getLast?_eq_getElem?, hl, e2]
end Tw

/-! TwE: refusals: raise, try, isinstance of what was caught. -/
namespace Tw
open PySem PySem.Spec PyProof.Rows L2
/-- the address that a global class stands at -/
def clA (mg : Str → Option Value) (x : Str) : Addr := match mg x with
  | some (.ref a) => a
  | _ => 0
theorem clA_of {mg : Str → Option Value} {x : Str} {a : Addr} (h : mg x = some (.ref a)) : clA mg x = a := by unfold clA; rw [h]
/-- a class that is named -/
structure ClsTX (K : PySem.W.Frag) (mg : Str → Option Value) (x : Str) : Prop where
  m : mg x = some (.ref (clA mg x))
/-- a refusal without a field -/
structure ExcTX (K : PySem.W.Frag) (mg : Str → Option Value) (x : Str) (bm : List Value) (new : String) : Prop where
  m : mg x = some (.ref (clA mg x))
  kp : PySem.W.keepIn K (.ref (clA mg x)) = true
  ex : PySem.W.excIn K (clA mg x) bm new = true
  sb : PySem.W.subIn K (.ref (clA mg x)) (.type "BaseException") = some true
  ty : PySem.W.typeIn K (.ref (clA mg x)) = some (.type "type")
section
variable {X : Cx} {C : Addr}
/-- C() -/
theorem pmk_own0 {bmB : List Value} {B newId initId : String} {x : Str} {p pos : Pos} (F : ExcBaseFacts B newId initId bmB) (q : PySem.W.excIn X.K C bmB newId = true) (gC : X.mg x = some (.ref C)) (kC : PySem.W.keepIn X.K (.ref C) = true) (r : Raises X (.ref C)) (hg : Gl X x)
    (hdb : (x == ("__debug__" : Str)) = false := by decide) : PMk X (.Call (.Name x p) [] [] pos) (fun _ H Q => Q (.ref C) none H) := by
  intro pins s σ H Q I h
  refine wpAny_Call_Name_kw (ld_glob I hg gC ?_ hdb)
  refine PySem.W.callWith_K0 (f := .ref C) I.kIn kC ?_
  show wpAny _ _ (call (.ref C) []) _ _ _
  obtain ⟨bm, N, nm, qn, bs, hdct, sn, sub, ab, col, dd, k0, k1, k2, k3, k5, mN, hC, hN, hni, T⟩ := exc_obj I.kIn q
  refine wpAny_call_exc_subT F T hC hN hni (fun h' e hm => ?_) (Nat.zero_le _)
  exact mk_of I hm r h (I.hok.gone hm.new)
/-- raise C() -/
def tRaise0 (W : WX) (C : Addr) : TS := fun _ σ H => W (.ref C) none σ H
theorem ps_raise0 {W : WX} {e : Expr} {pos : Pos} (hc : X.calm = true) (tk : Takes X W) (he : PMk X e (fun _ H Q => Q (.ref C) none H)) : PS X (.Raise (some e) none pos) (tRaise0 W C) := ps_raise hc tk he
theorem x_raise0 {E : XK} {D : Ends} {σ : L2.St} {H : Hp} (q : E (.ref C) none H) : tRaise0 (fun cls d _ H => E cls d H) C D σ H := q
/-- a call within a try -/
def tCalS (sp : Sp) (W : WX) (t : TA) : TE := fun σ H Q => t σ H fun vs H1 => sp vs H1 Q (WE W σ)
theorem pcallX {k j : Nat} {x : Str} {ps : List Str} {sp : Sp} {p pos : Pos} {e : Expr} {es : List Expr} {t : TA} {W : WX} (c : CalX X.prog X.w X.K X.mg X.base k x ps sp) (hr : Room j X.A) (hk : k ≤ j) (hg : Gl X x) (tk : Takes X W) (ha : PA X (e :: es) t)
    (hdb : (x == ("__debug__" : Str)) = false := by decide) (he : starEach (e :: es) X.env = (false, eval e X.env) :: starEach es X.env := by rfl) (hpl : (backTo pos (starEach es X.env)).any (·.1) = false := by rfl) :
    PE X (.Call (.Name x p) (e :: es) [] pos) (tCalS sp W t) := by
  obtain ⟨f, fd, F, hm, kp, b⟩ := c.ex
  exact pe_callS F (hr.mono hk) hg hm kp b (fun σ => passAt tk σ) ha hdb he hpl
theorem x_calS {σ : L2.St} {H : Hp} {Q : VK} {sp : Sp} {W : WX} {tr : TA} (q : tr σ H fun vs H1 => sp vs H1 Q (WE W σ)) : tCalS sp W tr σ H Q := q
/-- isinstance of what the suite holds -/
def rIsX (K : PySem.W.Frag) (a : Addr) (cls : Value) (d : Option Addr) : List V → Hp → VK → Prop := fun xs H Q => ∃ (D : Addr) (c : V) (cv : Value) (b : Bool), cls = .ref D ∧ d = none ∧ ExcC K D ∧ xs = [.ref a, c] ∧ ClsV c cv ∧ PySem.W.kitOne K (.ref D) cv = some b ∧ Q (.bl b) H
theorem call_isX {a : Addr} {cls : Value} {d : Option Addr} {oe : Obj} {pn : List (Addr × Obj)} (hz : Zc cls d oe) (hf : ∃ vs, oe.data = .fields vs) : CallR (X.suite a ((a, oe) :: pn)) (.builtin "isinstance") (rIsX X.K a cls d) := by
  intro pins s σ H xs us Q I r h
  obtain ⟨D, c, cv, b, rfl, rfl, hC, rfl, hv, e, q⟩ := h
  exact call_isE hC hz hf pins s σ H _ us Q I r ⟨c, cv, b, rfl, fun u ru => hv.eq ru, e, q⟩
def rIsXT (K : PySem.W.Frag) (a : Addr) (cls : Value) (d : Option Addr) : List V → Hp → VK → Prop := fun xs H Q => ∃ (D tp : Addr) (cs : List V) (us : List Value) (b : Bool), cls = .ref D ∧ d = none ∧ ExcC K D ∧ xs = [.ref a, .ref tp] ∧ H tp = some (.tup cs) ∧ Paired ClsV cs us ∧ PySem.W.kitAny K (.ref D) us = some b ∧ Q (.bl b) H
theorem call_isXT {a : Addr} {cls : Value} {d : Option Addr} {oe : Obj} {pn : List (Addr × Obj)} (hz : Zc cls d oe) (hf : ∃ vs, oe.data = .fields vs) : CallR (X.suite a ((a, oe) :: pn)) (.builtin "isinstance") (rIsXT X.K a cls d) := by
  intro pins s σ H xs us Q I r h
  obtain ⟨D, tp, cs, ws, b, rfl, rfl, C, rfl, hT, k, e, q⟩ := h
  obtain ⟨u1, u2, rfl, r1, r2⟩ := vals2 r
  cases (show u2 = Value.ref tp from r2)
  cases (show u1 = Value.ref a from r1)
  obtain ⟨_, its, rv, o, h1, h2, n, h3⟩ := (show ObjOk X.prog X.w H s.heap tp (.tup cs) from I.hok tp _ hT)
  have e3 := ClsV.all k rv
  subst e3
  obtain ⟨oc, od, dt, sl⟩ := o
  simp only at h2 h3
  subst h2 h3
  obtain ⟨hget, _⟩ := I.pin (a, oe) (List.mem_append.mpr (.inl List.mem_cons_self))
  obtain ⟨vs, hv⟩ := hf
  have J : PySem.W.InstAt s.heap a oe D none := by
    obtain ⟨oc, od, oda, osl⟩ := oe
    obtain ⟨h1, h2⟩ := hz
    dsimp only at h1 h2 hv
    subst h1 h2 hv
    exact ⟨hget, rfl, rfl, trivial⟩
  exact PySem.W.kia_tup (PySem.W.handS_kitx_exc C.hg C.hk C.hs C.hd C.ha C.hn C.ht C.hm) I.kIn J h1 e (fun z => nomatch z) fun tk => ⟨.bl b, H, I.kept (t' := tk) fun _ _ z => z, rfl, q⟩
theorem x_isX {K : PySem.W.Frag} {a D : Addr} {c : V} {cv : Value} {b : Bool} {H : Hp} {Q : VK} (hC : ExcC K D) (hv : ClsV c cv) (e : PySem.W.kitOne K (.ref D) cv = some b) (q : Q (.bl b) H) : rIsX K a (.ref D) none [.ref a, c] H Q := ⟨D, c, cv, b, rfl, rfl, hC, rfl, hv, e, q⟩
theorem x_isXT {K : PySem.W.Frag} {a D tp : Addr} {cs : List V} {us : List Value} {b : Bool} {H : Hp} {Q : VK} (hC : ExcC K D) (hT : H tp = some (.tup cs)) (hv : Paired ClsV cs us) (e : PySem.W.kitAny K (.ref D) us = some b) (q : Q (.bl b) H) : rIsXT K a (.ref D) none [.ref a, .ref tp] H Q := ⟨D, tp, cs, us, b, rfl, rfl, hC, rfl, hT, hv, e, q⟩
end
/-- try .. except C as n (n in slot i) -/
def tTryAs (K : PySem.W.Frag) (c : Value) (i : Nat) (ts : Addr → Value → Option Addr → TS) (Wout : WX) (tb : WX → TS) : TS := fun D σ H => tb (wAs K c i ts Wout D) D σ H
theorem ps_tryAs {X : Cx} {x n : Str} {c : Value} {i : Nat} {body suite : List Stmt} {b₀ : Stmt} {np pos pos' : Pos} {tb : WX → TS} {ts : Addr → Value → Option Addr → TS} {Wout : WX}
    (hs : X.stack = X.env :: X.outer) (hf : X.env.frame = some X.env.locals) (hN : X.N.Nodup) (hi : X.N[i]? = some n) (hln : X.env.kindOf n = some .local) (hc : Names X x c) (tk : Takes X Wout)
    (hb : ∀ (W : WX) (pn : List (Addr × Obj)) (xe : Value → Shared → Prop), Takes (X.tr pn xe) W → PassesOwn (model X.prog X.w) X.A X.env xe → PSs (X.tr pn xe) body (tb W))
    (hsu : ∀ (a : Addr) (oe : Obj) (cls : Value) (d : Option Addr) (pn : List (Addr × Obj)), Zc cls d oe → (∃ vs, oe.data = .fields vs) → PSs (X.suite a ((a, oe) :: pn)) (b₀ :: suite) (ts a cls d)) :
    PS X (.Try body [.ExceptHandler (some (.Name x np)) (some n) (b₀ :: suite) pos'] [] [] pos) (tTryAs X.K c i ts Wout tb) := ps_try_as hs hf hN hi hln hc tk hb hsu
theorem x_tryAs {K : PySem.W.Frag} {c : Value} {i : Nat} {ts : Addr → Value → Option Addr → TS} {Wout : WX} {tb : WX → TS} {D : Ends} {σ : L2.St} {H : Hp} (q : tb (wAs K c i ts Wout D) D σ H) : tTryAs K c i ts Wout tb D σ H := q
/-- the clause takes it -/
theorem x_wAsT {K : PySem.W.Frag} {c cls : Value} {d : Option Addr} {i : Nat} {ts : Addr → Value → Option Addr → TS} {Wout : WX} {D : Ends} {σ : L2.St} {H : Hp} (h : PySem.W.exmOne K cls c = some true)
    (q : ∀ a, Fresh H a → ts a cls d { nx := fun σ' H' => D.nx (σ'.set i none) H', rt := D.rt, bk := fun σ' H' => D.bk (σ'.set i none) H', ct := fun σ' H' => D.ct (σ'.set i none) H' } (σ.set i (some (.ref a))) H) :
    WE (wAs K c i ts Wout D) σ cls d H := ⟨true, h, fun _ a ha => q a ha, fun e => nomatch e⟩
def excCB (K : PySem.W.Frag) (D : Addr) : Bool := decide (PySem.W.findIn K (.ref D) "__getattribute__" = some (some (.builtin "BaseException.__getattribute__"))) && (decide (PySem.W.findIn K (.ref D) "__getattr__" = some none) &&
  (decide (PySem.W.subIn K (.ref D) (.type "BaseException") = some true) && (PySem.W.hasDictIn K D && (decide (PySem.W.findIn K (.ref D) "__class__" = some (some (.builtin "object.__class__"))) &&
  (decide (PySem.W.specialIn K (.builtin "object.__class__") "__get__" = some (some (.builtin "getset_descriptor.__get__"))) && (decide (PySem.W.takesIn K (.builtin "object.__class__") = some true) && decide (PySem.W.mroIn K D (.type "object") = some true)))))))
theorem excC_of {K : PySem.W.Frag} {D : Addr} (h : excCB K D = true) : ExcC K D := by
  unfold excCB at h
  simp only [Bool.and_eq_true, decide_eq_true_eq] at h
  obtain ⟨h1, h2, h3, h4, h5, h6, h7, h8⟩ := h
  exact ⟨h1, h2, h3, h4, h5, h6, h7, h8⟩
theorem boot_ValueError : bootBuiltins "ValueError" = some (.type "ValueError") := by decide +kernel
/-! ### a tuple, none or one time -/
theorem tuple_mul1 (l : Addr) (items : Array Value) (n : Nat) (dd : Option Addr) (sl : Array (Option Value)) (u : Tok) :
    Meets (Builtin.«tuple.__mul__» ⟨[.ref l, .int 1 u], []⟩) (fun _ R s => s.heap.get? l = some { cls := .type "tuple", dict := dd, data := .seq items n, slots := sl } ∧ R (.ok (.ret (Value.ref l))) s) :=
  .of_wp fun prog w A R s h => by
    obtain ⟨hp, g, d, tk, os⟩ := s
    obtain ⟨hl, h⟩ := h
    have f1 := AutoSeq1.idx_int
    wp_walk using wpAny_loadPart' hl
    repeat (first
      | (refine wpAny_ite_true (by simp) ?_; wp_walk using wpAny_loadPart' hl)
      | (refine wpAny_ite_false (by simp) ?_; wp_walk using wpAny_loadPart' hl))
    exact ⟨_, rfl, h⟩
theorem tuple_mul0 (l : Addr) (items : Array Value) (n : Nat) (dd : Option Addr) (sl : Array (Option Value)) (u : Tok) (hi : items.isEmpty = false) :
    Meets (Builtin.«tuple.__mul__» ⟨[.ref l, .int 0 u], []⟩) (fun _ R s => s.heap.get? l = some { cls := .type "tuple", dict := dd, data := .seq items n, slots := sl } ∧
      R (.ok (.ret (Value.ref s.heap.objs.size))) { s with heap := s.heap.push { cls := Value.type "tuple", data := Data.seq #[] }, toks := s.toks }) :=
  .of_wp fun prog w A R s h => by
    obtain ⟨hp, g, d, tk, os⟩ := s
    obtain ⟨hl, h⟩ := h
    have f1 := AutoSeq1.idx_int
    wp_walk using wpAny_loadPart' hl
    repeat (first
      | (refine wpAny_ite_false (by simp [hi]) ?_; wp_walk using wpAny_loadPart' hl)
      | (refine wpAny_ite_true (by simp [hi]) ?_; wp_walk using wpAny_loadPart' hl))
    exact ⟨_, rfl, h⟩
def rRep01 (K : PySem.W.Frag) : R2 := fun x y H Q => ∃ l k xs, x = .ref l ∧ y = .int k ∧ SqT K H l xs ∧ xs ≠ [] ∧ (k = 0 ∨ k = 1) ∧ (k = 0 → ∀ p, H p = none → Q (.ref p) (upd H p (.tup []))) ∧ (k = 1 → Q (.ref l) H)
theorem op_rep01 {X : Cx} : OpR X (binaryOp .Mult) (rRep01 X.K) := by
  intro pins s σ H x y v u Q I rx ry h
  obtain ⟨l, k, xs, rfl, rfl, hT, hne, hk, q0, q1⟩ := h
  cases rx
  obtain ⟨t, rfl⟩ := ry
  obtain ⟨its, r, ⟨⟨cls, dd, data, sl⟩, ho, hc, n, hd⟩, hs⟩ := I.tuple hT
  simp only at hc hd
  subst hc hd
  have hle : its.length = xs.length := r.length.symm
  have hn : its ≠ [] := fun e => hne (by
    rw [e] at hle
    exact List.eq_nil_of_length_eq_zero hle.symm)
  have hi : its.toArray.isEmpty = false := by
    cases its with
    | nil => exact absurd rfl hn
    | cons a b => rfl
  rcases hk with rfl | rfl
  · refine wpAny_binaryOp_repeat_ref (T := "tuple") (U := "int") (by decide) ⟨_, ho, rfl⟩ (fun s' => typeIs_int s' 0 t) noFill_tuple_mul F.fills_int_mul F.slot_int_rmul repeat_tuple F.slot_int_index.lookup
      (call_meets F.slot_int_rmul (typeIs_int s 0 t) F.entry_int_rmul (F.args_int_rmul_2 _ _) (int_rmul_tuple 0 t l its.toArray n dd sl)
        ⟨ho, rfl, ⟨_, ho, rfl⟩, call_meets F.slot_tuple_mul ⟨_, ho, rfl⟩ F.entry_tuple_mul (F.args_tuple_mul_2 _ _) (tuple_mul0 l its.toArray n dd sl t hi) ⟨ho, ?_⟩⟩)
    refine ⟨.ref s.heap.objs.size, _, I.laid (t' := s.toks) (o := .tup []) (fun b ob q => Heap.get?_push_of_some _ q) (Nat.le_refl _) ?_, rfl, q0 rfl _ (I.hok.fresh (Nat.le_refl _))⟩
    exact ⟨Nat.zero_le _, [], .nil, IsTup.new _ _⟩
  · refine wpAny_binaryOp_repeat_ref (T := "tuple") (U := "int") (by decide) ⟨_, ho, rfl⟩ (fun s' => typeIs_int s' 1 t) noFill_tuple_mul F.fills_int_mul F.slot_int_rmul repeat_tuple F.slot_int_index.lookup
      (call_meets F.slot_int_rmul (typeIs_int s 1 t) F.entry_int_rmul (F.args_int_rmul_2 _ _) (int_rmul_tuple 1 t l its.toArray n dd sl)
        ⟨ho, rfl, ⟨_, ho, rfl⟩, call_meets F.slot_tuple_mul ⟨_, ho, rfl⟩ F.entry_tuple_mul (F.args_tuple_mul_2 _ _) (tuple_mul1 l its.toArray n dd sl t) ⟨ho, ?_⟩⟩)
    exact ⟨.ref l, H, I, rfl, q1 rfl⟩
theorem x_rep01 {K : PySem.W.Frag} {H : Hp} {Q : VK} {l : Addr} {xs : List V} {k : Int} (h : SqT K H l xs) (hne : xs ≠ []) (hk : k = 0 ∨ k = 1) (q0 : k = 0 → ∀ p, Fresh H p → Q (.ref p) (upd H p (.tup []))) (q1 : k = 1 → Q (.ref l) H) : rRep01 K (.ref l) (.int k) H Q := ⟨l, k, xs, rfl, rfl, h, hne, hk, q0, q1⟩
end Tw

/-! TwF: labels. -/
namespace Tw
open PySem PySem.Spec PyProof.Rows L2
/-- a label: height, least key, greatest key, how many rows -/
structure Lb where
  h : Int
  lo : PyData
  hi : PyData
  n : Int
def lbD (l : Lb) : PyData := .tuple [.int l.h, l.lo, l.hi, .int l.n]
/-- rows: a list of tuples (key, value) -/
def rowD (p : PyData × PyData) : PyData := .tuple [p.1, p.2]
def lbStep (f x y : Lb) : Bool := decide (y.h = f.h) && ltK x.hi y.lo
def lbRun (f : Lb) : List Lb → Bool
  | x :: y :: r => lbStep f x y && lbRun f (y :: r)
  | _ => true
/-- they may stand in one stem -/
def lbOk : List Lb → Bool
  | [] => false
  | f :: r => decide (2 ≤ (f :: r).length) && decide ((f :: r).length ≤ 4) && lbRun f (f :: r)
theorem lbOk_len {ls : List Lb} (h : ls.length < 2 ∨ 4 < ls.length) : lbOk ls = false := by
  cases ls with
  | nil => rfl
  | cons f r =>
    show (decide (2 ≤ (f :: r).length) && decide ((f :: r).length ≤ 4) && lbRun f (f :: r)) = false
    rcases h with h | h
    · rw [decide_eq_false (by omega)]; rfl
    · rw [decide_eq_true (show 2 ≤ (f :: r).length by omega), decide_eq_false (by omega)]; rfl
theorem lbOk_run {ls : List Lb} {f : Lb} (h1 : 2 ≤ ls.length) (h2 : ls.length ≤ 4) (hf : ls.head? = some f) : lbOk ls = lbRun f ls := by
  cases ls with
  | nil => cases hf
  | cons g r =>
    cases hf
    have h1 : 2 ≤ (f :: r).length := h1
    have h2 : (f :: r).length ≤ 4 := h2
    show (decide (2 ≤ (f :: r).length) && decide ((f :: r).length ≤ 4) && lbRun f (f :: r)) = _
    rw [decide_eq_true h1, decide_eq_true h2]; rfl
theorem lb_drop {ls : List Lb} {i : Nat} {x y : Lb} (hx : ls[i]? = some x) (hy : ls[i + 1]? = some y) (f : Lb) : lbRun f (ls.drop i) = (lbStep f x y && lbRun f (ls.drop (i + 1))) := by
  obtain ⟨a1, a2⟩ := List.getElem?_eq_some_iff.mp hx
  obtain ⟨b1, b2⟩ := List.getElem?_eq_some_iff.mp hy
  rw [List.drop_eq_getElem_cons a1, List.drop_eq_getElem_cons b1, a2, b2]; rfl
theorem lb_last {ls : List Lb} {n : Nat} (h : ls.length ≤ n + 1) (f : Lb) : lbRun f (ls.drop n) = true := by
  have e : (ls.drop n).length ≤ 1 := by rw [List.length_drop]; omega
  cases hd : ls.drop n with
  | nil => rfl
  | cons a r =>
    rw [hd] at e
    cases r with
    | nil => rfl
    | cons b r => simp only [List.length_cons] at e; omega
theorem DtAll.tup4 {H : Hp} {v : V} {a b c d : PyData} (h : Dt H v (.tuple [a, b, c, d])) : ∃ (p : Addr) (u0 u1 u2 u3 : V), v = .ref p ∧ H p = some (.tup [u0, u1, u2, u3]) ∧ Dt H u0 a ∧ Dt H u1 b ∧ Dt H u2 c ∧ Dt H u3 d := by
  cases h with
  | @tup p xs _ e hx =>
  cases hx with
  | cons h0 hx =>
  cases hx with
  | cons h1 hx =>
  cases hx with
  | cons h2 hx =>
  cases hx with
  | cons h3 hx =>
  cases hx
  exact ⟨p, _, _, _, _, rfl, e, h0, h1, h2, h3⟩
def lbSum (ls : List Lb) : Int := (ls.map (·.n)).sum
def lbOver (ls : List Lb) (f l : Lb) : PyData := .tuple [.int (f.h + 1), f.lo, l.hi, .int (lbSum ls)]
theorem cut_from {xs : List V} {k : Int} (h0 : 0 ≤ k) : cutV xs (some k) none = xs.drop k.toNat := by
  have e : HT.sIx xs.length 0 (some k) = min k.toNat xs.length := by
    show (if k < 0 then _ else min k.toNat xs.length) = _
    rw [if_neg (by omega)]
  rw [cutV_eq, HT.sIx_none, e]
  by_cases h : k.toNat ≤ xs.length
  · rw [Nat.min_eq_left h, List.take_of_length_le (by rw [List.length_drop]; omega)]
  · rw [Nat.min_eq_right (by omega), List.drop_eq_nil_of_le (Nat.le_refl _), List.drop_eq_nil_of_le (by omega), List.take_nil]
end Tw

/-! TwG: refusals with a field. -/
namespace Tw
open PySem PySem.Spec PyProof.Rows L2
/-- B.__init__(self, ..), B an own class over ValueError that has no own __init__ -/
structure BaseTX (K : PySem.W.Frag) (C : Addr) : Prop where
  ga : PySem.W.specialIn K (.ref C) "__getattribute__" = some (some (.builtin "type.__getattribute__"))
  rd : PySem.W.readsIn K C (.type "type") = true
  vi : PySem.W.findCls K (.ref C) (.type "type") "__init__" = some (.val (.builtin "ValueError.__init__"))
theorem pe_owninit {X : Cx} {C : Addr} {x : Str} {e : Expr} {es : List Expr} {ta : TA} {p1 p2 pos : Pos} {pl : Sem Bool} (hg : Gl X x) (gC : X.mg x = some (.ref C)) (B : BaseTX X.K C) (ha : PA X (e :: es) ta)
    (hc : eval (.Call (.Attribute (.Name x p1) "__init__" p2) (e :: es) [] pos) X.env = (do
      let ov ← eval (.Name x p1) X.env
      standAt p2.atName
      let (f, first) ← holding [ov] (getMethod ov "__init__" pl)
      callWith pos f first (backTo pos (starEach (e :: es) X.env)) (backToKw pos (keywordEach [] X.env))) := by rfl) (hdb : (x == ("__debug__" : Str)) = false := by decide)
    (he : starEach (e :: es) X.env = (false, eval e X.env) :: starEach es X.env := by rfl) (hpl : (backTo pos (starEach es X.env)).any (·.1) = false := by rfl) :
    PE X (.Call (.Attribute (.Name x p1) "__init__" p2) (e :: es) [] pos) (tVeI X.K ta) := by
  refine ⟨fun pins s σ H Q I h => ?_⟩
  refine PySem.W.methodCall_KW (ld_glob I hg gC ?_ hdb) hc
  refine PySem.W.method_cls I.kIn B.ga (PySem.W.cls_value I.kIn B.rd B.vi (by decide +kernel) ?_)
  show wpAny _ _ (callWith pos (Value.builtin "ValueError.__init__") [] (backTo pos (starEach (e :: es) X.env)) []) _ _ _
  refine PyProof.Rows.callWith_method1 (thn (ha.run pos pins _ σ H _ (I.tok _) h) fun us s1 ⟨vs, H1, I1, r1, a, C, ws, ev, hl, T, ea, q⟩ => ?_) he hpl
  subst ev
  cases r1 with
  | @cons _ u0 _ ur ra rw' =>
    obtain rfl : u0 = Value.ref a := ra
    have hlen : ur.length ≤ sizeLine := by
      rw [← Paired.length rw', sizeLine_eq]
      omega
    exact oinit_ok T I1 ea hlen fun s' J => ⟨.non, H1, J, rfl, q⟩
end Tw

/-! TwH: keys written as texts. -/
namespace Tw
open PySem PySem.Spec PyProof.Rows L2 TL
/-- quotes and strokes doubled -/
def escL : List Nat → List Nat
  | [] => []
  | c :: r => (if c = 34 ∨ c = 92 then [92, c] else [c]) ++ escL r
def intL (i : Int) : List Nat := (Str.ofString (toString i)).cps.toList
mutual
/-- the signs that write a key -/
def encL : PyData → List Nat
  | .int i => intL i
  | .str z => 34 :: (escL z.cps.toList ++ [34])
  | .tuple ds => 40 :: (encAll ds ++ [41])
  | .none => []
  | .bool _ => []
  | .list _ => []
  | .dict _ => []
def encAll : List PyData → List Nat
  | [] => []
  | d :: ds => encL d ++ encMore ds
def encMore : List PyData → List Nat
  | [] => []
  | d :: ds => 32 :: (encL d ++ encMore ds)
end
def strOf (l : List Nat) : Str := ⟨l.toArray⟩
theorem strOf_cps (l : List Nat) : (strOf l).cps.toList = l := rfl
theorem strOf_len (l : List Nat) : (strOf l).length = l.length := by rw [str_len]; rfl
theorem strOf_app (a b : List Nat) : strOf a ++ strOf b = strOf (a ++ b) := by
  refine PySem.W.str_of_cps ?_
  rw [str_app]; rfl
theorem of_cps (z : Str) : strOf z.cps.toList = z := PySem.W.str_of_cps rfl
def encS (d : PyData) : Str := strOf (encL d)
theorem encS_int (i : Int) : encS (.int i) = Str.ofString (toString i) := of_cps _
theorem escL_app (a b : List Nat) : escL (a ++ b) = escL a ++ escL b := by
  induction a with
  | nil => rfl
  | cons c a ih => rw [List.cons_append, escL, escL, ih, List.append_assoc]
theorem escL_len (a : List Nat) : (escL a).length ≤ 2 * a.length := by
  induction a with
  | nil => exact Nat.le_refl _
  | cons c a ih =>
    rw [escL, List.length_append, List.length_cons]
    split
    · simp only [List.length_cons, List.length_nil]; omega
    · simp only [List.length_cons, List.length_nil]; omega
/-! ### numbers -/
theorem intL_nat (n : Nat) : intL (n : Int) = numL n := tl_num n
theorem intL_neg (n : Nat) : intL (Int.negSucc n) = 45 :: numL (n + 1) := by
  have e : toString (Int.negSucc n) = "-" ++ Nat.repr (n + 1) := rfl
  unfold intL
  rw [e, PyProof.Rows.signs_ofString, String.toList_append, List.map_append, Nat.toList_repr]
  rfl
theorem numOk_nat {n : Nat} (h : numOk (n : Int)) : n < 10 ^ 60 := by
  have e : ((10 ^ 60 : Nat) : Int) = (10 : Int) ^ 60 := by decide
  have := h.2
  rw [← e] at this
  exact Int.ofNat_lt.mp this
theorem numOk_neg {n : Nat} (h : numOk (Int.negSucc n)) : n + 1 < 10 ^ 60 := by
  have e : ((10 ^ 60 : Nat) : Int) = (10 : Int) ^ 60 := by decide
  have h1 := h.1
  have e2 : Int.negSucc n = -((n + 1 : Nat) : Int) := rfl
  rw [e2, ← e] at h1
  have : ((n + 1 : Nat) : Int) < ((10 ^ 60 : Nat) : Int) := by omega
  exact Int.ofNat_lt.mp this
/-- a number's signs: perhaps a minus, then figures -/
theorem intL_cases {i : Int} (h : numOk i) : (∃ n : Nat, i = (n : Int) ∧ intL i = numL n ∧ n < 10 ^ 60) ∨ ∃ n : Nat, i = -((n + 1 : Nat) : Int) ∧ intL i = 45 :: numL (n + 1) ∧ n + 1 < 10 ^ 60 := by
  cases i with
  | ofNat n => exact .inl ⟨n, rfl, intL_nat n, numOk_nat h⟩
  | negSucc n => exact .inr ⟨n, rfl, intL_neg n, numOk_neg h⟩
theorem numL_60 {n : Nat} (h : n < 10 ^ 60) : (numL n).length ≤ 60 := numL_len (by decide) h
/-- the first figure is a nought just of nought -/
theorem numL_head : ∀ n : Nat, (numL n).head? = some 48 → n = 0 := by
  intro n
  induction n using Nat.strongRecOn with
  | _ n ih =>
    intro h
    by_cases hn : n < 10
    · rw [numL_lt hn] at h
      simp at h
      omega
    · rw [numL_step (by omega)] at h
      have hne : numL (n / 10) ≠ [] := numL_ne _
      rw [List.head?_append] at h
      cases hq : (numL (n / 10)).head? with
      | none => rw [List.head?_eq_none_iff] at hq; exact absurd hq hne
      | some c =>
        rw [hq] at h
        have h' : c = 48 := by simpa using h
        have := ih (n / 10) (by omega) (by rw [hq, h'])
        omega
theorem int_back_nat {n : Nat} (h : n < 10 ^ 60) : intText? (strOf (numL n)) = some (n : Int) := by
  have e := intText_digits (x := strOf (numL n)) (numL_digits n) (numL_ne n) (by rw [strOf_len]; exact Nat.le_trans (numL_60 h) (by decide))
  rw [strOf_cps, numL_val] at e
  exact e
theorem int_back_neg {n : Nat} (h : n < 10 ^ 60) : intText? (strOf (45 :: numL n)) = some (-(n : Int)) := by
  have e := intText_neg (x := strOf (45 :: numL n)) (cs := numL n) rfl (numL_digits n) (numL_ne n) (by rw [strOf_len, List.length_cons]; exact Nat.le_trans (Nat.succ_le_succ (numL_60 h)) (by decide))
  rw [numL_val] at e
  exact e
/-! ### signs by place -/
def sgO : Option Nat → Str
  | some c => ⟨#[c]⟩
  | none => ⟨#[]⟩
def digC (c : Nat) : Bool := decide (48 ≤ c) && decide (c ≤ 57)
def digO : Option Nat → Bool
  | some c => digC c
  | none => false
theorem cut_one {z : Str} {n : Nat} : cutS z (some (n : Int)) (some ((n : Int) + 1)) = sgO z.cps.toList[n]? := by
  have e1 : ((n : Int) + 1) = ((n + 1 : Nat) : Int) := by omega
  refine PySem.W.str_of_cps ?_
  rw [e1]
  show (z.cps.toList.drop (HT.sIx z.length 0 (some (n : Int)))).take (HT.sIx z.length z.length (some ((n + 1 : Nat) : Int)) - HT.sIx z.length 0 (some (n : Int))) = _
  rw [HT.sIx_nat, HT.sIx_nat, str_len]
  by_cases h : n < z.cps.toList.length
  · rw [Nat.min_eq_left (Nat.le_of_lt h), Nat.min_eq_left h, List.getElem?_eq_getElem h, List.drop_eq_getElem_cons h]
    have e : n + 1 - n = 1 := by omega
    rw [e]; rfl
  · rw [List.getElem?_eq_none (by omega), Nat.min_eq_right (show z.cps.toList.length ≤ n + 1 by omega), Nat.min_eq_right (show z.cps.toList.length ≤ n by omega), List.drop_eq_nil_of_le (Nat.le_refl _), List.take_nil]; rfl
theorem cut_mid {z : Str} {n m : Nat} {a b c : List Nat} (h : z.cps.toList = a ++ b ++ c) (hn : n = a.length) (hm : m = a.length + b.length) : cutS z (some (n : Int)) (some (m : Int)) = strOf b := by
  refine PySem.W.str_of_cps ?_
  show (z.cps.toList.drop (HT.sIx z.length 0 (some (n : Int)))).take (HT.sIx z.length z.length (some (m : Int)) - HT.sIx z.length 0 (some (n : Int))) = b
  rw [HT.sIx_nat, HT.sIx_nat, str_len, h, hn, hm]
  have l : (a ++ b ++ c).length = a.length + b.length + c.length := by simp only [List.length_append]
  rw [l, Nat.min_eq_left (by omega), Nat.min_eq_left (by omega)]
  have e : a.length + b.length - a.length = b.length := by omega
  rw [e, List.append_assoc, List.drop_left, List.take_left]
theorem sgO_one (c : Nat) : sgO (some c) = ⟨#[c]⟩ := rfl
theorem get_at {l a r : List Nat} {c n : Nat} (h : l.drop n = c :: r) : l[n]? = some c := by
  rw [← List.head?_drop, h]; rfl
theorem get_off {l : List Nat} {n : Nat} (h : l.drop n = []) : l[n]? = none := by
  rw [← List.head?_drop, h]; rfl
theorem drop_next {l r : List Nat} {c n : Nat} (h : l.drop n = c :: r) : l.drop (n + 1) = r := by
  rw [← List.drop_drop, h]; rfl
theorem drop_far {l a r : List Nat} {n : Nat} (h : l.drop n = a ++ r) : l.drop (n + a.length) = r := by
  rw [← List.drop_drop, h, List.drop_left]
/-! ### rules under names -/
section
variable {X : Cx}
def rInZ : R2 := fun x y H Q => ∃ (c : Nat) (z : Str), x = .str ⟨#[c]⟩ ∧ y = .str z ∧ Q (.bl (decide (c ∈ z.cps.toList))) H
theorem o_inZ : OpR X (compareOp .In) rInZ := op_in_sign
def rIntS : List V → Hp → VK → Prop := fun xs H Q => ∃ a n, xs = [.str a] ∧ intText? a = some n ∧ a.length ≤ 640 ∧ Q (.int n) H
theorem c_intS : CallR X (.type "int") rIntS := call_int_str
end
theorem x_inZ {H : Hp} {Q : VK} {c : Nat} {z : Str} (q : Q (.bl (decide (c ∈ z.cps.toList))) H) : rInZ (.str ⟨#[c]⟩) (.str z) H Q := ⟨c, z, rfl, rfl, q⟩
theorem x_intS {H : Hp} {Q : VK} {a : Str} {n : Int} (h : intText? a = some n) (hl : a.length ≤ 640) (q : Q (.int n) H) : rIntS [.str a] H Q := ⟨a, n, rfl, h, hl, q⟩
theorem dig_mem (c : Nat) : decide (c ∈ (Str.ofString "0123456789").cps.toList) = digC c := by
  have e : (Str.ofString "0123456789").cps.toList = [48, 49, 50, 51, 52, 53, 54, 55, 56, 57] := by decide +kernel
  rw [e]
  unfold digC
  rw [Bool.eq_iff_iff, decide_eq_true_eq, Bool.and_eq_true, decide_eq_true_eq, decide_eq_true_eq]
  simp only [List.mem_cons, List.not_mem_nil, or_false]
  omega
theorem x_aug {n : Nat} {x : V} {te : TE} {ti : TIp} {D : Ends} {σ : L2.St} {H : Hp} (h : σ[n]? = some (some x)) (q : te σ H fun y H1 => ti x y H1 fun z H2 => D.nx (σ.set n (some z)) H2) : tAug n te ti D σ H := ⟨x, h, q⟩
theorem x_ipA {H : Hp} {Q : VK} {i j : Int} (q : Q (.int (i + j)) H) : ipI (fun i j => i + j) (.int i) (.int j) H Q := ⟨i, j, rfl, rfl, q⟩
theorem x_ipS {H : Hp} {Q : VK} {i j : Int} (q : Q (.int (i - j)) H) : ipI (fun i j => i - j) (.int i) (.int j) H Q := ⟨i, j, rfl, rfl, q⟩
/-- one sign as it is written -/
def esc1 (c : Nat) : List Nat := if c = 34 ∨ c = 92 then [92, c] else [c]
theorem escL_cons (c : Nat) (r : List Nat) : escL (c :: r) = esc1 c ++ escL r := rfl
theorem esc1_head (c : Nat) : ∃ x r, esc1 c = x :: r ∧ x ≠ 34 := by
  unfold esc1
  by_cases h : c = 34 ∨ c = 92
  · rw [if_pos h]; exact ⟨92, [c], rfl, by decide⟩
  · rw [if_neg h]; exact ⟨c, [], rfl, fun e => h (.inl e)⟩
/-- the first sign of what writes a key -/
theorem encL_head {r : Nat} {d : PyData} (h : isK r d) : ∃ x t, encL d = x :: t ∧ x ≠ 41 ∧ x ≠ 32 := by
  rcases isK_cases h with ⟨i, rfl, hi⟩ | ⟨z, rfl, hz⟩ | ⟨r1, ds, rfl, rfl, _, _⟩
  · rcases intL_cases hi with ⟨m, h1, h2, h3⟩ | ⟨m, h1, h2, h3⟩
    · cases hq : numL m with
      | nil => exact absurd hq (numL_ne m)
      | cons c t =>
        have := numL_digits m c (by rw [hq]; exact List.mem_cons_self ..)
        refine ⟨c, t, by rw [encL, h2, hq], ?_, ?_⟩
        · have := this.1; omega
        · have := this.1; omega
    · exact ⟨45, _, by rw [encL, h2], by decide, by decide⟩
  · exact ⟨34, _, by rw [encL], by decide, by decide⟩
  · exact ⟨40, _, by rw [encL], by decide, by decide⟩
def B_key_from (r : Nat) : V → V → V → Hp → VK → XK → Prop := fun t n rm H Q _ => ∃ (z : Str) (k : Nat) (d : PyData) (rest : List Nat), t = .str z ∧ n = .int k ∧ rm = .int (r : Int) ∧ z.length ≤ 100000 ∧ isK r d ∧ z.cps.toList.drop k = encL d ++ rest ∧ (∀ c, rest.head? = some c → digC c = false) ∧
  ∀ p v H', Fr Non H H' → H' p = some (.tup [v, .int ((k + (encL d).length : Nat) : Int)]) → Dt H' v d → Q (.ref p) H'
def B_parts_from (r : Nat) : V → V → V → Hp → VK → XK → Prop := fun t n rm H Q _ => ∃ (z : Str) (k : Nat) (ds : List PyData) (rest : List Nat), t = .str z ∧ n = .int k ∧ rm = .int (r : Int) ∧ z.length ≤ 100000 ∧ (∀ d ∈ ds, isK r d) ∧ ds.length ≤ 4 ∧ z.cps.toList.drop k = encAll ds ++ 41 :: rest ∧
  ∀ p v H', Fr Non H H' → H' p = some (.tup [v, .int ((k + (encAll ds).length + 1 : Nat) : Int)]) → Dt H' v (.tuple ds) → Q (.ref p) H'
theorem sg_eq (x c : Nat) (s : String) (h : Str.ofString s = ⟨#[c]⟩) : decide (sgO (some x) = Str.ofString s) = decide (x = c) := by
  rw [h]; exact decide_eq_decide.mpr one_ne
theorem sg_q : Str.ofString "\"" = ⟨#[34]⟩ := by decide +kernel
theorem sg_b : Str.ofString "\\" = ⟨#[92]⟩ := by decide +kernel
theorem sg_o : Str.ofString "(" = ⟨#[40]⟩ := by decide +kernel
theorem sg_c : Str.ofString ")" = ⟨#[41]⟩ := by decide +kernel
theorem sg_s : Str.ofString " " = ⟨#[32]⟩ := by decide +kernel
theorem sg_e (x : Nat) : decide (sgO (some x) = Str.ofString "") = false := decide_eq_false fun h => by
  have h1 := congrArg Str.length h
  have e2 : (Str.ofString "").length = 0 := by decide +kernel
  rw [e2] at h1
  cases h1
/-! ### replace, join -/
section
variable {X : Cx}
theorem pe_opST {op : Operator} {r : R2} {m : Str} {j : Nat} {p pos : Pos} {f : Expr} {tf : TE} (ho : OpR X (binaryOp op) r) (hb : PET X f tf) : PE X (.BinOp (.Constant (.str m) j p) op f pos) (tOp r (tC (.str m)) tf) := by
  refine ⟨fun pins s σ H Q I h => ?_⟩
  refine wpAny_BinOp (Calls.Constant_str ?_)
  exact thn (hb pins { s with toks := s.toks + 1 } σ H _ (by show 1 ≤ s.toks + 1; omega) (I.tok _) h) fun u s2 ⟨y, H2, I2, r2, q2⟩ => ho pins s2 σ H2 (.str m) y _ u Q I2 ⟨_, rfl⟩ r2 q2
def rJoin (K : PySem.W.Frag) : V → List V → Hp → VK → Prop := fun x xs H Q => ∃ a p, ∃ ys : List Str, x = .str a ∧ xs = [.ref p] ∧ (SqL K H p (ys.map V.str) ∨ SqT K H p (ys.map V.str)) ∧
    (ys.map (·.length)).sum + ys.length * a.length ≤ 16777216 ∧ Q (.str (Txt.join a ys)) H
theorem m_join : MtR X "str.join" (rJoin X.K) := mt_join
end
theorem x_join {K : PySem.W.Frag} {H : Hp} {Q : VK} {a : Str} {p : Addr} {ys : List Str} (h : SqL K H p (ys.map V.str)) (hs : (ys.map (·.length)).sum + ys.length * a.length ≤ 16777216) (q : Q (.str (Txt.join a ys)) H) : rJoin K (.str a) [.ref p] H Q := ⟨a, p, ys, rfl, rfl, .inl h, hs, q⟩
theorem x_repl {to : TE} {y z : Str} {σ : L2.St} {H : Hp} {Q : VK} (q : to σ H fun v H1 => ∃ x, v = .str x ∧ x.length + (x.length + 1) * z.length ≤ 16777216 ∧ Q (.str (Txt.replace x y z)) H1) : CwR.tReplC to y z σ H Q := q
theorem join_enc1 : ∀ (ds : List PyData) (d : PyData), Str.join (Str.ofString " ") (encS d :: ds.map encS) = strOf (encL d ++ encMore ds)
  | [], d => by rw [List.map_nil, encMore, List.append_nil]; rfl
  | e :: ds, d => by
    rw [List.map_cons, PyProof.Rows.join_cons_cons, join_enc1 ds e, encMore]
    have e1 : Str.ofString " " = strOf [32] := by decide +kernel
    rw [e1]
    unfold encS
    rw [strOf_app, strOf_app, List.append_assoc]; rfl
theorem join_enc : ∀ ds : List PyData, Txt.join (Str.ofString " ") (ds.map encS) = strOf (encAll ds)
  | [] => by
    rw [show Txt.join (Str.ofString " ") ([].map encS) = Str.join (Str.ofString " ") ([].map encS) from StrLaws.glued_eq_join _ _]; rfl
  | d :: ds => by
    rw [show Txt.join (Str.ofString " ") ((d :: ds).map encS) = Str.join (Str.ofString " ") ((d :: ds).map encS) from StrLaws.glued_eq_join _ _, List.map_cons, join_enc1, encAll]
/-! ### show's way with quotes and strokes -/
theorem repl_cons {c x : Nat} {w r : List Nat} : StrLaws.replL [c] w (x :: r) = (if x = c then w else [x]) ++ StrLaws.replL [c] w r := by
  by_cases h : x = c
  · rw [if_pos h, StrLaws.replL_hit (by simp) (by rw [h]; rfl)]; rfl
  · rw [if_neg h, StrLaws.replL_miss (by intro e; exact h (by simpa using e))]; rfl
theorem repl_nil {c : Nat} {w : List Nat} : StrLaws.replL [c] w [] = [] := StrLaws.replL_nil
theorem esc_repl (l : List Nat) : StrLaws.replL [34] [92, 34] (StrLaws.replL [92] [92, 92] l) = escL l := by
  induction l with
  | nil => rw [repl_nil, repl_nil]; rfl
  | cons x r ih =>
    rw [repl_cons, escL, ← ih]
    by_cases h : x = 92
    · rw [if_pos h, if_pos (.inr h), h]
      show StrLaws.replL [34] [92, 34] (92 :: 92 :: _) = 92 :: 92 :: _
      rw [repl_cons, repl_cons, if_neg (by decide)]; rfl
    · rw [if_neg h]
      show StrLaws.replL [34] [92, 34] (x :: _) = _
      rw [repl_cons]
      by_cases h2 : x = 34
      · rw [if_pos h2, if_pos (.inl h2), h2]; rfl
      · rw [if_neg h2, if_neg (by rintro (e | e); exact h2 e; exact h e)]; rfl
theorem show_repl (z : Str) : Txt.replace (Txt.replace z (Str.ofString "\\") (Str.ofString "\\\\")) (Str.ofString "\"") (Str.ofString "\\\"") = strOf (escL z.cps.toList) := by
  refine PySem.W.str_of_cps ?_
  have e1 : (Str.ofString "\\").cps.toList = [92] := by decide +kernel
  have e2 : (Str.ofString "\\\\").cps.toList = [92, 92] := by decide +kernel
  have e3 : (Str.ofString "\"").cps.toList = [34] := by decide +kernel
  have e4 : (Str.ofString "\\\"").cps.toList = [92, 34] := by decide +kernel
  rw [StrLaws.replace_list (by decide +kernel), StrLaws.replace_list (by decide +kernel), e1, e2, e3, e4, esc_repl]; rfl
theorem repl_len (z : Str) : (Txt.replace z (Str.ofString "\\") (Str.ofString "\\\\")).length ≤ 2 * z.length := by
  have e1 : (Str.ofString "\\").cps.toList = [92] := by decide +kernel
  have e2 : (Str.ofString "\\\\").cps.toList = [92, 92] := by decide +kernel
  rw [str_len, str_len, StrLaws.replace_list (by decide +kernel), e1, e2]
  generalize z.cps.toList = l
  induction l with
  | nil => rw [repl_nil]; exact Nat.le_refl _
  | cons x r ih =>
    rw [repl_cons, List.length_append, List.length_cons]
    split
    · simp only [List.length_cons, List.length_nil]; omega
    · simp only [List.length_cons, List.length_nil]; omega
/-! ### how long -/
theorem intL_len {i : Int} (h : numOk i) : (intL i).length ≤ 61 := by
  rcases intL_cases h with ⟨m, h1, h2, h3⟩ | ⟨m, h1, h2, h3⟩
  · rw [h2]; have := numL_60 h3; omega
  · rw [h2, List.length_cons]; have := numL_60 h3; omega
theorem encMore_len {n : Nat} : ∀ {ds : List PyData}, (∀ d ∈ ds, (encL d).length ≤ n) → (encMore ds).length ≤ ds.length * (n + 1)
  | [], _ => Nat.zero_le _
  | d :: ds, h => by
    have h1 := h d (List.mem_cons_self ..)
    have h2 := encMore_len fun e he => h e (List.mem_cons_of_mem _ he)
    rw [encMore, List.length_cons, List.length_append, List.length_cons, Nat.succ_mul]
    omega
theorem encAll_len {n : Nat} {ds : List PyData} (h : ∀ d ∈ ds, (encL d).length ≤ n) : (encAll ds).length ≤ ds.length * (n + 1) := by
  cases ds with
  | nil => exact Nat.zero_le _
  | cons d ds =>
    have := encMore_len h
    rw [encMore, List.length_cons, List.length_append] at this
    rw [encAll, List.length_append]
    omega
theorem encL_len : ∀ {r : Nat} {d : PyData}, isK r d → (encL d).length ≤ 100 * 5 ^ r
  | r, d, h => by
    rcases isK_cases h with ⟨i, rfl, hi⟩ | ⟨z, rfl, hz⟩ | ⟨r1, ds, rfl, rfl, hl, hs⟩
    · rw [encL]
      exact Nat.le_trans (intL_len hi) (Nat.le_trans (by decide) (Nat.le_mul_of_pos_right 100 (Nat.pow_pos (by decide))))
    · rw [encL]
      have h1 := escL_len z.cps.toList
      have h2 := hz.1
      rw [str_len] at h2
      have h3 : 100 ≤ 100 * 5 ^ r := Nat.le_mul_of_pos_right 100 (Nat.pow_pos (by decide))
      simp only [List.length_cons, List.length_append, List.length_nil]
      omega
    · rw [encL]
      have h1 := encAll_len (n := 100 * 5 ^ r1) fun d hd => encL_len (hs d hd)
      have h2 : ds.length * (100 * 5 ^ r1 + 1) ≤ 4 * (100 * 5 ^ r1 + 1) := Nat.mul_le_mul_right _ hl
      have h3 : 100 ≤ 100 * 5 ^ r1 := Nat.le_mul_of_pos_right 100 (Nat.pow_pos (by decide))
      rw [Nat.pow_succ]
      simp only [List.length_cons, List.length_append, List.length_nil]
      omega
theorem encL_small {d : PyData} (h : isK 3 d) : (encL d).length ≤ 12500 := encL_len h
theorem sg_eqC (x c : Nat) (s : String) (h : Str.ofString s = ⟨#[c]⟩) : decide ((⟨#[x]⟩ : Str) = Str.ofString s) = decide (x = c) := sg_eq x c s h
theorem put_b (l : List Nat) : strOf l ++ Str.ofString "\\" = strOf (l ++ [92]) := by rw [show Str.ofString "\\" = strOf [92] by decide +kernel, strOf_app]
theorem put_1 (l : List Nat) (c : Nat) : strOf l ++ (⟨#[c]⟩ : Str) = strOf (l ++ [c]) := strOf_app l [c]
theorem quoted (l : List Nat) : Str.ofString "\"" ++ strOf l ++ Str.ofString "\"" = strOf (34 :: (l ++ [34])) := by
  rw [show Str.ofString "\"" = strOf [34] by decide +kernel, strOf_app, strOf_app]; rfl
theorem braced (l : List Nat) : Str.ofString "(" ++ strOf l ++ Str.ofString ")" = strOf (40 :: (l ++ [41])) := by
  rw [show Str.ofString "(" = strOf [40] by decide +kernel, show Str.ofString ")" = strOf [41] by decide +kernel, strOf_app, strOf_app]; rfl
theorem len_q : (Str.ofString "\"").length = 1 := by decide +kernel
theorem len_b : (Str.ofString "\\").length = 1 := by decide +kernel
theorem len_o : (Str.ofString "(").length = 1 := by decide +kernel
theorem len_c : (Str.ofString ")").length = 1 := by decide +kernel
theorem len_s : (Str.ofString " ").length = 1 := by decide +kernel
theorem sum_encS {n : Nat} : ∀ {ds : List PyData}, (∀ d ∈ ds, (encL d).length ≤ n) → ((ds.map encS).map (·.length)).sum ≤ ds.length * n
  | [], _ => Nat.zero_le _
  | d :: ds, h => by
    have h1 := h d (List.mem_cons_self ..)
    have h2 := sum_encS fun e he => h e (List.mem_cons_of_mem _ he)
    have h3 : (encS d).length = (encL d).length := strOf_len _
    rw [List.map_cons, List.map_cons, List.sum_cons, List.length_cons, Nat.succ_mul, h3]
    omega
theorem x_revL {K : PySem.W.Frag} {te : TE} {σ : L2.St} {H : Hp} {Q : VK} (q : te σ H fun x H1 => ∃ a xs, x = .ref a ∧ SqL K H1 a xs ∧ ∀ p, Fresh H1 p → Q (.ref p) (upd H1 p (.lst xs.reverse))) : tRevL K te σ H Q := q
end Tw

/-! TwI: refusals with a field: made, raised, held, asked. -/
namespace Tw
open PySem PySem.Spec PyProof.Rows L2
/-- the j-th def of a class -/
def inClass : Stmt → Nat → Stmt
  | .ClassDef _ _ _ b _ _ _ _ _ _ _, j => b.getD j (.Pass ⟨0, 0, 0, 0⟩)
  | s, _ => s
/-- a class whose refusals bear one thing, under f -/
structure OwnTX (K : PySem.W.Frag) (mg : Str → Option Value) (x f : Str) : Prop where
  m : mg x = some (.ref (clA mg x))
  o : OexC K (clA mg x)
  xf : XfC K (clA mg x)
  no : PySem.W.findIn K (.ref (clA mg x)) f = some none
/-- where its maker's own text stands -/
structure DefM (K : PySem.W.Frag) (mg : Str → Option Value) (x q : Str) (ps : List Str) (st : Stmt) : Prop where
  ex : ∃ fI fd, Fun K "__init__" q st fI fd ∧ PySem.W.findIn K (.ref (clA mg x)) "__init__" = some (some (.ref fI)) ∧ PySem.W.typeIn K (.ref fI) = some (.type "function") ∧ Binds K fd ps []
/-- what the maker's own text does with a raw one -/
def SpI (C : Addr) (f : Str) : Sp := Sp2 fun self y H Q _ => ∃ a, self = .ref a ∧ H a = some (exo a C none) ∧ ∀ dx, H dx = none → dx ≠ a → Q .non (upd (upd H dx (exd dx [(f, y)])) a (exo a C (some dx)))
structure MkX (P : Program) (w : World) (K : PySem.W.Frag) (mg : Str → Option Value) (base : Heap) (k : Nat) (x f : Str) : Prop where
  ex : ∃ fI fd ps, FnOk P w K mg base (L2.CX P w) k fI fd ps (SpI (clA mg x) f) ∧ PySem.W.findIn K (.ref (clA mg x)) "__init__" = some (some (.ref fI)) ∧ PySem.W.typeIn K (.ref fI) = some (.type "function") ∧ Binds K fd ps []
section
variable {X : Cx} {C : Addr}
theorem upd_del {H : Hp} {a dx : Addr} {e0 e1 e2 e3 : HO} (h : H a = none) (hn : dx ≠ a) : upd (del (upd (upd (upd H a e0) dx e1) a e2) a) dx e3 = upd H dx e3 := by
  funext b
  by_cases h1 : b = dx
  · subst h1; rw [upd_same, upd_same]
  · rw [upd_ne h1, upd_ne h1]
    by_cases h2 : b = a
    · subst h2
      rw [h]
      exact del_same
    · rw [del_ne h2, upd_ne h2, upd_ne h1, upd_ne h2]
/-- C(..), raised -/
def rMkI (C : Addr) (f : Str) (Q : XK) : List V → Hp → Prop := fun vs H1 => vs.length ≤ 1000 ∧ ∀ a, H1 a = none → SpI C f (.ref a :: (vs ++ [])) (upd H1 a (exo a C none)) (fun v H2 => v = .non ∧ ∃ (d : Addr) (fs : List (Str × V)), H2 a = some (exo a C (some d)) ∧ H2 d = some (exd d fs) ∧ H1 d = none ∧ Q (.ref C) (some d) (upd (del H2 a) d (.xd fs))) (fun _ _ _ => False)
def tMkI (C : Addr) (f : Str) (ta : TA) : L2.St → Hp → XK → Prop := fun σ H Q => ta σ H (rMkI C f Q)
theorem x_mkI0 {f : Str} {Q : XK} {y : V} {H : Hp} (q : ∀ d, Fresh H d → Q (.ref C) (some d) (upd H d (.xd [(f, y)]))) : rMkI C f Q [y] H := by
  refine ⟨Nat.le_trans (Nat.le_refl 1) (by decide), fun a na => ⟨.ref a, y, by simp, a, rfl, upd_same, fun dx nd hne => ⟨rfl, dx, [(f, y)], upd_same, ?_, ?_, ?_⟩⟩⟩
  · rw [upd_ne hne, upd_same]
  · rw [upd_ne hne] at nd; exact nd
  · rw [upd_del na hne]
    refine q dx ?_
    rw [upd_ne hne] at nd; exact nd
theorem pmk_I {k j : Nat} {x f : Str} {p pos : Pos} {e : Expr} {es : List Expr} {ta : TA} (M : MkX X.prog X.w X.K X.mg X.base k x f) (T : OwnTX X.K X.mg x f) (hr : Room j X.A) (hk : k + 1 ≤ j) (hg : Gl X x) (ha : PA X (e :: es) ta)
    (hdb : (x == ("__debug__" : Str)) = false := by decide) (he : starEach (e :: es) X.env = (false, eval e X.env) :: starEach es X.env := by rfl) (hpl : (backTo pos (starEach es X.env)).any (·.1) = false := by rfl) :
    PMk X (.Call (.Name x p) (e :: es) [] pos) (tMkI (clA X.mg x) f ta) := by
  obtain ⟨fI, fd, ps, F, iC, tI, hb⟩ := M.ex
  exact pmk_oex (pos := pos) (p := p) T.o iC tI F (hr.mono hk) hb .nil (fun _ _ _ _ _ _ _ h => by obtain ⟨_, _, _, _, _, _, _, _, _, _, _, _, h⟩ := h; exact h.elim) hg T.m ha hdb he hpl
/-- raise C(..) -/
def tRaiseI (W : WX) (C : Addr) (f : Str) (ta : TA) : TS := fun _ σ H => tMkI C f ta σ H fun cls d H' => W cls d σ H'
theorem ps_raiseI {W : WX} {e : Expr} {pos : Pos} {f : Str} {ta : TA} (hc : X.calm = true) (tk : Takes X W) (he : PMk X e (tMkI C f ta)) : PS X (.Raise (some e) none pos) (tRaiseI W C f ta) := ps_raise hc tk he
theorem x_raiseI {E : XK} {D : Ends} {σ : L2.St} {H : Hp} {f : Str} {ta : TA} (q : ta σ H (rMkI C f E)) : tRaiseI (fun cls d _ H => E cls d H) C f ta D σ H := q
/-- C(..), held -/
def rMkV (C : Addr) (f : Str) (Q : VK) : List V → Hp → Prop := fun vs H1 => vs.length ≤ 1000 ∧ ∀ a, H1 a = none → SpI C f (.ref a :: vs) (upd H1 a (exo a C none)) (fun v H2 => v = .non ∧ Q (.ref a) H2) (fun _ _ _ => False)
def tMkV (C : Addr) (f : Str) (ta : TA) : TE := fun σ H Q => ta σ H (rMkV C f Q)
theorem x_mkV0 {f : Str} {Q : VK} {y : V} {H : Hp} (q : ∀ a d, Fresh H a → Fresh H d → d ≠ a → Q (.ref a) (upd (upd H d (exd d [(f, y)])) a (exo a C (some d)))) : rMkV C f Q [y] H := by
  refine ⟨Nat.le_trans (Nat.le_refl 1) (by decide), fun a na => ⟨.ref a, y, rfl, a, rfl, upd_same, fun dx nd hne => ?_⟩⟩
  have nd' : Fresh H dx := by
    rw [upd_ne hne] at nd; exact nd
  have e : upd (upd (upd H a (exo a C none)) dx (exd dx [(f, y)])) a (exo a C (some dx)) = upd (upd H dx (exd dx [(f, y)])) a (exo a C (some dx)) := by
    funext b
    by_cases h2 : b = a
    · subst h2; rw [upd_same, upd_same]
    · rw [upd_ne h2, upd_ne h2]
      by_cases h1 : b = dx
      · subst h1; rw [upd_same, upd_same]
      · rw [upd_ne h1, upd_ne h1, upd_ne h2]
  refine ⟨rfl, ?_⟩
  rw [e]
  exact q a dx na nd' hne
theorem pe_mkV {k j : Nat} {x f : Str} {p pos : Pos} {e : Expr} {es : List Expr} {ta : TA} (M : MkX X.prog X.w X.K X.mg X.base k x f) (T : OwnTX X.K X.mg x f) (hr : Room j X.A) (hk : k + 1 ≤ j) (hg : Gl X x) (ha : PA X (e :: es) ta)
    (hdb : (x == ("__debug__" : Str)) = false := by decide) (he : starEach (e :: es) X.env = (false, eval e X.env) :: starEach es X.env := by rfl) (hpl : (backTo pos (starEach es X.env)).any (·.1) = false := by rfl) :
    PE X (.Call (.Name x p) (e :: es) [] pos) (tMkV (clA X.mg x) f ta) := by
  obtain ⟨fI, fd, ps, FI, iC, tI, hb⟩ := M.ex
  obtain ⟨nm, qn, N, bs, bm, sn, sub, ab, col, dd, k0, k1, k2, k3, k5, hC, hbm⟩ := T.o.cls
  refine ⟨fun pins s σ H Q I h => ?_⟩
  refine wpAny_Call_Name_kw (ld_glob I hg T.m ?_ hdb)
  refine PySem.W.callWith_K I.kIn T.o.kC (thn (ha.run pos pins _ σ H _ (I.tok _) h) fun us s1 ⟨vs, H1, I1, r1, hz, q1⟩ => ⟨I1.kIn, ?_⟩) he hpl
  obtain ⟨hp, g, dr, tk, os⟩ := s1
  have hn : H1 (hp.objs.size + 1) = none := I1.hok.fresh (Nat.le_succ _)
  have hq := q1 _ hn
  have kk : ∀ (b : Addr) (o : Obj), hp.get? b = some o → ((hp.push (PySem.W.kdv_tup us)).push (HandSPX.excO (clA X.mg x) hp.objs.size)).get? b = some o := fun b o e => Heap.get?_push_of_some _ (Heap.get?_push_of_some _ e)
  have hget : ((hp.push (PySem.W.kdv_tup us)).push (HandSPX.excO (clA X.mg x) hp.objs.size)).get? (hp.objs.size + 1) = some (HandSPX.excO (clA X.mg x) hp.objs.size) := Heap.get?_push_at (by simp) rfl
  have I2 : L2.Inv X pins σ (upd H1 (hp.objs.size + 1) (exo (hp.objs.size + 1) (clA X.mg x) none)) ⟨(hp.push (PySem.W.kdv_tup us)).push (HandSPX.excO (clA X.mg x) hp.objs.size), g, dr, tk, os⟩ := Inv.laid (t' := tk) I1 kk (Nat.le_succ _) (exo_ok hget)
  have r2 : Vals (.ref (hp.objs.size + 1) :: vs) (.ref (hp.objs.size + 1) :: us) := Paired.cons rfl r1
  have hl : (Value.ref (hp.objs.size + 1) :: us).length = ps.length := by rw [← Vals.length r2]; exact FI.len _ _ _ _ hq
  have hus : us.length ≤ sizeLine := by
    rw [← Paired.length r1, sizeLine_eq]; omega
  refine wpAny_call (HandSPX.call_own F.excBase_ValueError (fun Y => HandSPX.refsVE_contains Y bm hbm) (I1.kIn _ _ hC) (PySem.W.looks_findIn I1.kIn iC) (fun self => PySem.W.bind_fn I1.kIn self tI) hus ?_)
  refine codeAny_mono (FI.run _ X.stack _ _ _ (.ref (hp.objs.size + 1) :: us) _ _ _ ((hr.mono hk).make _ us []) (I2.env0.make _ us []) (by have z := hb _ (.ref (hp.objs.size + 1) :: us) I2.kIn (by rw [List.append_nil]; exact hl); rwa [List.append_nil] at z) r2 hq) ?_
  intro r s' hq'
  cases r with
  | error er =>
    obtain ⟨_, _, _, _, _, _, _, _, _, _, _, _, z⟩ := hq'
    exact z.elim
  | ok fl =>
    cases fl with
    | ret u =>
      obtain ⟨v, H2, os2, bare2, un2, hok2, rv, rfl, q2⟩ := hq'
      cases (show u = Value.none from rv)
      exact ⟨rfl, .ref (hp.objs.size + 1), H2, I2.call' (ch := []) os2 un2 hok2 bare2 (fun _ h => nomatch h), rfl, q2⟩
    | _ => exact hq'.elim
/-- C(), held -/
def tExc0 (C : Addr) : TE := fun _ H Q => ∀ a, Fresh H a → Q (.ref a) (upd H a (ExO (.ref C) a))
theorem pe_exc0 {bmB : List Value} {B newId initId : String} {x : Str} {p pos : Pos} (F : ExcBaseFacts B newId initId bmB) (q : PySem.W.excIn X.K C bmB newId = true) (gC : X.mg x = some (.ref C)) (kC : PySem.W.keepIn X.K (.ref C) = true) (hg : Gl X x)
    (hdb : (x == ("__debug__" : Str)) = false := by decide) : PE X (.Call (.Name x p) [] [] pos) (tExc0 C) := by
  refine ⟨fun pins s σ H Q I h => ?_⟩
  refine wpAny_Call_Name_kw (ld_glob I hg gC ?_ hdb)
  refine PySem.W.callWith_K0 (f := .ref C) I.kIn kC ?_
  show wpAny _ _ (call (.ref C) []) _ _ _
  obtain ⟨bm, N, nm, qn, bs, hdct, sn, sub, ab, col, dd, k0, k1, k2, k3, k5, mN, hC, hN, hni, T⟩ := exc_obj I.kIn q
  refine wpAny_call_exc_subT F T hC hN hni (fun h' a hm => ?_) (Nat.zero_le _)
  have hn := I.hok.gone hm.new
  obtain ⟨t, ht, _, _⟩ := hm.there
  exact ⟨.ref a, upd H a (ExO (.ref C) a), I.laidN hm.keeps hm.new hn (exO_ok ht ⟨rfl, rfl⟩ rfl rfl rfl (by show 4 < 6; decide)), rfl, h a hn⟩
theorem x_exc0 {σ : L2.St} {H : Hp} {Q : VK} (q : ∀ a, Fresh H a → Q (.ref a) (upd H a (ExO (.ref C) a))) : tExc0 C σ H Q := q
/-- the maker's own text: Base.__init__(self, ..); self.f = y -/
theorem x_init {K : PySem.W.Frag} {f : Str} {a : Addr} {y : V} {H : Hp} {Q : VK} {m : Str} (T : OexC K C) (no : PySem.W.findIn K (.ref C) f = some none) (ha : H a = some (exo a C none)) (q : ∀ dx, H dx = none → dx ≠ a → Q .non (upd (upd H dx (exd dx [(f, y)])) a (exo a C (some dx)))) :
    tSeq (tDrop (tVeI K (tCons (tVar 0) (tCons (tC (.str m)) tNil)))) (tOst K f (tVar 0) (tVar 1)) { nx := fun _ H' => Q .non H', rt := Q } [some (.ref a), some y] H :=
  ⟨.ref a, rfl, a, C, [.str m], rfl, Nat.le_trans (Nat.le_refl 1) (by decide), T, ha, ⟨y, rfl, .ref a, rfl, a, C, rfl, T, no, .inl ⟨ha, fun dx hd hn => q dx hd hn⟩⟩⟩
/-! ### a held one -/
/-- at a stands a refusal of the class C -/
def Held (H : Hp) (a C : Addr) : Prop := H a = some (ExO (.ref C) a) ∨ ∃ d fs, H a = some (exo a C (some d)) ∧ H d = some (exd d fs)
/-- at a stands a refusal of the class C that bears y under f -/
def HeldF (H : Hp) (a C : Addr) (f : Str) (y : V) : Prop := ∃ d, H a = some (exo a C (some d)) ∧ H d = some (exd d [(f, y)])
theorem HeldF.held {H : Hp} {a C : Addr} {f : Str} {y : V} (h : HeldF H a C f y) : Held H a C := by
  obtain ⟨d, h1, h2⟩ := h
  exact .inr ⟨d, _, h1, h2⟩
theorem Held.keep {H H' : Hp} {a C : Addr} (h : Held H a C) (f : ∀ b o, H b = some o → H' b = some o) : Held H' a C := by
  rcases h with h | ⟨d, fs, h1, h2⟩
  · exact .inl (f _ _ h)
  · exact .inr ⟨d, fs, f _ _ h1, f _ _ h2⟩
theorem HeldF.keep {H H' : Hp} {a C : Addr} {n : Str} {y : V} (h : HeldF H a C n y) (f : ∀ b o, H b = some o → H' b = some o) : HeldF H' a C n y := by
  obtain ⟨d, h1, h2⟩ := h
  exact ⟨d, f _ _ h1, f _ _ h2⟩
theorem Fr.all {H H' : Hp} (f : Fr Non H H') : ∀ b o, H b = some o → H' b = some o := fun b o h => f.keep b o h id
/-- what stands there -/
theorem Held.inst {pins : List (Addr × Obj)} {σ : L2.St} {H : Hp} {s : Shared} {a : Addr} (I : L2.Inv X pins σ H s) (h : Held H a C) : ∃ ox od, PySem.W.InstAt s.heap a ox C od := by
  rcases h with h | ⟨d, fs, h1, h2⟩
  · obtain ⟨⟨oe, vs, e1, e2, e3, _⟩, _⟩ := I.hok a _ h
    obtain ⟨oc, od, oda, osl⟩ := oe
    obtain ⟨h1, h2⟩ := e2
    dsimp only at h1 h2 e3
    subst h1 h2 e3
    exact ⟨_, none, e1, rfl, rfl, trivial⟩
  · obtain ⟨⟨t1, e1⟩, _⟩ := I.hok a _ h1
    obtain ⟨⟨mA, hns, hr⟩, _⟩ := I.hok d _ h2
    obtain ⟨od, ho, _⟩ := lookIn_ns hns
    exact ⟨_, some od, e1, rfl, rfl, ho⟩
structure HoldC (K : PySem.W.Frag) (C : Addr) : Prop where
  cl : (PySem.W.clsIn K C).isSome = true
  ex : ExcC K C
def rIsV (K : PySem.W.Frag) : List V → Hp → VK → Prop := fun xs H Q => ∃ (a D : Addr) (c : V) (cv : Value) (b : Bool), Held H a D ∧ HoldC K D ∧ xs = [.ref a, c] ∧ ClsV c cv ∧ PySem.W.kitOne K (.ref D) cv = some b ∧ Q (.bl b) H
theorem call_isV : CallR X (.builtin "isinstance") (rIsV X.K) := by
  intro pins s σ H xs us Q I r h
  obtain ⟨a, D, c, cv, b, hh, hC, rfl, hv, e, q⟩ := h
  obtain ⟨u1, u2, rfl, r1, r2⟩ := vals2 r
  cases (show u1 = Value.ref a from r1)
  cases hv.eq r2
  obtain ⟨ox, od, J⟩ := hh.inst I
  have C := hC.ex
  exact PySem.W.kia_one (PySem.W.kitx_exc hC.cl C.hg C.hk C.hs C.ha C.hn C.ht C.hm) I.kIn J e (fun z => nomatch z) fun tk => ⟨.bl b, H, I.kept (t' := tk) fun _ _ z => z, rfl, q⟩
theorem x_isV {K : PySem.W.Frag} {a D : Addr} {c : V} {cv : Value} {b : Bool} {H : Hp} {Q : VK} (hh : Held H a D) (hC : HoldC K D) (hv : ClsV c cv) (e : PySem.W.kitOne K (.ref D) cv = some b) (q : Q (.bl b) H) : rIsV K [.ref a, c] H Q := ⟨a, D, c, cv, b, hh, hC, rfl, hv, e, q⟩
def rIsVT (K : PySem.W.Frag) : List V → Hp → VK → Prop := fun xs H Q => ∃ (a D tp : Addr) (cs : List V) (us : List Value) (b : Bool), Held H a D ∧ HoldC K D ∧ xs = [.ref a, .ref tp] ∧ H tp = some (.tup cs) ∧ Paired ClsV cs us ∧ PySem.W.kitAny K (.ref D) us = some b ∧ Q (.bl b) H
theorem call_isVT : CallR X (.builtin "isinstance") (rIsVT X.K) := by
  intro pins s σ H xs us Q I r h
  obtain ⟨a, D, tp, cs, ws, b, hh, hC, rfl, hT, k, e, q⟩ := h
  obtain ⟨u1, u2, rfl, r1, r2⟩ := vals2 r
  cases (show u2 = Value.ref tp from r2)
  cases (show u1 = Value.ref a from r1)
  obtain ⟨_, its, rv, o, h1, h2, n, h3⟩ := (show ObjOk X.prog X.w H s.heap tp (.tup cs) from I.hok tp _ hT)
  have e3 := ClsV.all k rv
  subst e3
  obtain ⟨oc, od, dt, sl⟩ := o
  simp only at h2 h3
  subst h2 h3
  obtain ⟨ox, od, J⟩ := hh.inst I
  have C := hC.ex
  exact PySem.W.kia_tup (PySem.W.kitx_exc hC.cl C.hg C.hk C.hs C.ha C.hn C.ht C.hm) I.kIn J h1 e (fun z => nomatch z) fun tk => ⟨.bl b, H, I.kept (t' := tk) fun _ _ z => z, rfl, q⟩
theorem x_isVT {K : PySem.W.Frag} {a D tp : Addr} {cs : List V} {us : List Value} {b : Bool} {H : Hp} {Q : VK} (hh : Held H a D) (hC : HoldC K D) (hT : H tp = some (.tup cs)) (hv : Paired ClsV cs us) (e : PySem.W.kitAny K (.ref D) us = some b) (q : Q (.bl b) H) : rIsVT K [.ref a, .ref tp] H Q := ⟨a, D, tp, cs, us, b, hh, hC, rfl, hT, hv, e, q⟩
/-- e.n -/
def tXg (K : PySem.W.Frag) (n : Str) (te : TE) : TE := fun σ H Q => te σ H fun x H1 => ∃ (a D : Addr) (y : V), x = .ref a ∧ XfC K D ∧ PySem.W.findIn K (.ref D) n = some none ∧ HeldF H1 a D n y ∧ Q y H1
theorem pe_xg {e : Expr} {te : TE} {pos : Pos} {n : Str} (he : PE X e te) (hb : attributeBase e n X.env (eval e X.env) = eval e X.env := by rfl) : PE X (.Attribute e n pos) (tXg X.K n te) := by
  refine ⟨fun pins s σ H Q I h => ?_⟩
  refine attr_of hb (thn (he.run pins s σ H _ I h) fun u s1 ⟨x, H1, I1, rx, a, D, y, ex, T, hno, ⟨d, h1, h2⟩, q⟩ => ?_)
  subst ex
  cases (show u = Value.ref a from rx)
  obtain ⟨⟨t1, e1⟩, _⟩ := I1.hok a _ h1
  obtain ⟨⟨mA, hns, hr⟩, _⟩ := I1.hok d _ h2
  obtain ⟨od, ho, hl⟩ := lookIn_ns hns
  have hy : RelO (some y) (mA n) := by
    have z := hr n
    rwa [show List.lookup n [(n, y)] = some y by simp [List.lookup]] at z
  obtain ⟨u, hu, ru⟩ := RelO.some_of hy
  have J : PySem.W.InstAt s1.heap a _ D (some od) := ⟨e1, rfl, rfl, ho⟩
  exact HandSPX.exc_get I1.kIn J T.ga T.gg T.exC (PySem.W.findObj_own T.hdC hno rfl (by rw [hl n, hu])) (handed_of ru) ⟨y, H1, I1.tok _, ru, q⟩
theorem x_xg {K : PySem.W.Frag} {n : Str} {a D : Addr} {y : V} {H : Hp} {Q : VK} (T : XfC K D) (hno : PySem.W.findIn K (.ref D) n = some none) (hh : HeldF H a D n y) (q : Q y H) : ∃ (a' D : Addr) (y : V), V.ref a = .ref a' ∧ XfC K D ∧ PySem.W.findIn K (.ref D) n = some none ∧ HeldF H a' D n y ∧ Q y H := ⟨a, D, y, rfl, T, hno, hh, q⟩
end
theorem x_xgV {K : PySem.W.Frag} {n : Str} {i : Nat} {a D : Addr} {y : V} {σ : L2.St} {H : Hp} {Q : VK} (hv : σ[i]? = some (some (.ref a))) (T : XfC K D) (hno : PySem.W.findIn K (.ref D) n = some none) (hh : HeldF H a D n y) (q : Q y H) : tXg K n (tVar i) σ H Q := ⟨.ref a, hv, a, D, y, rfl, T, hno, hh, q⟩
theorem x_mkV {C : Addr} {f : Str} {ta : TA} {σ : L2.St} {H : Hp} {Q : VK} (q : ta σ H (rMkV C f Q)) : tMkV C f ta σ H Q := q
theorem x_exc0A {C : Addr} {σ : L2.St} {H : Hp} {Q : VK} (q : ∀ a H', Fr Non H H' → Held H' a C → Q (.ref a) H') : tExc0 C σ H Q := fun a na => q a _ (Fr.new (Fr.refl H) na) (.inl upd_same)
theorem x_mkVA {C : Addr} {f : Str} {Q : VK} {y : V} {H : Hp} (q : ∀ a H', Fr Non H H' → HeldF H' a C f y → Q (.ref a) H') : rMkV C f Q [y] H := x_mkV0 fun a d na nd hn => q a _ (Fr.new (Fr.new (Fr.refl H) nd) (by show upd H d _ a = none; rw [upd_ne (Ne.symm hn)]; exact na)) ⟨d, upd_same, by rw [upd_ne hn]; exact upd_same⟩
theorem keepN {H : Hp} {p : Addr} {u : HO} (n : Fresh H p) : ∀ b o, H b = some o → upd H p u b = some o := fun b o e => (upd_ne (ne_fr e n)).trans e
/-! ### the fifteen -/
def names15 : List Str := ["NoKey", "NoLeaf", "NoStem", "NoText", "NoPlace", "NotRising", "NoRow", "NoTwig", "NotHeld", "Shared", "NoVersion", "Overlap", "Stale", "NoName", "Taken"]
def flds15 : List Str := ["", "", "", "at", "at", "at", "at", "number", "number", "number", "number", "key", "key", "name", "name"]
def clK (mg : Str → Option Value) (k : Nat) : Addr := (names15.map (clA mg)).getD k 0
def flK (k : Nat) : Str := flds15.getD k ""
def kgOne (K : PySem.W.Frag) (cs : List Addr) (te : Addr) (i : Nat) : Bool :=
  (PySem.W.clsIn K (cs.getD i 0)).isSome && (excCB K (cs.getD i 0) && (decide (PySem.W.kitOne K (.ref (cs.getD i 0)) (.ref te) = some true) && (decide (PySem.W.kitOne K (.ref (cs.getD i 0)) (.type "ValueError") = some true) &&
  ((List.range 15).all (fun j => decide (PySem.W.kitOne K (.ref (cs.getD i 0)) (.ref (cs.getD j 0)) = some (decide (i = j)))) &&
  (decide (PySem.W.kitAny K (.ref (cs.getD i 0)) [.ref (cs.getD 3 0), .ref (cs.getD 4 0), .ref (cs.getD 5 0), .ref (cs.getD 6 0)] = some (decide (3 ≤ i ∧ i < 7))) &&
  (decide (PySem.W.kitAny K (.ref (cs.getD i 0)) [.ref (cs.getD 7 0), .ref (cs.getD 8 0), .ref (cs.getD 9 0), .ref (cs.getD 10 0)] = some (decide (7 ≤ i ∧ i < 11))) &&
  decide (PySem.W.kitAny K (.ref (cs.getD i 0)) [.ref (cs.getD 11 0), .ref (cs.getD 12 0)] = some (decide (11 ≤ i ∧ i < 13)))))))))
def kgrid (K : PySem.W.Frag) (cs : List Addr) (te : Addr) : Bool := (List.range 15).all (kgOne K cs te)
structure KgOne (K : PySem.W.Frag) (cs : List Addr) (te : Addr) (i : Nat) : Prop where
  hold : HoldC K (cs.getD i 0)
  te : PySem.W.kitOne K (.ref (cs.getD i 0)) (.ref te) = some true
  ve : PySem.W.kitOne K (.ref (cs.getD i 0)) (.type "ValueError") = some true
  on : ∀ j, j < 15 → PySem.W.kitOne K (.ref (cs.getD i 0)) (.ref (cs.getD j 0)) = some (decide (i = j))
  a1 : PySem.W.kitAny K (.ref (cs.getD i 0)) [.ref (cs.getD 3 0), .ref (cs.getD 4 0), .ref (cs.getD 5 0), .ref (cs.getD 6 0)] = some (decide (3 ≤ i ∧ i < 7))
  a2 : PySem.W.kitAny K (.ref (cs.getD i 0)) [.ref (cs.getD 7 0), .ref (cs.getD 8 0), .ref (cs.getD 9 0), .ref (cs.getD 10 0)] = some (decide (7 ≤ i ∧ i < 11))
  a3 : PySem.W.kitAny K (.ref (cs.getD i 0)) [.ref (cs.getD 11 0), .ref (cs.getD 12 0)] = some (decide (11 ≤ i ∧ i < 13))
theorem kg_of {K : PySem.W.Frag} {cs : List Addr} {te : Addr} (h : kgrid K cs te = true) {i : Nat} (hi : i < 15) : KgOne K cs te i := by
  have z : kgOne K cs te i = true := List.all_eq_true.mp h i (List.mem_range.mpr hi)
  unfold kgOne at z
  simp only [Bool.and_eq_true, decide_eq_true_eq] at z
  obtain ⟨h1, h2, h3, h4, h5, h6, h7, h8⟩ := z
  refine ⟨⟨h1, excC_of h2⟩, h3, h4, fun j hj => ?_, h6, h7, h8⟩
  have y := List.all_eq_true.mp h5 j (List.mem_range.mpr hj)
  exact of_decide_eq_true y
/-- the fifteen made: es the refusals, ys what they were made of -/
structure Made (mg : Str → Option Value) (H : Hp) (es ys : List V) : Prop where
  le : es.length = 15
  at_ : ∀ k, k < 15 → ∃ a, es[k]? = some (.ref a) ∧ Held H a (clK mg k) ∧ (3 ≤ k → ∃ y, ys[k]? = some y ∧ HeldF H a (clK mg k) (flK k) y)
theorem len15 {α : Type} {ys : List α} (h : ys.length = 15) : ∃ y0 y1 y2 y3 y4 y5 y6 y7 y8 y9 y10 y11 y12 y13 y14, ys = [y0, y1, y2, y3, y4, y5, y6, y7, y8, y9, y10, y11, y12, y13, y14] :=
  match ys, h with
  | [_, _, _, _, _, _, _, _, _, _, _, _, _, _, _], _ => ⟨_, _, _, _, _, _, _, _, _, _, _, _, _, _, _, rfl⟩
theorem Made.keep {mg : Str → Option Value} {H H' : Hp} {es ys : List V} (h : Made mg H es ys) (f : ∀ b o, H b = some o → H' b = some o) : Made mg H' es ys := ⟨h.le, fun k hk => by
  obtain ⟨a, h1, h2, h3⟩ := h.at_ k hk
  refine ⟨a, h1, h2.keep f, fun h => ?_⟩
  obtain ⟨y, h4, h5⟩ := h3 h
  exact ⟨y, h4, h5.keep f⟩⟩
end Tw

/-! TwJ: sorted(xs, key=f), f an own def. -/
namespace Tw
open PySem PySem.W PySem.Spec PyProof.Rows L2
/-- the object at b is just o -/
def exactO (b : Addr) (o : Obj) : HO := .ext fun h => h.get? b = some o
theorem exact_ok {P : Program} {w : World} {H : Hp} {h : Heap} {b : Addr} {o : Obj} (e : h.get? b = some o) : ObjOk P w H h b (exactO b o) := ⟨e, ⟨o, e⟩, fun _ _ e1 k => k _ e1⟩
theorem exact_at {P : Program} {w : World} {H : Hp} {h : Heap} {b : Addr} {o : Obj} (hk : HOk P w H h) (e : H b = some (exactO b o)) : h.get? b = some o := (hk b _ e).1
theorem un_of {fs : List Addr} {H H' : Hp} {h h' : Heap} (hh : ∀ b o, h.get? b = some o → h'.get? b = some o) (hk : ∀ b o, H b = some o → H' b = some o) (hf : ∀ b o, h.get? b = some o → H b = none → H' b = none) : Un fs [] H H' h h' where
  keep := fun b o e _ _ _ => hh b o e
  slot := fun b o e _ _ _ => ⟨o.slots, hh b o e⟩
  free := fun b o e n _ => hf b o e n
  there := fun b o e _ => ⟨o, hh b o e⟩
  tups := fun b xs e => hk b _ e
  frzs := fun b o u e => hk b _ e
  tbls := fun b ps e => ⟨#[], by rw [Array.append_empty]; exact hk b _ e⟩
/-- what changes behind a frame at places that did not stand ahead of it -/
theorem un_more {fs : List Addr} {H H1 H2 : Hp} {h h1 h2 : Heap} (S : Addr → Prop) (un : Un fs [] H H1 h h1) (hS : ∀ b, S b → H b = none ∧ h.get? b = none) (hh : ∀ b o, ¬ S b → h1.get? b = some o → h2.get? b = some o) (hH : ∀ b, ¬ S b → H2 b = H1 b) : Un fs [] H H2 h h2 := by
  have hs1 : ∀ b (o : Obj), h.get? b = some o → ¬ S b := fun b o e s => by rw [(hS b s).2] at e; cases e
  have hs2 : ∀ b (o : HO), H b = some o → ¬ S b := fun b o e s => by rw [(hS b s).1] at e; cases e
  exact {
    keep := fun b o e n a c => hh b o (hs1 b o e) (un.keep b o e n a c)
    slot := fun b o e n a c => by
      obtain ⟨sl, z⟩ := un.slot b o e n a c
      exact ⟨sl, hh b _ (hs1 b o e) z⟩
    free := fun b o e n c => by rw [hH b (hs1 b o e)]; exact un.free b o e n c
    there := fun b o e c => by
      obtain ⟨o', z⟩ := un.there b o e c
      exact ⟨o', hh b _ (hs1 b o e) z⟩
    tups := fun b xs e => by rw [hH b (hs2 b _ e)]; exact un.tups b xs e
    frzs := fun b o u e => by rw [hH b (hs2 b _ e)]; exact un.frzs b o u e
    tbls := fun b ps e => by rw [hH b (hs2 b _ e)]; exact un.tbls b ps e }
/-- other things than own, tup stay what they are -/
theorem hok_more {P : Program} {w : World} {H1 H2 : Hp} {h1 h2 : Heap} (S : Addr → Prop) (hk : HOk P w H1 h1) (hS : ∀ b, S b → H1 b = none ∨ ∃ φ, H1 b = some (.ext φ)) (hh : ∀ b o, ¬ S b → h1.get? b = some o → h2.get? b = some o) (hH : ∀ b, ¬ S b → H2 b = H1 b)
    (hn : ∀ b o, S b → H2 b = some o → ObjOk P w H2 h2 b o) : HOk P w H2 h2 := by
  intro b o e
  by_cases hb : S b
  · exact hn b o hb e
  · rw [hH b hb] at e
    have no : ∀ c (u : HO), H1 c = some u → (∀ φ, u ≠ .ext φ) → ¬ S c := fun c u hc hu s => by
      rcases hS c s with z | ⟨φ, z⟩
      · rw [z] at hc; cases hc
      · rw [z] at hc; cases hc; exact hu φ rfl
    refine ObjOk.stay (hk b o e) (fun c u hc hu => ?_) (fun c hc => ?_) (fun c xs hc => ?_)
    · rcases hc with rfl | hc
      · exact hh _ u hb hu
      · exact hh c u (no c _ hc (fun φ z => by cases z)) hu
    · rw [hH c (no c _ hc (fun φ z => by cases z))]; exact hc
    · rw [hH c (no c _ hc (fun φ z => by cases z))]; exact hc
/-- the heap without what stands at b -/
def lessO (h : Heap) (b : Addr) : Heap := h.update b fun o => { o with data := .freed }
theorem lessO_ne {h : Heap} {b c : Addr} (n : c ≠ b) : (lessO h b).get? c = h.get? c := Heap.get?_update_ne h c b _ n
theorem lessO_at {h : Heap} {b : Addr} : (lessO h b).get? b = none := by
  unfold lessO Heap.update Heap.get?
  simp only [Array.getElem?_modify, if_pos rfl]
  cases h.objs[b]? with
  | none => rfl
  | some o => rfl
theorem each_reads {h : Heap} : ∀ {vs : List Value} {ds : List PyData} {as : List Addr}, ReadsAll h vs ds as → EachIs (fun v d => ∃ as, Reads h v d as) vs ds
  | _, _, _, .nil => .nil
  | _, _, _, .cons a b => .cons ⟨_, a⟩ (each_reads b)
theorem each_vals : ∀ {ps : List (V × PyData)} {out : List Value}, EachIs (fun v (p : V × PyData) => RelV p.1 v) out ps → Vals (ps.map Prod.fst) out
  | _, _, .nil => .nil
  | _, _, .cons a b => .cons a (each_vals b)
theorem vals_each : ∀ {xs : List V} {us : List Value} {ks : List PyData}, Vals xs us → ks.length = xs.length → EachIs (fun v (p : V × PyData) => RelV p.1 v) us (xs.zip ks)
  | _, _, [], .nil, _ => .nil
  | _, _, _ :: _, .cons a b, h => .cons a (vals_each b (by simpa using h))
theorem vals_get : ∀ {xs : List V} {us : List Value} {i : Nat} {v : Value}, Vals xs us → us[i]? = some v → ∃ y, xs[i]? = some y ∧ RelV y v
  | _, _, _, _, .nil, e => by simp at e
  | _, _, 0, _, .cons a b, e => by
    simp at e; subst e; exact ⟨_, rfl, a⟩
  | _, _, i + 1, _, .cons a b, e => by
    obtain ⟨y, h1, h2⟩ := vals_get (i := i) b (by simpa using e)
    exact ⟨y, by simpa using h1, h2⟩
theorem vals_size {xs : List V} {us : Array Value} (h : Vals xs us.toList) : us.size = xs.length := by
  have z := Vals.length h
  simp only [Array.length_toList] at z
  first | exact z | exact z.symm
theorem zip_snd : ∀ {xs : List V} {ks : List PyData}, ks.length = xs.length → (xs.zip ks).map Prod.snd = ks
  | [], [], _ => rfl
  | x :: xs, k :: ks, h => by rw [List.zip_cons_cons, List.map_cons, zip_snd (by simpa using h)]
/-- the sorted ones -/
def byKey (xs : List V) (ks : List PyData) : List (V × PyData) := (xs.zip ks).mergeSort (dataLe false Prod.snd)
def rSortK (K : Frag) (f : Addr) (sp : Sp) : List V → List V → Hp → VK → Prop := fun vs zs H Q => ∃ (l : Addr) (xs : List V) (ks : List PyData), vs = [.ref l] ∧ zs = [.ref f] ∧ SqL K H l xs ∧ ks.length = xs.length ∧ AllAlike ks ∧ Sortable ks ∧ (∀ d ∈ ks, d.depth ≤ 60) ∧
  (∀ (i : Nat) v d H', xs[i]? = some v → ks[i]? = some d → Fr Non H H' → sp [v] H' (fun u H'' => Fr Non H' H'' ∧ Dt H'' u d) E0) ∧
  ∀ p H', Fr Non H H' → Fresh H p → H' p = some (.lst ((byKey xs ks).map Prod.fst)) → Q (.ref p) H'
section
variable {X : Cx}
theorem cr_sortK {k j : Nat} {f : Addr} {fd : FuncData} {x : Str} {sp : Sp} (F : FnOk X.prog X.w X.K X.mg X.base (L2.CX X.prog X.w) k f fd [x] sp) (hr : Room j X.A) (hk : k + 2 ≤ j) (hb : Binds X.K fd [x] []) : CallRK X (.builtin "sorted") [Str.ofString "key"] (rSortK X.K f sp) := by
  intro pins s σ H vs zs us ws Q I rv rz h
  obtain ⟨l, xs, ks, rfl, rfl, hL, hlen, hal, hso, hdp, hcall, q⟩ := h
  cases rv with
  | @cons _ u0 _ _ ru rv' =>
  cases rv'
  cases rz with
  | @cons _ u1 _ _ ru1 rz' =>
  cases rz'
  cases (show u0 = Value.ref l from ru)
  cases (show u1 = Value.ref f from ru1)
  obtain ⟨its, ri, hpl, hz⟩ := I.list hL
  have hil : its.length = xs.length := (Vals.length ri).symm
  have hzi : its.length ≤ sizeLine := by omega
  obtain ⟨o0, n0, g1, g2, g3, g4⟩ := hpl
  show wpAny _ _ (call (.builtin "sorted") [.ref l] [("key", .ref f)]) _ _ _
  refine sorted_of_sort ⟨o0, g1, g2, n0, g4⟩ hzi (by rfl) (fun x => by rfl) fun E' => ?_
  obtain ⟨a, ea⟩ : ∃ a, a = s.heap.objs.size + 1 := ⟨_, rfl⟩
  rw [← ea]
  have hca : (copyHeap s.heap its).objs.size = a + 1 := by
    unfold copyHeap
    simp only [Heap.size_push, Heap.size_update]; omega
  have ho : (copyHeap s.heap its).get? a = some (seqObj "list" its.toArray 0) := Heap.get?_push_at (by simp only [Heap.size_push, Heap.size_update]; omega) rfl
  have hold : ∀ (b : Addr) (o : Obj), s.heap.get? b = some o → (copyHeap s.heap its).get? b = some o := fun b o e => by
    have hb : b < s.heap.objs.size := Heap.lt_size e
    refine Heap.get?_push_of_some _ ?_
    rw [Heap.get?_update_ne _ _ _ _ (Nat.ne_of_lt hb)]
    exact Heap.get?_push_of_some _ e
  generalize copyHeap s.heap its = hc at hca ho hold ⊢
  show wpAny _ _ (ksk_tree a (.ref f) false) _ _ _
  obtain ⟨e1, ho1⟩ : ∃ e1, (hc.update a (Obj.mapSeq fun _ => #[])).get? a = some (seqObj "list" #[] e1) := ⟨_, get?_update_seq ho fun _ => #[]⟩
  have hold1 : ∀ (b : Addr) (o : Obj), s.heap.get? b = some o → (hc.update a (Obj.mapSeq fun _ => #[])).get? b = some o := fun b o e => by
    have hb : b < s.heap.objs.size := Heap.lt_size e
    have hsa : s.heap.objs.size < a := by omega
    have hne : b ≠ a := Nat.ne_of_lt (Nat.lt_trans hb hsa)
    rw [Heap.get?_update_ne _ _ _ _ hne]
    exact hold b o e
  have hc1 : (hc.update a (Obj.mapSeq fun _ => #[])).objs.size = a + 1 := by rw [Heap.size_update]; exact hca
  unfold ksk_tree
  refine wpAny_bind (listItems_at ho rfl (wpAny_bind (listUpdate_at ho rfl (wpAny_bind (seqEpoch_at ho1 rfl (wpAny_bind (wpAny_newTuple (wpAny_bind (wpAny_newList (wpAny_holding ?_) (Nat.zero_le sizeLine))) ?_)))) ?_ ?_)))
  rotate_left
  · simp only [List.size_toArray]; exact hzi
  · simp only [List.size_toArray]; exact hzi
  · exact Nat.zero_le _
  dsimp only
  generalize hc.update a (Obj.mapSeq fun _ => #[]) = hd at ho1 hold1 hc1 ⊢
  obtain ⟨kS, ekS⟩ : ∃ kS, kS = (hd.push (seqObj "tuple" its.toArray 0)).objs.size := ⟨_, rfl⟩
  have ekS2 : kS = a + 2 := by rw [ekS, Heap.size_push, hc1]
  have hkS : ((hd.push (seqObj "tuple" its.toArray 0)).push (seqObj "list" #[] 0)).get? kS = some (seqObj "list" #[] 0) := Heap.get?_push_at ekS rfl
  have ha2 : ((hd.push (seqObj "tuple" its.toArray 0)).push (seqObj "list" #[] 0)).get? a = some (seqObj "list" #[] e1) := Heap.get?_push_of_some _ (Heap.get?_push_of_some _ ho1)
  have hold2 : ∀ (b : Addr) (o : Obj), s.heap.get? b = some o → ((hd.push (seqObj "tuple" its.toArray 0)).push (seqObj "list" #[] 0)).get? b = some o := fun b o e => Heap.get?_push_of_some _ (Heap.get?_push_of_some _ (hold1 b o e))
  show wpAny _ _ (ksk_rest a (.ref f) false its.toArray e1 (.ref (hd.push (seqObj "tuple" its.toArray 0)).objs.size)) _ _ _
  rw [← ekS]
  show wpAny _ _ _ _ _ ⟨(hd.push (seqObj "tuple" its.toArray 0)).push (seqObj "list" #[] 0), s.gens, s.drawn, s.toks, s.os⟩
  generalize (hd.push (seqObj "tuple" its.toArray 0)).push (seqObj "list" #[] 0) = h1 at hkS ha2 hold2 ⊢
  have hka : kS ≠ a := by omega
  have Ha : H a = none := I.hok.fresh (by omega)
  have HkS : H kS = none := I.hok.fresh (by omega)
  have sa : s.heap.get? a = none := Heap.get?_none_of_le (by omega)
  have skS : s.heap.get? kS = none := Heap.get?_none_of_le (by omega)
  have hnew : ∀ b, (b = a ∨ b = kS) → H b = none ∧ s.heap.get? b = none := fun b hb => by
    rcases hb with rfl | rfl
    · exact ⟨Ha, sa⟩
    · exact ⟨HkS, skS⟩
  clear hc1 ho1 hold1 hold ho hca ekS
  unfold ksk_rest
  refine wpAny_bind (wpAny_rule ?_)
  rw [List.forIn_toArray]
  refine wpAny_bind (ksk_fold (fun i s' => ∃ (Hn : Hp) (kvs : List V) (kA : Array Value) (e : Nat), s'.os = s.os ∧ AllBare s'.gens ∧ Un (frs X.stack) [] H Hn s.heap s'.heap ∧ HOk X.prog X.w Hn s'.heap ∧ Fr Non H Hn ∧
    Hn a = some (exactO a (seqObj "list" #[] e1)) ∧ Hn kS = some (exactO kS (seqObj "list" kA e)) ∧ Vals kvs kA.toList ∧ DtAll Hn kvs (ks.take i) ∧ kvs.length = i ∧ i ≤ its.length) its 0 _ ?_ ?_ ?_)
  · have n1 : Fresh (upd H a (exactO a (seqObj "list" #[] e1))) kS := by show upd H a _ kS = none; rw [upd_ne hka]; exact HkS
    have k2 : ∀ b (o : HO), H b = some o → upd (upd H a (exactO a (seqObj "list" #[] e1))) kS (exactO kS (seqObj "list" #[] 0)) b = some o := fun b o e => keepN n1 b o (keepN Ha b o e)
    refine ⟨upd (upd H a (exactO a (seqObj "list" #[] e1))) kS (exactO kS (seqObj "list" #[] 0)), [], #[], 0, rfl, I.bare, ?_, ?_, Fr.new (Fr.new (Fr.refl _) Ha) n1, by rw [upd_ne (Ne.symm hka)]; exact upd_same, upd_same, .nil, .nil, rfl, Nat.zero_le _⟩
    · refine un_of hold2 k2 fun b o e n => ?_
      have h1 : b ≠ kS := fun z => by rw [z, skS] at e; cases e
      have h2 : b ≠ a := fun z => by rw [z, sa] at e; cases e
      rw [upd_ne h1, upd_ne h2]; exact n
    · refine hok_more (fun b => b = a ∨ b = kS) I.hok (fun b hb => .inl (hnew b hb).1) (fun b o _ e => hold2 b o e) (fun b hb => ?_) (fun b o hb e => ?_)
      · rw [upd_ne (fun z => hb (.inr z)), upd_ne (fun z => hb (.inl z))]
      · rcases hb with rfl | rfl
        · rw [upd_ne (Ne.symm hka), upd_same] at e
          cases e; exact exact_ok ha2
        · rw [upd_same] at e
          cases e; exact exact_ok hkS
  · rintro i v s' hv ⟨Hn, kvs, kA, e, hos, hbare, un, hok, fr, Hna, HnkS, rkv, hdt, hkl, hi⟩
    rw [Nat.zero_add] at hdt hkl hi ⊢
    have hi2 : i < its.length := (List.getElem?_eq_some_iff.mp hv).1
    obtain ⟨y, hy, ry⟩ := vals_get ri hv
    obtain ⟨d, hd⟩ : ∃ d, ks[i]? = some d := ⟨_, List.getElem?_eq_getElem (by omega)⟩
    have hsp := hcall i y d Hn hy hd fr
    have In : L2.Inv X pins σ Hn s' := I.call' (ch := []) hos un hok hbare (fun _ h => nomatch h)
    have rv1 : Vals [y] [v] := .cons ry .nil
    have hb1 := hb s' [v] In.kIn rfl
    rw [List.append_nil] at hb1
    refine wpAny_bind (wpAny_attempt (wpAny_call (codeAny_mono (F.run X.A.in1.in1 X.stack s' Hn ⟨[v], []⟩ [v] [y] _ _ (Room.in1 (Room.in1 (hr.mono hk))) (In.env0.in1.in1) hb1 rv1 hsp) ?_)))
    intro r s'' hq'
    cases r with
    | error er =>
      obtain ⟨_, _, _, _, _, _, _, _, _, _, _, _, z⟩ := hq'
      exact z.elim
    | ok fl =>
      cases fl with
      | ret u =>
        obtain ⟨y2, H2, os2, bare2, un2, hok2, ru2, f2, d2⟩ := hq'
        have HkS2 := f2.all _ _ HnkS
        have Ha2 := f2.all _ _ Hna
        have nk2 := exact_at hok2 HkS2
        have na2 := exact_at hok2 Ha2
        obtain ⟨c2, hc2⟩ : ∃ c2, (s''.heap.update kS (Obj.mapSeq fun x => x.push u)).get? kS = some (seqObj "list" (kA.push u) c2) := ⟨_, get?_update_seq nk2 fun x => x.push u⟩
        have hks : kA.size ≤ its.length := by rw [vals_size rkv, hkl]; omega
        show wpAny _ _ _ _ _ _
        refine wpAny_bind (listUpdate_at nk2 rfl (wpAny_pure ⟨rfl, ?_⟩) (by omega) (by rw [Array.size_push]; omega))
        refine ⟨upd H2 kS (exactO kS (seqObj "list" (kA.push u) c2)), kvs ++ [y2], kA.push u, c2, os2.trans hos, bare2, ?_, ?_, ?_, ?_, upd_same, ?_, ?_, ?_, hi2⟩
        · refine un_more (fun b => b = kS) (un.trans un2) (fun b hb => hnew b (.inr hb)) (fun b o hb e => ?_) (fun b hb => upd_ne hb)
          show (s''.heap.update kS _).get? b = some o
          rw [Heap.get?_update_ne _ _ _ _ hb]; exact e
        · refine hok_more (fun b => b = kS) hok2 (fun b hb => .inr ⟨_, hb ▸ HkS2⟩) (fun b o hb e => ?_) (fun b hb => upd_ne hb) (fun b o hb e => ?_)
          · show (s''.heap.update kS _).get? b = some o
            rw [Heap.get?_update_ne _ _ _ _ hb]; exact e
          · subst hb
            rw [upd_same] at e
            cases e; exact exact_ok hc2
        · exact Fr.mut (fr.trans f2) HkS2 rfl (.inr HkS)
        · rw [upd_ne (Ne.symm hka)]; exact Ha2
        · rw [Array.toList_push]; exact Vals.append rkv (.cons ru2 .nil)
        · rw [List.take_succ, hd]
          exact DtAll.app ((hdt.mono f2).updm HkS2 rfl) (.one (d2.updm HkS2 rfl))
        · rw [List.length_append, hkl]; rfl
      | _ => exact hq'.elim
  · rintro s' ⟨Hn, kvs, kA, e, hos, hbare, un, hok, fr, Hna, HnkS, rkv, hdt, hkl, hi⟩
    rw [Nat.zero_add] at hdt hkl
    rw [List.take_of_length_le (by omega)] at hdt
    have In : L2.Inv X pins σ Hn s' := I.call' (ch := []) hos un hok hbare (fun _ h => nomatch h)
    have nk := exact_at hok HnkS
    have na := exact_at hok Hna
    obtain ⟨as, hR⟩ := Dp.readsAll In ks kvs kA.toList (DtAll.dp ks kvs hdt) rkv
    have hE := each_reads hR
    have hks : kA.size = its.length := by rw [vals_size rkv, hkl]
    refine wpAny_bind (listItems_at nk rfl ?_)
    refine keyH_end (h₁ := lessO s'.heap kS) (fun b o hb e => ?_) lessO_at nk na hka (SortsAt.data hE hal hso fun d hd => ?_) hks hzi fun h' tk c k3 n3 => ?_
    · by_cases h : b = kS
      · subst h; rw [lessO_at] at e; cases e
      · rwa [lessO_ne h] at e
    · have z := (Room.in1 (Room.in1 (hr.mono hk))).un
      have := hdp d hd
      omega
    · have hX : ∃ out : List Value, out = sortVals (dataKind s'.heap ks) false kA.toList its := ⟨_, rfl⟩
      obtain ⟨out, eo⟩ := hX
      have hko : KeyedOut false ((xs.zip ks).map Prod.snd) its out := by
        rw [zip_snd hlen]
        exact ⟨s'.heap, kA.toList, hal, eo, hE⟩
      have ho := each_vals (keyedOut_each Prod.snd hko (vals_each ri hlen))
      rw [← eo] at n3
      have hol : out.length ≤ sizeLine := by
        rw [← Vals.length ho, List.length_map, List.length_mergeSort, List.length_zip]; omega
      refine ⟨rfl, .ref a, upd (del Hn kS) a (.lst ((byKey xs ks).map Prod.fst)), I.call' (ch := []) hos ?_ ?_ hbare (fun _ h => nomatch h), rfl, q a _ ?_ Ha upd_same⟩
      · refine un_more (fun b => b = a ∨ b = kS) un hnew (fun b o hb e => ?_) (fun b hb => ?_)
        · exact k3 b o (fun z => hb (.inl z)) (by rw [lessO_ne (fun z => hb (.inr z))]; exact e)
        · rw [upd_ne (fun z => hb (.inl z)), del_ne (fun z => hb (.inr z))]
      · refine hok_more (fun b => b = a ∨ b = kS) hok (fun b hb => ?_) (fun b o hb e => ?_) (fun b hb => ?_) (fun b o hb e => ?_)
        · rcases hb with rfl | rfl
          · exact .inr ⟨_, Hna⟩
          · exact .inr ⟨_, HnkS⟩
        · exact k3 b o (fun z => hb (.inl z)) (by rw [lessO_ne (fun z => hb (.inr z))]; exact e)
        · rw [upd_ne (fun z => hb (.inl z)), del_ne (fun z => hb (.inr z))]
        · rcases hb with rfl | rfl
          · rw [upd_same] at e
            cases e
            exact ⟨by rw [show ((byKey xs ks).map Prod.fst).length = out.length from Vals.length ho]; exact hol, out, _, ho, n3⟩
          · rw [upd_ne hka, del_same] at e; cases e
      · refine ⟨fun b o e _ => ?_, fun b ys e => ?_, fun b e => ?_⟩
        · have h1 : b ≠ a := fun z => by rw [z, Ha] at e; cases e
          have h2 : b ≠ kS := fun z => by rw [z, HkS] at e; cases e
          rw [upd_ne h1, del_ne h2]; exact fr.all _ _ e
        · have h1 : b ≠ a := fun z => by rw [z, Ha] at e; cases e
          have h2 : b ≠ kS := fun z => by rw [z, HkS] at e; cases e
          rw [upd_ne h1, del_ne h2]; exact fr.tup _ _ e
        · by_cases h1 : b = a
          · subst h1; exact Ha
          · by_cases h2 : b = kS
            · subst h2; exact HkS
            · rw [upd_ne h1, del_ne h2] at e; exact fr.back b e
/-- sorted(xs, key=f) -/
theorem cr_sortC {k j : Nat} {x y : Str} {sp : Sp} (c : CalX X.prog X.w X.K X.mg X.base k x [y] sp) (hr : Room j X.A) (hk : k + 2 ≤ j) : CallRK X (.builtin "sorted") [Str.ofString "key"] (rSortK X.K (clA X.mg x) sp) := by
  obtain ⟨f, fd, F, hm1, kp, b⟩ := c.ex
  rw [clA_of hm1]
  exact cr_sortK F hr hk b
theorem pe_defC {k : Nat} {x : Str} {ps : List Str} {sp : Sp} {p : Pos} (c : CalX X.prog X.w X.K X.mg X.base k x ps sp) (hg : Gl X x) (hdb : (x == ("__debug__" : Str)) = false := by decide) : PE X (.Name x p) (tC (.ref (clA X.mg x))) := by
  obtain ⟨f, fd, F, hm1, kp, b⟩ := c.ex
  rw [clA_of hm1]
  exact pe_glob hg hm1 rfl hdb
end
end Tw

/-! TwK: keys in order. -/
namespace Tw
open PySem PySem.W PySem.Spec PyProof.Rows L2
/-- rising, alike ones side by side -/
def upK (es : List PyData) : Prop := es.Pairwise fun a b => ltK b a = false
theorem upK_unique {r : Nat} {es fs : List PyData} (h1 : upK es) (h2 : upK fs) (p : es.Perm fs) (hk : ∀ d ∈ es, isK r d) : es = fs :=
  List.Perm.eq_of_pairwise (le := fun a b => ltK b a = false) (fun a b ha hb q1 q2 => ltK_tot (hk a ha) (hk b (p.mem_iff.mpr hb)) q2 q1) h1 h2 p
theorem dle_eq (a b : V × PyData) : dataLe false (fun p : V × PyData => rankD p.2) a b = !ltK b.2 a.2 := by rw [dataLe_eq]; rfl
/-- what sorted(.., key=rank) tells -/
theorem byKey_rank {H : Hp} {xs : List V} {ds : List PyData} (hd : DtAll H xs ds) : ∃ es, es.Perm ds ∧ upK es ∧ DtAll H ((byKey xs (ds.map rankD)).map Prod.fst) es := by
  have hl := hd.length
  have ez : (xs.zip ds).map (fun p : V × PyData => (p.1, rankD p.2)) = xs.zip (ds.map rankD) := by
    rw [List.zip_map_right]; rfl
  have e1 : byKey xs (ds.map rankD) = ((xs.zip ds).mergeSort (dataLe false fun p : V × PyData => rankD p.2)).map fun p => (p.1, rankD p.2) := by
    unfold byKey
    rw [← ez]
    exact (List.map_mergeSort (fun a _ b _ => by rw [dataLe_eq, dataLe_eq])).symm
  obtain ⟨zs, ezs⟩ : ∃ zs, zs = (xs.zip ds).mergeSort (dataLe false fun p : V × PyData => rankD p.2) := ⟨_, rfl⟩
  have hp : zs.Perm (xs.zip ds) := ezs ▸ List.mergeSort_perm _ _
  have hs : zs.Pairwise fun a b => dataLe false (fun p : V × PyData => rankD p.2) a b = true := by
    rw [ezs]
    refine List.pairwise_mergeSort (fun a b c h1 h2 => ?_) (fun a b => ?_) _
    · rw [dle_eq] at h1 h2 ⊢
      simp only [Bool.not_eq_true'] at h1 h2 ⊢
      cases h3 : ltK c.2 a.2 with
      | false => rfl
      | true =>
        rcases ltK_neg (b := b.2) h3 with h | h
        · rw [h] at h2; cases h2
        · rw [h] at h1; cases h1
    · rw [dle_eq, dle_eq]
      cases h3 : ltK b.2 a.2 with
      | false => rfl
      | true => rw [ltK_asymm h3]; rfl
  rw [e1, ← ezs]
  clear e1 ez ezs
  refine ⟨zs.map Prod.snd, ?_, ?_, ?_⟩
  · have := hp.map Prod.snd
    rwa [List.map_snd_zip (by omega)] at this
  · show (zs.map Prod.snd).Pairwise _
    rw [List.pairwise_map]
    refine hs.imp fun {a b} h => ?_
    rw [dle_eq, Bool.not_eq_true'] at h
    exact h
  · have hall : ∀ p ∈ zs, Dt H p.1 p.2 := fun p hm => by
      have hm2 := hp.mem_iff.mp hm
      obtain ⟨i, hi, e⟩ := List.getElem_of_mem hm2
      have h1 : xs[i]? = some p.1 := by
        rw [List.length_zip] at hi
        rw [List.getElem_zip] at e
        rw [List.getElem?_eq_getElem (by omega), ← e]
      have h2 : ds[i]? = some p.2 := by
        rw [List.length_zip] at hi
        rw [List.getElem_zip] at e
        rw [List.getElem?_eq_getElem (by omega), ← e]
      obtain ⟨d, g1, g2⟩ := hd.get h1
      rw [h2] at g1; cases g1; exact g2
    clear hs hp
    induction zs with
    | nil => exact .nil
    | cons z zs ih => exact .cons (hall z (List.mem_cons_self ..)) (ih fun p hp => hall p (List.mem_cons_of_mem _ hp))
theorem rank_sortable (ds : List PyData) : Sortable (ds.map rankD) := .inl fun d hd => by
  obtain ⟨e, _, rfl⟩ := List.mem_map.mp hd
  cases e <;> (rw [rankD]; exact ⟨_, _, rfl⟩)
theorem rank_allalike (ds : List PyData) : AllAlike (ds.map rankD) := fun d hd e he => by
  obtain ⟨a, _, rfl⟩ := List.mem_map.mp hd
  obtain ⟨b, _, rfl⟩ := List.mem_map.mp he
  exact rank_alike a b
/-- how many stand ahead of a key -/
def aheadN (es : List PyData) (d : PyData) : Nat := es.countP fun e => ltK e d
theorem aheadN_at {es : List PyData} {d : PyData} {n : Nat} (hn : n ≤ es.length) (h1 : ∀ i e, es[i]? = some e → i < n → ltK e d = true) (h2 : ∀ i e, es[i]? = some e → n ≤ i → ltK e d = false) : aheadN es d = n := by
  unfold aheadN
  have e : es = es.take n ++ es.drop n := (List.take_append_drop n es).symm
  rw [e, List.countP_append]
  have a1 : (es.take n).countP (fun e => ltK e d) = (es.take n).length := by
    rw [List.countP_eq_length]
    intro x hx
    obtain ⟨i, hi, rfl⟩ := List.getElem_of_mem hx
    rw [List.length_take] at hi
    refine h1 i _ ?_ (by omega)
    rw [List.getElem_take, List.getElem?_eq_getElem]
  have a2 : (es.drop n).countP (fun e => ltK e d) = 0 := by
    rw [List.countP_eq_zero]
    intro x hx
    obtain ⟨i, hi, rfl⟩ := List.getElem_of_mem hx
    rw [List.length_drop] at hi
    rw [h2 (n + i) _ (by rw [List.getElem_drop, List.getElem?_eq_getElem]) (by omega)]
    exact Bool.false_ne_true
  rw [a1, a2, List.length_take]; omega
theorem upK_get {es : List PyData} (h : upK es) {i j : Nat} {a b : PyData} (hij : i < j) (ha : es[i]? = some a) (hb : es[j]? = some b) : ltK b a = false := by
  obtain ⟨h1, rfl⟩ := List.getElem?_eq_some_iff.mp ha
  obtain ⟨h2, rfl⟩ := List.getElem?_eq_some_iff.mp hb
  exact List.pairwise_iff_getElem.mp h i j h1 h2 hij
theorem ltK_le_lt {a b c : PyData} (h1 : ltK b a = false) (h2 : ltK b c = true) : ltK a c = true := by
  rcases ltK_neg (b := a) h2 with h | h
  · rw [h] at h1; cases h1
  · exact h
theorem ltK_lt_le {a b c : PyData} (h1 : ltK a b = true) (h2 : ltK c b = false) : ltK a c = true := by
  rcases ltK_neg (b := c) h1 with h | h
  · exact h
  · rw [h] at h2; cases h2
/-- one more, put behind those that do not stand behind it -/
theorem upK_ins {es : List PyData} {d : PyData} {n : Nat} (h : upK es) (h1 : ∀ i e, es[i]? = some e → i < n → ltK d e = false) (h2 : ∀ e, es[n]? = some e → ltK d e = true) : upK (es.take n ++ [d] ++ es.drop n) := by
  unfold upK
  rw [List.append_assoc, List.pairwise_append]
  refine ⟨h.sublist (List.take_sublist _ _), ?_, ?_⟩
  · rw [List.singleton_append, List.pairwise_cons]
    refine ⟨fun x hx => ?_, h.sublist (List.drop_sublist _ _)⟩
    obtain ⟨i, hi, rfl⟩ := List.getElem_of_mem hx
    rw [List.length_drop] at hi
    have q0 : es[n]? = some es[n] := List.getElem?_eq_getElem (by omega)
    have q1 := h2 _ q0
    rw [List.getElem_drop]
    cases i with
    | zero => exact ltK_asymm q1
    | succ i =>
      have q2 := upK_get h (show n < n + (i + 1) by omega) q0 (List.getElem?_eq_getElem (by omega))
      exact ltK_asymm (ltK_lt_le q1 q2)
  · intro x hx y hy
    obtain ⟨i, hi, rfl⟩ := List.getElem_of_mem hx
    rw [List.length_take] at hi
    rw [List.getElem_take]
    have q0 : es[i]? = some es[i] := List.getElem?_eq_getElem (by omega)
    rw [List.singleton_append] at hy
    rcases List.mem_cons.mp hy with rfl | hy
    · exact h1 i _ q0 (by omega)
    · obtain ⟨j, hj, rfl⟩ := List.getElem_of_mem hy
      rw [List.length_drop] at hj
      rw [List.getElem_drop]
      exact upK_get h (show i < n + j by omega) q0 (List.getElem?_eq_getElem (by omega))
theorem perm_ins {α : Type} (es : List α) (d : α) (n : Nat) : (es.take n ++ [d] ++ es.drop n).Perm (es ++ [d]) := by
  have e : es.take n ++ [d] ++ es.drop n = es.take n ++ d :: es.drop n := by rw [List.append_assoc]; rfl
  have h := List.perm_middle (a := d) (l₁ := es.take n) (l₂ := es.drop n)
  rw [List.take_append_drop] at h
  rw [e]
  exact h.trans (List.perm_append_singleton d es).symm
/-- texts, numbers, tuples of no more than a thousand of these -/
def wideK : Nat → PyData → Prop
  | _, .int _ => True
  | _, .str _ => True
  | r + 1, .tuple ds => ds.length ≤ 1000 ∧ ∀ d ∈ ds, wideK r d
  | _, _ => False
theorem isK_wide : ∀ {r : Nat} {d : PyData}, isK r d → wideK r d
  | r, d, h => by
    rcases isK_cases h with ⟨i, rfl, hi⟩ | ⟨z, rfl, hz⟩ | ⟨r1, ds, rfl, rfl, hl, hs⟩
    · cases r <;> exact trivial
    · cases r <;> exact trivial
    · exact ⟨by omega, fun d hd => isK_wide (hs d hd)⟩
theorem wide_cases {r : Nat} {d : PyData} (h : wideK r d) : (∃ i, d = .int i) ∨ (∃ z, d = .str z) ∨ ∃ r1 ds, r = r1 + 1 ∧ d = .tuple ds ∧ ds.length ≤ 1000 ∧ ∀ e ∈ ds, wideK r1 e := by
  cases d with
  | int i => exact .inl ⟨i, rfl⟩
  | str z => exact .inr (.inl ⟨z, rfl⟩)
  | tuple ds =>
    cases r with
    | zero => exact h.elim
    | succ r => exact .inr (.inr ⟨r, ds, rfl, rfl, h.1, h.2⟩)
  | none => cases r <;> exact h.elim
  | bool b => cases r <;> exact h.elim
  | list b => cases r <;> exact h.elim
  | dict b => cases r <;> exact h.elim
end Tw

/-! TwL: the laws' reader of keys, sign by sign. -/
namespace Tw
open PySem PySem.Spec PyProof.Rows L2 TL
inductive Wd
  | wanted | opened | minus | figures | text | freed | behind
  deriving DecidableEq
/-- the reader's state; how many things stand in the tuples around, the innermost first -/
structure Rs where
  w : Wd
  n : Nat
  inn : List Nat
def upI : List Nat → List Nat
  | [] => []
  | j :: u => (j + 1) :: u
def begunR (inn : List Nat) (c : Nat) : Option Rs :=
  if c = 34 then some ⟨.text, 0, upI inn⟩
  else if c = 40 ∧ inn.length < 3 then some ⟨.opened, 0, 0 :: upI inn⟩
  else if c = 45 then some ⟨.minus, 0, upI inn⟩
  else if c = 48 then some ⟨.behind, 0, upI inn⟩
  else if 49 ≤ c ∧ c ≤ 57 then some ⟨.figures, 1, upI inn⟩
  else none
def withinR (w : Wd) (n : Nat) (inn : List Nat) (c : Nat) : Option Rs :=
  if w = .minus ∧ 49 ≤ c ∧ c ≤ 57 then some ⟨.figures, 1, inn⟩
  else if w = .freed ∧ (c = 34 ∨ c = 92) then some ⟨.text, n + 1, inn⟩
  else if w = .text ∧ c = 34 then some ⟨.behind, 0, inn⟩
  else if w ≠ .text ∨ n = 40 ∨ c < 32 ∨ 126 < c then none
  else if c = 92 then some ⟨.freed, n, inn⟩
  else some ⟨.text, n + 1, inn⟩
def roomR (many : Bool) : List Nat → Bool
  | [] => many
  | j :: _ => decide (j < 4)
def stepR (many : Bool) (s : Rs) (c : Nat) : Option Rs :=
  if s.w = .minus ∨ s.w = .text ∨ s.w = .freed then withinR s.w s.n s.inn c
  else if s.w = .opened ∧ c = 41 then some ⟨.behind, 0, s.inn.tail⟩
  else if s.w = .opened ∨ s.w = .wanted then begunR s.inn c
  else if s.w = .figures ∧ digC c = true ∧ s.n < 60 then some ⟨.figures, s.n + 1, s.inn⟩
  else if c = 41 ∧ s.inn ≠ [] then some ⟨.behind, 0, s.inn.tail⟩
  else if c = 32 ∧ roomR many s.inn = true then some ⟨.wanted, 0, s.inn⟩
  else none
def goodR (s : Rs) : Bool := decide (s.w = .figures ∨ s.w = .behind) && s.inn.isEmpty
/-- the first sign with which it can't go on -/
def bad (many : Bool) : Rs → List Nat → Option Nat
  | s, [] => if goodR s = true then none else some 0
  | s, c :: l => match stepR many s c with
    | none => some 0
    | some t => (bad many t l).map (· + 1)
section
variable {m : Bool}
theorem bad_none {s : Rs} {c : Nat} {l : List Nat} (h : stepR m s c = none) : bad m s (c :: l) = some 0 := by rw [bad, h]
theorem bad_some {s t : Rs} {c : Nat} {l : List Nat} (h : stepR m s c = some t) : bad m s (c :: l) = (bad m t l).map (· + 1) := by rw [bad, h]
theorem map_add (o : Option Nat) (a b : Nat) : (o.map (· + a)).map (· + b) = o.map (· + (a + b)) := by
  cases o with
  | none => rfl
  | some x => simp only [Option.map_some]; congr 1; omega
theorem map_zero (o : Option Nat) : o.map (· + 0) = o := by cases o <;> rfl
theorem step_within {s : Rs} {c : Nat} (h : s.w = .minus ∨ s.w = .text ∨ s.w = .freed) : stepR m s c = withinR s.w s.n s.inn c := by unfold stepR; rw [if_pos h]
theorem step_text {n c : Nat} {inn : List Nat} : stepR m ⟨.text, n, inn⟩ c = withinR .text n inn c := step_within (.inr (.inl rfl))
theorem step_freed {n c : Nat} {inn : List Nat} : stepR m ⟨.freed, n, inn⟩ c = withinR .freed n inn c := step_within (.inr (.inr rfl))
theorem step_minus {n c : Nat} {inn : List Nat} : stepR m ⟨.minus, n, inn⟩ c = withinR .minus n inn c := step_within (.inl rfl)
theorem step_wanted {n c : Nat} {inn : List Nat} : stepR m ⟨.wanted, n, inn⟩ c = begunR inn c := by
  unfold stepR
  rw [if_neg (by rintro (h | h | h) <;> cases h), if_neg (by rintro ⟨h, _⟩; cases h), if_pos (.inr rfl)]
theorem step_opened {n c : Nat} {inn : List Nat} (hc : c ≠ 41) : stepR m ⟨.opened, n, inn⟩ c = begunR inn c := by
  unfold stepR
  rw [if_neg (by rintro (h | h | h) <;> cases h), if_neg (fun h => hc h.2), if_pos (.inl rfl)]
theorem step_shut {n : Nat} {inn : List Nat} : stepR m ⟨.opened, n, inn⟩ 41 = some ⟨.behind, 0, inn.tail⟩ := by
  unfold stepR
  rw [if_neg (by rintro (h | h | h) <;> cases h), if_pos ⟨rfl, rfl⟩]
def behindR (many : Bool) (inn : List Nat) (c : Nat) : Option Rs :=
  if c = 41 ∧ inn ≠ [] then some ⟨.behind, 0, inn.tail⟩
  else if c = 32 ∧ roomR many inn = true then some ⟨.wanted, 0, inn⟩
  else none
theorem step_behind {n c : Nat} {inn : List Nat} : stepR m ⟨.behind, n, inn⟩ c = behindR m inn c := by
  unfold stepR
  rw [if_neg (by rintro (h | h | h) <;> cases h), if_neg (by rintro ⟨h, _⟩; cases h), if_neg (by rintro (h | h) <;> cases h), if_neg (by rintro ⟨h, _⟩; cases h)]; rfl
theorem step_fig {n c : Nat} {inn : List Nat} (hc : digC c = true) (hn : n < 60) : stepR m ⟨.figures, n, inn⟩ c = some ⟨.figures, n + 1, inn⟩ := by
  unfold stepR
  rw [if_neg (by rintro (h | h | h) <;> cases h), if_neg (by rintro ⟨h, _⟩; cases h), if_neg (by rintro (h | h) <;> cases h), if_pos ⟨rfl, hc, hn⟩]
theorem step_figN {n c : Nat} {inn : List Nat} (h : digC c = false ∨ ¬ n < 60) : stepR m ⟨.figures, n, inn⟩ c = behindR m inn c := by
  unfold stepR
  rw [if_neg (by rintro (h | h | h) <;> cases h), if_neg (by rintro ⟨h, _⟩; cases h), if_neg (by rintro (h | h) <;> cases h), if_neg (by
    rintro ⟨_, h1, h2⟩
    rcases h with h | h
    · rw [h1] at h; cases h
    · exact h h2)]; rfl
theorem digC_iff {c : Nat} : digC c = true ↔ 48 ≤ c ∧ c ≤ 57 := by unfold digC; rw [Bool.and_eq_true, decide_eq_true_eq, decide_eq_true_eq]
theorem behindR_dig {c : Nat} {inn : List Nat} (h : digC c = true) : behindR m inn c = none := by
  have := digC_iff.mp h
  unfold behindR
  rw [if_neg (by omega), if_neg (by omega)]
/-- behind the figures of a number -/
theorem bad_fig {n : Nat} {inn : List Nat} {l : List Nat} (h : ∀ c, l.head? = some c → digC c = false) : bad m ⟨.figures, n, inn⟩ l = bad m ⟨.behind, 0, inn⟩ l := by
  cases l with
  | nil => rfl
  | cons c l =>
    rw [bad, bad, step_figN (.inl (h c rfl)), step_behind]
theorem bad_opened {n n2 : Nat} {inn : List Nat} {l : List Nat} (h : l.head? ≠ some 41) : bad m ⟨.opened, n, inn⟩ l = bad m ⟨.wanted, n2, inn⟩ l := by
  cases l with
  | nil => rfl
  | cons c l =>
    rw [bad, bad, step_opened (fun e => h (by rw [e]; rfl)), step_wanted]

/-! ### one sign of a text -/
def sgn : List Nat → Except Nat (Nat × Nat)
  | [] => .error 0
  | [c] => if c < 32 ∨ 126 < c then .error 0 else if c = 92 then .error 1 else .ok (c, 1)
  | c :: d :: _ => if c < 32 ∨ 126 < c then .error 0 else if c = 92 then (if d = 34 ∨ d = 92 then .ok (d, 2) else .error 1) else .ok (c, 1)
theorem sgn_one {c : Nat} : sgn [c] = if c < 32 ∨ 126 < c then .error 0 else if c = 92 then .error 1 else .ok (c, 1) := rfl
theorem sgn_two {c d : Nat} {l : List Nat} : sgn (c :: d :: l) = if c < 32 ∨ 126 < c then .error 0 else if c = 92 then (if d = 34 ∨ d = 92 then .ok (d, 2) else .error 1) else .ok (c, 1) := rfl
theorem within_text {n c : Nat} {inn : List Nat} (hn : n ≠ 40) (hc : c ≠ 34) : withinR .text n inn c = if c < 32 ∨ 126 < c then none else if c = 92 then some ⟨.freed, n, inn⟩ else some ⟨.text, n + 1, inn⟩ := by
  unfold withinR
  rw [if_neg (by rintro ⟨h, _⟩; cases h), if_neg (by rintro ⟨h, _⟩; cases h), if_neg (by rintro ⟨_, h⟩; exact hc h)]
  by_cases h : c < 32 ∨ 126 < c
  · rw [if_pos (.inr (.inr h)), if_pos h]
  · rw [if_neg (by
      rintro (h1 | h1 | h1)
      · exact h1 rfl
      · exact hn h1
      · exact h h1), if_neg h]
theorem within_freed {n c : Nat} {inn : List Nat} : withinR .freed n inn c = if c = 34 ∨ c = 92 then some ⟨.text, n + 1, inn⟩ else none := by
  unfold withinR
  rw [if_neg (by rintro ⟨h, _⟩; cases h)]
  by_cases h : c = 34 ∨ c = 92
  · rw [if_pos ⟨rfl, h⟩, if_pos h]
  · rw [if_neg (by rintro ⟨_, h1⟩; exact h h1), if_neg (by rintro ⟨h, _⟩; cases h), if_pos (.inl (fun e => nomatch e)), if_neg h]
theorem sgn_error {n e : Nat} {inn : List Nat} {l : List Nat} (hn : n ≠ 40) (hl : l.head? ≠ some 34) (h : sgn l = .error e) : bad m ⟨.text, n, inn⟩ l = some e := by
  cases l with
  | nil => cases h; rfl
  | cons c l =>
    have hc : c ≠ 34 := fun e => hl (by rw [e]; rfl)
    cases l with
    | nil =>
      first | rw [sgn_one] at h | rw [sgn_two] at h
      by_cases h1 : c < 32 ∨ 126 < c
      · rw [if_pos h1] at h; cases h
        exact bad_none (by rw [step_text, within_text hn hc, if_pos h1])
      · rw [if_neg h1] at h
        by_cases h2 : c = 92
        · rw [if_pos h2] at h; cases h
          rw [bad_some (by rw [step_text, within_text hn hc, if_neg h1, if_pos h2])]; rfl
        · rw [if_neg h2] at h; cases h
    | cons d l =>
      first | rw [sgn_one] at h | rw [sgn_two] at h
      by_cases h1 : c < 32 ∨ 126 < c
      · rw [if_pos h1] at h; cases h
        exact bad_none (by rw [step_text, within_text hn hc, if_pos h1])
      · rw [if_neg h1] at h
        by_cases h2 : c = 92
        · rw [if_pos h2] at h
          by_cases h3 : d = 34 ∨ d = 92
          · rw [if_pos h3] at h; cases h
          · rw [if_neg h3] at h; cases h
            rw [bad_some (by rw [step_text, within_text hn hc, if_neg h1, if_pos h2]), bad_none (by rw [step_freed, within_freed, if_neg h3])]; rfl
        · rw [if_neg h2] at h; cases h
theorem sgn_ok {n c' e : Nat} {inn : List Nat} {l : List Nat} (hn : n ≠ 40) (hl : l.head? ≠ some 34) (h : sgn l = .ok (c', e)) :
    (32 ≤ c' ∧ c' ≤ 126) ∧ e = (esc1 c').length ∧ l = esc1 c' ++ l.drop e ∧ bad m ⟨.text, n, inn⟩ l = (bad m ⟨.text, n + 1, inn⟩ (l.drop e)).map (· + e) := by
  cases l with
  | nil => cases h
  | cons c l =>
    have hc : c ≠ 34 := fun e => hl (by rw [e]; rfl)
    have one : ∀ (h1 : ¬ (c < 32 ∨ 126 < c)) (h2 : c ≠ 92), (32 ≤ c ∧ c ≤ 126) ∧ 1 = (esc1 c).length ∧ c :: l = esc1 c ++ (c :: l).drop 1 ∧ bad m ⟨.text, n, inn⟩ (c :: l) = (bad m ⟨.text, n + 1, inn⟩ ((c :: l).drop 1)).map (· + 1) := fun h1 h2 => by
      have e1 : esc1 c = [c] := by unfold esc1; rw [if_neg (by rintro (h | h); exact hc h; exact h2 h)]
      rw [e1]
      exact ⟨by omega, rfl, rfl, bad_some (by rw [step_text, within_text hn hc, if_neg h1, if_neg h2])⟩
    cases l with
    | nil =>
      first | rw [sgn_one] at h | rw [sgn_two] at h
      by_cases h1 : c < 32 ∨ 126 < c
      · rw [if_pos h1] at h; cases h
      · rw [if_neg h1] at h
        by_cases h2 : c = 92
        · rw [if_pos h2] at h; cases h
        · rw [if_neg h2] at h; cases h
          exact one h1 h2
    | cons d l =>
      first | rw [sgn_one] at h | rw [sgn_two] at h
      by_cases h1 : c < 32 ∨ 126 < c
      · rw [if_pos h1] at h; cases h
      · rw [if_neg h1] at h
        by_cases h2 : c = 92
        · rw [if_pos h2] at h
          by_cases h3 : d = 34 ∨ d = 92
          · rw [if_pos h3] at h
            obtain ⟨rfl, rfl⟩ : d = c' ∧ 2 = e := by injection h with h; injection h with h h'; exact ⟨h, h'⟩
            have e1 : esc1 d = [92, d] := by unfold esc1; rw [if_pos h3]
            rw [e1, h2]
            refine ⟨by omega, rfl, rfl, ?_⟩
            rw [bad_some (by rw [step_text, within_text hn (by decide), if_neg (by decide), if_pos rfl]), bad_some (by rw [step_freed, within_freed, if_pos h3]), map_add]; rfl
          · rw [if_neg h3] at h; cases h
        · rw [if_neg h2] at h; cases h
          exact one h1 h2

/-! ### figures -/
theorem numL_of : ∀ (k : Nat) (ds : List Nat), ds.length = k + 1 → (∀ c ∈ ds, 48 ≤ c ∧ c ≤ 57) → ds.head? ≠ some 48 → ∃ n, numL n = ds ∧ n ≠ 0
  | 0, ds, hl, hd, hh => by
    obtain ⟨c, rfl⟩ := List.length_eq_one_iff.mp hl
    have := hd c (List.mem_cons_self ..)
    have h2 : c ≠ 48 := fun e => hh (by rw [e]; rfl)
    refine ⟨c - 48, ?_, by omega⟩
    rw [numL_lt (by omega)]
    congr 1; omega
  | k + 1, ds, hl, hd, hh => by
    have hne : ds ≠ [] := fun e => by rw [e] at hl; cases hl
    have e := List.dropLast_concat_getLast hne
    generalize ds.getLast hne = c at e
    generalize ds.dropLast = es at e
    subst e
    rw [List.length_append] at hl
    have hel : es.length = k + 1 := Nat.succ.inj hl
    obtain ⟨n, h1, h2⟩ := numL_of k es hel (fun c hc => hd c (List.mem_append_left _ hc)) (fun h => hh (by rw [List.head?_append, h]; rfl))
    have hc := hd c (List.mem_append_right _ (List.mem_singleton.mpr rfl))
    refine ⟨n * 10 + (c - 48), ?_, by omega⟩
    rw [numL_step (by omega)]
    have e1 : (n * 10 + (c - 48)) / 10 = n := by omega
    have e2 : (n * 10 + (c - 48)) % 10 = c - 48 := by omega
    rw [e1, e2, h1]
    congr 2; omega
theorem numL_big : ∀ (k n : Nat), 10 ^ k ≤ n → k < (numL n).length
  | 0, n, _ => List.length_pos_iff.mpr (numL_ne n)
  | k + 1, n, h => by
    rw [Nat.pow_succ] at h
    have h1 : 1 ≤ 10 ^ k := Nat.pow_pos (by decide)
    rw [numL_step (by omega), List.length_append]
    have := numL_big k (n / 10) ((Nat.le_div_iff_mul_le (by decide)).mpr h)
    exact Nat.succ_lt_succ this
theorem numL_60' {n : Nat} (h : (numL n).length ≤ 60) : n < 10 ^ 60 := by
  rcases Nat.lt_or_ge n (10 ^ 60) with h1 | h1
  · exact h1
  · have := numL_big 60 n h1; omega
/-- figures, perhaps behind a minus, write a number -/
theorem intL_of {ds : List Nat} {neg : Bool} (hd : ∀ c ∈ ds, 48 ≤ c ∧ c ≤ 57) (h0 : ds ≠ []) (h1 : ds.length ≤ 60) (hh : ds.head? ≠ some 48) : ∃ i, numOk i ∧ intL i = (if neg = true then 45 :: ds else ds) ∧ intText? (strOf (intL i)) = some i := by
  obtain ⟨n, e, hn⟩ := numL_of (ds.length - 1) ds (by have := List.length_pos_iff.mpr h0; omega) hd hh
  have hb : n < 10 ^ 60 := numL_60' (by rw [e]; exact h1)
  have hbi : ((n : Nat) : Int) < (10 : Int) ^ 60 := by
    have e2 : ((10 ^ 60 : Nat) : Int) = (10 : Int) ^ 60 := by decide
    rw [← e2]; exact Int.ofNat_lt.mpr hb
  have h10 : (0 : Int) < (10 : Int) ^ 60 := by decide
  cases neg with
  | false =>
    refine ⟨n, ⟨by generalize (10 : Int) ^ 60 = t at *; omega, hbi⟩, ?_, ?_⟩
    · rw [intL_nat, e]; rfl
    · rw [intL_nat]; exact int_back_nat hb
  | true =>
    obtain ⟨k, rfl⟩ : ∃ k, n = k + 1 := ⟨n - 1, by omega⟩
    refine ⟨Int.negSucc k, ⟨?_, ?_⟩, ?_, ?_⟩
    · have e3 : Int.negSucc k = -((k + 1 : Nat) : Int) := rfl
      rw [e3]; generalize (10 : Int) ^ 60 = t at *; omega
    · have e3 : Int.negSucc k = -((k + 1 : Nat) : Int) := rfl
      rw [e3]; generalize (10 : Int) ^ 60 = t at *; omega
    · rw [intL_neg, e]; rfl
    · rw [intL_neg]
      have e3 : Int.negSucc k = -((k + 1 : Nat) : Int) := rfl
      rw [e3]; exact int_back_neg hb
theorem intL_zero : intL 0 = [48] := by decide +kernel
theorem bad_full {inn : List Nat} {l : List Nat} (h : l.head? ≠ some 34) : bad m ⟨.text, 40, inn⟩ l = some 0 := by
  cases l with
  | nil => rfl
  | cons c l =>
    refine bad_none ?_
    rw [step_text]
    unfold withinR
    rw [if_neg (by rintro ⟨h, _⟩; cases h), if_neg (by rintro ⟨h, _⟩; cases h), if_neg (by rintro ⟨_, h1⟩; exact h (by rw [h1]; rfl)), if_pos (.inr (.inl rfl))]
theorem bad_quote {n : Nat} {inn : List Nat} {l : List Nat} : bad m ⟨.text, n, inn⟩ (34 :: l) = (bad m ⟨.behind, 0, inn⟩ l).map (· + 1) := by
  refine bad_some ?_
  rw [step_text]
  unfold withinR
  rw [if_neg (by rintro ⟨h, _⟩; cases h), if_neg (by rintro ⟨h, _⟩; cases h), if_pos ⟨rfl, rfl⟩]
/-- it is refused with NoText of a place -/
def Refuses (mg : Str → Option Value) (H : Hp) (E : XK) (n : Nat) : Prop := ∀ d H', Fr Non H H' → H' d = some (.xd [("at", .int (n : Int))]) → E (.ref (clA mg "NoText")) (some d) H'
theorem Refuses.mono {mg : Str → Option Value} {H H1 : Hp} {E : XK} {n : Nat} (h : Refuses mg H E n) (f : Fr Non H H1) : Refuses mg H1 E n := fun d H' g e => h d H' (f.trans g) e
theorem head_34 {l : List Nat} : decide (sgO l.head? = Str.ofString "\"") = decide (l.head? = some 34) := by
  cases l with
  | nil => decide +kernel
  | cons c l =>
    rw [List.head?_cons, sg_eq c 34 _ sg_q]
    exact decide_eq_decide.mpr ⟨fun h => by rw [h], fun h => by injection h⟩
theorem sgO_dec (o : Option Nat) (x : Nat) (s : String) (h : Str.ofString s = ⟨#[x]⟩) : decide (sgO o = Str.ofString s) = decide (o = some x) := by
  cases o with
  | none =>
    rw [h]
    exact decide_eq_decide.mpr ⟨fun h => (by
      injection h with h
      have := congrArg Array.size h
      cases this), fun h => nomatch h⟩
  | some c =>
    rw [sg_eq c x s h]
    exact decide_eq_decide.mpr ⟨fun h => by rw [h], fun h => by injection h⟩
theorem encMore_snoc (d : PyData) : ∀ es : List PyData, encMore (es ++ [d]) = encMore es ++ 32 :: encL d
  | [] => by rw [List.nil_append, encMore, encMore, encMore, List.append_nil]; rfl
  | e :: es => by rw [List.cons_append, encMore, encMore, encMore_snoc d es, List.cons_append, List.append_assoc]
theorem encAll_snoc {ds : List PyData} (d : PyData) (h : ds ≠ []) : encAll (ds ++ [d]) = encAll ds ++ 32 :: encL d := by
  cases ds with
  | nil => exact absurd rfl h
  | cons e es => rw [List.cons_append, encAll, encAll, encMore_snoc, List.append_assoc]
theorem behindR_shut {j : Nat} {u : List Nat} : behindR m (j :: u) 41 = some ⟨.behind, 0, u⟩ := by
  unfold behindR
  rw [if_pos ⟨rfl, fun e => nomatch e⟩]; rfl
theorem behindR_more {j : Nat} {u : List Nat} (h : j < 4) : behindR m (j :: u) 32 = some ⟨.wanted, 0, j :: u⟩ := by
  unfold behindR
  rw [if_neg (by rintro ⟨h, _⟩; exact absurd h (by decide)), if_pos ⟨rfl, decide_eq_true h⟩]
theorem behindR_no {inn : List Nat} {c : Nat} (h : c ≠ 41 ∨ inn = []) (h2 : c ≠ 32 ∨ roomR m inn = false) : behindR m inn c = none := by
  unfold behindR
  rw [if_neg (by
    rintro ⟨a, b⟩
    rcases h with h | h
    · exact h a
    · exact b h), if_neg (by
    rintro ⟨a, b⟩
    rcases h2 with h2 | h2
    · exact h2 a
    · rw [h2] at b; cases b)]
theorem bad_behind {j n : Nat} {u : List Nat} {l : List Nat} (h : l.head? ≠ some 41) (h2 : l.head? = some 32 → ¬ j < 4) : bad m ⟨.behind, n, j :: u⟩ l = some 0 := by
  cases l with
  | nil => rfl
  | cons c l =>
    refine bad_none ?_
    rw [step_behind]
    refine behindR_no (.inl fun e => h (by rw [e]; rfl)) ?_
    by_cases hc : c = 32
    · exact .inr (decide_eq_false (h2 (by rw [hc]; rfl)))
    · exact .inl hc
/-- what key_from tells of a place -/
def R_key_from (mg : Str → Option Value) (r : Nat) : V → V → V → Hp → VK → XK → Prop := fun t n rm H Q E => ∃ (z : Str) (k : Nat) (m : Bool) (inn : List Nat), t = .str z ∧ n = .int k ∧ rm = .int (r : Int) ∧ z.length ≤ 1000000 ∧ inn.length + r = 3 ∧
  (∀ d rest p v H', isK r d → z.cps.toList.drop k = encL d ++ rest → bad m ⟨.wanted, 0, inn⟩ (z.cps.toList.drop k) = (bad m ⟨.behind, 0, upI inn⟩ rest).map (· + (encL d).length) → Fr Non H H' → H' p = some (.tup [v, .int ((k + (encL d).length : Nat) : Int)]) → Dt H' v d → Q (.ref p) H') ∧
  (∀ e, bad m ⟨.wanted, 0, inn⟩ (z.cps.toList.drop k) = some e → Refuses mg H E (k + e))
def R_parts_from (mg : Str → Option Value) (r : Nat) : V → V → V → Hp → VK → XK → Prop := fun t n rm H Q E => ∃ (z : Str) (k : Nat) (m : Bool) (u : List Nat), t = .str z ∧ n = .int k ∧ rm = .int (r : Int) ∧ z.length ≤ 1000000 ∧ u.length + 1 + r = 3 ∧
  (∀ ds rest p v H', (∀ d ∈ ds, isK r d) → ds.length ≤ 4 → z.cps.toList.drop k = encAll ds ++ 41 :: rest → bad m ⟨.opened, 0, 0 :: u⟩ (z.cps.toList.drop k) = (bad m ⟨.behind, 0, u⟩ rest).map (· + ((encAll ds).length + 1)) → Fr Non H H' → H' p = some (.tup [v, .int ((k + (encAll ds).length + 1 : Nat) : Int)]) → Dt H' v (.tuple ds) → Q (.ref p) H') ∧
  (∀ e, bad m ⟨.opened, 0, 0 :: u⟩ (z.cps.toList.drop k) = some e → Refuses mg H E (k + e))
end
end Tw

/-! TwM: the laws' reader of keys as tuples; texts made; refusals with a field, caught. -/
namespace Tw
open PySem PySem.Spec PyProof.Rows L2 TL
/-! ### signs up to the last printable one -/
def okT (z : Str) : Prop := ∀ c ∈ z.cps.toList, c ≤ 126
theorem okT_app {a b : Str} (h : okT a) (k : okT b) : okT (a ++ b) := fun c hc => by
  rw [str_app] at hc
  rcases List.mem_append.mp hc with hc | hc
  · exact h c hc
  · exact k c hc
theorem cut_list (z : Str) (lo hi : Option Int) : (cutS z lo hi).cps.toList = (z.cps.toList.drop (HT.sIx z.length 0 lo)).take (HT.sIx z.length z.length hi - HT.sIx z.length 0 lo) := rfl
theorem okT_cut {z : Str} (h : okT z) (lo hi : Option Int) : okT (cutS z lo hi) := fun c hc => by
  rw [cut_list] at hc
  exact h c (List.mem_of_mem_drop (List.mem_of_mem_take hc))
theorem cut_len (z : Str) (lo hi : Option Int) : (cutS z lo hi).length ≤ z.length := by
  rw [str_len, str_len, cut_list, List.length_take, List.length_drop]; omega
theorem cut_lenN (z : Str) {a n : Int} (ha : 0 ≤ a) (hn : 0 ≤ n) : ((cutS z (some a) (some (a + n))).length : Int) ≤ n := by
  have e1 : HT.sIx z.length 0 (some a) = min a.toNat z.length := by
    show (if a < 0 then _ else min a.toNat z.length) = _
    rw [if_neg (by omega)]
  have e2 : HT.sIx z.length z.length (some (a + n)) = min (a + n).toNat z.length := by
    show (if a + n < 0 then _ else min (a + n).toNat z.length) = _
    rw [if_neg (by omega)]
  rw [str_len, cut_list, List.length_take, e1, e2]
  omega
theorem okT_strOk {z : Str} (h : okT z) : PyData.strOk z = true := by
  unfold PyData.strOk
  rw [Array.all_eq_true_iff_forall_mem]
  intro c hc
  have := h c (Array.mem_toList_iff.mpr hc)
  exact decide_eq_true (by omega)
theorem okT_one {c : Nat} (h : c ≤ 126) : okT ⟨#[c]⟩ := fun d hd => by
  have e : d = c := by simpa using hd
  subst e; exact h
theorem okT_all {s : Str} (h : s.cps.toList.all (fun c => decide (c ≤ 126)) = true) : okT s := fun c hc => of_decide_eq_true (List.all_eq_true.mp h c hc)
theorem okT_encL : ∀ {r : Nat} {d : PyData}, isK r d → ∀ c ∈ encL d, c ≤ 126
  | r, d, h => by
    rcases isK_cases h with ⟨i, rfl, hi⟩ | ⟨z, rfl, hz⟩ | ⟨r1, ds, rfl, rfl, _, hs⟩
    · intro c hc
      rw [encL] at hc
      rcases intL_cases hi with ⟨m, h1, h2, h3⟩ | ⟨m, h1, h2, h3⟩
      · rw [h2] at hc
        have := numL_digits m c hc; omega
      · rw [h2] at hc
        rcases List.mem_cons.mp hc with rfl | hc
        · decide
        · have := numL_digits _ c hc; omega
    · intro c hc
      rw [encL] at hc
      have he : ∀ l : List Nat, (∀ x ∈ l, x ≤ 126) → ∀ x ∈ escL l, x ≤ 126 := by
        intro l hl
        induction l with
        | nil => intro x hx; cases hx
        | cons y l ih =>
          intro x hx
          rw [escL_cons] at hx
          rcases List.mem_append.mp hx with hx | hx
          · have hy := hl y (List.mem_cons_self ..)
            unfold esc1 at hx
            split at hx
            · rcases List.mem_cons.mp hx with rfl | hx
              · decide
              · rw [List.mem_singleton.mp hx]; exact hy
            · rw [List.mem_singleton.mp hx]; exact hy
          · exact ih (fun x hx => hl x (List.mem_cons_of_mem _ hx)) x hx
      rcases List.mem_cons.mp hc with rfl | hc
      · decide
      rcases List.mem_append.mp hc with hc | hc
      · exact he _ (fun x hx => (hz.2 x hx).2) c hc
      · rw [List.mem_singleton.mp hc]; decide
    · have hm : ∀ es : List PyData, (∀ e ∈ es, isK r1 e) → ∀ c ∈ encMore es, c ≤ 126 := by
        intro es
        induction es with
        | nil => intro _ c hc; cases hc
        | cons e es ih =>
          intro he c hc
          rw [encMore] at hc
          rcases List.mem_cons.mp hc with rfl | hc
          · decide
          rcases List.mem_append.mp hc with hc | hc
          · exact okT_encL (he e (List.mem_cons_self ..)) c hc
          · exact ih (fun x hx => he x (List.mem_cons_of_mem _ hx)) c hc
      intro c hc
      rw [encL] at hc
      rcases List.mem_cons.mp hc with rfl | hc
      · decide
      rcases List.mem_append.mp hc with hc | hc
      · cases ds with
        | nil => cases hc
        | cons e es =>
          rw [encAll] at hc
          rcases List.mem_append.mp hc with hc | hc
          · exact okT_encL (hs e (List.mem_cons_self ..)) c hc
          · exact hm es (fun x hx => hs x (List.mem_cons_of_mem _ hx)) c hc
      · rw [List.mem_singleton.mp hc]; decide

/-! ### the reader's state as a tuple -/
def wdS : Wd → Str
  | .wanted => "wanted"
  | .opened => "opened"
  | .minus => "minus"
  | .figures => "figures"
  | .text => "text"
  | .freed => "freed"
  | .behind => "behind"
def innD (inn : List Nat) : List PyData := inn.reverse.map fun (j : Nat) => PyData.int (j : Int)
def stD (s : Rs) : PyData := .tuple [.str (wdS s.w), .int (s.n : Int), .tuple (innD s.inn)]
theorem innD_nil : innD [] = [] := rfl
theorem innD_cons (j : Nat) (u : List Nat) : innD (j :: u) = innD u ++ [.int (j : Int)] := by unfold innD; rw [List.reverse_cons, List.map_append]; rfl
theorem innD_tail (inn : List Nat) : innD inn.tail = (innD inn).dropLast := by
  cases inn with
  | nil => rfl
  | cons j u => rw [innD_cons, List.dropLast_concat]; rfl
theorem innD_len (inn : List Nat) : (innD inn).length = inn.length := by unfold innD; rw [List.length_map, List.length_reverse]
theorem any3 (w : Wd) : ([PyData.str "minus", .str "text", .str "freed"].any fun z => PyData.eqv z (.str (wdS w))) = decide (w = .minus ∨ w = .text ∨ w = .freed) := by cases w <;> decide +kernel
theorem any2 (w : Wd) : ([PyData.str "opened", .str "wanted"].any fun z => PyData.eqv z (.str (wdS w))) = decide (w = .opened ∨ w = .wanted) := by cases w <;> decide +kernel
theorem any2b (w : Wd) : ([PyData.str "figures", .str "behind"].any fun z => PyData.eqv z (.str (wdS w))) = decide (w = .figures ∨ w = .behind) := by cases w <;> decide +kernel
theorem wd_ok (w : Wd) : SeqAt.shaped (.str (wdS w)) = true := by cases w <;> decide +kernel
theorem cut_init {α : Type} (ds : List α) {n : Nat} (h : n = ds.length) : (ds.drop (HT.sIx n 0 none)).take (HT.sIx n n (some (-1)) - HT.sIx n 0 none) = ds.dropLast := by
  have e : HT.sIx n n (some (-1)) = n - 1 := by
    show (if (-1 : Int) < 0 then ((-1 : Int) + (n : Int)).toNat else min (-1 : Int).toNat n) = _
    rw [if_pos (by decide)]; omega
  have e0 : HT.sIx n 0 none = 0 := rfl
  rw [e0, e, List.drop_zero, Nat.sub_zero, List.dropLast_eq_take, h]
theorem nz_mem (c : Nat) : decide (c ∈ (Str.ofString "123456789").cps.toList) = decide (49 ≤ c ∧ c ≤ 57) := by
  have e : (Str.ofString "123456789").cps.toList = [49, 50, 51, 52, 53, 54, 55, 56, 57] := by decide +kernel
  rw [e]
  refine decide_eq_decide.mpr ?_
  simp only [List.mem_cons, List.not_mem_nil, or_false]
  omega
theorem sg_lt (c : Nat) : decide ((⟨#[c]⟩ : Str).cps.toList < (Str.ofString " ").cps.toList) = decide (c < 32) := by
  rw [blank_cps]
  refine decide_eq_decide.mpr ?_
  show ([c] < [32]) ↔ _
  exact one_lt
theorem sg_gt (c : Nat) : decide ((Str.ofString "~").cps.toList < (⟨#[c]⟩ : Str).cps.toList) = decide (126 < c) := by
  rw [tilde_cps]
  refine decide_eq_decide.mpr ?_
  show ([126] < [c]) ↔ _
  exact one_lt
theorem inn_shaped (inn : List Nat) : SeqAt.shaped (.tuple (innD inn)) = true := by
  have h1 : (PyData.tuple (innD inn)).canLay0 = true := by
    show PyData.canLayAll0 (innD inn) = true
    exact canLayAll0_of fun d hd => by
      obtain ⟨j, _, rfl⟩ := List.mem_map.mp hd
      rfl
  have h2 : (PyData.tuple (innD inn)).depth ≤ 1 := by
    show PyData.depthAll (innD inn) + 1 ≤ 1
    exact Nat.succ_le_succ (depthAll_le fun d hd => by
      obtain ⟨j, _, rfl⟩ := List.mem_map.mp hd
      exact Nat.le_refl _)
  unfold SeqAt.shaped
  rw [h1, decide_eq_true (Nat.le_trans h2 (by decide))]; rfl
theorem inn_eqv (inn : List Nat) : PyData.eqv (.tuple (innD inn)) (.tuple []) = decide (inn = []) := by
  cases inn with
  | nil => decide +kernel
  | cons j u =>
    rw [innD_cons]
    cases hq : innD u ++ [PyData.int (j : Int)] with
    | nil => simp at hq
    | cons a b => simp [PyData.eqv, PyData.eqvAll]
theorem step_len {m : Bool} {s t : Rs} {c : Nat} (h : stepR m s c = some t) (hs : s.inn.length ≤ 3) : t.inn.length ≤ 3 := by
  have hu : (upI s.inn).length = s.inn.length := by cases s.inn <;> rfl
  have ht : s.inn.tail.length ≤ s.inn.length := by rw [List.length_tail]; omega
  have hw : ∀ w n, withinR w n s.inn c = some t → t.inn.length ≤ 3 := fun w n h => by
    unfold withinR at h
    repeat' split at h
    all_goals first | (cases h; exact hs) | cases h
  unfold stepR at h
  split at h
  · exact hw _ _ h
  split at h
  · cases h; exact Nat.le_trans ht hs
  split at h
  · unfold begunR at h
    split at h
    · cases h; show (upI s.inn).length ≤ 3; omega
    split at h
    · cases h; show (0 :: upI s.inn).length ≤ 3; rw [List.length_cons]; omega
    repeat' split at h
    all_goals first | (cases h; show (upI s.inn).length ≤ 3; omega) | cases h
  split at h
  · cases h; exact hs
  split at h
  · cases h; exact Nat.le_trans ht hs
  split at h
  · cases h; exact hs
  · cases h
/-- what the laws' reader tells of a text -/
def failsR (m : Bool) (z : Str) : Int := if m = true ∧ z.cps.toList = [] then -1 else match bad m ⟨.wanted, 0, []⟩ z.cps.toList with
  | none => -1
  | some e => (e : Int)

/-! ### isinstance of what is caught, with a field -/
section
variable {X : Cx}
def rIsY (K : PySem.W.Frag) (a : Addr) (cls : Value) (d : Option Addr) : List V → Hp → VK → Prop := fun xs H Q => ∃ (D dd : Addr) (fs : List (Str × V)) (c : V) (cv : Value) (b : Bool), cls = .ref D ∧ d = some dd ∧ H dd = some (.xd fs) ∧ HoldC K D ∧ xs = [.ref a, c] ∧ ClsV c cv ∧ PySem.W.kitOne K (.ref D) cv = some b ∧ Q (.bl b) H
theorem call_isY {a : Addr} {cls : Value} {d : Option Addr} {oe : Obj} {pn : List (Addr × Obj)} (hz : Zc cls d oe) (hf : ∃ vs, oe.data = .fields vs) : CallR (X.suite a ((a, oe) :: pn)) (.builtin "isinstance") (rIsY X.K a cls d) := by
  intro pins s σ H xs us Q I r h
  obtain ⟨D, dd, fs, c, cv, b, rfl, rfl, hd, hC, rfl, hv, e, q⟩ := h
  obtain ⟨u1, u2, rfl, r1, r2⟩ := vals2 r
  cases (show u1 = Value.ref a from r1)
  cases hv.eq r2
  obtain ⟨hget, _⟩ := I.pin (a, oe) (List.mem_append.mpr (.inl List.mem_cons_self))
  obtain ⟨vs, hv2⟩ := hf
  obtain ⟨mA, hns, hr⟩ := I.hok dd _ hd
  obtain ⟨od, ho, _⟩ := lookIn_ns hns
  have J : PySem.W.InstAt s.heap a oe D (some od) := by
    obtain ⟨oc, od', oda, osl⟩ := oe
    obtain ⟨h1, h2⟩ := hz
    dsimp only at h1 h2 hv2
    subst h1 h2 hv2
    exact ⟨hget, rfl, rfl, ho⟩
  have C := hC.ex
  exact PySem.W.kia_one (PySem.W.kitx_exc hC.cl C.hg C.hk C.hs C.ha C.hn C.ht C.hm) I.kIn J e (fun z => nomatch z) fun tk => ⟨.bl b, H, I.kept (t' := tk) fun _ _ z => z, rfl, q⟩
theorem x_isY {K : PySem.W.Frag} {a D dd : Addr} {fs : List (Str × V)} {c : V} {cv : Value} {b : Bool} {H : Hp} {Q : VK} (hd : H dd = some (.xd fs)) (hC : HoldC K D) (hv : ClsV c cv) (e : PySem.W.kitOne K (.ref D) cv = some b) (q : Q (.bl b) H) : rIsY K a (.ref D) (some dd) [.ref a, c] H Q := ⟨D, dd, fs, c, cv, b, rfl, rfl, hd, hC, rfl, hv, e, q⟩
end
/-- e.f of what is caught -/
theorem x_xf {a C dd : Addr} {f : Str} {v : V} {fs : List (Str × V)} {i : Nat} {σ : L2.St} {H : Hp} {Q : VK} (hv : σ[i]? = some (some (.ref a))) (hd : H dd = some (.xd fs)) (hl : List.lookup f fs = some v) (q : Q v H) : tXf a (.ref C) (some dd) C f (tVar i) σ H Q := ⟨.ref a, hv, rfl, rfl, dd, fs, v, rfl, hd, hl, q⟩
end Tw

/-! TwN: sets of numbers out of lists; dicts with lists in them. -/
namespace Tw
open PySem PySem.W PySem.Spec PyProof.Rows L2
set_option maxHeartbeats 8000000
theorem ints_get {vs : List Value} {ns : List Int} (h : IntsAre vs ns) : ∀ {i : Nat} {v : Value}, vs[i]? = some v → ∃ k t, ns[i]? = some k ∧ v = Value.int k t := by
  induction h with
  | nil => intro i v e; simp at e
  | cons n t h ih =>
    intro i v e
    cases i with
    | zero => simp at e; subst e; exact ⟨n, t, rfl, rfl⟩
    | succ i => exact ih (by simpa using e)
theorem call_set_listI {P : Program} {w : World} {A : Around} {E : Value → Shared → Prop} {s : Shared} {l : Addr} {items : Array Value} (ns : List Int) {Q : Value → Shared → Prop} (hh : A.handled = none) (hl : s.heap.IsList l items) (hi : IntsAre items.toList ns) (hb : ns.length + 1 < scanBound)
    (hQ : ∀ (h' : Heap) (tk c : Nat), SetR w h' s.heap.objs.size (fun j => decide (j ∈ ns)) c → c ≤ ns.length → (∀ (b : Addr) (o : Obj), s.heap.get? b = some o → h'.get? b = some o) →
      Q (Value.ref s.heap.objs.size) { heap := h', gens := s.gens, drawn := s.drawn, toks := tk, os := s.os }) : wpAny (model P w) A (call (Value.type "set") [Value.ref l]) Q E s := by
  obtain ⟨c, tl, hmro⟩ := F.called_set.mro
  have hmade := F.called_set.made
  have hsub := F.called_set.sub
  refine wpAny_call (codeAny_of_tree (id (wpAny_pure ⟨Code.quiet_builtin _ (by decide +kernel), codeAny_builtin F.entry_type_call ?_⟩)))
  rw [Around.under_plain (weight_type_call_type "set" [Value.ref l] []) rfl]
  have h1 := F.called_set.notType
  have h2 := F.called_set.canCreate
  have hct := F.typeCall_set_1 (Value.ref l)
  show wpAny _ _ (Builtin.«type.__call__» _) _ _ _
  unfold Builtin.«type.__call__»
  refine wpAny_ite_false (by decide +kernel) ?_
  refine wpAny_ite_false (by decide +kernel) ?_
  refine wpAny_bind (wpAny_of_eq hct (wpAny_bind (wpAny_of_eq hmro (wpAny_ite_false (by simp) (wpAny_bind (wpAny_of_eq hmade (wpAny_bind (wpAny_pure (wpAny_bind (wpAny_holding (wpAny_call (codeAny_mono (code_set_led1 (E := E) (Q₁ := fun obj s₁ => obj = Value.ref s.heap.objs.size ∧ s₁ = { heap := s.heap.push { cls := Value.type "set", data := Data.set #[] 0 (SetTable.fresh 0 0 !w.params.followText "set-order") }, gens := s.gens, drawn := s.drawn, toks := s.toks, os := s.os }) (Value.ref l) ⟨rfl, rfl⟩) fun r s₁ hr => ?_))))))))))))
  cases r with
  | error e => exact hr
  | ok fl =>
    cases fl with
    | ret obj =>
      obtain ⟨rfl, rfl⟩ := hr
      have hS := Heap.get?_push_size s.heap (o := { cls := Value.type "set", data := Data.set #[] 0 (SetTable.fresh 0 0 !w.params.followText "set-order") }) rfl
      have hT : Shared.TypeIs { heap := s.heap.push { cls := Value.type "set", data := Data.set #[] 0 (SetTable.fresh 0 0 !w.params.followText "set-order") }, gens := s.gens, drawn := s.drawn, toks := s.toks, os := s.os } (Value.ref s.heap.objs.size) "set" := ⟨_, hS, rfl⟩
      have hli := F.called_set.init.lookup
      have hbi := F.called_set.init.bind (Value.ref s.heap.objs.size)
      refine wpAny_bind (wpAny_isInstance hT hsub (wpAny_ite_false (by decide) (wpAny_bind (wpAny_holding (wpAny_bind (wpAny_specialOf hT hli (wpAny_holding (wpAny_bind ?_))))))))
      refine wpAny_of_eq hbi (wpAny_bind ?_)
      show wpAny (model P w) A.in1 (call (Value.builtin "set.__init__") [.ref s.heap.objs.size, .ref l] []) _ _ _
      refine wpAny_call (codeAny_call_builtin (by decide +kernel) F.entry_set_init (check_set_init_1 hT ?_))
      unfold Builtin.«set.__init__»
      have hfit : (SetTable.fresh 0 0 !w.params.followText "set-order").fits (#[] : Array (Int × Value)).size = true := by
        cases w.params.followText "set-order" <;> decide +kernel
      refine wpAny_bind ?_
      unfold noKeywords
      refine wpAny_ite_true rfl (wpAny_pure ?_)
      show wpAny (model P w) A.in1.in1 (do
        let n ← typeNameOfCut 200 (Value.ref s.heap.objs.size)
        _) _ _ _
      wp_walk
      obtain ⟨⟨oc, od, oda, osl⟩, hol, hcl, n, hdl⟩ := hl
      simp only at hcl hdl
      subst hcl hdl
      have hol' : (s.heap.push { cls := Value.type "set", data := Data.set #[] 0 (SetTable.fresh 0 0 !w.params.followText "set-order") }).get? l = some ⟨.type "list", od, .seq items n, osl⟩ := Heap.get?_push_of_some _ hol
      wp_walk using wpAny_loadPart' hol'
      refine wpAny_of_eq F.sub_list_set ?_
      wp_walk using wpAny_loadPart' hol'
      refine wpAny_of_eq F.sub_list_frozenset ?_
      refine wpAny_ite_false (by decide) ?_
      refine wpAny_bind (wpAny_typeOf ⟨_, hol', rfl⟩ ?_)
      refine wpAny_ite_false (by decide) ?_
      refine wpAny_bind (wpAny_pyIter_list (items := items) ⟨_, hol', rfl, n, rfl⟩ ?_)
      refine wpAny_bind (wpAny_runValue ?_)
      have hlt : l < s.heap.objs.size := Heap.lt_size hol
      have hn : items.size = ns.length := by
        have := hi.length
        rw [Array.length_toList] at this
        exact this
      refine set_update_ints (A := A.in1.in1) (Walks.list (A := A.in1.in1.in1) hh (s.heap.push { cls := Value.type "set", data := Data.set #[] 0 (SetTable.fresh 0 0 !w.params.followText "set-order") }).objs.size l (by rw [Heap.size_push]; exact Nat.ne_of_lt (Nat.lt_succ_of_lt hlt)) items).toS s.heap.objs.size ?_ ns hn hb ?_ items.size 0 _ rfl (Nat.zero_le _) ⟨?_, ?_⟩ ⟨0, Nat.le_refl _, ?_⟩ fun s' c' hm hc hS' => ?_
      · intro h
        rcases List.mem_cons.mp h with h | h
        · rw [Heap.size_push] at h; exact absurd h (Nat.ne_of_lt (Nat.lt_succ_self _))
        · exact absurd (List.mem_singleton.mp h) (Nat.ne_of_gt hlt)
      · intro i v hv
        exact ints_get hi (by rw [Array.getElem?_toList]; exact hv)
      · refine ⟨{ cls := Value.type "list_iterator", data := Data.fields #[Value.ref l, Value.int 0 0] }, ?_, rfl, rfl⟩
        have := Heap.get?_push_size (s.heap.push { cls := Value.type "set", data := Data.set #[] 0 (SetTable.fresh 0 0 !w.params.followText "set-order") }) (o := { cls := Value.type "list_iterator", data := Data.fields #[Value.ref l, Value.int 0 0] }) rfl
        exact this
      · exact ⟨_, Heap.get?_push_of_some _ hol', rfl, n, rfl⟩
      · exact setR_new_at (Heap.get?_push_of_some _ hS)
      · obtain ⟨h', g', d', tk', os'⟩ := s'
        have e1 : g' = s.gens := hm.gens
        have e2 : d' = s.drawn := hm.drawn
        have e3 : os' = s.os := hm.os
        subst e1 e2 e3
        refine wpAny_pure (wpAny_pure (wpAny_pure (wpAny_ite_false (by decide) (wpAny_pure ?_))))
        refine hQ h' tk' c' hS' (hn ▸ hc) fun b o e => ?_
        have hb0 := Heap.lt_size e
        refine hm.heap b o ?_ (Heap.get?_push_of_some _ (Heap.get?_push_of_some _ e))
        intro h
        rcases List.mem_cons.mp h with h | h
        · exact absurd h (Nat.ne_of_lt hb0)
        · have h := List.mem_singleton.mp h
          rw [Heap.size_push] at h
          exact absurd h (Nat.ne_of_lt (Nat.lt_succ_of_lt hb0))
    | _ => exact hr.elim

section
variable {X : Cx}
def rSetI (K : PySem.W.Frag) (w : World) : List V → Hp → VK → Prop := fun xs H Q => ∃ (a : Addr) (ns : List Int), xs = [.ref a] ∧ SqL K H a (ns.map V.int) ∧ ns.length ≤ 4000 ∧ ∀ p c, H p = none → c ≤ ns.length → Q (.ref p) (upd H p (SetO w p (fun j => decide (j ∈ ns)) c))
theorem cr_setI (hc : X.calm = true) : CallR X (.type "set") (rSetI X.K X.w) := by
  intro pins s σ H xs us Q I r h
  obtain ⟨a, ns, rfl, hS, hl, q⟩ := h
  rw [Vals.ref1 r]
  obtain ⟨its, rv, pl, _⟩ := I.list hS
  have hi : IntsAre its.toArray.toList ns := by
    rw [List.toList_toArray]
    clear hS hl q pl
    have go : ∀ (ns : List Int) (its : List Value), Vals (ns.map V.int) its → IntsAre its ns := by
      intro ns
      induction ns with
      | nil => intro its h; cases h; exact .nil
      | cons n ns ih =>
        intro its h
        cases h with
        | @cons _ v _ ur ra rw' =>
          obtain ⟨t, rfl⟩ := ra
          exact .cons n t (ih _ rw')
    exact go ns its rv
  obtain ⟨o, n, p1, p2, p3, p4⟩ := pl
  refine call_set_listI ns (I.ok.hd hc) ⟨o, p1, p2, n, p4⟩ hi (by show ns.length + 1 < 4096; omega) fun h' tk c hR hcl hk => ?_
  exact ⟨.ref s.heap.objs.size, upd H s.heap.objs.size (SetO X.w s.heap.objs.size (fun j => decide (j ∈ ns)) c), I.laid (t' := tk) hk (Nat.le_refl _) (setO_new hR), rfl, q _ c (I.hok.fresh (Nat.le_refl _)) hcl⟩
theorem KV_at {κ : Type} [DecidableEq κ] : ∀ {ks : List (κ × V)} {vs : List (κ × Value)}, KV ks vs → ∀ k, (valV ks k = none ∧ valueAt vs k = none) ∨ ∃ x v, valV ks k = some x ∧ valueAt vs k = some v ∧ L2.RelV x v
  | _, _, .nil, k => .inl ⟨rfl, rfl⟩
  | p :: ks, q :: vs, .cons e r, k => by
    obtain ⟨e1, e2⟩ := e
    by_cases h : p.1 = k
    · refine .inr ⟨p.2, q.2, valV_pos h, ?_, e2⟩
      have h2 : q.1 = k := e1 ▸ h
      show Option.map _ (List.find? _ (q :: vs)) = _
      rw [List.find?_cons_of_pos (by exact decide_eq_true h2)]; rfl
    · have h2 : ¬ q.1 = k := fun z => h (e1.trans z)
      have h3 : valueAt (q :: vs) k = valueAt vs k := by
        show Option.map _ (List.find? _ (q :: vs)) = _
        rw [List.find?_cons_of_neg (by simpa using h2)]; rfl
      rw [valV_neg h, h3]
      exact KV_at r k
theorem KV_mem {κ : Type} : ∀ {ks : List (κ × V)} {vs : List (κ × Value)}, KV ks vs → ∀ k v, (k, v) ∈ vs → ∃ x, (k, x) ∈ ks ∧ L2.RelV x v
  | _, _, .nil, k, v, h => nomatch h
  | p :: ks, q :: vs, .cons e r, k, v, h => by
    obtain ⟨e1, e2⟩ := e
    rcases List.mem_cons.mp h with h | h
    · subst h
      refine ⟨p.2, List.mem_cons.mpr (.inl ?_), e2⟩
      obtain ⟨p1, p2⟩ := p
      cases e1; rfl
    · obtain ⟨x, h1, h2⟩ := KV_mem r k v h
      exact ⟨x, List.mem_cons_of_mem _ h1, h2⟩
def rEqDL (K : PySem.W.Frag) : R2 := fun x y H Q => ∃ (a b : Addr) (ks ls : List (Key × V)), x = .ref a ∧ y = .ref b ∧ H a = some (.dK ks) ∧ H b = some (.dK ls) ∧ ks.length = ls.length ∧
  (∀ p ∈ ks, ∃ v d, valV ls p.1 = some v ∧ Dp K H p.2 d ∧ Dp K H v d ∧ d.canLay0 = true ∧ d.depth ≤ 20 ∧ PyData.eqv d d = true) ∧ Q (.bl true) H
theorem op_eqDL (hu : X.A.units + 64 < cLine) : OpR X (compareOp .Eq) (rEqDL X.K) := by
  intro pins s σ H x y v u Q I rx ry h
  obtain ⟨a, b, ks, ls, rfl, rfl, ha, hb, hl, hv, q⟩ := h
  cases (show v = Value.ref a from rx)
  cases (show u = Value.ref b from ry)
  obtain ⟨hz1, na, vs, kv1, da⟩ := (show ObjOk X.prog X.w H s.heap a (.dK ks) from I.hok a _ ha)
  obtain ⟨hz2, nb, us, kv2, db⟩ := (show ObjOk X.prog X.w H s.heap b (.dK ls) from I.hok b _ hb)
  refine eq_dictsT (n := 40) (e := fun _ => true) na nb da db (fun k v y hm hv' => ?_) (by omega) ?_
  · obtain ⟨x, hx, rx⟩ := KV_mem kv1 k v hm
    obtain ⟨v', d, e1, d1, d2, lay, dep, ev⟩ := hv (k, x) hx
    rcases KV_at kv2 k with ⟨g1, g2⟩ | ⟨z, zv, g1, g2, g3⟩
    · rw [g2] at hv'; cases hv'
    · rw [g2] at hv'; cases hv'
      rw [g1] at e1; cases e1
      obtain ⟨as, r1⟩ := Dp.reads I d x v d1 rx
      obtain ⟨bs, r2⟩ := Dp.reads I d _ _ d2 g3
      refine .leaf fun A hA => ?_
      have := SeqAt.eqAt_reads d d A s v y as bs r1 r2 lay lay (by have : min d.depth d.depth ≤ d.depth := Nat.min_le_left _ _; omega)
      rwa [ev] at this
  · refine ⟨.bl true, H, I, ?_, q⟩
    have e1 : (vs.length == us.length) = true := by
      rw [← KV.length kv1, ← KV.length kv2, hl]; exact beq_self_eq_true _
    have e2 : (vs.all fun p => (valueAt us p.1).isSome && true) = true := by
      rw [List.all_eq_true]
      intro p hp
      obtain ⟨x, hx, _⟩ := KV_mem kv1 p.1 p.2 hp
      obtain ⟨v', d, e1, _⟩ := hv (p.1, x) hx
      rcases KV_at kv2 p.1 with ⟨g1, g2⟩ | ⟨z, zv, g1, g2, g3⟩
      · rw [g1] at e1; cases e1
      · rw [g2]; rfl
    show Value.bool _ = Value.bool true
    rw [e1, e2]; rfl
def rDictP (K : PySem.W.Frag) : List V → Hp → VK → Prop := fun xs H Q => ∃ (a : Addr) (ps : List Addr) (kvs : List (Key × V)), xs = [.ref a] ∧ SqL K H a (ps.map V.ref) ∧ Paired (fun p kv => SqT K H p [kV kv.1, kv.2]) ps kvs ∧ ∀ p, H p = none → Q (.ref p) (upd H p (.dK (mergeK [] kvs)))
theorem c_dictP (hc : X.calm = true) : CallR X (.type "dict") (rDictP X.K) := call_dictP hc
theorem c_listD (hc : X.calm = true) : CallR X (.type "list") rListD := call_list_dK hc
end
theorem x_setI {K : PySem.W.Frag} {w : World} {H : Hp} {Q : VK} {a : Addr} {ns : List Int} (h : SqL K H a (ns.map V.int)) (hl : ns.length ≤ 4000) (q : ∀ p c, Fresh H p → c ≤ ns.length → Q (.ref p) (upd H p (SetO w p (fun j => decide (j ∈ ns)) c))) : rSetI K w [.ref a] H Q := ⟨a, ns, rfl, h, hl, q⟩
theorem x_sortedSet {w : World} {H : Hp} {Q : VK} {a : Addr} {S : Int → Bool} {n : Nat} (h : H a = some (SetO w a S n)) (hn : n < 64) (q : ∀ (ns : List Int) (p : Addr), ns.Pairwise (· < ·) → (∀ k : Int, k ∈ ns ↔ S k = true) → ns.length = n → Fresh H p → Q (.ref p) (upd H p (.lst (ns.map V.int)))) : rSortedSet w [.ref a] H Q := ⟨a, S, n, rfl, h, hn, q⟩
theorem x_listD {H : Hp} {Q : VK} {a : Addr} {kvs : List (Key × V)} (h : H a = some (.dK kvs)) (q : ∀ p, Fresh H p → Q (.ref p) (upd H p (.lst (kvs.map fun kv => kV kv.1)))) : rListD [.ref a] H Q := ⟨a, kvs, rfl, h, q⟩
end Tw

/-! TwO: who comes from whom. -/
namespace Tw
open PySem PySem.W PySem.Spec PyProof.Rows L2
abbrev Gr := List (Int × List Int)
def keysG (gs : Gr) : List Int := gs.map (·.1)
def eld : Gr → Int → List Int
  | [], _ => []
  | g :: gs, n => if g.1 = n then g.2 else eld gs n
structure GrOk (gs : Gr) : Prop where
  nd : (keysG gs).Nodup
  len : gs.length ≤ 60
  sub : ∀ g ∈ gs, ∀ e ∈ g.2, e ∈ keysG gs
  ndl : ∀ g ∈ gs, g.2.Nodup
inductive Rch (gs : Gr) (n : Int) : Int → Prop
  | refl : Rch gs n n
  | step {a c : Int} : Rch gs n a → c ∈ eld gs a → Rch gs n c
theorem Rch.trans {gs : Gr} {a b c : Int} (h : Rch gs a b) (k : Rch gs b c) : Rch gs a c := by
  induction k with
  | refl => exact h
  | step _ e ih => exact .step ih e
theorem eld_mem : ∀ {gs : Gr} {n : Int}, n ∈ keysG gs → (n, eld gs n) ∈ gs
  | g :: gs, n, h => by
    show (n, if g.1 = n then g.2 else eld gs n) ∈ _
    by_cases e : g.1 = n
    · rw [if_pos e, ← e]; exact List.mem_cons_self ..
    · rw [if_neg e]
      rcases List.mem_cons.mp h with h | h
      · exact absurd h.symm e
      · exact List.mem_cons_of_mem _ (eld_mem h)
theorem eld_of : ∀ {gs : Gr} {g : Int × List Int}, (keysG gs).Nodup → g ∈ gs → eld gs g.1 = g.2
  | g0 :: gs, g, h, hg => by
    have h' : (g0.1 :: keysG gs).Nodup := h
    rw [List.nodup_cons] at h'
    show (if g0.1 = g.1 then g0.2 else eld gs g.1) = g.2
    rcases List.mem_cons.mp hg with rfl | hg
    · rw [if_pos rfl]
    · rw [if_neg (by intro e; apply h'.1; rw [e]; exact List.mem_map_of_mem hg)]
      exact eld_of h'.2 hg
theorem Rch.keys {gs : Gr} {n k : Int} (ok : GrOk gs) (hn : n ∈ keysG gs) (h : Rch gs n k) : k ∈ keysG gs := by
  induction h with
  | refl => exact hn
  | step _ e ih => exact ok.sub _ (eld_mem ih) _ e
theorem GrOk.eld {gs : Gr} {n : Int} (ok : GrOk gs) (hn : n ∈ keysG gs) : (∀ e ∈ eld gs n, e ∈ keysG gs) ∧ (eld gs n).Nodup := ⟨ok.sub _ (eld_mem hn), ok.ndl _ (eld_mem hn)⟩
theorem len_sub {l m : List Int} (hd : l.Nodup) (hk : ∀ k ∈ l, k ∈ m) : l.length ≤ m.length := by
  induction l generalizing m with
  | nil => exact Nat.zero_le _
  | cons a l ih =>
    rw [List.nodup_cons] at hd
    have ha := hk a (List.mem_cons_self ..)
    have h1 := ih (m := m.erase a) hd.2 fun k h => (List.mem_erase_of_ne (by intro e; apply hd.1; rw [← e]; exact h)).mpr (hk k (List.mem_cons_of_mem _ h))
    rw [List.length_erase_of_mem ha] at h1
    have := List.length_pos_of_mem ha
    rw [List.length_cons]; omega
/-- without a number twice, all keys: no more than these -/
theorem GrOk.few {gs : Gr} (ok : GrOk gs) {l : List Int} (hd : l.Nodup) (hk : ∀ k ∈ l, k ∈ keysG gs) : l.length ≤ gs.length := by
  have h2 : l.length ≤ (keysG gs).length := len_sub hd hk
  rwa [keysG, List.length_map] at h2
/-- closed, from n on: all that it comes from -/
theorem rch_closed {gs : Gr} {n : Int} {fs : List Int} (h0 : n ∈ fs) (hr : ∀ f ∈ fs, Rch gs n f) (hc : ∀ f ∈ fs, ∀ e ∈ eld gs f, e ∈ fs) (k : Int) : k ∈ fs ↔ Rch gs n k :=
  ⟨hr k, fun h => by
    induction h with
    | refl => exact h0
    | step _ e ih => exact hc _ ih _ e⟩
def upI2 (l : List Int) : Prop := l.Pairwise (· < ·)
theorem up_ext : ∀ {l m : List Int}, upI2 l → upI2 m → (∀ k, k ∈ l ↔ k ∈ m) → l = m
  | [], [], _, _, _ => rfl
  | [], b :: m, _, _, h => by have := (h b).mpr (List.mem_cons_self ..); cases this
  | a :: l, [], _, _, h => by have := (h a).mp (List.mem_cons_self ..); cases this
  | a :: l, b :: m, hl, hm, h => by
    have h1 := List.pairwise_cons.mp hl
    have h2 := List.pairwise_cons.mp hm
    have e : a = b := by
      rcases List.mem_cons.mp ((h a).mp (List.mem_cons_self ..)) with e | e
      · exact e
      · rcases List.mem_cons.mp ((h b).mpr (List.mem_cons_self ..)) with e2 | e2
        · exact e2.symm
        · have := h2.1 a e
          have := h1.1 b e2
          omega
    subst e
    rw [up_ext h1.2 h2.2 fun k => ?_]
    constructor
    · intro hk
      rcases List.mem_cons.mp ((h k).mp (List.mem_cons_of_mem _ hk)) with e | e
      · have := h1.1 k hk; omega
      · exact e
    · intro hk
      rcases List.mem_cons.mp ((h k).mpr (List.mem_cons_of_mem _ hk)) with e | e
      · have := h2.1 k hk; omega
      · exact e
theorem upI2.nodup {l : List Int} (h : upI2 l) : l.Nodup := h.imp fun h => Int.ne_of_lt h
theorem up_of_le {l : List Int} (h : l.Pairwise (· ≤ ·)) (n : l.Nodup) : upI2 l := by
  have := List.Pairwise.and h n
  exact this.imp fun ⟨a, b⟩ => by omega
/-! ### in a heap -/
def kvG (gs : Gr) (as : List Addr) : List (Key × V) := (gs.zip as).map fun p => (Sum.inl p.1.1, V.ref p.2)
structure EldAt (H : Hp) (e : Addr) (gs : Gr) (as : List Addr) : Prop where
  len : as.length = gs.length
  dk : H e = some (.dK (kvG gs as))
  ls : ∀ p ∈ gs.zip as, H p.2 = some (.lst (p.1.2.map V.int))
theorem EldAt.keep {H H1 : Hp} {e : Addr} {gs : Gr} {as : List Addr} (h : EldAt H e gs as) (f : Fr Non H H1) : EldAt H1 e gs as := ⟨h.len, f.keep _ _ h.dk id, fun p hp => f.keep _ _ (h.ls p hp) id⟩
theorem val_zip : ∀ {gs : Gr} {as : List Addr} {n : Int}, as.length = gs.length → n ∈ keysG gs → ∃ a, valV (kvG gs as) (Sum.inl n) = some (.ref a) ∧ ((n, eld gs n), a) ∈ gs.zip as
  | [], as, n, _, h => nomatch h
  | g :: gs, [], n, hl, _ => by cases hl
  | g :: gs, a :: as, n, hl, h => by
    have hl' : as.length = gs.length := Nat.succ.inj hl
    show ∃ b, valV ((Sum.inl g.1, V.ref a) :: kvG gs as) (Sum.inl n) = _ ∧ ((n, if g.1 = n then g.2 else eld gs n), b) ∈ (g, a) :: gs.zip as
    by_cases e : g.1 = n
    · refine ⟨a, valV_pos (by rw [e]), ?_⟩
      rw [if_pos e, ← e]; exact List.mem_cons_self ..
    · rw [if_neg e]
      have h2 : n ∈ keysG gs := by
        rcases List.mem_cons.mp h with h | h
        · exact absurd h.symm e
        · exact h
      obtain ⟨b, h3, h4⟩ := val_zip hl' h2
      refine ⟨b, ?_, List.mem_cons_of_mem _ h4⟩
      rw [valV_neg (by intro z; injection z with z; exact e z)]
      exact h3
theorem EldAt.get {H : Hp} {e : Addr} {gs : Gr} {as : List Addr} {n : Int} (h : EldAt H e gs as) (hn : n ∈ keysG gs) : ∃ a, DGet H e (.int n) (some (.ref a)) ∧ H a = some (.lst ((eld gs n).map V.int)) := by
  obtain ⟨a, h1, h2⟩ := val_zip h.len hn
  refine ⟨a, ?_, h.ls _ h2⟩
  rw [← h1]
  exact DGet.k (k := Sum.inl n) h.dk
structure RowsAt (H : Hp) (r : Addr) (gs : Gr) (ts as : List Addr) : Prop where
  lt : ts.length = gs.length
  la : as.length = gs.length
  ls : H r = some (.lst (ts.map V.ref))
  at_ : ∀ (i : Nat) g t a, gs[i]? = some g → ts[i]? = some t → as[i]? = some a → H t = some (.tup [.int g.1, .ref a]) ∧ H a = some (.lst (g.2.map V.int))
theorem RowsAt.keep {H H1 : Hp} {r : Addr} {gs : Gr} {ts as : List Addr} (h : RowsAt H r gs ts as) (f : Fr Non H H1) : RowsAt H1 r gs ts as := ⟨h.lt, h.la, f.keep _ _ h.ls id, fun i g t a h1 h2 h3 => ⟨f.keep _ _ (h.at_ i g t a h1 h2 h3).1 id, f.keep _ _ (h.at_ i g t a h1 h2 h3).2 id⟩⟩
theorem x_dget {td ty : TE} {σ : L2.St} {H : Hp} {Q : VK} (q : td σ H fun x H1 => ty σ H1 fun y H2 => ∃ a v, x = .ref a ∧ DGet H2 a y (some v) ∧ Q v H2) : tDGet td ty σ H Q := q
theorem x_extend {l b : Addr} {xs zs : List V} {H : Hp} {Q : VK} (h : H l = some (.lst xs)) (k : H b = some (.lst zs)) (hs : xs.length + zs.length ≤ 100000) (q : Q .non (upd H l (.lst (xs ++ zs)))) : rExtend (.ref l) [.ref b] H Q := ⟨l, b, xs, zs, rfl, rfl, h, k, Nat.le_trans hs (by decide), q⟩
/-- membership among numbers -/
theorem any_int (ns : List Int) (k : Int) : ((ns.map PyData.int).any fun z => PyData.eqv z (.int k)) = decide (k ∈ ns) := by
  induction ns with
  | nil => rfl
  | cons n ns ih =>
    rw [List.map_cons, List.any_cons, ih]
    have e : PyData.eqv (.int n) (.int k) = decide (n = k) := by
      rw [PyData.eqv]
      by_cases h : n = k
      · subst h; rw [decide_eq_true rfl]; exact beq_self_eq_true _
      · rw [decide_eq_false h]; exact beq_false_of_ne h
    rw [e]
    by_cases h : n = k
    · subst h; rw [decide_eq_true rfl, decide_eq_true (List.mem_cons_self ..)]; rfl
    · rw [decide_eq_false h, Bool.false_or]
      exact decide_eq_decide.mpr ⟨List.mem_cons_of_mem _, fun h2 => by
        rcases List.mem_cons.mp h2 with h2 | h2
        · exact absurd h2.symm h
        · exact h2⟩
theorem dp_ints {K : PySem.W.Frag} {H : Hp} : ∀ ns : List Int, DpAll K H (ns.map V.int) (ns.map PyData.int)
  | [] => .nil
  | n :: ns => .cons (.int n) (dp_ints ns)
theorem ints_shaped (ns : List Int) : SeqAt.shaped (.list (ns.map PyData.int)) = true := by
  have h1 : (PyData.list (ns.map PyData.int)).canLay0 = true := by
    show PyData.canLayAll0 (ns.map PyData.int) = true
    exact canLayAll0_of fun d hd => by
      obtain ⟨j, _, rfl⟩ := List.mem_map.mp hd
      rfl
  have h2 : (PyData.list (ns.map PyData.int)).depth ≤ 1 := by
    show PyData.depthAll (ns.map PyData.int) + 1 ≤ 1
    exact Nat.succ_le_succ (depthAll_le fun d hd => by
      obtain ⟨j, _, rfl⟩ := List.mem_map.mp hd
      exact Nat.le_refl _)
  unfold SeqAt.shaped
  rw [h1, decide_eq_true (Nat.le_trans h2 (by decide))]; rfl
theorem eqv_ints (ns ms : List Int) : PyData.eqv (.list (ns.map PyData.int)) (.list (ms.map PyData.int)) = decide (ns = ms) := by
  rw [PyData.eqv]
  induction ns generalizing ms with
  | nil =>
    cases ms with
    | nil => rfl
    | cons m ms => rfl
  | cons n ns ih =>
    cases ms with
    | nil => rfl
    | cons m ms =>
      rw [List.map_cons, List.map_cons, PyData.eqvAll, ih, PyData.eqv]
      by_cases h : n = m
      · subst h
        rw [beq_self_eq_true, Bool.true_and]
        exact decide_eq_decide.mpr ⟨fun h => by rw [h], fun h => by injection h⟩
      · rw [beq_false_of_ne h, Bool.false_and]
        exact (decide_eq_false fun e => h (by injection e)).symm
/-- k in ns, ns a list of numbers -/
theorem x_inI {K : PySem.W.Frag} {H : Hp} {Q : VK} {a : Addr} {k : Int} {ns : List Int} (h : H a = some (.lst (ns.map V.int))) (q : Q (.bl (decide (k ∈ ns))) H) : rInD K (.int k) (.ref a) H Q :=
  x_inD (.int k) (.lst (SqL.of h) (dp_ints ns)) rfl (ints_shaped ns) (by rw [any_int]; exact q)
theorem x_notInI {K : PySem.W.Frag} {H : Hp} {Q : VK} {a : Addr} {k : Int} {ns : List Int} (h : H a = some (.lst (ns.map V.int))) (q : Q (.bl (!decide (k ∈ ns))) H) : rNotInD K (.int k) (.ref a) H Q :=
  x_notInD (.int k) (.lst (SqL.of h) (dp_ints ns)) rfl (ints_shaped ns) (by rw [any_int]; exact q)
theorem x_eqLI {K : PySem.W.Frag} {H : Hp} {Q : VK} {a b : Addr} {ns ms : List Int} (h : H a = some (.lst (ns.map V.int))) (k : H b = some (.lst (ms.map V.int))) (q : Q (.bl (decide (ns = ms))) H) : rEqD K (.ref a) (.ref b) H Q :=
  x_eqD (.lst (SqL.of h) (dp_ints ns)) (.lst (SqL.of k) (dp_ints ms)) (ints_shaped ns) (ints_shaped ms) (by rw [eqv_ints]; exact q)
theorem x_neLI {K : PySem.W.Frag} {H : Hp} {Q : VK} {a b : Addr} {ns ms : List Int} (h : H a = some (.lst (ns.map V.int))) (k : H b = some (.lst (ms.map V.int))) (q : Q (.bl (!decide (ns = ms))) H) : rNeD K (.ref a) (.ref b) H Q :=
  x_neD (.lst (SqL.of h) (dp_ints ns)) (.lst (SqL.of k) (dp_ints ms)) (ints_shaped ns) (ints_shaped ms) (by rw [eqv_ints]; exact q)
theorem Paired.snoc {α β : Type} {F : α → β → Prop} : ∀ {l : List α} {m : List β} {a : α} {b : β}, Paired F l m → F a b → Paired F (l ++ [a]) (m ++ [b])
  | _, _, _, _, .nil, h => .cons h .nil
  | _, _, _, _, .cons e r, h => .cons e (Paired.snoc r h)
theorem Paired.imp {α β : Type} {F G : α → β → Prop} (h : ∀ a b, F a b → G a b) : ∀ {l : List α} {m : List β}, Paired F l m → Paired G l m
  | _, _, .nil => .nil
  | _, _, .cons e r => .cons (h _ _ e) (Paired.imp h r)
theorem valV_none : ∀ {kvs : List (Key × V)} {k : Key}, k ∉ kvs.map (·.1) → valV kvs k = none
  | [], _, _ => rfl
  | p :: kvs, k, h => by
    rw [List.map_cons, List.mem_cons, not_or] at h
    rw [valV_neg (fun e => h.1 e.symm)]
    exact valV_none h.2
theorem merge_new : ∀ (more acc : List (Key × V)), (more.map (·.1)).Nodup → (∀ p ∈ more, p.1 ∉ acc.map (·.1)) → mergeK acc more = acc ++ more
  | [], acc, _, _ => (List.append_nil _).symm
  | p :: more, acc, h, hn => by
    rw [List.map_cons, List.nodup_cons] at h
    have e := putK_new p.2 (valV_none (hn p (List.mem_cons_self ..)))
    show mergeK (putK acc p.1 p.2) more = _
    rw [e, merge_new more _ h.2 fun q hq => ?_]
    · rw [List.append_assoc]; rfl
    · rw [List.map_append, List.mem_append, not_or]
      refine ⟨hn q (List.mem_cons_of_mem _ hq), fun hq2 => ?_⟩
      have hq2 : q.1 = p.1 := by simpa using hq2
      exact h.1 (by rw [← hq2]; exact List.mem_map_of_mem hq)
theorem kvG_keys : ∀ {gs : Gr} {as : List Addr}, as.length = gs.length → (kvG gs as).map (·.1) = (keysG gs).map Sum.inl
  | [], [], _ => rfl
  | [], _ :: _, h => by cases h
  | _ :: _, [], h => by cases h
  | g :: gs, a :: as, h => by
    show Sum.inl g.1 :: (kvG gs as).map (·.1) = Sum.inl g.1 :: (keysG gs).map Sum.inl
    rw [kvG_keys (Nat.succ.inj h)]
theorem merge_kvG {gs : Gr} {as : List Addr} (hl : as.length = gs.length) (hd : (keysG gs).Nodup) : mergeK [] (kvG gs as) = kvG gs as := by
  rw [merge_new _ _ ?_ (fun _ _ => List.not_mem_nil), List.nil_append]
  rw [kvG_keys hl]
  exact List.Pairwise.map _ (fun a b h e => h (by injection e)) hd
theorem kvG_snoc {gs : Gr} {as : List Addr} (g : Int × List Int) (a : Addr) (hl : as.length = gs.length) : kvG (gs ++ [g]) (as ++ [a]) = kvG gs as ++ [(Sum.inl g.1, V.ref a)] := by
  unfold kvG
  rw [List.zip_append hl.symm, List.map_append]; rfl
theorem kvG_paired {H : Hp} : ∀ {gs : Gr} {ts as : List Addr}, ts.length = gs.length → as.length = gs.length → (∀ (i : Nat) g t a, gs[i]? = some g → ts[i]? = some t → as[i]? = some a → H t = some (.tup [.int g.1, .ref a])) → Paired (fun t kv => H t = some (.tup [kV kv.1, kv.2])) ts (kvG gs as)
  | [], [], [], _, _, _ => .nil
  | [], _ :: _, _, h, _, _ => by cases h
  | [], [], _ :: _, _, h, _ => by cases h
  | _ :: _, [], _, h, _, _ => by cases h
  | _ :: _, _ :: _, [], _, h, _ => by cases h
  | g :: gs, t :: ts, a :: as, h1, h2, h => .cons (h 0 g t a rfl rfl rfl) (kvG_paired (Nat.succ.inj h1) (Nat.succ.inj h2) fun i g t a e1 e2 e3 => h (i + 1) g t a e1 e2 e3)
/-- what is left to be done -/
def costG (gs : Gr) (fs : List Int) : Nat := (gs.map fun g => if g.1 ∈ fs then 0 else g.2.length + 1).sum
theorem cost_same : ∀ {gs : Gr} {fs : List Int} {k : Int}, k ∉ keysG gs → costG gs (fs ++ [k]) = costG gs fs
  | [], _, _, _ => rfl
  | g :: gs, fs, k, h => by
    have h1 : k ≠ g.1 ∧ k ∉ keysG gs := by
      constructor
      · rintro rfl; exact h (List.mem_cons_self ..)
      · exact fun e => h (List.mem_cons_of_mem _ e)
    have ih := cost_same (fs := fs) h1.2
    unfold costG at ih ⊢
    rw [List.map_cons, List.map_cons, List.sum_cons, List.sum_cons, ih]
    by_cases hg : g.1 ∈ fs
    · rw [if_pos hg, if_pos (List.mem_append_left _ hg)]
    · rw [if_neg hg, if_neg (fun e => by
        rcases List.mem_append.mp e with e | e
        · exact hg e
        · exact h1.1 (List.mem_singleton.mp e).symm)]
theorem cost_new : ∀ {gs : Gr} {fs : List Int} {k : Int}, (keysG gs).Nodup → k ∈ keysG gs → k ∉ fs → costG gs (fs ++ [k]) + (eld gs k).length + 1 = costG gs fs
  | [], _, _, _, h, _ => nomatch h
  | g :: gs, fs, k, hd, h, hf => by
    have hd' : (g.1 :: keysG gs).Nodup := hd
    rw [List.nodup_cons] at hd'
    have e0 : eld (g :: gs) k = if g.1 = k then g.2 else eld gs k := rfl
    rw [e0]
    by_cases e : g.1 = k
    · have ih := cost_same (fs := fs) (show k ∉ keysG gs by rw [← e]; exact hd'.1)
      rw [if_pos e]
      unfold costG at ih ⊢
      rw [List.map_cons, List.map_cons, List.sum_cons, List.sum_cons, ih, if_pos (List.mem_append_right _ (by rw [e]; exact List.mem_singleton.mpr rfl)), if_neg (by rw [e]; exact hf)]
      omega
    · have hk : k ∈ keysG gs := by
        rcases List.mem_cons.mp h with h | h
        · exact absurd h.symm e
        · exact h
      have ih := cost_new hd'.2 hk hf
      rw [if_neg e]
      unfold costG at ih ⊢
      rw [List.map_cons, List.map_cons, List.sum_cons, List.sum_cons]
      have e2 : (if g.1 ∈ fs ++ [k] then 0 else g.2.length + 1) = (if g.1 ∈ fs then 0 else g.2.length + 1) := by
        by_cases hg : g.1 ∈ fs
        · rw [if_pos hg, if_pos (List.mem_append_left _ hg)]
        · rw [if_neg hg, if_neg (fun e3 => by
            rcases List.mem_append.mp e3 with e3 | e3
            · exact hg e3
            · exact e (List.mem_singleton.mp e3))]
      rw [e2]
      omega
theorem cost_le : ∀ {gs : Gr} {n : Nat}, (∀ g ∈ gs, g.2.length ≤ n) → costG gs [] ≤ gs.length * (n + 1)
  | [], _, _ => Nat.zero_le _
  | g :: gs, n, h => by
    have h1 := h g (List.mem_cons_self ..)
    have ih := cost_le fun x hx => h x (List.mem_cons_of_mem _ hx)
    unfold costG at ih ⊢
    rw [List.map_cons, List.sum_cons, List.length_cons, Nat.succ_mul, if_neg List.not_mem_nil]
    omega
theorem filter_yes {p : Int → Bool} {z : Int} (h : p z = true) : [z].filter p = [z] := by rw [List.filter_cons_of_pos h]; rfl
theorem filter_no {p : Int → Bool} {z : Int} (h : p z = false) : [z].filter p = [] := by rw [List.filter_cons_of_neg (by rw [h]; exact Bool.false_ne_true)]; rfl
inductive AtG (H : Hp) : Gr → List Addr → List Addr → Prop
  | nil : AtG H [] [] []
  | cons {g : Int × List Int} {gs : Gr} {t a : Addr} {ts as : List Addr} (ht : H t = some (.tup [.int g.1, .ref a])) (ha : H a = some (.lst (g.2.map V.int))) (r : AtG H gs ts as) : AtG H (g :: gs) (t :: ts) (a :: as)
theorem AtG.len {H : Hp} : ∀ {gs ts as}, AtG H gs ts as → ts.length = gs.length ∧ as.length = gs.length
  | _, _, _, .nil => ⟨rfl, rfl⟩
  | _, _, _, .cons _ _ r => ⟨congrArg (· + 1) r.len.1, congrArg (· + 1) r.len.2⟩
theorem AtG.app {H : Hp} : ∀ {gs ts as gs2 ts2 as2}, AtG H gs ts as → AtG H gs2 ts2 as2 → AtG H (gs ++ gs2) (ts ++ ts2) (as ++ as2)
  | _, _, _, _, _, _, .nil, k => k
  | _, _, _, _, _, _, .cons a b r, k => .cons a b (r.app k)
theorem AtG.take {H : Hp} : ∀ {gs ts as} (n : Nat), AtG H gs ts as → AtG H (gs.take n) (ts.take n) (as.take n)
  | _, _, _, 0, _ => .nil
  | _, _, _, _ + 1, .nil => .nil
  | _, _, _, n + 1, .cons a b r => .cons a b (r.take n)
theorem AtG.drop {H : Hp} : ∀ {gs ts as} (n : Nat), AtG H gs ts as → AtG H (gs.drop n) (ts.drop n) (as.drop n)
  | _, _, _, 0, h => h
  | _, _, _, _ + 1, .nil => .nil
  | _, _, _, n + 1, .cons _ _ r => r.drop n
theorem AtG.keepS {S : Addr → Prop} {H H1 : Hp} (f : Fr S H H1) : ∀ {gs ts as}, AtG H gs ts as → (∀ a ∈ as, ¬ S a) → AtG H1 gs ts as
  | _, _, _, .nil, _ => .nil
  | _, _, _, .cons a b r, h => .cons (f.tup _ _ a) (f.keep _ _ b (h _ (List.mem_cons_self ..))) (r.keepS f fun x hx => h x (List.mem_cons_of_mem _ hx))
theorem AtG.get {H : Hp} : ∀ {gs ts as} {i : Nat} {g t a}, AtG H gs ts as → gs[i]? = some g → ts[i]? = some t → as[i]? = some a → H t = some (.tup [.int g.1, .ref a]) ∧ H a = some (.lst (g.2.map V.int))
  | _, _, _, _, _, _, _, .nil, h, _, _ => by simp at h
  | _, _, _, 0, _, _, _, .cons a b r, h1, h2, h3 => by
    simp at h1 h2 h3
    subst h1 h2 h3
    exact ⟨a, b⟩
  | _, _, _, i + 1, _, _, _, .cons a b r, h1, h2, h3 => r.get (i := i) (by simpa using h1) (by simpa using h2) (by simpa using h3)
theorem AtG.rows {H : Hp} {r : Addr} {gs ts as} (h : AtG H gs ts as) (e : H r = some (.lst (ts.map V.ref))) : RowsAt H r gs ts as := ⟨h.len.1, h.len.2, e, fun _ _ _ _ h1 h2 h3 => h.get h1 h2 h3⟩
/-- numbers by steps -/
def numsL (st z : Int) (n : Nat) : List Int := (List.range n).map fun (j : Nat) => st + z * (j : Int)
theorem numsL_succ (st z : Int) (n : Nat) : numsL st z (n + 1) = numsL st z n ++ [st + z * (n : Int)] := by unfold numsL; rw [List.range_succ, List.map_append]; rfl
theorem numsL_len (st z : Int) (n : Nat) : (numsL st z n).length = n := by unfold numsL; rw [List.length_map, List.length_range]
theorem numsL_get {st z : Int} {n i : Nat} (h : i < n) : (numsL st z n)[i]? = some (st + z * (i : Int)) := by
  unfold numsL
  rw [List.getElem?_map, List.getElem?_range h]; rfl
theorem numsL_mem {st z k : Int} {n : Nat} : k ∈ numsL st z n ↔ ∃ i : Nat, i < n ∧ k = st + z * (i : Int) := by
  unfold numsL
  rw [List.mem_map]
  exact ⟨fun ⟨j, h1, h2⟩ => ⟨j, List.mem_range.mp h1, h2.symm⟩, fun ⟨j, h1, h2⟩ => ⟨j, List.mem_range.mpr h1, h2.symm⟩⟩
theorem mul_lt_mul' {z : Int} (hz : 1 ≤ z) {a b : Int} (h : a < b) : z * a < z * b := Int.mul_lt_mul_of_pos_left h (by omega)
theorem numsL_up (st : Int) {z : Int} (hz : 1 ≤ z) : ∀ n : Nat, upI2 (numsL st z n)
  | 0 => .nil
  | n + 1 => by
    rw [numsL_succ]
    unfold upI2
    rw [List.pairwise_append]
    refine ⟨numsL_up st hz n, List.pairwise_singleton _ _, fun a ha b hb => ?_⟩
    obtain ⟨i, hi, rfl⟩ := numsL_mem.mp ha
    rw [List.mem_singleton.mp hb]
    have := mul_lt_mul' hz (show (i : Int) < (n : Int) by omega)
    omega
theorem numsL_mono {st z k : Int} {n m : Nat} (h : n ≤ m) (hk : k ∈ numsL st z n) : k ∈ numsL st z m := by
  obtain ⟨i, hi, e⟩ := numsL_mem.mp hk
  exact numsL_mem.mpr ⟨i, by omega, e⟩
theorem numsL_take (st z : Int) {n i : Nat} (h : i ≤ n) : (numsL st z n).take i = numsL st z i := by
  unfold numsL
  rw [← List.map_take, List.take_range, Nat.min_eq_left h]
theorem AtG.mem {H : Hp} : ∀ {gs ts as}, AtG H gs ts as → ∀ x ∈ as, ∃ o, H x = some o
  | _, _, _, .nil, _, h => nomatch h
  | _, _, _, .cons a b r, x, h => by
    rcases List.mem_cons.mp h with rfl | h
    · exact ⟨_, b⟩
    · exact r.mem x h
theorem keysG_app (gs hs : Gr) : keysG (gs ++ hs) = keysG gs ++ keysG hs := List.map_append
theorem turn_ok {gs : Gr} (n : Nat) (ok : GrOk gs) : GrOk (gs.drop n ++ gs.take n) := by
  have p : (gs.drop n ++ gs.take n).Perm gs := by
    have := List.perm_append_comm (l₁ := gs.drop n) (l₂ := gs.take n)
    rwa [List.take_append_drop] at this
  have pk : (keysG (gs.drop n ++ gs.take n)).Perm (keysG gs) := p.map _
  exact ⟨pk.nodup_iff.mpr ok.nd, by rw [p.length_eq]; exact ok.len, fun g hg e he => pk.mem_iff.mpr (ok.sub g (p.mem_iff.mp hg) e he), fun g hg => ok.ndl g (p.mem_iff.mp hg)⟩
abbrev Two (a b : Addr) : Addr → Prop := fun c => c = a ∨ c = b
/-! ### a ladder -/
def lads (st z : Int) (n bk i : Nat) : List Int := ((numsL st z n).drop (i - bk)).take (i - (i - bk))
def ladG (st z : Int) (n bk i : Nat) : Gr := (List.range i).map fun (k : Nat) => (st + z * (k : Int), lads st z n bk k)
theorem ladG_succ (st z : Int) (n bk i : Nat) : ladG st z n bk (i + 1) = ladG st z n bk i ++ [(st + z * (i : Int), lads st z n bk i)] := by unfold ladG; rw [List.range_succ, List.map_append]; rfl
theorem ladG_keys (st z : Int) (n bk i : Nat) : keysG (ladG st z n bk i) = numsL st z i := by unfold ladG keysG numsL; rw [List.map_map]; rfl
theorem ladG_len (st z : Int) (n bk i : Nat) : (ladG st z n bk i).length = i := by unfold ladG; rw [List.length_map, List.length_range]
theorem lads_mem {st z e : Int} {n bk i : Nat} (hi : i ≤ n) : e ∈ lads st z n bk i ↔ ∃ j : Nat, i - bk ≤ j ∧ j < i ∧ e = st + z * (j : Int) := by
  unfold lads
  constructor
  · intro h
    obtain ⟨k, hk, rfl⟩ := List.getElem_of_mem h
    rw [List.length_take, List.length_drop, numsL_len] at hk
    refine ⟨i - bk + k, by omega, by omega, ?_⟩
    rw [List.getElem_take, List.getElem_drop]
    have := numsL_get (st := st) (z := z) (show i - bk + k < n by omega)
    rw [List.getElem?_eq_getElem (by rw [numsL_len]; omega)] at this
    exact Option.some.inj this
  · rintro ⟨j, h1, h2, rfl⟩
    refine List.mem_of_getElem? (i := j - (i - bk)) ?_
    rw [List.getElem?_take_of_lt (by omega), List.getElem?_drop, numsL_get (by omega)]
    have : i - bk + (j - (i - bk)) = j := by omega
    rw [this]
theorem lad_eld {st z : Int} (hz : 1 ≤ z) {n bk i : Nat} (hi : i < n) : eld (ladG st z n bk n) (st + z * (i : Int)) = lads st z n bk i := by
  have hm : (st + z * (i : Int), lads st z n bk i) ∈ ladG st z n bk n := List.mem_map.mpr ⟨i, List.mem_range.mpr hi, rfl⟩
  exact eld_of (by rw [ladG_keys]; exact (numsL_up st hz n).nodup) hm
theorem lad_ok {st z : Int} (hz : 1 ≤ z) {n bk : Nat} (hn : n ≤ 60) : GrOk (ladG st z n bk n) := by
  refine ⟨by rw [ladG_keys]; exact (numsL_up st hz n).nodup, by rw [ladG_len]; exact hn, fun g hg e he => ?_, fun g hg => ?_⟩
  · obtain ⟨i, hi, rfl⟩ := List.mem_map.mp hg
    have hi := List.mem_range.mp hi
    obtain ⟨j, _, h2, rfl⟩ := (lads_mem (Nat.le_of_lt hi)).mp he
    rw [ladG_keys]
    exact numsL_mem.mpr ⟨j, by omega, rfl⟩
  · obtain ⟨i, hi, rfl⟩ := List.mem_map.mp hg
    exact List.Pairwise.sublist ((List.take_sublist _ _).trans (List.drop_sublist _ _)) (numsL_up st hz n).nodup
theorem num_inj {st z : Int} (hz : 1 ≤ z) {i j : Nat} (h : st + z * (i : Int) = st + z * (j : Int)) : i = j := by
  rcases Nat.lt_trichotomy i j with h1 | h1 | h1
  · have := mul_lt_mul' hz (show (i : Int) < (j : Int) by omega); omega
  · exact h1
  · have := mul_lt_mul' hz (show (j : Int) < (i : Int) by omega); omega
theorem lad_rch {st z : Int} (hz : 1 ≤ z) {n bk i : Nat} (hb : 1 ≤ bk) (hi : i < n) (k : Int) : Rch (ladG st z n bk n) (st + z * (i : Int)) k ↔ k ∈ numsL st z (i + 1) := by
  constructor
  · intro h
    induction h with
    | refl => exact numsL_mem.mpr ⟨i, Nat.lt_succ_self _, rfl⟩
    | @step a c h1 h2 ih =>
      obtain ⟨j, hj, rfl⟩ := numsL_mem.mp ih
      rw [lad_eld hz (by omega)] at h2
      obtain ⟨l, _, h4, rfl⟩ := (lads_mem (by omega)).mp h2
      exact numsL_mem.mpr ⟨l, by omega, rfl⟩
  · intro h
    obtain ⟨j, hj, rfl⟩ := numsL_mem.mp h
    have go : ∀ d : Nat, d ≤ i → Rch (ladG st z n bk n) (st + z * (i : Int)) (st + z * ((i - d : Nat) : Int)) := by
      intro d
      induction d with
      | zero => intro _; exact .refl
      | succ d ih =>
        intro hd
        refine .step (ih (by omega)) ?_
        rw [lad_eld hz (by omega)]
        exact (lads_mem (by omega)).mpr ⟨i - (d + 1), by omega, by omega, rfl⟩
    have := go (i - j) (by omega)
    rwa [show i - (i - j) = j by omega] at this
/-- dicts of the same numbers -/
theorem x_eqEld {K : PySem.W.Frag} {H : Hp} {Q : VK} {a b : Addr} {gs : Gr} {as bs : List Addr} (ha : EldAt H a gs as) (hb : EldAt H b gs bs) (hd : (keysG gs).Nodup) (q : Q (.bl true) H) : rEqDL K (.ref a) (.ref b) H Q := by
  refine ⟨a, b, kvG gs as, kvG gs bs, rfl, rfl, ha.dk, hb.dk, ?_, fun p hp => ?_, q⟩
  · unfold kvG
    rw [List.length_map, List.length_map, List.length_zip, List.length_zip, ha.len, hb.len]
  · obtain ⟨z, hz, rfl⟩ := List.mem_map.mp hp
    have hg := (List.of_mem_zip hz).1
    have hk : z.1.1 ∈ keysG gs := List.mem_map_of_mem hg
    obtain ⟨c, h1, h2⟩ := val_zip hb.len hk
    have h3 := ha.ls z hz
    have h4 := hb.ls _ h2
    rw [eld_of hd hg] at h4
    refine ⟨.ref c, .list (z.1.2.map PyData.int), h1, .lst (SqL.of h3) (dp_ints _), .lst (SqL.of h4) (dp_ints _), ?_, ?_, ?_⟩
    · have := ints_shaped z.1.2
      unfold SeqAt.shaped at this
      rw [Bool.and_eq_true] at this
      exact this.1
    · show PyData.depthAll _ + 1 ≤ 20
      exact Nat.le_trans (Nat.succ_le_succ (depthAll_le (n := 0) fun d hd => by
        obtain ⟨j, _, rfl⟩ := List.mem_map.mp hd
        exact Nat.le_refl _)) (by decide)
    · rw [eqv_ints]; exact decide_eq_true rfl
theorem kvG_list : ∀ {gs : Gr} {as : List Addr}, as.length = gs.length → ((kvG gs as).map fun kv => kV kv.1) = (keysG gs).map V.int
  | [], [], _ => rfl
  | [], _ :: _, h => by cases h
  | _ :: _, [], h => by cases h
  | g :: gs, a :: as, h => by
    show kV (Sum.inl g.1) :: ((kvG gs as).map fun kv => kV kv.1) = V.int g.1 :: (keysG gs).map V.int
    rw [kvG_list (Nat.succ.inj h)]; rfl
theorem cut_both {xs : List V} {lo hi : Int} (h0 : 0 ≤ lo) (h1 : lo ≤ hi) (h2 : hi ≤ xs.length) : cutV xs (some lo) (some hi) = (xs.drop lo.toNat).take (hi.toNat - lo.toNat) := by
  have e1 : HT.sIx xs.length 0 (some lo) = min lo.toNat xs.length := by
    show (if lo < 0 then _ else min lo.toNat xs.length) = _
    rw [if_neg (by omega)]
  have e2 : HT.sIx xs.length xs.length (some hi) = min hi.toNat xs.length := by
    show (if hi < 0 then _ else min hi.toNat xs.length) = _
    rw [if_neg (by omega)]
  rw [cutV_eq, e1, e2, Nat.min_eq_left (by omega), Nat.min_eq_left (by omega)]
theorem atI_back {α : Type} {xs : List α} {k : Nat} {x : α} (h1 : 1 ≤ k) (h2 : k ≤ xs.length) (h : xs[xs.length - k]? = some x) : atI xs (-(k : Int)) = some x := by
  unfold atI ixN
  rw [if_neg (by omega), if_pos (by omega)]
  show xs[(-(k : Int) + (xs.length : Int)).toNat]? = some x
  have e : (-(k : Int) + (xs.length : Int)).toNat = xs.length - k := by omega
  rw [e, h]
theorem cut_butlast (xs : List V) : cutV xs none (some (-1)) = xs.dropLast := by rw [cutV_eq, cut_init xs rfl]
/-! ### bases -/
def GrLt (gs : Gr) : Prop := ∀ g ∈ gs, ∀ e ∈ g.2, e < g.1
def BaseOf (gs : Gr) (n m k : Int) : Prop := (Rch gs n k ∧ Rch gs m k) ∧ ∀ j, Rch gs n j → Rch gs m j → j ≠ k → ¬ Rch gs j k
theorem base_comm {gs : Gr} {n m k : Int} : BaseOf gs n m k ↔ BaseOf gs m n k :=
  ⟨fun h => ⟨⟨h.1.2, h.1.1⟩, fun j a b => h.2 j b a⟩, fun h => ⟨⟨h.1.2, h.1.1⟩, fun j a b => h.2 j b a⟩⟩
theorem rch_le {gs : Gr} (ok : GrOk gs) (lt : GrLt gs) {n k : Int} (hn : n ∈ keysG gs) (h : Rch gs n k) : k ≤ n := by
  induction h with
  | refl => exact Int.le_refl _
  | @step a c h1 h2 ih =>
    have := lt _ (eld_mem (h1.keys ok hn)) c h2
    have h3 : c < a := this
    omega
theorem base_one {gs : Gr} (ok : GrOk gs) (lt : GrLt gs) {n m : Int} (hn : n ∈ keysG gs) (hm : Rch gs m n) (k : Int) : BaseOf gs n m k ↔ k = n := by
  constructor
  · rintro ⟨⟨h1, h2⟩, h3⟩
    by_cases e : n = k
    · exact e.symm
    · exact absurd h1 (h3 n .refl hm e)
  · rintro rfl
    refine ⟨⟨.refl, hm⟩, fun j a b e c => e ?_⟩
    have h1 := rch_le ok lt hn a
    have h2 := rch_le ok lt (a.keys ok hn) c
    omega
theorem max_of : ∀ {l : List Int}, l ≠ [] → ∃ m ∈ l, ∀ j ∈ l, j ≤ m
  | [], h => absurd rfl h
  | [a], _ => ⟨a, List.mem_cons_self .., fun j hj => by rw [List.mem_singleton.mp hj]; exact Int.le_refl _⟩
  | a :: b :: l, _ => by
    obtain ⟨m, h1, h2⟩ := max_of (l := b :: l) (fun e => nomatch e)
    by_cases h : a ≤ m
    · refine ⟨m, List.mem_cons_of_mem _ h1, fun j hj => ?_⟩
      rcases List.mem_cons.mp hj with rfl | hj
      · exact h
      · exact h2 j hj
    · refine ⟨a, List.mem_cons_self .., fun j hj => ?_⟩
      rcases List.mem_cons.mp hj with rfl | hj
      · exact Int.le_refl _
      · have := h2 j hj; omega
/-- what reaches it, among what both reach: a base reaches it -/
theorem base_above {gs : Gr} (ok : GrOk gs) (lt : GrLt gs) {n m k : Int} {both : List Int} (hb : ∀ j, j ∈ both ↔ Rch gs n j ∧ Rch gs m j) (hn : n ∈ keysG gs) (R : Int → Bool) (hR : ∀ j ∈ both, R j = true ↔ Rch gs j k) (hk : k ∈ both) : ∃ j, BaseOf gs n m j ∧ Rch gs j k := by
  obtain ⟨j, h1, h2⟩ := max_of (l := both.filter R) (fun e => by
    have : k ∈ both.filter R := List.mem_filter.mpr ⟨hk, (hR k hk).mpr .refl⟩
    rw [e] at this; cases this)
  have h3 := List.mem_filter.mp h1
  have hj := (hb j).mp h3.1
  have hjk := (hR j h3.1).mp h3.2
  refine ⟨j, ⟨hj, fun i a b e c => e ?_⟩, hjk⟩
  have hi : i ∈ both := (hb i).mpr ⟨a, b⟩
  have := h2 i (List.mem_filter.mpr ⟨hi, (hR i hi).mpr (c.trans hjk)⟩)
  have h4 := rch_le ok lt (a.keys ok hn) c
  omega
structure BelOk (gs bs : Gr) : Prop where
  ks : keysG bs = keysG gs
  up : ∀ n ∈ keysG gs, upI2 (eld bs n)
  mem : ∀ n ∈ keysG gs, ∀ k, k ∈ eld bs n ↔ Rch gs n k
theorem BelOk.few {gs bs : Gr} (ok : GrOk gs) (h : BelOk gs bs) {n : Int} (hn : n ∈ keysG gs) : (eld bs n).length ≤ 60 := Nat.le_trans (ok.few (h.up n hn).nodup fun k hk => ((h.mem n hn k).mp hk).keys ok hn) ok.len
theorem lad_lt {st z : Int} (hz : 1 ≤ z) {n bk : Nat} : GrLt (ladG st z n bk n) := fun g hg e he => by
  obtain ⟨i, hi, rfl⟩ := List.mem_map.mp hg
  obtain ⟨j, _, h2, rfl⟩ := (lads_mem (Nat.le_of_lt (List.mem_range.mp hi))).mp he
  have := mul_lt_mul' hz (show (j : Int) < (i : Int) by omega)
  show st + z * (j : Int) < st + z * (i : Int)
  omega
theorem turn_lt {gs : Gr} (n : Nat) (h : GrLt gs) : GrLt (gs.drop n ++ gs.take n) := fun g hg => by
  rcases List.mem_append.mp hg with hg | hg
  · exact h g (List.mem_of_mem_drop hg)
  · exact h g (List.mem_of_mem_take hg)
theorem AtG.eld {H : Hp} {e : Addr} {gs : Gr} {ts as : List Addr} (h : AtG H gs ts as) (d : H e = some (.dK (kvG gs as))) : EldAt H e gs as := by
  refine ⟨h.len.2, d, fun p hp => ?_⟩
  obtain ⟨i, hi, rfl⟩ := List.getElem_of_mem hp
  rw [List.length_zip] at hi
  have hl := h.len
  rw [List.getElem_zip]
  obtain ⟨t, ht⟩ : ∃ t, ts[i]? = some t := ⟨_, List.getElem?_eq_getElem (by omega)⟩
  exact (h.get (List.getElem?_eq_getElem (by omega)) ht (List.getElem?_eq_getElem (by omega))).2
theorem AtG.paired {H : Hp} {gs : Gr} {ts as : List Addr} (h : AtG H gs ts as) : Paired (fun t kv => H t = some (.tup [kV kv.1, kv.2])) ts (kvG gs as) := kvG_paired h.len.1 h.len.2 fun _ _ _ _ h1 h2 h3 => (h.get h1 h2 h3).1
end Tw

namespace Tw
open PySem L2
def top (i : Nat) : Stmt := PySem.Challenge.pw_twigmap_k82_bases.main.body.getD i (.Pass ⟨0, 0, 0, 0⟩)
abbrev s_law_well : Stmt := top 5
abbrev s_law_pull : Stmt := top 6
abbrev s_law_elders : Stmt := top 7
abbrev s_law_copied : Stmt := top 9
abbrev s_law_whole : Stmt := top 10
abbrev s_law_list : Stmt := top 11
abbrev s_reach : Stmt := top 1
abbrev s_common : Stmt := top 2
abbrev s_bases : Stmt := top 3
abbrev s_law_climbed : Stmt := top 13
abbrev s_law_behind : Stmt := top 8
abbrev s_law_right : Stmt := top 12
abbrev s_law : Stmt := top 14
structure TX (K : PySem.W.Frag) (mg : Str → Option Value) : Prop where
  d_law_well : DefX K mg "_law_well" ["_law_script", "_law_k"] s_law_well
  d_law_pull : DefX K mg "_law_pull" ["_law_well_here", "_law_many"] s_law_pull
  d_law_elders : DefX K mg "_law_elders" ["_law_script", "_law_most"] s_law_elders
  d_law_copied : DefX K mg "_law_copied" ["_law_rows"] s_law_copied
  d_law_whole : DefX K mg "_law_whole" ["_law_found"] s_law_whole
  d_law_list : DefX K mg "_law_list" ["_law_found", "_law_due"] s_law_list
  d_reach : DefX K mg "reach" ["elders", "number"] s_reach
  d_common : DefX K mg "common" ["elders", "one", "other"] s_common
  d_bases : DefX K mg "bases" ["elders", "one", "other"] s_bases
  d_law_climbed : DefX K mg "_law_climbed" ["_law_script"] s_law_climbed
  d_law_behind : DefX K mg "_law_behind" ["_law_rows", "_law_number"] s_law_behind
  d_law_right : DefX K mg "_law_right" ["_law_below", "_law_one", "_law_other", "_law_found"] s_law_right
  d_law : DefX K mg "law" ["_law_script"] s_law
  b_abs : mg "abs" = none
  b_bool : mg "bool" = none
  b_dict : mg "dict" = none
  b_int : mg "int" = none
  b_isinstance : mg "isinstance" = none
  b_len : mg "len" = none
  b_list : mg "list" = none
  b_max : mg "max" = none
  b_range : mg "range" = none
  b_set : mg "set" = none
  b_sorted : mg "sorted" = none
local macro_rules | `(tactic| walk_at "nn") => `(tactic| first
  | assumption
  | exact upd_back (by assumption)
  | exact upd_back (upd_back (by assumption))
  | exact upd_back (upd_back (upd_back (by assumption)))
  | exact upd_back (upd_back (upd_back (upd_back (by assumption))))
  | exact upd_back (upd_back (upd_back (upd_back (upd_back (by assumption)))))
  | exact upd_back (upd_back (upd_back (upd_back (upd_back (upd_back (by assumption))))))
  | exact upd_back (upd_back (upd_back (upd_back (upd_back (upd_back (upd_back (by assumption)))))))
  | exact upd_back (upd_back (upd_back (upd_back (upd_back (upd_back (upd_back (upd_back (by assumption))))))))
  | exact upd_back (upd_back (upd_back (upd_back (upd_back (upd_back (upd_back (upd_back (upd_back (by assumption)))))))))
  | exact upd_back (upd_back (upd_back (upd_back (upd_back (upd_back (upd_back (upd_back (upd_back (upd_back (by assumption))))))))))
  | exact Fr.free (by assumption) (by walk_at "nn")
  | exact upd_back (Fr.free (by assumption) (by walk_at "nn"))
  | exact upd_back (upd_back (Fr.free (by assumption) (by walk_at "nn")))
  | exact upd_back (upd_back (upd_back (Fr.free (by assumption) (by walk_at "nn"))))
  | exact upd_back (upd_back (upd_back (upd_back (Fr.free (by assumption) (by walk_at "nn")))))
  | exact upd_back (upd_back (upd_back (upd_back (upd_back (Fr.free (by assumption) (by walk_at "nn"))))))
  | exact upd_back (upd_back (upd_back (upd_back (upd_back (upd_back (Fr.free (by assumption) (by walk_at "nn")))))))
  | fail "no way")
local macro_rules | `(tactic| walk_at "ne1") => `(tactic| first
  | assumption
  | exact Ne.symm (by assumption)
  | fail "no way")
local macro_rules | `(tactic| walk_at "ne") => `(tactic| first
  | walk_at "ne1"
  | (refine ne_fr (H := ?H) (o := ?o) ?h1 ?h2; (case h2 => assumption); (case h1 => walk_at "hp"))
  | (refine ne_fr (H := ?H) (o := .tup ?xs) ?h1 ?h2; (case h2 => assumption); (case h1 => walk_at "hp"))
  | (refine Ne.symm (ne_fr (H := ?H) (o := ?o) ?h1 ?h2); (case h2 => assumption); (case h1 => walk_at "hp"))
  | (refine Ne.symm (ne_fr (H := ?H) (o := .tup ?xs) ?h1 ?h2); (case h2 => assumption); (case h1 => walk_at "hp"))
  | (refine Well.ne (H := ?H) ?h1 ?h2; (case h2 => assumption); (case h1 => walk_at "we"))
  | (refine Ne.symm (Well.ne (H := ?H) ?h1 ?h2); (case h2 => assumption); (case h1 => walk_at "we"))
  | (refine ne_of (by assumption) (by assumption) ?_; (intro z; cases z; done))
  | fail "no way")
local macro_rules | `(tactic| walk_at "we") => `(tactic| first
  | assumption
  | (refine Well.fr (S := Non) ?h1 (Fr.new (Fr.refl _) ?h2) id; (case h2 => assumption); (case h1 => walk_at "we"))
  | (refine Well.fr (S := One _) ?h1 (Fr.mut (u := ?u) (Fr.refl _) ?h2 ?h3 (.inl rfl)) ?h4; (case h1 => walk_at "we"); (case h2 => walk_at "hp"); (case h3 => rfl); (case h4 => walk_at "ns"))
  | (refine Well.fr (S := ?S) (H := ?H) ?h1 ?f ?h2; (case f => assumption); (case h1 => walk_at "we"); (case h2 => walk_at "ns"))
  | fail "no way")
local macro_rules | `(tactic| walk_at "ns") => `(tactic| first
  | exact id
  | assumption
  | ((with_reducible refine not_One ?_); walk_at "ne")
  | fail "no way")
local macro_rules | `(tactic| walk_at "hp") => `(tactic| first
  | assumption
  | exact upd_same
  | ((with_reducible refine Eq.trans (upd_ne ?h1) ?h2); (case h1 => walk_at "ne"); (case h2 => walk_at "hp"))
  | (refine Fr.tup (S := ?S) (H := ?H0) ?f _ _ ?h1; (case f => assumption); (case h1 => walk_at "hp"))
  | (refine Fr.keep (S := ?S) (H := ?H0) ?f _ _ ?h1 ?h2; (case f => assumption); (case h1 => walk_at "hp"); (case h2 => walk_at "ns"))
  | fail "no way")
local macro_rules | `(tactic| walk_at "sq") => `(tactic| first
  | assumption
  | exact SqL.of (by walk_at "hp")
  | exact SqT.of (by walk_at "hp")
  | exact .inl (SqL.of (by walk_at "hp"))
  | exact .inr (SqT.of (by walk_at "hp"))
  | exact .inl (by assumption)
  | exact .inr (by assumption)
  | (refine SqL_upd ?_ (by assumption); walk_at "sq")
  | (refine .inl (SqL_upd ?_ (by assumption)); walk_at "sq")
  | (refine SqL_fr ?_ (by assumption) (by walk_at "ns"); walk_at "sq")
  | (refine .inl (SqL_fr ?_ (by assumption) (by walk_at "ns")); walk_at "sq")
  | fail "no way")
local macro_rules | `(tactic| walk_at "tg") => `(tactic| first
  | assumption
  | exact TgS.non
  | exact TgS.bl _
  | exact TgS.int _
  | exact TgS.str _
  | exact TgAllS.nil
  | (refine TgS.tup (by walk_at "hp") ?_; walk_at "tg")
  | (refine TgS.lst (by walk_at "hp") (by walk_at "ns"))
  | (refine TgS.dct (by walk_at "hp") (by walk_at "ns"))
  | (refine TgAllS.cons ?_ ?_ <;> walk_at "tg")
  | (refine TgS.new ?_ (by assumption); walk_at "tg")
  | (refine TgAllS.new ?_ (by assumption); walk_at "tg")
  | fail "no way")
local macro_rules | `(tactic| walk_at "dt") => `(tactic| first
  | assumption
  | exact Dt.int _
  | exact Dt.str _
  | exact DtAll.nil
  | (refine Dt.tup (by walk_at "hp") ?_; walk_at "dt")
  | (refine DtAll.cons ?_ ?_ <;> walk_at "dt")
  | (refine Dt.upd ?_ (by assumption); walk_at "dt")
  | (refine DtAll.upd ?_ (by assumption); walk_at "dt")
  | (refine Dt.updm (u := ?u) ?_ ?h1 ?h2; (case h1 => walk_at "hp"); (case h2 => rfl); walk_at "dt")
  | (refine DtAll.updm (u := ?u) ?_ ?h1 ?h2; (case h1 => walk_at "hp"); (case h2 => rfl); walk_at "dt")
  | (refine Dt.mono ?_ (by assumption); walk_at "dt")
  | (refine DtAll.mono ?_ (by assumption); walk_at "dt")
  | fail "no way")
local macro_rules | `(tactic| walk_at "mu") => `(tactic| first
  | exact Or.inl rfl
  | exact Or.inl trivial
  | exact Or.inr (by walk_at "nn")
  | exact Or.inl (by assumption)
  | fail "no way")
local macro_rules | `(tactic| walk_at "fr") => `(tactic| first
  | assumption
  | exact Fr.refl _
  | ((with_reducible refine Fr.new ?_ ?h1); (case h1 => assumption); walk_at "fr")
  | ((with_reducible refine Fr.mut (u := ?u) ?_ ?h1 ?h2 ?h3); (case h1 => walk_at "hp"); (case h2 => rfl); (case h3 => walk_at "mu"); walk_at "fr")
  | ((with_reducible refine Fr.sub' (H1 := ?H1) (T := ?T) ?_ ?h1 ?h2); (case h1 => assumption); (case h2 => walk_at "su"); walk_at "fr")
  | fail "no way")
local macro_rules | `(tactic| walk_at "su") => `(tactic| first
  | exact fun _ h => h.elim
  | exact fun _ h => .inl h
  | (intro b h; subst h; walk_at "mu")
  | fail "no way")
local macro_rules | `(tactic| walk_at "ix") => `(tactic| first
  | rfl
  | assumption
  | exact ix2i _ _ _
  | exact atI0 _ _
  | fail "no way")
local macro_rules | `(tactic| walk_at "sz") => `(tactic| first
  | (show _ ≤ 1000; decide)
  | assumption
  | (simp only [List.length_cons, List.length_nil, List.length_append, List.length_map, List.length_set, List.length_replicate]; omega)
  | omega
  | fail "no way")
local macro_rules | `(tactic| walk_at "zs") => `(tactic| first
  | assumption
  | (show _ ≤ 16777216; omega)
  | decide
  | fail "no way")
local macro_rules | `(tactic| walk_at "za") => `(tactic| first
  | assumption
  | (show _ ≤ 16777216; omega)
  | (refine Nat.le_trans (Nat.add_le_add_left (Nat.le_of_eq (str_one _)) _) ?_; show _ ≤ 16777216; omega)
  | (refine Nat.le_trans (Nat.add_le_add_right (Nat.le_of_eq (str_one _)) _) ?_; show _ ≤ 16777216; omega)
  | fail "no way")
local macro_rules | `(tactic| walk_at "ty") => `(tactic| first
  | exact .base (.int _)
  | exact .base (.bl _)
  | exact .base (.str _)
  | exact .base .non
  | exact .base (.tup (by walk_at "hp"))
  | exact .base (.lst (by walk_at "hp"))
  | fail "no way")
local macro_rules | `(tactic| walk_at "kit") => `(tactic| first
  | exact kit_int_int | exact kit_int_bool | exact kit_int_str | exact kit_int_tuple | exact kit_int_list
  | exact kit_bool_int | exact kit_bool_bool | exact kit_bool_str | exact kit_bool_tuple | exact kit_bool_list
  | exact kit_str_int | exact kit_str_bool | exact kit_str_str | exact kit_str_tuple | exact kit_str_list
  | exact kit_tuple_int | exact kit_tuple_bool | exact kit_tuple_str | exact kit_tuple_tuple | exact kit_tuple_list
  | exact kit_list_int | exact kit_list_bool | exact kit_list_str | exact kit_list_tuple | exact kit_list_list
  | exact kit_NoneType_int | exact kit_NoneType_bool | exact kit_NoneType_str | exact kit_NoneType_tuple | exact kit_NoneType_list
  | exact kit_dict_int | exact kit_dict_bool | exact kit_dict_str | exact kit_dict_tuple | exact kit_dict_list | exact kit_dict_dict
  | exact kit_int_dict | exact kit_bool_dict | exact kit_str_dict | exact kit_tuple_dict | exact kit_list_dict | exact kit_NoneType_dict
  | fail "no way")
local macro_rules | `(tactic| walk_at "mul") => `(tactic| first
  | exact .inr ⟨by decide, by decide⟩
  | exact .inl ⟨by decide, by decide⟩
  | (refine .inl ⟨?_, ?_⟩ <;> omega)
  | (refine .inr ⟨?_, ?_⟩ <;> omega)
  | (refine .inr ⟨?_, ?_⟩ <;> split <;> decide)
  | fail "no way")
local macro_rules | `(tactic| walk_at "rd1") => `(tactic| first
  | with_reducible refine x_seq ?_
  | with_reducible refine x_asg ?_
  | ((with_reducible refine x_var (v := ?v) ?h1 ?_); (case h1 => rfl))
  | with_reducible refine x_c ?_
  | with_reducible refine x_gname ?_
  | with_reducible refine x_op ?_
  | with_reducible refine x_if ?_
  | with_reducible refine x_test ?_
  | with_reducible refine x_bl ?_
  | with_reducible refine x_ret ?_
  | with_reducible refine x_next ?_
  | with_reducible refine x_cons ?_
  | with_reducible refine x_nil ?_
  | with_reducible refine x_cal ?_
  | with_reducible refine x_cb ?_
  | with_reducible refine x_sp1 ?_
  | with_reducible refine x_sp2 ?_
  | with_reducible refine x_sp3 ?_
  | with_reducible refine x_sp4 ?_
  | ((with_reducible refine x_ixL (xs := ?xs) (v := ?v) ?h1 ?h2 ?_); (case h1 => walk_at "sq"); (case h2 => walk_at "ix"))
  | ((with_reducible refine x_ixS (c := ?c) ?h1 ?h2 ?_); (case h1 => walk_at "zs"); (case h2 => walk_at "ix"))
  | ((with_reducible refine x_addS ?h1 ?_); (case h1 => walk_at "za"))
  | ((with_reducible refine x_ixT (xs := ?xs) (v := ?v) ?h1 ?h2 ?_); (case h1 => walk_at "sq"); (case h2 => walk_at "ix"))
  | with_reducible refine x_eqI ?_
  | with_reducible refine x_neI ?_
  | with_reducible refine x_add ?_
  | with_reducible refine x_sub ?_
  | with_reducible refine x_lt ?_
  | with_reducible refine x_le ?_
  | with_reducible refine x_gt ?_
  | with_reducible refine x_ge ?_
  | ((with_reducible refine x_mul ?h1 ?_); (case h1 => walk_at "mul"))
  | ((with_reducible refine x_pow ?h1 ?_); (case h1 => exact ⟨by decide, by decide, by decide⟩))
  | ((with_reducible refine x_mod ?h1 ?_); (case h1 => first | decide | assumption | omega | fail "no way"))
  | ((with_reducible refine x_div ?h1 ?_); (case h1 => exact ⟨by omega, by omega⟩))
  | ((with_reducible refine x_divW ?h1 ?_); (case h1 => first | assumption | exact ⟨by decide, by decide⟩ | exact ⟨by assumption, by assumption⟩ | fail "no way"))
  | with_reducible refine x_neg ?_
  | with_reducible refine x_un ?_
  | with_reducible refine x_isN ?_
  | with_reducible refine x_notN ?_
  | with_reducible refine x_not ?_
  | with_reducible refine x_and ?_
  | with_reducible refine x_or ?_
  | with_reducible refine x_andV ?_
  | with_reducible refine x_orV ?_
  | with_reducible refine x_notV ?_
  | with_reducible refine x_tB ?_
  | with_reducible refine x_iteF ?_
  | with_reducible refine x_iteT ?_
  | with_reducible refine x_ife ?_
  | with_reducible refine x_drop ?_
  | with_reducible refine x_retN ?_
  | with_reducible refine x_gsub ?_
  | ((with_reducible refine x_setL (xs := ?xs) (n := ?n) ?h1 ?h2 ?_); (case h1 => walk_at "hp"); (case h2 => walk_at "ix"))
  | ((with_reducible refine x_gtup (xs := ?xs) ?h1 ?h2 ?_); (case h1 => walk_at "sq"); (case h2 => rfl))
  | with_reducible refine x_gcons ?_
  | with_reducible refine x_gnil ?_
  | with_reducible refine x_tup ?_
  | with_reducible refine x_lst ?_
  | ((with_reducible refine x_sz ?h1 ?_); (case h1 => walk_at "sz"))
  | ((with_reducible refine x_len (xs := ?xs) ?h1 ?_); (case h1 => walk_at "sq"))
  | ((with_reducible refine x_cat (xs := ?xs) (zs := ?zs) ?h1 ?h2 ?h3 ?_); (case h1 => walk_at "hp"); (case h2 => walk_at "hp"); (case h3 => walk_at "sz"))
  | with_reducible refine x_abs ?_
  | with_reducible refine x_max2 ?_
  | with_reducible refine x_min2 ?_
  | with_reducible refine x_intI ?_
  | with_reducible refine x_intB ?_
  | ((with_reducible refine x_isiI (r := ?r) ?h2 ?_); (case h2 => walk_at "kit"))
  | ((with_reducible refine x_isiB (r := ?r) ?h2 ?_); (case h2 => walk_at "kit"))
  | ((with_reducible refine x_isiS (r := ?r) ?h2 ?_); (case h2 => walk_at "kit"))
  | ((with_reducible refine x_isiN (r := ?r) ?h2 ?_); (case h2 => walk_at "kit"))
  | ((with_reducible refine x_isiT (xs := ?xs) (r := ?r) ?h1 ?h2 ?_); (case h1 => walk_at "hp"); (case h2 => walk_at "kit"))
  | ((with_reducible refine x_isiL (xs := ?xs) (r := ?r) ?h1 ?h2 ?_); (case h1 => walk_at "hp"); (case h2 => walk_at "kit"))
  | ((with_reducible refine x_isiD (xs := ?xs) (r := ?r) ?h1 ?h2 ?_); (case h1 => walk_at "hp"); (case h2 => walk_at "kit"))
  | ((with_reducible refine x_listOf (xs := ?xs) ?h1 ?_); (case h1 => walk_at "sq"))
  | ((with_reducible refine x_tupL (xs := ?xs) ?h1 ?_); (case h1 => walk_at "sq"))
  | with_reducible refine x_eqS ?_
  | with_reducible refine x_neS ?_
  | with_reducible refine x_eqB ?_
  | with_reducible refine x_neB ?_
  | with_reducible refine x_ltS ?_
  | with_reducible refine x_leS ?_
  | with_reducible refine x_rng1 ?_
  | with_reducible refine x_rng2 ?_
  | ((with_reducible refine x_rng1' ?h1 ?_); (case h1 => first | exact ⟨by decide, by decide⟩ | assumption | (constructor <;> omega) | fail "no way"))
  | with_reducible refine x_for ?_
  | with_reducible refine x_lc ?_
  | with_reducible refine x_lct ?_
  | ((with_reducible refine x_wip ?h1 ?_); (case h1 => rfl))
  | with_reducible refine x_tyes ?_
  | ((with_reducible refine x_acc (acc := ?acc) ?h1 ?h2 ?_); (case h1 => walk_at "hp"); (case h2 => walk_at "sz"))
  | with_reducible refine x_iList ?_
  | with_reducible refine x_iTup ?_
  | with_reducible refine x_sl ?_
  | with_reducible refine x_noP ?_
  | with_reducible refine x_part ?_
  | with_reducible refine x_int ?_
  | ((with_reducible refine x_slL (xs := ?xs) ?h1 ?_); (case h1 => walk_at "sq"))
  | with_reducible refine x_bm ?_
  | with_reducible refine x_bm0 ?_
  | with_reducible refine x_chain ?_
  | with_reducible refine x_revL ?_
  | with_reducible refine x_repl ?_
  | ((with_reducible refine x_aug (x := ?v) ?h1 ?_); (case h1 => rfl))
  | with_reducible refine x_ipA ?_
  | with_reducible refine x_ipS ?_
  | with_reducible refine x_inZ ?_
  | with_reducible refine x_dnew ?_
  | ((with_reducible refine x_slZ ?h1 ?_); (case h1 => walk_at "zs"))
  | with_reducible refine x_gtS ?_
  | with_reducible refine x_geS ?_
  | with_reducible refine x_tryAs ?_
  | with_reducible refine x_calS ?_
  | with_reducible refine x_raise0 ?_
  | with_reducible refine x_mkV ?_
  | with_reducible refine x_raiseI ?_
  | with_reducible refine x_iStr ?_
  | with_reducible refine x_isStr ?_
  | with_reducible refine x_isB ?_
  | with_reducible refine x_notB ?_
  | with_reducible refine x_ckw ?_
  | ((with_reducible refine x_insert (xs := ?xs) ?h1 ?h2 ?h3 ?_); (case h1 => walk_at "hp"); (case h2 => walk_at "sz"); (case h3 => first | assumption | (constructor <;> omega) | fail "no way"))
  | ((with_reducible refine x_tyL (xs := ?xs) ?h1 ?_); (case h1 => walk_at "sq"))
  | with_reducible refine x_tyS ?_
  | ((with_reducible refine x_tyD (kvs := ?xs) ?h1 ?_); (case h1 => walk_at "hp"))
  | ((with_reducible refine x_append (xs := ?xs) ?h1 ?h2 ?_); (case h1 => walk_at "hp"); (case h2 => walk_at "sz"))
  | ((with_reducible refine x_lenAs (xs := ?xs) ?h1 ?_); (case h1 => walk_at "sq"))
  | ((with_reducible refine x_lenAz ?h1 ?_); (case h1 => walk_at "zs"))
  | ((with_reducible refine x_lenZ ?h1 ?_); (case h1 => walk_at "zs"))
  | ((with_reducible refine x_addTz ?h1 ?_); (case h1 => walk_at "za"))
  | ((with_reducible refine x_slXz ?h1 ?_); (case h1 => walk_at "zs"))
  | ((with_reducible refine x_ixAt (xs := ?xs) (v := ?v) ?h1 ?h2 ?_); (case h1 => walk_at "sq"); (case h2 => walk_at "ix"))
  | ((with_reducible refine x_ixAl (xs := ?xs) (v := ?v) ?h1 ?h2 ?_); (case h1 => walk_at "sq"); (case h2 => walk_at "ix"))
  | ((with_reducible refine x_ixAz (c := ?c) ?h1 ?h2 ?_); (case h1 => walk_at "zs"); (case h2 => walk_at "ix"))
  | with_reducible refine x_dget ?_
  | with_reducible refine x_brk ?_
  | with_reducible refine x_cont ?_
  | ((with_reducible refine x_yes ?h1 ?_); (case h1 => decide))
  | ((with_reducible refine x_no ?h1 ?_); (case h1 => decide))
  | fail "no way")
local macro_rules | `(tactic| walk_at "rd") => `(tactic| first | (walk_at "rd1"; walk_at "rd") | skip)
-- the def top 5
theorem sc_law_well : FnScope ["_law_script", "_law_k", "_law_left", "_law_cell", "_law_digits"] ["_law_script", "_law_k"] (defScope s_law_well) := ⟨rfl, rfl, rfl, by decide +kernel, rfl, by decide +kernel, by decide +kernel⟩
def B_law_well (K : PySem.W.Frag) : BK2 := fun s k H Q _ => ∃ (a : Addr) (ns : List Int) (i : Int), s = .ref a ∧ k = .int i ∧ 0 ≤ i ∧ SqL K H a (ns.map V.int) ∧ ns.length ≤ 63 ∧
  ∀ p H', Fr Non H H' → Fresh H p → Well H' p → Q (.ref p) H'
section
variable {P : Program} {w : World} {K : PySem.W.Frag} {mg : Str → Option Value} {base : Heap}
theorem ok_law_well (T : TX K mg) : CalX P w K mg base 1 "_law_well" ["_law_script", "_law_k"] (Sp2 (B_law_well K)) := by
  obtain ⟨f, fd, F, hm, bd⟩ := T.d_law_well.ex
  refine ⟨f, fd, F.okX sc_law_well len2 (fun cdv A outer s H vs Q E hr h => ?_), hm, F.kp, bd⟩
  obtain ⟨s, k, rfl, h⟩ := h
  refine ⟨_, (pss_cons (ps_set (i := 2) sc_law_well.nd rfl (Or.inl rfl) (pe_ix ix_list (pe_lst (pa_cons pe_int (pa_cons pe_int pa_nil))) (pe_callTy c_int (by rfl) T.b_int (by decide +kernel) (pa_cons (pe_cmpR op_eq (pv 1) pe_int (nomark _)) pa_nil)) (fun _ _ => rfl))) (pss_cons (ps_set (i := 3) sc_law_well.nd rfl (Or.inl rfl) (pe_ix ix_list (pe_op op_cat (pe_callTy c_listOf (by rfl) T.b_list (by decide +kernel) (pa_cons (pv 0) pa_nil)) (pe_lst (pa_cons pe_int pa_nil))) (pe_op op_mod (pv 1) (pe_callB (c_max2 rfl) (by rfl) T.b_max (by decide +kernel) (pa_cons pe_int (pa_cons (pe_callB c_len (by rfl) T.b_len (by decide +kernel) (pa_cons (pv 0) pa_nil)) pa_nil)))) (fun _ _ => rfl))) (pss_cons (ps_set (i := 4) sc_law_well.nd rfl (Or.inl rfl) (pe_op op_mul (pe_callB c_abs (by rfl) T.b_abs (by decide +kernel) (pa_cons (pv 3) pa_nil)) (pe_callTy c_int (by rfl) T.b_int (by decide +kernel) (pa_cons (pe_and (pe_cmpR op_ge (pe_callB c_abs (by rfl) T.b_abs (by decide +kernel) (pa_cons (pv 3) pa_nil)) (pe_op op_pow pe_int pe_int) (nomark _)) (pe_one (pe_cmpR op_lt (pv 1) (pe_callB c_len (by rfl) T.b_len (by decide +kernel) (pa_cons (pv 0) pa_nil)) (nomark _)))) pa_nil)))) (pss_one (ps_ret (pe_lst (pa_cons (pe_op op_mod (pv 3) pe_int) (pa_cons (pe_op op_mul pe_int (pv 1)) (pa_cons (pv 4) (pa_cons (pv 2) pa_nil)))))))))), ?_⟩
  show (_ : TS) _ [some s, some k, none, none, none] H
  first | dsimp only [L2.cxOf] | skip
  obtain ⟨a, ns, i, rfl, rfl, hi, hS, hn, q⟩ := h
  have hx : ∃ z : Int, atI (ns.map V.int ++ [V.int 0]) (i % (if ((ns.map V.int).length : Int) > 1 then ((ns.map V.int).length : Int) else 1)) = some (V.int z) := by
    have hm1 : (0 : Int) < (if ((ns.map V.int).length : Int) > 1 then ((ns.map V.int).length : Int) else 1) := by split <;> omega
    have hm2 : (if ((ns.map V.int).length : Int) > 1 then ((ns.map V.int).length : Int) else 1) ≤ ((ns.map V.int ++ [V.int 0]).length : Int) := by
      rw [List.length_append, List.length_singleton]; split <;> omega
    obtain ⟨v, h1, h2⟩ := atI_ex (xs := ns.map V.int ++ [V.int 0]) (Int.emod_nonneg i (by omega)) (Int.lt_of_lt_of_le (Int.emod_lt_of_pos i hm1) hm2)
    have hv : v ∈ ns.map V.int ++ [V.int 0] := List.mem_of_getElem? h2
    rcases List.mem_append.mp hv with hv | hv
    · obtain ⟨z, _, rfl⟩ := List.mem_map.mp hv
      exact ⟨z, h1⟩
    · rw [List.mem_singleton] at hv
      exact ⟨0, by rw [h1, hv]⟩
  have hm1 : (0 : Int) < (if ((ns.map V.int).length : Int) > 1 then ((ns.map V.int).length : Int) else 1) := by split <;> omega
  obtain ⟨z, hz⟩ := hx
  walk_at "rd"
  intro p1 n1
  walk_at "rd"
  intro p2 n2
  walk_at "rd"
  intro p3 n3
  walk_at "rd"
  intro p4 n4
  walk_at "rd"
  refine x_dec (fun _ => ?_) (fun _ => ?_)
  · walk_at "rd"
    intro p5 n5
    exact q _ _ (by walk_at "fr") (by walk_at "nn") ⟨_, _, _, _, upd_same, by omega, by omega⟩
  · walk_at "rd"
    intro p5 n5
    exact q _ _ (by walk_at "fr") (by walk_at "nn") ⟨_, _, _, _, upd_same, by omega, by omega⟩
end

-- the def top 6
theorem sc_law_pull : FnScope ["_law_well_here", "_law_many", "_law_first", "_law_second", "_law_found"] ["_law_well_here", "_law_many"] (defScope s_law_pull) := ⟨rfl, rfl, rfl, by decide +kernel, rfl, by decide +kernel, by decide +kernel⟩
/-- a number below m; only the well changes -/
def B_law_pull : BK2 := fun wl mm H Q _ => ∃ (a : Addr) (m : Int), wl = .ref a ∧ mm = .int m ∧ 0 < m ∧ m.natAbs.log2 < 9000 ∧ Well H a ∧
  ∀ r H', Fr (One a) H H' → Well H' a → 0 ≤ r → r < m → Q (.int r) H'
section
variable {P : Program} {w : World} {K : PySem.W.Frag} {mg : Str → Option Value} {base : Heap}
theorem ok_law_pull (T : TX K mg) : CalX P w K mg base 1 "_law_pull" ["_law_well_here", "_law_many"] (Sp2 (B_law_pull)) := by
  obtain ⟨f, fd, F, hm, bd⟩ := T.d_law_pull.ex
  refine ⟨f, fd, F.okX sc_law_pull len2 (fun cdv A outer s H vs Q E hr h => ?_), hm, F.kp, bd⟩
  obtain ⟨wl, mm, rfl, h⟩ := h
  refine ⟨_, (pss_cons (ps_if (pt_cmpR op_eq (pe_ix ix_list (pv 0) pe_int (fun _ _ => rfl)) pe_int (nomark _)) (pss_one (ps_ret pe_int)) pss_nil) (pss_cons (ps_asg (pe_op op_sub (pe_ix ix_list (pv 0) pe_int (fun _ _ => rfl)) pe_int) (pg_sub (pv 0) pe_int set_list)) (pss_cons (ps_if (pt_cmpR op_gt (pe_ix ix_list (pv 0) pe_int (fun _ _ => rfl)) pe_int (nomark _)) (pss_cons (ps_set (i := 4) sc_law_pull.nd rfl (Or.inl rfl) (pe_op op_mod (pe_ix ix_list (pv 0) pe_int (fun _ _ => rfl)) (pv 1))) (pss_cons (ps_asg (pe_op op_fdivW (pe_ix ix_list (pv 0) pe_int (fun _ _ => rfl)) (pv 1)) (pg_sub (pv 0) pe_int set_list)) (pss_one (ps_ret (pv 4))))) pss_nil) (pss_cons (ps_asg (pe_op op_add (pe_ix ix_list (pv 0) pe_int (fun _ _ => rfl)) pe_int) (pg_sub (pv 0) pe_int set_list)) (pss_cons (ps_set (i := 2) sc_law_pull.nd rfl (Or.inl rfl) (pe_op op_mod (pe_op op_mul (pe_op op_add (pe_ix ix_list (pv 0) pe_int (fun _ _ => rfl)) pe_int) (pe_op op_add pe_int (pe_op op_mul pe_int (pe_ix ix_list (pv 0) pe_int (fun _ _ => rfl))))) pe_int)) (pss_cons (ps_set (i := 3) sc_law_pull.nd rfl (Or.inl rfl) (pe_op op_mod (pe_op op_mul (pe_op op_add (pe_op op_fdivW (pv 2) pe_int) pe_int) (pe_op op_add (pe_op op_mod (pv 2) pe_int) pe_int)) pe_int)) (pss_one (ps_ret (pe_op op_mod (pe_op op_fdivW (pv 3) pe_int) (pv 1)))))))))), ?_⟩
  show (_ : TS) _ [some wl, some mm, none, none, none] H
  first | dsimp only [L2.cxOf] | skip
  obtain ⟨a, m, rfl, rfl, hm0, hml, ⟨c, n, g, l, hL, hc0, hc1⟩, q⟩ := h
  walk_at "rd"
  refine x_dec (fun _ => ?_) (fun _ => ?_)
  · walk_at "rd"
    exact q _ _ (Fr.refl _) ⟨c, n, g, l, hL, hc0, hc1⟩ (by omega) hm0
  · walk_at "rd"
    refine x_dec (fun _ => ?_) (fun _ => ?_)
    · walk_at "rd"
      exact q _ _ (by walk_at "fr") ⟨_, _, _, _, upd_same, hc0, hc1⟩ (Int.emod_nonneg _ (by omega)) (Int.emod_lt_of_pos _ hm0)
    · walk_at "rd"
      exact q _ _ (by walk_at "fr") ⟨_, _, _, _, upd_same, hc0, hc1⟩ (Int.emod_nonneg _ (by omega)) (Int.emod_lt_of_pos _ hm0)
end

-- the def top 7
theorem sc_law_elders : FnScope ["_law_script", "_law_most", "_law_ground", "_law_many", "_law_start", "_law_step", "_law_numbers", "_law_rows", "_law_k", "_law_turn", "_law_well_here", "_law_some", "_law_j", "_law_elder"] ["_law_script", "_law_most"] (defScope s_law_elders) := ⟨rfl, rfl, rfl, by decide +kernel, rfl, by decide +kernel, by decide +kernel⟩
def B_law_elders (K : PySem.W.Frag) : BK2 := fun s y H Q _ => ∃ (a : Addr) (ns : List Int) (most : Int), s = .ref a ∧ y = .int most ∧ 1 ≤ most ∧ most ≤ 14 ∧ SqL K H a (ns.map V.int) ∧ ns.length ≤ 63 ∧
  ∀ r gs ts as H', Fr Non H H' → RowsAt H' r gs ts as → GrOk gs → GrLt gs → gs.length ≤ 14 → Q (.ref r) H'
section
variable {P : Program} {w : World} {K : PySem.W.Frag} {mg : Str → Option Value} {base : Heap}
theorem ok_law_elders (T : TX K mg) : CalX P w K mg base 2 "_law_elders" ["_law_script", "_law_most"] (Sp2 (B_law_elders K)) := by
  have C_law_well := ok_law_well (P := P) (w := w) (base := base) T
  have C_law_pull := ok_law_pull (P := P) (w := w) (base := base) T
  obtain ⟨f, fd, F, hm, bd⟩ := T.d_law_elders.ex
  refine ⟨f, fd, F.okX sc_law_elders len2 (fun cdv A outer s H vs Q E hr h => ?_), hm, F.kp, bd⟩
  obtain ⟨s, y, rfl, h⟩ := h
  refine ⟨_, (pss_cons (ps_set (i := 2) sc_law_elders.nd rfl (Or.inl rfl) (pcall C_law_well hr (by first | decide | omega) rfl Passes.none (pa_cons (pv 0) (pa_cons pe_int pa_nil)))) (pss_cons (ps_set (i := 3) sc_law_elders.nd rfl (Or.inl rfl) (pe_op op_add pe_int (pcall C_law_pull hr (by first | decide | omega) rfl Passes.none (pa_cons (pv 2) (pa_cons (pv 1) pa_nil))))) (pss_cons (ps_set (i := 4) sc_law_elders.nd rfl (Or.inr rfl) (pcall C_law_pull hr (by first | decide | omega) rfl Passes.none (pa_cons (pv 2) (pa_cons pe_int pa_nil)))) (pss_cons (ps_set (i := 5) sc_law_elders.nd rfl (Or.inr rfl) (pe_ix ix_list (pe_lst (pa_cons pe_int (pa_cons pe_int (pa_cons pe_int (pa_cons (pe_op op_pow pe_int pe_int) pa_nil))))) (pcall C_law_pull hr (by first | decide | omega) rfl Passes.none (pa_cons (pv 2) (pa_cons pe_int pa_nil))) (fun _ _ => rfl))) (pss_cons (ps_setLc (i := 6) (own := [("_law_k", 8)]) (g := gName 8) (tt := tYes) rfl sc_law_elders.nd rfl rfl (sw_true rfl rfl rfl (by decide +kernel)) (pi_range1 rfl T.b_range (pa_cons (pv 3) pa_nil)) (blkOk_by (N := ["_law_script", "_law_most", "_law_ground", "_law_many", "_law_start", "_law_step", "_law_numbers", "_law_rows", "_law_k", "_law_turn", "_law_well_here", "_law_some", "_law_j", "_law_elder"]) (sc := defScope s_law_elders) (own := [("_law_k", 8)]) (by decide +kernel)) (fun _ _ _ _ _ => pg_name (i := 8) sc_law_elders.nd rfl (by first | exact Or.inl rfl | exact Or.inr rfl)) (fun _ _ _ _ _ => pts_nil) (fun _ _ _ _ _ => (pe_op op_add (pv 4) (pe_op op_mul (pv 5) (pv 8))))) (pss_cons (ps_set (i := 7) sc_law_elders.nd rfl (Or.inl rfl) (pe_lst pa_nil)) (pss_cons (ps_for (passes_of rfl) rfl (pi_range1 rfl T.b_range (pa_cons (pv 3) pa_nil)) (pg_name (i := 8) sc_law_elders.nd rfl (Or.inl rfl)) (pss_cons (ps_set (i := 10) sc_law_elders.nd rfl (Or.inl rfl) (pcall C_law_well hr (by first | decide | omega) rfl Passes.none (pa_cons (pv 0) (pa_cons (pe_op op_add pe_int (pv 8)) pa_nil)))) (pss_cons (ps_set (i := 11) sc_law_elders.nd rfl (Or.inl rfl) (pe_lst pa_nil)) (pss_cons (ps_for (passes_of rfl) rfl (pi_range1 rfl T.b_range (pa_cons (pcall C_law_pull hr (by first | decide | omega) rfl Passes.none (pa_cons (pv 10) (pa_cons pe_int pa_nil))) pa_nil)) (pg_name (i := 12) sc_law_elders.nd rfl (Or.inl rfl)) (pss_cons (ps_set (i := 13) sc_law_elders.nd rfl (Or.inl rfl) (pe_ix ix_list (pv 6) (pcall C_law_pull hr (by first | decide | omega) rfl Passes.none (pa_cons (pv 10) (pa_cons (pe_callB (c_max2 rfl) (by rfl) T.b_max (by decide +kernel) (pa_cons pe_int (pa_cons (pv 8) pa_nil))) pa_nil))) (fun _ _ => rfl))) (pss_one (ps_if (PW.pt (pw_and (pt_cmpR op_gt (pv 8) pe_int (nomark _)) (pw_and1 (pt_cmpR (op_notInD (u65 hr)) (pv 13) (pv 11) rfl)))) (pss_one (ps_expr (pe_bm PySem.F.plainAttrs_list PySem.F.slot_list_append PySem.F.type_list_append mt_append (pv 11) (pa_cons (pv 13) pa_nil)))) pss_nil)))) (pss_one (ps_expr (pe_bm PySem.F.plainAttrs_list PySem.F.slot_list_append PySem.F.type_list_append mt_append (pv 7) (pa_cons (pe_tup (pa_cons (pe_ix ix_list (pv 6) (pv 8) (fun _ _ => rfl)) (pa_cons (pv 11) pa_nil))) pa_nil)))))))) (pss_cons (ps_set (i := 9) sc_law_elders.nd rfl (Or.inl rfl) (pcall C_law_pull hr (by first | decide | omega) rfl Passes.none (pa_cons (pv 2) (pa_cons (pv 3) pa_nil)))) (pss_one (ps_ret (pe_op op_cat (pe_slice sl_list (pv 7) (po_some (pv 9)) po_none) (pe_slice sl_list (pv 7) po_none (po_some (pv 9)))))))))))))), ?_⟩
  show (_ : TS) _ [some s, some y, none, none, none, none, none, none, none, none, none, none, none, none] H
  first | dsimp only [L2.cxOf] | skip
  obtain ⟨a, ns, most, rfl, rfl, hm1, hm2, hS, hn, q⟩ := h
  walk_at "rd"
  refine ⟨a, ns, _, rfl, rfl, by decide, hS, hn, fun G H1 f1 nG wG => ?_⟩
  walk_at "rd"
  refine ⟨G, _, rfl, rfl, by omega, (PullOk.small (by omega) (by omega)).2, wG, fun m H2 f2' w2 m0 m1 => ?_⟩
  walk_at "rd"
  refine ⟨G, _, rfl, rfl, by decide, by decide +kernel, w2, fun st H3 f3' w3 s0 s1 => ?_⟩
  walk_at "rd"
  intro p4 n4
  have nGH : Fresh H G := nG
  have f03 : Fr Non H H3 := (f1.sub' f2' fun b h => by subst h; exact .inr nG).sub' f3' fun b h => by subst h; exact .inr nG
  have hpick : ∀ r : Int, 0 ≤ r → r < 4 → ∃ z : Int, atI [V.int 1, V.int 2, V.int 3, V.int (10 ^ Int.toNat 30)] r = some (V.int z) ∧ 1 ≤ z := fun r h0 h1 => by
    obtain rfl | rfl | rfl | rfl : r = 0 ∨ r = 1 ∨ r = 2 ∨ r = 3 := by omega
    · exact ⟨1, rfl, by decide⟩
    · exact ⟨2, rfl, by decide⟩
    · exact ⟨3, rfl, by decide⟩
    · exact ⟨_, rfl, by decide⟩
  have h4 : upd H3 p4 (.lst [V.int 1, V.int 2, V.int 3, V.int (10 ^ Int.toNat 30)]) p4 = some (.lst [V.int 1, V.int 2, V.int 3, V.int (10 ^ Int.toNat 30)]) := upd_same
  have w4 : Well (upd H3 p4 (.lst [V.int 1, V.int 2, V.int 3, V.int (10 ^ Int.toNat 30)])) G := w3.new n4
  have f04 : Fr Non H (upd H3 p4 (.lst [V.int 1, V.int 2, V.int 3, V.int (10 ^ Int.toNat 30)])) := Fr.new f03 n4
  have np4 : p4 ≠ G := Well.ne w3 n4
  generalize upd H3 p4 (.lst [V.int 1, V.int 2, V.int 3, V.int (10 ^ Int.toNat 30)]) = H4 at h4 w4 f04 ⊢
  walk_at "rd"
  refine ⟨G, _, rfl, rfl, by decide, by decide +kernel, w4, fun r5 H5 f5' w5 r50 r51 => ?_⟩
  obtain ⟨z, hz1, hz2⟩ := hpick r5 r50 r51
  have h5 := f5'.keep _ _ h4 (not_One np4)
  have f05 : Fr Non H H5 := f04.sub' f5' fun b h => by subst h; exact .inr nG
  have hbm : -(2 ^ 62) ≤ 1 + m ∧ 1 + m < 2 ^ 62 := by constructor <;> omega
  walk_at "rd"
  intro N nN
  have nNH : Fresh H N := f05.free nN
  refine x_lcR (n := (1 + m).toNat) (fun i H' => Fr Non H5 H' ∧ H' N = some (.lst ((numsL st z i).map V.int))) ⟨Fr.new (Fr.refl _) nN, upd_same⟩ ?_ ?_
  · rintro i H6 hi ⟨f6, hN⟩
    have hsz : ((numsL st z i).map V.int).length ≤ 100000 := by rw [List.length_map, numsL_len]; omega
    walk_at "rd"
    refine ⟨Fr.mut f6 hN rfl (.inr nN), ?_⟩
    rw [numsL_succ, List.map_append, Int.zero_add]
    exact upd_same
  · rintro H6 ⟨f6, hN⟩
    obtain ⟨M, hM⟩ : ∃ M : Nat, M = (1 + m).toNat := ⟨_, rfl⟩
    rw [← hM] at hN
    have hM1 : 1 ≤ M ∧ M ≤ 14 ∧ 1 + m = (M : Int) := by omega
    have w6 : Well H6 G := w5.fr f6 id
    walk_at "rd"
    intro R nR
    have hN7 := keepU (u := .lst []) hN nR
    have w7 := w6.new (u := .lst []) nR
    have hR7 : upd H6 R (.lst []) R = some (.lst (([] : List Addr).map V.ref)) := upd_same
    have f07 : Fr Non H (upd H6 R (.lst [])) := Fr.new (f05.trans f6) nR
    have hNR : N ≠ R := ne_fr hN nR
    have hRG : R ≠ G := Well.ne w6 nR
    have nRH : Fresh H R := (f05.trans f6).free nR
    generalize upd H6 R (.lst []) = HR at hN7 w7 hR7 f07 ⊢
    have SR : ∀ {H'}, Fr (One R) HR H' → Fr Non H H' := fun f => f07.sub' f fun b h => by subst h; exact .inr nRH
    walk_at "rd"
    refine x_forR (n := (1 + m).toNat) (fun i σ H' => ∃ (v8 v10 v11 v12 v13 : Option V) (gs : Gr) (ts as : List Addr), σ = [some (.ref a), some (.int most), some (.ref G), some (.int (1 + m)), some (.int st), some (.int z), some (.ref N), some (.ref R), v8, none, v10, v11, v12, v13] ∧ Fr (One R) HR H' ∧
      H' R = some (.lst (ts.map V.ref)) ∧ AtG H' gs ts as ∧ keysG gs = numsL st z i ∧ (∀ g ∈ gs, g.2.Nodup ∧ ∀ e ∈ g.2, e ∈ numsL st z i) ∧ (∀ x ∈ as, Fresh HR x) ∧ GrLt gs) ⟨_, _, _, _, _, [], [], [], rfl, Fr.refl _, hR7, .nil, rfl, List.forall_mem_nil _, List.forall_mem_nil _, fun g hg => by cases hg⟩ ?_ ?_
    · rintro i σ H7 hi ⟨v8, v10, v11, v12, v13, gs, ts, as, rfl, f7, hR, hat, hkey, hgs, has, hlt0⟩
      have hiM : i < M := by omega
      have hgl : gs.length = i := by have := congrArg List.length hkey; rwa [numsL_len, keysG, List.length_map] at this
      have htl := hat.len.1
      walk_at "rd"
      refine ⟨a, ns, _, rfl, rfl, by omega, SqL_fr hS (SR f7) id, hn, fun W H8 f8 nW w8 => ?_⟩
      walk_at "rd"
      intro S nS
      have w9 := w8.new (u := .lst []) nS
      have hS9 : upd H8 S (.lst []) S = some (.lst (([] : List Int).map V.int)) := upd_same
      have f79 : Fr Non H7 (upd H8 S (.lst [])) := Fr.new f8 nS
      have hWS : S ≠ W := Well.ne w8 nS
      have nS7 : Fresh H7 S := f8.free nS
      generalize upd H8 S (.lst []) = H9 at w9 hS9 f79 ⊢
      have hR9 := f79.keep _ _ hR id
      have hN9 : H9 N = some (.lst ((numsL st z M).map V.int)) := f79.keep _ _ (f7.keep _ _ hN7 (not_One hNR)) id
      have hWR : R ≠ W := ne_fr hR nW
      have hSR : R ≠ S := ne_fr hR nS7
      have hNW : N ≠ W := ne_fr (f7.keep _ _ hN7 (not_One hNR)) nW
      have hNS : N ≠ S := ne_fr (f7.keep _ _ hN7 (not_One hNR)) nS7
      have hat9 := hat.keepS f79 fun _ _ => id
      have hasW : ∀ x ∈ as, ¬ Two W S x := fun x hx => by
        obtain ⟨o, ho⟩ := hat.mem x hx
        rintro (rfl | rfl)
        · exact ne_fr ho nW rfl
        · exact ne_fr ho nS7 rfl
      walk_at "rd"
      refine ⟨W, _, rfl, rfl, by decide, by decide +kernel, w9, fun r10 H10 f10 w10 r100 r101 => ?_⟩
      have g10 : Fr (Two W S) H9 H10 := f10.sub fun _ h => .inl h
      have hS10 := f10.keep _ _ hS9 (not_One hWS)
      walk_at "rd"
      refine x_forR (n := r10.toNat) (fun j σ H' => ∃ (v12 v13 : Option V) (es : List Int), σ = [some (.ref a), some (.int most), some (.ref G), some (.int (1 + m)), some (.int st), some (.int z), some (.ref N), some (.ref R), some (.int (0 + (i : Int))), none, some (.ref W), some (.ref S), v12, v13] ∧ Fr (Two W S) H9 H' ∧ Well H' W ∧
        H' S = some (.lst (es.map V.int)) ∧ es.Nodup ∧ es.length ≤ j ∧ ∀ e ∈ es, e ∈ numsL st z i) ⟨_, _, [], rfl, g10, w10, hS10, List.nodup_nil, Nat.le_refl _, List.forall_mem_nil _⟩ ?_ ?_
      · rintro j σ H11 hj ⟨v12', v13', es, rfl, g11, w11, hS11, hnd, hesl, hes⟩
        have hmx : 1 ≤ (if 0 + (i : Int) > 1 then 0 + (i : Int) else 1) ∧ (if 0 + (i : Int) > 1 then 0 + (i : Int) else 1) ≤ M ∧ ((i : Int) > 0 → (if 0 + (i : Int) > 1 then 0 + (i : Int) else 1) = i) := by
          split <;> refine ⟨by omega, by omega, fun h => by omega⟩
        have hN11 := g11.keep _ _ hN9 (fun h => h.elim hNW hNS)
        walk_at "rd"
        refine ⟨W, _, rfl, rfl, by omega, (PullOk.small (by omega) (by omega)).2, w11, fun r12 H12 f12 w12 r120 r121 => ?_⟩
        have g12 : Fr (Two W S) H9 H12 := g11.trans (f12.sub fun _ h => .inl h)
        have hN12 := f12.keep _ _ hN11 (not_One hNW)
        have hS12 := f12.keep _ _ hS11 (not_One hWS)
        have air : atI ((numsL st z M).map V.int) r12 = some (.int (st + z * (r12.toNat : Int))) := by
          have e : r12 = ((r12.toNat : Nat) : Int) := by omega
          rw [e]
          exact atI_nat (by rw [List.getElem?_map, numsL_get (by omega)]; rfl)
        walk_at "rd"
        refine x_dec (fun hk0 => ?_) (fun hk0 => ?_)
        · walk_at "rd"
          refine x_notInI hS12 ?_
          walk_at "rd"
          refine x_ndec (fun hin => ?_) (fun hin => ?_)
          · have hel : (es.map V.int).length ≤ 100000 := by rw [List.length_map]; omega
            walk_at "rd"
            refine ⟨_, _, es ++ [st + z * (r12.toNat : Int)], rfl, Fr.mut g12 hS12 rfl (.inl (.inr rfl)), w12.fr (Fr.mut (S := One S) (Fr.refl _) hS12 rfl (.inl rfl)) (not_One (Ne.symm hWS)), by rw [List.map_append]; exact upd_same, ?_, by rw [List.length_append]; show es.length + 1 ≤ j + 1; omega, ?_⟩
            · rw [List.nodup_append]
              refine ⟨hnd, List.nodup_cons.mpr ⟨(fun h => nomatch h), List.nodup_nil⟩, fun x hx y hy => ?_⟩
              rw [List.mem_singleton.mp hy]
              rintro rfl
              exact hin hx
            · intro e he
              rcases List.mem_append.mp he with he | he
              · exact hes e he
              · rw [List.mem_singleton.mp he]
                have := hmx.2.2 (by omega)
                exact numsL_mem.mpr ⟨r12.toNat, by omega, rfl⟩
          · exact ⟨_, _, es, rfl, g12, w12, hS12, hnd, by omega, hes⟩
        · walk_at "rd"
          exact ⟨_, _, es, rfl, g12, w12, hS12, hnd, by omega, hes⟩
      · rintro σ H11 ⟨v12', v13', es, rfl, g11, w11, hS11, hnd, hesl, hes⟩
        have hN11 := g11.keep _ _ hN9 (fun h => h.elim hNW hNS)
        have hR11 := g11.keep _ _ hR9 (fun h => h.elim hWR hSR)
        have hat11 := hat9.keepS g11 hasW
        have aii : atI ((numsL st z M).map V.int) (0 + (i : Int)) = some (.int (st + z * (i : Int))) := by
          rw [Int.zero_add]
          exact atI_nat (by rw [List.getElem?_map, numsL_get hiM]; rfl)
        walk_at "rd"
        intro T' nT
        have hR12 := keepU (u := .tup [.int (st + z * (i : Int)), .ref S]) hR11 nT
        have hS12 := keepU (u := .tup [.int (st + z * (i : Int)), .ref S]) hS11 nT
        have hT12 : upd H11 T' (.tup [.int (st + z * (i : Int)), .ref S]) T' = some (.tup [.int (st + z * (i : Int)), .ref S]) := upd_same
        have hat12 := hat11.keepS (Fr.new (S := Non) (Fr.refl _) nT : Fr Non H11 (upd H11 T' (.tup [.int (st + z * (i : Int)), .ref S]))) fun _ _ => id
        have g12 : Fr (Two W S) H9 (upd H11 T' (.tup [.int (st + z * (i : Int)), .ref S])) := Fr.new g11 nT
        generalize upd H11 T' (.tup [.int (st + z * (i : Int)), .ref S]) = H12 at hR12 hS12 hT12 hat12 g12 ⊢
        have htl2 : (ts.map V.ref).length ≤ 100000 := by rw [List.length_map]; omega
        walk_at "rd"
        have nWR : Fresh HR W := f7.free nW
        have nSR : Fresh HR S := f7.free nS7
        have f12 : Fr (One R) HR H12 := (f7.trans f79.non).sub' g12 fun b h => by
          rcases h with rfl | rfl
          · exact .inr nWR
          · exact .inr nSR
        have fm : Fr (One R) H12 (upd H12 R (.lst (ts.map V.ref ++ [.ref T']))) := Fr.mut (Fr.refl _) hR12 rfl (.inl rfl)
        have hasR : ∀ x ∈ as, ¬ One R x := fun x hx e => by
          have e : x = R := e
          subst e
          exact ne_fr hR7 (has _ hx) rfl
        refine ⟨_, _, _, _, _, gs ++ [(st + z * (i : Int), es)], ts ++ [T'], as ++ [S], rfl, Fr.mut f12 hR12 rfl (.inl rfl), by rw [List.map_append]; exact upd_same, ?_, ?_, ?_, ?_, ?_⟩
        · exact (hat12.keepS fm hasR).app (.cons (fm.tup _ _ hT12) (fm.keep _ _ hS12 (not_One (Ne.symm hSR))) .nil)
        · rw [keysG_app, hkey, numsL_succ]; rfl
        · intro g hg
          rcases List.mem_append.mp hg with hg | hg
          · exact ⟨(hgs g hg).1, fun e he => numsL_mono (Nat.le_succ _) ((hgs g hg).2 e he)⟩
          · rw [List.mem_singleton.mp hg]
            exact ⟨hnd, fun e he => numsL_mono (Nat.le_succ _) (hes e he)⟩
        · intro x hx
          rcases List.mem_append.mp hx with hx | hx
          · exact has x hx
          · rw [List.mem_singleton.mp hx]; exact nSR
        · intro g hg
          rcases List.mem_append.mp hg with hg | hg
          · exact hlt0 g hg
          · rw [List.mem_singleton.mp hg]
            intro e he
            obtain ⟨j, hj, rfl⟩ := numsL_mem.mp (hes e he)
            have := mul_lt_mul' hz2 (show (j : Int) < (i : Int) by omega)
            show st + z * (j : Int) < st + z * (i : Int)
            omega
    · rintro σ H7 ⟨v8, v10, v11, v12, v13, gs, ts, as, rfl, f7, hR, hat, hkey, hgs, has, hlt0⟩
      rw [← hM] at hkey hgs
      have hgl : gs.length = M := by have := congrArg List.length hkey; rwa [numsL_len, keysG, List.length_map] at this
      have htl := hat.len.1
      have w8 : Well H7 G := w7.fr f7 (not_One (Ne.symm hRG))
      have hasG : ∀ x ∈ as, ¬ One G x := fun x hx e => by
        have e : x = G := e
        subst e
        exact absurd (Well.ne w7 (has _ hx)) (fun h => h rfl)
      walk_at "rd"
      refine ⟨G, _, rfl, rfl, by omega, (PullOk.small (by omega) (by omega)).2, w8, fun tn H8 f8 w8' t0 t1 => ?_⟩
      have hR8 := f8.keep _ _ hR (not_One hRG)
      have hat8 := hat.keepS f8 hasG
      have f08 : Fr Non H H8 := (SR f7).sub' f8 fun b h => by subst h; exact .inr nGH
      have e1 : cutV (ts.map V.ref) (some tn) none = (ts.drop tn.toNat).map V.ref := by rw [cut_from t0, List.map_drop]
      have e2 : cutV (ts.map V.ref) none (some tn) = (ts.take tn.toNat).map V.ref := by rw [cut_to t0, List.map_take]
      walk_at "rd"
      intro p1 n1
      rw [e1]
      have hR9 := keepU (u := .lst ((ts.drop tn.toNat).map V.ref)) hR8 n1
      have hp19 : upd H8 p1 (.lst ((ts.drop tn.toNat).map V.ref)) p1 = some (.lst ((ts.drop tn.toNat).map V.ref)) := upd_same
      have f09 : Fr Non H8 (upd H8 p1 (.lst ((ts.drop tn.toNat).map V.ref))) := Fr.new (Fr.refl _) n1
      generalize upd H8 p1 (.lst ((ts.drop tn.toNat).map V.ref)) = H9 at hR9 hp19 f09 ⊢
      walk_at "rd"
      intro p2 n2
      rw [e2]
      have hp110 := keepU (u := .lst ((ts.take tn.toNat).map V.ref)) hp19 n2
      have hp210 : upd H9 p2 (.lst ((ts.take tn.toNat).map V.ref)) p2 = some (.lst ((ts.take tn.toNat).map V.ref)) := upd_same
      have f010 : Fr Non H8 (upd H9 p2 (.lst ((ts.take tn.toNat).map V.ref))) := Fr.new f09 n2
      generalize upd H9 p2 (.lst ((ts.take tn.toNat).map V.ref)) = H10 at hp110 hp210 f010 ⊢
      have hsz : ((ts.drop tn.toNat).map V.ref).length + ((ts.take tn.toNat).map V.ref).length ≤ 100000 := by
        rw [List.length_map, List.length_map, List.length_drop, List.length_take]; omega
      walk_at "rd"
      intro p3 n3
      rw [← List.map_append]
      have f011 : Fr Non H8 (upd H10 p3 (.lst ((ts.drop tn.toNat ++ ts.take tn.toNat).map V.ref))) := Fr.new f010 n3
      have hat11 := hat8.keepS f011 fun _ _ => id
      have ok : GrOk gs := ⟨by rw [hkey]; exact (numsL_up st hz2 M).nodup, by omega, fun g hg e he => by rw [hkey]; exact (hgs g hg).2 e he, fun g hg => (hgs g hg).1⟩
      exact q p3 _ _ _ _ (f08.trans f011) (AtG.rows ((hat11.drop tn.toNat).app (hat11.take tn.toNat)) upd_same) (turn_ok _ ok) (turn_lt _ hlt0) (by rw [List.length_append, List.length_drop, List.length_take]; omega)
end

-- the def top 9
theorem sc_law_copied : FnScope ["_law_rows", "_law_number", "_law_some"] ["_law_rows"] (defScope s_law_copied) := ⟨rfl, rfl, rfl, by decide +kernel, rfl, by decide +kernel, by decide +kernel⟩
def B_law_copied (K : PySem.W.Frag) : BK1 := fun x H Q _ => ∃ (r : Addr) (gs : Gr) (ts as : List Addr), x = .ref r ∧ RowsAt H r gs ts as ∧ (keysG gs).Nodup ∧ gs.length ≤ 60 ∧
  ∀ p cs H', Fr Non H H' → Fresh H p → EldAt H' p gs cs → Q (.ref p) H'
section
variable {P : Program} {w : World} {K : PySem.W.Frag} {mg : Str → Option Value} {base : Heap}
theorem ok_law_copied (T : TX K mg) : CalX P w K mg base 1 "_law_copied" ["_law_rows"] (Sp1 (B_law_copied K)) := by
  obtain ⟨f, fd, F, hm, bd⟩ := T.d_law_copied.ex
  refine ⟨f, fd, F.okX sc_law_copied len1 (fun cdv A outer s H vs Q E hr h => ?_), hm, F.kp, bd⟩
  obtain ⟨x, rfl, h⟩ := h
  refine ⟨_, (pss_one (ps_ret (pe_callTy (c_dictP rfl) (by rfl) T.b_dict (by decide +kernel) (pa_cons (pe_lc (own := [("_law_number", 1), ("_law_some", 2)]) (g := gTup K 2 (gCons (gName 1) (gCons (gName 2) gNil))) (tt := tYes) rfl sc_law_copied.nd (pi_list (pv 0)) (blkOk_by (N := ["_law_rows", "_law_number", "_law_some"]) (sc := defScope s_law_copied) (own := [("_law_number", 1), ("_law_some", 2)]) (by decide +kernel)) (fun _ _ _ _ _ => pg_tup rfl (pgs_cons (pg_name (i := 1) sc_law_copied.nd rfl (by first | exact Or.inl rfl | exact Or.inr rfl)) (pgs_cons (pg_name (i := 2) sc_law_copied.nd rfl (by first | exact Or.inl rfl | exact Or.inr rfl)) pgs_nil))) (fun _ _ _ _ _ => pts_nil) (fun _ _ _ _ _ => (pe_tup (pa_cons (pv 1) (pa_cons (pe_callTy (r := rListOf K) c_listOf (by rfl) T.b_list (by decide +kernel) (pa_cons (pv 2) pa_nil)) pa_nil))))) pa_nil)))), ?_⟩
  show (_ : TS) _ [some x, none, none] H
  first | dsimp only [L2.cxOf] | skip
  obtain ⟨r, gs, ts, as, rfl, hr1, hd, hl, q⟩ := h
  walk_at "rd"
  refine x_iRef (C := fun a => ∃ xs, SqL K H a xs) ⟨_, SqL.of hr1.ls⟩ ?_
  intro D nD
  refine x_lcL (ts.map V.ref) (fun i H' => Fr Non H H' ∧ ∃ us cs : List Addr, H' D = some (.lst (us.map V.ref)) ∧ us.length = i ∧ cs.length = i ∧ (∀ c ∈ cs, c ≠ D) ∧ (∀ p ∈ (gs.take i).zip cs, H' p.2 = some (.lst (p.1.2.map V.int))) ∧ Paired (fun u kv => H' u = some (.tup [kV kv.1, kv.2])) us (kvG (gs.take i) cs)) ⟨Fr.new (Fr.refl _) nD, [], [], upd_same, rfl, rfl, (fun c hc => by cases hc), (fun p hp => by cases hp), .nil⟩ (fun i H' _ ⟨g, _⟩ => SqL.of (g.keep _ _ hr1.ls id)) ?_ ?_
  · rintro i x H1 hx ⟨f1, us, cs, hD, hul, hcl, hcD, hcs, hpr⟩
    rw [List.getElem?_map] at hx
    obtain ⟨t, ht, rfl⟩ := Option.map_eq_some_iff.mp hx
    have hi : i < gs.length := by rw [← hr1.lt]; exact (List.getElem?_eq_some_iff.mp ht).1
    obtain ⟨g, hg⟩ : ∃ g, gs[i]? = some g := ⟨_, List.getElem?_eq_getElem hi⟩
    obtain ⟨a, ha⟩ : ∃ a, as[i]? = some a := ⟨_, List.getElem?_eq_getElem (by rw [hr1.la]; exact hi)⟩
    obtain ⟨h1, h2⟩ := (hr1.keep f1).at_ i g t a hg ht ha
    have htk : gs.take (i + 1) = gs.take i ++ [g] := by rw [List.take_succ, hg]; rfl
    have htl : cs.length = (gs.take i).length := by rw [List.length_take]; omega
    walk_at "rd"
    intro c nc
    have h1c := keepU (u := .lst (g.2.map V.int)) h1 nc
    walk_at "rd"
    intro u nu
    have f3 : Fr Non H1 (upd (upd H1 c (.lst (g.2.map V.int))) u (.tup [.int g.1, .ref c])) := Fr.new (Fr.new (Fr.refl _) nc) nu
    have hD3 := f3.keep _ _ hD id
    have hsz : (us.map V.ref).length ≤ 100000 := by rw [List.length_map]; omega
    walk_at "rd"
    have neD : ∀ {b o}, H1 b = some o → b ≠ D → upd (upd (upd H1 c (.lst (g.2.map V.int))) u (.tup [.int g.1, .ref c])) D (.lst (us.map V.ref ++ [.ref u])) b = some o := fun e ne => (upd_ne ne).trans (f3.keep _ _ e id)
    have hcD2 : c ≠ D := Ne.symm (ne_fr hD nc)
    have huD2 : u ≠ D := Ne.symm (ne_fr (keepU (u := .lst (g.2.map V.int)) hD nc) nu)
    have hcu : c ≠ u := ne_fr (H := upd H1 c (.lst (g.2.map V.int))) upd_same nu
    refine ⟨Fr.mut (f1.trans f3) hD3 rfl (.inr nD), us ++ [u], cs ++ [c], by rw [List.map_append]; exact upd_same, by rw [List.length_append, hul]; rfl, by rw [List.length_append, hcl]; rfl, ?_, ?_, ?_⟩
    · intro z hz
      rcases List.mem_append.mp hz with hz | hz
      · exact hcD z hz
      · rw [List.mem_singleton.mp hz]; exact hcD2
    · intro p hp
      rw [htk, List.zip_append htl.symm] at hp
      rcases List.mem_append.mp hp with hp | hp
      · exact neD (hcs p hp) (hcD _ (List.of_mem_zip hp).2)
      · have hp : p = (g, c) := by simpa using hp
        subst hp
        exact (upd_ne hcD2).trans ((upd_ne hcu).trans upd_same)
    · rw [htk, kvG_snoc g c htl]
      refine Paired.snoc (Paired.imp (fun u' kv e => neD e (by rintro rfl; rw [hD] at e; cases e)) hpr) ?_
      exact (upd_ne huD2).trans upd_same
  · rintro H1 ⟨f1, us, cs, hD, hul, hcl, hcD, hcs, hpr⟩
    rw [List.length_map, hr1.lt] at hcl hul
    rw [List.length_map, hr1.lt, List.take_length] at hcs hpr
    walk_at "rd"
    refine ⟨D, us, kvG gs cs, rfl, SqL.of hD, Paired.imp (fun u kv e => SqT.of e) hpr, fun p np => ?_⟩
    rw [merge_kvG hcl hd]
    refine q p cs _ (Fr.new f1 np) (f1.free np) ⟨hcl, upd_same, fun z hz => keepU (hcs z hz) np⟩
end

-- the def top 10
theorem sc_law_whole : FnScope ["_law_found"] ["_law_found"] (defScope s_law_whole) := ⟨rfl, rfl, rfl, by decide +kernel, rfl, by decide +kernel, by decide +kernel⟩
def B_law_whole : BK1 := fun x H Q _ => ∃ i : Int, x = .int i ∧ Q (.bl true) H
section
variable {P : Program} {w : World} {K : PySem.W.Frag} {mg : Str → Option Value} {base : Heap}
theorem ok_law_whole (T : TX K mg) : CalX P w K mg base 1 "_law_whole" ["_law_found"] (Sp1 (B_law_whole)) := by
  obtain ⟨f, fd, F, hm, bd⟩ := T.d_law_whole.ex
  refine ⟨f, fd, F.okX sc_law_whole len1 (fun cdv A outer s H vs Q E hr h => ?_), hm, F.kp, bd⟩
  obtain ⟨x, rfl, h⟩ := h
  refine ⟨_, (pss_one (ps_ret (pe_and (pe_callB call_isi (by rfl) T.b_isinstance PyProof.Rows.boot_isinstance (pa_cons (pv 0) (pa_cons (pe_bltn (v := .ty "int") rfl T.b_int PyProof.Rows.boot_int rfl) pa_nil))) (pe_one (pe_not (pe_callB call_isi (by rfl) T.b_isinstance PyProof.Rows.boot_isinstance (pa_cons (pv 0) (pa_cons (pe_bltn (v := .ty "bool") rfl T.b_bool PyProof.Rows.boot_bool rfl) pa_nil)))))))), ?_⟩
  show (_ : TS) _ [some x] H
  first | dsimp only [L2.cxOf] | skip
  obtain ⟨i, rfl, q⟩ := h
  walk_at "rd"
  exact q
end

-- the def top 11
theorem sc_law_list : FnScope ["_law_found", "_law_due", "_law_one"] ["_law_found", "_law_due"] (defScope s_law_list) := ⟨rfl, rfl, rfl, by decide +kernel, rfl, by decide +kernel, by decide +kernel⟩
def B_law_list (K : PySem.W.Frag) : BK2 := fun x y H Q _ => ∃ (a b : Addr) (ns : List Int), x = .ref a ∧ y = .ref b ∧ H a = some (.lst (ns.map V.int)) ∧ H b = some (.lst (ns.map V.int)) ∧ ∀ H', Fr Non H H' → Q (.bl true) H'
section
variable {P : Program} {w : World} {K : PySem.W.Frag} {mg : Str → Option Value} {base : Heap}
theorem ok_law_list (T : TX K mg) : CalX P w K mg base 2 "_law_list" ["_law_found", "_law_due"] (Sp2 (B_law_list K)) := by
  have C_law_whole := ok_law_whole (P := P) (w := w) (base := base) T
  obtain ⟨f, fd, F, hm, bd⟩ := T.d_law_list.ex
  refine ⟨f, fd, F.okX sc_law_list len2 (fun cdv A outer s H vs Q E hr h => ?_), hm, F.kp, bd⟩
  obtain ⟨x, y, rfl, h⟩ := h
  refine ⟨_, (pss_one (ps_ret (pe_and (pe_callB call_isi (by rfl) T.b_isinstance PyProof.Rows.boot_isinstance (pa_cons (pv 0) (pa_cons (pe_bltn (v := .ty "list") rfl T.b_list PyProof.Rows.boot_list rfl) pa_nil))) (pe_and (pe_cmpR (op_eqD hr.units) (pv 0) (pv 1) (nomark _)) (pe_one (pe_cmpR (op_eqD hr.units) (pe_lc (own := [("_law_one", 2)]) (g := gName 2)  rfl sc_law_list.nd (pi_list (pv 0)) (blkOk_by (N := ["_law_found", "_law_due", "_law_one"]) (sc := defScope s_law_list) (own := [("_law_one", 2)]) (by decide +kernel)) (fun _ _ _ _ _ => pg_name (i := 2) sc_law_list.nd rfl (by first | exact Or.inl rfl | exact Or.inr rfl)) (fun _ _ _ _ _ => (pts_one (pt_not (pt_val (pcall C_law_whole hr (by first | decide | omega) rfl Passes.none (pa_cons (pv 2) pa_nil)))))) (fun _ _ _ _ _ => (pv 2))) (pe_lst pa_nil) (nomark _))))))), ?_⟩
  show (_ : TS) _ [some x, some y, none] H
  first | dsimp only [L2.cxOf] | skip
  obtain ⟨a, b, ns, rfl, rfl, ha, hb, q⟩ := h
  walk_at "rd"
  refine x_eqLI ha hb ?_
  rw [decide_eq_true rfl]
  walk_at "rd"
  refine x_iRef (C := fun a => ∃ xs, SqL K H a xs) ⟨_, SqL.of ha⟩ ?_
  intro D nD
  refine x_lcL (ns.map V.int) (fun i H' => Fr Non H H' ∧ H' D = some (.lst (([] : List Int).map V.int))) ⟨Fr.new (Fr.refl _) nD, upd_same⟩ (fun i H' _ ⟨g, _⟩ => SqL.of (g.keep _ _ ha id)) ?_ ?_
  · rintro i x H3 hx ⟨f3, hD⟩
    rw [List.getElem?_map] at hx
    obtain ⟨z, hz, rfl⟩ := Option.map_eq_some_iff.mp hx
    walk_at "rd"
    refine ⟨z, rfl, ?_⟩
    walk_at "rd"
    exact ⟨f3, hD⟩
  · rintro H3 ⟨f3, hD⟩
    walk_at "rd"
    intro p np
    refine x_eqLI (ns := []) (ms := []) (keepU hD np) upd_same ?_
    exact q _ (Fr.new f3 np)
end

-- the def top 1
theorem sc_reach : FnScope ["elders", "number", "found", "at", "elder"] ["elders", "number"] (defScope s_reach) := ⟨rfl, rfl, rfl, by decide +kernel, rfl, by decide +kernel, by decide +kernel⟩
def B_reach (K : PySem.W.Frag) : BK2 := fun x y H Q _ => ∃ (e : Addr) (gs : Gr) (as : List Addr) (n : Int), x = .ref e ∧ y = .int n ∧ EldAt H e gs as ∧ GrOk gs ∧ n ∈ keysG gs ∧
  ∀ ns p H', upI2 ns → (∀ k, k ∈ ns ↔ Rch gs n k) → ns.length ≤ 60 → Fr Non H H' → Fresh H p → H' p = some (.lst (ns.map V.int)) → Q (.ref p) H'
section
variable {P : Program} {w : World} {K : PySem.W.Frag} {mg : Str → Option Value} {base : Heap}
theorem ok_reach (T : TX K mg) : CalX P w K mg base 1 "reach" ["elders", "number"] (Sp2 (B_reach K)) := by
  obtain ⟨f, fd, F, hm, bd⟩ := T.d_reach.ex
  refine ⟨f, fd, F.okX sc_reach len2 (fun cdv A outer s H vs Q E hr h => ?_), hm, F.kp, bd⟩
  obtain ⟨x, y, rfl, h⟩ := h
  refine ⟨_, (pss_cons (ps_set (i := 2) sc_reach.nd rfl (Or.inr rfl) (pe_lst (pa_cons (pv 1) pa_nil))) (pss_cons (ps_set (i := 3) sc_reach.nd rfl (Or.inl rfl) pe_int) (pss_cons (ps_while (passes_of rfl) (pt_cmpR op_lt (pv 3) (pe_callB c_len (by rfl) T.b_len (by decide +kernel) (pa_cons (pv 2) pa_nil)) (nomark _)) (pss_cons (ps_expr (pe_bm PySem.F.plainAttrs_list PySem.F.slot_list_extend PySem.F.type_list_extend mt_extend (pv 2) (pa_cons (pe_lc (own := [("elder", 4)]) (g := gName 4)  rfl sc_reach.nd (pi_list (pe_dget (hu_of hr) (pv 0) (pe_ix ix_list (pv 2) (pv 3) (fun _ _ => rfl)) (fun _ _ => rfl))) (blkOk_by (N := ["elders", "number", "found", "at", "elder"]) (sc := defScope s_reach) (own := [("elder", 4)]) (by decide +kernel)) (fun _ _ _ _ _ => pg_name (i := 4) sc_reach.nd rfl (by first | exact Or.inl rfl | exact Or.inr rfl)) (fun _ _ _ _ _ => (pts_one (pt_cmpR (r := rNotInD K) (op_notInD (u65 hr)) (pv 4) (pv 2) rfl))) (fun _ _ _ _ _ => (pv 4))) pa_nil))) (pss_one (ps_aug (i := 3) sc_reach.nd rfl (Or.inl rfl) pe_int ip_add)))) (pss_one (ps_ret (pe_callB (cr_sortedSet rfl) (by rfl) T.b_sorted (by decide +kernel) (pa_cons (pe_callTy (cr_setI rfl) (by rfl) T.b_set (by decide +kernel) (pa_cons (pv 2) pa_nil)) pa_nil))))))), ?_⟩
  show (_ : TS) _ [some x, some y, none, none, none] H
  first | dsimp only [L2.cxOf] | skip
  obtain ⟨e, gs, as, n, rfl, rfl, he, ok, hn, q⟩ := h
  walk_at "rd"
  intro L nL
  walk_at "rd"
  refine x_while (W := fun mm σ H' => Fr Non H H' ∧ ∃ (fs : List Int) (at' : Nat) (v4 : Option V), mm = 61 - at' ∧ at' ≤ fs.length ∧ fs.Nodup ∧ n ∈ fs ∧ (∀ f ∈ fs, Rch gs n f) ∧ (∀ j f, fs[j]? = some f → j < at' → ∀ e ∈ eld gs f, e ∈ fs) ∧
    H' L = some (.lst (fs.map V.int)) ∧ σ = [some (.ref e), some (.int n), some (.ref L), some (.int (at' : Int)), v4]) 61 ?_ ?_
  · exact ⟨Fr.new (Fr.refl _) nL, [n], 0, none, rfl, Nat.zero_le _, List.nodup_cons.mpr ⟨(fun h => nomatch h), List.nodup_nil⟩, List.mem_cons_self .., fun f hf => by rw [List.mem_singleton.mp hf]; exact .refl, fun j f _ h => absurd h (Nat.not_lt_zero _), upd_same, rfl⟩
  · rintro mm σ H1 ⟨f1, fs, at', v4, rfl, hat, hnd, h0, hr1, hcl, hL, rfl⟩
    have hfk : ∀ f ∈ fs, f ∈ keysG gs := fun f hf => (hr1 f hf).keys ok hn
    have hfl : fs.length ≤ gs.length := ok.few hnd hfk
    have hgl := ok.len
    walk_at "rd"
    rw [List.length_map]
    refine x_dec (fun hlt => ?_) (fun hge => ?_)
    · have hlt : at' < fs.length := by omega
      refine ⟨fun σ' H' => ∃ m', m' < 61 - at' ∧ Fr Non H H' ∧ ∃ (fs : List Int) (at' : Nat) (v4 : Option V), m' = 61 - at' ∧ at' ≤ fs.length ∧ fs.Nodup ∧ n ∈ fs ∧ (∀ f ∈ fs, Rch gs n f) ∧ (∀ j f, fs[j]? = some f → j < at' → ∀ e ∈ eld gs f, e ∈ fs) ∧
        H' L = some (.lst (fs.map V.int)) ∧ σ' = [some (.ref e), some (.int n), some (.ref L), some (.int (at' : Int)), v4], fun σ' H' h => h, ?_⟩
      obtain ⟨f, hf⟩ : ∃ f, fs[at']? = some f := ⟨_, List.getElem?_eq_getElem hlt⟩
      have hfm := List.mem_of_getElem? hf
      have aix : atI (fs.map V.int) (at' : Int) = some (.int f) := atI_nat (by rw [List.getElem?_map, hf]; rfl)
      have he1 := he.keep f1
      obtain ⟨a, dg, ha⟩ := he1.get (hfk f hfm)
      have hel := (ok.eld (hfk f hfm))
      have helen : (eld gs f).length ≤ 60 := Nat.le_trans (ok.few hel.2 hel.1) hgl
      walk_at "rd"
      refine ⟨e, _, rfl, dg, ?_⟩
      refine x_iRef (C := fun a => ∃ xs, SqL K H1 a xs) ⟨_, SqL.of ha⟩ ?_
      intro D nD
      refine x_lcL ((eld gs f).map V.int) (fun i H' => Fr Non H1 H' ∧ H' D = some (.lst ((((eld gs f).take i).filter fun z => !decide (z ∈ fs)).map V.int))) ⟨Fr.new (Fr.refl _) nD, upd_same⟩ (fun i H' _ ⟨g, _⟩ => SqL.of (g.keep _ _ ha id)) ?_ ?_
      · rintro i x H2 hx ⟨f2, hD⟩
        rw [List.getElem?_map] at hx
        obtain ⟨z, hz, rfl⟩ := Option.map_eq_some_iff.mp hx
        have hL2 := f2.keep _ _ hL id
        have htk : (eld gs f).take (i + 1) = (eld gs f).take i ++ [z] := by rw [List.take_succ, hz]; rfl
        have hsz : ((((eld gs f).take i).filter fun z => !decide (z ∈ fs)).map V.int).length ≤ 100000 := by
          rw [List.length_map]
          exact Nat.le_trans (List.length_filter_le _ _) (by rw [List.length_take]; omega)
        walk_at "rd"
        refine x_notInI hL2 ?_
        walk_at "rd"
        refine x_ndec (fun hz1 => ?_) (fun hz1 => ?_)
        · walk_at "rd"
          refine ⟨Fr.mut f2 hD rfl (.inr nD), ?_⟩
          rw [htk, List.filter_append, List.map_append]
          have : [z].filter (fun z => !decide (z ∈ fs)) = [z] := by rw [List.filter_cons_of_pos (by rw [decide_eq_false hz1]; rfl)]; rfl
          rw [this]
          exact upd_same
        · refine ⟨f2, ?_⟩
          rw [htk, List.filter_append]
          have : [z].filter (fun z => !decide (z ∈ fs)) = [] := by rw [List.filter_cons_of_neg (by rw [decide_eq_true hz1]; exact Bool.false_ne_true)]; rfl
          rw [this, List.append_nil]
          exact hD
      · rintro H2 ⟨f2, hD⟩
        rw [List.take_of_length_le (by rw [List.length_map]; exact Nat.le_refl _)] at hD
        have hL2 := f2.keep _ _ hL id
        obtain ⟨zs, ezs⟩ : ∃ zs, zs = (eld gs f).filter fun z => !decide (z ∈ fs) := ⟨_, rfl⟩
        rw [← ezs] at hD
        have hzs : ∀ z ∈ zs, z ∈ eld gs f ∧ z ∉ fs := fun z hz => by
          rw [ezs] at hz
          have := List.mem_filter.mp hz
          exact ⟨this.1, fun h => by rw [decide_eq_true h] at this; exact absurd this.2 Bool.false_ne_true⟩
        have hzl : zs.length ≤ 60 := by rw [ezs]; exact Nat.le_trans (List.length_filter_le _ _) helen
        have hsz : (fs.map V.int).length + (zs.map V.int).length ≤ 100000 := by rw [List.length_map, List.length_map]; omega
        walk_at "rd"
        refine x_extend hL2 hD hsz ?_
        rw [← List.map_append]
        walk_at "rd"
        refine ⟨61 - (at' + 1), by omega, Fr.mut (f1.trans f2) hL2 rfl (.inr nL), fs ++ zs, at' + 1, _, rfl, by rw [List.length_append]; omega, ?_, List.mem_append_left _ h0, ?_, ?_, upd_same, rfl⟩
        · rw [List.nodup_append]
          refine ⟨hnd, by rw [ezs]; exact List.Pairwise.sublist List.filter_sublist hel.2, fun a ha b hb => ?_⟩
          rintro rfl
          exact (hzs _ hb).2 ha
        · intro g hg
          rcases List.mem_append.mp hg with hg | hg
          · exact hr1 g hg
          · exact .step (hr1 f hfm) (hzs g hg).1
        · intro j g hj hjl e' he'
          rcases Nat.lt_or_eq_of_le (Nat.le_of_lt_succ hjl) with h | h
          · rw [List.getElem?_append_left (by omega)] at hj
            exact List.mem_append_left _ (hcl j g hj h e' he')
          · subst h
            rw [List.getElem?_append_left hlt, hf] at hj
            cases hj
            by_cases hm : e' ∈ fs
            · exact List.mem_append_left _ hm
            · refine List.mem_append_right _ ?_
              rw [ezs]
              exact List.mem_filter.mpr ⟨he', by rw [decide_eq_false hm]; rfl⟩
    · have hge : fs.length ≤ at' := by omega
      have hall := rch_closed (gs := gs) h0 hr1 fun f hf e' he' => by
        obtain ⟨j, hj, rfl⟩ := List.getElem_of_mem hf
        exact hcl j _ (List.getElem?_eq_getElem hj) (by omega) e' he'
      walk_at "rd"
      refine x_setI (SqL.of hL) (by omega) fun p c np hc => ?_
      walk_at "rd"
      refine x_sortedSet upd_same (by omega) fun ns p2 hup hmem hlen np2 => ?_
      exact q ns p2 _ hup (fun k => (hmem k).trans ((decide_eq_true_iff).trans (hall k))) (by omega) (Fr.new (Fr.new f1 np) np2) (f1.free (upd_back np2)) upd_same
end

-- the def top 2
theorem sc_common : FnScope ["elders", "one", "other", "theirs", "number"] ["elders", "one", "other"] (defScope s_common) := ⟨rfl, rfl, rfl, by decide +kernel, rfl, by decide +kernel, by decide +kernel⟩
def B_common (K : PySem.W.Frag) : BK3 := fun x y z H Q _ => ∃ (e : Addr) (gs : Gr) (as : List Addr) (n m : Int), x = .ref e ∧ y = .int n ∧ z = .int m ∧ EldAt H e gs as ∧ GrOk gs ∧ n ∈ keysG gs ∧ m ∈ keysG gs ∧
  ∀ ns p H', upI2 ns → (∀ k, k ∈ ns ↔ Rch gs n k ∧ Rch gs m k) → ns.length ≤ 60 → Fr Non H H' → Fresh H p → H' p = some (.lst (ns.map V.int)) → Q (.ref p) H'
section
variable {P : Program} {w : World} {K : PySem.W.Frag} {mg : Str → Option Value} {base : Heap}
theorem ok_common (T : TX K mg) : CalX P w K mg base 2 "common" ["elders", "one", "other"] (Sp3 (B_common K)) := by
  have C_reach := ok_reach (P := P) (w := w) (base := base) T
  obtain ⟨f, fd, F, hm, bd⟩ := T.d_common.ex
  refine ⟨f, fd, F.okX sc_common len3 (fun cdv A outer s H vs Q E hr h => ?_), hm, F.kp, bd⟩
  obtain ⟨x, y, z, rfl, h⟩ := h
  refine ⟨_, (pss_cons (ps_set (i := 3) sc_common.nd rfl (Or.inr rfl) (pcall C_reach hr (by first | decide | omega) rfl Passes.none (pa_cons (pv 0) (pa_cons (pv 2) pa_nil)))) (pss_one (ps_ret (pe_lc (own := [("number", 4)]) (g := gName 4)  rfl sc_common.nd (pi_list (pcall C_reach hr (by first | decide | omega) rfl Passes.none (pa_cons (pv 0) (pa_cons (pv 1) pa_nil)))) (blkOk_by (N := ["elders", "one", "other", "theirs", "number"]) (sc := defScope s_common) (own := [("number", 4)]) (by decide +kernel)) (fun _ _ _ _ _ => pg_name (i := 4) sc_common.nd rfl (by first | exact Or.inl rfl | exact Or.inr rfl)) (fun _ _ _ _ _ => (pts_one (pt_cmpR (r := rInD K) (op_inD (u65 hr)) (pv 4) (pv 3) rfl))) (fun _ _ _ _ _ => (pv 4)))))), ?_⟩
  show (_ : TS) _ [some x, some y, some z, none, none] H
  first | dsimp only [L2.cxOf] | skip
  obtain ⟨e, gs, as, n, m, rfl, rfl, rfl, he, ok, hn, hm, q⟩ := h
  walk_at "rd"
  refine ⟨e, gs, as, m, rfl, rfl, he, ok, hm, fun ms p1 H1 up1 hm1 hl1 f1 np1 hp1 => ?_⟩
  have he1 := he.keep f1
  walk_at "rd"
  refine ⟨e, gs, as, n, rfl, rfl, he1, ok, hn, fun ns p2 H2 up2 hm2 hl2 f2 np2 hp2 => ?_⟩
  have hp12 := f2.keep _ _ hp1 id
  refine x_iRef (C := fun a => ∃ xs, SqL K H2 a xs) ⟨_, SqL.of hp2⟩ ?_
  intro D nD
  refine x_lcL (ns.map V.int) (fun i H' => Fr Non H2 H' ∧ H' D = some (.lst (((ns.take i).filter fun z => decide (z ∈ ms)).map V.int))) ⟨Fr.new (Fr.refl _) nD, upd_same⟩ (fun i H' _ ⟨g, _⟩ => SqL.of (g.keep _ _ hp2 id)) ?_ ?_
  · rintro i x H3 hx ⟨f3, hD⟩
    rw [List.getElem?_map] at hx
    obtain ⟨z, hz, rfl⟩ := Option.map_eq_some_iff.mp hx
    have hp13 := f3.keep _ _ hp12 id
    have htk : ns.take (i + 1) = ns.take i ++ [z] := by rw [List.take_succ, hz]; rfl
    have hsz : (((ns.take i).filter fun z => decide (z ∈ ms)).map V.int).length ≤ 100000 := by
      rw [List.length_map]
      exact Nat.le_trans (List.length_filter_le _ _) (by rw [List.length_take]; omega)
    walk_at "rd"
    refine x_inI hp13 ?_
    walk_at "rd"
    refine x_dec (fun hz1 => ?_) (fun hz1 => ?_)
    · walk_at "rd"
      refine ⟨Fr.mut f3 hD rfl (.inr nD), ?_⟩
      rw [htk, List.filter_append, List.map_append]
      rw [filter_yes (p := fun z => decide (z ∈ ms)) (decide_eq_true hz1)]
      exact upd_same
    · refine ⟨f3, ?_⟩
      rw [htk, List.filter_append]
      rw [filter_no (p := fun z => decide (z ∈ ms)) (decide_eq_false hz1), List.append_nil]
      exact hD
  · rintro H3 ⟨f3, hD⟩
    rw [List.take_of_length_le (by rw [List.length_map]; exact Nat.le_refl _)] at hD
    refine q (ns.filter fun z => decide (z ∈ ms)) D H3 (List.Pairwise.sublist List.filter_sublist up2) (fun k => ?_) (Nat.le_trans (List.length_filter_le _ _) hl2) ((f1.trans f2).trans f3) ((f1.trans f2).free nD) hD
    rw [List.mem_filter, decide_eq_true_iff, hm1, hm2]
end

-- the def top 3
theorem sc_bases : FnScope ["elders", "one", "other", "some", "beneath", "number", "elder"] ["elders", "one", "other"] (defScope s_bases) := ⟨rfl, rfl, rfl, by decide +kernel, rfl, by decide +kernel, by decide +kernel⟩
def B_bases (K : PySem.W.Frag) : BK3 := fun x y z H Q _ => ∃ (e : Addr) (gs : Gr) (as : List Addr) (n m : Int), x = .ref e ∧ y = .int n ∧ z = .int m ∧ EldAt H e gs as ∧ GrOk gs ∧ n ∈ keysG gs ∧ m ∈ keysG gs ∧
  ∀ ns p H', upI2 ns → (∀ k, k ∈ ns ↔ BaseOf gs n m k) → ns.length ≤ 60 → Fr Non H H' → Fresh H p → H' p = some (.lst (ns.map V.int)) → Q (.ref p) H'
section
variable {P : Program} {w : World} {K : PySem.W.Frag} {mg : Str → Option Value} {base : Heap}
theorem ok_bases (T : TX K mg) : CalX P w K mg base 3 "bases" ["elders", "one", "other"] (Sp3 (B_bases K)) := by
  have C_common := ok_common (P := P) (w := w) (base := base) T
  have C_reach := ok_reach (P := P) (w := w) (base := base) T
  obtain ⟨f, fd, F, hm, bd⟩ := T.d_bases.ex
  refine ⟨f, fd, F.okX sc_bases len3 (fun cdv A outer s H vs Q E hr h => ?_), hm, F.kp, bd⟩
  obtain ⟨x, y, z, rfl, h⟩ := h
  refine ⟨_, (pss_cons (ps_set (i := 3) sc_bases.nd rfl (Or.inl rfl) (pcall C_common hr (by first | decide | omega) rfl Passes.none (pa_cons (pv 0) (pa_cons (pv 1) (pa_cons (pv 2) pa_nil))))) (pss_cons (ps_set (i := 4) sc_bases.nd rfl (Or.inr rfl) (pe_lst pa_nil)) (pss_cons (ps_for (passes_of rfl) rfl (pi_list (pv 3)) (pg_name (i := 5) sc_bases.nd rfl (Or.inr rfl)) (pss_one (ps_expr (pe_bm PySem.F.plainAttrs_list PySem.F.slot_list_extend PySem.F.type_list_extend mt_extend (pv 4) (pa_cons (pe_lc (own := [("elder", 6)]) (g := gName 6)  rfl sc_bases.nd (pi_list (pcall C_reach hr (by first | decide | omega) rfl Passes.none (pa_cons (pv 0) (pa_cons (pv 5) pa_nil)))) (blkOk_by (N := ["elders", "one", "other", "some", "beneath", "number", "elder"]) (sc := defScope s_bases) (own := [("elder", 6)]) (by decide +kernel)) (fun _ _ _ _ _ => pg_name (i := 6) sc_bases.nd rfl (by first | exact Or.inl rfl | exact Or.inr rfl)) (fun _ _ _ _ _ => (pts_one (pt_cmpR op_ne (pv 6) (pv 5) (nomark _)))) (fun _ _ _ _ _ => (pv 6))) pa_nil))))) (pss_one (ps_ret (pe_lc (own := [("number", 5)]) (g := gName 5)  rfl sc_bases.nd (pi_list (pv 3)) (blkOk_by (N := ["elders", "one", "other", "some", "beneath", "number", "elder"]) (sc := defScope s_bases) (own := [("number", 5)]) (by decide +kernel)) (fun _ _ _ _ _ => pg_name (i := 5) sc_bases.nd rfl (by first | exact Or.inl rfl | exact Or.inr rfl)) (fun _ _ _ _ _ => (pts_one (pt_cmpR (r := rNotInD K) (op_notInD (u65 hr)) (pv 5) (pv 4) rfl))) (fun _ _ _ _ _ => (pv 5)))))))), ?_⟩
  show (_ : TS) _ [some x, some y, some z, none, none, none, none] H
  first | dsimp only [L2.cxOf] | skip
  obtain ⟨e, gs, as, n, m, rfl, rfl, rfl, he, ok, hn, hm, q⟩ := h
  walk_at "rd"
  refine ⟨e, gs, as, n, m, rfl, rfl, rfl, he, ok, hn, hm, fun ss p1 H1 up1 hm1 hl1 f1 np1 hp1 => ?_⟩
  walk_at "rd"
  intro B nB
  have f2 : Fr Non H (upd H1 B (.lst [])) := Fr.new f1 nB
  have hp2 := keepU (u := .lst []) hp1 nB
  have hB2 : upd H1 B (.lst []) B = some (.lst (([] : List Int).map V.int)) := upd_same
  have nBH : Fresh H B := f1.free nB
  have hpB : p1 ≠ B := ne_fr hp1 nB
  generalize upd H1 B (.lst []) = H2 at f2 hp2 hB2 ⊢
  walk_at "rd"
  refine x_iRef (C := fun a => ∃ xs, SqL K H2 a xs) ⟨_, SqL.of hp2⟩ ?_
  refine x_forL (ss.map V.int) (fun i σ H' => ∃ (v5 v6 : Option V) (bs : List Int), σ = [some (.ref e), some (.int n), some (.int m), some (.ref p1), some (.ref B), v5, v6] ∧ Fr Non H H' ∧ H' p1 = some (.lst (ss.map V.int)) ∧ H' B = some (.lst (bs.map V.int)) ∧ bs.length ≤ 60 * i ∧
    ∀ k, k ∈ bs ↔ ∃ j ∈ ss.take i, j ≠ k ∧ Rch gs j k) ⟨_, _, [], rfl, f2, hp2, hB2, Nat.le_refl _, fun k => ⟨fun h => (by cases h), fun ⟨j, h, _⟩ => (by cases h)⟩⟩ (fun i σ H' _ ⟨_, _, _, _, _, h, _⟩ => SqL.of h) ?_ ?_
  · rintro i x σ H3 hx ⟨v5, v6, bs, rfl, f3, hp3, hB3, hbl, hbm⟩
    rw [List.getElem?_map] at hx
    obtain ⟨j, hj, rfl⟩ := Option.map_eq_some_iff.mp hx
    have hjs := List.mem_of_getElem? hj
    have hi60 := (List.getElem?_eq_some_iff.mp hj).1
    have hjk := ((hm1 j).mp hjs).1.keys ok hn
    have htk : ss.take (i + 1) = ss.take i ++ [j] := by rw [List.take_succ, hj]; rfl
    walk_at "rd"
    refine ⟨e, gs, as, j, rfl, rfl, he.keep f3, ok, hjk, fun rs p4 H4 up4 hm4 hl4 f4 np4 hp4 => ?_⟩
    have hB4 := f4.keep _ _ hB3 id
    have hp14 := f4.keep _ _ hp3 id
    refine x_iRef (C := fun a => ∃ xs, SqL K H4 a xs) ⟨_, SqL.of hp4⟩ ?_
    intro D nD
    refine x_lcL (rs.map V.int) (fun i H' => Fr Non H4 H' ∧ H' D = some (.lst (((rs.take i).filter fun z => !decide (z = j)).map V.int))) ⟨Fr.new (Fr.refl _) nD, upd_same⟩ (fun i H' _ ⟨g, _⟩ => SqL.of (g.keep _ _ hp4 id)) ?_ ?_
    · rintro i2 x H5 hx ⟨f5, hD⟩
      rw [List.getElem?_map] at hx
      obtain ⟨z, hz, rfl⟩ := Option.map_eq_some_iff.mp hx
      have htk2 : rs.take (i2 + 1) = rs.take i2 ++ [z] := by rw [List.take_succ, hz]; rfl
      have hsz : (((rs.take i2).filter fun z => !decide (z = j)).map V.int).length ≤ 100000 := by
        rw [List.length_map]
        exact Nat.le_trans (List.length_filter_le _ _) (by rw [List.length_take]; omega)
      walk_at "rd"
      refine x_ndec (fun hz1 => ?_) (fun hz1 => ?_)
      · walk_at "rd"
        refine ⟨Fr.mut f5 hD rfl (.inr nD), ?_⟩
        rw [htk2, List.filter_append, List.map_append, filter_yes (p := fun z => !decide (z = j)) (by rw [decide_eq_false hz1]; rfl)]
        exact upd_same
      · refine ⟨f5, ?_⟩
        rw [htk2, List.filter_append, filter_no (p := fun z => !decide (z = j)) (by rw [decide_eq_true hz1]; rfl), List.append_nil]
        exact hD
    · rintro H5 ⟨f5, hD⟩
      rw [List.take_of_length_le (by rw [List.length_map]; exact Nat.le_refl _)] at hD
      have hB5 := f5.keep _ _ hB4 id
      have hp15 := f5.keep _ _ hp14 id
      have hfl : (rs.filter fun z => !decide (z = j)).length ≤ 60 := Nat.le_trans (List.length_filter_le _ _) hl4
      have hsz : (bs.map V.int).length + ((rs.filter fun z => !decide (z = j)).map V.int).length ≤ 100000 := by rw [List.length_map, List.length_map]; omega
      walk_at "rd"
      refine x_extend hB5 hD hsz ?_
      rw [← List.map_append]
      walk_at "rd"
      refine ⟨_, _, bs ++ rs.filter fun z => !decide (z = j), rfl, Fr.mut ((f3.trans f4).trans f5) hB5 rfl (.inr nBH), (upd_ne hpB).trans hp15, upd_same, by rw [List.length_append]; omega, fun k => ?_⟩
      rw [List.mem_append, hbm, List.mem_filter, htk]
      constructor
      · rintro (⟨j', h1, h2⟩ | ⟨h1, h2⟩)
        · exact ⟨j', List.mem_append_left _ h1, h2⟩
        · refine ⟨j, List.mem_append_right _ (List.mem_singleton.mpr rfl), fun e => ?_, (hm4 k).mp h1⟩
          rw [decide_eq_true e.symm] at h2; cases h2
      · rintro ⟨j', h1, h2, h3⟩
        rcases List.mem_append.mp h1 with h1 | h1
        · exact .inl ⟨j', h1, h2, h3⟩
        · rw [List.mem_singleton.mp h1] at h2 h3
          exact .inr ⟨(hm4 k).mpr h3, by rw [decide_eq_false (Ne.symm h2)]; rfl⟩
  · rintro σ H3 ⟨v5, v6, bs, rfl, f3, hp3, hB3, hbl, hbm⟩
    rw [List.take_of_length_le (by rw [List.length_map]; exact Nat.le_refl _)] at hbm
    walk_at "rd"
    refine x_iRef (C := fun a => ∃ xs, SqL K H3 a xs) ⟨_, SqL.of hp3⟩ ?_
    intro D nD
    refine x_lcL (ss.map V.int) (fun i H' => Fr Non H3 H' ∧ H' D = some (.lst (((ss.take i).filter fun z => !decide (z ∈ bs)).map V.int))) ⟨Fr.new (Fr.refl _) nD, upd_same⟩ (fun i H' _ ⟨g, _⟩ => SqL.of (g.keep _ _ hp3 id)) ?_ ?_
    · rintro i x H5 hx ⟨f5, hD⟩
      rw [List.getElem?_map] at hx
      obtain ⟨z, hz, rfl⟩ := Option.map_eq_some_iff.mp hx
      have hB5 := f5.keep _ _ hB3 id
      have htk : ss.take (i + 1) = ss.take i ++ [z] := by rw [List.take_succ, hz]; rfl
      have hsz : (((ss.take i).filter fun z => !decide (z ∈ bs)).map V.int).length ≤ 100000 := by
        rw [List.length_map]
        exact Nat.le_trans (List.length_filter_le _ _) (by rw [List.length_take]; omega)
      walk_at "rd"
      refine x_notInI hB5 ?_
      walk_at "rd"
      refine x_ndec (fun hz1 => ?_) (fun hz1 => ?_)
      · walk_at "rd"
        refine ⟨Fr.mut f5 hD rfl (.inr nD), ?_⟩
        rw [htk, List.filter_append, List.map_append, filter_yes (p := fun z => !decide (z ∈ bs)) (by rw [decide_eq_false hz1]; rfl)]
        exact upd_same
      · refine ⟨f5, ?_⟩
        rw [htk, List.filter_append, filter_no (p := fun z => !decide (z ∈ bs)) (by rw [decide_eq_true hz1]; rfl), List.append_nil]
        exact hD
    · rintro H5 ⟨f5, hD⟩
      rw [List.take_of_length_le (by rw [List.length_map]; exact Nat.le_refl _)] at hD
      refine q (ss.filter fun z => !decide (z ∈ bs)) D H5 (List.Pairwise.sublist List.filter_sublist up1) (fun k => ?_) (Nat.le_trans (List.length_filter_le _ _) hl1) (f3.trans f5) (f3.free nD) hD
      rw [List.mem_filter, hm1]
      constructor
      · rintro ⟨h1, h2⟩
        refine ⟨h1, fun j a b c d => ?_⟩
        have : k ∈ bs := (hbm k).mpr ⟨j, (hm1 j).mpr ⟨a, b⟩, c, d⟩
        rw [decide_eq_true this] at h2; cases h2
      · rintro ⟨h1, h2⟩
        refine ⟨h1, ?_⟩
        rw [decide_eq_false]; rfl
        intro h
        obtain ⟨j, a, b, c⟩ := (hbm k).mp h
        have hj := (hm1 j).mp a
        exact h2 j hj.1 hj.2 b c
end

-- the def top 13
theorem sc_law_climbed : FnScope ["_law_script", "_law_ground", "_law_start", "_law_numbers", "_law_handed", "_law_at", "_law_k"] ["_law_script"] (defScope s_law_climbed) := ⟨rfl, rfl, rfl, by decide +kernel, rfl, by decide +kernel, by decide +kernel⟩
def B_law_climbed (K : PySem.W.Frag) : BK1 := fun s H Q _ => ∃ (a : Addr) (ns : List Int), s = .ref a ∧ SqL K H a (ns.map V.int) ∧ ns.length ≤ 63 ∧ ∀ H', Fr Non H H' → Q (.bl true) H'
section
variable {P : Program} {w : World} {K : PySem.W.Frag} {mg : Str → Option Value} {base : Heap}
theorem ok_law_climbed (T : TX K mg) : CalX P w K mg base 4 "_law_climbed" ["_law_script"] (Sp1 (B_law_climbed K)) := by
  have C_law_well := ok_law_well (P := P) (w := w) (base := base) T
  have C_law_pull := ok_law_pull (P := P) (w := w) (base := base) T
  have C_law_list := ok_law_list (P := P) (w := w) (base := base) T
  have C_bases := ok_bases (P := P) (w := w) (base := base) T
  obtain ⟨f, fd, F, hm, bd⟩ := T.d_law_climbed.ex
  refine ⟨f, fd, F.okX sc_law_climbed len1 (fun cdv A outer s H vs Q E hr h => ?_), hm, F.kp, bd⟩
  obtain ⟨s, rfl, h⟩ := h
  refine ⟨_, (pss_cons (ps_set (i := 1) sc_law_climbed.nd rfl (Or.inl rfl) (pcall C_law_well hr (by first | decide | omega) rfl Passes.none (pa_cons (pv 0) (pa_cons pe_int pa_nil)))) (pss_cons (ps_set (i := 2) sc_law_climbed.nd rfl (Or.inr rfl) (pcall C_law_pull hr (by first | decide | omega) rfl Passes.none (pa_cons (pv 1) (pa_cons pe_int pa_nil)))) (pss_cons (ps_set (i := 3) sc_law_climbed.nd rfl (Or.inr rfl) (pe_lc (own := [("_law_k", 6)]) (g := gName 6) (tt := tYes) rfl sc_law_climbed.nd (pi_range1 rfl T.b_range (pa_cons (pe_op op_add pe_int (pcall C_law_pull hr (by first | decide | omega) rfl Passes.none (pa_cons (pv 1) (pa_cons pe_int pa_nil)))) pa_nil)) (blkOk_by (N := ["_law_script", "_law_ground", "_law_start", "_law_numbers", "_law_handed", "_law_at", "_law_k"]) (sc := defScope s_law_climbed) (own := [("_law_k", 6)]) (by decide +kernel)) (fun _ _ _ _ _ => pg_name (i := 6) sc_law_climbed.nd rfl (by first | exact Or.inl rfl | exact Or.inr rfl)) (fun _ _ _ _ _ => pts_nil) (fun _ _ _ _ _ => (pe_op op_add (pv 2) (pe_op op_mul pe_int (pv 6)))))) (pss_cons (ps_set (i := 4) sc_law_climbed.nd rfl (Or.inl rfl) (pe_callTy (c_dictP rfl) (by rfl) T.b_dict (by decide +kernel) (pa_cons (pe_lc (own := [("_law_k", 6)]) (g := gName 6) (tt := tYes) rfl sc_law_climbed.nd (pi_range1 rfl T.b_range (pa_cons (pe_callB c_len (by rfl) T.b_len (by decide +kernel) (pa_cons (pv 3) pa_nil)) pa_nil)) (blkOk_by (N := ["_law_script", "_law_ground", "_law_start", "_law_numbers", "_law_handed", "_law_at", "_law_k"]) (sc := defScope s_law_climbed) (own := [("_law_k", 6)]) (by decide +kernel)) (fun _ _ _ _ _ => pg_name (i := 6) sc_law_climbed.nd rfl (by first | exact Or.inl rfl | exact Or.inr rfl)) (fun _ _ _ _ _ => pts_nil) (fun _ _ _ _ _ => (pe_tup (pa_cons (pe_ix (r := rIxL K) ix_list (pv 3) (pv 6) (fun _ _ => rfl)) (pa_cons (pe_slice (r := rSlL K) sl_list (pv 3) (po_some (pe_callB (c_max2 rfl) (by rfl) T.b_max (by decide +kernel) (pa_cons pe_int (pa_cons (pe_op op_sub (pv 6) pe_int) pa_nil)))) (po_some (pv 6))) pa_nil))))) pa_nil))) (pss_cons (ps_set (i := 5) sc_law_climbed.nd rfl (Or.inl rfl) (pcall C_law_pull hr (by first | decide | omega) rfl Passes.none (pa_cons (pv 1) (pa_cons (pe_callB c_len (by rfl) T.b_len (by decide +kernel) (pa_cons (pv 3) pa_nil)) pa_nil)))) (pss_cons (ps_if (pt_not (pt_val (pcall C_law_list hr (by first | decide | omega) rfl Passes.none (pa_cons (pcall C_bases hr (by first | decide | omega) rfl Passes.none (pa_cons (pv 4) (pa_cons (pe_ix ix_list (pv 3) (pe_un un_neg pe_int) (fun _ _ => rfl)) (pa_cons (pe_ix ix_list (pv 3) (pe_un un_neg pe_int) (fun _ _ => rfl)) pa_nil)))) (pa_cons (pe_lst (pa_cons (pe_ix ix_list (pv 3) (pe_un un_neg pe_int) (fun _ _ => rfl)) pa_nil)) pa_nil))))) (pss_one (ps_ret pe_bl)) pss_nil) (pss_one (ps_ret (pe_cmpR (op_eqD hr.units) (pcall C_bases hr (by first | decide | omega) rfl Passes.none (pa_cons (pv 4) (pa_cons (pe_ix ix_list (pv 3) (pv 5) (fun _ _ => rfl)) (pa_cons (pe_ix ix_list (pv 3) (pe_un un_neg pe_int) (fun _ _ => rfl)) pa_nil)))) (pe_lst (pa_cons (pe_ix ix_list (pv 3) (pv 5) (fun _ _ => rfl)) pa_nil)) (nomark _)))))))))), ?_⟩
  show (_ : TS) _ [some s, none, none, none, none, none, none] H
  first | dsimp only [L2.cxOf] | skip
  obtain ⟨a, ns, rfl, hS, hn, q⟩ := h
  walk_at "rd"
  refine ⟨a, ns, _, rfl, rfl, by decide, hS, hn, fun G H1 f1 nG wG => ?_⟩
  walk_at "rd"
  refine ⟨G, _, rfl, rfl, by decide, by decide +kernel, wG, fun st H2 f2' w2 s0 s1 => ?_⟩
  have f02 : Fr Non H H2 := f1.sub' f2' fun b h => by subst h; exact .inr nG
  walk_at "rd"
  refine ⟨G, _, rfl, rfl, by decide, by decide +kernel, w2, fun r6 H6 f6' w6 r60 r61 => ?_⟩
  have f06 : Fr Non H H6 := f02.sub' f6' fun b h => by subst h; exact .inr nG
  walk_at "rd"
  intro N nN
  have nNG : N ≠ G := Well.ne w6 nN
  have hz : (1 : Int) ≤ 3 := by decide
  refine x_lcR (n := (30 + r6).toNat) (fun i H' => Fr Non H6 H' ∧ H' N = some (.lst ((numsL st 3 i).map V.int))) ⟨Fr.new (Fr.refl _) nN, upd_same⟩ ?_ ?_
  · rintro i H7 hi ⟨f7, hN⟩
    have hsz : ((numsL st 3 i).map V.int).length ≤ 100000 := by rw [List.length_map, numsL_len]; omega
    walk_at "rd"
    refine ⟨Fr.mut f7 hN rfl (.inr nN), ?_⟩
    rw [numsL_succ, List.map_append, Int.zero_add]
    exact upd_same
  · rintro H8 ⟨f7, hN8⟩
    obtain ⟨n, hnn⟩ : ∃ n : Nat, n = (30 + r6).toNat := ⟨_, rfl⟩
    rw [← hnn] at hN8
    have hn1 : 30 ≤ n ∧ n ≤ 50 := by omega
    have f08 : Fr Non H H8 := f06.trans f7
    have hll : ((numsL st 3 n).map V.int).length = n := by rw [List.length_map, numsL_len]
    have hbd : -(2 ^ 62) ≤ (((numsL st 3 n).map V.int).length : Int) ∧ (((numsL st 3 n).map V.int).length : Int) < 2 ^ 62 := by rw [hll]; constructor <;> omega
    walk_at "rd"
    intro R nR
    rw [hll]
    refine x_lcR (n := n) (fun i H' => Fr Non H8 H' ∧ ∃ ts as : List Addr, H' R = some (.lst (ts.map V.ref)) ∧ AtG H' (ladG st 3 n 2 i) ts as ∧ (∀ x ∈ as, x ≠ R) ∧ (∀ x ∈ as, x ≠ G)) ⟨Fr.new (Fr.refl _) nR, [], [], upd_same, .nil, (fun x hx => by cases hx), fun x hx => by cases hx⟩ ?_ ?_
    · rintro i H9 hi ⟨f9, ts, as, hR, hat, has, hasG⟩
      have htl := hat.len.1
      rw [ladG_len] at htl
      have hN9 := f9.keep _ _ hN8 id
      have aii : atI ((numsL st 3 n).map V.int) (0 + (i : Int)) = some (.int (st + 3 * (i : Int))) := by
        rw [Int.zero_add]
        exact atI_nat (by rw [List.getElem?_map, numsL_get hi]; rfl)
      have ecut : cutV ((numsL st 3 n).map V.int) (some (if 0 + (i : Int) - 2 > 0 then 0 + (i : Int) - 2 else 0)) (some (0 + (i : Int))) = (lads st 3 n 2 i).map V.int := by
        have e1 : (if 0 + (i : Int) - 2 > 0 then 0 + (i : Int) - 2 else 0) = ((i - 2 : Nat) : Int) := by split <;> omega
        rw [e1, Int.zero_add, cut_both (by omega) (by omega) (by rw [List.length_map, numsL_len]; omega)]
        unfold lads
        rw [List.map_take, List.map_drop]; rfl
      walk_at "rd"
      intro c nc
      rw [ecut]
      have hR1 := keepU (u := .lst ((lads st 3 n 2 i).map V.int)) hR nc
      have hc1 : upd H9 c (.lst ((lads st 3 n 2 i).map V.int)) c = some (.lst ((lads st 3 n 2 i).map V.int)) := upd_same
      have hat1 := hat.keepS (Fr.new (S := Non) (Fr.refl _) nc : Fr Non H9 (upd H9 c (.lst ((lads st 3 n 2 i).map V.int)))) fun _ _ => id
      have f91 : Fr Non H8 (upd H9 c (.lst ((lads st 3 n 2 i).map V.int))) := Fr.new f9 nc
      have hcR : c ≠ R := Ne.symm (ne_fr hR nc)
      have hcG : c ≠ G := Well.ne ((w6.fr f7 id).fr f9 id) nc
      generalize upd H9 c (.lst ((lads st 3 n 2 i).map V.int)) = H10 at hR1 hc1 hat1 f91 ⊢
      walk_at "rd"
      intro t nt
      have hR2 := keepU (u := .tup [.int (st + 3 * (i : Int)), .ref c]) hR1 nt
      have hc2 := keepU (u := .tup [.int (st + 3 * (i : Int)), .ref c]) hc1 nt
      have ht2 : upd H10 t (.tup [.int (st + 3 * (i : Int)), .ref c]) t = some (.tup [.int (st + 3 * (i : Int)), .ref c]) := upd_same
      have hat2 := hat1.keepS (Fr.new (S := Non) (Fr.refl _) nt : Fr Non H10 (upd H10 t (.tup [.int (st + 3 * (i : Int)), .ref c]))) fun _ _ => id
      have f92 : Fr Non H8 (upd H10 t (.tup [.int (st + 3 * (i : Int)), .ref c])) := Fr.new f91 nt
      generalize upd H10 t (.tup [.int (st + 3 * (i : Int)), .ref c]) = H11 at hR2 hc2 ht2 hat2 f92 ⊢
      have hsz : (ts.map V.ref).length ≤ 100000 := by rw [List.length_map]; omega
      walk_at "rd"
      have fm : Fr (One R) H11 (upd H11 R (.lst (ts.map V.ref ++ [.ref t]))) := Fr.mut (Fr.refl _) hR2 rfl (.inl rfl)
      refine ⟨Fr.mut f92 hR2 rfl (.inr nR), ts ++ [t], as ++ [c], by rw [List.map_append]; exact upd_same, ?_, ?_, ?_⟩
      · rw [ladG_succ]
        exact (hat2.keepS fm fun x hx => not_One (has x hx)).app (.cons (fm.tup _ _ ht2) (fm.keep _ _ hc2 (not_One hcR)) .nil)
      · intro x hx
        rcases List.mem_append.mp hx with hx | hx
        · exact has x hx
        · rw [List.mem_singleton.mp hx]; exact hcR
      · intro x hx
        rcases List.mem_append.mp hx with hx | hx
        · exact hasG x hx
        · rw [List.mem_singleton.mp hx]; exact hcG
    · rintro H9 ⟨f9, ts, as, hR, hat, has, hasG⟩
      have hN9 := f9.keep _ _ hN8 id
      have ok := lad_ok (st := st) hz (bk := 2) (show n ≤ 60 by omega)
      have lt := lad_lt (st := st) (n := n) (bk := 2) hz
      walk_at "rd"
      refine ⟨R, ts, kvG (ladG st 3 n 2 n) as, rfl, SqL.of hR, Paired.imp (fun u kv e => SqT.of e) hat.paired, fun D nD => ?_⟩
      rw [merge_kvG hat.len.2 ok.nd]
      have heD : EldAt (upd H9 D (.dK (kvG (ladG st 3 n 2 n) as))) D (ladG st 3 n 2 n) as := (hat.keepS (Fr.new (S := Non) (Fr.refl _) nD) fun _ _ => id).eld upd_same
      have hN10 := keepU (u := .dK (kvG (ladG st 3 n 2 n) as)) hN9 nD
      have f010 : Fr Non H (upd H9 D (.dK (kvG (ladG st 3 n 2 n) as))) := Fr.new (f08.trans f9) nD
      have w10 : Well (upd H9 D (.dK (kvG (ladG st 3 n 2 n) as))) G := ((w6.fr f7 id).fr f9 id).new nD
      have nDG : D ≠ G := Well.ne ((w6.fr f7 id).fr f9 id) nD
      generalize upd H9 D (.dK (kvG (ladG st 3 n 2 n) as)) = H10 at heD hN10 f010 w10 ⊢
      walk_at "rd"
      rw [hll]
      refine ⟨G, _, rfl, rfl, by omega, (PullOk.small (by omega) (by omega)).2, w10, fun at' H11 f11' w11 t0 t1 => ?_⟩
      have f011 : Fr Non H H11 := f010.sub' f11' fun b h => by subst h; exact .inr nG
      have heD11 : EldAt H11 D (ladG st 3 n 2 n) as := ⟨heD.len, f11'.keep _ _ heD.dk (not_One nDG), fun p hp => f11'.keep _ _ (heD.ls p hp) (not_One (hasG _ (List.of_mem_zip hp).2))⟩
      have hN11 := f11'.keep _ _ hN10 (not_One (Well.ne w6 nN))
      have a1 : atI ((numsL st 3 n).map V.int) (-1) = some (.int (st + 3 * ((n - 1 : Nat) : Int))) := atI_back (k := 1) (by decide) (by omega) (by rw [hll, List.getElem?_map, numsL_get (by omega)]; rfl)
      have a2 : atI ((numsL st 3 n).map V.int) (-2) = some (.int (st + 3 * ((n - 2 : Nat) : Int))) := atI_back (k := 2) (by decide) (by omega) (by rw [hll, List.getElem?_map, numsL_get (by omega)]; rfl)
      have hkey : ∀ i, i < n → st + 3 * (i : Int) ∈ keysG (ladG st 3 n 2 n) := fun i hi => by rw [ladG_keys]; exact numsL_mem.mpr ⟨i, hi, rfl⟩
      have hlast : ∀ i, i < n → Rch (ladG st 3 n 2 n) (st + 3 * ((n - 1 : Nat) : Int)) (st + 3 * (i : Int)) := fun i hi => (lad_rch hz (by decide) (by omega) _).mpr (numsL_mem.mpr ⟨i, by omega, rfl⟩)
      obtain ⟨i, hi⟩ : ∃ i : Nat, at' = (i : Int) := ⟨at'.toNat, by omega⟩
      subst hi
      have aii : atI ((numsL st 3 n).map V.int) (i : Int) = some (.int (st + 3 * (i : Int))) := atI_nat (by rw [List.getElem?_map, numsL_get (by omega)]; rfl)
      walk_at "rd"
      refine ⟨D, _, as, _, _, rfl, rfl, rfl, heD11, ok, hkey _ (by omega), hkey _ (by omega), fun ms p12 H12 up12 hm12 hl12 f12 np12 hp12 => ?_⟩
      have e12 : ms = [st + 3 * ((n - 2 : Nat) : Int)] := up_ext up12 (List.pairwise_singleton _ _) fun k => (hm12 k).trans (base_comm.trans ((base_one ok lt (hkey _ (by omega)) (hlast _ (by omega)) k).trans List.mem_singleton.symm))
      subst e12
      have hN12 := f12.keep _ _ hN11 id
      walk_at "rd"
      intro c nc
      have f13 : Fr Non H12 (upd H12 c (.lst [.int (st + 3 * ((n - 2 : Nat) : Int))])) := Fr.new (Fr.refl _) nc
      have hc13 : upd H12 c (.lst [.int (st + 3 * ((n - 2 : Nat) : Int))]) c = some (.lst ([st + 3 * ((n - 2 : Nat) : Int)].map V.int)) := upd_same
      generalize upd H12 c (.lst [.int (st + 3 * ((n - 2 : Nat) : Int))]) = H13 at f13 hc13 ⊢
      walk_at "rd"
      refine ⟨p12, c, _, rfl, rfl, f13.keep _ _ hp12 id, hc13, fun H14 f14 => ?_⟩
      have f1114 := (f12.trans f13).trans f14
      have hN14 := f1114.keep _ _ hN11 id
      walk_at "rd"
      refine ⟨D, _, as, _, _, rfl, rfl, rfl, heD11.keep f1114, ok, hkey _ (by omega), hkey _ (by omega), fun ms p15 H15 up15 hm15 hl15 f15 np15 hp15 => ?_⟩
      have e15 : ms = [st + 3 * (i : Int)] := up_ext up15 (List.pairwise_singleton _ _) fun k => (hm15 k).trans ((base_one ok lt (hkey _ (by omega)) (hlast _ (by omega)) k).trans List.mem_singleton.symm)
      subst e15
      have hN15 := f15.keep _ _ hN14 id
      walk_at "rd"
      intro c2 nc2
      refine x_eqLI (ns := [st + 3 * (i : Int)]) (ms := [st + 3 * (i : Int)]) (keepU hp15 nc2) upd_same ?_
      rw [decide_eq_true rfl]
      exact q _ ((f011.trans f1114).trans (Fr.new f15 nc2))
end

-- the def top 8
theorem sc_law_behind : FnScope ["_law_rows", "_law_number", "_law_elders_here", "_law_found", "_law_wait", "_law_one"] ["_law_rows", "_law_number"] (defScope s_law_behind) := ⟨rfl, rfl, rfl, by decide +kernel, rfl, by decide +kernel, by decide +kernel⟩
def B_law_behind (K : PySem.W.Frag) : BK2 := fun x y H Q _ => ∃ (r : Addr) (gs : Gr) (ts as : List Addr) (n : Int), x = .ref r ∧ y = .int n ∧ RowsAt H r gs ts as ∧ GrOk gs ∧ n ∈ keysG gs ∧
  ∀ ns p H', upI2 ns → (∀ k, k ∈ ns ↔ Rch gs n k) → ns.length ≤ 60 → Fr Non H H' → Fresh H p → H' p = some (.lst (ns.map V.int)) → Q (.ref p) H'
section
variable {P : Program} {w : World} {K : PySem.W.Frag} {mg : Str → Option Value} {base : Heap}
theorem ok_law_behind (T : TX K mg) : CalX P w K mg base 1 "_law_behind" ["_law_rows", "_law_number"] (Sp2 (B_law_behind K)) := by
  obtain ⟨f, fd, F, hm, bd⟩ := T.d_law_behind.ex
  refine ⟨f, fd, F.okX sc_law_behind len2 (fun cdv A outer s H vs Q E hr h => ?_), hm, F.kp, bd⟩
  obtain ⟨x, y, rfl, h⟩ := h
  refine ⟨_, (pss_cons (ps_set (i := 2) sc_law_behind.nd rfl (Or.inl rfl) (pe_callTy (c_dictP rfl) (by rfl) T.b_dict (by decide +kernel) (pa_cons (pv 0) pa_nil))) (pss_cons (ps_set (i := 3) sc_law_behind.nd rfl (Or.inl rfl) (pe_lst pa_nil)) (pss_cons (ps_set (i := 4) sc_law_behind.nd rfl (Or.inl rfl) (pe_lst (pa_cons (pv 1) pa_nil))) (pss_cons (ps_while (passes_of rfl) (pt_cmpR (op_neD hr.units) (pv 4) (pe_lst pa_nil) (nomark _)) (pss_cons (ps_set (i := 5) sc_law_behind.nd rfl (Or.inl rfl) (pe_bm0 PySem.F.plainAttrs_list PySem.F.slot_list_pop PySem.F.type_list_pop mt_pop (pv 4))) (pss_one (ps_if (pt_cmpR (op_notInD (u65 hr)) (pv 5) (pv 3) rfl) (pss_cons (ps_expr (pe_bm PySem.F.plainAttrs_list PySem.F.slot_list_append PySem.F.type_list_append mt_append (pv 3) (pa_cons (pv 5) pa_nil))) (pss_one (ps_set (i := 4) sc_law_behind.nd rfl (Or.inl rfl) (pe_op op_cat (pv 4) (pe_dget (hu_of hr) (pv 2) (pv 5) (fun _ _ => rfl)))))) pss_nil)))) (pss_one (ps_ret (pe_callB cr_sortedI (by rfl) T.b_sorted (by decide +kernel) (pa_cons (pv 3) pa_nil)))))))), ?_⟩
  show (_ : TS) _ [some x, some y, none, none, none, none] H
  first | dsimp only [L2.cxOf] | skip
  obtain ⟨r, gs, ts, as, n, rfl, rfl, hr1, ok, hn, q⟩ := h
  walk_at "rd"
  refine ⟨r, ts, kvG gs as, rfl, SqL.of hr1.ls, Paired.imp (fun u kv e => SqT.of e) (kvG_paired hr1.lt hr1.la fun i g t a h1 h2 h3 => (hr1.at_ i g t a h1 h2 h3).1), fun e ne => ?_⟩
  rw [merge_kvG hr1.la ok.nd]
  have he : EldAt (upd H e (.dK (kvG gs as))) e gs as := by
    refine ⟨hr1.la, upd_same, fun p hp => keepU ?_ ne⟩
    obtain ⟨i, hi, rfl⟩ := List.getElem_of_mem hp
    rw [List.length_zip] at hi
    have h1 : gs[i]? = some gs[i] := List.getElem?_eq_getElem (by omega)
    have h2 : as[i]? = some as[i] := List.getElem?_eq_getElem (by omega)
    obtain ⟨t, h3⟩ : ∃ t, ts[i]? = some t := ⟨_, List.getElem?_eq_getElem (by have := hr1.lt; omega)⟩
    rw [List.getElem_zip]
    exact (hr1.at_ i _ _ _ h1 h3 h2).2
  have f1 : Fr Non H (upd H e (.dK (kvG gs as))) := Fr.new (Fr.refl _) ne
  generalize upd H e (.dK (kvG gs as)) = H1 at he f1 ⊢
  walk_at "rd"
  intro L nL
  walk_at "rd"
  intro W0 nW
  have f2 : Fr Non H1 (upd (upd H1 L (.lst [])) W0 (.lst [.int n])) := Fr.new (Fr.new (Fr.refl _) nL) nW
  have hL2 : upd (upd H1 L (.lst [])) W0 (.lst [.int n]) L = some (.lst (([] : List Int).map V.int)) := keepU upd_same nW
  have hW2 : upd (upd H1 L (.lst [])) W0 (.lst [.int n]) W0 = some (.lst ([n].map V.int)) := upd_same
  have hne0 : W0 ≠ L := Ne.symm (ne_fr (H := upd H1 L (.lst [])) upd_same nW)
  have nW1 : Fresh H1 W0 := upd_back nW
  generalize upd (upd H1 L (.lst [])) W0 (.lst [.int n]) = H2 at f2 hL2 hW2 ⊢
  walk_at "rd"
  have hgl := ok.len
  have hc0 : costG gs [] ≤ 60 * 61 := Nat.le_trans (cost_le (n := 60) fun g hg => Nat.le_trans (ok.few (ok.ndl g hg) (ok.sub g hg)) hgl) (Nat.mul_le_mul_right _ hgl)
  refine x_while (W := fun mm σ H' => Fr Non H1 H' ∧ ∃ (fs ws : List Int) (Wa : Addr) (v5 : Option V), mm = ws.length + costG gs fs ∧ mm ≤ 4000 ∧ fs.Nodup ∧ (∀ f ∈ fs, Rch gs n f) ∧ (∀ f ∈ ws, Rch gs n f) ∧ (n ∈ fs ∨ n ∈ ws) ∧ (∀ f ∈ fs, ∀ e ∈ eld gs f, e ∈ fs ∨ e ∈ ws) ∧
    Wa ≠ L ∧ Fresh H1 Wa ∧ H' L = some (.lst (fs.map V.int)) ∧ H' Wa = some (.lst (ws.map V.int)) ∧ σ = [some (.ref r), some (.int n), some (.ref e), some (.ref L), some (.ref Wa), v5]) (1 + costG gs []) ?_ ?_
  · exact ⟨f2, [], [n], W0, none, rfl, by omega, List.nodup_nil, List.forall_mem_nil _, fun f hf => by rw [List.mem_singleton.mp hf]; exact .refl, .inr (List.mem_cons_self ..), List.forall_mem_nil _, hne0, nW1, hL2, hW2, rfl⟩
  · rintro mm σ H3 ⟨f3, fs, ws, Wa, v5, rfl, hmm, hnd, hrf, hrw, h0, hcl, hWL, nWa, hL, hW, rfl⟩
    have hfk : ∀ f ∈ fs, f ∈ keysG gs := fun f hf => (hrf f hf).keys ok hn
    have hfl : fs.length ≤ 60 := Nat.le_trans (ok.few hnd hfk) hgl
    walk_at "rd"
    intro p4 n4
    have f4 : Fr Non H1 (upd H3 p4 (.lst [])) := Fr.new f3 n4
    have hL4 := keepU (u := .lst []) hL n4
    have hW4 := keepU (u := .lst []) hW n4
    have hp4 : upd H3 p4 (.lst []) p4 = some (.lst (([] : List Int).map V.int)) := upd_same
    generalize upd H3 p4 (.lst []) = H4 at f4 hL4 hW4 hp4 ⊢
    refine x_neLI (ns := ws) (ms := []) hW4 hp4 ?_
    walk_at "rd"
    refine x_ndec (fun hws => ?_) (fun hws => ?_)
    · obtain ⟨ws', k, rfl⟩ : ∃ ws' k, ws = ws' ++ [k] := ⟨ws.dropLast, ws.getLast hws, (List.dropLast_concat_getLast hws).symm⟩
      refine ⟨fun σ' H' => ∃ m', m' < (ws' ++ [k]).length + costG gs fs ∧ Fr Non H1 H' ∧ ∃ (fs ws : List Int) (Wa : Addr) (v5 : Option V), m' = ws.length + costG gs fs ∧ m' ≤ 4000 ∧ fs.Nodup ∧ (∀ f ∈ fs, Rch gs n f) ∧ (∀ f ∈ ws, Rch gs n f) ∧ (n ∈ fs ∨ n ∈ ws) ∧ (∀ f ∈ fs, ∀ e ∈ eld gs f, e ∈ fs ∨ e ∈ ws) ∧
        Wa ≠ L ∧ Fresh H1 Wa ∧ H' L = some (.lst (fs.map V.int)) ∧ H' Wa = some (.lst (ws.map V.int)) ∧ σ' = [some (.ref r), some (.int n), some (.ref e), some (.ref L), some (.ref Wa), v5], fun σ' H' h => h, ?_⟩
      have hwl : (ws' ++ [k]).length = ws'.length + 1 := List.length_append
      have hkr : Rch gs n k := hrw k (List.mem_append_right _ (List.mem_singleton.mpr rfl))
      have hkk := hkr.keys ok hn
      walk_at "rd"
      refine ⟨Wa, (ws' ++ [k]).map V.int, .int k, rfl, rfl, hW4, ?_, ?_⟩
      · rw [List.map_append, List.length_append]
        show (ws'.map V.int ++ [V.int k])[(ws'.map V.int).length + 1 - 1]? = _
        rw [Nat.add_sub_cancel, List.getElem?_append_right (Nat.le_refl _), Nat.sub_self]; rfl
      · rw [List.map_append, show [k].map V.int = [V.int k] from rfl, List.dropLast_concat]
        have f5 : Fr Non H1 (upd H4 Wa (.lst (ws'.map V.int))) := Fr.mut f4 hW4 rfl (.inr nWa)
        have hL5 : upd H4 Wa (.lst (ws'.map V.int)) L = some (.lst (fs.map V.int)) := (upd_ne (Ne.symm hWL)).trans hL4
        have hW5 : upd H4 Wa (.lst (ws'.map V.int)) Wa = some (.lst (ws'.map V.int)) := upd_same
        generalize upd H4 Wa (.lst (ws'.map V.int)) = H5 at f5 hL5 hW5 ⊢
        walk_at "rd"
        refine x_notInI hL5 ?_
        walk_at "rd"
        refine x_ndec (fun hkf => ?_) (fun hkf => ?_)
        · have hfl2 : (fs.map V.int).length ≤ 100000 := by rw [List.length_map]; omega
          walk_at "rd"
          have f6 : Fr Non H1 (upd H5 L (.lst (fs.map V.int ++ [.int k]))) := Fr.mut f5 hL5 rfl (.inr nL)
          have hL6 : upd H5 L (.lst (fs.map V.int ++ [.int k])) L = some (.lst ((fs ++ [k]).map V.int)) := by rw [List.map_append]; exact upd_same
          have hW6 : upd H5 L (.lst (fs.map V.int ++ [.int k])) Wa = some (.lst (ws'.map V.int)) := (upd_ne hWL).trans hW5
          generalize upd H5 L (.lst (fs.map V.int ++ [.int k])) = H6 at f6 hL6 hW6 ⊢
          have he6 := he.keep f6
          obtain ⟨a, dg, ha⟩ := he6.get hkk
          have hel := ok.eld hkk
          have helen : (eld gs k).length ≤ 60 := Nat.le_trans (ok.few hel.2 hel.1) hgl
          have hcost := cost_new ok.nd hkk hkf
          have hsz : (ws'.map V.int).length + ((eld gs k).map V.int).length ≤ 100000 := by rw [List.length_map, List.length_map]; omega
          refine ⟨e, _, rfl, dg, ?_⟩
          walk_at "rd"
          intro Wb nWb
          rw [← List.map_append]
          refine ⟨(ws' ++ eld gs k).length + costG gs (fs ++ [k]), by rw [List.length_append]; omega, Fr.new f6 nWb, fs ++ [k], ws' ++ eld gs k, Wb, _, rfl, by rw [List.length_append]; omega, ?_, ?_, ?_, ?_, ?_, Ne.symm (ne_fr hL6 nWb), f6.free nWb, keepU hL6 nWb, upd_same, rfl⟩
          · rw [List.nodup_append]
            refine ⟨hnd, List.nodup_cons.mpr ⟨(fun h => nomatch h), List.nodup_nil⟩, fun x hx y hy => ?_⟩
            rw [List.mem_singleton.mp hy]
            rintro rfl
            exact hkf hx
          · intro f hf
            rcases List.mem_append.mp hf with hf | hf
            · exact hrf f hf
            · rw [List.mem_singleton.mp hf]; exact hkr
          · intro f hf
            rcases List.mem_append.mp hf with hf | hf
            · exact hrw f (List.mem_append_left _ hf)
            · exact .step hkr hf
          · rcases h0 with h0 | h0
            · exact .inl (List.mem_append_left _ h0)
            · rcases List.mem_append.mp h0 with h0 | h0
              · exact .inr (List.mem_append_left _ h0)
              · exact .inl (List.mem_append_right _ h0)
          · intro f hf e' he'
            rcases List.mem_append.mp hf with hf | hf
            · rcases hcl f hf e' he' with h | h
              · exact .inl (List.mem_append_left _ h)
              · rcases List.mem_append.mp h with h | h
                · exact .inr (List.mem_append_left _ h)
                · exact .inl (List.mem_append_right _ h)
            · rw [List.mem_singleton.mp hf] at he'
              exact .inr (List.mem_append_right _ he')
        · walk_at "rd"
          refine ⟨ws'.length + costG gs fs, by omega, f5, fs, ws', Wa, _, rfl, by omega, hnd, hrf, fun f hf => hrw f (List.mem_append_left _ hf), ?_, ?_, hWL, nWa, hL5, hW5, rfl⟩
          · rcases h0 with h0 | h0
            · exact .inl h0
            · rcases List.mem_append.mp h0 with h0 | h0
              · exact .inr h0
              · rw [List.mem_singleton.mp h0]; exact .inl hkf
          · intro f hf e' he'
            rcases hcl f hf e' he' with h | h
            · exact .inl h
            · rcases List.mem_append.mp h with h | h
              · exact .inr h
              · rw [List.mem_singleton.mp h]; exact .inl hkf
    · subst hws
      have hall := rch_closed (gs := gs) (h0.resolve_right (fun h => nomatch h)) hrf fun f hf e' he' => (hcl f hf e' he').resolve_right (fun h => nomatch h)
      walk_at "rd"
      refine ⟨L, fs, rfl, SqL.of hL4, fun ns p5 hp hs np5 => ?_⟩
      exact q ns p5 _ (up_of_le hs (hp.nodup_iff.mpr hnd)) (fun k => hp.mem_iff.trans (hall k)) (by rw [hp.length_eq]; exact hfl) (Fr.new (f1.trans f4) np5) ((f1.trans f4).free np5) upd_same
end

-- the def top 12
theorem sc_law_right : FnScope ["_law_below", "_law_one", "_law_other", "_law_found", "_law_both", "_law_due", "_law_number", "_law_reached", "_law_above", "_law_more"] ["_law_below", "_law_one", "_law_other", "_law_found"] (defScope s_law_right) := ⟨rfl, rfl, rfl, by decide +kernel, rfl, by decide +kernel, by decide +kernel⟩
def B_law_right (K : PySem.W.Frag) : BK4 := fun x y z f H Q _ => ∃ (b : Addr) (gs bs : Gr) (as : List Addr) (n m : Int) (fa : Addr) (fs : List Int), x = .ref b ∧ y = .int n ∧ z = .int m ∧ f = .ref fa ∧ EldAt H b bs as ∧ BelOk gs bs ∧ GrOk gs ∧ GrLt gs ∧ n ∈ keysG gs ∧ m ∈ keysG gs ∧
  H fa = some (.lst (fs.map V.int)) ∧ upI2 fs ∧ (∀ k, k ∈ fs ↔ BaseOf gs n m k) ∧ fs.length ≤ 60 ∧ ∀ H', Fr Non H H' → Q (.bl true) H'
section
variable {P : Program} {w : World} {K : PySem.W.Frag} {mg : Str → Option Value} {base : Heap}
theorem ok_law_right (T : TX K mg) : CalX P w K mg base 3 "_law_right" ["_law_below", "_law_one", "_law_other", "_law_found"] (Sp4 (B_law_right K)) := by
  have C_law_list := ok_law_list (P := P) (w := w) (base := base) T
  obtain ⟨f, fd, F, hm, bd⟩ := T.d_law_right.ex
  refine ⟨f, fd, F.okX sc_law_right len4 (fun cdv A outer s H vs Q E hr h => ?_), hm, F.kp, bd⟩
  obtain ⟨x, y, z, f, rfl, h⟩ := h
  refine ⟨_, (pss_cons (ps_setLc (i := 4) (own := [("_law_number", 6)]) (g := gName 6)  rfl sc_law_right.nd rfl rfl (sw_true rfl rfl rfl (by decide +kernel)) (pi_list (pe_dget (hu_of hr) (pv 0) (pv 1) (fun _ _ => rfl))) (blkOk_by (N := ["_law_below", "_law_one", "_law_other", "_law_found", "_law_both", "_law_due", "_law_number", "_law_reached", "_law_above", "_law_more"]) (sc := defScope s_law_right) (own := [("_law_number", 6)]) (by decide +kernel)) (fun _ _ _ _ _ => pg_name (i := 6) sc_law_right.nd rfl (by first | exact Or.inl rfl | exact Or.inr rfl)) (fun _ _ _ _ _ => (pts_one (pt_cmpR (r := rInD K) (op_inD (u65 hr)) (pv 6) (pe_dget (hu_of hr) (pv 0) (pv 2) (fun _ _ => rfl)) rfl))) (fun _ _ _ _ _ => (pv 6))) (pss_cons (ps_set (i := 5) sc_law_right.nd rfl (Or.inl rfl) (pe_lst pa_nil)) (pss_cons (ps_for (passes_of rfl) rfl (pi_list (pv 4)) (pg_name (i := 6) sc_law_right.nd rfl (Or.inr rfl)) (pss_cons (ps_setLc (i := 8) (own := [("_law_more", 9)]) (g := gName 9)  rfl sc_law_right.nd rfl rfl (sw_true rfl rfl rfl (by decide +kernel)) (pi_list (pv 4)) (blkOk_by (N := ["_law_below", "_law_one", "_law_other", "_law_found", "_law_both", "_law_due", "_law_number", "_law_reached", "_law_above", "_law_more"]) (sc := defScope s_law_right) (own := [("_law_more", 9)]) (by decide +kernel)) (fun _ _ _ _ _ => pg_name (i := 9) sc_law_right.nd rfl (by first | exact Or.inl rfl | exact Or.inr rfl)) (fun _ _ _ _ _ => (pts_one (PW.pt (pw_and (pt_cmpR op_ne (pv 9) (pv 6) (nomark _)) (pw_and1 (pt_cmpR (r := rInD K) (op_inD (u65 hr)) (pv 6) (pe_dget (hu_of hr) (pv 0) (pv 9) (fun _ _ => rfl)) rfl)))))) (fun _ _ _ _ _ => (pv 9))) (pss_one (ps_if (pt_cmpR (op_eqD hr.units) (pv 8) (pe_lst pa_nil) (nomark _)) (pss_one (ps_expr (pe_bm PySem.F.plainAttrs_list PySem.F.slot_list_append PySem.F.type_list_append mt_append (pv 5) (pa_cons (pv 6) pa_nil)))) pss_nil)))) (pss_cons (ps_if (pt_not (pt_val (pcall C_law_list hr (by first | decide | omega) rfl Passes.none (pa_cons (pv 3) (pa_cons (pv 5) pa_nil))))) (pss_one (ps_ret pe_bl)) pss_nil) (pss_cons (ps_if (PW.pt (pw_and (pt_cmpR (op_inD (u65 hr)) (pv 1) (pe_dget (hu_of hr) (pv 0) (pv 2) (fun _ _ => rfl)) rfl) (pw_and1 (pt_cmpR (op_neD hr.units) (pv 3) (pe_lst (pa_cons (pv 1) pa_nil)) (nomark _))))) (pss_one (ps_ret pe_bl)) pss_nil) (pss_cons (ps_set (i := 7) sc_law_right.nd rfl (Or.inr rfl) (pe_lst pa_nil)) (pss_cons (ps_for (passes_of rfl) rfl (pi_list (pv 3)) (pg_name (i := 6) sc_law_right.nd rfl (Or.inr rfl)) (pss_one (ps_set (i := 7) sc_law_right.nd rfl (Or.inr rfl) (pe_op op_cat (pv 7) (pe_dget (hu_of hr) (pv 0) (pv 6) (fun _ _ => rfl)))))) (pss_one (ps_ret (pe_cmpR (op_eqD hr.units) (pe_lc (own := [("_law_number", 6)]) (g := gName 6)  rfl sc_law_right.nd (pi_list (pv 4)) (blkOk_by (N := ["_law_below", "_law_one", "_law_other", "_law_found", "_law_both", "_law_due", "_law_number", "_law_reached", "_law_above", "_law_more"]) (sc := defScope s_law_right) (own := [("_law_number", 6)]) (by decide +kernel)) (fun _ _ _ _ _ => pg_name (i := 6) sc_law_right.nd rfl (by first | exact Or.inl rfl | exact Or.inr rfl)) (fun _ _ _ _ _ => (pts_one (pt_cmpR (r := rNotInD K) (op_notInD (u65 hr)) (pv 6) (pv 7) rfl))) (fun _ _ _ _ _ => (pv 6))) (pe_lst pa_nil) (nomark _))))))))))), ?_⟩
  show (_ : TS) _ [some x, some y, some z, some f, none, none, none, none, none, none] H
  first | dsimp only [L2.cxOf] | skip
  obtain ⟨b, gs, bs, as, n, m, fa, fs, rfl, rfl, rfl, rfl, hb, bok, ok, lt, hn, hm, hfa, upf, hmf, hfl, q⟩ := h
  have hnb : n ∈ keysG bs := by rw [bok.ks]; exact hn
  have hmb : m ∈ keysG bs := by rw [bok.ks]; exact hm
  obtain ⟨an, dn, han⟩ := hb.get hnb
  have ln := bok.few ok hn
  walk_at "rd"
  refine ⟨b, _, rfl, dn, ?_⟩
  refine x_iRef (C := fun a => ∃ xs, SqL K H a xs) ⟨_, SqL.of han⟩ ?_
  intro P nP
  refine x_lcL ((eld bs n).map V.int) (fun i H' => Fr Non H H' ∧ H' P = some (.lst ((((eld bs n).take i).filter fun z => decide (z ∈ eld bs m)).map V.int))) ⟨Fr.new (Fr.refl _) nP, upd_same⟩ (fun i H' _ ⟨g, _⟩ => SqL.of (g.keep _ _ han id)) ?_ ?_
  · rintro i x H2 hx ⟨f2, hP⟩
    rw [List.getElem?_map] at hx
    obtain ⟨z, hz, rfl⟩ := Option.map_eq_some_iff.mp hx
    obtain ⟨am, dm, ham⟩ := (hb.keep f2).get hmb
    have htk : (eld bs n).take (i + 1) = (eld bs n).take i ++ [z] := by rw [List.take_succ, hz]; rfl
    have hsz : ((((eld bs n).take i).filter fun z => decide (z ∈ eld bs m)).map V.int).length ≤ 100000 := by
      rw [List.length_map]
      exact Nat.le_trans (List.length_filter_le _ _) (by rw [List.length_take]; omega)
    walk_at "rd"
    refine ⟨b, _, rfl, dm, ?_⟩
    walk_at "rd"
    refine x_inI ham ?_
    walk_at "rd"
    refine x_dec (fun hz1 => ?_) (fun hz1 => ?_)
    · walk_at "rd"
      refine ⟨Fr.mut f2 hP rfl (.inr nP), ?_⟩
      rw [htk, List.filter_append, List.map_append, filter_yes (p := fun z => decide (z ∈ eld bs m)) (decide_eq_true hz1)]
      exact upd_same
    · refine ⟨f2, ?_⟩
      rw [htk, List.filter_append, filter_no (p := fun z => decide (z ∈ eld bs m)) (decide_eq_false hz1), List.append_nil]
      exact hP
  · rintro H2 ⟨f2, hP⟩
    rw [List.take_of_length_le (by rw [List.length_map]; exact Nat.le_refl _)] at hP
    obtain ⟨both, eboth⟩ : ∃ both, both = (eld bs n).filter fun z => decide (z ∈ eld bs m) := ⟨_, rfl⟩
    rw [← eboth] at hP
    have hbm : ∀ j, j ∈ both ↔ Rch gs n j ∧ Rch gs m j := fun j => by
      rw [eboth, List.mem_filter, decide_eq_true_iff, bok.mem n hn, bok.mem m hm]
    have upb : upI2 both := by rw [eboth]; exact List.Pairwise.sublist List.filter_sublist (bok.up n hn)
    have hbl : both.length ≤ 60 := by rw [eboth]; exact Nat.le_trans (List.length_filter_le _ _) ln
    have hbk : ∀ j ∈ both, j ∈ keysG gs := fun j hj => ((hbm j).mp hj).1.keys ok hn
    clear eboth
    walk_at "rd"
    intro D nD
    have f3 : Fr Non H (upd H2 D (.lst [])) := Fr.new f2 nD
    have hP3 := keepU (u := .lst []) hP nD
    have hD3 : upd H2 D (.lst []) D = some (.lst (([] : List Int).map V.int)) := upd_same
    have nDH : Fresh H D := f2.free nD
    have hPD : P ≠ D := ne_fr hP nD
    generalize upd H2 D (.lst []) = H3 at f3 hP3 hD3 ⊢
    walk_at "rd"
    refine x_iRef (C := fun a => ∃ xs, SqL K H3 a xs) ⟨_, SqL.of hP3⟩ ?_
    refine x_forL (both.map V.int) (fun i σ H' => ∃ (v6 v7 v8 v9 : Option V) (ds : List Int), σ = [some (.ref b), some (.int n), some (.int m), some (.ref fa), some (.ref P), some (.ref D), v6, v7, v8, v9] ∧ Fr Non H H' ∧ H' P = some (.lst (both.map V.int)) ∧ H' D = some (.lst (ds.map V.int)) ∧ ds.Sublist (both.take i) ∧
      ∀ k, k ∈ ds ↔ k ∈ both.take i ∧ ∀ j ∈ both, j ≠ k → ¬ Rch gs j k) ⟨_, _, _, _, [], rfl, f3, hP3, hD3, List.Sublist.slnil, fun k => ⟨fun h => (by cases h), fun ⟨h, _⟩ => (by cases h)⟩⟩ (fun i σ H' _ ⟨_, _, _, _, _, _, _, h, _⟩ => SqL.of h) ?_ ?_
    · rintro i x σ H4 hx ⟨v6, v7, v8, v9, ds, rfl, f4, hP4, hD4, hsub, hds⟩
      rw [List.getElem?_map] at hx
      obtain ⟨k, hk, rfl⟩ := Option.map_eq_some_iff.mp hx
      have hkb := List.mem_of_getElem? hk
      have hik := (List.getElem?_eq_some_iff.mp hk).1
      have htk : both.take (i + 1) = both.take i ++ [k] := by rw [List.take_succ, hk]; rfl
      walk_at "rd"
      refine x_iRef (C := fun a => ∃ xs, SqL K H4 a xs) ⟨_, SqL.of hP4⟩ ?_
      intro A nA
      refine x_lcL (both.map V.int) (fun l H' => Fr Non H4 H' ∧ H' A = some (.lst (((both.take l).filter fun j => !decide (j = k) && decide (k ∈ eld bs j)).map V.int))) ⟨Fr.new (Fr.refl _) nA, upd_same⟩ (fun l H' _ ⟨g, _⟩ => SqL.of (g.keep _ _ hP4 id)) ?_ ?_
      · rintro l x H5 hx ⟨f5, hA⟩
        rw [List.getElem?_map] at hx
        obtain ⟨j, hj, rfl⟩ := Option.map_eq_some_iff.mp hx
        have hjb : j ∈ keysG bs := by rw [bok.ks]; exact hbk j (List.mem_of_getElem? hj)
        obtain ⟨aj, dj, haj⟩ := (hb.keep (f4.trans f5)).get hjb
        have htk2 : both.take (l + 1) = both.take l ++ [j] := by rw [List.take_succ, hj]; rfl
        have hsz : (((both.take l).filter fun j => !decide (j = k) && decide (k ∈ eld bs j)).map V.int).length ≤ 100000 := by
          rw [List.length_map]
          exact Nat.le_trans (List.length_filter_le _ _) (by rw [List.length_take]; omega)
        have no : (!decide (j = k) && decide (k ∈ eld bs j)) = false → Fr Non H4 H5 ∧ H5 A = some (.lst (((both.take (l + 1)).filter fun j => !decide (j = k) && decide (k ∈ eld bs j)).map V.int)) := fun e => by
          rw [htk2, List.filter_append, filter_no (p := fun j => !decide (j = k) && decide (k ∈ eld bs j)) e, List.append_nil]
          exact ⟨f5, hA⟩
        walk_at "rd"
        refine x_ndec (fun c1 => ?_) (fun c1 => ?_)
        · walk_at "rd"
          refine ⟨b, _, rfl, dj, ?_⟩
          walk_at "rd"
          refine x_inI haj ?_
          walk_at "rd"
          refine x_dec (fun c2 => ?_) (fun c2 => ?_)
          · walk_at "rd"
            refine ⟨Fr.mut f5 hA rfl (.inr nA), ?_⟩
            rw [htk2, List.filter_append, List.map_append, filter_yes (p := fun j => !decide (j = k) && decide (k ∈ eld bs j)) (by rw [decide_eq_false c1, decide_eq_true c2]; rfl)]
            exact upd_same
          · exact no (by rw [decide_eq_false c2, Bool.and_false])
        · exact no (by rw [decide_eq_true c1]; rfl)
      · rintro H5 ⟨f5, hA⟩
        rw [List.take_of_length_le (by rw [List.length_map]; exact Nat.le_refl _)] at hA
        obtain ⟨ab, eab⟩ : ∃ ab, ab = both.filter fun j => !decide (j = k) && decide (k ∈ eld bs j) := ⟨_, rfl⟩
        rw [← eab] at hA
        have hP5 := f5.keep _ _ hP4 id
        have hD5 := f5.keep _ _ hD4 id
        have habs : ab = [] ↔ ∀ j ∈ both, j ≠ k → ¬ Rch gs j k := by
          rw [eab, List.filter_eq_nil_iff]
          constructor
          · intro h j hj hne hr
            refine h j hj ?_
            rw [decide_eq_false hne, decide_eq_true ((bok.mem j (hbk j hj) k).mpr hr)]; rfl
          · intro h j hj e
            rw [Bool.and_eq_true] at e
            have e1 : j ≠ k := fun z => by rw [decide_eq_true z] at e; exact absurd e.1 (by decide)
            exact h j hj e1 ((bok.mem j (hbk j hj) k).mp (of_decide_eq_true e.2))
        walk_at "rd"
        intro p6 n6
        have f6 : Fr Non H (upd H5 p6 (.lst [])) := Fr.new (f4.trans f5) n6
        have hA6 := keepU (u := .lst []) hA n6
        have hP6 := keepU (u := .lst []) hP5 n6
        have hD6 := keepU (u := .lst []) hD5 n6
        refine x_eqLI (ns := ab) (ms := []) hA6 upd_same ?_
        generalize upd H5 p6 (.lst []) = H6 at f6 hA6 hP6 hD6 ⊢
        walk_at "rd"
        have hdl : ds.length ≤ 60 := Nat.le_trans hsub.length_le (by rw [List.length_take]; omega)
        refine x_dec (fun c1 => ?_) (fun c1 => ?_)
        · have hsz : (ds.map V.int).length ≤ 100000 := by rw [List.length_map]; omega
          walk_at "rd"
          refine ⟨_, _, _, _, ds ++ [k], rfl, Fr.mut f6 hD6 rfl (.inr nDH), (upd_ne hPD).trans hP6, by rw [List.map_append]; exact upd_same, by rw [htk]; exact hsub.append (List.Sublist.refl _), fun k' => ?_⟩
          rw [List.mem_append, hds, htk, List.mem_append, List.mem_singleton]
          constructor
          · rintro (⟨h1, h2⟩ | rfl)
            · exact ⟨.inl h1, h2⟩
            · exact ⟨.inr rfl, habs.mp c1⟩
          · rintro ⟨h1 | rfl, h2⟩
            · exact .inl ⟨h1, h2⟩
            · exact .inr rfl
        · refine ⟨_, _, _, _, ds, rfl, f6, hP6, hD6, by rw [htk]; exact hsub.trans (List.sublist_append_left _ _), fun k' => ?_⟩
          rw [hds, htk, List.mem_append, List.mem_singleton]
          constructor
          · rintro ⟨h1, h2⟩
            exact ⟨.inl h1, h2⟩
          · rintro ⟨h1 | rfl, h2⟩
            · exact ⟨h1, h2⟩
            · exact absurd (habs.mpr h2) c1
    · rintro σ H4 ⟨v6, v7, v8, v9, ds, rfl, f4, hP4, hD4, hsub, hds⟩
      rw [List.take_of_length_le (by rw [List.length_map]; exact Nat.le_refl _)] at hds hsub
      have eds : ds = fs := up_ext (List.Pairwise.sublist hsub upb) upf fun k => by
        rw [hds, hmf, hbm]
        exact ⟨fun ⟨h1, h2⟩ => ⟨h1, fun j a b c => h2 j ((hbm j).mpr ⟨a, b⟩) c⟩, fun ⟨h1, h2⟩ => ⟨h1, fun j a c => h2 j ((hbm j).mp a).1 ((hbm j).mp a).2 c⟩⟩
      subst eds
      walk_at "rd"
      refine ⟨fa, D, ds, rfl, rfl, f4.keep _ _ hfa id, hD4, fun H5 f5 => ?_⟩
      have f05 := f4.trans f5
      have hP5 := f5.keep _ _ hP4 id
      have hfa5 := f05.keep _ _ hfa id
      obtain ⟨am, dm, ham⟩ := (hb.keep f05).get hmb
      walk_at "rd"
      refine ⟨b, _, rfl, dm, ?_⟩
      walk_at "rd"
      refine x_inI ham ?_
      walk_at "rd"
      refine x_dec (fun hin0 => ?_) (fun hin0 => ?_)
      · have e1 : ds = [n] := up_ext upf (List.pairwise_singleton _ _) fun k => (hmf k).trans ((base_one ok lt hn ((bok.mem m hm n).mp hin0) k).trans List.mem_singleton.symm)
        walk_at "rd"
        intro p6 n6
        have f06 : Fr Non H (upd H5 p6 (.lst [.int n])) := Fr.new f05 n6
        have hfa6 := keepU (u := .lst [.int n]) hfa5 n6
        have hP6 := keepU (u := .lst [.int n]) hP5 n6
        refine x_neLI (ns := ds) (ms := [n]) hfa6 upd_same ?_
        rw [decide_eq_true e1]
        generalize upd H5 p6 (.lst [.int n]) = H6 at f06 hfa6 hP6 ⊢
        clear e1
        walk_at "rd"
        intro R0 nR0
        have g0 : Fr Non H (upd H6 R0 (.lst [])) := Fr.new f06 nR0
        have hP0 := keepU (u := .lst []) hP6 nR0
        have hfa0 := keepU (u := .lst []) hfa6 nR0
        have hR0 : upd H6 R0 (.lst []) R0 = some (.lst (([] : List Int).map V.int)) := upd_same
        generalize upd H6 R0 (.lst []) = H7 at g0 hP0 hfa0 hR0 ⊢
        walk_at "rd"
        refine x_iRef (C := fun a => ∃ xs, SqL K H7 a xs) ⟨_, SqL.of hfa0⟩ ?_
        refine x_forL (ds.map V.int) (fun i σ H' => ∃ (u6 : Option V) (Ra : Addr) (rs : List Int), σ = [some (.ref b), some (.int n), some (.int m), some (.ref fa), some (.ref P), some (.ref D), u6, some (.ref Ra), v8, v9] ∧ Fr Non H7 H' ∧ H' Ra = some (.lst (rs.map V.int)) ∧ rs.length ≤ 60 * i ∧ ∀ k, k ∈ rs ↔ ∃ j ∈ ds.take i, Rch gs j k) ⟨_, R0, [], rfl, Fr.refl _, hR0, Nat.le_refl _, fun k => ⟨fun h => (by cases h), fun ⟨j, h, _⟩ => (by cases h)⟩⟩ (fun i σ H' _ ⟨_, _, _, _, g, _⟩ => SqL.of (g.keep _ _ hfa0 id)) ?_ ?_
        · rintro i x σ H8 hx ⟨u6, Ra, rs, rfl, f8, hR8, hrl, hrs⟩
          rw [List.getElem?_map] at hx
          obtain ⟨j, hj, rfl⟩ := Option.map_eq_some_iff.mp hx
          have hjf := List.mem_of_getElem? hj
          have hi60 := (List.getElem?_eq_some_iff.mp hj).1
          have hjk : j ∈ keysG gs := ((hmf j).mp hjf).1.1.keys ok hn
          have hjb : j ∈ keysG bs := by rw [bok.ks]; exact hjk
          obtain ⟨aj, dj, haj⟩ := (hb.keep (g0.trans f8)).get hjb
          have hl8 := bok.few ok hjk
          have htk : ds.take (i + 1) = ds.take i ++ [j] := by rw [List.take_succ, hj]; rfl
          have hsz : (rs.map V.int).length + ((eld bs j).map V.int).length ≤ 100000 := by rw [List.length_map, List.length_map]; omega
          walk_at "rd"
          refine ⟨b, _, rfl, dj, ?_⟩
          walk_at "rd"
          intro Rb nRb
          rw [← List.map_append]
          refine ⟨_, Rb, rs ++ eld bs j, rfl, Fr.new f8 nRb, upd_same, by rw [List.length_append]; omega, fun k => ?_⟩
          rw [List.mem_append, hrs, bok.mem j hjk, htk]
          constructor
          · rintro (⟨j', h1, h2⟩ | h)
            · exact ⟨j', List.mem_append_left _ h1, h2⟩
            · exact ⟨j, List.mem_append_right _ (List.mem_singleton.mpr rfl), h⟩
          · rintro ⟨j', h1, h2⟩
            rcases List.mem_append.mp h1 with h1 | h1
            · exact .inl ⟨j', h1, h2⟩
            · rw [List.mem_singleton.mp h1] at h2; exact .inr h2
        · rintro σ H8 ⟨u6, Ra, rs, rfl, f8, hR8, hrl, hrs⟩
          rw [List.take_of_length_le (by rw [List.length_map]; exact Nat.le_refl _)] at hrs
          have hP8 := f8.keep _ _ hP0 id
          have hin : ∀ k ∈ both, k ∈ rs := fun k hk => by
            obtain ⟨j, h1, h2⟩ := base_above ok lt hbm hn (fun j => decide (k ∈ eld bs j)) (fun j hj => decide_eq_true_iff.trans (bok.mem j (hbk j hj) k)) hk
            exact (hrs k).mpr ⟨j, (hmf j).mpr h1, h2⟩
          walk_at "rd"
          refine x_iRef (C := fun a => ∃ xs, SqL K H8 a xs) ⟨_, SqL.of hP8⟩ ?_
          intro C nC
          refine x_lcL (both.map V.int) (fun i H' => Fr Non H8 H' ∧ H' C = some (.lst (([] : List Int).map V.int))) ⟨Fr.new (Fr.refl _) nC, upd_same⟩ (fun i H' _ ⟨g, _⟩ => SqL.of (g.keep _ _ hP8 id)) ?_ ?_
          · rintro i x H9 hx ⟨f9, hC⟩
            rw [List.getElem?_map] at hx
            obtain ⟨k, hk, rfl⟩ := Option.map_eq_some_iff.mp hx
            have hkr := hin k (List.mem_of_getElem? hk)
            walk_at "rd"
            refine x_notInI (f9.keep _ _ hR8 id) ?_
            rw [decide_eq_true hkr]
            walk_at "rd"
            exact ⟨f9, hC⟩
          · rintro H9 ⟨f9, hC⟩
            walk_at "rd"
            intro p9 n9
            refine x_eqLI (ns := []) (ms := []) (keepU hC n9) upd_same ?_
            exact q _ (Fr.new ((g0.trans f8).trans f9) n9)
      · clear hin0
        walk_at "rd"
        intro R0 nR0
        have g0 : Fr Non H (upd H5 R0 (.lst [])) := Fr.new f05 nR0
        have hP0 := keepU (u := .lst []) hP5 nR0
        have hfa0 := keepU (u := .lst []) hfa5 nR0
        have hR0 : upd H5 R0 (.lst []) R0 = some (.lst (([] : List Int).map V.int)) := upd_same
        generalize upd H5 R0 (.lst []) = H7 at g0 hP0 hfa0 hR0 ⊢
        walk_at "rd"
        refine x_iRef (C := fun a => ∃ xs, SqL K H7 a xs) ⟨_, SqL.of hfa0⟩ ?_
        refine x_forL (ds.map V.int) (fun i σ H' => ∃ (u6 : Option V) (Ra : Addr) (rs : List Int), σ = [some (.ref b), some (.int n), some (.int m), some (.ref fa), some (.ref P), some (.ref D), u6, some (.ref Ra), v8, v9] ∧ Fr Non H7 H' ∧ H' Ra = some (.lst (rs.map V.int)) ∧ rs.length ≤ 60 * i ∧ ∀ k, k ∈ rs ↔ ∃ j ∈ ds.take i, Rch gs j k) ⟨_, R0, [], rfl, Fr.refl _, hR0, Nat.le_refl _, fun k => ⟨fun h => (by cases h), fun ⟨j, h, _⟩ => (by cases h)⟩⟩ (fun i σ H' _ ⟨_, _, _, _, g, _⟩ => SqL.of (g.keep _ _ hfa0 id)) ?_ ?_
        · rintro i x σ H8 hx ⟨u6, Ra, rs, rfl, f8, hR8, hrl, hrs⟩
          rw [List.getElem?_map] at hx
          obtain ⟨j, hj, rfl⟩ := Option.map_eq_some_iff.mp hx
          have hjf := List.mem_of_getElem? hj
          have hi60 := (List.getElem?_eq_some_iff.mp hj).1
          have hjk : j ∈ keysG gs := ((hmf j).mp hjf).1.1.keys ok hn
          have hjb : j ∈ keysG bs := by rw [bok.ks]; exact hjk
          obtain ⟨aj, dj, haj⟩ := (hb.keep (g0.trans f8)).get hjb
          have hl8 := bok.few ok hjk
          have htk : ds.take (i + 1) = ds.take i ++ [j] := by rw [List.take_succ, hj]; rfl
          have hsz : (rs.map V.int).length + ((eld bs j).map V.int).length ≤ 100000 := by rw [List.length_map, List.length_map]; omega
          walk_at "rd"
          refine ⟨b, _, rfl, dj, ?_⟩
          walk_at "rd"
          intro Rb nRb
          rw [← List.map_append]
          refine ⟨_, Rb, rs ++ eld bs j, rfl, Fr.new f8 nRb, upd_same, by rw [List.length_append]; omega, fun k => ?_⟩
          rw [List.mem_append, hrs, bok.mem j hjk, htk]
          constructor
          · rintro (⟨j', h1, h2⟩ | h)
            · exact ⟨j', List.mem_append_left _ h1, h2⟩
            · exact ⟨j, List.mem_append_right _ (List.mem_singleton.mpr rfl), h⟩
          · rintro ⟨j', h1, h2⟩
            rcases List.mem_append.mp h1 with h1 | h1
            · exact .inl ⟨j', h1, h2⟩
            · rw [List.mem_singleton.mp h1] at h2; exact .inr h2
        · rintro σ H8 ⟨u6, Ra, rs, rfl, f8, hR8, hrl, hrs⟩
          rw [List.take_of_length_le (by rw [List.length_map]; exact Nat.le_refl _)] at hrs
          have hP8 := f8.keep _ _ hP0 id
          have hin : ∀ k ∈ both, k ∈ rs := fun k hk => by
            obtain ⟨j, h1, h2⟩ := base_above ok lt hbm hn (fun j => decide (k ∈ eld bs j)) (fun j hj => decide_eq_true_iff.trans (bok.mem j (hbk j hj) k)) hk
            exact (hrs k).mpr ⟨j, (hmf j).mpr h1, h2⟩
          walk_at "rd"
          refine x_iRef (C := fun a => ∃ xs, SqL K H8 a xs) ⟨_, SqL.of hP8⟩ ?_
          intro C nC
          refine x_lcL (both.map V.int) (fun i H' => Fr Non H8 H' ∧ H' C = some (.lst (([] : List Int).map V.int))) ⟨Fr.new (Fr.refl _) nC, upd_same⟩ (fun i H' _ ⟨g, _⟩ => SqL.of (g.keep _ _ hP8 id)) ?_ ?_
          · rintro i x H9 hx ⟨f9, hC⟩
            rw [List.getElem?_map] at hx
            obtain ⟨k, hk, rfl⟩ := Option.map_eq_some_iff.mp hx
            have hkr := hin k (List.mem_of_getElem? hk)
            walk_at "rd"
            refine x_notInI (f9.keep _ _ hR8 id) ?_
            rw [decide_eq_true hkr]
            walk_at "rd"
            exact ⟨f9, hC⟩
          · rintro H9 ⟨f9, hC⟩
            walk_at "rd"
            intro p9 n9
            refine x_eqLI (ns := []) (ms := []) (keepU hC n9) upd_same ?_
            exact q _ (Fr.new ((g0.trans f8).trans f9) n9)
end

-- the def top 14
theorem sc_law : FnScope ["_law_script", "_law_rows", "_law_handed", "_law_numbers", "_law_below", "_law_one", "_law_other", "_law_found", "_law_number", "_law_some"] ["_law_script"] (defScope s_law) := ⟨rfl, rfl, rfl, by decide +kernel, rfl, by decide +kernel, by decide +kernel⟩
def B_law (K : PySem.W.Frag) : BK1 := fun s H Q _ => ∃ (a : Addr) (ns : List Int), s = .ref a ∧ SqL K H a (ns.map V.int) ∧ ns.length ≤ 63 ∧ ∀ H', Q (.bl true) H'
section
variable {P : Program} {w : World} {K : PySem.W.Frag} {mg : Str → Option Value} {base : Heap}
theorem ok_law (T : TX K mg) {f : Addr} {fd : FuncData} (F : Fun K "law" "law" s_law f fd) : FnOk P w K mg base (L2.CX P w) 5 f fd ["_law_script"] (Sp1 (B_law K)) := by
  have C_law_elders := ok_law_elders (P := P) (w := w) (base := base) T
  have C_law_copied := ok_law_copied (P := P) (w := w) (base := base) T
  have C_law_climbed := ok_law_climbed (P := P) (w := w) (base := base) T
  have C_bases := ok_bases (P := P) (w := w) (base := base) T
  have C_law_behind := ok_law_behind (P := P) (w := w) (base := base) T
  have C_law_right := ok_law_right (P := P) (w := w) (base := base) T
  refine F.okX sc_law len1 (fun cdv A outer s H vs Q E hr h => ?_)
  obtain ⟨s, rfl, h⟩ := h
  refine ⟨_, (pss_cons (ps_if (pt_not (pt_val (pcall C_law_climbed hr (by first | decide | omega) rfl Passes.none (pa_cons (pv 0) pa_nil)))) (pss_one (ps_ret pe_bl)) pss_nil) (pss_cons (ps_set (i := 1) sc_law.nd rfl (Or.inr rfl) (pcall C_law_elders hr (by first | decide | omega) rfl Passes.none (pa_cons (pv 0) (pa_cons pe_int pa_nil)))) (pss_cons (ps_set (i := 2) sc_law.nd rfl (Or.inl rfl) (pcall C_law_copied hr (by first | decide | omega) rfl Passes.none (pa_cons (pv 1) pa_nil))) (pss_cons (ps_setLc (i := 3) (own := [("_law_number", 8), ("_law_some", 9)]) (g := gTup K 2 (gCons (gName 8) (gCons (gName 9) gNil))) (tt := tYes) rfl sc_law.nd rfl rfl (sw_true rfl rfl rfl (by decide +kernel)) (pi_list (pv 1)) (blkOk_by (N := ["_law_script", "_law_rows", "_law_handed", "_law_numbers", "_law_below", "_law_one", "_law_other", "_law_found", "_law_number", "_law_some"]) (sc := defScope s_law) (own := [("_law_number", 8), ("_law_some", 9)]) (by decide +kernel)) (fun _ _ _ _ _ => pg_tup rfl (pgs_cons (pg_name (i := 8) sc_law.nd rfl (by first | exact Or.inl rfl | exact Or.inr rfl)) (pgs_cons (pg_name (i := 9) sc_law.nd rfl (by first | exact Or.inl rfl | exact Or.inr rfl)) pgs_nil))) (fun _ _ _ _ _ => pts_nil) (fun _ _ _ _ _ => (pv 8))) (pss_cons (ps_set (i := 4) sc_law.nd rfl (Or.inl rfl) (pe_callTy (c_dictP rfl) (by rfl) T.b_dict (by decide +kernel) (pa_cons (pe_lc (own := [("_law_number", 8)]) (g := gName 8) (tt := tYes) rfl sc_law.nd (pi_list (pv 3)) (blkOk_by (N := ["_law_script", "_law_rows", "_law_handed", "_law_numbers", "_law_below", "_law_one", "_law_other", "_law_found", "_law_number", "_law_some"]) (sc := defScope s_law) (own := [("_law_number", 8)]) (by decide +kernel)) (fun _ _ _ _ _ => pg_name (i := 8) sc_law.nd rfl (by first | exact Or.inl rfl | exact Or.inr rfl)) (fun _ _ _ _ _ => pts_nil) (fun _ _ _ _ _ => (pe_tup (pa_cons (pv 8) (pa_cons (pcall C_law_behind hr (by first | decide | omega) rfl Passes.none (pa_cons (pv 1) (pa_cons (pv 8) pa_nil))) pa_nil))))) pa_nil))) (pss_cons (ps_for (passes_of rfl) rfl (pi_list (pv 3)) (pg_name (i := 5) sc_law.nd rfl (Or.inl rfl)) (pss_one (ps_for (passes_of rfl) rfl (pi_list (pv 3)) (pg_name (i := 6) sc_law.nd rfl (Or.inl rfl)) (pss_cons (ps_set (i := 7) sc_law.nd rfl (Or.inl rfl) (pcall C_bases hr (by first | decide | omega) rfl Passes.none (pa_cons (pv 2) (pa_cons (pv 5) (pa_cons (pv 6) pa_nil))))) (pss_cons (ps_if (pt_not (pt_val (pcall C_law_right hr (by first | decide | omega) rfl Passes.none (pa_cons (pv 4) (pa_cons (pv 5) (pa_cons (pv 6) (pa_cons (pv 7) pa_nil))))))) (pss_one (ps_ret pe_bl)) pss_nil) (pss_cons (ps_expr (pe_bm PySem.F.plainAttrs_list PySem.F.slot_list_append PySem.F.type_list_append mt_append (pv 7) (pa_cons (pe_un un_neg pe_int) pa_nil))) (pss_one (ps_if (PW.pt (pw_or (pt_cmpR (op_neD hr.units) (pcall C_bases hr (by first | decide | omega) rfl Passes.none (pa_cons (pv 2) (pa_cons (pv 6) (pa_cons (pv 5) pa_nil)))) (pe_slice sl_list (pv 7) po_none (po_some (pe_un un_neg pe_int))) (nomark _)) (pw_or1 (pt_cmpR (op_neD hr.units) (pcall C_bases hr (by first | decide | omega) rfl Passes.none (pa_cons (pv 2) (pa_cons (pv 5) (pa_cons (pv 6) pa_nil)))) (pe_slice sl_list (pv 7) po_none (po_some (pe_un un_neg pe_int))) (nomark _))))) (pss_one (ps_ret pe_bl)) pss_nil)))))))) (pss_one (ps_ret (pe_cmpR (op_eqDL hr.units) (pv 2) (pcall C_law_copied hr (by first | decide | omega) rfl Passes.none (pa_cons (pv 1) pa_nil)) (nomark _)))))))))), ?_⟩
  show (_ : TS) _ [some s, none, none, none, none, none, none, none, none, none] H
  first | dsimp only [L2.cxOf] | skip
  obtain ⟨a, ns, rfl, hS, hn, q⟩ := h
  walk_at "rd"
  refine ⟨a, ns, rfl, hS, hn, fun H1 f1 => ?_⟩
  walk_at "rd"
  refine ⟨a, ns, _, rfl, rfl, by decide, by decide, SqL_fr hS f1 id, hn, fun R gs ts as H2 f2 hrows ok lt hl14 => ?_⟩
  walk_at "rd"
  refine ⟨R, gs, ts, as, rfl, hrows, ok.nd, ok.len, fun D cs H3 f3 nD heD => ?_⟩
  have hrows3 := hrows.keep f3
  have htl := hrows.lt
  have rowAt : ∀ {H' : Hp} {j : Nat} {x : V}, Fr Non H3 H' → (ts.map V.ref)[j]? = some x → ∃ (t b : Addr) (g : Int × List Int), x = .ref t ∧ gs[j]? = some g ∧ g.1 ∈ keysG gs ∧ H' t = some (.tup [.int g.1, .ref b]) := fun f hx => by
    rw [List.getElem?_map] at hx
    obtain ⟨t, ht, rfl⟩ := Option.map_eq_some_iff.mp hx
    have hj := (List.getElem?_eq_some_iff.mp ht).1
    obtain ⟨g, hg⟩ : ∃ g, gs[_]? = some g := ⟨_, List.getElem?_eq_getElem (by rw [← htl]; exact hj)⟩
    obtain ⟨b, hb⟩ : ∃ b, as[_]? = some b := ⟨_, List.getElem?_eq_getElem (by rw [hrows.la, ← htl]; exact hj)⟩
    exact ⟨t, b, g, rfl, hg, List.mem_map_of_mem (List.mem_of_getElem? hg), ((hrows3.keep f).at_ _ g t b hg ht hb).1⟩
  walk_at "rd"
  refine x_iRef (C := fun a => ∃ xs, SqL K H3 a xs) ⟨_, SqL.of hrows3.ls⟩ ?_
  intro N nN
  refine x_lcL (ts.map V.ref) (fun i H' => Fr Non H3 H' ∧ H' N = some (.lst (((keysG gs).take i).map V.int))) ⟨Fr.new (Fr.refl _) nN, upd_same⟩ (fun i H' _ ⟨g, _⟩ => SqL.of (hrows3.keep g).ls) ?_ ?_
  · rintro i x H8 hx ⟨f8, hC⟩
    obtain ⟨t, b, g, rfl, hg, hk, ht⟩ := rowAt f8 hx
    have hsz : (((keysG gs).take i).map V.int).length ≤ 100000 := by rw [List.length_map, List.length_take]; unfold keysG; rw [List.length_map]; omega
    walk_at "rd"
    refine ⟨Fr.mut f8 hC rfl (.inr nN), ?_⟩
    have htk : (keysG gs).take (i + 1) = (keysG gs).take i ++ [g.1] := by
      rw [List.take_succ]
      unfold keysG
      rw [List.getElem?_map, hg]; rfl
    rw [htk, List.map_append]
    exact upd_same
  · rintro H4 ⟨f4, hN⟩
    rw [List.take_of_length_le (by rw [List.length_map, htl]; unfold keysG; rw [List.length_map]; exact Nat.le_refl _)] at hN
    have hkl : (keysG gs).length = gs.length := by unfold keysG; rw [List.length_map]
    walk_at "rd"
    refine x_iRef (C := fun a => ∃ xs, SqL K H4 a xs) ⟨_, SqL.of hN⟩ ?_
    intro B nB
    refine x_lcL ((keysG gs).map V.int) (fun i H' => Fr Non H4 H' ∧ ∃ (bs : Gr) (us cs2 : List Addr), H' B = some (.lst (us.map V.ref)) ∧ AtG H' bs us cs2 ∧ (∀ x ∈ cs2, x ≠ B) ∧ keysG bs = (keysG gs).take i ∧ (∀ p ∈ bs, upI2 p.2 ∧ ∀ k, k ∈ p.2 ↔ Rch gs p.1 k)) ⟨Fr.new (Fr.refl _) nB, [], [], [], upd_same, .nil, (fun x hx => by cases hx), rfl, List.forall_mem_nil _⟩ (fun i H' _ ⟨g, _⟩ => SqL.of (g.keep _ _ hN id)) ?_ ?_
    · rintro i x H5 hx ⟨f5, bs, us, cs2, hB, hat, hcB, hkb, hbs⟩
      rw [List.getElem?_map] at hx
      obtain ⟨k, hk, rfl⟩ := Option.map_eq_some_iff.mp hx
      have hkk := List.mem_of_getElem? hk
      have hi := (List.getElem?_eq_some_iff.mp hk).1
      have hul : us.length = i := by
        rw [hat.len.1]
        have := congrArg List.length hkb
        rw [List.length_take] at this
        unfold keysG at this
        rw [List.length_map, List.length_map] at this
        unfold keysG at hi
        rw [List.length_map] at hi
        omega
      walk_at "rd"
      refine ⟨R, gs, ts, as, k, rfl, rfl, hrows3.keep (f4.trans f5), ok, hkk, fun ks p6 H6 up6 hm6 hl6 f6 np6 hp6 => ?_⟩
      have hB6 := f6.keep _ _ hB id
      have hat6 := hat.keepS f6 fun _ _ => id
      have hpB : p6 ≠ B := Ne.symm (ne_fr hB np6)
      walk_at "rd"
      intro u nu
      have f7 : Fr Non H4 (upd H6 u (.tup [.int k, .ref p6])) := Fr.new (f5.trans f6) nu
      have hB7 := keepU (u := .tup [.int k, .ref p6]) hB6 nu
      have hp7 := keepU (u := .tup [.int k, .ref p6]) hp6 nu
      have hu7 : upd H6 u (.tup [.int k, .ref p6]) u = some (.tup [.int k, .ref p6]) := upd_same
      have hat7 := hat6.keepS (Fr.new (S := Non) (Fr.refl _) nu : Fr Non H6 (upd H6 u (.tup [.int k, .ref p6]))) fun _ _ => id
      generalize upd H6 u (.tup [.int k, .ref p6]) = H7 at f7 hB7 hp7 hu7 hat7 ⊢
      have hsz : (us.map V.ref).length ≤ 100000 := by rw [List.length_map]; omega
      walk_at "rd"
      have fm : Fr (One B) H7 (upd H7 B (.lst (us.map V.ref ++ [.ref u]))) := Fr.mut (Fr.refl _) hB7 rfl (.inl rfl)
      refine ⟨Fr.mut f7 hB7 rfl (.inr nB), bs ++ [(k, ks)], us ++ [u], cs2 ++ [p6], by rw [List.map_append]; exact upd_same, ?_, ?_, ?_, ?_⟩
      · exact (hat7.keepS fm fun x hx => not_One (hcB x hx)).app (.cons (fm.tup _ _ hu7) (fm.keep _ _ hp7 (not_One hpB)) .nil)
      · intro x hx
        rcases List.mem_append.mp hx with hx | hx
        · exact hcB x hx
        · rw [List.mem_singleton.mp hx]; exact hpB
      · rw [keysG_app, hkb, List.take_succ, hk]; rfl
      · intro p hp
        rcases List.mem_append.mp hp with hp | hp
        · exact hbs p hp
        · rw [List.mem_singleton.mp hp]; exact ⟨up6, hm6⟩
    · rintro H5 ⟨f5, bs, us, cs2, hB, hat, hcB, hkb, hbs⟩
      rw [List.take_of_length_le (by rw [List.length_map]; exact Nat.le_refl _)] at hkb
      have hndb : (keysG bs).Nodup := by rw [hkb]; exact ok.nd
      have bok : BelOk gs bs := ⟨hkb, fun n hn => (hbs _ (eld_mem (by rw [hkb]; exact hn))).1, fun n hn => (hbs _ (eld_mem (by rw [hkb]; exact hn))).2⟩
      walk_at "rd"
      refine ⟨B, us, kvG bs cs2, rfl, SqL.of hB, Paired.imp (fun u kv e => SqT.of e) hat.paired, fun L nL => ?_⟩
      rw [merge_kvG hat.len.2 hndb]
      have heL : EldAt (upd H5 L (.dK (kvG bs cs2))) L bs cs2 := (hat.keepS (Fr.new (S := Non) (Fr.refl _) nL) fun _ _ => id).eld upd_same
      have f6 : Fr Non H4 (upd H5 L (.dK (kvG bs cs2))) := Fr.new f5 nL
      generalize upd H5 L (.dK (kvG bs cs2)) = H6 at heL f6 ⊢
      have hN6 := f6.keep _ _ hN id
      have heD6 := heD.keep (f4.trans f6)
      have hrows6 := hrows3.keep (f4.trans f6)
      clear hB hat hcB hbs hN nB nL rowAt
      walk_at "rd"
      refine x_iRef (C := fun a => ∃ xs, SqL K H6 a xs) ⟨_, SqL.of hN6⟩ ?_
      refine x_forL ((keysG gs).map V.int) (fun i σ H' => ∃ v5 v6 v7 : Option V, σ = [some (.ref a), some (.ref R), some (.ref D), some (.ref N), some (.ref L), v5, v6, v7, none, none] ∧ Fr Non H6 H') ⟨_, _, _, rfl, Fr.refl _⟩ (fun i σ H' _ ⟨_, _, _, _, f⟩ => SqL.of (f.keep _ _ hN6 id)) ?_ ?_
      · rintro i x σ H7 hx ⟨v5, v6, v7, rfl, f7⟩
        rw [List.getElem?_map] at hx
        obtain ⟨n, hnn, rfl⟩ := Option.map_eq_some_iff.mp hx
        have hnk := List.mem_of_getElem? hnn
        walk_at "rd"
        refine x_iRef (C := fun a => ∃ xs, SqL K H7 a xs) ⟨_, SqL.of (f7.keep _ _ hN6 id)⟩ ?_
        refine x_forL ((keysG gs).map V.int) (fun i σ H' => ∃ v6 v7 : Option V, σ = [some (.ref a), some (.ref R), some (.ref D), some (.ref N), some (.ref L), some (.int n), v6, v7, none, none] ∧ Fr Non H6 H') ⟨_, _, rfl, f7⟩ (fun i σ H' _ ⟨_, _, _, f⟩ => SqL.of (f.keep _ _ hN6 id)) ?_ ?_
        · rintro j y σ H8 hy ⟨v6', v7', rfl, f8⟩
          rw [List.getElem?_map] at hy
          obtain ⟨m, hmm, rfl⟩ := Option.map_eq_some_iff.mp hy
          have hmk := List.mem_of_getElem? hmm
          walk_at "rd"
          refine ⟨D, gs, cs, n, m, rfl, rfl, rfl, heD6.keep f8, ok, hnk, hmk, fun fs p9 H9 up9 hm9 hl9 f9 np9 hp9 => ?_⟩
          have f69 := f8.trans f9
          walk_at "rd"
          refine ⟨L, gs, bs, cs2, n, m, p9, fs, rfl, rfl, rfl, rfl, heL.keep f69, bok, ok, lt, hnk, hmk, hp9, up9, hm9, hl9, fun H10 f10 => ?_⟩
          have hp10 := f10.keep _ _ hp9 id
          have f610 := f69.trans f10
          have hsz : (fs.map V.int).length ≤ 100000 := by rw [List.length_map]; omega
          walk_at "rd"
          have f611 : Fr Non H6 (upd H10 p9 (.lst (fs.map V.int ++ [.int (-1)]))) := Fr.mut f610 hp10 rfl (.inr (f8.free np9))
          have hp11 : upd H10 p9 (.lst (fs.map V.int ++ [.int (-1)])) p9 = some (.lst (fs.map V.int ++ [.int (-1)])) := upd_same
          generalize upd H10 p9 (.lst (fs.map V.int ++ [.int (-1)])) = H11 at f611 hp11 ⊢
          have ecut : cutV (fs.map V.int ++ [.int (-1)]) none (some (-1)) = fs.map V.int := by rw [cut_butlast, List.dropLast_concat]
          refine ⟨D, gs, cs, m, n, rfl, rfl, rfl, heD6.keep f611, ok, hmk, hnk, fun fs2 p12 H12 up12 hm12 hl12 f12 np12 hp12 => ?_⟩
          have e12 : fs2 = fs := up_ext up12 up9 fun k => (hm12 k).trans (base_comm.trans (hm9 k).symm)
          subst e12
          have hp112 := f12.keep _ _ hp11 id
          walk_at "rd"
          intro c nc
          rw [ecut]
          refine x_neLI (keepU hp12 nc) upd_same ?_
          rw [decide_eq_true rfl]
          have f613 : Fr Non H6 (upd H12 c (.lst (fs2.map V.int))) := Fr.new (f611.trans f12) nc
          have hp113 := keepU (u := .lst (fs2.map V.int)) hp112 nc
          generalize upd H12 c (.lst (fs2.map V.int)) = H13 at f613 hp113 ⊢
          walk_at "rd"
          refine ⟨D, gs, cs, n, m, rfl, rfl, rfl, heD6.keep f613, ok, hnk, hmk, fun fs3 p14 H14 up14 hm14 hl14' f14 np14 hp14 => ?_⟩
          have e14 : fs3 = fs2 := up_ext up14 up9 fun k => (hm14 k).trans (hm9 k).symm
          subst e14
          have hp114 := f14.keep _ _ hp113 id
          walk_at "rd"
          intro c2 nc2
          rw [ecut]
          refine x_neLI (keepU hp14 nc2) upd_same ?_
          rw [decide_eq_true rfl]
          walk_at "rd"
          exact ⟨_, _, rfl, Fr.new (f613.trans f14) nc2⟩
        · rintro σ H8 ⟨v6', v7', rfl, f8⟩
          exact ⟨_, _, _, rfl, f8⟩
      · rintro σ H7 ⟨v5, v6, v7, rfl, f7⟩
        walk_at "rd"
        refine ⟨R, gs, ts, as, rfl, hrows6.keep f7, ok.nd, ok.len, fun D2 cs3 H8 f8 nD2 heD2 => ?_⟩
        exact x_eqEld (heD6.keep (f7.trans f8)) heD2 ok.nd (q _)
end

theorem all_mk {l : PySem.W.OpenLaw} {w : World} {K : PySem.W.Frag} {h : Heap} {mg : Str → Option Value} {fa : Addr} {f0 : Addr} {od0 an0 : Option Addr} {sl0 : Array (Option Value)} {oc0 kV0 dc0 pm0 cd0 ct0 : Value} {f1 : Addr} {od1 an1 : Option Addr} {sl1 : Array (Option Value)} {oc1 kV1 dc1 pm1 cd1 ct1 : Value} {f2 : Addr} {od2 an2 : Option Addr} {sl2 : Array (Option Value)} {oc2 kV2 dc2 pm2 cd2 ct2 : Value} {f3 : Addr} {od3 an3 : Option Addr} {sl3 : Array (Option Value)} {oc3 kV3 dc3 pm3 cd3 ct3 : Value} {f4 : Addr} {od4 an4 : Option Addr} {sl4 : Array (Option Value)} {oc4 kV4 dc4 pm4 cd4 ct4 : Value} {f5 : Addr} {od5 an5 : Option Addr} {sl5 : Array (Option Value)} {oc5 kV5 dc5 pm5 cd5 ct5 : Value} {f6 : Addr} {od6 an6 : Option Addr} {sl6 : Array (Option Value)} {oc6 kV6 dc6 pm6 cd6 ct6 : Value} {f7 : Addr} {od7 an7 : Option Addr} {sl7 : Array (Option Value)} {oc7 kV7 dc7 pm7 cd7 ct7 : Value} {f8 : Addr} {od8 an8 : Option Addr} {sl8 : Array (Option Value)} {oc8 kV8 dc8 pm8 cd8 ct8 : Value} {f9 : Addr} {od9 an9 : Option Addr} {sl9 : Array (Option Value)} {oc9 kV9 dc9 pm9 cd9 ct9 : Value} {f10 : Addr} {od10 an10 : Option Addr} {sl10 : Array (Option Value)} {oc10 kV10 dc10 pm10 cd10 ct10 : Value} {f11 : Addr} {od11 an11 : Option Addr} {sl11 : Array (Option Value)} {oc11 kV11 dc11 pm11 cd11 ct11 : Value} {f12 : Addr} {od12 an12 : Option Addr} {sl12 : Array (Option Value)} {oc12 kV12 dc12 pm12 cd12 ct12 : Value} (X : K.In h) (G : h.Ns mainGlobals mg) (hfa : mg "law" = some (.ref fa))
    (a0 : PySem.W.nsIn K mainGlobals "_law_well" = some (some (.ref f0))) (l0 : K.lookup f0 = some ⟨oc0, od0, .func (PySem.W.fnOf "_law_well" "_law_well" (defArgs s_law_well) (defBody s_law_well) (defScope s_law_well) .none kV0 dc0 pm0 an0 cd0 ct0), sl0⟩) (c0 : PySem.W.codeIn K cd0 "_law_well" = true) (k0 : PySem.W.keepIn K (.ref f0) = true)
    (a1 : PySem.W.nsIn K mainGlobals "_law_pull" = some (some (.ref f1))) (l1 : K.lookup f1 = some ⟨oc1, od1, .func (PySem.W.fnOf "_law_pull" "_law_pull" (defArgs s_law_pull) (defBody s_law_pull) (defScope s_law_pull) .none kV1 dc1 pm1 an1 cd1 ct1), sl1⟩) (c1 : PySem.W.codeIn K cd1 "_law_pull" = true) (k1 : PySem.W.keepIn K (.ref f1) = true)
    (a2 : PySem.W.nsIn K mainGlobals "_law_elders" = some (some (.ref f2))) (l2 : K.lookup f2 = some ⟨oc2, od2, .func (PySem.W.fnOf "_law_elders" "_law_elders" (defArgs s_law_elders) (defBody s_law_elders) (defScope s_law_elders) .none kV2 dc2 pm2 an2 cd2 ct2), sl2⟩) (c2 : PySem.W.codeIn K cd2 "_law_elders" = true) (k2 : PySem.W.keepIn K (.ref f2) = true)
    (a3 : PySem.W.nsIn K mainGlobals "_law_copied" = some (some (.ref f3))) (l3 : K.lookup f3 = some ⟨oc3, od3, .func (PySem.W.fnOf "_law_copied" "_law_copied" (defArgs s_law_copied) (defBody s_law_copied) (defScope s_law_copied) .none kV3 dc3 pm3 an3 cd3 ct3), sl3⟩) (c3 : PySem.W.codeIn K cd3 "_law_copied" = true) (k3 : PySem.W.keepIn K (.ref f3) = true)
    (a4 : PySem.W.nsIn K mainGlobals "_law_whole" = some (some (.ref f4))) (l4 : K.lookup f4 = some ⟨oc4, od4, .func (PySem.W.fnOf "_law_whole" "_law_whole" (defArgs s_law_whole) (defBody s_law_whole) (defScope s_law_whole) .none kV4 dc4 pm4 an4 cd4 ct4), sl4⟩) (c4 : PySem.W.codeIn K cd4 "_law_whole" = true) (k4 : PySem.W.keepIn K (.ref f4) = true)
    (a5 : PySem.W.nsIn K mainGlobals "_law_list" = some (some (.ref f5))) (l5 : K.lookup f5 = some ⟨oc5, od5, .func (PySem.W.fnOf "_law_list" "_law_list" (defArgs s_law_list) (defBody s_law_list) (defScope s_law_list) .none kV5 dc5 pm5 an5 cd5 ct5), sl5⟩) (c5 : PySem.W.codeIn K cd5 "_law_list" = true) (k5 : PySem.W.keepIn K (.ref f5) = true)
    (a6 : PySem.W.nsIn K mainGlobals "reach" = some (some (.ref f6))) (l6 : K.lookup f6 = some ⟨oc6, od6, .func (PySem.W.fnOf "reach" "reach" (defArgs s_reach) (defBody s_reach) (defScope s_reach) .none kV6 dc6 pm6 an6 cd6 ct6), sl6⟩) (c6 : PySem.W.codeIn K cd6 "reach" = true) (k6 : PySem.W.keepIn K (.ref f6) = true)
    (a7 : PySem.W.nsIn K mainGlobals "common" = some (some (.ref f7))) (l7 : K.lookup f7 = some ⟨oc7, od7, .func (PySem.W.fnOf "common" "common" (defArgs s_common) (defBody s_common) (defScope s_common) .none kV7 dc7 pm7 an7 cd7 ct7), sl7⟩) (c7 : PySem.W.codeIn K cd7 "common" = true) (k7 : PySem.W.keepIn K (.ref f7) = true)
    (a8 : PySem.W.nsIn K mainGlobals "bases" = some (some (.ref f8))) (l8 : K.lookup f8 = some ⟨oc8, od8, .func (PySem.W.fnOf "bases" "bases" (defArgs s_bases) (defBody s_bases) (defScope s_bases) .none kV8 dc8 pm8 an8 cd8 ct8), sl8⟩) (c8 : PySem.W.codeIn K cd8 "bases" = true) (k8 : PySem.W.keepIn K (.ref f8) = true)
    (a9 : PySem.W.nsIn K mainGlobals "_law_climbed" = some (some (.ref f9))) (l9 : K.lookup f9 = some ⟨oc9, od9, .func (PySem.W.fnOf "_law_climbed" "_law_climbed" (defArgs s_law_climbed) (defBody s_law_climbed) (defScope s_law_climbed) .none kV9 dc9 pm9 an9 cd9 ct9), sl9⟩) (c9 : PySem.W.codeIn K cd9 "_law_climbed" = true) (k9 : PySem.W.keepIn K (.ref f9) = true)
    (a10 : PySem.W.nsIn K mainGlobals "_law_behind" = some (some (.ref f10))) (l10 : K.lookup f10 = some ⟨oc10, od10, .func (PySem.W.fnOf "_law_behind" "_law_behind" (defArgs s_law_behind) (defBody s_law_behind) (defScope s_law_behind) .none kV10 dc10 pm10 an10 cd10 ct10), sl10⟩) (c10 : PySem.W.codeIn K cd10 "_law_behind" = true) (k10 : PySem.W.keepIn K (.ref f10) = true)
    (a11 : PySem.W.nsIn K mainGlobals "_law_right" = some (some (.ref f11))) (l11 : K.lookup f11 = some ⟨oc11, od11, .func (PySem.W.fnOf "_law_right" "_law_right" (defArgs s_law_right) (defBody s_law_right) (defScope s_law_right) .none kV11 dc11 pm11 an11 cd11 ct11), sl11⟩) (c11 : PySem.W.codeIn K cd11 "_law_right" = true) (k11 : PySem.W.keepIn K (.ref f11) = true)
    (a12 : PySem.W.nsIn K mainGlobals "law" = some (some (.ref f12))) (l12 : K.lookup f12 = some ⟨oc12, od12, .func (PySem.W.fnOf "law" "law" (defArgs s_law) (defBody s_law) (defScope s_law) .none kV12 dc12 pm12 an12 cd12 ct12), sl12⟩) (c12 : PySem.W.codeIn K cd12 "law" = true) (k12 : PySem.W.keepIn K (.ref f12) = true)
    (z_abs : PySem.W.nsIn K mainGlobals "abs" = some none)
    (z_bool : PySem.W.nsIn K mainGlobals "bool" = some none)
    (z_dict : PySem.W.nsIn K mainGlobals "dict" = some none)
    (z_int : PySem.W.nsIn K mainGlobals "int" = some none)
    (z_isinstance : PySem.W.nsIn K mainGlobals "isinstance" = some none)
    (z_len : PySem.W.nsIn K mainGlobals "len" = some none)
    (z_list : PySem.W.nsIn K mainGlobals "list" = some none)
    (z_max : PySem.W.nsIn K mainGlobals "max" = some none)
    (z_range : PySem.W.nsIn K mainGlobals "range" = some none)
    (z_set : PySem.W.nsIn K mainGlobals "set" = some none)
    (z_sorted : PySem.W.nsIn K mainGlobals "sorted" = some none) :
    ∃ fd : FuncData, (∀ (s : Shared) (v : Value), BindsTo s fd ⟨[v], []⟩ [("_law_script", v)]) ∧ ∀ base : Heap, K.In base → base.Ns mainGlobals mg → FnOk l.prog w K mg base (L2.CX l.prog w) 5 fa fd ["_law_script"] (Sp1 (B_law K)) := by
  have e := hfa.symm.trans (PySem.W.mg_of X G a12)
  cases e
  have T : TX K mg := {
    d_law_well := ⟨_, _, fun_mk (st := s_law_well) l0 c0 k0, PySem.W.mg_of X G a0, (fun_mk (st := s_law_well) l0 c0 k0).binds (ps := ["_law_script", "_law_k"]) fun _ _ _ _ _ _ us hl => match us, hl with | [_, _], _ => rfl⟩,
    d_law_pull := ⟨_, _, fun_mk (st := s_law_pull) l1 c1 k1, PySem.W.mg_of X G a1, (fun_mk (st := s_law_pull) l1 c1 k1).binds (ps := ["_law_well_here", "_law_many"]) fun _ _ _ _ _ _ us hl => match us, hl with | [_, _], _ => rfl⟩,
    d_law_elders := ⟨_, _, fun_mk (st := s_law_elders) l2 c2 k2, PySem.W.mg_of X G a2, (fun_mk (st := s_law_elders) l2 c2 k2).binds (ps := ["_law_script", "_law_most"]) fun _ _ _ _ _ _ us hl => match us, hl with | [_, _], _ => rfl⟩,
    d_law_copied := ⟨_, _, fun_mk (st := s_law_copied) l3 c3 k3, PySem.W.mg_of X G a3, (fun_mk (st := s_law_copied) l3 c3 k3).binds (ps := ["_law_rows"]) fun _ _ _ _ _ _ us hl => match us, hl with | [_], _ => rfl⟩,
    d_law_whole := ⟨_, _, fun_mk (st := s_law_whole) l4 c4 k4, PySem.W.mg_of X G a4, (fun_mk (st := s_law_whole) l4 c4 k4).binds (ps := ["_law_found"]) fun _ _ _ _ _ _ us hl => match us, hl with | [_], _ => rfl⟩,
    d_law_list := ⟨_, _, fun_mk (st := s_law_list) l5 c5 k5, PySem.W.mg_of X G a5, (fun_mk (st := s_law_list) l5 c5 k5).binds (ps := ["_law_found", "_law_due"]) fun _ _ _ _ _ _ us hl => match us, hl with | [_, _], _ => rfl⟩,
    d_reach := ⟨_, _, fun_mk (st := s_reach) l6 c6 k6, PySem.W.mg_of X G a6, (fun_mk (st := s_reach) l6 c6 k6).binds (ps := ["elders", "number"]) fun _ _ _ _ _ _ us hl => match us, hl with | [_, _], _ => rfl⟩,
    d_common := ⟨_, _, fun_mk (st := s_common) l7 c7 k7, PySem.W.mg_of X G a7, (fun_mk (st := s_common) l7 c7 k7).binds (ps := ["elders", "one", "other"]) fun _ _ _ _ _ _ us hl => match us, hl with | [_, _, _], _ => rfl⟩,
    d_bases := ⟨_, _, fun_mk (st := s_bases) l8 c8 k8, PySem.W.mg_of X G a8, (fun_mk (st := s_bases) l8 c8 k8).binds (ps := ["elders", "one", "other"]) fun _ _ _ _ _ _ us hl => match us, hl with | [_, _, _], _ => rfl⟩,
    d_law_climbed := ⟨_, _, fun_mk (st := s_law_climbed) l9 c9 k9, PySem.W.mg_of X G a9, (fun_mk (st := s_law_climbed) l9 c9 k9).binds (ps := ["_law_script"]) fun _ _ _ _ _ _ us hl => match us, hl with | [_], _ => rfl⟩,
    d_law_behind := ⟨_, _, fun_mk (st := s_law_behind) l10 c10 k10, PySem.W.mg_of X G a10, (fun_mk (st := s_law_behind) l10 c10 k10).binds (ps := ["_law_rows", "_law_number"]) fun _ _ _ _ _ _ us hl => match us, hl with | [_, _], _ => rfl⟩,
    d_law_right := ⟨_, _, fun_mk (st := s_law_right) l11 c11 k11, PySem.W.mg_of X G a11, (fun_mk (st := s_law_right) l11 c11 k11).binds (ps := ["_law_below", "_law_one", "_law_other", "_law_found"]) fun _ _ _ _ _ _ us hl => match us, hl with | [_, _, _, _], _ => rfl⟩,
    d_law := ⟨_, _, fun_mk (st := s_law) l12 c12 k12, PySem.W.mg_of X G a12, (fun_mk (st := s_law) l12 c12 k12).binds (ps := ["_law_script"]) fun _ _ _ _ _ _ us hl => match us, hl with | [_], _ => rfl⟩,
    b_abs := PySem.W.mg_none_of X G z_abs,
    b_bool := PySem.W.mg_none_of X G z_bool,
    b_dict := PySem.W.mg_none_of X G z_dict,
    b_int := PySem.W.mg_none_of X G z_int,
    b_isinstance := PySem.W.mg_none_of X G z_isinstance,
    b_len := PySem.W.mg_none_of X G z_len,
    b_list := PySem.W.mg_none_of X G z_list,
    b_max := PySem.W.mg_none_of X G z_max,
    b_range := PySem.W.mg_none_of X G z_range,
    b_set := PySem.W.mg_none_of X G z_set,
    b_sorted := PySem.W.mg_none_of X G z_sorted }
  exact ⟨_, fun s v => .of_eq rfl, fun base _ _ => ok_law T (fun_mk (st := s_law) l12 c12 k12)⟩
theorem walk {l : PySem.W.OpenLaw} {q : Program} {loose : List Str} {XP : (Str → Option Value) → Heap → Prop} {YP : World → Heap → Prop} {d : DefRec} {K : Params → PySem.W.Frag} (hn : l.most = some 63) (hdf : d.params.defaults = [])
    (hY : ∀ (w : World) (h : Heap), YP w h → (K w.params).In h)
    (F : ∀ (w : World) (mg : Str → Option Value) (fa : Addr) (h : Heap), (K w.params).In h → h.Ns mainGlobals mg → mg d.name = some (.ref fa) →
      ∃ fd : FuncData, (∀ (s : Shared) (v : Value), BindsTo s fd ⟨[v], []⟩ [("_law_script", v)]) ∧ ∀ base : Heap, (K w.params).In base → base.Ns mainGlobals mg → FnOk l.prog w (K w.params) mg base (L2.CX l.prog w) 5 fa fd ["_law_script"] (Sp1 (B_law (K w.params)))) :
    PySem.W.WalkO q loose XP YP l.row.toRowW d [] (fun f vs => PySem.call f vs) :=
  L2.walk_of (n := 63) (k := 5) (x := "_law_script") (CX := fun w => L2.CX l.prog w) (sp := fun w => Sp1 (B_law (K w.params))) hn (by decide) hdf ⟨rfl, by decide, by decide⟩ hY F (fun _ _ a ns hl _ hS => ⟨_, rfl, a, ns, rfl, hS, hl, fun _ => rfl⟩) fun _ _ _ _ _ z => by obtain ⟨_, _, _, _, _, _, _, _, _, _, _, _, h⟩ := z; exact h
end Tw

open PySem PySem.W PyProof.Rows in
set_option maxRecDepth 100000 in
set_option maxHeartbeats 0 in
theorem PySem.Challenge.cw_twigmap_k82_bases_holds : PySem.Challenge.rw_twigmap_k82_bases.Holds := by
  w_on; o_law; k_head; (case hw => w_witness2)
  k_fill
  refine Tw.walk (l := PySem.Challenge.rw_twigmap_k82_bases) rfl rfl (fun w h Y => PySem.W.kIn_of Y) ?F
  case F =>
    intro w mg fa h KX G hmg
    refine' Tw.all_mk KX G hmg ?a0 ?l0 ?c0 ?k0 ?a1 ?l1 ?c1 ?k1 ?a2 ?l2 ?c2 ?k2 ?a3 ?l3 ?c3 ?k3 ?a4 ?l4 ?c4 ?k4 ?a5 ?l5 ?c5 ?k5 ?a6 ?l6 ?c6 ?k6 ?a7 ?l7 ?c7 ?k7 ?a8 ?l8 ?c8 ?k8 ?a9 ?l9 ?c9 ?k9 ?a10 ?l10 ?c10 ?k10 ?a11 ?l11 ?c11 ?k11 ?a12 ?l12 ?c12 ?k12 ?z_abs ?z_bool ?z_dict ?z_int ?z_isinstance ?z_len ?z_list ?z_max ?z_range ?z_set ?z_sorted
    (case a0 => k_is)
    (case l0 => k_is)
    (case c0 => k_is)
    (case k0 => k_is)
    (case a1 => k_is)
    (case l1 => k_is)
    (case c1 => k_is)
    (case k1 => k_is)
    (case a2 => k_is)
    (case l2 => k_is)
    (case c2 => k_is)
    (case k2 => k_is)
    (case a3 => k_is)
    (case l3 => k_is)
    (case c3 => k_is)
    (case k3 => k_is)
    (case a4 => k_is)
    (case l4 => k_is)
    (case c4 => k_is)
    (case k4 => k_is)
    (case a5 => k_is)
    (case l5 => k_is)
    (case c5 => k_is)
    (case k5 => k_is)
    (case a6 => k_is)
    (case l6 => k_is)
    (case c6 => k_is)
    (case k6 => k_is)
    (case a7 => k_is)
    (case l7 => k_is)
    (case c7 => k_is)
    (case k7 => k_is)
    (case a8 => k_is)
    (case l8 => k_is)
    (case c8 => k_is)
    (case k8 => k_is)
    (case a9 => k_is)
    (case l9 => k_is)
    (case c9 => k_is)
    (case k9 => k_is)
    (case a10 => k_is)
    (case l10 => k_is)
    (case c10 => k_is)
    (case k10 => k_is)
    (case a11 => k_is)
    (case l11 => k_is)
    (case c11 => k_is)
    (case k11 => k_is)
    (case a12 => k_is)
    (case l12 => k_is)
    (case c12 => k_is)
    (case k12 => k_is)
    (case z_abs => k_is)
    (case z_bool => k_is)
    (case z_dict => k_is)
    (case z_int => k_is)
    (case z_isinstance => k_is)
    (case z_len => k_is)
    (case z_list => k_is)
    (case z_max => k_is)
    (case z_range => k_is)
    (case z_set => k_is)
    (case z_sorted => k_is)
