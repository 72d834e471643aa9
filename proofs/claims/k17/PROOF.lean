import PyProof.Rows.All
import Wide.All
import OpenK.AllK
import Wide.FinOn
import KE.DataCmp
import HandS.ForMost
import HandS.Exc
import HandS.TryOnly
import HandS.ExcOwn
import HandS.WordsExc
import HandS.IsInst
import HandS.Wide
import HandS.EndBits
import HandS.Flow
import HandS.Conv
import HandS.SortKw
import HandS.TupAny
import HandS.Style
import HandS.Iter
import HandS.Comp
import HandS.More
import KE.DatumOrd
import HandS.ExcIs
import HandS.TryMany
import KE.KIsAll
import HandS.Deep
import HandS.Text
import PyProof.Rows.StrMul
import HandS.TupMul
import HandS.ExcInit
import HandS.ExcField
import KE.IntTextLaws
import HandS.ReplaceList
import HandS.ReplaceLit
import HandS.ExcValue
import KE.KExcIs
import KE.SortKeyHeap
import KE.KSortKey
import PySem.Challenge.RW_twigmap_k17_many_read
set_option Elab.async false
set_option linter.all false
set_option maxRecDepth 100000
set_option maxHeartbeats 4000000
set_option Elab.async false
set_option linter.all false
set_option maxRecDepth 100000
set_option maxHeartbeats 2000000
/-! Tw: frames of heaps, data in tuples, steps of readings. -/
namespace Tw
open PySem PySem.Spec PyProof.Rows L2

/-! ### frames -/
/-- all that stood and is not in S stands; tuples stand; nothing is lost -/
structure Fr (S : Addr → Prop) (H H' : Hp) : Prop where
  keep : ∀ b o, H b = some o → ¬ S b → H' b = some o
  tup : ∀ b xs, H b = some (.tup xs) → H' b = some (.tup xs)
  back : ∀ b, H' b = none → H b = none
/-- an address that nothing stands at -/
def Fresh (H : Hp) (p : Addr) : Prop := H p = none
abbrev Non : Addr → Prop := fun _ => False
abbrev One (a : Addr) : Addr → Prop := fun b => b = a
theorem not_One {a b : Addr} (h : b ≠ a) : ¬ One a b := h
theorem Fr.refl {S : Addr → Prop} (H : Hp) : Fr S H H := ⟨fun _ _ h _ => h, fun _ _ h => h, fun _ h => h⟩
theorem Fr.trans {S : Addr → Prop} {H H1 H2 : Hp} (a : Fr S H H1) (b : Fr S H1 H2) : Fr S H H2 :=
  ⟨fun c o h n => b.keep c o (a.keep c o h n) n, fun c xs h => b.tup c xs (a.tup c xs h), fun c h => a.back c (b.back c h)⟩
theorem Fr.sub {S T : Addr → Prop} {H H1 : Hp} (a : Fr S H H1) (h : ∀ b, S b → T b) : Fr T H H1 :=
  ⟨fun c o e n => a.keep c o e (fun s => n (h c s)), a.tup, a.back⟩
/-- what changed lies in S or was not there -/
theorem Fr.sub' {S T : Addr → Prop} {H H1 H2 : Hp} (a : Fr S H H1) (b : Fr T H1 H2) (h : ∀ b, T b → S b ∨ Fresh H b) : Fr S H H2 :=
  ⟨fun c o e n => b.keep c o (a.keep c o e n) (fun t => (h c t).elim n fun z => by have z0 : H c = none := z; rw [z0] at e; cases e), fun c xs e => b.tup c xs (a.tup c xs e), fun c e => a.back c (b.back c e)⟩
theorem Fr.non {S : Addr → Prop} {H H1 : Hp} (a : Fr Non H H1) : Fr S H H1 := a.sub fun _ h => h.elim
theorem Fr.new {S : Addr → Prop} {H H1 : Hp} {p : Addr} {o : HO} (a : Fr S H H1) (hp : Fresh H1 p) : Fr S H (upd H1 p o) := by
  have h0 := a.back p hp
  refine ⟨fun c u e n => ?_, fun c xs e => ?_, fun c e => ?_⟩
  · rw [upd_ne (ne_of_none e h0)]; exact a.keep c u e n
  · rw [upd_ne (ne_of_none e h0)]; exact a.tup c xs e
  · by_cases hc : c = p
    · subst hc; exact h0
    · rw [upd_ne hc] at e; exact a.back c e
def noTup : HO → Bool
  | .tup _ => false
  | _ => true
theorem Fr.mut {S : Addr → Prop} {H H1 : Hp} {p : Addr} {o u : HO} (a : Fr S H H1) (hu : H1 p = some u) (ht : noTup u = true) (hp : S p ∨ Fresh H p) : Fr S H (upd H1 p o) := by
  refine ⟨fun c v e n => ?_, fun c xs e => ?_, fun c e => ?_⟩
  · have hc : c ≠ p := fun z => by
      subst z
      rcases hp with h | h
      · exact n h
      · have h0 : H c = none := h
        rw [h0] at e; cases e
    rw [upd_ne hc]; exact a.keep c v e n
  · have q := a.tup c xs e
    have hc : c ≠ p := fun z => by
      subst z
      rw [hu] at q; cases q; cases ht
    rw [upd_ne hc]; exact q
  · by_cases hc : c = p
    · subst hc; rw [upd_same] at e; cases e
    · rw [upd_ne hc] at e; exact a.back c e
theorem Fr.free {S : Addr → Prop} {H H1 : Hp} {p : Addr} (a : Fr S H H1) (h : Fresh H1 p) : Fresh H p := a.back p h
theorem ne_fr {H : Hp} {a b : Addr} {o : HO} (h : H a = some o) (n : Fresh H b) : a ≠ b := ne_of_none h n

/-! ### data in tuples -/
mutual
/-- the value v is the datum d, all of it in tuples -/
inductive Dt (H : Hp) : V → PyData → Prop
  | non : Dt H .non .none
  | bl (b : Bool) : Dt H (.bl b) (.bool b)
  | int (i : Int) : Dt H (.int i) (.int i)
  | str (x : Str) : Dt H (.str x) (.str x)
  | tup {a : Addr} {xs : List V} {ds : List PyData} (h : H a = some (.tup xs)) (hs : DtAll H xs ds) : Dt H (.ref a) (.tuple ds)
inductive DtAll (H : Hp) : List V → List PyData → Prop
  | nil : DtAll H [] []
  | cons {v : V} {vs : List V} {d : PyData} {ds : List PyData} (h : Dt H v d) (hs : DtAll H vs ds) : DtAll H (v :: vs) (d :: ds)
end
mutual
theorem Dt.mono' {H H1 : Hp} (f : ∀ b xs, H b = some (.tup xs) → H1 b = some (.tup xs)) : ∀ (d : PyData) (v : V), Dt H v d → Dt H1 v d
  | .none, _, h => by cases h; exact .non
  | .bool b, _, h => by cases h; exact .bl b
  | .int i, _, h => by cases h; exact .int i
  | .str x, _, h => by cases h; exact .str x
  | .list _, _, h => by cases h
  | .dict _, _, h => by cases h
  | .tuple ds, _, h => by
    cases h with
    | tup e hs => exact .tup (f _ _ e) (DtAll.mono' f ds _ hs)
theorem DtAll.mono' {H H1 : Hp} (f : ∀ b xs, H b = some (.tup xs) → H1 b = some (.tup xs)) : ∀ (ds : List PyData) (vs : List V), DtAll H vs ds → DtAll H1 vs ds
  | [], _, h => by cases h; exact .nil
  | d :: ds, _, h => by
    cases h with
    | cons h1 h2 => exact .cons (Dt.mono' f d _ h1) (DtAll.mono' f ds _ h2)
end
theorem Dt.mono {S : Addr → Prop} {H H1 : Hp} {v : V} {d : PyData} (h : Dt H v d) (f : Fr S H H1) : Dt H1 v d := Dt.mono' f.tup d v h
theorem DtAll.mono {S : Addr → Prop} {H H1 : Hp} {v : List V} {d : List PyData} (h : DtAll H v d) (f : Fr S H H1) : DtAll H1 v d := DtAll.mono' f.tup d v h
mutual
theorem Dt.dp {K : PySem.W.Frag} {H : Hp} : ∀ (d : PyData) (v : V), Dt H v d → Dp K H v d
  | .none, _, h => by cases h; exact .non
  | .bool b, _, h => by cases h; exact .bl b
  | .int i, _, h => by cases h; exact .int i
  | .str x, _, h => by cases h; exact .str x
  | .list _, _, h => by cases h
  | .dict _, _, h => by cases h
  | .tuple ds, _, h => by
    cases h with
    | tup e hs => exact .tup (SqT.of e) (DtAll.dp ds _ hs)
theorem DtAll.dp {K : PySem.W.Frag} {H : Hp} : ∀ (ds : List PyData) (vs : List V), DtAll H vs ds → DpAll K H vs ds
  | [], _, h => by cases h; exact .nil
  | d :: ds, _, h => by
    cases h with
    | cons h1 h2 => exact .cons (Dt.dp d _ h1) (DtAll.dp ds _ h2)
end
mutual
theorem Dt.fn {H : Hp} : ∀ (d e : PyData) (v : V), Dt H v d → Dt H v e → d = e
  | .none, _, _, h, k => by cases h; cases k; rfl
  | .bool b, _, _, h, k => by cases h; cases k; rfl
  | .int i, _, _, h, k => by cases h; cases k; rfl
  | .str x, _, _, h, k => by cases h; cases k; rfl
  | .list _, _, _, h, _ => by cases h
  | .dict _, _, _, h, _ => by cases h
  | .tuple ds, _, _, h, k => by
    cases h with
    | tup h1 h2 =>
      cases k with
      | tup k1 k2 =>
        rw [h1] at k1; cases k1
        rw [DtAll.fn ds _ _ h2 k2]
theorem DtAll.fn {H : Hp} : ∀ (ds es : List PyData) (vs : List V), DtAll H vs ds → DtAll H vs es → ds = es
  | [], _, _, h, k => by cases h; cases k; rfl
  | d :: ds, _, _, h, k => by
    cases h with
    | cons h1 h2 =>
      cases k with
      | cons k1 k2 => rw [Dt.fn d _ _ h1 k1, DtAll.fn ds _ _ h2 k2]
end
theorem Dt.upd {H : Hp} {p : Addr} {o : HO} {v : V} {d : PyData} (h : Dt H v d) (n : Fresh H p) : Dt (L2.upd H p o) v d := h.mono (Fr.new (S := Non) (Fr.refl H) n)
theorem Dt.updm {H : Hp} {p : Addr} {o u : HO} {v : V} {d : PyData} (h : Dt H v d) (e : H p = some u) (n : noTup u = true) : Dt (L2.upd H p o) v d := h.mono (Fr.mut (S := fun _ => True) (Fr.refl H) e n (.inl trivial))
theorem DtAll.upd {H : Hp} {p : Addr} {o : HO} {v : List V} {d : List PyData} (h : DtAll H v d) (n : Fresh H p) : DtAll (L2.upd H p o) v d := h.mono (Fr.new (S := Non) (Fr.refl H) n)
theorem DtAll.updm {H : Hp} {p : Addr} {o u : HO} {v : List V} {d : List PyData} (h : DtAll H v d) (e : H p = some u) (n : noTup u = true) : DtAll (L2.upd H p o) v d := h.mono (Fr.mut (S := fun _ => True) (Fr.refl H) e n (.inl trivial))
theorem upd_back {H : Hp} {a p : Addr} {o : HO} (h : Fresh (L2.upd H a o) p) : Fresh H p := by
  have h0 : L2.upd H a o p = none := h
  by_cases e : p = a
  · subst e; rw [upd_same] at h0; cases h0
  · rw [upd_ne e] at h0; exact h0
theorem DtAll.length {H : Hp} : ∀ {vs : List V} {ds : List PyData}, DtAll H vs ds → vs.length = ds.length
  | _, [], h => by cases h; rfl
  | _, d :: ds, h => by
    cases h with
    | cons h1 h2 => rw [List.length_cons, List.length_cons, DtAll.length h2]
theorem DtAll.get {H : Hp} : ∀ {vs : List V} {ds : List PyData} {i : Nat} {v : V}, DtAll H vs ds → vs[i]? = some v → ∃ d, ds[i]? = some d ∧ Dt H v d
  | _, [], _, _, h, e => by cases h; simp at e
  | _, d :: ds, 0, _, h, e => by
    cases h with
    | cons h1 h2 => simp at e; subst e; exact ⟨d, rfl, h1⟩
  | _, d :: ds, i + 1, _, h, e => by
    cases h with
    | cons h1 h2 =>
      obtain ⟨d', q1, q2⟩ := DtAll.get (i := i) h2 (by simpa using e)
      exact ⟨d', by simpa using q1, q2⟩
theorem DtAll.app {H : Hp} : ∀ {vs ws : List V} {ds es : List PyData}, DtAll H vs ds → DtAll H ws es → DtAll H (vs ++ ws) (ds ++ es)
  | _, _, [], _, h, k => by cases h; exact k
  | _, _, d :: ds, _, h, k => by
    cases h with
    | cons h1 h2 => exact .cons h1 (DtAll.app h2 k)
theorem DtAll.one {H : Hp} {v : V} {d : PyData} (h : Dt H v d) : DtAll H [v] [d] := .cons h .nil
theorem DtAll.take {H : Hp} : ∀ {vs : List V} {ds : List PyData} (n : Nat), DtAll H vs ds → DtAll H (vs.take n) (ds.take n)
  | _, _, 0, _ => .nil
  | _, [], _ + 1, h => by cases h; exact .nil
  | _, d :: ds, n + 1, h => by
    cases h with
    | cons h1 h2 => exact .cons h1 (DtAll.take n h2)
theorem DtAll.drop {H : Hp} : ∀ {vs : List V} {ds : List PyData} (n : Nat), DtAll H vs ds → DtAll H (vs.drop n) (ds.drop n)
  | _, _, 0, h => h
  | _, [], _ + 1, h => by cases h; exact .nil
  | _, d :: ds, n + 1, h => by
    cases h with
    | cons h1 h2 => exact DtAll.drop n h2

/-! ### own rules -/
section
variable {X : Cx}
def rLtD (K : PySem.W.Frag) : R2 := fun x y H Q => ∃ d e, Dp K H x d ∧ Dp K H y e ∧ PySem.W.alike d e = true ∧ d ≠ .none ∧ d.depth ≤ 60 ∧ Q (.bl (PySem.W.dataLt d e)) H
theorem op_ltD (hu : X.A.units + 64 < cLine) : OpR X (compareOp .Lt) (rLtD X.K) := by
  intro pins s σ H x y v u Q I rx ry h
  obtain ⟨d, e, hd, he, al, hn, dep, q⟩ := h
  obtain ⟨as, r1⟩ := Dp.reads I d x v hd rx
  obtain ⟨bs, r2⟩ := Dp.reads I e y u he ry
  refine PySem.W.lt_data r1 r2 al hn ?_ ⟨.bl _, H, I, rfl, q⟩
  have : min d.depth e.depth ≤ d.depth := Nat.min_le_left _ _
  omega
/-- built-ins' calls under names -/
def rLen (K : PySem.W.Frag) : List V → Hp → VK → Prop := fun xs H Q => ∃ p ys, xs = [.ref p] ∧ (SqL K H p ys ∨ SqT K H p ys) ∧ Q (.int ys.length) H
theorem c_len : CallR X (.builtin "len") (rLen X.K) := call_len_seq
def rLenZ : List V → Hp → VK → Prop := fun xs H Q => ∃ z, xs = [.str z] ∧ z.length ≤ sizeLine ∧ Q (.int z.length) H
theorem c_lenZ : CallR X (.builtin "len") rLenZ := call_len_str
def rLenD : List V → Hp → VK → Prop := fun xs H Q => ∃ a kvs, xs = [V.ref a] ∧ H a = some (.dK kvs) ∧ Q (.int kvs.length) H
theorem c_lenD : CallR X (.builtin "len") rLenD := call_lenD
def rAbs : List V → Hp → VK → Prop := fun xs H Q => ∃ i, xs = [.int i] ∧ Q (.int (if i < 0 then -i else i)) H
theorem c_abs : CallR X (.builtin "abs") rAbs := call_abs
def rMx2 : List V → Hp → VK → Prop := fun xs H Q => ∃ i j, xs = [.int i, .int j] ∧ Q (.int (if j > i then j else i)) H
theorem c_max2 (hc : X.calm = true) : CallR X (.builtin "max") rMx2 := call_max2 hc
def rMn2 : List V → Hp → VK → Prop := fun xs H Q => ∃ i j, xs = [.int i, .int j] ∧ Q (.int (if j < i then j else i)) H
theorem c_min2 (hc : X.calm = true) : CallR X (.builtin "min") rMn2 := call_min2 hc
def rInt1 : List V → Hp → VK → Prop := fun xs H Q => (∃ i, xs = [.int i] ∧ Q (.int i) H) ∨ ∃ k, xs = [.bl k] ∧ Q (.int (if k then 1 else 0)) H
theorem c_int : CallR X (.type "int") rInt1 := call_int1
def rStrI : List V → Hp → VK → Prop := fun xs H Q => ∃ i, xs = [.int i] ∧ i.natAbs.log2 < 1920 ∧ Q (.str (toString i)) H
theorem c_strI : CallR X (.type "str") rStrI := call_str_int
def rListOf (K : PySem.W.Frag) : List V → Hp → VK → Prop := fun xs H Q => ∃ p ys, xs = [.ref p] ∧ (SqL K H p ys ∨ SqT K H p ys) ∧ ∀ l, H l = none → Q (.ref l) (upd H l (.lst ys))
theorem c_listOf : CallR X (.type "list") (rListOf X.K) := call_list_of
def rTupOf (K : PySem.W.Frag) : List V → Hp → VK → Prop := fun xs H Q => ∃ p ys, xs = [.ref p] ∧ ((SqL K H p ys ∧ ∀ l, H l = none → Q (.ref l) (upd H l (.tup ys))) ∨ (SqT K H p ys ∧ Q (.ref p) H))
theorem c_tupOf : CallR X (.type "tuple") (rTupOf X.K) := call_tuple_of
def rAddS : R2 := fun x y H Q => ∃ i j, x = .str i ∧ y = .str j ∧ i.length + j.length ≤ sizeLine ∧ Q (.str (i ++ j)) H
theorem o_addS : OpR X (binaryOp .Add) rAddS := op_add_str
def rLtS : R2 := fun x y H Q => ∃ i j, x = .str i ∧ y = .str j ∧ Q (.bl (decide (i.cps.toList < j.cps.toList))) H
theorem o_ltS : OpR X (compareOp .Lt) rLtS := op_lt_str
def rLeS : R2 := fun x y H Q => ∃ i j, x = .str i ∧ y = .str j ∧ Q (.bl (!decide (j.cps.toList < i.cps.toList))) H
theorem o_leS : OpR X (compareOp .LtE) rLeS := op_le_str
def rIsN : R2 := fun x y H Q => y = .non ∧ Q (.bl (decide (x = .non))) H
theorem o_isN : OpR X (compareOp .Is) rIsN := op_isN
def rNotN : R2 := fun x y H Q => y = .non ∧ Q (.bl (!decide (x = .non))) H
theorem o_notN : OpR X (compareOp .IsNot) rNotN := op_notN
end

/-! ### defs by name -/
/-- a def that may be called by its name -/
structure CalX (P : Program) (w : World) (K : PySem.W.Frag) (mg : Str → Option Value) (base : Heap) (k : Nat) (x : Str) (ps : List Str) (sp : Sp) : Prop where
  ex : ∃ (f : Addr) (fd : FuncData), FnOk P w K mg base (L2.CX P w) k f fd ps sp ∧ mg x = some (.ref f) ∧ PySem.W.keepIn K (.ref f) = true ∧ Binds K fd ps []
/-- a def as it stands behind the top -/
structure DefX (K : PySem.W.Frag) (mg : Str → Option Value) (x : Str) (ps : List Str) (st : Stmt) : Prop where
  ex : ∃ (f : Addr) (fd : FuncData), Fun K x x st f fd ∧ mg x = some (.ref f) ∧ Binds K fd ps []
theorem Passes.none {X : Cx} : Passes (L2.CX X.prog X.w) X E0 := fun _ _ _ _ _ _ _ h => by
  obtain ⟨_, _, _, _, _, _, _, _, _, _, _, _, h⟩ := h
  exact h.elim
def tCal (sp : Sp) (E : XK) (t : TA) : TE := fun σ H Q => t σ H fun vs H1 => sp vs H1 Q E
theorem tCal_eq {sp : Sp} {E : XK} {t : TA} : tCall sp [] E t = tCal sp E t := by
  funext σ H Q
  show t σ H (fun vs H1 => sp (vs ++ []) H1 Q E) = t σ H (fun vs H1 => sp vs H1 Q E)
  have e : (fun (vs : List V) (H1 : Hp) => sp (vs ++ []) H1 Q E) = fun vs H1 => sp vs H1 Q E := by
    funext vs H1
    rw [List.append_nil]
  rw [e]
section
variable {X : Cx} {k j : Nat} {x : Str} {ps : List Str} {sp : Sp} {p pos : Pos} {e : Expr} {es : List Expr} {E : XK} {t : TA}
theorem pcall (c : CalX X.prog X.w X.K X.mg X.base k x ps sp) (hr : Room j X.A) (hk : k ≤ j) (hg : Gl X x) (hx : Passes (L2.CX X.prog X.w) X E) (ha : PA X (e :: es) t)
    (hdb : (x == ("__debug__" : Str)) = false := by decide) (he : starEach (e :: es) X.env = (false, eval e X.env) :: starEach es X.env := by rfl) (hpl : (backTo pos (starEach es X.env)).any (·.1) = false := by rfl) :
    PE X (.Call (.Name x p) (e :: es) [] pos) (tCal sp E t) := by
  obtain ⟨f, fd, F, hm, kp, b⟩ := c.ex
  rw [← tCal_eq]
  exact pe_call F (hr.mono hk) hg hm kp b .nil hx ha hdb he hpl
theorem pcall0 (c : CalX X.prog X.w X.K X.mg X.base k x ps sp) (hr : Room j X.A) (hk : k ≤ j) (hg : Gl X x) (hx : Passes (L2.CX X.prog X.w) X E)
    (hdb : (x == ("__debug__" : Str)) = false := by decide) : PE X (.Call (.Name x p) [] [] pos) (tCal sp E tNil) := by
  obtain ⟨f, fd, F, hm, kp, b⟩ := c.ex
  rw [← tCal_eq]
  exact pe_call0 F (hr.mono hk) hg hm kp b .nil hx hdb
theorem CalX.mono {P : Program} {w : World} {K : PySem.W.Frag} {mg : Str → Option Value} {base : Heap} {sp' : Sp} (c : CalX P w K mg base k x ps sp) (h : ∀ vs H Q E, sp' vs H Q E → sp vs H Q E) : CalX P w K mg base k x ps sp' := by
  obtain ⟨f, fd, F, hm, kp, b⟩ := c.ex
  exact ⟨f, fd, ⟨fun vs H Q E q => F.len vs H Q E (h _ _ _ _ q), fun A outer s H args us vs Q E hr e0 hb r q => F.run A outer s H args us vs Q E hr e0 hb r (h _ _ _ _ q)⟩, hm, kp, b⟩
end

theorem CalX.never {P : Program} {w : World} {K : PySem.W.Frag} {mg : Str → Option Value} {base : Heap} {k : Nat} {x : Str} {ps N : List Str} {st : Stmt} (D : DefX K mg x ps st) (S : FnScope N ps (defScope st)) (hk : 1 ≤ k) : CalX P w K mg base k x ps (fun _ _ _ _ => False) := by
  obtain ⟨f, fd, F, hm, bd⟩ := D.ex
  obtain ⟨j, rfl⟩ : ∃ j, k = j + 1 := ⟨k - 1, by omega⟩
  exact ⟨f, fd, F.okX S (fun _ _ _ _ h => h.elim) (fun _ _ _ _ _ _ _ _ _ h => h.elim), hm, F.kp, bd⟩
theorem str_one (c : Nat) : (⟨#[c]⟩ : Str).length = 1 := rfl
/-- a constant of the module -/
structure ConstX (mg : Str → Option Value) (x : Str) (v : V) : Prop where
  ex : ∃ u, mg x = some u ∧ RelV v u
theorem pconst {X : Cx} {x : Str} {v : V} {pos : Pos} (h : ConstX X.mg x v) (hg : Gl X x) (hd : (x == ("__debug__" : Str)) = false := by decide) : PE X (.Name x pos) (tC v) := by
  obtain ⟨u, hm, r⟩ := h.ex
  exact pe_glob hg hm r hd
theorem SqL_fr {K : PySem.W.Frag} {S : Addr → Prop} {H H1 : Hp} {a : Addr} {xs : List V} (h : SqL K H a xs) (f : Fr S H H1) (n : ¬ S a) : SqL K H1 a xs := by
  rcases h with (h | ⟨o, h⟩) | h
  · exact .inl (.inl (f.keep _ _ h n))
  · exact .inl (.inr ⟨o, f.keep _ _ h n⟩)
  · exact .inr h
theorem SqL_upd {K : PySem.W.Frag} {H : Hp} {a p : Addr} {xs : List V} {o : HO} (h : SqL K H a xs) (n : Fresh H p) : SqL K (upd H p o) a xs := SqL_fr h (Fr.new (S := Non) (Fr.refl H) n) id
theorem ix2i (b : Bool) (x y : Int) : atI [V.int x, V.int y] (if b = true then 1 else 0) = some (V.int (if b = true then y else x)) := by cases b <;> rfl
theorem atI_ex {α : Type} {xs : List α} {i : Int} (h0 : 0 ≤ i) (h1 : i < xs.length) : ∃ v, atI xs i = some v ∧ xs[i.toNat]? = some v := by
  obtain ⟨n, rfl⟩ : ∃ n : Nat, i = n := ⟨i.toNat, by omega⟩
  have h : n < xs.length := by omega
  exact ⟨xs[n], atI_nat (List.getElem?_eq_getElem h), by simp [h]⟩

/-! ### promises by the number of arguments -/
abbrev BK1 := V → Hp → VK → XK → Prop
abbrev BK2 := V → V → Hp → VK → XK → Prop
abbrev BK3 := V → V → V → Hp → VK → XK → Prop
abbrev BK4 := V → V → V → V → Hp → VK → XK → Prop
def Sp0 (B : Hp → VK → XK → Prop) : Sp := fun vs H Q E => vs = [] ∧ B H Q E
def Sp1 (B : BK1) : Sp := fun vs H Q E => ∃ a, vs = [a] ∧ B a H Q E
def Sp2 (B : BK2) : Sp := fun vs H Q E => ∃ a b, vs = [a, b] ∧ B a b H Q E
def Sp3 (B : BK3) : Sp := fun vs H Q E => ∃ a b c, vs = [a, b, c] ∧ B a b c H Q E
def Sp4 (B : BK4) : Sp := fun vs H Q E => ∃ a b c d, vs = [a, b, c, d] ∧ B a b c d H Q E
theorem len0 {B x} : ∀ vs H Q E, Sp0 B vs H Q E → vs.length = ([] : List x).length := fun _ _ _ _ ⟨e, _⟩ => by rw [e]; rfl
theorem len1 {B} {p : Str} : ∀ vs H Q E, Sp1 B vs H Q E → vs.length = [p].length := fun _ _ _ _ ⟨_, e, _⟩ => by rw [e]; rfl
theorem len2 {B} {p q : Str} : ∀ vs H Q E, Sp2 B vs H Q E → vs.length = [p, q].length := fun _ _ _ _ ⟨_, _, e, _⟩ => by rw [e]; rfl
theorem len3 {B} {p q r : Str} : ∀ vs H Q E, Sp3 B vs H Q E → vs.length = [p, q, r].length := fun _ _ _ _ ⟨_, _, _, e, _⟩ => by rw [e]; rfl
theorem len4 {B} {p q r s : Str} : ∀ vs H Q E, Sp4 B vs H Q E → vs.length = [p, q, r, s].length := fun _ _ _ _ ⟨_, _, _, _, e, _⟩ => by rw [e]; rfl

/-! ### steps of readings -/
section
variable {K : PySem.W.Frag} {σ : L2.St} {H : Hp} {Q : VK} {D : Ends} {x y v : V} {ta tb te tc : TE} {t u : TS} {tt uu : TT} {i j : Int} {b : Bool}
theorem x_var {n : Nat} (h : σ[n]? = some (some v)) (q : Q v H) : tVar n σ H Q := ⟨v, h, q⟩
theorem x_c (q : Q v H) : tC v σ H Q := q
theorem x_op {r : R2} (q : ta σ H fun x H1 => tb σ H1 fun y H2 => r x y H2 Q) : tOp r ta tb σ H Q := q
theorem x_un {r : V → Hp → VK → Prop} (q : ta σ H fun x H1 => r x H1 Q) : tUn r ta σ H Q := q
theorem x_add (q : Q (.int (i + j)) H) : rI0 (fun i j => .int (i + j)) (.int i) (.int j) H Q := ⟨i, j, rfl, rfl, q⟩
theorem x_sub (q : Q (.int (i - j)) H) : rI0 (fun i j => .int (i - j)) (.int i) (.int j) H Q := ⟨i, j, rfl, rfl, q⟩
theorem x_lt (q : Q (.bl (decide (i < j))) H) : rI0 (fun i j => .bl (decide (i < j))) (.int i) (.int j) H Q := ⟨i, j, rfl, rfl, q⟩
theorem x_le (q : Q (.bl (decide (i ≤ j))) H) : rI0 (fun i j => .bl (decide (i ≤ j))) (.int i) (.int j) H Q := ⟨i, j, rfl, rfl, q⟩
theorem x_gt (q : Q (.bl (decide (j < i))) H) : rI0 (fun i j => .bl (decide (j < i))) (.int i) (.int j) H Q := ⟨i, j, rfl, rfl, q⟩
theorem x_ge (q : Q (.bl (decide (j ≤ i))) H) : rI0 (fun i j => .bl (decide (j ≤ i))) (.int i) (.int j) H Q := ⟨i, j, rfl, rfl, q⟩
theorem x_mul (h : CMul i j) (q : Q (.int (i * j)) H) : rI CMul (fun i j => .int (i * j)) (.int i) (.int j) H Q := ⟨i, j, rfl, rfl, h, q⟩
theorem x_mulW (h : CMulW i j) (q : Q (.int (i * j)) H) : rI CMulW (fun i j => .int (i * j)) (.int i) (.int j) H Q := ⟨i, j, rfl, rfl, h, q⟩
theorem x_pow (h : CPow i j) (q : Q (.int (i ^ j.toNat)) H) : rI CPow (fun i j => .int (i ^ j.toNat)) (.int i) (.int j) H Q := ⟨i, j, rfl, rfl, h, q⟩
theorem x_mod (h : 0 < j) (q : Q (.int (i % j)) H) : rI (fun _ j => 0 < j) (fun i j => .int (i % j)) (.int i) (.int j) H Q := ⟨i, j, rfl, rfl, h, q⟩
theorem x_div (h : CDiv i j) (q : Q (.int (i / j)) H) : rI CDiv (fun i j => .int (i / j)) (.int i) (.int j) H Q := ⟨i, j, rfl, rfl, h, q⟩
theorem x_divW (h : CDivW i j) (q : Q (.int (i / j)) H) : rI CDivW (fun i j => .int (i / j)) (.int i) (.int j) H Q := ⟨i, j, rfl, rfl, h, q⟩
theorem x_neg (q : Q (.int (-i)) H) : rU (fun i => .int (-i)) (.int i) H Q := ⟨i, rfl, q⟩
/-- == of two ints, as ints -/
theorem x_eqI (q : Q (.bl (decide (i = j))) H) : rEq (.int i) (.int j) H Q := ⟨rfl, by
  have e : decide (V.int i = V.int j) = decide (i = j) := decide_eq_decide.mpr ⟨fun h => V.int.inj h, fun h => congrArg V.int h⟩
  rw [e]; exact q⟩
theorem x_neI (q : Q (.bl (!decide (i = j))) H) : rNe (.int i) (.int j) H Q := ⟨rfl, by
  have e : decide (V.int i = V.int j) = decide (i = j) := decide_eq_decide.mpr ⟨fun h => V.int.inj h, fun h => congrArg V.int h⟩
  rw [e]; exact q⟩
theorem x_eqS {z w : Str} (q : Q (.bl (decide (z = w))) H) : rEq (.str z) (.str w) H Q := ⟨rfl, by
  have e : decide (V.str z = V.str w) = decide (z = w) := decide_eq_decide.mpr ⟨fun h => V.str.inj h, fun h => congrArg V.str h⟩
  rw [e]; exact q⟩
theorem x_neS {z w : Str} (q : Q (.bl (!decide (z = w))) H) : rNe (.str z) (.str w) H Q := ⟨rfl, by
  have e : decide (V.str z = V.str w) = decide (z = w) := decide_eq_decide.mpr ⟨fun h => V.str.inj h, fun h => congrArg V.str h⟩
  rw [e]; exact q⟩
theorem x_eqB {a c : Bool} (q : Q (.bl (decide (a = c))) H) : rEq (.bl a) (.bl c) H Q := ⟨rfl, by
  have e : decide (V.bl a = V.bl c) = decide (a = c) := decide_eq_decide.mpr ⟨fun h => V.bl.inj h, fun h => congrArg V.bl h⟩
  rw [e]; exact q⟩
theorem x_neB {a c : Bool} (q : Q (.bl (!decide (a = c))) H) : rNe (.bl a) (.bl c) H Q := ⟨rfl, by
  have e : decide (V.bl a = V.bl c) = decide (a = c) := decide_eq_decide.mpr ⟨fun h => V.bl.inj h, fun h => congrArg V.bl h⟩
  rw [e]; exact q⟩
theorem x_eqD {d e : PyData} (h1 : Dp K H x d) (h2 : Dp K H y e) (s1 : SeqAt.shaped d = true) (s2 : SeqAt.shaped e = true) (q : Q (.bl (PyData.eqv d e)) H) : rEqD K x y H Q := ⟨d, e, h1, h2, s1, s2, q⟩
theorem x_neD {d e : PyData} (h1 : Dp K H x d) (h2 : Dp K H y e) (s1 : SeqAt.shaped d = true) (s2 : SeqAt.shaped e = true) (q : Q (.bl (!PyData.eqv d e)) H) : rNeD K x y H Q := ⟨d, e, h1, h2, s1, s2, q⟩
theorem x_ltD {d e : PyData} (h1 : Dp K H x d) (h2 : Dp K H y e) (al : PySem.W.alike d e = true) (hn : d ≠ .none) (hd : d.depth ≤ 60) (q : Q (.bl (PySem.W.dataLt d e)) H) : rLtD K x y H Q := ⟨d, e, h1, h2, al, hn, hd, q⟩
theorem x_test {R : Bool → Hp → Prop} (q : te σ H fun x H' => ∃ k, x = .bl k ∧ R k H') : tTest te σ H R := q
theorem x_tB {R : Bool → Hp → Prop} (q : te σ H fun x H' => ∃ k, x = .bl k ∧ R k H') : tB te σ H R := q
theorem x_bl {R : Bool → Prop} (q : R b) : ∃ k, V.bl b = .bl k ∧ R k := ⟨b, rfl, q⟩
theorem x_seq (q : t { D with nx := u D } σ H) : tSeq t u D σ H := q
theorem x_asg {g : TG} (q : te σ H fun x H1 => g x σ H1 D.nx) : tAsg te g D σ H := q
theorem x_gname {n : Nat} {R : L2.St → Hp → Prop} (q : R (σ.set n (some v)) H) : gName n v σ H R := q
theorem x_ret (q : te σ H D.rt) : tRet te D σ H := q
theorem x_retN (q : D.rt .non H) : tRetN D σ H := q
theorem x_next (q : D.nx σ H) : tNext D σ H := q
theorem x_brk (q : D.bk σ H) : tBreak D σ H := q
theorem x_cont (q : D.ct σ H) : tCont D σ H := q
theorem x_drop (q : te σ H fun _ H1 => D.nx σ H1) : tDrop te D σ H := q
theorem x_if (q : tt σ H fun b H1 => if b = true then t D σ H1 else u D σ H1) : tIfS tt t u D σ H := q
theorem x_ife (q : tt σ H fun c H1 => if c = true then ta σ H1 Q else tb σ H1 Q) : tIf tt ta tb σ H Q := q
theorem x_and {R : Bool → Hp → Prop} (q : tt σ H fun c H1 => if c = true then uu σ H1 R else R false H1) : tAnd tt uu σ H R := q
theorem x_or {R : Bool → Hp → Prop} (q : tt σ H fun c H1 => if c = true then R true H1 else uu σ H1 R) : tOr tt uu σ H R := q
theorem x_not {R : Bool → Hp → Prop} (q : tt σ H fun c H1 => R (!c) H1) : tNot tt σ H R := q
theorem x_andV (q : ta σ H fun x H1 => ∃ c, x = .bl c ∧ if c = true then tb σ H1 Q else Q (.bl false) H1) : tAndV ta tb σ H Q := q
theorem x_orV (q : ta σ H fun x H1 => ∃ c, x = .bl c ∧ if c = true then Q (.bl true) H1 else tb σ H1 Q) : tOrV ta tb σ H Q := q
theorem x_notV (q : ta σ H fun x H1 => ∃ c, x = .bl c ∧ Q (.bl (!c)) H1) : tNotV ta σ H Q := q
theorem x_nil {R : List V → Hp → Prop} (q : R [] H) : tNil σ H R := q
theorem x_cons {tr : TA} {R : List V → Hp → Prop} (q : ta σ H fun x H1 => tr σ H1 fun xs H2 => R (x :: xs) H2) : tCons ta tr σ H R := q
theorem x_tup {tr : TA} (q : tr σ H fun xs H1 => xs.length ≤ sizeLine ∧ ∀ p, Fresh H1 p → Q (.ref p) (upd H1 p (.tup xs))) : tTup tr σ H Q := q
theorem x_lst {tr : TA} (q : tr σ H fun xs H1 => xs.length ≤ sizeLine ∧ ∀ p, Fresh H1 p → Q (.ref p) (upd H1 p (.lst xs))) : tLst tr σ H Q := q
theorem x_cal {sp : Sp} {E : XK} {tr : TA} (q : tr σ H fun vs H1 => sp vs H1 Q E) : tCal sp E tr σ H Q := q
theorem x_cb {r : List V → Hp → VK → Prop} {tr : TA} (q : tr σ H fun vs H1 => r vs H1 Q) : tCB r tr σ H Q := q
theorem x_sp1 {B : BK1} {E : XK} {a : V} (q : B a H Q E) : Sp1 B [a] H Q E := ⟨a, rfl, q⟩
theorem x_sp2 {B : BK2} {E : XK} {a b : V} (q : B a b H Q E) : Sp2 B [a, b] H Q E := ⟨a, b, rfl, q⟩
theorem x_sp3 {B : BK3} {E : XK} {a b c : V} (q : B a b c H Q E) : Sp3 B [a, b, c] H Q E := ⟨a, b, c, rfl, q⟩
theorem x_sp4 {B : BK4} {E : XK} {a b c d : V} (q : B a b c d H Q E) : Sp4 B [a, b, c, d] H Q E := ⟨a, b, c, d, rfl, q⟩
theorem x_sz {xs : List V} {P : Prop} (h : xs.length ≤ 1000) (q : P) : xs.length ≤ sizeLine ∧ P := ⟨Nat.le_trans h (by decide), q⟩
theorem x_ixL {p : Addr} {xs : List V} (h : SqL K H p xs) (ha : atI xs i = some v) (q : Q v H) : rIxL K (.ref p) (.int i) H Q := ⟨p, xs, i, v, rfl, rfl, h, ha, q⟩
theorem x_ixT {p : Addr} {xs : List V} (h : SqT K H p xs) (ha : atI xs i = some v) (q : Q v H) : rIxT K (.ref p) (.int i) H Q := ⟨p, xs, i, v, rfl, rfl, h, ha, q⟩
theorem x_ixS {z : Str} {c : Nat} (h : z.length ≤ sizeLine) (ha : atI z.cps.toList i = some c) (q : Q (.str ⟨#[c]⟩) H) : rIxS (.str z) (.int i) H Q := ⟨z, i, c, rfl, rfl, h, ha, q⟩
theorem x_gsub {to ti : TE} {s : TSet} {R : L2.St → Hp → Prop} (q : to σ H fun o H1 => ti σ H1 fun i H2 => s o i v H2 fun H3 => R σ H3) : gSub to ti s v σ H R := q
theorem x_setL {p : Addr} {xs : List V} {n : Nat} {R : Hp → Prop} (h : H p = some (.lst xs)) (hj : ixN xs.length i = some n) (q : R (upd H p (.lst (xs.set n v)))) : rSetL (.ref p) (.int i) v H R := ⟨p, xs, i, n, rfl, rfl, h, hj, q⟩
theorem x_gtup {p : Addr} {xs : List V} {n : Nat} {s : TGs} {R : L2.St → Hp → Prop} (h : SqT K H p xs) (hn : xs.length = n) (q : s xs σ H R) : gTup K n s (.ref p) σ H R := ⟨p, xs, rfl, h, hn, q⟩
theorem x_gcons {g : TG} {s : TGs} {vs : List V} {R : L2.St → Hp → Prop} (q : g v σ H fun σ' H' => s vs σ' H' R) : gCons g s (v :: vs) σ H R := ⟨v, vs, rfl, q⟩
theorem x_gnil {R : L2.St → Hp → Prop} (q : R σ H) : gNil [] σ H R := ⟨rfl, q⟩
theorem x_len {p : Addr} {xs : List V} (h : SqL K H p xs ∨ SqT K H p xs) (q : Q (.int xs.length) H) : rLen K [.ref p] H Q := ⟨p, xs, rfl, h, q⟩
theorem x_lenZ {z : Str} (h : z.length ≤ sizeLine) (q : Q (.int z.length) H) : rLenZ [.str z] H Q := ⟨z, rfl, h, q⟩
theorem x_lenD {p : Addr} {kvs : List (Key × V)} (h : H p = some (.dK kvs)) (q : Q (.int kvs.length) H) : rLenD [.ref p] H Q := ⟨p, kvs, rfl, h, q⟩
theorem x_abs (q : Q (.int (if i < 0 then -i else i)) H) : rAbs [.int i] H Q := ⟨i, rfl, q⟩
theorem x_max2 (q : Q (.int (if j > i then j else i)) H) : rMx2 [.int i, .int j] H Q := ⟨i, j, rfl, q⟩
theorem x_min2 (q : Q (.int (if j < i then j else i)) H) : rMn2 [.int i, .int j] H Q := ⟨i, j, rfl, q⟩
theorem x_intI (q : Q (.int i) H) : rInt1 [.int i] H Q := .inl ⟨i, rfl, q⟩
theorem x_intB (q : Q (.int (if b then 1 else 0)) H) : rInt1 [.bl b] H Q := .inr ⟨b, rfl, q⟩
theorem x_strI (h : i.natAbs.log2 < 1920) (q : Q (.str (toString i)) H) : rStrI [.int i] H Q := ⟨i, rfl, h, q⟩
theorem x_listOf {p : Addr} {xs : List V} (h : SqL K H p xs ∨ SqT K H p xs) (q : ∀ l, Fresh H l → Q (.ref l) (upd H l (.lst xs))) : rListOf K [.ref p] H Q := ⟨p, xs, rfl, h, q⟩
theorem x_tupL {p : Addr} {xs : List V} (h : SqL K H p xs) (q : ∀ l, Fresh H l → Q (.ref l) (upd H l (.tup xs))) : rTupOf K [.ref p] H Q := ⟨p, xs, rfl, .inl ⟨h, q⟩⟩
theorem x_addS {z w : Str} (h : z.length + w.length ≤ sizeLine) (q : Q (.str (z ++ w)) H) : rAddS (.str z) (.str w) H Q := ⟨z, w, rfl, rfl, h, q⟩
theorem x_ltS {z w : Str} (q : Q (.bl (decide (z.cps.toList < w.cps.toList))) H) : rLtS (.str z) (.str w) H Q := ⟨z, w, rfl, rfl, q⟩
theorem x_leS {z w : Str} (q : Q (.bl (!decide (w.cps.toList < z.cps.toList))) H) : rLeS (.str z) (.str w) H Q := ⟨z, w, rfl, rfl, q⟩
theorem x_isN (q : Q (.bl (decide (x = .non))) H) : rIsN x .non H Q := ⟨rfl, q⟩
theorem x_notN (q : Q (.bl (!decide (x = .non))) H) : rNotN x .non H Q := ⟨rfl, q⟩
theorem x_isi {a b : String} {r : Bool} (h : TyX K H x (.type a)) (k : kitB a b = some r) (q : Q (.bl r) H) : rIsi K [x, .ty b] H Q := ⟨x, .ty b, .type a, .type b, r, rfl, .ty b, h, kit_ty k, q⟩
theorem x_rng1 {R : It → Hp → Prop} {tr : TA} (q : tr σ H fun vs H1 => ∃ j : Int, vs = [.int j] ∧ -(2 ^ 62) ≤ j ∧ j < 2 ^ 62 ∧ R (Itr 0 j.toNat) H1) : iRng1 tr σ H R := q
theorem x_rng1' {R : Int → Prop} (h : -(2 ^ 62) ≤ i ∧ i < 2 ^ 62) (q : R i) : ∃ j : Int, [V.int i] = [.int j] ∧ -(2 ^ 62) ≤ j ∧ j < 2 ^ 62 ∧ R j := ⟨i, rfl, h.1, h.2, q⟩
theorem x_rng2 {R : It → Hp → Prop} {tr : TA} (q : tr σ H fun vs H1 => ∃ i j : Int, vs = [.int i, .int j] ∧ (-(2 ^ 62) ≤ i ∧ i < 2 ^ 62 ∧ -(2 ^ 62) ≤ j ∧ j < 2 ^ 62) ∧ R (Itr i (j - i).toNat) H1) : iRng2 tr σ H R := q
theorem x_iList {R : It → Hp → Prop} (q : te σ H fun x H1 => ∃ a, x = .ref a ∧ (∃ xs, SqL K H1 a xs) ∧ R (Itl K a) H1) : iList K te σ H R := q
theorem x_iTup {R : It → Hp → Prop} (q : te σ H fun x H1 => ∃ a, x = .ref a ∧ (∃ xs, SqT K H1 a xs) ∧ R (Itt K a) H1) : iTup K te σ H R := q
theorem x_iRef {p : Addr} {C : Addr → Prop} {R : Addr → Prop} (h : C p) (q : R p) : ∃ a, V.ref p = .ref a ∧ C a ∧ R a := ⟨p, rfl, h, q⟩
theorem x_sl {r : V → Option Int → Option Int → Hp → VK → Prop} {tl th : TO} (q : te σ H fun x H1 => tl σ H1 fun l H2 => th σ H2 fun u H3 => r x l u H3 Q) : tSl r te tl th σ H Q := q
theorem x_noP {R : Option Int → Hp → Prop} (q : R none H) : tNoPart σ H R := q
theorem x_part {R : Option Int → Hp → Prop} (q : te σ H fun x H1 => ∃ i, x = .int i ∧ R (some i) H1) : tPart te σ H R := q
theorem x_int {R : Int → Prop} (q : R i) : ∃ k, V.int i = .int k ∧ R k := ⟨i, rfl, q⟩
theorem x_slL {p : Addr} {xs : List V} {lo hi : Option Int} (h : SqL K H p xs) (q : ∀ l, Fresh H l → Q (.ref l) (upd H l (.lst (cutV xs lo hi)))) : rSlL K (.ref p) lo hi H Q := ⟨p, xs, rfl, h, q⟩
theorem x_bm {T : String} {r : V → List V → Hp → VK → Prop} {tr : TA} (q : te σ H fun x H1 => tyV K T x H1 ∧ tr σ H1 fun xs H2 => r x xs H2 Q) : tBM K T r te tr σ H Q := q
theorem x_bm0 {T : String} {r : V → List V → Hp → VK → Prop} (q : te σ H fun x H1 => tyV K T x H1 ∧ r x [] H1 Q) : tBM0 K T r te σ H Q := q
theorem x_append {p : Addr} {xs : List V} (h : H p = some (.lst xs)) (hs : xs.length ≤ 100000) (q : Q .non (upd H p (.lst (xs ++ [y])))) : rAppend (.ref p) [y] H Q := ⟨p, xs, y, rfl, rfl, h, Nat.lt_of_le_of_lt hs (by decide), q⟩
theorem x_cat {p r : Addr} {xs zs : List V} (h : H p = some (.lst xs)) (k : H r = some (.lst zs)) (hs : xs.length + zs.length ≤ 100000) (q : ∀ l, Fresh H l → Q (.ref l) (upd H l (.lst (xs ++ zs)))) : rCat (.ref p) (.ref r) H Q := ⟨p, r, xs, zs, rfl, rfl, h, k, Nat.le_trans hs (by decide), q⟩
theorem x_all {p : Addr} {bs : List Bool} (h : SqL K H p (bs.map V.bl)) (q : Q (.bl (bs.all id)) H) : rAll K [.ref p] H Q := ⟨p, bs, rfl, h, q⟩
/-- a for's turns -/
def ForG (J : It) (g : TG) (tb : TS) (D : Ends) (σ : L2.St) (H1 : Hp) : Prop := ∃ W : Nat → Nat → L2.St → Hp → Prop, (∃ m, W 0 m σ H1) ∧ ∀ i m σ H, W i m σ H →
  (J.stop i H ∧ D.nx σ H) ∨ (J.go i H ∧ ∃ N : L2.St → Hp → Prop, (∀ σ' H', N σ' H' → ∃ m', m' < m ∧ W (i + 1) m' σ' H') ∧ ∀ x H', J.yld i H x H' → g x σ H' fun σ2 H2 => tb { D with nx := N, ct := N, bk := D.nx } σ2 H2)
theorem x_for {wi : TI} {g : TG} {tb : TS} (q : wi σ H fun J H1 => ForG J g tb D σ H1) : tFor wi g tb D σ H := q
theorem x_forR {lo : Int} {n : Nat} {g : TG} {tb : TS} (Pv : Nat → L2.St → Hp → Prop) (h0 : Pv 0 σ H)
    (hs : ∀ i σ H, i < n → Pv i σ H → g (.int (lo + i)) σ H fun σ2 H2 => tb { D with nx := Pv (i + 1), ct := Pv (i + 1), bk := D.nx } σ2 H2) (hd : ∀ σ H, Pv n σ H → D.nx σ H) : ForG (Itr lo n) g tb D σ H := for_range Pv h0 hs hd
theorem x_forL {a : Addr} (xs : List V) {g : TG} {tb : TS} (Pv : Nat → L2.St → Hp → Prop) (h0 : Pv 0 σ H) (hl : ∀ i σ H, i ≤ xs.length → Pv i σ H → SqL K H a xs)
    (hs : ∀ i x σ H, xs[i]? = some x → Pv i σ H → g x σ H fun σ2 H2 => tb { D with nx := Pv (i + 1), ct := Pv (i + 1), bk := D.nx } σ2 H2) (hd : ∀ σ H, Pv xs.length σ H → D.nx σ H) : ForG (Itl K a) g tb D σ H := for_list Pv h0 hl hs hd
theorem x_forT {a : Addr} (xs : List V) {g : TG} {tb : TS} (Pv : Nat → L2.St → Hp → Prop) (h0 : Pv 0 σ H) (hl : ∀ i σ H, i ≤ xs.length → Pv i σ H → SqT K H a xs)
    (hs : ∀ i x σ H, xs[i]? = some x → Pv i σ H → g x σ H fun σ2 H2 => tb { D with nx := Pv (i + 1), ct := Pv (i + 1), bk := D.nx } σ2 H2) (hd : ∀ σ H, Pv xs.length σ H → D.nx σ H) : ForG (Itt K a) g tb D σ H := for_tup Pv h0 hl hs hd
/-- a list comprehension's turns -/
def LcG (J : It) (g : TG) (tt : TT) (te : TE) (vs : List Nat) (σ : L2.St) (H1 : Hp) (D : Addr) (Q : Hp → Prop) : Prop := ∃ W : Nat → Nat → Hp → Prop, (∃ m, W 0 m (upd H1 D (.lst []))) ∧ ∀ i m H, W i m H →
  (J.stop i H ∧ Q H) ∨ (J.go i H ∧ ∃ Nx : Hp → Prop, (∀ H', Nx H' → ∃ m', m' < m ∧ W (i + 1) m' H') ∧ ∀ x H', J.yld i H x H' → g x (wipe σ vs) H' fun σ2 H2 => wipe σ2 vs = wipe σ vs ∧ tt σ2 H2 fun b H3 =>
    if b = true then te σ2 H3 fun y H4 => ∃ acc, H4 D = some (.lst acc) ∧ acc.length < sizeLine ∧ Nx (upd H4 D (.lst (acc ++ [y]))) else Nx H3)
theorem x_lc {wi : TI} {g : TG} {vs : List Nat} (q : wi σ H fun J H1 => ∀ D, Fresh H1 D → LcG J g tt te vs σ H1 D fun H => Q (.ref D) H) : tLc wi g tt te vs σ H Q := q
/-- one turn -/
def LcT (g : TG) (tt : TT) (te : TE) (vs : List Nat) (σ : L2.St) (D : Addr) (x : V) (Nx : Hp → Prop) (H : Hp) : Prop := g x (wipe σ vs) H fun σ2 H2 => wipe σ2 vs = wipe σ vs ∧ tt σ2 H2 fun b H3 =>
    if b = true then te σ2 H3 fun y H4 => ∃ acc, H4 D = some (.lst acc) ∧ acc.length < sizeLine ∧ Nx (upd H4 D (.lst (acc ++ [y]))) else Nx H3
theorem x_lcR {lo : Int} {n : Nat} {g : TG} {vs : List Nat} {DD : Addr} {Qd : Hp → Prop} (Pv : Nat → Hp → Prop) (h0 : Pv 0 (upd H DD (.lst [])))
    (hs : ∀ i H, i < n → Pv i H → LcT g tt te vs σ DD (.int (lo + i)) (Pv (i + 1)) H) (hd : ∀ H, Pv n H → Qd H) : LcG (Itr lo n) g tt te vs σ H DD Qd := lc_range Pv h0 hs hd
theorem x_lcL {a : Addr} (xs : List V) {g : TG} {vs : List Nat} {DD : Addr} {Qd : Hp → Prop} (Pv : Nat → Hp → Prop) (h0 : Pv 0 (upd H DD (.lst []))) (hl : ∀ i H, i ≤ xs.length → Pv i H → SqL K H a xs)
    (hs : ∀ i x H, xs[i]? = some x → Pv i H → LcT g tt te vs σ DD x (Pv (i + 1)) H) (hd : ∀ H, Pv xs.length H → Qd H) : LcG (Itl K a) g tt te vs σ H DD Qd := lc_list Pv h0 hl hs hd
theorem x_lcT {a : Addr} (xs : List V) {g : TG} {vs : List Nat} {DD : Addr} {Qd : Hp → Prop} (Pv : Nat → Hp → Prop) (h0 : Pv 0 (upd H DD (.lst []))) (hl : ∀ i H, i ≤ xs.length → Pv i H → SqT K H a xs)
    (hs : ∀ i x H, xs[i]? = some x → Pv i H → LcT g tt te vs σ DD x (Pv (i + 1)) H) (hd : ∀ H, Pv xs.length H → Qd H) : LcG (Itt K a) g tt te vs σ H DD Qd := lc_tup Pv h0 hl hs hd
theorem x_lct {g : TG} {vs : List Nat} {DD : Addr} {Nx : Hp → Prop} (q : g v (wipe σ vs) H fun σ2 H2 => wipe σ2 vs = wipe σ vs ∧ tt σ2 H2 fun b H3 =>
    if b = true then te σ2 H3 fun y H4 => ∃ acc, H4 DD = some (.lst acc) ∧ acc.length < sizeLine ∧ Nx (upd H4 DD (.lst (acc ++ [y]))) else Nx H3) : LcT g tt te vs σ DD v Nx H := q
theorem x_wip {a b : L2.St} {B : Prop} (h : a = b) (q : B) : a = b ∧ B := ⟨h, q⟩
theorem x_tyes {R : Bool → Hp → Prop} (q : R true H) : tYes σ H R := q
theorem x_acc {DD : Addr} {acc : List V} {R : List V → Prop} (h : H DD = some (.lst acc)) (hs : acc.length ≤ 100000) (q : R acc) : ∃ acc, H DD = some (.lst acc) ∧ acc.length < sizeLine ∧ R acc := ⟨acc, h, Nat.lt_of_le_of_lt hs (by decide), q⟩
theorem x_while {W : Nat → L2.St → Hp → Prop} {tb : TS} (m : Nat) (h0 : W m σ H) (hs : ∀ m σ H, W m σ H → tt σ H fun c H1 => if c = true then ∃ N : L2.St → Hp → Prop, (∀ σ' H', N σ' H' → ∃ m', m' < m ∧ W m' σ' H') ∧ tb { D with nx := N, ct := N, bk := D.nx } σ H1 else D.nx σ H1) : tWhile tt tb D σ H := ⟨W, ⟨m, h0⟩, hs⟩
theorem x_yes {c : Bool} {A B : Prop} (hc : c = true) (q : A) : if c = true then A else B := by rw [if_pos hc]; exact q
theorem x_no {c : Bool} {A B : Prop} (hc : c = false) (q : B) : if c = true then A else B := by rw [hc, if_neg Bool.false_ne_true]; exact q
theorem x_iteT {A B : Prop} (q : A) : if true = true then A else B := by rw [if_pos rfl]; exact q
theorem x_iteF {A B : Prop} (q : B) : if false = true then A else B := by rw [if_neg Bool.false_ne_true]; exact q
theorem x_bool {c : Bool} {A B : Prop} (h1 : c = true → A) (h2 : c = false → B) : if c = true then A else B := by
  cases c with
  | true => exact x_iteT (h1 rfl)
  | false => exact x_iteF (h2 rfl)
theorem x_dec {p : Prop} [Decidable p] {A B : Prop} (h1 : p → A) (h2 : ¬ p → B) : if decide p = true then A else B := x_bool (fun e => h1 (of_decide_eq_true e)) (fun e => h2 (of_decide_eq_false e))
theorem x_ndec {p : Prop} [Decidable p] {A B : Prop} (h1 : ¬ p → A) (h2 : p → B) : if (!decide p) = true then A else B := x_bool (fun e => h1 (of_decide_eq_false (by simpa using e))) (fun e => h2 (of_decide_eq_true (by simpa using e)))
end
theorem kit_NoneType_bool : kitB "NoneType" "bool" = some false := by decide +kernel
theorem kit_NoneType_int : kitB "NoneType" "int" = some false := by decide +kernel
theorem kit_NoneType_str : kitB "NoneType" "str" = some false := by decide +kernel
theorem kit_NoneType_list : kitB "NoneType" "list" = some false := by decide +kernel
theorem kit_NoneType_tuple : kitB "NoneType" "tuple" = some false := by decide +kernel
theorem kit_NoneType_dict : kitB "NoneType" "dict" = some false := by decide +kernel
theorem kit_bool_bool : kitB "bool" "bool" = some true := by decide +kernel
theorem kit_bool_int : kitB "bool" "int" = some true := by decide +kernel
theorem kit_bool_str : kitB "bool" "str" = some false := by decide +kernel
theorem kit_bool_list : kitB "bool" "list" = some false := by decide +kernel
theorem kit_bool_tuple : kitB "bool" "tuple" = some false := by decide +kernel
theorem kit_bool_dict : kitB "bool" "dict" = some false := by decide +kernel
theorem kit_int_bool : kitB "int" "bool" = some false := by decide +kernel
theorem kit_int_int : kitB "int" "int" = some true := by decide +kernel
theorem kit_int_str : kitB "int" "str" = some false := by decide +kernel
theorem kit_int_list : kitB "int" "list" = some false := by decide +kernel
theorem kit_int_tuple : kitB "int" "tuple" = some false := by decide +kernel
theorem kit_int_dict : kitB "int" "dict" = some false := by decide +kernel
theorem kit_str_bool : kitB "str" "bool" = some false := by decide +kernel
theorem kit_str_int : kitB "str" "int" = some false := by decide +kernel
theorem kit_str_str : kitB "str" "str" = some true := by decide +kernel
theorem kit_str_list : kitB "str" "list" = some false := by decide +kernel
theorem kit_str_tuple : kitB "str" "tuple" = some false := by decide +kernel
theorem kit_str_dict : kitB "str" "dict" = some false := by decide +kernel
theorem kit_list_bool : kitB "list" "bool" = some false := by decide +kernel
theorem kit_list_int : kitB "list" "int" = some false := by decide +kernel
theorem kit_list_str : kitB "list" "str" = some false := by decide +kernel
theorem kit_list_list : kitB "list" "list" = some true := by decide +kernel
theorem kit_list_tuple : kitB "list" "tuple" = some false := by decide +kernel
theorem kit_list_dict : kitB "list" "dict" = some false := by decide +kernel
theorem kit_tuple_bool : kitB "tuple" "bool" = some false := by decide +kernel
theorem kit_tuple_int : kitB "tuple" "int" = some false := by decide +kernel
theorem kit_tuple_str : kitB "tuple" "str" = some false := by decide +kernel
theorem kit_tuple_list : kitB "tuple" "list" = some false := by decide +kernel
theorem kit_tuple_tuple : kitB "tuple" "tuple" = some true := by decide +kernel
theorem kit_tuple_dict : kitB "tuple" "dict" = some false := by decide +kernel
theorem kit_dict_bool : kitB "dict" "bool" = some false := by decide +kernel
theorem kit_dict_int : kitB "dict" "int" = some false := by decide +kernel
theorem kit_dict_str : kitB "dict" "str" = some false := by decide +kernel
theorem kit_dict_list : kitB "dict" "list" = some false := by decide +kernel
theorem kit_dict_tuple : kitB "dict" "tuple" = some false := by decide +kernel
theorem kit_dict_dict : kitB "dict" "dict" = some true := by decide +kernel
end Tw

/-! TwB: what the laws draw from; keys. -/
namespace Tw
open PySem PySem.Spec PyProof.Rows L2
/-- a well: a list of four ints, the first one a rest -/
def Well (H : Hp) (p : Addr) : Prop := ∃ c n g l : Int, H p = some (.lst [.int c, .int n, .int g, .int l]) ∧ 0 ≤ c ∧ c < 2147483647
theorem Well.fr {S : Addr → Prop} {H H1 : Hp} {p : Addr} (h : Well H p) (f : Fr S H H1) (n : ¬ S p) : Well H1 p := by
  obtain ⟨c, m, g, l, e, r⟩ := h
  exact ⟨c, m, g, l, f.keep _ _ e n, r⟩
theorem Well.some {H : Hp} {p : Addr} (h : Well H p) : ∃ xs, H p = some (.lst xs) := by
  obtain ⟨c, m, g, l, e, r⟩ := h
  exact ⟨_, e⟩
theorem Well.ne {H : Hp} {p l : Addr} (h : Well H p) (n : Fresh H l) : l ≠ p := fun e => by
  obtain ⟨xs, q⟩ := h.some
  have n0 : H l = none := n
  rw [← e, n0] at q; cases q
/-- what may be drawn from -/
def PullOk (m : Int) : Prop := 0 < m ∧ m.natAbs.log2 < 9000
theorem PullOk.small {m : Int} (h : 0 < m) (h2 : m ≤ 9223372036854775808) : PullOk m := by
  refine ⟨h, Nat.lt_of_lt_of_le (PySem.Flt.log2_lt_of (show 0 < 64 by decide) ?_) (by decide)⟩
  have e : (2 : Nat) ^ 64 = 18446744073709551616 := by decide
  rw [e]; omega
/-- a text's first written constant -/
def strIn (s : Stmt) : Str := match defBody s with
  | (.Assign _ (.Constant (.str x) _ _) _) :: _ => x
  | _ => PySem.Str.empty

/-! ### keys as data -/
def numOk (i : Int) : Prop := -(10 ^ 60) < i ∧ i < 10 ^ 60
def txtOk (z : Str) : Prop := z.length ≤ 40 ∧ ∀ c ∈ z.cps.toList, 32 ≤ c ∧ c ≤ 126
/-- a key in which no more tuples than r lie within one another -/
def isK : Nat → PyData → Prop
  | _, .int i => numOk i
  | _, .str z => txtOk z
  | r + 1, .tuple ds => ds.length ≤ 4 ∧ ∀ d ∈ ds, isK r d
  | _, _ => False
theorem isK_int {r : Nat} {i : Int} : isK r (.int i) = numOk i := by cases r <;> rfl
theorem isK_str {r : Nat} {z : Str} : isK r (.str z) = txtOk z := by cases r <;> rfl
theorem isK_tup {r : Nat} {ds : List PyData} : isK (r + 1) (.tuple ds) = (ds.length ≤ 4 ∧ ∀ d ∈ ds, isK r d) := rfl
theorem str_len (z : Str) : z.length = z.cps.toList.length := by simp [PySem.Str.length]
theorem str_app (a b : Str) : (a ++ b).cps.toList = a.cps.toList ++ b.cps.toList := by simp [PySem.Str.cps_append]
theorem txt_app {z : Str} {c n : Nat} (h : z.length ≤ n) (hz : ∀ d ∈ z.cps.toList, 32 ≤ d ∧ d ≤ 126) (hc : 32 ≤ c ∧ c ≤ 126) : (z ++ (⟨#[c]⟩ : Str)).length ≤ n + 1 ∧ ∀ d ∈ (z ++ (⟨#[c]⟩ : Str)).cps.toList, 32 ≤ d ∧ d ≤ 126 := by
  refine ⟨?_, fun d hd => ?_⟩
  · rw [PySem.Str.length_append]
    have : (⟨#[c]⟩ : Str).length = 1 := rfl
    omega
  · rw [str_app] at hd
    rcases List.mem_append.mp hd with hd | hd
    · exact hz d hd
    · have e : d = c := by simpa using hd
      subst e; exact hc
end Tw

/-! TwC: readings for values of several kinds; the order of keys. -/
namespace Tw
open PySem PySem.Spec PyProof.Rows L2
section
variable {X : Cx}
/-- len of a list, a tuple or a text -/
def rLenA (K : PySem.W.Frag) : List V → Hp → VK → Prop := fun xs H Q => rLen K xs H Q ∨ rLenZ xs H Q
theorem c_lenA : CallR X (.builtin "len") (rLenA X.K) := CallR.or c_len c_lenZ
/-- + of two texts or two tuples -/
def rAddT (K : PySem.W.Frag) : R2 := fun x y H Q => rAddS x y H Q ∨ rCatA K x y H Q
theorem o_addT : OpR X (binaryOp .Add) (rAddT X.K) := OpR.or o_addS op_catA
def rGtS : R2 := fun x y H Q => ∃ i j, x = .str i ∧ y = .str j ∧ Q (.bl (decide (j.cps.toList < i.cps.toList))) H
theorem o_gtS : OpR X (compareOp .Gt) rGtS := op_gt_str
def rGeS : R2 := fun x y H Q => ∃ i j, x = .str i ∧ y = .str j ∧ Q (.bl (!decide (i.cps.toList < j.cps.toList))) H
theorem o_geS : OpR X (compareOp .GtE) rGeS := op_ge_str
theorem u65 {k : Nat} {A : Around} (hr : Room k A) : A.units + 65 < cLine := by have := hr.un; omega
/-- a part of a list, a tuple or a text -/
def rSlX (K : PySem.W.Frag) : V → Option Int → Option Int → Hp → VK → Prop := fun x lo hi H Q => rSlL K x lo hi H Q ∨ (rSlA K x lo hi H Q ∨ rSlS x lo hi H Q)
theorem sl_any : SlR X (rSlX X.K) := SlR.or sl_list (SlR.or sl_tupA sl_str)
end
section
variable {K : PySem.W.Frag} {H : Hp} {Q : VK} {x y v : V} {i j : Int}
theorem x_chain {σ : L2.St} {ta tb tc : TE} {r r' : R2} (q : ta σ H fun x H1 => tb σ H1 fun y H2 => r x y H2 fun z H3 => ∃ k, z = .bl k ∧ (if k = true then tc σ H3 fun w' H4 => r' y w' H4 Q else Q (.bl false) H3)) : tChain r r' ta tb tc σ H Q := q
theorem x_gtS {z w : Str} (q : Q (.bl (decide (w.cps.toList < z.cps.toList))) H) : rGtS (.str z) (.str w) H Q := ⟨z, w, rfl, rfl, q⟩
theorem x_geS {z w : Str} (q : Q (.bl (!decide (z.cps.toList < w.cps.toList))) H) : rGeS (.str z) (.str w) H Q := ⟨z, w, rfl, rfl, q⟩
theorem x_inD {d : PyData} {ds : List PyData} (h1 : Dp K H x d) (h2 : Dp K H y (.list ds)) (s1 : SeqAt.shaped d = true) (s2 : SeqAt.shaped (.list ds) = true) (q : Q (.bl (ds.any fun z => PyData.eqv z d)) H) : rInD K x y H Q := ⟨d, ds, h1, h2, s1, s2, q⟩
theorem x_notInD {d : PyData} {ds : List PyData} (h1 : Dp K H x d) (h2 : Dp K H y (.list ds)) (s1 : SeqAt.shaped d = true) (s2 : SeqAt.shaped (.list ds) = true) (q : Q (.bl (!ds.any fun z => PyData.eqv z d)) H) : rNotInD K x y H Q := ⟨d, ds, h1, h2, s1, s2, q⟩
theorem x_isiI {b : String} {r : Bool} (k : kitB "int" b = some r) (q : Q (.bl r) H) : rIsi K [.int i, .ty b] H Q := x_isi (.base (.int i)) k q
theorem x_isiB {c : Bool} {b : String} {r : Bool} (k : kitB "bool" b = some r) (q : Q (.bl r) H) : rIsi K [.bl c, .ty b] H Q := x_isi (.base (.bl c)) k q
theorem x_isiS {c : Str} {b : String} {r : Bool} (k : kitB "str" b = some r) (q : Q (.bl r) H) : rIsi K [.str c, .ty b] H Q := x_isi (.base (.str c)) k q
theorem x_isiN {b : String} {r : Bool} (k : kitB "NoneType" b = some r) (q : Q (.bl r) H) : rIsi K [.non, .ty b] H Q := x_isi (.base .non) k q
theorem x_isiT {p : Addr} {xs : List V} {b : String} {r : Bool} (h : H p = some (.tup xs)) (k : kitB "tuple" b = some r) (q : Q (.bl r) H) : rIsi K [.ref p, .ty b] H Q := x_isi (.base (.tup h)) k q
theorem x_isiL {p : Addr} {xs : List V} {b : String} {r : Bool} (h : H p = some (.lst xs)) (k : kitB "list" b = some r) (q : Q (.bl r) H) : rIsi K [.ref p, .ty b] H Q := x_isi (.base (.lst h)) k q
theorem x_isiD {p : Addr} {xs : List (Key × V)} {b : String} {r : Bool} (h : H p = some (.dK xs)) (k : kitB "dict" b = some r) (q : Q (.bl r) H) : rIsi K [.ref p, .ty b] H Q := x_isi (.base (.dK h)) k q
theorem x_tyL {p : Addr} {xs : List V} {B : Prop} (h : SqL K H p xs) (q : B) : tyV K "list" (.ref p) H ∧ B := ⟨.inl ⟨rfl, xs, h⟩, q⟩
theorem x_tyS {z : Str} {B : Prop} (q : B) : tyV K "str" (.str z) H ∧ B := ⟨rfl, q⟩
theorem x_tyD {p : Addr} {kvs : List (Key × V)} {B : Prop} (h : H p = some (.dK kvs)) (q : B) : tyV K "dict" (.ref p) H ∧ B := ⟨.inr (.inr (.inl ⟨rfl, .inl ⟨kvs, h⟩⟩)), q⟩
theorem x_lenAs {p : Addr} {xs : List V} (h : SqL K H p xs ∨ SqT K H p xs) (q : Q (.int xs.length) H) : rLenA K [.ref p] H Q := .inl ⟨p, xs, rfl, h, q⟩
theorem x_lenAz {z : Str} (h : z.length ≤ sizeLine) (q : Q (.int z.length) H) : rLenA K [.str z] H Q := .inr ⟨z, rfl, h, q⟩
theorem x_addTz {z w : Str} (h : z.length + w.length ≤ sizeLine) (q : Q (.str (z ++ w)) H) : rAddT K (.str z) (.str w) H Q := .inl ⟨z, w, rfl, rfl, h, q⟩
/-- + of tuples: where it stands, that is one tuple -/
theorem x_catA {a b : Addr} {xs ys : List V} (ha : SqT K H a xs) (hb : SqT K H b ys) (hz : xs.length + ys.length ≤ 100000)
    (q0 : xs = [] → Q (.ref b) H) (q1 : xs ≠ [] → ys = [] → Q (.ref a) H) (q2 : xs ≠ [] → ys ≠ [] → ∀ p, Fresh H p → Q (.ref p) (upd H p (.tup (xs ++ ys)))) : rCatA K (.ref a) (.ref b) H Q :=
  ⟨a, b, xs, ys, rfl, rfl, ha, hb, Nat.le_trans hz (by decide), q0, q1, q2⟩
theorem x_catD {a b : Addr} {xs ys : List V} {ds es : List PyData} (ha : H a = some (.tup xs)) (hb : H b = some (.tup ys)) (da : DtAll H xs ds) (db : DtAll H ys es) (hz : xs.length + ys.length ≤ 100000)
    (q : ∀ p H', Fr Non H H' → Dt H' (.ref p) (.tuple (ds ++ es)) → Q (.ref p) H') : rCatA K (.ref a) (.ref b) H Q := by
  refine x_catA (SqT.of ha) (SqT.of hb) hz (fun e => ?_) (fun _ e => ?_) (fun _ _ p n => ?_)
  · subst e; cases da; exact q b H (Fr.refl _) (.tup hb db)
  · subst e; cases db; rw [List.append_nil] at q; exact q a H (Fr.refl _) (.tup ha da)
  · exact q p _ (Fr.new (Fr.refl _) n) (.tup upd_same (DtAll.app (da.upd n) (db.upd n)))
theorem x_addTt (q : rCatA K x y H Q) : rAddT K x y H Q := .inr q
theorem x_slXz {z : Str} {lo hi : Option Int} (h : z.length ≤ sizeLine) (q : Q (.str (cutS z lo hi)) H) : rSlX K (.str z) lo hi H Q := .inr (.inr ⟨z, rfl, h, q⟩)
theorem x_slXt {lo hi : Option Int} (q : rSlA K x lo hi H Q) : rSlX K x lo hi H Q := .inr (.inl q)
theorem cutV_eq (xs : List V) (lo hi : Option Int) : cutV xs lo hi = (xs.drop (HT.sIx xs.length 0 lo)).take (HT.sIx xs.length xs.length hi - HT.sIx xs.length 0 lo) := rfl
theorem x_slD {a : Addr} {xs : List V} {ds : List PyData} {lo hi : Option Int} (ha : H a = some (.tup xs)) (da : DtAll H xs ds)
    (q : ∀ p H', Fr Non H H' → Dt H' (.ref p) (.tuple ((ds.drop (HT.sIx xs.length 0 lo)).take (HT.sIx xs.length xs.length hi - HT.sIx xs.length 0 lo))) → Q (.ref p) H') : rSlA K (.ref a) lo hi H Q := by
  refine ⟨a, xs, rfl, SqT.of ha, fun ⟨e1, e2⟩ => ?_, fun _ p n => ?_⟩
  · refine q a H (Fr.refl _) ?_
    rw [e1, e2, List.drop_zero, Nat.sub_zero, List.take_of_length_le (Nat.le_of_eq da.length.symm)]
    exact .tup ha da
  · exact q p _ (Fr.new (Fr.refl _) n) (.tup upd_same (by rw [cutV_eq]; exact ((da.drop _).take _).upd n))
theorem x_ixAt {p : Addr} {xs : List V} (h : SqT K H p xs) (ha : atI xs i = some v) (q : Q v H) : rIx K (.ref p) (.int i) H Q := .inr (.inl ⟨p, xs, i, v, rfl, rfl, h, ha, q⟩)
theorem x_ixAl {p : Addr} {xs : List V} (h : SqL K H p xs) (ha : atI xs i = some v) (q : Q v H) : rIx K (.ref p) (.int i) H Q := .inl ⟨p, xs, i, v, rfl, rfl, h, ha, q⟩
theorem x_ixAz {z : Str} {c : Nat} (h : z.length ≤ sizeLine) (ha : atI z.cps.toList i = some c) (q : Q (.str ⟨#[c]⟩) H) : rIx K (.str z) (.int i) H Q := .inr (.inr ⟨z, i, c, rfl, rfl, h, ha, q⟩)
end

/-! ### keys: depth, equality -/
theorem isK_cases {r : Nat} {d : PyData} (h : isK r d) : (∃ i, d = .int i ∧ numOk i) ∨ (∃ z, d = .str z ∧ txtOk z) ∨ ∃ r1 ds, r = r1 + 1 ∧ d = .tuple ds ∧ ds.length ≤ 4 ∧ ∀ e ∈ ds, isK r1 e := by
  cases d with
  | int i => rw [isK_int] at h; exact .inl ⟨i, rfl, h⟩
  | str z => rw [isK_str] at h; exact .inr (.inl ⟨z, rfl, h⟩)
  | tuple ds =>
    cases r with
    | zero => cases h
    | succ r1 => exact .inr (.inr ⟨r1, ds, rfl, rfl, h.1, h.2⟩)
  | none => cases r <;> cases h
  | bool => cases r <;> cases h
  | list => cases r <;> cases h
  | dict => cases r <;> cases h
theorem isK_up : ∀ {r : Nat} {d : PyData}, isK r d → isK (r + 1) d
  | r, d, h => by
    rcases isK_cases h with ⟨i, rfl, h3⟩ | ⟨z, rfl, h3⟩ | ⟨r1, ds, rfl, rfl, h1, h2⟩
    · rw [isK_int]; exact h3
    · rw [isK_str]; exact h3
    · rw [isK_tup]; exact ⟨h1, fun e he => isK_up (h2 e he)⟩
theorem isK_le {r s : Nat} (h : r ≤ s) {d : PyData} (k : isK r d) : isK s d := by
  obtain ⟨t, rfl⟩ : ∃ t, s = r + t := ⟨s - r, by omega⟩
  clear h
  induction t with
  | zero => exact k
  | succ t ih => exact isK_up ih
theorem depthAll_le {n : Nat} : ∀ {ds : List PyData}, (∀ d ∈ ds, d.depth ≤ n) → PyData.depthAll ds ≤ n
  | [], _ => Nat.zero_le _
  | d :: ds, h => by
    rw [PyData.depthAll]
    exact Nat.max_le.mpr ⟨h d (List.mem_cons_self ..), depthAll_le fun e he => h e (List.mem_cons_of_mem _ he)⟩
theorem isK_depth : ∀ {r : Nat} {d : PyData}, isK r d → d.depth ≤ r
  | r, d, h => by
    rcases isK_cases h with ⟨i, rfl, _⟩ | ⟨z, rfl, _⟩ | ⟨r1, ds, rfl, rfl, _, h2⟩
    · exact Nat.zero_le _
    · exact Nat.zero_le _
    · show PyData.depthAll ds + 1 ≤ r1 + 1
      exact Nat.succ_le_succ (depthAll_le fun e he => isK_depth (h2 e he))
theorem canLayAll0_of : ∀ {ds : List PyData}, (∀ d ∈ ds, d.canLay0 = true) → PyData.canLayAll0 ds = true
  | [], _ => rfl
  | d :: ds, h => by
    rw [PyData.canLayAll0, h d (List.mem_cons_self ..), canLayAll0_of fun e he => h e (List.mem_cons_of_mem _ he)]; rfl
theorem txt_strOk {z : Str} (h : ∀ c ∈ z.cps.toList, 32 ≤ c ∧ c ≤ 126) : PyData.strOk z = true := by
  unfold PyData.strOk
  rw [Array.all_eq_true_iff_forall_mem]
  intro c hc
  have := h c (Array.mem_toList_iff.mpr hc)
  exact decide_eq_true (by omega)
theorem isK_lay : ∀ {r : Nat} {d : PyData}, isK r d → d.canLay0 = true
  | r, d, h => by
    rcases isK_cases h with ⟨i, rfl, _⟩ | ⟨z, rfl, h3⟩ | ⟨r1, ds, rfl, rfl, _, h2⟩
    · rfl
    · exact txt_strOk h3.2
    · show PyData.canLayAll0 ds = true
      exact canLayAll0_of fun e he => isK_lay (h2 e he)
theorem isK_shaped {r : Nat} {d : PyData} (h : isK r d) (hr : r ≤ 60) : SeqAt.shaped d = true := by
  unfold SeqAt.shaped
  rw [isK_lay h, decide_eq_true (Nat.le_trans (isK_depth h) (by omega))]; rfl
theorem isK_ne {r : Nat} {d : PyData} (h : isK r d) : d ≠ .none := fun e => by subst e; cases r <;> cases h
theorem str_beq {x y : Str} : (x == y) = true ↔ x = y := by simp
mutual
theorem eqv_of_eq : ∀ {r : Nat} {d : PyData}, isK r d → PyData.eqv d d = true
  | r, d, h => by
    rcases isK_cases h with ⟨i, rfl, _⟩ | ⟨z, rfl, h⟩ | ⟨r1, ds, rfl, rfl, _, h2⟩
    · rw [PyData.eqv]; exact beq_self_eq_true _
    · rw [PyData.eqv]; exact beq_self_eq_true _
    · rw [PyData.eqv]; exact eqvAll_of_eq h2
theorem eqvAll_of_eq : ∀ {r : Nat} {ds : List PyData}, (∀ d ∈ ds, isK r d) → PyData.eqvAll ds ds = true
  | r, [], _ => rfl
  | r, d :: ds, h => by
    rw [PyData.eqvAll, eqv_of_eq (h d (List.mem_cons_self ..)), eqvAll_of_eq fun e he => h e (List.mem_cons_of_mem _ he)]; rfl
end
mutual
theorem eq_of_eqv : ∀ {r s : Nat} {d e : PyData}, isK r d → isK s e → PyData.eqv d e = true → d = e
  | r, s, d, e, h, k, q => by
    rcases isK_cases h with ⟨i, rfl, _⟩ | ⟨z, rfl, h⟩ | ⟨r1, ds, rfl, rfl, _, h2⟩
    · rcases isK_cases k with ⟨j, rfl, _⟩ | ⟨w, rfl, k⟩ | ⟨s1, es, rfl, rfl, _, k2⟩
      · rw [PyData.eqv] at q; rw [eq_of_beq q]
      · rw [PyData.eqv] at q; cases q
      · rw [PyData.eqv] at q; cases q
    · rcases isK_cases k with ⟨j, rfl, _⟩ | ⟨w, rfl, k⟩ | ⟨s1, es, rfl, rfl, _, k2⟩
      · rw [PyData.eqv] at q; cases q
      · rw [PyData.eqv] at q; rw [eq_of_beq q]
      · rw [PyData.eqv] at q; cases q
    · rcases isK_cases k with ⟨j, rfl, _⟩ | ⟨w, rfl, k⟩ | ⟨s1, es, rfl, rfl, _, k2⟩
      · rw [PyData.eqv] at q; cases q
      · rw [PyData.eqv] at q; cases q
      · rw [PyData.eqv] at q; rw [eqAll_of_eqv h2 k2 q]
theorem eqAll_of_eqv : ∀ {r s : Nat} {ds es : List PyData}, (∀ d ∈ ds, isK r d) → (∀ d ∈ es, isK s d) → PyData.eqvAll ds es = true → ds = es
  | r, s, [], [], _, _, _ => rfl
  | r, s, d :: ds, e :: es, h, k, q => by
    rw [PyData.eqvAll, Bool.and_eq_true] at q
    rw [eq_of_eqv (h d (List.mem_cons_self ..)) (k e (List.mem_cons_self ..)) q.1, eqAll_of_eqv (fun e he => h e (List.mem_cons_of_mem _ he)) (fun e he => k e (List.mem_cons_of_mem _ he)) q.2]
  | r, s, [], e :: es, _, _, q => by rw [PyData.eqvAll] at q; cases q
  | r, s, d :: ds, [], _, _, q => by rw [PyData.eqvAll] at q; cases q
end
theorem eqv_iff {r s : Nat} {d e : PyData} (h : isK r d) (k : isK s e) : PyData.eqv d e = true ↔ d = e :=
  ⟨eq_of_eqv h k, fun q => by subst q; exact eqv_of_eq h⟩

/-! ### the order -/
mutual
/-- what the program compares in a key's place -/
def rankD : PyData → PyData
  | .int i => .tuple [.int 0, .int i, .str "", .tuple []]
  | .str z => .tuple [.int 1, .int 0, .str z, .tuple []]
  | .tuple ds => .tuple [.int 2, .int 0, .str "", .tuple (rankAll ds)]
  | .none | .bool _ | .list _ | .dict _ => .tuple [.int 3, .int 0, .str "", .tuple []]
def rankAll : List PyData → List PyData
  | [] => []
  | d :: ds => rankD d :: rankAll ds
end
theorem rankAll_map : ∀ ds : List PyData, rankAll ds = ds.map rankD
  | [] => rfl
  | d :: ds => by rw [rankAll, rankAll_map ds]; rfl
open PySem.W in
theorem alike4 (a b c d : Int) (x y : Str) {ds es : List PyData} (h : alikeAll ds es = true) : alike (.tuple [.int a, .int b, .str x, .tuple ds]) (.tuple [.int c, .int d, .str y, .tuple es]) = true := by
  simp [alike, alikeAll, h]
open PySem.W in
mutual
theorem rank_alike : ∀ d e : PyData, alike (rankD d) (rankD e) = true
  | .tuple ds, e => by
    cases e with
    | tuple es => exact alike4 _ _ _ _ _ _ (rankAll_alike ds es)
    | int => exact alike4 _ _ _ _ _ _ (by cases ds <;> simp [rankAll, alikeAll])
    | str => exact alike4 _ _ _ _ _ _ (by cases ds <;> simp [rankAll, alikeAll])
    | none => exact alike4 _ _ _ _ _ _ (by cases ds <;> simp [rankAll, alikeAll])
    | bool => exact alike4 _ _ _ _ _ _ (by cases ds <;> simp [rankAll, alikeAll])
    | list => exact alike4 _ _ _ _ _ _ (by cases ds <;> simp [rankAll, alikeAll])
    | dict => exact alike4 _ _ _ _ _ _ (by cases ds <;> simp [rankAll, alikeAll])
  | .int i, e => by cases e <;> exact alike4 _ _ _ _ _ _ (by simp [alikeAll])
  | .str i, e => by cases e <;> exact alike4 _ _ _ _ _ _ (by simp [alikeAll])
  | .none, e => by cases e <;> exact alike4 _ _ _ _ _ _ (by simp [alikeAll])
  | .bool i, e => by cases e <;> exact alike4 _ _ _ _ _ _ (by simp [alikeAll])
  | .list i, e => by cases e <;> exact alike4 _ _ _ _ _ _ (by simp [alikeAll])
  | .dict i, e => by cases e <;> exact alike4 _ _ _ _ _ _ (by simp [alikeAll])
theorem rankAll_alike : ∀ ds es : List PyData, alikeAll (rankAll ds) (rankAll es) = true
  | [], _ => by simp [rankAll, alikeAll]
  | _ :: _, [] => by simp [rankAll, alikeAll]
  | d :: ds, e :: es => by rw [rankAll, rankAll, alikeAll, rank_alike d e, rankAll_alike ds es]; rfl
end
theorem rank_ne (d : PyData) : rankD d ≠ .none := by cases d <;> (rw [rankD]; exact fun h => nomatch h)
theorem depth4 (a b : Int) (x : Str) {ds : List PyData} {n : Nat} (h : PyData.depthAll ds ≤ n) : (PyData.tuple [.int a, .int b, .str x, .tuple ds]).depth ≤ n + 2 := by
  simp only [PyData.depth, PyData.depthAll]
  omega
theorem rank_depth : ∀ {r : Nat} {d : PyData}, isK r d → (rankD d).depth ≤ 2 * r + 2
  | r, d, h => by
    rcases isK_cases h with ⟨i, rfl, _⟩ | ⟨z, rfl, _⟩ | ⟨r1, ds, rfl, rfl, _, h2⟩
    · rw [rankD]; exact depth4 _ _ _ (Nat.zero_le _)
    · rw [rankD]; exact depth4 _ _ _ (Nat.zero_le _)
    · rw [rankD]
      refine depth4 _ _ _ ?_
      rw [rankAll_map]
      refine depthAll_le fun e he => ?_
      obtain ⟨e0, h0, rfl⟩ := List.mem_map.mp he
      have := rank_depth (h2 e0 h0)
      omega
/-- d stands ahead of e -/
def ltK (d e : PyData) : Bool := PySem.W.dataLt (rankD d) (rankD e)
def ltKs (ds es : List PyData) : Bool := PySem.W.dataLt (.tuple (rankAll ds)) (.tuple (rankAll es))
section
open PySem.W
theorem dl_yes {x y : PyData} {xs ys : List PyData} (h : alike x y = true) (e : PyData.eqv x y = true) : dataLt (.tuple (x :: xs)) (.tuple (y :: ys)) = dataLt (.tuple xs) (.tuple ys) := by
  rw [dataLt_tuple, dataLt_tuple]; exact dataLt_all_yes h e
theorem dl_no {x y : PyData} {xs ys : List PyData} (h : alike x y = true) (e : PyData.eqv x y = false) : dataLt (.tuple (x :: xs)) (.tuple (y :: ys)) = dataLt x y := by
  rw [dataLt_tuple]; exact dataLt_all_no h e
theorem dl_nil : dataLt (.tuple []) (.tuple []) = false := by rw [dataLt_tuple]; exact lex_irrefl _
theorem dl_nilc {y : PyData} {ys : List PyData} : dataLt (.tuple []) (.tuple (y :: ys)) = true := by
  rw [dataLt_tuple, toks_all_cons, keyToksAll, lex_diff (O := itemOrd) (by simp)]; rfl
theorem dl_cnil {y : PyData} {ys : List PyData} : dataLt (.tuple (y :: ys)) (.tuple []) = false := by
  rw [dataLt_tuple, toks_all_cons, keyToksAll, lex_diff (O := itemOrd) (by simp)]; rfl
theorem eqv_i {i j : Int} (h : i ≠ j) : PyData.eqv (.int i) (.int j) = false := by rw [PyData.eqv]; exact beq_false_of_ne h
theorem eqv_ii (i : Int) : PyData.eqv (.int i) (.int i) = true := by rw [PyData.eqv]; exact beq_self_eq_true _
theorem eqv_s {i j : Str} (h : i ≠ j) : PyData.eqv (.str i) (.str j) = false := by rw [PyData.eqv]; exact beq_false_of_ne h
theorem eqv_ss (i : Str) : PyData.eqv (.str i) (.str i) = true := by rw [PyData.eqv]; exact beq_self_eq_true _
theorem al_i (i j : Int) : alike (.int i) (.int j) = true := by rw [alike]
theorem al_s (i j : Str) : alike (.str i) (.str j) = true := by rw [alike]
theorem ltK_kind {a b c d : Int} {x y : Str} {ds es : List PyData} (h : a ≠ c) : dataLt (.tuple [.int a, .int b, .str x, .tuple ds]) (.tuple [.int c, .int d, .str y, .tuple es]) = decide (a < c) := by
  rw [dl_no (al_i _ _) (eqv_i h), dataLt_int]
theorem ltK_int (i j : Int) : ltK (.int i) (.int j) = decide (i < j) := by
  unfold ltK
  rw [rankD, rankD, dl_yes (al_i _ _) (eqv_ii _)]
  by_cases h : i = j
  · subst h
    rw [dl_yes (al_i _ _) (eqv_ii _), dl_yes (al_s _ _) (eqv_ss _), dl_yes (by rw [alike, alikeAll]) (by rw [PyData.eqv, PyData.eqvAll]), dl_nil]
    exact (decide_eq_false (by omega)).symm
  · rw [dl_no (al_i _ _) (eqv_i h), dataLt_int]
theorem ltK_str (i j : Str) : ltK (.str i) (.str j) = decide (i.cps.toList < j.cps.toList) := by
  unfold ltK
  rw [rankD, rankD, dl_yes (al_i _ _) (eqv_ii _), dl_yes (al_i _ _) (eqv_ii _)]
  by_cases h : i = j
  · subst h
    rw [dl_yes (al_s _ _) (eqv_ss _), dl_yes (by rw [alike, alikeAll]) (by rw [PyData.eqv, PyData.eqvAll]), dl_nil]
    exact (decide_eq_false (List.lt_irrefl _)).symm
  · rw [dl_no (al_s _ _) (eqv_s h), dataLt_str]
theorem ltK_tup (ds es : List PyData) : ltK (.tuple ds) (.tuple es) = ltKs ds es := by
  unfold ltK ltKs
  rw [rankD, rankD, dl_yes (al_i _ _) (eqv_ii _), dl_yes (al_i _ _) (eqv_ii _), dl_yes (al_s _ _) (eqv_ss _)]
  cases h : PyData.eqv (.tuple (rankAll ds)) (.tuple (rankAll es)) with
  | true =>
    have ha : alike (.tuple (rankAll ds)) (.tuple (rankAll es)) = true := by rw [alike]; exact rankAll_alike ds es
    rw [dl_yes ha h, dl_nil]
    have e := (toks_eqv _ _ ha).1 h
    unfold dataLt
    rw [e]; exact (lex_irrefl _).symm
  | false =>
    rw [dl_no (by rw [alike]; exact rankAll_alike ds es) h]
theorem ltK_is (i : Int) (z : Str) : ltK (.int i) (.str z) = true := by unfold ltK; rw [rankD, rankD, ltK_kind (by decide)]; rfl
theorem ltK_si (i : Int) (z : Str) : ltK (.str z) (.int i) = false := by unfold ltK; rw [rankD, rankD, ltK_kind (by decide)]; rfl
theorem ltK_it (i : Int) (z : List PyData) : ltK (.int i) (.tuple z) = true := by unfold ltK; rw [rankD, rankD, ltK_kind (by decide)]; rfl
theorem ltK_ti (i : Int) (z : List PyData) : ltK (.tuple z) (.int i) = false := by unfold ltK; rw [rankD, rankD, ltK_kind (by decide)]; rfl
theorem ltK_st (i : Str) (z : List PyData) : ltK (.str i) (.tuple z) = true := by unfold ltK; rw [rankD, rankD, ltK_kind (by decide)]; rfl
theorem ltK_ts (i : Str) (z : List PyData) : ltK (.tuple z) (.str i) = false := by unfold ltK; rw [rankD, rankD, ltK_kind (by decide)]; rfl
theorem ltKs_nil : ltKs [] [] = false := dl_nil
theorem ltKs_nilc {y : PyData} {ys : List PyData} : ltKs [] (y :: ys) = true := by unfold ltKs; rw [rankAll, rankAll]; exact dl_nilc
theorem ltKs_cnil {y : PyData} {ys : List PyData} : ltKs (y :: ys) [] = false := by unfold ltKs; rw [rankAll, rankAll]; exact dl_cnil
mutual
theorem rank_eqv : ∀ d : PyData, PyData.eqv (rankD d) (rankD d) = true
  | .tuple ds => by rw [rankD]; simp only [PyData.eqv, PyData.eqvAll, beq_self_eq_true, Bool.true_and, Bool.and_true]; exact rankAll_eqv ds
  | .int i => by rw [rankD]; simp [PyData.eqv, PyData.eqvAll]
  | .str i => by rw [rankD]; simp [PyData.eqv, PyData.eqvAll]
  | .none => by rw [rankD]; simp [PyData.eqv, PyData.eqvAll]
  | .bool _ => by rw [rankD]; simp [PyData.eqv, PyData.eqvAll]
  | .list _ => by rw [rankD]; simp [PyData.eqv, PyData.eqvAll]
  | .dict _ => by rw [rankD]; simp [PyData.eqv, PyData.eqvAll]
theorem rankAll_eqv : ∀ ds : List PyData, PyData.eqvAll (rankAll ds) (rankAll ds) = true
  | [] => rfl
  | d :: ds => by rw [rankAll, PyData.eqvAll, rank_eqv d, rankAll_eqv ds]; rfl
end
theorem eqv4 {a b c d : Int} {x y : Str} {ds es : List PyData} (h : PyData.eqv (.tuple [.int a, .int b, .str x, .tuple ds]) (.tuple [.int c, .int d, .str y, .tuple es]) = true) : a = c ∧ b = d ∧ x = y ∧ PyData.eqvAll ds es = true := by
  simp only [PyData.eqv, PyData.eqvAll, Bool.and_eq_true, Bool.and_true] at h
  exact ⟨eq_of_beq h.1, eq_of_beq h.2.1, eq_of_beq h.2.2.1, h.2.2.2⟩
mutual
theorem rank_inj : ∀ {r s : Nat} {d e : PyData}, isK r d → isK s e → PyData.eqv (rankD d) (rankD e) = true → d = e
  | r, s, d, e, h, k, q => by
    rcases isK_cases h with ⟨i, rfl, _⟩ | ⟨z, rfl, h⟩ | ⟨r1, ds, rfl, rfl, _, h2⟩
    · rcases isK_cases k with ⟨j, rfl, _⟩ | ⟨w, rfl, k⟩ | ⟨s1, es, rfl, rfl, _, k2⟩
      · rw [rankD, rankD] at q; rw [(eqv4 q).2.1]
      · rw [rankD, rankD] at q; exact absurd (eqv4 q).1 (by decide)
      · rw [rankD, rankD] at q; exact absurd (eqv4 q).1 (by decide)
    · rcases isK_cases k with ⟨j, rfl, _⟩ | ⟨w, rfl, k⟩ | ⟨s1, es, rfl, rfl, _, k2⟩
      · rw [rankD, rankD] at q; exact absurd (eqv4 q).1 (by decide)
      · rw [rankD, rankD] at q; rw [(eqv4 q).2.2.1]
      · rw [rankD, rankD] at q; exact absurd (eqv4 q).1 (by decide)
    · rcases isK_cases k with ⟨j, rfl, _⟩ | ⟨w, rfl, k⟩ | ⟨s1, es, rfl, rfl, _, k2⟩
      · rw [rankD, rankD] at q; exact absurd (eqv4 q).1 (by decide)
      · rw [rankD, rankD] at q; exact absurd (eqv4 q).1 (by decide)
      · rw [rankD, rankD] at q; rw [rankAll_inj h2 k2 (eqv4 q).2.2.2]
theorem rankAll_inj : ∀ {r s : Nat} {ds es : List PyData}, (∀ d ∈ ds, isK r d) → (∀ d ∈ es, isK s d) → PyData.eqvAll (rankAll ds) (rankAll es) = true → ds = es
  | r, s, [], [], _, _, _ => rfl
  | r, s, d :: ds, e :: es, h, k, q => by
    rw [rankAll, rankAll, PyData.eqvAll, Bool.and_eq_true] at q
    rw [rank_inj (h d (List.mem_cons_self ..)) (k e (List.mem_cons_self ..)) q.1, rankAll_inj (fun e he => h e (List.mem_cons_of_mem _ he)) (fun e he => k e (List.mem_cons_of_mem _ he)) q.2]
  | r, s, [], e :: es, _, _, q => by rw [rankAll, rankAll, PyData.eqvAll] at q; cases q
  | r, s, d :: ds, [], _, _, q => by rw [rankAll, rankAll, PyData.eqvAll] at q; cases q
end
theorem ltKs_same (d : PyData) (ds es : List PyData) : ltKs (d :: ds) (d :: es) = ltKs ds es := by
  unfold ltKs; rw [rankAll, rankAll, dl_yes (rank_alike d d) (rank_eqv d)]
theorem ltKs_diff {r s : Nat} {d e : PyData} (hd : isK r d) (he : isK s e) (hn : d ≠ e) (ds es : List PyData) : ltKs (d :: ds) (e :: es) = ltK d e := by
  unfold ltKs; rw [rankAll, rankAll, dl_no (rank_alike d e) ?_]
  · rfl
  · cases h : PyData.eqv (rankD d) (rankD e) with
    | false => rfl
    | true => exact absurd (rank_inj hd he h) hn
theorem ltK_irrefl (d : PyData) : ltK d d = false := lex_irrefl _
theorem ltK_trans {a b c : PyData} : ltK a b = true → ltK b c = true → ltK a c = true := lex_trans _ _ _
theorem ltK_neg {a b c : PyData} : ltK a c = true → ltK a b = true ∨ ltK b c = true := lex_negTrans _ _ _
theorem ltK_tot {r s : Nat} {a b : PyData} (ha : isK r a) (hb : isK s b) (h1 : ltK a b = false) (h2 : ltK b a = false) : a = b := by
  have e : keyToks (rankD a) = keyToks (rankD b) := lex_total _ _ h1 h2
  refine rank_inj ha hb ?_
  cases h : PyData.eqv (rankD a) (rankD b) with
  | true => rfl
  | false =>
    have q := (toks_eqv _ _ (rank_alike a b)).2 h [.inl 0] [.inl 1]
    rw [e, lex_pre, lex_irrefl, lex_diff (O := itemOrd) (by simp)] at q
    exact absurd q (by decide)
theorem ltK_asymm {a b : PyData} (h : ltK a b = true) : ltK b a = false := by
  cases q : ltK b a with
  | false => rfl
  | true => have := ltK_trans h q; rw [ltK_irrefl] at this; cases this
end

/-! ### sign by sign, thing by thing -/
theorem ltN_at : ∀ (i : Nat) {a b : List Nat} {x y : Nat}, a.take i = b.take i → a[i]? = some x → b[i]? = some y → x ≠ y → decide (a < b) = decide ([x] < [y])
  | 0, [], _, _, _, _, h, _, _ => by simp at h
  | 0, _ :: _, [], _, _, _, _, h, _ => by simp at h
  | 0, c :: a, d :: b, x, y, _, hx, hy, hn => by
    simp at hx hy
    subst hx; subst hy
    refine decide_eq_decide.mpr ?_
    rw [List.cons_lt_cons_iff, List.cons_lt_cons_iff]
    constructor
    · rintro (h | ⟨h, _⟩)
      · exact .inl h
      · exact absurd h hn
    · rintro (h | ⟨h, _⟩)
      · exact .inl h
      · exact absurd h hn
  | i + 1, [], _, _, _, _, h, _, _ => by simp at h
  | i + 1, _ :: _, [], _, _, _, _, h, _ => by simp at h
  | i + 1, c :: a, d :: b, x, y, ht, hx, hy, hn => by
    simp at ht hx hy
    obtain ⟨rfl, ht⟩ := ht
    rw [← ltN_at i ht hx hy hn]
    refine decide_eq_decide.mpr ?_
    rw [List.cons_lt_cons_iff]
    constructor
    · rintro (h | ⟨_, h⟩)
      · exact absurd h (Nat.lt_irrefl _)
      · exact h
    · exact fun h => .inr ⟨rfl, h⟩
theorem ltN_end : ∀ {a b : List Nat}, a.take (min a.length b.length) = b.take (min a.length b.length) → decide (a < b) = decide (a.length < b.length)
  | [], [], _ => by simp
  | [], _ :: _, _ => by simp
  | _ :: _, [], _ => by simp
  | c :: a, d :: b, h => by
    have e : min (c :: a).length (d :: b).length = min a.length b.length + 1 := by simp only [List.length_cons]; omega
    rw [e] at h
    simp only [List.take_succ_cons, List.cons.injEq] at h
    obtain ⟨rfl, h⟩ := h
    have q := ltN_end h
    have q2 : (a < b) ↔ a.length < b.length := decide_eq_decide.mp q
    refine decide_eq_decide.mpr ?_
    rw [List.cons_lt_cons_iff]
    constructor
    · rintro (h | ⟨_, h⟩)
      · exact absurd h (Nat.lt_irrefl _)
      · simp only [List.length_cons]; exact Nat.succ_lt_succ (q2.mp h)
    · intro h
      simp only [List.length_cons] at h
      exact .inr ⟨rfl, q2.mpr (Nat.lt_of_succ_lt_succ h)⟩
theorem ltKs_at {r s : Nat} : ∀ (i : Nat) {a b : List PyData} {x y : PyData}, (∀ d ∈ a, isK r d) → (∀ d ∈ b, isK s d) → a.take i = b.take i → a[i]? = some x → b[i]? = some y → x ≠ y → ltKs a b = ltK x y
  | 0, [], _, _, _, _, _, _, h, _, _ => by simp at h
  | 0, _ :: _, [], _, _, _, _, _, _, h, _ => by simp at h
  | 0, c :: a, d :: b, x, y, ha, hb, _, hx, hy, hn => by
    simp at hx hy
    subst hx; subst hy
    exact ltKs_diff (ha _ (List.mem_cons_self ..)) (hb _ (List.mem_cons_self ..)) hn _ _
  | i + 1, [], _, _, _, _, _, _, h, _, _ => by simp at h
  | i + 1, _ :: _, [], _, _, _, _, _, _, h, _ => by simp at h
  | i + 1, c :: a, d :: b, x, y, ha, hb, ht, hx, hy, hn => by
    simp at ht hx hy
    obtain ⟨rfl, ht⟩ := ht
    rw [ltKs_same]
    exact ltKs_at i (fun e he => ha e (List.mem_cons_of_mem _ he)) (fun e he => hb e (List.mem_cons_of_mem _ he)) ht hx hy hn
theorem ltKs_end : ∀ {a b : List PyData}, a.take (min a.length b.length) = b.take (min a.length b.length) → ltKs a b = decide (a.length < b.length)
  | [], [], _ => by rw [ltKs_nil]; rfl
  | [], _ :: _, _ => by rw [ltKs_nilc]; simp
  | _ :: _, [], _ => by rw [ltKs_cnil]; simp
  | c :: a, d :: b, h => by
    have e : min (c :: a).length (d :: b).length = min a.length b.length + 1 := by simp only [List.length_cons]; omega
    rw [e] at h
    simp only [List.take_succ_cons, List.cons.injEq] at h
    obtain ⟨rfl, h⟩ := h
    rw [ltKs_same, ltKs_end h]
    exact decide_eq_decide.mpr (by simp only [List.length_cons]; omega)
theorem take_succ_eq {α : Type} {a b : List α} {i : Nat} {x : α} (h : a.take i = b.take i) (hx : a[i]? = some x) (hy : b[i]? = some x) : a.take (i + 1) = b.take (i + 1) := by
  rw [List.take_add_one, List.take_add_one, h, hx, hy]
theorem one_ne {x y : Nat} : (⟨#[x]⟩ : Str) = ⟨#[y]⟩ ↔ x = y := by
  constructor
  · intro h
    injection h with h
    simpa using h
  · rintro rfl; rfl
/-- the text of a small number -/
theorem txt_num {i : Int} (h0 : 0 ≤ i) (h1 : i < 10 ^ 9) : txtOk (toString i : String) := by
  refine ⟨?_, fun c hc => ?_⟩
  · have := int_text_length_le10 (a := i) (k := 9) (by decide) (by omega)
    have e : ((toString i : String) : Str).length = (toString i).length := by
      exact PySem.ofString_length _
    rw [e]; omega
  · by_cases hk : c ≠ 45 ∧ (c < 48 ∨ 57 < c)
    · exact absurd hc (int_text_free' c hk i)
    · omega
end Tw

/-! TwD: things of any kind; is_key's answer; max with a default; walks over a text. -/
namespace Tw
open PySem PySem.Spec PyProof.Rows L2
mutual
/-- the value v is the thing d; what lies in its lists and dicts is left open; none of these is in S -/
inductive TgS (S : Addr → Prop) (H : Hp) : V → PyData → Prop
  | non : TgS S H .non .none
  | bl (b : Bool) : TgS S H (.bl b) (.bool b)
  | int (i : Int) : TgS S H (.int i) (.int i)
  | str (x : Str) : TgS S H (.str x) (.str x)
  | lst {a : Addr} {xs : List V} (h : H a = some (.lst xs)) (n : ¬ S a) : TgS S H (.ref a) (.list [])
  | dct {a : Addr} {kvs : List (Key × V)} (h : H a = some (.dK kvs)) (n : ¬ S a) : TgS S H (.ref a) (.dict [])
  | tup {a : Addr} {xs : List V} {ds : List PyData} (h : H a = some (.tup xs)) (hs : TgAllS S H xs ds) : TgS S H (.ref a) (.tuple ds)
inductive TgAllS (S : Addr → Prop) (H : Hp) : List V → List PyData → Prop
  | nil : TgAllS S H [] []
  | cons {v : V} {vs : List V} {d : PyData} {ds : List PyData} (h : TgS S H v d) (hs : TgAllS S H vs ds) : TgAllS S H (v :: vs) (d :: ds)
end
abbrev Tg := TgS Non
abbrev TgAll := TgAllS Non
mutual
theorem Dt.tg {S : Addr → Prop} {H : Hp} : ∀ (d : PyData) (v : V), Dt H v d → TgS S H v d
  | .none, _, h => by cases h; exact .non
  | .bool b, _, h => by cases h; exact .bl b
  | .int i, _, h => by cases h; exact .int i
  | .str x, _, h => by cases h; exact .str x
  | .list _, _, h => by cases h
  | .dict _, _, h => by cases h
  | .tuple ds, _, h => by
    cases h with
    | tup e hs => exact .tup e (DtAll.tg ds _ hs)
theorem DtAll.tg {S : Addr → Prop} {H : Hp} : ∀ (ds : List PyData) (vs : List V), DtAll H vs ds → TgAllS S H vs ds
  | [], _, h => by cases h; exact .nil
  | d :: ds, _, h => by
    cases h with
    | cons h1 h2 => exact .cons (Dt.tg d _ h1) (DtAll.tg ds _ h2)
end
mutual
theorem TgS.mono {S : Addr → Prop} {H H1 : Hp} (f : Fr S H H1) : ∀ (d : PyData) (v : V), TgS S H v d → TgS S H1 v d
  | .none, _, h => by cases h; exact .non
  | .bool b, _, h => by cases h; exact .bl b
  | .int i, _, h => by cases h; exact .int i
  | .str x, _, h => by cases h; exact .str x
  | .list _, _, h => by
    cases h with
    | lst e n => exact .lst (f.keep _ _ e n) n
  | .dict _, _, h => by
    cases h with
    | dct e n => exact .dct (f.keep _ _ e n) n
  | .tuple ds, _, h => by
    cases h with
    | tup e hs => exact .tup (f.tup _ _ e) (TgAllS.mono f ds _ hs)
theorem TgAllS.mono {S : Addr → Prop} {H H1 : Hp} (f : Fr S H H1) : ∀ (ds : List PyData) (vs : List V), TgAllS S H vs ds → TgAllS S H1 vs ds
  | [], _, h => by cases h; exact .nil
  | d :: ds, _, h => by
    cases h with
    | cons h1 h2 => exact .cons (TgS.mono f d _ h1) (TgAllS.mono f ds _ h2)
end
mutual
theorem TgS.weak {S : Addr → Prop} {H : Hp} : ∀ (d : PyData) (v : V), TgS S H v d → Tg H v d
  | .none, _, h => by cases h; exact .non
  | .bool b, _, h => by cases h; exact .bl b
  | .int i, _, h => by cases h; exact .int i
  | .str x, _, h => by cases h; exact .str x
  | .list _, _, h => by
    cases h with
    | lst e n => exact .lst e id
  | .dict _, _, h => by
    cases h with
    | dct e n => exact .dct e id
  | .tuple ds, _, h => by
    cases h with
    | tup e hs => exact .tup e (TgAllS.weak ds _ hs)
theorem TgAllS.weak {S : Addr → Prop} {H : Hp} : ∀ (ds : List PyData) (vs : List V), TgAllS S H vs ds → TgAll H vs ds
  | [], _, h => by cases h; exact .nil
  | d :: ds, _, h => by
    cases h with
    | cons h1 h2 => exact .cons (TgS.weak d _ h1) (TgAllS.weak ds _ h2)
end
theorem Tg.mono {H H1 : Hp} (f : Fr Non H H1) (d : PyData) (v : V) (h : Tg H v d) : Tg H1 v d := TgS.mono f d v h
theorem TgAll.mono {H H1 : Hp} (f : Fr Non H H1) (d : List PyData) (v : List V) (h : TgAll H v d) : TgAll H1 v d := TgAllS.mono f d v h
theorem TgS.new {S : Addr → Prop} {H : Hp} {p : Addr} {o : HO} {v : V} {d : PyData} (h : TgS S H v d) (n : Fresh H p) : TgS S (upd H p o) v d := TgS.mono (Fr.new (Fr.refl H) n) d v h
theorem TgAllS.new {S : Addr → Prop} {H : Hp} {p : Addr} {o : HO} {v : List V} {d : List PyData} (h : TgAllS S H v d) (n : Fresh H p) : TgAllS S (upd H p o) v d := TgAllS.mono (Fr.new (Fr.refl H) n) d v h
theorem TgAllS.length {S : Addr → Prop} {H : Hp} : ∀ {vs : List V} {ds : List PyData}, TgAllS S H vs ds → vs.length = ds.length
  | _, [], h => by cases h; rfl
  | _, d :: ds, h => by
    cases h with
    | cons h1 h2 => rw [List.length_cons, List.length_cons, TgAllS.length h2]
theorem TgAllS.get {S : Addr → Prop} {H : Hp} : ∀ {vs : List V} {ds : List PyData} {i : Nat} {v : V}, TgAllS S H vs ds → vs[i]? = some v → ∃ d, ds[i]? = some d ∧ TgS S H v d
  | _, [], _, _, h, e => by cases h; simp at e
  | _, d :: ds, 0, _, h, e => by
    cases h with
    | cons h1 h2 => simp at e; subst e; exact ⟨d, rfl, h1⟩
  | _, d :: ds, i + 1, _, h, e => by
    cases h with
    | cons h1 h2 =>
      obtain ⟨d', q1, q2⟩ := TgAllS.get (i := i) h2 (by simpa using e)
      exact ⟨d', by simpa using q1, q2⟩
theorem TgAllS.app {S : Addr → Prop} {H : Hp} : ∀ {vs ws : List V} {ds es : List PyData}, TgAllS S H vs ds → TgAllS S H ws es → TgAllS S H (vs ++ ws) (ds ++ es)
  | _, _, [], _, h, k => by cases h; exact k
  | _, _, d :: ds, _, h, k => by
    cases h with
    | cons h1 h2 => exact .cons h1 (TgAllS.app h2 k)
theorem TgAllS.take {S : Addr → Prop} {H : Hp} : ∀ {vs : List V} {ds : List PyData} (n : Nat), TgAllS S H vs ds → TgAllS S H (vs.take n) (ds.take n)
  | _, _, 0, _ => .nil
  | _, [], _ + 1, h => by cases h; exact .nil
  | _, d :: ds, n + 1, h => by
    cases h with
    | cons h1 h2 => exact .cons h1 (TgAllS.take n h2)
theorem TgAllS.set {S : Addr → Prop} {H : Hp} {v : V} {d : PyData} (k : TgS S H v d) : ∀ {vs : List V} {ds : List PyData} (n : Nat), TgAllS S H vs ds → TgAllS S H (vs.set n v) (ds.set n d)
  | _, [], _, h => by cases h; exact .nil
  | _, e :: ds, 0, h => by
    cases h with
    | cons h1 h2 => exact .cons k h2
  | _, e :: ds, n + 1, h => by
    cases h with
    | cons h1 h2 => exact .cons h1 (TgAllS.set k n h2)

theorem keepU {H : Hp} {p q : Addr} {o u : HO} (h : H p = some o) (n : Fresh H q) : upd H q u p = some o := (upd_ne (ne_fr h n)).trans h
theorem Well.new {H : Hp} {a q : Addr} {u : HO} (h : Well H a) (n : Fresh H q) : Well (upd H q u) a := h.fr (Fr.new (S := Non) (Fr.refl _) n) id
/-- what stands already -/
abbrev Old (H : Hp) : Addr → Prop := fun b => ¬ Fresh H b
theorem old_of {H : Hp} {p : Addr} {o : HO} (h : H p = some o) : Old H p := fun n => by
  have n0 : H p = none := n
  rw [n0] at h; cases h
theorem Well.old {H : Hp} {a : Addr} (h : Well H a) : ∀ b, One a b → Old H b := fun b e => by
  subst e
  obtain ⟨xs, q⟩ := h.some
  exact old_of q
mutual
theorem TgS.less {S T : Addr → Prop} {H : Hp} (f : ∀ b, S b → T b) : ∀ (d : PyData) (v : V), TgS T H v d → TgS S H v d
  | .none, _, h => by cases h; exact .non
  | .bool b, _, h => by cases h; exact .bl b
  | .int i, _, h => by cases h; exact .int i
  | .str x, _, h => by cases h; exact .str x
  | .list _, _, h => by
    cases h with
    | lst e n => exact .lst e fun s => n (f _ s)
  | .dict _, _, h => by
    cases h with
    | dct e n => exact .dct e fun s => n (f _ s)
  | .tuple ds, _, h => by
    cases h with
    | tup e hs => exact .tup e (TgAllS.less f ds _ hs)
theorem TgAllS.less {S T : Addr → Prop} {H : Hp} (f : ∀ b, S b → T b) : ∀ (ds : List PyData) (vs : List V), TgAllS T H vs ds → TgAllS S H vs ds
  | [], _, h => by cases h; exact .nil
  | d :: ds, _, h => by
    cases h with
    | cons h1 h2 => exact .cons (TgS.less f d _ h1) (TgAllS.less f ds _ h2)
end
/-! ### what is_key tells -/
def bnd : Int := 10 ^ 60
def numB (i : Int) : Bool := decide (-bnd < i) && decide (i < bnd)
def signB (c : Nat) : Bool := decide (32 ≤ c) && decide (c ≤ 126)
def txtB (z : Str) : Bool := decide (z.length ≤ 40) && z.cps.toList.all signB
def keyB : Nat → PyData → Bool
  | _, .int i => numB i
  | _, .str z => txtB z
  | r + 1, .tuple ds => decide (ds.length ≤ 4) && ds.all (keyB r)
  | _, _ => false
theorem numB_iff {i : Int} : numB i = true ↔ numOk i := by unfold numB numOk bnd; simp
theorem txtB_iff {z : Str} : txtB z = true ↔ txtOk z := by
  unfold txtB txtOk
  rw [Bool.and_eq_true, decide_eq_true_eq, List.all_eq_true]
  refine and_congr_right fun _ => forall_congr' fun c => forall_congr' fun _ => ?_
  unfold signB
  rw [Bool.and_eq_true, decide_eq_true_eq, decide_eq_true_eq]
theorem keyB_int {r : Nat} {i : Int} : keyB r (.int i) = numB i := by cases r <;> rfl
theorem keyB_str {r : Nat} {z : Str} : keyB r (.str z) = txtB z := by cases r <;> rfl
theorem keyB_iff : ∀ {r : Nat} {d : PyData}, keyB r d = true ↔ isK r d
  | r, .int i => by rw [keyB_int, isK_int, numB_iff]
  | r, .str z => by rw [keyB_str, isK_str, txtB_iff]
  | 0, .tuple ds => by simp [keyB, isK]
  | r + 1, .tuple ds => by
    rw [isK_tup]
    show (decide (ds.length ≤ 4) && ds.all (keyB r)) = true ↔ _
    rw [Bool.and_eq_true, decide_eq_true_eq, List.all_eq_true]
    exact ⟨fun h => ⟨h.1, fun d hd => keyB_iff.mp (h.2 d hd)⟩, fun h => ⟨h.1, fun d hd => keyB_iff.mpr (h.2 d hd)⟩⟩
  | r, .none => by cases r <;> simp [keyB, isK]
  | r, .bool b => by cases r <;> simp [keyB, isK]
  | r, .list b => by cases r <;> simp [keyB, isK]
  | r, .dict b => by cases r <;> simp [keyB, isK]
theorem keyB_of {r : Nat} {d : PyData} (h : isK r d) : keyB r d = true := keyB_iff.mpr h

theorem one_lt {c d : Nat} : ([c] < [d]) ↔ c < d := by
  rw [List.cons_lt_cons_iff]
  exact ⟨fun h => h.elim id fun h => absurd h.2 (List.lt_irrefl _), .inl⟩
theorem blank_cps : (Str.ofString " ").cps.toList = [32] := by decide +kernel
theorem tilde_cps : (Str.ofString "~").cps.toList = [126] := by decide +kernel
theorem sg_lo (c : Nat) : (!decide ((⟨#[c]⟩ : Str).cps.toList < (Str.ofString " ").cps.toList)) = decide (32 ≤ c) := by
  rw [blank_cps, Bool.eq_iff_iff, Bool.not_eq_true', decide_eq_false_iff_not, decide_eq_true_eq]
  show ¬ ([c] < [32]) ↔ _
  rw [one_lt]; omega
theorem sg_hi (c : Nat) : (!decide ((Str.ofString "~").cps.toList < (⟨#[c]⟩ : Str).cps.toList)) = decide (c ≤ 126) := by
  rw [tilde_cps, Bool.eq_iff_iff, Bool.not_eq_true', decide_eq_false_iff_not, decide_eq_true_eq]
  show ¬ ([126] < [c]) ↔ _
  rw [one_lt]; omega
theorem all_map {α : Type} (f : α → Bool) (l : List α) : (l.map f).all id = l.all f := by rw [List.all_map]; rfl
mutual
/-- texts within are of a size that the machine holds -/
def txtSmall : PyData → Prop
  | .str z => z.length ≤ 100000 ∧ PyData.strOk z = true
  | .tuple ds => txtSmallAll ds
  | .none => True
  | .bool _ => True
  | .int _ => True
  | .list _ => True
  | .dict _ => True
def txtSmallAll : List PyData → Prop
  | [] => True
  | d :: ds => txtSmall d ∧ txtSmallAll ds
end
theorem txtSmallAll_mem : ∀ {ds : List PyData}, txtSmallAll ds → ∀ d ∈ ds, txtSmall d
  | d :: ds, h, e, he => by
    rcases List.mem_cons.mp he with rfl | he
    · exact h.1
    · exact txtSmallAll_mem h.2 e he
theorem txtSmallAll_of : ∀ {ds : List PyData}, (∀ d ∈ ds, txtSmall d) → txtSmallAll ds
  | [], _ => trivial
  | d :: ds, h => ⟨h d (List.mem_cons_self ..), txtSmallAll_of fun e he => h e (List.mem_cons_of_mem _ he)⟩
theorem isK_small : ∀ {r : Nat} {d : PyData}, isK r d → txtSmall d
  | r, d, h => by
    rcases isK_cases h with ⟨i, rfl, _⟩ | ⟨z, rfl, h3⟩ | ⟨r1, ds, rfl, rfl, _, h2⟩
    · trivial
    · exact ⟨Nat.le_trans h3.1 (by decide), txt_strOk h3.2⟩
    · exact txtSmallAll_of fun e he => isK_small (h2 e he)
/-! ### a depth as a number -/
def deepK : PyData → Int := fun d => (d.depth : Int)

/-! ### a walk over a text, in a comprehension -/
section
variable {K : PySem.W.Frag} {σ : L2.St} {H : Hp} {tt : TT} {te : TE} {Q : VK} {x y v : V} {D : Ends}
theorem x_iStr {R : It → Hp → Prop} (q : te σ H fun x H1 => ∃ z, x = .str z ∧ R (Its z) H1) : iStr te σ H R := q
theorem x_isStr {z : Str} {R : Str → Prop} (q : R z) : ∃ w, V.str z = .str w ∧ R w := ⟨z, rfl, q⟩
theorem x_lcS {z : Str} {g : TG} {vs : List Nat} {DD : Addr} {Qd : Hp → Prop} (Pv : Nat → Hp → Prop) (h0 : Pv 0 (upd H DD (.lst [])))
    (hs : ∀ i c H, z.cps.toList[i]? = some c → Pv i H → LcT g tt te vs σ DD (.str ⟨#[c]⟩) (Pv (i + 1)) H) (hd : ∀ H, Pv z.cps.toList.length H → Qd H) : LcG (Its z) g tt te vs σ H DD Qd := by
  refine ⟨fun i m H => m = z.cps.size - i ∧ i ≤ z.cps.size ∧ Pv i H, ⟨z.cps.size, by simp, Nat.zero_le _, h0⟩, ?_⟩
  rintro i m H ⟨rfl, hi, p⟩
  by_cases hlt : i < z.cps.size
  · refine .inr ⟨hlt, Pv (i + 1), fun H' p' => ⟨z.cps.size - (i + 1), by omega, rfl, hlt, p'⟩, fun x H' yy => ?_⟩
    obtain ⟨rfl, c, hc, rfl⟩ := yy
    exact hs i c _ (by rw [Array.getElem?_toList]; exact hc) p
  · have e : i = z.cps.toList.length := by rw [Array.length_toList]; omega
    refine .inl ⟨by show z.cps.size ≤ i; omega, hd H (e ▸ p)⟩
theorem x_forS {z : Str} {g : TG} {tb : TS} (Pv : Nat → L2.St → Hp → Prop) (h0 : Pv 0 σ H)
    (hs : ∀ i c σ H, z.cps.toList[i]? = some c → Pv i σ H → g (.str ⟨#[c]⟩) σ H fun σ2 H2 => tb { D with nx := Pv (i + 1), ct := Pv (i + 1), bk := D.nx } σ2 H2) (hd : ∀ σ H, Pv z.cps.toList.length σ H → D.nx σ H) : ForG (Its z) g tb D σ H := by
  refine ⟨fun i m σ H => m = z.cps.size - i ∧ i ≤ z.cps.size ∧ Pv i σ H, ⟨z.cps.size, by simp, Nat.zero_le _, h0⟩, ?_⟩
  rintro i m σ H ⟨rfl, hi, p⟩
  by_cases hlt : i < z.cps.size
  · refine .inr ⟨hlt, Pv (i + 1), fun σ' H' p' => ⟨z.cps.size - (i + 1), by omega, rfl, hlt, p'⟩, fun x H' yy => ?_⟩
    obtain ⟨rfl, c, hc, rfl⟩ := yy
    exact hs i c σ _ (by rw [Array.getElem?_toList]; exact hc) p
  · have e : i = z.cps.toList.length := by rw [Array.length_toList]; omega
    refine .inl ⟨by show z.cps.size ≤ i; omega, hd σ H (e ▸ p)⟩
theorem x_isB {a b : Bool} (q : Q (.bl (decide (a = b))) H) : rIsB (.bl a) (.bl b) H Q := ⟨a, b, rfl, rfl, q⟩
theorem x_notB {a b : Bool} (q : Q (.bl (!decide (a = b))) H) : rNotB (.bl a) (.bl b) H Q := ⟨a, b, rfl, rfl, q⟩
end

/-! ### max(numbers, default=number) -/
def rMaxDef (K : PySem.W.Frag) : List V → List V → Hp → VK → Prop := fun vs zs H Q => ∃ (a : Addr) (ns : List Int) (d : Int), vs = [.ref a] ∧ zs = [.int d] ∧ SqL K H a (ns.map V.int) ∧
  (ns = [] → Q (.int d) H) ∧ (∀ m : Int, m ∈ ns → (∀ j ∈ ns, j ≤ m) → Q (.int m) H)
theorem maxOf_mem (x : Int) : ∀ xs : List Int, PySem.W.maxOf x xs ∈ x :: xs ∧ ∀ j ∈ x :: xs, j ≤ PySem.W.maxOf x xs := fun xs => by
  induction xs generalizing x with
  | nil => exact ⟨List.mem_cons_self .., fun j hj => by rw [List.mem_singleton.mp hj]; exact Int.le_refl _⟩
  | cons y ys ih =>
    have e : PySem.W.maxOf x (y :: ys) = PySem.W.maxOf (if decide (x < y) = true then y else x) ys := rfl
    rw [e]
    obtain ⟨h1, h2⟩ := ih (if decide (x < y) = true then y else x)
    have h3 := h2 _ (List.mem_cons_self ..)
    constructor
    · rcases List.mem_cons.mp h1 with h | h
      · rw [h]; split <;> simp
      · exact List.mem_cons_of_mem _ (List.mem_cons_of_mem _ h)
    · intro j hj
      rcases List.mem_cons.mp hj with rfl | hj
      · refine Int.le_trans ?_ h3
        split
        · exact Int.le_of_lt (of_decide_eq_true (by assumption))
        · exact Int.le_refl _
      · rcases List.mem_cons.mp hj with rfl | hj
        · refine Int.le_trans ?_ h3
          split
          · exact Int.le_refl _
          · rename_i h; have := of_decide_eq_false (Bool.eq_false_iff.mpr h); omega
        · exact h2 j (List.mem_cons_of_mem _ hj)
theorem dpAll_ints {K : PySem.W.Frag} {H : Hp} : ∀ ns : List Int, DpAll K H (ns.map V.int) (ns.map PySem.W.Datum.toD)
  | [] => .nil
  | n :: ns => .cons (.int n) (dpAll_ints ns)
theorem cr_maxDef {X : Cx} (hc : X.calm = true) (hu : X.A.units + 64 < cLine) : CallRK X (.builtin "max") [Str.ofString "default"] (rMaxDef X.K) := by
  intro pins s σ H vs zs us ws Q I r rz h
  obtain ⟨a, ns, d, rfl, rfl, hs, q0, q1⟩ := h
  obtain rfl := Vals.ref1 r
  obtain ⟨w1, rfl, e1⟩ := vals1 rz
  obtain ⟨t, rfl⟩ := e1
  obtain ⟨its, rv, hl, _⟩ := I.list hs
  obtain ⟨as, hR⟩ := Dp.readsAll I _ _ _ (dpAll_ints (K := X.K) (H := H) ns) rv
  refine PySem.W.max_list_datum_default (α := Int) (xs := ns) (I.ok.hd hc) hl.isList ⟨as, hR⟩ ?_ (fun e h' tk k => ?_) fun y ys i v h' tk e hi hv k => ?_
  · show X.A.units + 1 + 0 < cLine
    omega
  · exact ⟨.int d, H, I.kept k, ⟨_, rfl⟩, q0 e⟩
  · obtain ⟨bs, hv⟩ := hv
    obtain ⟨m1, m2⟩ := maxOf_mem y ys
    generalize PySem.W.maxOf y ys = m at hv m1 m2
    have e2 : ∃ t, v = .int m t := by
      cases hv with
      | int => exact ⟨_, rfl⟩
    obtain ⟨t2, rfl⟩ := e2
    exact ⟨.int m, H, I.kept k, ⟨_, rfl⟩, q1 m (e ▸ m1) (e ▸ m2)⟩
section
variable {K : PySem.W.Frag} {σ : L2.St} {H : Hp} {Q : VK}
theorem x_ckw {r : List V → List V → Hp → VK → Prop} {t tk : TA} (q : t σ H fun vs H1 => tk σ H1 fun zs H2 => r vs zs H2 Q) : tCKw r t tk σ H Q := q
theorem x_maxDef {a : Addr} {ns : List Int} {d : Int} (h : SqL K H a (ns.map V.int)) (q0 : ns = [] → Q (.int d) H) (q1 : ∀ m : Int, m ∈ ns → (∀ j ∈ ns, j ≤ m) → Q (.int m) H) : rMaxDef K [.ref a] [.int d] H Q := ⟨a, ns, d, rfl, rfl, h, q0, q1⟩
def rInsert : V → List V → Hp → VK → Prop := fun x vs H Q => ∃ (l : Addr) (xs : List V) (i : Int) (y : V), x = .ref l ∧ vs = [.int i, y] ∧ H l = some (.lst xs) ∧ xs.length < sizeLine ∧ 0 ≤ i ∧ i < 2 ^ 63 ∧
    Q .non (upd H l (.lst (xs.take i.toNat ++ [y] ++ xs.drop i.toNat)))
theorem m_insert {X : Cx} : MtR X "list.insert" rInsert := mt_insert
theorem x_insert {l : Addr} {xs : List V} {i : Int} {y : V} (h : H l = some (.lst xs)) (hs : xs.length ≤ 100000) (hi : 0 ≤ i ∧ i < 2 ^ 63) (q : Q .non (upd H l (.lst (xs.take i.toNat ++ [y] ++ xs.drop i.toNat)))) :
    rInsert (.ref l) [.int i, y] H Q := ⟨l, xs, i, y, rfl, rfl, h, Nat.lt_of_le_of_lt hs (by decide), hi.1, hi.2, q⟩
end
theorem pickD {H : Hp} {xs : List V} {ds : List PyData} {r : Int} (h : DtAll H xs ds) (h0 : 0 ≤ r) (h1 : r < xs.length) : ∃ v d, atI xs r = some v ∧ Dt H v d ∧ d ∈ ds := by
  obtain ⟨v, e1, e2⟩ := atI_ex (xs := xs) h0 h1
  obtain ⟨d, d1, d2⟩ := h.get e2
  exact ⟨v, d, e1, d2, List.mem_of_getElem? d1⟩
/-- the first r items -/
theorem cut_to {xs : List V} {r : Int} (h0 : 0 ≤ r) : cutV xs none (some r) = xs.take r.toNat := by
  have e : HT.sIx xs.length xs.length (some r) = min r.toNat xs.length := by
    show (if r < 0 then _ else min r.toNat xs.length) = _
    rw [if_neg (by omega)]
  rw [cutV_eq, HT.sIx_none, e, List.drop_zero, Nat.sub_zero]
  by_cases h : r.toNat ≤ xs.length
  · rw [Nat.min_eq_left h]
  · rw [Nat.min_eq_right (by omega), List.take_of_length_le (Nat.le_refl _), List.take_of_length_le (by omega)]
mutual
theorem TgS.dt {S : Addr → Prop} {H : Hp} : ∀ (r : Nat) (d : PyData) (v : V), isK r d → TgS S H v d → Dt H v d
  | r, .int i, _, _, h => by cases h; exact .int i
  | r, .str i, _, _, h => by cases h; exact .str i
  | r + 1, .tuple ds, _, k, h => by
    cases h with
    | tup e hs => exact .tup e (TgAllS.dt r ds _ k.2 hs)
  | 0, .tuple ds, _, k, _ => k.elim
  | r, .none, _, k, _ => by cases r <;> cases k
  | r, .bool _, _, k, _ => by cases r <;> cases k
  | r, .list _, _, k, _ => by cases r <;> cases k
  | r, .dict _, _, k, _ => by cases r <;> cases k
theorem TgAllS.dt {S : Addr → Prop} {H : Hp} : ∀ (r : Nat) (ds : List PyData) (vs : List V), (∀ d ∈ ds, isK r d) → TgAllS S H vs ds → DtAll H vs ds
  | r, [], _, _, h => by cases h; exact .nil
  | r, d :: ds, _, k, h => by
    cases h with
    | cons h1 h2 => exact .cons (TgS.dt r d _ (k d (List.mem_cons_self ..)) h1) (TgAllS.dt r ds _ (fun e he => k e (List.mem_cons_of_mem _ he)) h2)
end
theorem pickT {S : Addr → Prop} {H : Hp} {xs : List V} {ds : List PyData} {r : Int} (h : TgAllS S H xs ds) (h0 : 0 ≤ r) (h1 : r < xs.length) : ∃ v d, atI xs r = some v ∧ TgS S H v d ∧ d ∈ ds := by
  obtain ⟨v, e1, e2⟩ := atI_ex (xs := xs) h0 h1
  obtain ⟨d, d1, d2⟩ := h.get e2
  exact ⟨v, d, e1, d2, List.mem_of_getElem? d1⟩
/-! ### texts told again and again; parts of texts -/
def rMulS : R2 := fun x y H Q => ∃ (z : Str) (n : Int), x = .str z ∧ y = .int n ∧ z.length ≤ 100 ∧ -(2 ^ 63) ≤ n ∧ n ≤ 1000 ∧ ∀ w : Str, (w.length : Int) = z.length * (if n < 0 then 0 else n) → (∀ c ∈ w.cps.toList, c ∈ z.cps.toList) → Q (.str w) H
theorem reps_mem (x : Array Nat) : ∀ (k : Nat) (acc : Array Nat) (c : Nat), c ∈ ((List.replicate k x).foldl (· ++ ·) acc).toList → c ∈ acc.toList ∨ c ∈ x.toList
  | 0, _, _, h => .inl h
  | k + 1, acc, c, h => by
    rw [List.replicate_succ, List.foldl_cons] at h
    rcases reps_mem x k _ c h with h | h
    · rw [Array.toList_append] at h
      exact (List.mem_append.mp h)
    · exact .inr h
theorem mul_mem {z : Str} {n : Int} {c : Nat} (h : c ∈ (Txt.mul z n).cps.toList) : c ∈ z.cps.toList := by
  unfold Txt.mul at h
  split at h
  · cases h
  · split at h
    · exact h
    · rcases reps_mem z.cps _ _ c h with h | h
      · cases h
      · exact h
theorem o_mulS {X : Cx} : OpR X (binaryOp .Mult) rMulS := by
  intro pins s σ H x y v u Q I rx ry h
  obtain ⟨z, n, rfl, rfl, hz, h0, h1, q⟩ := h
  obtain ⟨t, rfl⟩ := rx
  obtain ⟨t2, rfl⟩ := ry
  refine SB.mul (mulOk_of 100 1000 hz (by omega) h0 (by decide) (by decide)) fun t' k => ⟨.str (Txt.mul z n), H, I.tok _, ⟨_, rfl⟩, q _ ?_ fun c hc => mul_mem hc⟩
  have e := len_mul z n
  by_cases hn : n < 0
  · rw [decide_eq_true hn, if_pos rfl] at e; rw [if_pos hn]; exact e
  · rw [decide_eq_false hn, if_neg Bool.false_ne_true] at e; rw [if_neg hn]; exact e
theorem x_mulS {H : Hp} {Q : VK} {z : Str} {n : Int} (hz : z.length ≤ 100) (h : -(2 ^ 63) ≤ n ∧ n ≤ 1000) (q : ∀ w : Str, (w.length : Int) = z.length * (if n < 0 then 0 else n) → (∀ c ∈ w.cps.toList, c ∈ z.cps.toList) → Q (.str w) H) : rMulS (.str z) (.int n) H Q := ⟨z, n, rfl, rfl, hz, h.1, h.2, q⟩
theorem x_slZ {H : Hp} {Q : VK} {z : Str} {lo hi : Option Int} (h : z.length ≤ sizeLine) (q : Q (.str (cutS z lo hi)) H) : rSlS (.str z) lo hi H Q := ⟨z, rfl, h, q⟩
theorem cutS_mem {z : Str} {lo hi : Option Int} {c : Nat} (h : c ∈ (cutS z lo hi).cps.toList) : c ∈ z.cps.toList := by
  have h2 : c ∈ (z.cps.toList.drop (HT.sIx z.length 0 lo)).take (HT.sIx z.length z.length hi - HT.sIx z.length 0 lo) := h
  exact List.mem_of_mem_drop (List.mem_of_mem_take h2)
theorem strOk_of {z : Str} (h : ∀ c ∈ z.cps.toList, c < 1114112) : PyData.strOk z = true := by
  unfold PyData.strOk
  rw [Array.all_eq_true_iff_forall_mem]
  intro c hc
  exact decide_eq_true (h c (Array.mem_toList_iff.mpr hc))
theorem strOk_mem {z : Str} (h : PyData.strOk z = true) : ∀ c ∈ z.cps.toList, c < 1114112 := by
  unfold PyData.strOk at h
  rw [Array.all_eq_true_iff_forall_mem] at h
  exact fun c hc => of_decide_eq_true (h c (Array.mem_toList_iff.mp hc))
theorem strOk_app {z w : Str} (h : PyData.strOk z = true) (k : PyData.strOk w = true) : PyData.strOk (z ++ w) = true := strOk_of fun c hc => by
  rw [str_app] at hc
  exact (List.mem_append.mp hc).elim (strOk_mem h c) (strOk_mem k c)
theorem x_dnew {σ : L2.St} {H : Hp} {Q : VK} (q : ∀ p, Fresh H p → Q (.ref p) (upd H p (.dK []))) : tDNewK σ H Q := q
theorem x_mulTup {P : Prop} (q : P) : P := q
theorem x_slT {K : PySem.W.Frag} {S : Addr → Prop} {H : Hp} {Q : VK} {a : Addr} {xs : List V} {ds : List PyData} {hi : Option Int} (ha : H a = some (.tup xs)) (da : TgAllS S H xs ds)
    (q : ∀ p H' n, Fr Non H H' → TgS S H' (.ref p) (.tuple (ds.take n)) → Q (.ref p) H') : rSlA K (.ref a) none hi H Q := by
  refine ⟨a, xs, rfl, SqT.of ha, fun _ => ?_, fun _ p n => ?_⟩
  · refine q a H ds.length (Fr.refl _) ?_
    rw [List.take_length]
    exact .tup ha da
  · exact q p _ (HT.sIx xs.length xs.length hi) (Fr.new (Fr.refl _) n) (.tup upd_same (by rw [cutV_eq, HT.sIx_none, List.drop_zero, Nat.sub_zero]; exact (da.take _).new n))
theorem x_catT {K : PySem.W.Frag} {S : Addr → Prop} {H : Hp} {Q : VK} {a b : Addr} {xs ys : List V} {ds es : List PyData} (ha : H a = some (.tup xs)) (hb : H b = some (.tup ys)) (da : TgAllS S H xs ds) (db : TgAllS S H ys es) (hz : xs.length + ys.length ≤ 100000)
    (q : ∀ p H', Fr Non H H' → TgS S H' (.ref p) (.tuple (ds ++ es)) → Q (.ref p) H') : rCatA K (.ref a) (.ref b) H Q := by
  refine x_catA (SqT.of ha) (SqT.of hb) hz (fun e => ?_) (fun _ e => ?_) (fun _ _ p n => ?_)
  · subst e; cases da; exact q b H (Fr.refl _) (.tup hb db)
  · subst e; cases db; rw [List.append_nil] at q; exact q a H (Fr.refl _) (.tup ha da)
  · exact q p _ (Fr.new (Fr.refl _) n) (.tup upd_same (TgAllS.app (da.new n) (db.new n)))
theorem atI_last {α : Type} {xs : List α} {x : α} (h : xs.getLast? = some x) : atI xs (-1) = some x := by
  have hn : xs ≠ [] := fun e => by subst e; cases h
  have hl : 0 < xs.length := List.length_pos_iff.mpr hn
  unfold atI ixN
  rw [if_neg (by decide), if_pos (by omega)]
  show xs[((-1 : Int) + (xs.length : Int)).toNat]? = some x
  have e : ((-1 : Int) + (xs.length : Int)).toNat = xs.length - 1 := by omega
  rw [e, ← List.getLast?_eq_getElem?, h]
theorem atI0 {α : Type} (v : α) (vs : List α) : atI (v :: vs) 0 = some v := by
  unfold atI ixN
  rw [if_pos (by decide), if_pos (by simp only [List.length_cons]; omega)]
  rfl
theorem DtAll.head {H : Hp} {xs : List V} {ds : List PyData} {d : PyData} (h : DtAll H xs ds) (e : ds.head? = some d) : ∃ v, atI xs 0 = some v ∧ Dt H v d := by
  cases h with
  | nil => cases e
  | cons h1 h2 => cases e; exact ⟨_, atI0 _ _, h1⟩
theorem DtAll.last {H : Hp} {xs : List V} {ds : List PyData} {d : PyData} (h : DtAll H xs ds) (e : ds.getLast? = some d) : ∃ v, atI xs (-1) = some v ∧ Dt H v d := by
  have hl := h.length
  rw [List.getLast?_eq_getElem?] at e
  have hlt : ds.length - 1 < ds.length := (List.getElem?_eq_some_iff.mp e).1
  have hx : ds.length - 1 < xs.length := by omega
  have e2 := List.getElem?_eq_getElem hx
  obtain ⟨d', e3, e4⟩ := h.get e2
  rw [e] at e3
  cases e3
  refine ⟨xs[ds.length - 1], atI_last ?_, e4⟩
  rw [List.getLast?_eq_getElem?, hl, e2]
end Tw

/-! TwE: refusals: raise, try, isinstance of what was caught. -/
namespace Tw
open PySem PySem.Spec PyProof.Rows L2
/-- the address that a global class stands at -/
def clA (mg : Str → Option Value) (x : Str) : Addr := match mg x with
  | some (.ref a) => a
  | _ => 0
theorem clA_of {mg : Str → Option Value} {x : Str} {a : Addr} (h : mg x = some (.ref a)) : clA mg x = a := by unfold clA; rw [h]
/-- a class that is named -/
structure ClsTX (K : PySem.W.Frag) (mg : Str → Option Value) (x : Str) : Prop where
  m : mg x = some (.ref (clA mg x))
/-- a refusal without a field -/
structure ExcTX (K : PySem.W.Frag) (mg : Str → Option Value) (x : Str) (bm : List Value) (new : String) : Prop where
  m : mg x = some (.ref (clA mg x))
  kp : PySem.W.keepIn K (.ref (clA mg x)) = true
  ex : PySem.W.excIn K (clA mg x) bm new = true
  sb : PySem.W.subIn K (.ref (clA mg x)) (.type "BaseException") = some true
  ty : PySem.W.typeIn K (.ref (clA mg x)) = some (.type "type")
section
variable {X : Cx} {C : Addr}
/-- C() -/
theorem pmk_own0 {bmB : List Value} {B newId initId : String} {x : Str} {p pos : Pos} (F : ExcBaseFacts B newId initId bmB) (q : PySem.W.excIn X.K C bmB newId = true) (gC : X.mg x = some (.ref C)) (kC : PySem.W.keepIn X.K (.ref C) = true) (r : Raises X (.ref C)) (hg : Gl X x)
    (hdb : (x == ("__debug__" : Str)) = false := by decide) : PMk X (.Call (.Name x p) [] [] pos) (fun _ H Q => Q (.ref C) none H) := by
  intro pins s σ H Q I h
  refine wpAny_Call_Name_kw (ld_glob I hg gC ?_ hdb)
  refine PySem.W.callWith_K0 (f := .ref C) I.kIn kC ?_
  show wpAny _ _ (call (.ref C) []) _ _ _
  obtain ⟨bm, N, nm, qn, bs, hdct, sn, sub, ab, col, dd, k0, k1, k2, k3, k5, mN, hC, hN, hni, T⟩ := exc_obj I.kIn q
  refine wpAny_call_exc_subT F T hC hN hni (fun h' e hm => ?_) (Nat.zero_le _)
  exact mk_of I hm r h (I.hok.gone hm.new)
/-- raise C() -/
def tRaise0 (W : WX) (C : Addr) : TS := fun _ σ H => W (.ref C) none σ H
theorem ps_raise0 {W : WX} {e : Expr} {pos : Pos} (hc : X.calm = true) (tk : Takes X W) (he : PMk X e (fun _ H Q => Q (.ref C) none H)) : PS X (.Raise (some e) none pos) (tRaise0 W C) := ps_raise hc tk he
theorem x_raise0 {E : XK} {D : Ends} {σ : L2.St} {H : Hp} (q : E (.ref C) none H) : tRaise0 (fun cls d _ H => E cls d H) C D σ H := q
/-- a call within a try -/
def tCalS (sp : Sp) (W : WX) (t : TA) : TE := fun σ H Q => t σ H fun vs H1 => sp vs H1 Q (WE W σ)
theorem pcallX {k j : Nat} {x : Str} {ps : List Str} {sp : Sp} {p pos : Pos} {e : Expr} {es : List Expr} {t : TA} {W : WX} (c : CalX X.prog X.w X.K X.mg X.base k x ps sp) (hr : Room j X.A) (hk : k ≤ j) (hg : Gl X x) (tk : Takes X W) (ha : PA X (e :: es) t)
    (hdb : (x == ("__debug__" : Str)) = false := by decide) (he : starEach (e :: es) X.env = (false, eval e X.env) :: starEach es X.env := by rfl) (hpl : (backTo pos (starEach es X.env)).any (·.1) = false := by rfl) :
    PE X (.Call (.Name x p) (e :: es) [] pos) (tCalS sp W t) := by
  obtain ⟨f, fd, F, hm, kp, b⟩ := c.ex
  exact pe_callS F (hr.mono hk) hg hm kp b (fun σ => passAt tk σ) ha hdb he hpl
theorem x_calS {σ : L2.St} {H : Hp} {Q : VK} {sp : Sp} {W : WX} {tr : TA} (q : tr σ H fun vs H1 => sp vs H1 Q (WE W σ)) : tCalS sp W tr σ H Q := q
/-- isinstance of what the suite holds -/
def rIsX (K : PySem.W.Frag) (a : Addr) (cls : Value) (d : Option Addr) : List V → Hp → VK → Prop := fun xs H Q => ∃ (D : Addr) (c : V) (cv : Value) (b : Bool), cls = .ref D ∧ d = none ∧ ExcC K D ∧ xs = [.ref a, c] ∧ ClsV c cv ∧ PySem.W.kitOne K (.ref D) cv = some b ∧ Q (.bl b) H
theorem call_isX {a : Addr} {cls : Value} {d : Option Addr} {oe : Obj} {pn : List (Addr × Obj)} (hz : Zc cls d oe) (hf : ∃ vs, oe.data = .fields vs) : CallR (X.suite a ((a, oe) :: pn)) (.builtin "isinstance") (rIsX X.K a cls d) := by
  intro pins s σ H xs us Q I r h
  obtain ⟨D, c, cv, b, rfl, rfl, hC, rfl, hv, e, q⟩ := h
  exact call_isE hC hz hf pins s σ H _ us Q I r ⟨c, cv, b, rfl, fun u ru => hv.eq ru, e, q⟩
def rIsXT (K : PySem.W.Frag) (a : Addr) (cls : Value) (d : Option Addr) : List V → Hp → VK → Prop := fun xs H Q => ∃ (D tp : Addr) (cs : List V) (us : List Value) (b : Bool), cls = .ref D ∧ d = none ∧ ExcC K D ∧ xs = [.ref a, .ref tp] ∧ H tp = some (.tup cs) ∧ Paired ClsV cs us ∧ PySem.W.kitAny K (.ref D) us = some b ∧ Q (.bl b) H
theorem call_isXT {a : Addr} {cls : Value} {d : Option Addr} {oe : Obj} {pn : List (Addr × Obj)} (hz : Zc cls d oe) (hf : ∃ vs, oe.data = .fields vs) : CallR (X.suite a ((a, oe) :: pn)) (.builtin "isinstance") (rIsXT X.K a cls d) := by
  intro pins s σ H xs us Q I r h
  obtain ⟨D, tp, cs, ws, b, rfl, rfl, C, rfl, hT, k, e, q⟩ := h
  obtain ⟨u1, u2, rfl, r1, r2⟩ := vals2 r
  cases (show u2 = Value.ref tp from r2)
  cases (show u1 = Value.ref a from r1)
  obtain ⟨_, its, rv, o, h1, h2, n, h3⟩ := (show ObjOk X.prog X.w H s.heap tp (.tup cs) from I.hok tp _ hT)
  have e3 := ClsV.all k rv
  subst e3
  obtain ⟨oc, od, dt, sl⟩ := o
  simp only at h2 h3
  subst h2 h3
  obtain ⟨hget, _⟩ := I.pin (a, oe) (List.mem_append.mpr (.inl List.mem_cons_self))
  obtain ⟨vs, hv⟩ := hf
  have J : PySem.W.InstAt s.heap a oe D none := by
    obtain ⟨oc, od, oda, osl⟩ := oe
    obtain ⟨h1, h2⟩ := hz
    dsimp only at h1 h2 hv
    subst h1 h2 hv
    exact ⟨hget, rfl, rfl, trivial⟩
  exact PySem.W.kia_tup (PySem.W.handS_kitx_exc C.hg C.hk C.hs C.hd C.ha C.hn C.ht C.hm) I.kIn J h1 e (fun z => nomatch z) fun tk => ⟨.bl b, H, I.kept (t' := tk) fun _ _ z => z, rfl, q⟩
theorem x_isX {K : PySem.W.Frag} {a D : Addr} {c : V} {cv : Value} {b : Bool} {H : Hp} {Q : VK} (hC : ExcC K D) (hv : ClsV c cv) (e : PySem.W.kitOne K (.ref D) cv = some b) (q : Q (.bl b) H) : rIsX K a (.ref D) none [.ref a, c] H Q := ⟨D, c, cv, b, rfl, rfl, hC, rfl, hv, e, q⟩
theorem x_isXT {K : PySem.W.Frag} {a D tp : Addr} {cs : List V} {us : List Value} {b : Bool} {H : Hp} {Q : VK} (hC : ExcC K D) (hT : H tp = some (.tup cs)) (hv : Paired ClsV cs us) (e : PySem.W.kitAny K (.ref D) us = some b) (q : Q (.bl b) H) : rIsXT K a (.ref D) none [.ref a, .ref tp] H Q := ⟨D, tp, cs, us, b, rfl, rfl, hC, rfl, hT, hv, e, q⟩
end
/-- try .. except C as n (n in slot i) -/
def tTryAs (K : PySem.W.Frag) (c : Value) (i : Nat) (ts : Addr → Value → Option Addr → TS) (Wout : WX) (tb : WX → TS) : TS := fun D σ H => tb (wAs K c i ts Wout D) D σ H
theorem ps_tryAs {X : Cx} {x n : Str} {c : Value} {i : Nat} {body suite : List Stmt} {b₀ : Stmt} {np pos pos' : Pos} {tb : WX → TS} {ts : Addr → Value → Option Addr → TS} {Wout : WX}
    (hs : X.stack = X.env :: X.outer) (hf : X.env.frame = some X.env.locals) (hN : X.N.Nodup) (hi : X.N[i]? = some n) (hln : X.env.kindOf n = some .local) (hc : Names X x c) (tk : Takes X Wout)
    (hb : ∀ (W : WX) (pn : List (Addr × Obj)) (xe : Value → Shared → Prop), Takes (X.tr pn xe) W → PassesOwn (model X.prog X.w) X.A X.env xe → PSs (X.tr pn xe) body (tb W))
    (hsu : ∀ (a : Addr) (oe : Obj) (cls : Value) (d : Option Addr) (pn : List (Addr × Obj)), Zc cls d oe → (∃ vs, oe.data = .fields vs) → PSs (X.suite a ((a, oe) :: pn)) (b₀ :: suite) (ts a cls d)) :
    PS X (.Try body [.ExceptHandler (some (.Name x np)) (some n) (b₀ :: suite) pos'] [] [] pos) (tTryAs X.K c i ts Wout tb) := ps_try_as hs hf hN hi hln hc tk hb hsu
theorem x_tryAs {K : PySem.W.Frag} {c : Value} {i : Nat} {ts : Addr → Value → Option Addr → TS} {Wout : WX} {tb : WX → TS} {D : Ends} {σ : L2.St} {H : Hp} (q : tb (wAs K c i ts Wout D) D σ H) : tTryAs K c i ts Wout tb D σ H := q
/-- the clause takes it -/
theorem x_wAsT {K : PySem.W.Frag} {c cls : Value} {d : Option Addr} {i : Nat} {ts : Addr → Value → Option Addr → TS} {Wout : WX} {D : Ends} {σ : L2.St} {H : Hp} (h : PySem.W.exmOne K cls c = some true)
    (q : ∀ a, Fresh H a → ts a cls d { nx := fun σ' H' => D.nx (σ'.set i none) H', rt := D.rt, bk := fun σ' H' => D.bk (σ'.set i none) H', ct := fun σ' H' => D.ct (σ'.set i none) H' } (σ.set i (some (.ref a))) H) :
    WE (wAs K c i ts Wout D) σ cls d H := ⟨true, h, fun _ a ha => q a ha, fun e => nomatch e⟩
def excCB (K : PySem.W.Frag) (D : Addr) : Bool := decide (PySem.W.findIn K (.ref D) "__getattribute__" = some (some (.builtin "BaseException.__getattribute__"))) && (decide (PySem.W.findIn K (.ref D) "__getattr__" = some none) &&
  (decide (PySem.W.subIn K (.ref D) (.type "BaseException") = some true) && (PySem.W.hasDictIn K D && (decide (PySem.W.findIn K (.ref D) "__class__" = some (some (.builtin "object.__class__"))) &&
  (decide (PySem.W.specialIn K (.builtin "object.__class__") "__get__" = some (some (.builtin "getset_descriptor.__get__"))) && (decide (PySem.W.takesIn K (.builtin "object.__class__") = some true) && decide (PySem.W.mroIn K D (.type "object") = some true)))))))
theorem excC_of {K : PySem.W.Frag} {D : Addr} (h : excCB K D = true) : ExcC K D := by
  unfold excCB at h
  simp only [Bool.and_eq_true, decide_eq_true_eq] at h
  obtain ⟨h1, h2, h3, h4, h5, h6, h7, h8⟩ := h
  exact ⟨h1, h2, h3, h4, h5, h6, h7, h8⟩
theorem boot_ValueError : bootBuiltins "ValueError" = some (.type "ValueError") := by decide +kernel
/-! ### a tuple, none or one time -/
theorem tuple_mul1 (l : Addr) (items : Array Value) (n : Nat) (dd : Option Addr) (sl : Array (Option Value)) (u : Tok) :
    Meets (Builtin.«tuple.__mul__» ⟨[.ref l, .int 1 u], []⟩) (fun _ R s => s.heap.get? l = some { cls := .type "tuple", dict := dd, data := .seq items n, slots := sl } ∧ R (.ok (.ret (Value.ref l))) s) :=
  .of_wp fun prog w A R s h => by
    obtain ⟨hp, g, d, tk, os⟩ := s
    obtain ⟨hl, h⟩ := h
    have f1 := AutoSeq1.idx_int
    wp_walk using wpAny_loadPart' hl
    repeat (first
      | (refine wpAny_ite_true (by simp) ?_; wp_walk using wpAny_loadPart' hl)
      | (refine wpAny_ite_false (by simp) ?_; wp_walk using wpAny_loadPart' hl))
    exact ⟨_, rfl, h⟩
theorem tuple_mul0 (l : Addr) (items : Array Value) (n : Nat) (dd : Option Addr) (sl : Array (Option Value)) (u : Tok) (hi : items.isEmpty = false) :
    Meets (Builtin.«tuple.__mul__» ⟨[.ref l, .int 0 u], []⟩) (fun _ R s => s.heap.get? l = some { cls := .type "tuple", dict := dd, data := .seq items n, slots := sl } ∧
      R (.ok (.ret (Value.ref s.heap.objs.size))) { s with heap := s.heap.push { cls := Value.type "tuple", data := Data.seq #[] }, toks := s.toks }) :=
  .of_wp fun prog w A R s h => by
    obtain ⟨hp, g, d, tk, os⟩ := s
    obtain ⟨hl, h⟩ := h
    have f1 := AutoSeq1.idx_int
    wp_walk using wpAny_loadPart' hl
    repeat (first
      | (refine wpAny_ite_false (by simp [hi]) ?_; wp_walk using wpAny_loadPart' hl)
      | (refine wpAny_ite_true (by simp [hi]) ?_; wp_walk using wpAny_loadPart' hl))
    exact ⟨_, rfl, h⟩
def rRep01 (K : PySem.W.Frag) : R2 := fun x y H Q => ∃ l k xs, x = .ref l ∧ y = .int k ∧ SqT K H l xs ∧ xs ≠ [] ∧ (k = 0 ∨ k = 1) ∧ (k = 0 → ∀ p, H p = none → Q (.ref p) (upd H p (.tup []))) ∧ (k = 1 → Q (.ref l) H)
theorem op_rep01 {X : Cx} : OpR X (binaryOp .Mult) (rRep01 X.K) := by
  intro pins s σ H x y v u Q I rx ry h
  obtain ⟨l, k, xs, rfl, rfl, hT, hne, hk, q0, q1⟩ := h
  cases rx
  obtain ⟨t, rfl⟩ := ry
  obtain ⟨its, r, ⟨⟨cls, dd, data, sl⟩, ho, hc, n, hd⟩, hs⟩ := I.tuple hT
  simp only at hc hd
  subst hc hd
  have hle : its.length = xs.length := r.length.symm
  have hn : its ≠ [] := fun e => hne (by
    rw [e] at hle
    exact List.eq_nil_of_length_eq_zero hle.symm)
  have hi : its.toArray.isEmpty = false := by
    cases its with
    | nil => exact absurd rfl hn
    | cons a b => rfl
  rcases hk with rfl | rfl
  · refine wpAny_binaryOp_repeat_ref (T := "tuple") (U := "int") (by decide) ⟨_, ho, rfl⟩ (fun s' => typeIs_int s' 0 t) noFill_tuple_mul F.fills_int_mul F.slot_int_rmul repeat_tuple F.slot_int_index.lookup
      (call_meets F.slot_int_rmul (typeIs_int s 0 t) F.entry_int_rmul (F.args_int_rmul_2 _ _) (int_rmul_tuple 0 t l its.toArray n dd sl)
        ⟨ho, rfl, ⟨_, ho, rfl⟩, call_meets F.slot_tuple_mul ⟨_, ho, rfl⟩ F.entry_tuple_mul (F.args_tuple_mul_2 _ _) (tuple_mul0 l its.toArray n dd sl t hi) ⟨ho, ?_⟩⟩)
    refine ⟨.ref s.heap.objs.size, _, I.laid (t' := s.toks) (o := .tup []) (fun b ob q => Heap.get?_push_of_some _ q) (Nat.le_refl _) ?_, rfl, q0 rfl _ (I.hok.fresh (Nat.le_refl _))⟩
    exact ⟨Nat.zero_le _, [], .nil, IsTup.new _ _⟩
  · refine wpAny_binaryOp_repeat_ref (T := "tuple") (U := "int") (by decide) ⟨_, ho, rfl⟩ (fun s' => typeIs_int s' 1 t) noFill_tuple_mul F.fills_int_mul F.slot_int_rmul repeat_tuple F.slot_int_index.lookup
      (call_meets F.slot_int_rmul (typeIs_int s 1 t) F.entry_int_rmul (F.args_int_rmul_2 _ _) (int_rmul_tuple 1 t l its.toArray n dd sl)
        ⟨ho, rfl, ⟨_, ho, rfl⟩, call_meets F.slot_tuple_mul ⟨_, ho, rfl⟩ F.entry_tuple_mul (F.args_tuple_mul_2 _ _) (tuple_mul1 l its.toArray n dd sl t) ⟨ho, ?_⟩⟩)
    exact ⟨.ref l, H, I, rfl, q1 rfl⟩
theorem x_rep01 {K : PySem.W.Frag} {H : Hp} {Q : VK} {l : Addr} {xs : List V} {k : Int} (h : SqT K H l xs) (hne : xs ≠ []) (hk : k = 0 ∨ k = 1) (q0 : k = 0 → ∀ p, Fresh H p → Q (.ref p) (upd H p (.tup []))) (q1 : k = 1 → Q (.ref l) H) : rRep01 K (.ref l) (.int k) H Q := ⟨l, k, xs, rfl, rfl, h, hne, hk, q0, q1⟩
end Tw

/-! TwF: labels. -/
namespace Tw
open PySem PySem.Spec PyProof.Rows L2
/-- a label: height, least key, greatest key, how many rows -/
structure Lb where
  h : Int
  lo : PyData
  hi : PyData
  n : Int
def lbD (l : Lb) : PyData := .tuple [.int l.h, l.lo, l.hi, .int l.n]
/-- rows: a list of tuples (key, value) -/
def rowD (p : PyData × PyData) : PyData := .tuple [p.1, p.2]
def lbStep (f x y : Lb) : Bool := decide (y.h = f.h) && ltK x.hi y.lo
def lbRun (f : Lb) : List Lb → Bool
  | x :: y :: r => lbStep f x y && lbRun f (y :: r)
  | _ => true
/-- they may stand in one stem -/
def lbOk : List Lb → Bool
  | [] => false
  | f :: r => decide (2 ≤ (f :: r).length) && decide ((f :: r).length ≤ 4) && lbRun f (f :: r)
theorem lbOk_len {ls : List Lb} (h : ls.length < 2 ∨ 4 < ls.length) : lbOk ls = false := by
  cases ls with
  | nil => rfl
  | cons f r =>
    show (decide (2 ≤ (f :: r).length) && decide ((f :: r).length ≤ 4) && lbRun f (f :: r)) = false
    rcases h with h | h
    · rw [decide_eq_false (by omega)]; rfl
    · rw [decide_eq_true (show 2 ≤ (f :: r).length by omega), decide_eq_false (by omega)]; rfl
theorem lbOk_run {ls : List Lb} {f : Lb} (h1 : 2 ≤ ls.length) (h2 : ls.length ≤ 4) (hf : ls.head? = some f) : lbOk ls = lbRun f ls := by
  cases ls with
  | nil => cases hf
  | cons g r =>
    cases hf
    have h1 : 2 ≤ (f :: r).length := h1
    have h2 : (f :: r).length ≤ 4 := h2
    show (decide (2 ≤ (f :: r).length) && decide ((f :: r).length ≤ 4) && lbRun f (f :: r)) = _
    rw [decide_eq_true h1, decide_eq_true h2]; rfl
theorem lb_drop {ls : List Lb} {i : Nat} {x y : Lb} (hx : ls[i]? = some x) (hy : ls[i + 1]? = some y) (f : Lb) : lbRun f (ls.drop i) = (lbStep f x y && lbRun f (ls.drop (i + 1))) := by
  obtain ⟨a1, a2⟩ := List.getElem?_eq_some_iff.mp hx
  obtain ⟨b1, b2⟩ := List.getElem?_eq_some_iff.mp hy
  rw [List.drop_eq_getElem_cons a1, List.drop_eq_getElem_cons b1, a2, b2]; rfl
theorem lb_last {ls : List Lb} {n : Nat} (h : ls.length ≤ n + 1) (f : Lb) : lbRun f (ls.drop n) = true := by
  have e : (ls.drop n).length ≤ 1 := by rw [List.length_drop]; omega
  cases hd : ls.drop n with
  | nil => rfl
  | cons a r =>
    rw [hd] at e
    cases r with
    | nil => rfl
    | cons b r => simp only [List.length_cons] at e; omega
theorem DtAll.tup4 {H : Hp} {v : V} {a b c d : PyData} (h : Dt H v (.tuple [a, b, c, d])) : ∃ (p : Addr) (u0 u1 u2 u3 : V), v = .ref p ∧ H p = some (.tup [u0, u1, u2, u3]) ∧ Dt H u0 a ∧ Dt H u1 b ∧ Dt H u2 c ∧ Dt H u3 d := by
  cases h with
  | @tup p xs _ e hx =>
  cases hx with
  | cons h0 hx =>
  cases hx with
  | cons h1 hx =>
  cases hx with
  | cons h2 hx =>
  cases hx with
  | cons h3 hx =>
  cases hx
  exact ⟨p, _, _, _, _, rfl, e, h0, h1, h2, h3⟩
def lbSum (ls : List Lb) : Int := (ls.map (·.n)).sum
def lbOver (ls : List Lb) (f l : Lb) : PyData := .tuple [.int (f.h + 1), f.lo, l.hi, .int (lbSum ls)]
theorem cut_from {xs : List V} {k : Int} (h0 : 0 ≤ k) : cutV xs (some k) none = xs.drop k.toNat := by
  have e : HT.sIx xs.length 0 (some k) = min k.toNat xs.length := by
    show (if k < 0 then _ else min k.toNat xs.length) = _
    rw [if_neg (by omega)]
  rw [cutV_eq, HT.sIx_none, e]
  by_cases h : k.toNat ≤ xs.length
  · rw [Nat.min_eq_left h, List.take_of_length_le (by rw [List.length_drop]; omega)]
  · rw [Nat.min_eq_right (by omega), List.drop_eq_nil_of_le (Nat.le_refl _), List.drop_eq_nil_of_le (by omega), List.take_nil]
end Tw

/-! TwG: refusals with a field. -/
namespace Tw
open PySem PySem.Spec PyProof.Rows L2
/-- B.__init__(self, ..), B an own class over ValueError that has no own __init__ -/
structure BaseTX (K : PySem.W.Frag) (C : Addr) : Prop where
  ga : PySem.W.specialIn K (.ref C) "__getattribute__" = some (some (.builtin "type.__getattribute__"))
  rd : PySem.W.readsIn K C (.type "type") = true
  vi : PySem.W.findCls K (.ref C) (.type "type") "__init__" = some (.val (.builtin "ValueError.__init__"))
theorem pe_owninit {X : Cx} {C : Addr} {x : Str} {e : Expr} {es : List Expr} {ta : TA} {p1 p2 pos : Pos} {pl : Sem Bool} (hg : Gl X x) (gC : X.mg x = some (.ref C)) (B : BaseTX X.K C) (ha : PA X (e :: es) ta)
    (hc : eval (.Call (.Attribute (.Name x p1) "__init__" p2) (e :: es) [] pos) X.env = (do
      let ov ← eval (.Name x p1) X.env
      standAt p2.atName
      let (f, first) ← holding [ov] (getMethod ov "__init__" pl)
      callWith pos f first (backTo pos (starEach (e :: es) X.env)) (backToKw pos (keywordEach [] X.env))) := by rfl) (hdb : (x == ("__debug__" : Str)) = false := by decide)
    (he : starEach (e :: es) X.env = (false, eval e X.env) :: starEach es X.env := by rfl) (hpl : (backTo pos (starEach es X.env)).any (·.1) = false := by rfl) :
    PE X (.Call (.Attribute (.Name x p1) "__init__" p2) (e :: es) [] pos) (tVeI X.K ta) := by
  refine ⟨fun pins s σ H Q I h => ?_⟩
  refine PySem.W.methodCall_KW (ld_glob I hg gC ?_ hdb) hc
  refine PySem.W.method_cls I.kIn B.ga (PySem.W.cls_value I.kIn B.rd B.vi (by decide +kernel) ?_)
  show wpAny _ _ (callWith pos (Value.builtin "ValueError.__init__") [] (backTo pos (starEach (e :: es) X.env)) []) _ _ _
  refine PyProof.Rows.callWith_method1 (thn (ha.run pos pins _ σ H _ (I.tok _) h) fun us s1 ⟨vs, H1, I1, r1, a, C, ws, ev, hl, T, ea, q⟩ => ?_) he hpl
  subst ev
  cases r1 with
  | @cons _ u0 _ ur ra rw' =>
    obtain rfl : u0 = Value.ref a := ra
    have hlen : ur.length ≤ sizeLine := by
      rw [← Paired.length rw', sizeLine_eq]
      omega
    exact oinit_ok T I1 ea hlen fun s' J => ⟨.non, H1, J, rfl, q⟩
end Tw

/-! TwH: keys written as texts. -/
namespace Tw
open PySem PySem.Spec PyProof.Rows L2 TL
/-- quotes and strokes doubled -/
def escL : List Nat → List Nat
  | [] => []
  | c :: r => (if c = 34 ∨ c = 92 then [92, c] else [c]) ++ escL r
def intL (i : Int) : List Nat := (Str.ofString (toString i)).cps.toList
mutual
/-- the signs that write a key -/
def encL : PyData → List Nat
  | .int i => intL i
  | .str z => 34 :: (escL z.cps.toList ++ [34])
  | .tuple ds => 40 :: (encAll ds ++ [41])
  | .none => []
  | .bool _ => []
  | .list _ => []
  | .dict _ => []
def encAll : List PyData → List Nat
  | [] => []
  | d :: ds => encL d ++ encMore ds
def encMore : List PyData → List Nat
  | [] => []
  | d :: ds => 32 :: (encL d ++ encMore ds)
end
def strOf (l : List Nat) : Str := ⟨l.toArray⟩
theorem strOf_cps (l : List Nat) : (strOf l).cps.toList = l := rfl
theorem strOf_len (l : List Nat) : (strOf l).length = l.length := by rw [str_len]; rfl
theorem strOf_app (a b : List Nat) : strOf a ++ strOf b = strOf (a ++ b) := by
  refine PySem.W.str_of_cps ?_
  rw [str_app]; rfl
theorem of_cps (z : Str) : strOf z.cps.toList = z := PySem.W.str_of_cps rfl
def encS (d : PyData) : Str := strOf (encL d)
theorem encS_int (i : Int) : encS (.int i) = Str.ofString (toString i) := of_cps _
theorem escL_app (a b : List Nat) : escL (a ++ b) = escL a ++ escL b := by
  induction a with
  | nil => rfl
  | cons c a ih => rw [List.cons_append, escL, escL, ih, List.append_assoc]
theorem escL_len (a : List Nat) : (escL a).length ≤ 2 * a.length := by
  induction a with
  | nil => exact Nat.le_refl _
  | cons c a ih =>
    rw [escL, List.length_append, List.length_cons]
    split
    · simp only [List.length_cons, List.length_nil]; omega
    · simp only [List.length_cons, List.length_nil]; omega
/-! ### numbers -/
theorem intL_nat (n : Nat) : intL (n : Int) = numL n := tl_num n
theorem intL_neg (n : Nat) : intL (Int.negSucc n) = 45 :: numL (n + 1) := by
  have e : toString (Int.negSucc n) = "-" ++ Nat.repr (n + 1) := rfl
  unfold intL
  rw [e, PyProof.Rows.signs_ofString, String.toList_append, List.map_append, Nat.toList_repr]
  rfl
theorem numOk_nat {n : Nat} (h : numOk (n : Int)) : n < 10 ^ 60 := by
  have e : ((10 ^ 60 : Nat) : Int) = (10 : Int) ^ 60 := by decide
  have := h.2
  rw [← e] at this
  exact Int.ofNat_lt.mp this
theorem numOk_neg {n : Nat} (h : numOk (Int.negSucc n)) : n + 1 < 10 ^ 60 := by
  have e : ((10 ^ 60 : Nat) : Int) = (10 : Int) ^ 60 := by decide
  have h1 := h.1
  have e2 : Int.negSucc n = -((n + 1 : Nat) : Int) := rfl
  rw [e2, ← e] at h1
  have : ((n + 1 : Nat) : Int) < ((10 ^ 60 : Nat) : Int) := by omega
  exact Int.ofNat_lt.mp this
/-- a number's signs: perhaps a minus, then figures -/
theorem intL_cases {i : Int} (h : numOk i) : (∃ n : Nat, i = (n : Int) ∧ intL i = numL n ∧ n < 10 ^ 60) ∨ ∃ n : Nat, i = -((n + 1 : Nat) : Int) ∧ intL i = 45 :: numL (n + 1) ∧ n + 1 < 10 ^ 60 := by
  cases i with
  | ofNat n => exact .inl ⟨n, rfl, intL_nat n, numOk_nat h⟩
  | negSucc n => exact .inr ⟨n, rfl, intL_neg n, numOk_neg h⟩
theorem numL_60 {n : Nat} (h : n < 10 ^ 60) : (numL n).length ≤ 60 := numL_len (by decide) h
/-- the first figure is a nought just of nought -/
theorem numL_head : ∀ n : Nat, (numL n).head? = some 48 → n = 0 := by
  intro n
  induction n using Nat.strongRecOn with
  | _ n ih =>
    intro h
    by_cases hn : n < 10
    · rw [numL_lt hn] at h
      simp at h
      omega
    · rw [numL_step (by omega)] at h
      have hne : numL (n / 10) ≠ [] := numL_ne _
      rw [List.head?_append] at h
      cases hq : (numL (n / 10)).head? with
      | none => rw [List.head?_eq_none_iff] at hq; exact absurd hq hne
      | some c =>
        rw [hq] at h
        have h' : c = 48 := by simpa using h
        have := ih (n / 10) (by omega) (by rw [hq, h'])
        omega
theorem int_back_nat {n : Nat} (h : n < 10 ^ 60) : intText? (strOf (numL n)) = some (n : Int) := by
  have e := intText_digits (x := strOf (numL n)) (numL_digits n) (numL_ne n) (by rw [strOf_len]; exact Nat.le_trans (numL_60 h) (by decide))
  rw [strOf_cps, numL_val] at e
  exact e
theorem int_back_neg {n : Nat} (h : n < 10 ^ 60) : intText? (strOf (45 :: numL n)) = some (-(n : Int)) := by
  have e := intText_neg (x := strOf (45 :: numL n)) (cs := numL n) rfl (numL_digits n) (numL_ne n) (by rw [strOf_len, List.length_cons]; exact Nat.le_trans (Nat.succ_le_succ (numL_60 h)) (by decide))
  rw [numL_val] at e
  exact e
/-! ### signs by place -/
def sgO : Option Nat → Str
  | some c => ⟨#[c]⟩
  | none => ⟨#[]⟩
def digC (c : Nat) : Bool := decide (48 ≤ c) && decide (c ≤ 57)
def digO : Option Nat → Bool
  | some c => digC c
  | none => false
theorem cut_one {z : Str} {n : Nat} : cutS z (some (n : Int)) (some ((n : Int) + 1)) = sgO z.cps.toList[n]? := by
  have e1 : ((n : Int) + 1) = ((n + 1 : Nat) : Int) := by omega
  refine PySem.W.str_of_cps ?_
  rw [e1]
  show (z.cps.toList.drop (HT.sIx z.length 0 (some (n : Int)))).take (HT.sIx z.length z.length (some ((n + 1 : Nat) : Int)) - HT.sIx z.length 0 (some (n : Int))) = _
  rw [HT.sIx_nat, HT.sIx_nat, str_len]
  by_cases h : n < z.cps.toList.length
  · rw [Nat.min_eq_left (Nat.le_of_lt h), Nat.min_eq_left h, List.getElem?_eq_getElem h, List.drop_eq_getElem_cons h]
    have e : n + 1 - n = 1 := by omega
    rw [e]; rfl
  · rw [List.getElem?_eq_none (by omega), Nat.min_eq_right (show z.cps.toList.length ≤ n + 1 by omega), Nat.min_eq_right (show z.cps.toList.length ≤ n by omega), List.drop_eq_nil_of_le (Nat.le_refl _), List.take_nil]; rfl
theorem cut_mid {z : Str} {n m : Nat} {a b c : List Nat} (h : z.cps.toList = a ++ b ++ c) (hn : n = a.length) (hm : m = a.length + b.length) : cutS z (some (n : Int)) (some (m : Int)) = strOf b := by
  refine PySem.W.str_of_cps ?_
  show (z.cps.toList.drop (HT.sIx z.length 0 (some (n : Int)))).take (HT.sIx z.length z.length (some (m : Int)) - HT.sIx z.length 0 (some (n : Int))) = b
  rw [HT.sIx_nat, HT.sIx_nat, str_len, h, hn, hm]
  have l : (a ++ b ++ c).length = a.length + b.length + c.length := by simp only [List.length_append]
  rw [l, Nat.min_eq_left (by omega), Nat.min_eq_left (by omega)]
  have e : a.length + b.length - a.length = b.length := by omega
  rw [e, List.append_assoc, List.drop_left, List.take_left]
theorem sgO_one (c : Nat) : sgO (some c) = ⟨#[c]⟩ := rfl
theorem get_at {l a r : List Nat} {c n : Nat} (h : l.drop n = c :: r) : l[n]? = some c := by
  rw [← List.head?_drop, h]; rfl
theorem get_off {l : List Nat} {n : Nat} (h : l.drop n = []) : l[n]? = none := by
  rw [← List.head?_drop, h]; rfl
theorem drop_next {l r : List Nat} {c n : Nat} (h : l.drop n = c :: r) : l.drop (n + 1) = r := by
  rw [← List.drop_drop, h]; rfl
theorem drop_far {l a r : List Nat} {n : Nat} (h : l.drop n = a ++ r) : l.drop (n + a.length) = r := by
  rw [← List.drop_drop, h, List.drop_left]
/-! ### rules under names -/
section
variable {X : Cx}
def rInZ : R2 := fun x y H Q => ∃ (c : Nat) (z : Str), x = .str ⟨#[c]⟩ ∧ y = .str z ∧ Q (.bl (decide (c ∈ z.cps.toList))) H
theorem o_inZ : OpR X (compareOp .In) rInZ := op_in_sign
def rIntS : List V → Hp → VK → Prop := fun xs H Q => ∃ a n, xs = [.str a] ∧ intText? a = some n ∧ a.length ≤ 640 ∧ Q (.int n) H
theorem c_intS : CallR X (.type "int") rIntS := call_int_str
end
theorem x_inZ {H : Hp} {Q : VK} {c : Nat} {z : Str} (q : Q (.bl (decide (c ∈ z.cps.toList))) H) : rInZ (.str ⟨#[c]⟩) (.str z) H Q := ⟨c, z, rfl, rfl, q⟩
theorem x_intS {H : Hp} {Q : VK} {a : Str} {n : Int} (h : intText? a = some n) (hl : a.length ≤ 640) (q : Q (.int n) H) : rIntS [.str a] H Q := ⟨a, n, rfl, h, hl, q⟩
theorem dig_mem (c : Nat) : decide (c ∈ (Str.ofString "0123456789").cps.toList) = digC c := by
  have e : (Str.ofString "0123456789").cps.toList = [48, 49, 50, 51, 52, 53, 54, 55, 56, 57] := by decide +kernel
  rw [e]
  unfold digC
  rw [Bool.eq_iff_iff, decide_eq_true_eq, Bool.and_eq_true, decide_eq_true_eq, decide_eq_true_eq]
  simp only [List.mem_cons, List.not_mem_nil, or_false]
  omega
theorem x_aug {n : Nat} {x : V} {te : TE} {ti : TIp} {D : Ends} {σ : L2.St} {H : Hp} (h : σ[n]? = some (some x)) (q : te σ H fun y H1 => ti x y H1 fun z H2 => D.nx (σ.set n (some z)) H2) : tAug n te ti D σ H := ⟨x, h, q⟩
theorem x_ipA {H : Hp} {Q : VK} {i j : Int} (q : Q (.int (i + j)) H) : ipI (fun i j => i + j) (.int i) (.int j) H Q := ⟨i, j, rfl, rfl, q⟩
theorem x_ipS {H : Hp} {Q : VK} {i j : Int} (q : Q (.int (i - j)) H) : ipI (fun i j => i - j) (.int i) (.int j) H Q := ⟨i, j, rfl, rfl, q⟩
/-- one sign as it is written -/
def esc1 (c : Nat) : List Nat := if c = 34 ∨ c = 92 then [92, c] else [c]
theorem escL_cons (c : Nat) (r : List Nat) : escL (c :: r) = esc1 c ++ escL r := rfl
theorem esc1_head (c : Nat) : ∃ x r, esc1 c = x :: r ∧ x ≠ 34 := by
  unfold esc1
  by_cases h : c = 34 ∨ c = 92
  · rw [if_pos h]; exact ⟨92, [c], rfl, by decide⟩
  · rw [if_neg h]; exact ⟨c, [], rfl, fun e => h (.inl e)⟩
/-- the first sign of what writes a key -/
theorem encL_head {r : Nat} {d : PyData} (h : isK r d) : ∃ x t, encL d = x :: t ∧ x ≠ 41 ∧ x ≠ 32 := by
  rcases isK_cases h with ⟨i, rfl, hi⟩ | ⟨z, rfl, hz⟩ | ⟨r1, ds, rfl, rfl, _, _⟩
  · rcases intL_cases hi with ⟨m, h1, h2, h3⟩ | ⟨m, h1, h2, h3⟩
    · cases hq : numL m with
      | nil => exact absurd hq (numL_ne m)
      | cons c t =>
        have := numL_digits m c (by rw [hq]; exact List.mem_cons_self ..)
        refine ⟨c, t, by rw [encL, h2, hq], ?_, ?_⟩
        · have := this.1; omega
        · have := this.1; omega
    · exact ⟨45, _, by rw [encL, h2], by decide, by decide⟩
  · exact ⟨34, _, by rw [encL], by decide, by decide⟩
  · exact ⟨40, _, by rw [encL], by decide, by decide⟩
def B_key_from (r : Nat) : V → V → V → Hp → VK → XK → Prop := fun t n rm H Q _ => ∃ (z : Str) (k : Nat) (d : PyData) (rest : List Nat), t = .str z ∧ n = .int k ∧ rm = .int (r : Int) ∧ z.length ≤ 100000 ∧ isK r d ∧ z.cps.toList.drop k = encL d ++ rest ∧ (∀ c, rest.head? = some c → digC c = false) ∧
  ∀ p v H', Fr Non H H' → H' p = some (.tup [v, .int ((k + (encL d).length : Nat) : Int)]) → Dt H' v d → Q (.ref p) H'
def B_parts_from (r : Nat) : V → V → V → Hp → VK → XK → Prop := fun t n rm H Q _ => ∃ (z : Str) (k : Nat) (ds : List PyData) (rest : List Nat), t = .str z ∧ n = .int k ∧ rm = .int (r : Int) ∧ z.length ≤ 100000 ∧ (∀ d ∈ ds, isK r d) ∧ ds.length ≤ 4 ∧ z.cps.toList.drop k = encAll ds ++ 41 :: rest ∧
  ∀ p v H', Fr Non H H' → H' p = some (.tup [v, .int ((k + (encAll ds).length + 1 : Nat) : Int)]) → Dt H' v (.tuple ds) → Q (.ref p) H'
theorem sg_eq (x c : Nat) (s : String) (h : Str.ofString s = ⟨#[c]⟩) : decide (sgO (some x) = Str.ofString s) = decide (x = c) := by
  rw [h]; exact decide_eq_decide.mpr one_ne
theorem sg_q : Str.ofString "\"" = ⟨#[34]⟩ := by decide +kernel
theorem sg_b : Str.ofString "\\" = ⟨#[92]⟩ := by decide +kernel
theorem sg_o : Str.ofString "(" = ⟨#[40]⟩ := by decide +kernel
theorem sg_c : Str.ofString ")" = ⟨#[41]⟩ := by decide +kernel
theorem sg_s : Str.ofString " " = ⟨#[32]⟩ := by decide +kernel
theorem sg_e (x : Nat) : decide (sgO (some x) = Str.ofString "") = false := decide_eq_false fun h => by
  have h1 := congrArg Str.length h
  have e2 : (Str.ofString "").length = 0 := by decide +kernel
  rw [e2] at h1
  cases h1
/-! ### replace, join -/
section
variable {X : Cx}
theorem pe_opST {op : Operator} {r : R2} {m : Str} {j : Nat} {p pos : Pos} {f : Expr} {tf : TE} (ho : OpR X (binaryOp op) r) (hb : PET X f tf) : PE X (.BinOp (.Constant (.str m) j p) op f pos) (tOp r (tC (.str m)) tf) := by
  refine ⟨fun pins s σ H Q I h => ?_⟩
  refine wpAny_BinOp (Calls.Constant_str ?_)
  exact thn (hb pins { s with toks := s.toks + 1 } σ H _ (by show 1 ≤ s.toks + 1; omega) (I.tok _) h) fun u s2 ⟨y, H2, I2, r2, q2⟩ => ho pins s2 σ H2 (.str m) y _ u Q I2 ⟨_, rfl⟩ r2 q2
def rJoin (K : PySem.W.Frag) : V → List V → Hp → VK → Prop := fun x xs H Q => ∃ a p, ∃ ys : List Str, x = .str a ∧ xs = [.ref p] ∧ (SqL K H p (ys.map V.str) ∨ SqT K H p (ys.map V.str)) ∧
    (ys.map (·.length)).sum + ys.length * a.length ≤ 16777216 ∧ Q (.str (Txt.join a ys)) H
theorem m_join : MtR X "str.join" (rJoin X.K) := mt_join
end
theorem x_join {K : PySem.W.Frag} {H : Hp} {Q : VK} {a : Str} {p : Addr} {ys : List Str} (h : SqL K H p (ys.map V.str)) (hs : (ys.map (·.length)).sum + ys.length * a.length ≤ 16777216) (q : Q (.str (Txt.join a ys)) H) : rJoin K (.str a) [.ref p] H Q := ⟨a, p, ys, rfl, rfl, .inl h, hs, q⟩
theorem x_repl {to : TE} {y z : Str} {σ : L2.St} {H : Hp} {Q : VK} (q : to σ H fun v H1 => ∃ x, v = .str x ∧ x.length + (x.length + 1) * z.length ≤ 16777216 ∧ Q (.str (Txt.replace x y z)) H1) : CwR.tReplC to y z σ H Q := q
theorem join_enc1 : ∀ (ds : List PyData) (d : PyData), Str.join (Str.ofString " ") (encS d :: ds.map encS) = strOf (encL d ++ encMore ds)
  | [], d => by rw [List.map_nil, encMore, List.append_nil]; rfl
  | e :: ds, d => by
    rw [List.map_cons, PyProof.Rows.join_cons_cons, join_enc1 ds e, encMore]
    have e1 : Str.ofString " " = strOf [32] := by decide +kernel
    rw [e1]
    unfold encS
    rw [strOf_app, strOf_app, List.append_assoc]; rfl
theorem join_enc : ∀ ds : List PyData, Txt.join (Str.ofString " ") (ds.map encS) = strOf (encAll ds)
  | [] => by
    rw [show Txt.join (Str.ofString " ") ([].map encS) = Str.join (Str.ofString " ") ([].map encS) from StrLaws.glued_eq_join _ _]; rfl
  | d :: ds => by
    rw [show Txt.join (Str.ofString " ") ((d :: ds).map encS) = Str.join (Str.ofString " ") ((d :: ds).map encS) from StrLaws.glued_eq_join _ _, List.map_cons, join_enc1, encAll]
/-! ### show's way with quotes and strokes -/
theorem repl_cons {c x : Nat} {w r : List Nat} : StrLaws.replL [c] w (x :: r) = (if x = c then w else [x]) ++ StrLaws.replL [c] w r := by
  by_cases h : x = c
  · rw [if_pos h, StrLaws.replL_hit (by simp) (by rw [h]; rfl)]; rfl
  · rw [if_neg h, StrLaws.replL_miss (by intro e; exact h (by simpa using e))]; rfl
theorem repl_nil {c : Nat} {w : List Nat} : StrLaws.replL [c] w [] = [] := StrLaws.replL_nil
theorem esc_repl (l : List Nat) : StrLaws.replL [34] [92, 34] (StrLaws.replL [92] [92, 92] l) = escL l := by
  induction l with
  | nil => rw [repl_nil, repl_nil]; rfl
  | cons x r ih =>
    rw [repl_cons, escL, ← ih]
    by_cases h : x = 92
    · rw [if_pos h, if_pos (.inr h), h]
      show StrLaws.replL [34] [92, 34] (92 :: 92 :: _) = 92 :: 92 :: _
      rw [repl_cons, repl_cons, if_neg (by decide)]; rfl
    · rw [if_neg h]
      show StrLaws.replL [34] [92, 34] (x :: _) = _
      rw [repl_cons]
      by_cases h2 : x = 34
      · rw [if_pos h2, if_pos (.inl h2), h2]; rfl
      · rw [if_neg h2, if_neg (by rintro (e | e); exact h2 e; exact h e)]; rfl
theorem show_repl (z : Str) : Txt.replace (Txt.replace z (Str.ofString "\\") (Str.ofString "\\\\")) (Str.ofString "\"") (Str.ofString "\\\"") = strOf (escL z.cps.toList) := by
  refine PySem.W.str_of_cps ?_
  have e1 : (Str.ofString "\\").cps.toList = [92] := by decide +kernel
  have e2 : (Str.ofString "\\\\").cps.toList = [92, 92] := by decide +kernel
  have e3 : (Str.ofString "\"").cps.toList = [34] := by decide +kernel
  have e4 : (Str.ofString "\\\"").cps.toList = [92, 34] := by decide +kernel
  rw [StrLaws.replace_list (by decide +kernel), StrLaws.replace_list (by decide +kernel), e1, e2, e3, e4, esc_repl]; rfl
theorem repl_len (z : Str) : (Txt.replace z (Str.ofString "\\") (Str.ofString "\\\\")).length ≤ 2 * z.length := by
  have e1 : (Str.ofString "\\").cps.toList = [92] := by decide +kernel
  have e2 : (Str.ofString "\\\\").cps.toList = [92, 92] := by decide +kernel
  rw [str_len, str_len, StrLaws.replace_list (by decide +kernel), e1, e2]
  generalize z.cps.toList = l
  induction l with
  | nil => rw [repl_nil]; exact Nat.le_refl _
  | cons x r ih =>
    rw [repl_cons, List.length_append, List.length_cons]
    split
    · simp only [List.length_cons, List.length_nil]; omega
    · simp only [List.length_cons, List.length_nil]; omega
/-! ### how long -/
theorem intL_len {i : Int} (h : numOk i) : (intL i).length ≤ 61 := by
  rcases intL_cases h with ⟨m, h1, h2, h3⟩ | ⟨m, h1, h2, h3⟩
  · rw [h2]; have := numL_60 h3; omega
  · rw [h2, List.length_cons]; have := numL_60 h3; omega
theorem encMore_len {n : Nat} : ∀ {ds : List PyData}, (∀ d ∈ ds, (encL d).length ≤ n) → (encMore ds).length ≤ ds.length * (n + 1)
  | [], _ => Nat.zero_le _
  | d :: ds, h => by
    have h1 := h d (List.mem_cons_self ..)
    have h2 := encMore_len fun e he => h e (List.mem_cons_of_mem _ he)
    rw [encMore, List.length_cons, List.length_append, List.length_cons, Nat.succ_mul]
    omega
theorem encAll_len {n : Nat} {ds : List PyData} (h : ∀ d ∈ ds, (encL d).length ≤ n) : (encAll ds).length ≤ ds.length * (n + 1) := by
  cases ds with
  | nil => exact Nat.zero_le _
  | cons d ds =>
    have := encMore_len h
    rw [encMore, List.length_cons, List.length_append] at this
    rw [encAll, List.length_append]
    omega
theorem encL_len : ∀ {r : Nat} {d : PyData}, isK r d → (encL d).length ≤ 100 * 5 ^ r
  | r, d, h => by
    rcases isK_cases h with ⟨i, rfl, hi⟩ | ⟨z, rfl, hz⟩ | ⟨r1, ds, rfl, rfl, hl, hs⟩
    · rw [encL]
      exact Nat.le_trans (intL_len hi) (Nat.le_trans (by decide) (Nat.le_mul_of_pos_right 100 (Nat.pow_pos (by decide))))
    · rw [encL]
      have h1 := escL_len z.cps.toList
      have h2 := hz.1
      rw [str_len] at h2
      have h3 : 100 ≤ 100 * 5 ^ r := Nat.le_mul_of_pos_right 100 (Nat.pow_pos (by decide))
      simp only [List.length_cons, List.length_append, List.length_nil]
      omega
    · rw [encL]
      have h1 := encAll_len (n := 100 * 5 ^ r1) fun d hd => encL_len (hs d hd)
      have h2 : ds.length * (100 * 5 ^ r1 + 1) ≤ 4 * (100 * 5 ^ r1 + 1) := Nat.mul_le_mul_right _ hl
      have h3 : 100 ≤ 100 * 5 ^ r1 := Nat.le_mul_of_pos_right 100 (Nat.pow_pos (by decide))
      rw [Nat.pow_succ]
      simp only [List.length_cons, List.length_append, List.length_nil]
      omega
theorem encL_small {d : PyData} (h : isK 3 d) : (encL d).length ≤ 12500 := encL_len h
theorem sg_eqC (x c : Nat) (s : String) (h : Str.ofString s = ⟨#[c]⟩) : decide ((⟨#[x]⟩ : Str) = Str.ofString s) = decide (x = c) := sg_eq x c s h
theorem put_b (l : List Nat) : strOf l ++ Str.ofString "\\" = strOf (l ++ [92]) := by rw [show Str.ofString "\\" = strOf [92] by decide +kernel, strOf_app]
theorem put_1 (l : List Nat) (c : Nat) : strOf l ++ (⟨#[c]⟩ : Str) = strOf (l ++ [c]) := strOf_app l [c]
theorem quoted (l : List Nat) : Str.ofString "\"" ++ strOf l ++ Str.ofString "\"" = strOf (34 :: (l ++ [34])) := by
  rw [show Str.ofString "\"" = strOf [34] by decide +kernel, strOf_app, strOf_app]; rfl
theorem braced (l : List Nat) : Str.ofString "(" ++ strOf l ++ Str.ofString ")" = strOf (40 :: (l ++ [41])) := by
  rw [show Str.ofString "(" = strOf [40] by decide +kernel, show Str.ofString ")" = strOf [41] by decide +kernel, strOf_app, strOf_app]; rfl
theorem len_q : (Str.ofString "\"").length = 1 := by decide +kernel
theorem len_b : (Str.ofString "\\").length = 1 := by decide +kernel
theorem len_o : (Str.ofString "(").length = 1 := by decide +kernel
theorem len_c : (Str.ofString ")").length = 1 := by decide +kernel
theorem len_s : (Str.ofString " ").length = 1 := by decide +kernel
theorem sum_encS {n : Nat} : ∀ {ds : List PyData}, (∀ d ∈ ds, (encL d).length ≤ n) → ((ds.map encS).map (·.length)).sum ≤ ds.length * n
  | [], _ => Nat.zero_le _
  | d :: ds, h => by
    have h1 := h d (List.mem_cons_self ..)
    have h2 := sum_encS fun e he => h e (List.mem_cons_of_mem _ he)
    have h3 : (encS d).length = (encL d).length := strOf_len _
    rw [List.map_cons, List.map_cons, List.sum_cons, List.length_cons, Nat.succ_mul, h3]
    omega
theorem x_revL {K : PySem.W.Frag} {te : TE} {σ : L2.St} {H : Hp} {Q : VK} (q : te σ H fun x H1 => ∃ a xs, x = .ref a ∧ SqL K H1 a xs ∧ ∀ p, Fresh H1 p → Q (.ref p) (upd H1 p (.lst xs.reverse))) : tRevL K te σ H Q := q
end Tw

/-! TwI: refusals with a field: made, raised, held, asked. -/
namespace Tw
open PySem PySem.Spec PyProof.Rows L2
/-- the j-th def of a class -/
def inClass : Stmt → Nat → Stmt
  | .ClassDef _ _ _ b _ _ _ _ _ _ _, j => b.getD j (.Pass ⟨0, 0, 0, 0⟩)
  | s, _ => s
/-- a class whose refusals bear one thing, under f -/
structure OwnTX (K : PySem.W.Frag) (mg : Str → Option Value) (x f : Str) : Prop where
  m : mg x = some (.ref (clA mg x))
  o : OexC K (clA mg x)
  xf : XfC K (clA mg x)
  no : PySem.W.findIn K (.ref (clA mg x)) f = some none
/-- where its maker's own text stands -/
structure DefM (K : PySem.W.Frag) (mg : Str → Option Value) (x q : Str) (ps : List Str) (st : Stmt) : Prop where
  ex : ∃ fI fd, Fun K "__init__" q st fI fd ∧ PySem.W.findIn K (.ref (clA mg x)) "__init__" = some (some (.ref fI)) ∧ PySem.W.typeIn K (.ref fI) = some (.type "function") ∧ Binds K fd ps []
/-- what the maker's own text does with a raw one -/
def SpI (C : Addr) (f : Str) : Sp := Sp2 fun self y H Q _ => ∃ a, self = .ref a ∧ H a = some (exo a C none) ∧ ∀ dx, H dx = none → dx ≠ a → Q .non (upd (upd H dx (exd dx [(f, y)])) a (exo a C (some dx)))
structure MkX (P : Program) (w : World) (K : PySem.W.Frag) (mg : Str → Option Value) (base : Heap) (k : Nat) (x f : Str) : Prop where
  ex : ∃ fI fd ps, FnOk P w K mg base (L2.CX P w) k fI fd ps (SpI (clA mg x) f) ∧ PySem.W.findIn K (.ref (clA mg x)) "__init__" = some (some (.ref fI)) ∧ PySem.W.typeIn K (.ref fI) = some (.type "function") ∧ Binds K fd ps []
section
variable {X : Cx} {C : Addr}
theorem upd_del {H : Hp} {a dx : Addr} {e0 e1 e2 e3 : HO} (h : H a = none) (hn : dx ≠ a) : upd (del (upd (upd (upd H a e0) dx e1) a e2) a) dx e3 = upd H dx e3 := by
  funext b
  by_cases h1 : b = dx
  · subst h1; rw [upd_same, upd_same]
  · rw [upd_ne h1, upd_ne h1]
    by_cases h2 : b = a
    · subst h2
      rw [h]
      exact del_same
    · rw [del_ne h2, upd_ne h2, upd_ne h1, upd_ne h2]
/-- C(..), raised -/
def rMkI (C : Addr) (f : Str) (Q : XK) : List V → Hp → Prop := fun vs H1 => vs.length ≤ 1000 ∧ ∀ a, H1 a = none → SpI C f (.ref a :: (vs ++ [])) (upd H1 a (exo a C none)) (fun v H2 => v = .non ∧ ∃ (d : Addr) (fs : List (Str × V)), H2 a = some (exo a C (some d)) ∧ H2 d = some (exd d fs) ∧ H1 d = none ∧ Q (.ref C) (some d) (upd (del H2 a) d (.xd fs))) (fun _ _ _ => False)
def tMkI (C : Addr) (f : Str) (ta : TA) : L2.St → Hp → XK → Prop := fun σ H Q => ta σ H (rMkI C f Q)
theorem x_mkI0 {f : Str} {Q : XK} {y : V} {H : Hp} (q : ∀ d, Fresh H d → Q (.ref C) (some d) (upd H d (.xd [(f, y)]))) : rMkI C f Q [y] H := by
  refine ⟨Nat.le_trans (Nat.le_refl 1) (by decide), fun a na => ⟨.ref a, y, by simp, a, rfl, upd_same, fun dx nd hne => ⟨rfl, dx, [(f, y)], upd_same, ?_, ?_, ?_⟩⟩⟩
  · rw [upd_ne hne, upd_same]
  · rw [upd_ne hne] at nd; exact nd
  · rw [upd_del na hne]
    refine q dx ?_
    rw [upd_ne hne] at nd; exact nd
theorem pmk_I {k j : Nat} {x f : Str} {p pos : Pos} {e : Expr} {es : List Expr} {ta : TA} (M : MkX X.prog X.w X.K X.mg X.base k x f) (T : OwnTX X.K X.mg x f) (hr : Room j X.A) (hk : k + 1 ≤ j) (hg : Gl X x) (ha : PA X (e :: es) ta)
    (hdb : (x == ("__debug__" : Str)) = false := by decide) (he : starEach (e :: es) X.env = (false, eval e X.env) :: starEach es X.env := by rfl) (hpl : (backTo pos (starEach es X.env)).any (·.1) = false := by rfl) :
    PMk X (.Call (.Name x p) (e :: es) [] pos) (tMkI (clA X.mg x) f ta) := by
  obtain ⟨fI, fd, ps, F, iC, tI, hb⟩ := M.ex
  exact pmk_oex (pos := pos) (p := p) T.o iC tI F (hr.mono hk) hb .nil (fun _ _ _ _ _ _ _ h => by obtain ⟨_, _, _, _, _, _, _, _, _, _, _, _, h⟩ := h; exact h.elim) hg T.m ha hdb he hpl
/-- raise C(..) -/
def tRaiseI (W : WX) (C : Addr) (f : Str) (ta : TA) : TS := fun _ σ H => tMkI C f ta σ H fun cls d H' => W cls d σ H'
theorem ps_raiseI {W : WX} {e : Expr} {pos : Pos} {f : Str} {ta : TA} (hc : X.calm = true) (tk : Takes X W) (he : PMk X e (tMkI C f ta)) : PS X (.Raise (some e) none pos) (tRaiseI W C f ta) := ps_raise hc tk he
theorem x_raiseI {E : XK} {D : Ends} {σ : L2.St} {H : Hp} {f : Str} {ta : TA} (q : ta σ H (rMkI C f E)) : tRaiseI (fun cls d _ H => E cls d H) C f ta D σ H := q
/-- C(..), held -/
def rMkV (C : Addr) (f : Str) (Q : VK) : List V → Hp → Prop := fun vs H1 => vs.length ≤ 1000 ∧ ∀ a, H1 a = none → SpI C f (.ref a :: vs) (upd H1 a (exo a C none)) (fun v H2 => v = .non ∧ Q (.ref a) H2) (fun _ _ _ => False)
def tMkV (C : Addr) (f : Str) (ta : TA) : TE := fun σ H Q => ta σ H (rMkV C f Q)
theorem x_mkV0 {f : Str} {Q : VK} {y : V} {H : Hp} (q : ∀ a d, Fresh H a → Fresh H d → d ≠ a → Q (.ref a) (upd (upd H d (exd d [(f, y)])) a (exo a C (some d)))) : rMkV C f Q [y] H := by
  refine ⟨Nat.le_trans (Nat.le_refl 1) (by decide), fun a na => ⟨.ref a, y, rfl, a, rfl, upd_same, fun dx nd hne => ?_⟩⟩
  have nd' : Fresh H dx := by
    rw [upd_ne hne] at nd; exact nd
  have e : upd (upd (upd H a (exo a C none)) dx (exd dx [(f, y)])) a (exo a C (some dx)) = upd (upd H dx (exd dx [(f, y)])) a (exo a C (some dx)) := by
    funext b
    by_cases h2 : b = a
    · subst h2; rw [upd_same, upd_same]
    · rw [upd_ne h2, upd_ne h2]
      by_cases h1 : b = dx
      · subst h1; rw [upd_same, upd_same]
      · rw [upd_ne h1, upd_ne h1, upd_ne h2]
  refine ⟨rfl, ?_⟩
  rw [e]
  exact q a dx na nd' hne
theorem pe_mkV {k j : Nat} {x f : Str} {p pos : Pos} {e : Expr} {es : List Expr} {ta : TA} (M : MkX X.prog X.w X.K X.mg X.base k x f) (T : OwnTX X.K X.mg x f) (hr : Room j X.A) (hk : k + 1 ≤ j) (hg : Gl X x) (ha : PA X (e :: es) ta)
    (hdb : (x == ("__debug__" : Str)) = false := by decide) (he : starEach (e :: es) X.env = (false, eval e X.env) :: starEach es X.env := by rfl) (hpl : (backTo pos (starEach es X.env)).any (·.1) = false := by rfl) :
    PE X (.Call (.Name x p) (e :: es) [] pos) (tMkV (clA X.mg x) f ta) := by
  obtain ⟨fI, fd, ps, FI, iC, tI, hb⟩ := M.ex
  obtain ⟨nm, qn, N, bs, bm, sn, sub, ab, col, dd, k0, k1, k2, k3, k5, hC, hbm⟩ := T.o.cls
  refine ⟨fun pins s σ H Q I h => ?_⟩
  refine wpAny_Call_Name_kw (ld_glob I hg T.m ?_ hdb)
  refine PySem.W.callWith_K I.kIn T.o.kC (thn (ha.run pos pins _ σ H _ (I.tok _) h) fun us s1 ⟨vs, H1, I1, r1, hz, q1⟩ => ⟨I1.kIn, ?_⟩) he hpl
  obtain ⟨hp, g, dr, tk, os⟩ := s1
  have hn : H1 (hp.objs.size + 1) = none := I1.hok.fresh (Nat.le_succ _)
  have hq := q1 _ hn
  have kk : ∀ (b : Addr) (o : Obj), hp.get? b = some o → ((hp.push (PySem.W.kdv_tup us)).push (HandSPX.excO (clA X.mg x) hp.objs.size)).get? b = some o := fun b o e => Heap.get?_push_of_some _ (Heap.get?_push_of_some _ e)
  have hget : ((hp.push (PySem.W.kdv_tup us)).push (HandSPX.excO (clA X.mg x) hp.objs.size)).get? (hp.objs.size + 1) = some (HandSPX.excO (clA X.mg x) hp.objs.size) := Heap.get?_push_at (by simp) rfl
  have I2 : L2.Inv X pins σ (upd H1 (hp.objs.size + 1) (exo (hp.objs.size + 1) (clA X.mg x) none)) ⟨(hp.push (PySem.W.kdv_tup us)).push (HandSPX.excO (clA X.mg x) hp.objs.size), g, dr, tk, os⟩ := Inv.laid (t' := tk) I1 kk (Nat.le_succ _) (exo_ok hget)
  have r2 : Vals (.ref (hp.objs.size + 1) :: vs) (.ref (hp.objs.size + 1) :: us) := Paired.cons rfl r1
  have hl : (Value.ref (hp.objs.size + 1) :: us).length = ps.length := by rw [← Vals.length r2]; exact FI.len _ _ _ _ hq
  have hus : us.length ≤ sizeLine := by
    rw [← Paired.length r1, sizeLine_eq]; omega
  refine wpAny_call (HandSPX.call_own F.excBase_ValueError (fun Y => HandSPX.refsVE_contains Y bm hbm) (I1.kIn _ _ hC) (PySem.W.looks_findIn I1.kIn iC) (fun self => PySem.W.bind_fn I1.kIn self tI) hus ?_)
  refine codeAny_mono (FI.run _ X.stack _ _ _ (.ref (hp.objs.size + 1) :: us) _ _ _ ((hr.mono hk).make _ us []) (I2.env0.make _ us []) (by have z := hb _ (.ref (hp.objs.size + 1) :: us) I2.kIn (by rw [List.append_nil]; exact hl); rwa [List.append_nil] at z) r2 hq) ?_
  intro r s' hq'
  cases r with
  | error er =>
    obtain ⟨_, _, _, _, _, _, _, _, _, _, _, _, z⟩ := hq'
    exact z.elim
  | ok fl =>
    cases fl with
    | ret u =>
      obtain ⟨v, H2, os2, bare2, un2, hok2, rv, rfl, q2⟩ := hq'
      cases (show u = Value.none from rv)
      exact ⟨rfl, .ref (hp.objs.size + 1), H2, I2.call' (ch := []) os2 un2 hok2 bare2 (fun _ h => nomatch h), rfl, q2⟩
    | _ => exact hq'.elim
/-- C(), held -/
def tExc0 (C : Addr) : TE := fun _ H Q => ∀ a, Fresh H a → Q (.ref a) (upd H a (ExO (.ref C) a))
theorem pe_exc0 {bmB : List Value} {B newId initId : String} {x : Str} {p pos : Pos} (F : ExcBaseFacts B newId initId bmB) (q : PySem.W.excIn X.K C bmB newId = true) (gC : X.mg x = some (.ref C)) (kC : PySem.W.keepIn X.K (.ref C) = true) (hg : Gl X x)
    (hdb : (x == ("__debug__" : Str)) = false := by decide) : PE X (.Call (.Name x p) [] [] pos) (tExc0 C) := by
  refine ⟨fun pins s σ H Q I h => ?_⟩
  refine wpAny_Call_Name_kw (ld_glob I hg gC ?_ hdb)
  refine PySem.W.callWith_K0 (f := .ref C) I.kIn kC ?_
  show wpAny _ _ (call (.ref C) []) _ _ _
  obtain ⟨bm, N, nm, qn, bs, hdct, sn, sub, ab, col, dd, k0, k1, k2, k3, k5, mN, hC, hN, hni, T⟩ := exc_obj I.kIn q
  refine wpAny_call_exc_subT F T hC hN hni (fun h' a hm => ?_) (Nat.zero_le _)
  have hn := I.hok.gone hm.new
  obtain ⟨t, ht, _, _⟩ := hm.there
  exact ⟨.ref a, upd H a (ExO (.ref C) a), I.laidN hm.keeps hm.new hn (exO_ok ht ⟨rfl, rfl⟩ rfl rfl rfl (by show 4 < 6; decide)), rfl, h a hn⟩
theorem x_exc0 {σ : L2.St} {H : Hp} {Q : VK} (q : ∀ a, Fresh H a → Q (.ref a) (upd H a (ExO (.ref C) a))) : tExc0 C σ H Q := q
/-- the maker's own text: Base.__init__(self, ..); self.f = y -/
theorem x_init {K : PySem.W.Frag} {f : Str} {a : Addr} {y : V} {H : Hp} {Q : VK} {m : Str} (T : OexC K C) (no : PySem.W.findIn K (.ref C) f = some none) (ha : H a = some (exo a C none)) (q : ∀ dx, H dx = none → dx ≠ a → Q .non (upd (upd H dx (exd dx [(f, y)])) a (exo a C (some dx)))) :
    tSeq (tDrop (tVeI K (tCons (tVar 0) (tCons (tC (.str m)) tNil)))) (tOst K f (tVar 0) (tVar 1)) { nx := fun _ H' => Q .non H', rt := Q } [some (.ref a), some y] H :=
  ⟨.ref a, rfl, a, C, [.str m], rfl, Nat.le_trans (Nat.le_refl 1) (by decide), T, ha, ⟨y, rfl, .ref a, rfl, a, C, rfl, T, no, .inl ⟨ha, fun dx hd hn => q dx hd hn⟩⟩⟩
/-! ### a held one -/
/-- at a stands a refusal of the class C -/
def Held (H : Hp) (a C : Addr) : Prop := H a = some (ExO (.ref C) a) ∨ ∃ d fs, H a = some (exo a C (some d)) ∧ H d = some (exd d fs)
/-- at a stands a refusal of the class C that bears y under f -/
def HeldF (H : Hp) (a C : Addr) (f : Str) (y : V) : Prop := ∃ d, H a = some (exo a C (some d)) ∧ H d = some (exd d [(f, y)])
theorem HeldF.held {H : Hp} {a C : Addr} {f : Str} {y : V} (h : HeldF H a C f y) : Held H a C := by
  obtain ⟨d, h1, h2⟩ := h
  exact .inr ⟨d, _, h1, h2⟩
theorem Held.keep {H H' : Hp} {a C : Addr} (h : Held H a C) (f : ∀ b o, H b = some o → H' b = some o) : Held H' a C := by
  rcases h with h | ⟨d, fs, h1, h2⟩
  · exact .inl (f _ _ h)
  · exact .inr ⟨d, fs, f _ _ h1, f _ _ h2⟩
theorem HeldF.keep {H H' : Hp} {a C : Addr} {n : Str} {y : V} (h : HeldF H a C n y) (f : ∀ b o, H b = some o → H' b = some o) : HeldF H' a C n y := by
  obtain ⟨d, h1, h2⟩ := h
  exact ⟨d, f _ _ h1, f _ _ h2⟩
theorem Fr.all {H H' : Hp} (f : Fr Non H H') : ∀ b o, H b = some o → H' b = some o := fun b o h => f.keep b o h id
/-- what stands there -/
theorem Held.inst {pins : List (Addr × Obj)} {σ : L2.St} {H : Hp} {s : Shared} {a : Addr} (I : L2.Inv X pins σ H s) (h : Held H a C) : ∃ ox od, PySem.W.InstAt s.heap a ox C od := by
  rcases h with h | ⟨d, fs, h1, h2⟩
  · obtain ⟨⟨oe, vs, e1, e2, e3, _⟩, _⟩ := I.hok a _ h
    obtain ⟨oc, od, oda, osl⟩ := oe
    obtain ⟨h1, h2⟩ := e2
    dsimp only at h1 h2 e3
    subst h1 h2 e3
    exact ⟨_, none, e1, rfl, rfl, trivial⟩
  · obtain ⟨⟨t1, e1⟩, _⟩ := I.hok a _ h1
    obtain ⟨⟨mA, hns, hr⟩, _⟩ := I.hok d _ h2
    obtain ⟨od, ho, _⟩ := lookIn_ns hns
    exact ⟨_, some od, e1, rfl, rfl, ho⟩
structure HoldC (K : PySem.W.Frag) (C : Addr) : Prop where
  cl : (PySem.W.clsIn K C).isSome = true
  ex : ExcC K C
def rIsV (K : PySem.W.Frag) : List V → Hp → VK → Prop := fun xs H Q => ∃ (a D : Addr) (c : V) (cv : Value) (b : Bool), Held H a D ∧ HoldC K D ∧ xs = [.ref a, c] ∧ ClsV c cv ∧ PySem.W.kitOne K (.ref D) cv = some b ∧ Q (.bl b) H
theorem call_isV : CallR X (.builtin "isinstance") (rIsV X.K) := by
  intro pins s σ H xs us Q I r h
  obtain ⟨a, D, c, cv, b, hh, hC, rfl, hv, e, q⟩ := h
  obtain ⟨u1, u2, rfl, r1, r2⟩ := vals2 r
  cases (show u1 = Value.ref a from r1)
  cases hv.eq r2
  obtain ⟨ox, od, J⟩ := hh.inst I
  have C := hC.ex
  exact PySem.W.kia_one (PySem.W.kitx_exc hC.cl C.hg C.hk C.hs C.ha C.hn C.ht C.hm) I.kIn J e (fun z => nomatch z) fun tk => ⟨.bl b, H, I.kept (t' := tk) fun _ _ z => z, rfl, q⟩
theorem x_isV {K : PySem.W.Frag} {a D : Addr} {c : V} {cv : Value} {b : Bool} {H : Hp} {Q : VK} (hh : Held H a D) (hC : HoldC K D) (hv : ClsV c cv) (e : PySem.W.kitOne K (.ref D) cv = some b) (q : Q (.bl b) H) : rIsV K [.ref a, c] H Q := ⟨a, D, c, cv, b, hh, hC, rfl, hv, e, q⟩
def rIsVT (K : PySem.W.Frag) : List V → Hp → VK → Prop := fun xs H Q => ∃ (a D tp : Addr) (cs : List V) (us : List Value) (b : Bool), Held H a D ∧ HoldC K D ∧ xs = [.ref a, .ref tp] ∧ H tp = some (.tup cs) ∧ Paired ClsV cs us ∧ PySem.W.kitAny K (.ref D) us = some b ∧ Q (.bl b) H
theorem call_isVT : CallR X (.builtin "isinstance") (rIsVT X.K) := by
  intro pins s σ H xs us Q I r h
  obtain ⟨a, D, tp, cs, ws, b, hh, hC, rfl, hT, k, e, q⟩ := h
  obtain ⟨u1, u2, rfl, r1, r2⟩ := vals2 r
  cases (show u2 = Value.ref tp from r2)
  cases (show u1 = Value.ref a from r1)
  obtain ⟨_, its, rv, o, h1, h2, n, h3⟩ := (show ObjOk X.prog X.w H s.heap tp (.tup cs) from I.hok tp _ hT)
  have e3 := ClsV.all k rv
  subst e3
  obtain ⟨oc, od, dt, sl⟩ := o
  simp only at h2 h3
  subst h2 h3
  obtain ⟨ox, od, J⟩ := hh.inst I
  have C := hC.ex
  exact PySem.W.kia_tup (PySem.W.kitx_exc hC.cl C.hg C.hk C.hs C.ha C.hn C.ht C.hm) I.kIn J h1 e (fun z => nomatch z) fun tk => ⟨.bl b, H, I.kept (t' := tk) fun _ _ z => z, rfl, q⟩
theorem x_isVT {K : PySem.W.Frag} {a D tp : Addr} {cs : List V} {us : List Value} {b : Bool} {H : Hp} {Q : VK} (hh : Held H a D) (hC : HoldC K D) (hT : H tp = some (.tup cs)) (hv : Paired ClsV cs us) (e : PySem.W.kitAny K (.ref D) us = some b) (q : Q (.bl b) H) : rIsVT K [.ref a, .ref tp] H Q := ⟨a, D, tp, cs, us, b, hh, hC, rfl, hT, hv, e, q⟩
/-- e.n -/
def tXg (K : PySem.W.Frag) (n : Str) (te : TE) : TE := fun σ H Q => te σ H fun x H1 => ∃ (a D : Addr) (y : V), x = .ref a ∧ XfC K D ∧ PySem.W.findIn K (.ref D) n = some none ∧ HeldF H1 a D n y ∧ Q y H1
theorem pe_xg {e : Expr} {te : TE} {pos : Pos} {n : Str} (he : PE X e te) (hb : attributeBase e n X.env (eval e X.env) = eval e X.env := by rfl) : PE X (.Attribute e n pos) (tXg X.K n te) := by
  refine ⟨fun pins s σ H Q I h => ?_⟩
  refine attr_of hb (thn (he.run pins s σ H _ I h) fun u s1 ⟨x, H1, I1, rx, a, D, y, ex, T, hno, ⟨d, h1, h2⟩, q⟩ => ?_)
  subst ex
  cases (show u = Value.ref a from rx)
  obtain ⟨⟨t1, e1⟩, _⟩ := I1.hok a _ h1
  obtain ⟨⟨mA, hns, hr⟩, _⟩ := I1.hok d _ h2
  obtain ⟨od, ho, hl⟩ := lookIn_ns hns
  have hy : RelO (some y) (mA n) := by
    have z := hr n
    rwa [show List.lookup n [(n, y)] = some y by simp [List.lookup]] at z
  obtain ⟨u, hu, ru⟩ := RelO.some_of hy
  have J : PySem.W.InstAt s1.heap a _ D (some od) := ⟨e1, rfl, rfl, ho⟩
  exact HandSPX.exc_get I1.kIn J T.ga T.gg T.exC (PySem.W.findObj_own T.hdC hno rfl (by rw [hl n, hu])) (handed_of ru) ⟨y, H1, I1.tok _, ru, q⟩
theorem x_xg {K : PySem.W.Frag} {n : Str} {a D : Addr} {y : V} {H : Hp} {Q : VK} (T : XfC K D) (hno : PySem.W.findIn K (.ref D) n = some none) (hh : HeldF H a D n y) (q : Q y H) : ∃ (a' D : Addr) (y : V), V.ref a = .ref a' ∧ XfC K D ∧ PySem.W.findIn K (.ref D) n = some none ∧ HeldF H a' D n y ∧ Q y H := ⟨a, D, y, rfl, T, hno, hh, q⟩
end
theorem x_xgV {K : PySem.W.Frag} {n : Str} {i : Nat} {a D : Addr} {y : V} {σ : L2.St} {H : Hp} {Q : VK} (hv : σ[i]? = some (some (.ref a))) (T : XfC K D) (hno : PySem.W.findIn K (.ref D) n = some none) (hh : HeldF H a D n y) (q : Q y H) : tXg K n (tVar i) σ H Q := ⟨.ref a, hv, a, D, y, rfl, T, hno, hh, q⟩
theorem x_mkV {C : Addr} {f : Str} {ta : TA} {σ : L2.St} {H : Hp} {Q : VK} (q : ta σ H (rMkV C f Q)) : tMkV C f ta σ H Q := q
theorem x_exc0A {C : Addr} {σ : L2.St} {H : Hp} {Q : VK} (q : ∀ a H', Fr Non H H' → Held H' a C → Q (.ref a) H') : tExc0 C σ H Q := fun a na => q a _ (Fr.new (Fr.refl H) na) (.inl upd_same)
theorem x_mkVA {C : Addr} {f : Str} {Q : VK} {y : V} {H : Hp} (q : ∀ a H', Fr Non H H' → HeldF H' a C f y → Q (.ref a) H') : rMkV C f Q [y] H := x_mkV0 fun a d na nd hn => q a _ (Fr.new (Fr.new (Fr.refl H) nd) (by show upd H d _ a = none; rw [upd_ne (Ne.symm hn)]; exact na)) ⟨d, upd_same, by rw [upd_ne hn]; exact upd_same⟩
theorem keepN {H : Hp} {p : Addr} {u : HO} (n : Fresh H p) : ∀ b o, H b = some o → upd H p u b = some o := fun b o e => (upd_ne (ne_fr e n)).trans e
/-! ### the fifteen -/
def names15 : List Str := ["NoKey", "NoLeaf", "NoStem", "NoText", "NoPlace", "NotRising", "NoRow", "NoTwig", "NotHeld", "Shared", "NoVersion", "Overlap", "Stale", "NoName", "Taken"]
def flds15 : List Str := ["", "", "", "at", "at", "at", "at", "number", "number", "number", "number", "key", "key", "name", "name"]
def clK (mg : Str → Option Value) (k : Nat) : Addr := (names15.map (clA mg)).getD k 0
def flK (k : Nat) : Str := flds15.getD k ""
def kgOne (K : PySem.W.Frag) (cs : List Addr) (te : Addr) (i : Nat) : Bool :=
  (PySem.W.clsIn K (cs.getD i 0)).isSome && (excCB K (cs.getD i 0) && (decide (PySem.W.kitOne K (.ref (cs.getD i 0)) (.ref te) = some true) && (decide (PySem.W.kitOne K (.ref (cs.getD i 0)) (.type "ValueError") = some true) &&
  ((List.range 15).all (fun j => decide (PySem.W.kitOne K (.ref (cs.getD i 0)) (.ref (cs.getD j 0)) = some (decide (i = j)))) &&
  (decide (PySem.W.kitAny K (.ref (cs.getD i 0)) [.ref (cs.getD 3 0), .ref (cs.getD 4 0), .ref (cs.getD 5 0), .ref (cs.getD 6 0)] = some (decide (3 ≤ i ∧ i < 7))) &&
  (decide (PySem.W.kitAny K (.ref (cs.getD i 0)) [.ref (cs.getD 7 0), .ref (cs.getD 8 0), .ref (cs.getD 9 0), .ref (cs.getD 10 0)] = some (decide (7 ≤ i ∧ i < 11))) &&
  decide (PySem.W.kitAny K (.ref (cs.getD i 0)) [.ref (cs.getD 11 0), .ref (cs.getD 12 0)] = some (decide (11 ≤ i ∧ i < 13)))))))))
def kgrid (K : PySem.W.Frag) (cs : List Addr) (te : Addr) : Bool := (List.range 15).all (kgOne K cs te)
structure KgOne (K : PySem.W.Frag) (cs : List Addr) (te : Addr) (i : Nat) : Prop where
  hold : HoldC K (cs.getD i 0)
  te : PySem.W.kitOne K (.ref (cs.getD i 0)) (.ref te) = some true
  ve : PySem.W.kitOne K (.ref (cs.getD i 0)) (.type "ValueError") = some true
  on : ∀ j, j < 15 → PySem.W.kitOne K (.ref (cs.getD i 0)) (.ref (cs.getD j 0)) = some (decide (i = j))
  a1 : PySem.W.kitAny K (.ref (cs.getD i 0)) [.ref (cs.getD 3 0), .ref (cs.getD 4 0), .ref (cs.getD 5 0), .ref (cs.getD 6 0)] = some (decide (3 ≤ i ∧ i < 7))
  a2 : PySem.W.kitAny K (.ref (cs.getD i 0)) [.ref (cs.getD 7 0), .ref (cs.getD 8 0), .ref (cs.getD 9 0), .ref (cs.getD 10 0)] = some (decide (7 ≤ i ∧ i < 11))
  a3 : PySem.W.kitAny K (.ref (cs.getD i 0)) [.ref (cs.getD 11 0), .ref (cs.getD 12 0)] = some (decide (11 ≤ i ∧ i < 13))
theorem kg_of {K : PySem.W.Frag} {cs : List Addr} {te : Addr} (h : kgrid K cs te = true) {i : Nat} (hi : i < 15) : KgOne K cs te i := by
  have z : kgOne K cs te i = true := List.all_eq_true.mp h i (List.mem_range.mpr hi)
  unfold kgOne at z
  simp only [Bool.and_eq_true, decide_eq_true_eq] at z
  obtain ⟨h1, h2, h3, h4, h5, h6, h7, h8⟩ := z
  refine ⟨⟨h1, excC_of h2⟩, h3, h4, fun j hj => ?_, h6, h7, h8⟩
  have y := List.all_eq_true.mp h5 j (List.mem_range.mpr hj)
  exact of_decide_eq_true y
/-- the fifteen made: es the refusals, ys what they were made of -/
structure Made (mg : Str → Option Value) (H : Hp) (es ys : List V) : Prop where
  le : es.length = 15
  at_ : ∀ k, k < 15 → ∃ a, es[k]? = some (.ref a) ∧ Held H a (clK mg k) ∧ (3 ≤ k → ∃ y, ys[k]? = some y ∧ HeldF H a (clK mg k) (flK k) y)
theorem len15 {α : Type} {ys : List α} (h : ys.length = 15) : ∃ y0 y1 y2 y3 y4 y5 y6 y7 y8 y9 y10 y11 y12 y13 y14, ys = [y0, y1, y2, y3, y4, y5, y6, y7, y8, y9, y10, y11, y12, y13, y14] :=
  match ys, h with
  | [_, _, _, _, _, _, _, _, _, _, _, _, _, _, _], _ => ⟨_, _, _, _, _, _, _, _, _, _, _, _, _, _, _, rfl⟩
theorem Made.keep {mg : Str → Option Value} {H H' : Hp} {es ys : List V} (h : Made mg H es ys) (f : ∀ b o, H b = some o → H' b = some o) : Made mg H' es ys := ⟨h.le, fun k hk => by
  obtain ⟨a, h1, h2, h3⟩ := h.at_ k hk
  refine ⟨a, h1, h2.keep f, fun h => ?_⟩
  obtain ⟨y, h4, h5⟩ := h3 h
  exact ⟨y, h4, h5.keep f⟩⟩
end Tw

/-! TwJ: sorted(xs, key=f), f an own def. -/
namespace Tw
open PySem PySem.W PySem.Spec PyProof.Rows L2
/-- the object at b is just o -/
def exactO (b : Addr) (o : Obj) : HO := .ext fun h => h.get? b = some o
theorem exact_ok {P : Program} {w : World} {H : Hp} {h : Heap} {b : Addr} {o : Obj} (e : h.get? b = some o) : ObjOk P w H h b (exactO b o) := ⟨e, ⟨o, e⟩, fun _ _ e1 k => k _ e1⟩
theorem exact_at {P : Program} {w : World} {H : Hp} {h : Heap} {b : Addr} {o : Obj} (hk : HOk P w H h) (e : H b = some (exactO b o)) : h.get? b = some o := (hk b _ e).1
theorem un_of {fs : List Addr} {H H' : Hp} {h h' : Heap} (hh : ∀ b o, h.get? b = some o → h'.get? b = some o) (hk : ∀ b o, H b = some o → H' b = some o) (hf : ∀ b o, h.get? b = some o → H b = none → H' b = none) : Un fs [] H H' h h' where
  keep := fun b o e _ _ _ => hh b o e
  slot := fun b o e _ _ _ => ⟨o.slots, hh b o e⟩
  free := fun b o e n _ => hf b o e n
  there := fun b o e _ => ⟨o, hh b o e⟩
  tups := fun b xs e => hk b _ e
  frzs := fun b o u e => hk b _ e
  tbls := fun b ps e => ⟨#[], by rw [Array.append_empty]; exact hk b _ e⟩
/-- what changes behind a frame at places that did not stand ahead of it -/
theorem un_more {fs : List Addr} {H H1 H2 : Hp} {h h1 h2 : Heap} (S : Addr → Prop) (un : Un fs [] H H1 h h1) (hS : ∀ b, S b → H b = none ∧ h.get? b = none) (hh : ∀ b o, ¬ S b → h1.get? b = some o → h2.get? b = some o) (hH : ∀ b, ¬ S b → H2 b = H1 b) : Un fs [] H H2 h h2 := by
  have hs1 : ∀ b (o : Obj), h.get? b = some o → ¬ S b := fun b o e s => by rw [(hS b s).2] at e; cases e
  have hs2 : ∀ b (o : HO), H b = some o → ¬ S b := fun b o e s => by rw [(hS b s).1] at e; cases e
  exact {
    keep := fun b o e n a c => hh b o (hs1 b o e) (un.keep b o e n a c)
    slot := fun b o e n a c => by
      obtain ⟨sl, z⟩ := un.slot b o e n a c
      exact ⟨sl, hh b _ (hs1 b o e) z⟩
    free := fun b o e n c => by rw [hH b (hs1 b o e)]; exact un.free b o e n c
    there := fun b o e c => by
      obtain ⟨o', z⟩ := un.there b o e c
      exact ⟨o', hh b _ (hs1 b o e) z⟩
    tups := fun b xs e => by rw [hH b (hs2 b _ e)]; exact un.tups b xs e
    frzs := fun b o u e => by rw [hH b (hs2 b _ e)]; exact un.frzs b o u e
    tbls := fun b ps e => by rw [hH b (hs2 b _ e)]; exact un.tbls b ps e }
/-- other things than own, tup stay what they are -/
theorem hok_more {P : Program} {w : World} {H1 H2 : Hp} {h1 h2 : Heap} (S : Addr → Prop) (hk : HOk P w H1 h1) (hS : ∀ b, S b → H1 b = none ∨ ∃ φ, H1 b = some (.ext φ)) (hh : ∀ b o, ¬ S b → h1.get? b = some o → h2.get? b = some o) (hH : ∀ b, ¬ S b → H2 b = H1 b)
    (hn : ∀ b o, S b → H2 b = some o → ObjOk P w H2 h2 b o) : HOk P w H2 h2 := by
  intro b o e
  by_cases hb : S b
  · exact hn b o hb e
  · rw [hH b hb] at e
    have no : ∀ c (u : HO), H1 c = some u → (∀ φ, u ≠ .ext φ) → ¬ S c := fun c u hc hu s => by
      rcases hS c s with z | ⟨φ, z⟩
      · rw [z] at hc; cases hc
      · rw [z] at hc; cases hc; exact hu φ rfl
    refine ObjOk.stay (hk b o e) (fun c u hc hu => ?_) (fun c hc => ?_) (fun c xs hc => ?_)
    · rcases hc with rfl | hc
      · exact hh _ u hb hu
      · exact hh c u (no c _ hc (fun φ z => by cases z)) hu
    · rw [hH c (no c _ hc (fun φ z => by cases z))]; exact hc
    · rw [hH c (no c _ hc (fun φ z => by cases z))]; exact hc
/-- the heap without what stands at b -/
def lessO (h : Heap) (b : Addr) : Heap := h.update b fun o => { o with data := .freed }
theorem lessO_ne {h : Heap} {b c : Addr} (n : c ≠ b) : (lessO h b).get? c = h.get? c := Heap.get?_update_ne h c b _ n
theorem lessO_at {h : Heap} {b : Addr} : (lessO h b).get? b = none := by
  unfold lessO Heap.update Heap.get?
  simp only [Array.getElem?_modify, if_pos rfl]
  cases h.objs[b]? with
  | none => rfl
  | some o => rfl
theorem each_reads {h : Heap} : ∀ {vs : List Value} {ds : List PyData} {as : List Addr}, ReadsAll h vs ds as → EachIs (fun v d => ∃ as, Reads h v d as) vs ds
  | _, _, _, .nil => .nil
  | _, _, _, .cons a b => .cons ⟨_, a⟩ (each_reads b)
theorem each_vals : ∀ {ps : List (V × PyData)} {out : List Value}, EachIs (fun v (p : V × PyData) => RelV p.1 v) out ps → Vals (ps.map Prod.fst) out
  | _, _, .nil => .nil
  | _, _, .cons a b => .cons a (each_vals b)
theorem vals_each : ∀ {xs : List V} {us : List Value} {ks : List PyData}, Vals xs us → ks.length = xs.length → EachIs (fun v (p : V × PyData) => RelV p.1 v) us (xs.zip ks)
  | _, _, [], .nil, _ => .nil
  | _, _, _ :: _, .cons a b, h => .cons a (vals_each b (by simpa using h))
theorem vals_get : ∀ {xs : List V} {us : List Value} {i : Nat} {v : Value}, Vals xs us → us[i]? = some v → ∃ y, xs[i]? = some y ∧ RelV y v
  | _, _, _, _, .nil, e => by simp at e
  | _, _, 0, _, .cons a b, e => by
    simp at e; subst e; exact ⟨_, rfl, a⟩
  | _, _, i + 1, _, .cons a b, e => by
    obtain ⟨y, h1, h2⟩ := vals_get (i := i) b (by simpa using e)
    exact ⟨y, by simpa using h1, h2⟩
theorem vals_size {xs : List V} {us : Array Value} (h : Vals xs us.toList) : us.size = xs.length := by
  have z := Vals.length h
  simp only [Array.length_toList] at z
  first | exact z | exact z.symm
theorem zip_snd : ∀ {xs : List V} {ks : List PyData}, ks.length = xs.length → (xs.zip ks).map Prod.snd = ks
  | [], [], _ => rfl
  | x :: xs, k :: ks, h => by rw [List.zip_cons_cons, List.map_cons, zip_snd (by simpa using h)]
/-- the sorted ones -/
def byKey (xs : List V) (ks : List PyData) : List (V × PyData) := (xs.zip ks).mergeSort (dataLe false Prod.snd)
def rSortK (K : Frag) (f : Addr) (sp : Sp) : List V → List V → Hp → VK → Prop := fun vs zs H Q => ∃ (l : Addr) (xs : List V) (ks : List PyData), vs = [.ref l] ∧ zs = [.ref f] ∧ SqL K H l xs ∧ ks.length = xs.length ∧ AllAlike ks ∧ Sortable ks ∧ (∀ d ∈ ks, d.depth ≤ 60) ∧
  (∀ (i : Nat) v d H', xs[i]? = some v → ks[i]? = some d → Fr Non H H' → sp [v] H' (fun u H'' => Fr Non H' H'' ∧ Dt H'' u d) E0) ∧
  ∀ p H', Fr Non H H' → Fresh H p → H' p = some (.lst ((byKey xs ks).map Prod.fst)) → Q (.ref p) H'
section
variable {X : Cx}
theorem cr_sortK {k j : Nat} {f : Addr} {fd : FuncData} {x : Str} {sp : Sp} (F : FnOk X.prog X.w X.K X.mg X.base (L2.CX X.prog X.w) k f fd [x] sp) (hr : Room j X.A) (hk : k + 2 ≤ j) (hb : Binds X.K fd [x] []) : CallRK X (.builtin "sorted") [Str.ofString "key"] (rSortK X.K f sp) := by
  intro pins s σ H vs zs us ws Q I rv rz h
  obtain ⟨l, xs, ks, rfl, rfl, hL, hlen, hal, hso, hdp, hcall, q⟩ := h
  cases rv with
  | @cons _ u0 _ _ ru rv' =>
  cases rv'
  cases rz with
  | @cons _ u1 _ _ ru1 rz' =>
  cases rz'
  cases (show u0 = Value.ref l from ru)
  cases (show u1 = Value.ref f from ru1)
  obtain ⟨its, ri, hpl, hz⟩ := I.list hL
  have hil : its.length = xs.length := (Vals.length ri).symm
  have hzi : its.length ≤ sizeLine := by omega
  obtain ⟨o0, n0, g1, g2, g3, g4⟩ := hpl
  show wpAny _ _ (call (.builtin "sorted") [.ref l] [("key", .ref f)]) _ _ _
  refine sorted_of_sort ⟨o0, g1, g2, n0, g4⟩ hzi (by rfl) (fun x => by rfl) fun E' => ?_
  obtain ⟨a, ea⟩ : ∃ a, a = s.heap.objs.size + 1 := ⟨_, rfl⟩
  rw [← ea]
  have hca : (copyHeap s.heap its).objs.size = a + 1 := by
    unfold copyHeap
    simp only [Heap.size_push, Heap.size_update]; omega
  have ho : (copyHeap s.heap its).get? a = some (seqObj "list" its.toArray 0) := Heap.get?_push_at (by simp only [Heap.size_push, Heap.size_update]; omega) rfl
  have hold : ∀ (b : Addr) (o : Obj), s.heap.get? b = some o → (copyHeap s.heap its).get? b = some o := fun b o e => by
    have hb : b < s.heap.objs.size := Heap.lt_size e
    refine Heap.get?_push_of_some _ ?_
    rw [Heap.get?_update_ne _ _ _ _ (Nat.ne_of_lt hb)]
    exact Heap.get?_push_of_some _ e
  generalize copyHeap s.heap its = hc at hca ho hold ⊢
  show wpAny _ _ (ksk_tree a (.ref f) false) _ _ _
  obtain ⟨e1, ho1⟩ : ∃ e1, (hc.update a (Obj.mapSeq fun _ => #[])).get? a = some (seqObj "list" #[] e1) := ⟨_, get?_update_seq ho fun _ => #[]⟩
  have hold1 : ∀ (b : Addr) (o : Obj), s.heap.get? b = some o → (hc.update a (Obj.mapSeq fun _ => #[])).get? b = some o := fun b o e => by
    have hb : b < s.heap.objs.size := Heap.lt_size e
    have hsa : s.heap.objs.size < a := by omega
    have hne : b ≠ a := Nat.ne_of_lt (Nat.lt_trans hb hsa)
    rw [Heap.get?_update_ne _ _ _ _ hne]
    exact hold b o e
  have hc1 : (hc.update a (Obj.mapSeq fun _ => #[])).objs.size = a + 1 := by rw [Heap.size_update]; exact hca
  unfold ksk_tree
  refine wpAny_bind (listItems_at ho rfl (wpAny_bind (listUpdate_at ho rfl (wpAny_bind (seqEpoch_at ho1 rfl (wpAny_bind (wpAny_newTuple (wpAny_bind (wpAny_newList (wpAny_holding ?_) (Nat.zero_le sizeLine))) ?_)))) ?_ ?_)))
  rotate_left
  · simp only [List.size_toArray]; exact hzi
  · simp only [List.size_toArray]; exact hzi
  · exact Nat.zero_le _
  dsimp only
  generalize hc.update a (Obj.mapSeq fun _ => #[]) = hd at ho1 hold1 hc1 ⊢
  obtain ⟨kS, ekS⟩ : ∃ kS, kS = (hd.push (seqObj "tuple" its.toArray 0)).objs.size := ⟨_, rfl⟩
  have ekS2 : kS = a + 2 := by rw [ekS, Heap.size_push, hc1]
  have hkS : ((hd.push (seqObj "tuple" its.toArray 0)).push (seqObj "list" #[] 0)).get? kS = some (seqObj "list" #[] 0) := Heap.get?_push_at ekS rfl
  have ha2 : ((hd.push (seqObj "tuple" its.toArray 0)).push (seqObj "list" #[] 0)).get? a = some (seqObj "list" #[] e1) := Heap.get?_push_of_some _ (Heap.get?_push_of_some _ ho1)
  have hold2 : ∀ (b : Addr) (o : Obj), s.heap.get? b = some o → ((hd.push (seqObj "tuple" its.toArray 0)).push (seqObj "list" #[] 0)).get? b = some o := fun b o e => Heap.get?_push_of_some _ (Heap.get?_push_of_some _ (hold1 b o e))
  show wpAny _ _ (ksk_rest a (.ref f) false its.toArray e1 (.ref (hd.push (seqObj "tuple" its.toArray 0)).objs.size)) _ _ _
  rw [← ekS]
  show wpAny _ _ _ _ _ ⟨(hd.push (seqObj "tuple" its.toArray 0)).push (seqObj "list" #[] 0), s.gens, s.drawn, s.toks, s.os⟩
  generalize (hd.push (seqObj "tuple" its.toArray 0)).push (seqObj "list" #[] 0) = h1 at hkS ha2 hold2 ⊢
  have hka : kS ≠ a := by omega
  have Ha : H a = none := I.hok.fresh (by omega)
  have HkS : H kS = none := I.hok.fresh (by omega)
  have sa : s.heap.get? a = none := Heap.get?_none_of_le (by omega)
  have skS : s.heap.get? kS = none := Heap.get?_none_of_le (by omega)
  have hnew : ∀ b, (b = a ∨ b = kS) → H b = none ∧ s.heap.get? b = none := fun b hb => by
    rcases hb with rfl | rfl
    · exact ⟨Ha, sa⟩
    · exact ⟨HkS, skS⟩
  clear hc1 ho1 hold1 hold ho hca ekS
  unfold ksk_rest
  refine wpAny_bind (wpAny_rule ?_)
  rw [List.forIn_toArray]
  refine wpAny_bind (ksk_fold (fun i s' => ∃ (Hn : Hp) (kvs : List V) (kA : Array Value) (e : Nat), s'.os = s.os ∧ AllBare s'.gens ∧ Un (frs X.stack) [] H Hn s.heap s'.heap ∧ HOk X.prog X.w Hn s'.heap ∧ Fr Non H Hn ∧
    Hn a = some (exactO a (seqObj "list" #[] e1)) ∧ Hn kS = some (exactO kS (seqObj "list" kA e)) ∧ Vals kvs kA.toList ∧ DtAll Hn kvs (ks.take i) ∧ kvs.length = i ∧ i ≤ its.length) its 0 _ ?_ ?_ ?_)
  · have n1 : Fresh (upd H a (exactO a (seqObj "list" #[] e1))) kS := by show upd H a _ kS = none; rw [upd_ne hka]; exact HkS
    have k2 : ∀ b (o : HO), H b = some o → upd (upd H a (exactO a (seqObj "list" #[] e1))) kS (exactO kS (seqObj "list" #[] 0)) b = some o := fun b o e => keepN n1 b o (keepN Ha b o e)
    refine ⟨upd (upd H a (exactO a (seqObj "list" #[] e1))) kS (exactO kS (seqObj "list" #[] 0)), [], #[], 0, rfl, I.bare, ?_, ?_, Fr.new (Fr.new (Fr.refl _) Ha) n1, by rw [upd_ne (Ne.symm hka)]; exact upd_same, upd_same, .nil, .nil, rfl, Nat.zero_le _⟩
    · refine un_of hold2 k2 fun b o e n => ?_
      have h1 : b ≠ kS := fun z => by rw [z, skS] at e; cases e
      have h2 : b ≠ a := fun z => by rw [z, sa] at e; cases e
      rw [upd_ne h1, upd_ne h2]; exact n
    · refine hok_more (fun b => b = a ∨ b = kS) I.hok (fun b hb => .inl (hnew b hb).1) (fun b o _ e => hold2 b o e) (fun b hb => ?_) (fun b o hb e => ?_)
      · rw [upd_ne (fun z => hb (.inr z)), upd_ne (fun z => hb (.inl z))]
      · rcases hb with rfl | rfl
        · rw [upd_ne (Ne.symm hka), upd_same] at e
          cases e; exact exact_ok ha2
        · rw [upd_same] at e
          cases e; exact exact_ok hkS
  · rintro i v s' hv ⟨Hn, kvs, kA, e, hos, hbare, un, hok, fr, Hna, HnkS, rkv, hdt, hkl, hi⟩
    rw [Nat.zero_add] at hdt hkl hi ⊢
    have hi2 : i < its.length := (List.getElem?_eq_some_iff.mp hv).1
    obtain ⟨y, hy, ry⟩ := vals_get ri hv
    obtain ⟨d, hd⟩ : ∃ d, ks[i]? = some d := ⟨_, List.getElem?_eq_getElem (by omega)⟩
    have hsp := hcall i y d Hn hy hd fr
    have In : L2.Inv X pins σ Hn s' := I.call' (ch := []) hos un hok hbare (fun _ h => nomatch h)
    have rv1 : Vals [y] [v] := .cons ry .nil
    have hb1 := hb s' [v] In.kIn rfl
    rw [List.append_nil] at hb1
    refine wpAny_bind (wpAny_attempt (wpAny_call (codeAny_mono (F.run X.A.in1.in1 X.stack s' Hn ⟨[v], []⟩ [v] [y] _ _ (Room.in1 (Room.in1 (hr.mono hk))) (In.env0.in1.in1) hb1 rv1 hsp) ?_)))
    intro r s'' hq'
    cases r with
    | error er =>
      obtain ⟨_, _, _, _, _, _, _, _, _, _, _, _, z⟩ := hq'
      exact z.elim
    | ok fl =>
      cases fl with
      | ret u =>
        obtain ⟨y2, H2, os2, bare2, un2, hok2, ru2, f2, d2⟩ := hq'
        have HkS2 := f2.all _ _ HnkS
        have Ha2 := f2.all _ _ Hna
        have nk2 := exact_at hok2 HkS2
        have na2 := exact_at hok2 Ha2
        obtain ⟨c2, hc2⟩ : ∃ c2, (s''.heap.update kS (Obj.mapSeq fun x => x.push u)).get? kS = some (seqObj "list" (kA.push u) c2) := ⟨_, get?_update_seq nk2 fun x => x.push u⟩
        have hks : kA.size ≤ its.length := by rw [vals_size rkv, hkl]; omega
        show wpAny _ _ _ _ _ _
        refine wpAny_bind (listUpdate_at nk2 rfl (wpAny_pure ⟨rfl, ?_⟩) (by omega) (by rw [Array.size_push]; omega))
        refine ⟨upd H2 kS (exactO kS (seqObj "list" (kA.push u) c2)), kvs ++ [y2], kA.push u, c2, os2.trans hos, bare2, ?_, ?_, ?_, ?_, upd_same, ?_, ?_, ?_, hi2⟩
        · refine un_more (fun b => b = kS) (un.trans un2) (fun b hb => hnew b (.inr hb)) (fun b o hb e => ?_) (fun b hb => upd_ne hb)
          show (s''.heap.update kS _).get? b = some o
          rw [Heap.get?_update_ne _ _ _ _ hb]; exact e
        · refine hok_more (fun b => b = kS) hok2 (fun b hb => .inr ⟨_, hb ▸ HkS2⟩) (fun b o hb e => ?_) (fun b hb => upd_ne hb) (fun b o hb e => ?_)
          · show (s''.heap.update kS _).get? b = some o
            rw [Heap.get?_update_ne _ _ _ _ hb]; exact e
          · subst hb
            rw [upd_same] at e
            cases e; exact exact_ok hc2
        · exact Fr.mut (fr.trans f2) HkS2 rfl (.inr HkS)
        · rw [upd_ne (Ne.symm hka)]; exact Ha2
        · rw [Array.toList_push]; exact Vals.append rkv (.cons ru2 .nil)
        · rw [List.take_succ, hd]
          exact DtAll.app ((hdt.mono f2).updm HkS2 rfl) (.one (d2.updm HkS2 rfl))
        · rw [List.length_append, hkl]; rfl
      | _ => exact hq'.elim
  · rintro s' ⟨Hn, kvs, kA, e, hos, hbare, un, hok, fr, Hna, HnkS, rkv, hdt, hkl, hi⟩
    rw [Nat.zero_add] at hdt hkl
    rw [List.take_of_length_le (by omega)] at hdt
    have In : L2.Inv X pins σ Hn s' := I.call' (ch := []) hos un hok hbare (fun _ h => nomatch h)
    have nk := exact_at hok HnkS
    have na := exact_at hok Hna
    obtain ⟨as, hR⟩ := Dp.readsAll In ks kvs kA.toList (DtAll.dp ks kvs hdt) rkv
    have hE := each_reads hR
    have hks : kA.size = its.length := by rw [vals_size rkv, hkl]
    refine wpAny_bind (listItems_at nk rfl ?_)
    refine keyH_end (h₁ := lessO s'.heap kS) (fun b o hb e => ?_) lessO_at nk na hka (SortsAt.data hE hal hso fun d hd => ?_) hks hzi fun h' tk c k3 n3 => ?_
    · by_cases h : b = kS
      · subst h; rw [lessO_at] at e; cases e
      · rwa [lessO_ne h] at e
    · have z := (Room.in1 (Room.in1 (hr.mono hk))).un
      have := hdp d hd
      omega
    · have hX : ∃ out : List Value, out = sortVals (dataKind s'.heap ks) false kA.toList its := ⟨_, rfl⟩
      obtain ⟨out, eo⟩ := hX
      have hko : KeyedOut false ((xs.zip ks).map Prod.snd) its out := by
        rw [zip_snd hlen]
        exact ⟨s'.heap, kA.toList, hal, eo, hE⟩
      have ho := each_vals (keyedOut_each Prod.snd hko (vals_each ri hlen))
      rw [← eo] at n3
      have hol : out.length ≤ sizeLine := by
        rw [← Vals.length ho, List.length_map, List.length_mergeSort, List.length_zip]; omega
      refine ⟨rfl, .ref a, upd (del Hn kS) a (.lst ((byKey xs ks).map Prod.fst)), I.call' (ch := []) hos ?_ ?_ hbare (fun _ h => nomatch h), rfl, q a _ ?_ Ha upd_same⟩
      · refine un_more (fun b => b = a ∨ b = kS) un hnew (fun b o hb e => ?_) (fun b hb => ?_)
        · exact k3 b o (fun z => hb (.inl z)) (by rw [lessO_ne (fun z => hb (.inr z))]; exact e)
        · rw [upd_ne (fun z => hb (.inl z)), del_ne (fun z => hb (.inr z))]
      · refine hok_more (fun b => b = a ∨ b = kS) hok (fun b hb => ?_) (fun b o hb e => ?_) (fun b hb => ?_) (fun b o hb e => ?_)
        · rcases hb with rfl | rfl
          · exact .inr ⟨_, Hna⟩
          · exact .inr ⟨_, HnkS⟩
        · exact k3 b o (fun z => hb (.inl z)) (by rw [lessO_ne (fun z => hb (.inr z))]; exact e)
        · rw [upd_ne (fun z => hb (.inl z)), del_ne (fun z => hb (.inr z))]
        · rcases hb with rfl | rfl
          · rw [upd_same] at e
            cases e
            exact ⟨by rw [show ((byKey xs ks).map Prod.fst).length = out.length from Vals.length ho]; exact hol, out, _, ho, n3⟩
          · rw [upd_ne hka, del_same] at e; cases e
      · refine ⟨fun b o e _ => ?_, fun b ys e => ?_, fun b e => ?_⟩
        · have h1 : b ≠ a := fun z => by rw [z, Ha] at e; cases e
          have h2 : b ≠ kS := fun z => by rw [z, HkS] at e; cases e
          rw [upd_ne h1, del_ne h2]; exact fr.all _ _ e
        · have h1 : b ≠ a := fun z => by rw [z, Ha] at e; cases e
          have h2 : b ≠ kS := fun z => by rw [z, HkS] at e; cases e
          rw [upd_ne h1, del_ne h2]; exact fr.tup _ _ e
        · by_cases h1 : b = a
          · subst h1; exact Ha
          · by_cases h2 : b = kS
            · subst h2; exact HkS
            · rw [upd_ne h1, del_ne h2] at e; exact fr.back b e
/-- sorted(xs, key=f) -/
theorem cr_sortC {k j : Nat} {x y : Str} {sp : Sp} (c : CalX X.prog X.w X.K X.mg X.base k x [y] sp) (hr : Room j X.A) (hk : k + 2 ≤ j) : CallRK X (.builtin "sorted") [Str.ofString "key"] (rSortK X.K (clA X.mg x) sp) := by
  obtain ⟨f, fd, F, hm1, kp, b⟩ := c.ex
  rw [clA_of hm1]
  exact cr_sortK F hr hk b
theorem pe_defC {k : Nat} {x : Str} {ps : List Str} {sp : Sp} {p : Pos} (c : CalX X.prog X.w X.K X.mg X.base k x ps sp) (hg : Gl X x) (hdb : (x == ("__debug__" : Str)) = false := by decide) : PE X (.Name x p) (tC (.ref (clA X.mg x))) := by
  obtain ⟨f, fd, F, hm1, kp, b⟩ := c.ex
  rw [clA_of hm1]
  exact pe_glob hg hm1 rfl hdb
end
end Tw

/-! TwK: keys in order. -/
namespace Tw
open PySem PySem.W PySem.Spec PyProof.Rows L2
/-- rising, alike ones side by side -/
def upK (es : List PyData) : Prop := es.Pairwise fun a b => ltK b a = false
theorem upK_unique {r : Nat} {es fs : List PyData} (h1 : upK es) (h2 : upK fs) (p : es.Perm fs) (hk : ∀ d ∈ es, isK r d) : es = fs :=
  List.Perm.eq_of_pairwise (le := fun a b => ltK b a = false) (fun a b ha hb q1 q2 => ltK_tot (hk a ha) (hk b (p.mem_iff.mpr hb)) q2 q1) h1 h2 p
theorem dle_eq (a b : V × PyData) : dataLe false (fun p : V × PyData => rankD p.2) a b = !ltK b.2 a.2 := by rw [dataLe_eq]; rfl
/-- what sorted(.., key=rank) tells -/
theorem byKey_rank {H : Hp} {xs : List V} {ds : List PyData} (hd : DtAll H xs ds) : ∃ es, es.Perm ds ∧ upK es ∧ DtAll H ((byKey xs (ds.map rankD)).map Prod.fst) es := by
  have hl := hd.length
  have ez : (xs.zip ds).map (fun p : V × PyData => (p.1, rankD p.2)) = xs.zip (ds.map rankD) := by
    rw [List.zip_map_right]; rfl
  have e1 : byKey xs (ds.map rankD) = ((xs.zip ds).mergeSort (dataLe false fun p : V × PyData => rankD p.2)).map fun p => (p.1, rankD p.2) := by
    unfold byKey
    rw [← ez]
    exact (List.map_mergeSort (fun a _ b _ => by rw [dataLe_eq, dataLe_eq])).symm
  obtain ⟨zs, ezs⟩ : ∃ zs, zs = (xs.zip ds).mergeSort (dataLe false fun p : V × PyData => rankD p.2) := ⟨_, rfl⟩
  have hp : zs.Perm (xs.zip ds) := ezs ▸ List.mergeSort_perm _ _
  have hs : zs.Pairwise fun a b => dataLe false (fun p : V × PyData => rankD p.2) a b = true := by
    rw [ezs]
    refine List.pairwise_mergeSort (fun a b c h1 h2 => ?_) (fun a b => ?_) _
    · rw [dle_eq] at h1 h2 ⊢
      simp only [Bool.not_eq_true'] at h1 h2 ⊢
      cases h3 : ltK c.2 a.2 with
      | false => rfl
      | true =>
        rcases ltK_neg (b := b.2) h3 with h | h
        · rw [h] at h2; cases h2
        · rw [h] at h1; cases h1
    · rw [dle_eq, dle_eq]
      cases h3 : ltK b.2 a.2 with
      | false => rfl
      | true => rw [ltK_asymm h3]; rfl
  rw [e1, ← ezs]
  clear e1 ez ezs
  refine ⟨zs.map Prod.snd, ?_, ?_, ?_⟩
  · have := hp.map Prod.snd
    rwa [List.map_snd_zip (by omega)] at this
  · show (zs.map Prod.snd).Pairwise _
    rw [List.pairwise_map]
    refine hs.imp fun {a b} h => ?_
    rw [dle_eq, Bool.not_eq_true'] at h
    exact h
  · have hall : ∀ p ∈ zs, Dt H p.1 p.2 := fun p hm => by
      have hm2 := hp.mem_iff.mp hm
      obtain ⟨i, hi, e⟩ := List.getElem_of_mem hm2
      have h1 : xs[i]? = some p.1 := by
        rw [List.length_zip] at hi
        rw [List.getElem_zip] at e
        rw [List.getElem?_eq_getElem (by omega), ← e]
      have h2 : ds[i]? = some p.2 := by
        rw [List.length_zip] at hi
        rw [List.getElem_zip] at e
        rw [List.getElem?_eq_getElem (by omega), ← e]
      obtain ⟨d, g1, g2⟩ := hd.get h1
      rw [h2] at g1; cases g1; exact g2
    clear hs hp
    induction zs with
    | nil => exact .nil
    | cons z zs ih => exact .cons (hall z (List.mem_cons_self ..)) (ih fun p hp => hall p (List.mem_cons_of_mem _ hp))
theorem rank_sortable (ds : List PyData) : Sortable (ds.map rankD) := .inl fun d hd => by
  obtain ⟨e, _, rfl⟩ := List.mem_map.mp hd
  cases e <;> (rw [rankD]; exact ⟨_, _, rfl⟩)
theorem rank_allalike (ds : List PyData) : AllAlike (ds.map rankD) := fun d hd e he => by
  obtain ⟨a, _, rfl⟩ := List.mem_map.mp hd
  obtain ⟨b, _, rfl⟩ := List.mem_map.mp he
  exact rank_alike a b
/-- how many stand ahead of a key -/
def aheadN (es : List PyData) (d : PyData) : Nat := es.countP fun e => ltK e d
theorem aheadN_at {es : List PyData} {d : PyData} {n : Nat} (hn : n ≤ es.length) (h1 : ∀ i e, es[i]? = some e → i < n → ltK e d = true) (h2 : ∀ i e, es[i]? = some e → n ≤ i → ltK e d = false) : aheadN es d = n := by
  unfold aheadN
  have e : es = es.take n ++ es.drop n := (List.take_append_drop n es).symm
  rw [e, List.countP_append]
  have a1 : (es.take n).countP (fun e => ltK e d) = (es.take n).length := by
    rw [List.countP_eq_length]
    intro x hx
    obtain ⟨i, hi, rfl⟩ := List.getElem_of_mem hx
    rw [List.length_take] at hi
    refine h1 i _ ?_ (by omega)
    rw [List.getElem_take, List.getElem?_eq_getElem]
  have a2 : (es.drop n).countP (fun e => ltK e d) = 0 := by
    rw [List.countP_eq_zero]
    intro x hx
    obtain ⟨i, hi, rfl⟩ := List.getElem_of_mem hx
    rw [List.length_drop] at hi
    rw [h2 (n + i) _ (by rw [List.getElem_drop, List.getElem?_eq_getElem]) (by omega)]
    exact Bool.false_ne_true
  rw [a1, a2, List.length_take]; omega
theorem upK_get {es : List PyData} (h : upK es) {i j : Nat} {a b : PyData} (hij : i < j) (ha : es[i]? = some a) (hb : es[j]? = some b) : ltK b a = false := by
  obtain ⟨h1, rfl⟩ := List.getElem?_eq_some_iff.mp ha
  obtain ⟨h2, rfl⟩ := List.getElem?_eq_some_iff.mp hb
  exact List.pairwise_iff_getElem.mp h i j h1 h2 hij
theorem ltK_le_lt {a b c : PyData} (h1 : ltK b a = false) (h2 : ltK b c = true) : ltK a c = true := by
  rcases ltK_neg (b := a) h2 with h | h
  · rw [h] at h1; cases h1
  · exact h
theorem ltK_lt_le {a b c : PyData} (h1 : ltK a b = true) (h2 : ltK c b = false) : ltK a c = true := by
  rcases ltK_neg (b := c) h1 with h | h
  · exact h
  · rw [h] at h2; cases h2
/-- one more, put behind those that do not stand behind it -/
theorem upK_ins {es : List PyData} {d : PyData} {n : Nat} (h : upK es) (h1 : ∀ i e, es[i]? = some e → i < n → ltK d e = false) (h2 : ∀ e, es[n]? = some e → ltK d e = true) : upK (es.take n ++ [d] ++ es.drop n) := by
  unfold upK
  rw [List.append_assoc, List.pairwise_append]
  refine ⟨h.sublist (List.take_sublist _ _), ?_, ?_⟩
  · rw [List.singleton_append, List.pairwise_cons]
    refine ⟨fun x hx => ?_, h.sublist (List.drop_sublist _ _)⟩
    obtain ⟨i, hi, rfl⟩ := List.getElem_of_mem hx
    rw [List.length_drop] at hi
    have q0 : es[n]? = some es[n] := List.getElem?_eq_getElem (by omega)
    have q1 := h2 _ q0
    rw [List.getElem_drop]
    cases i with
    | zero => exact ltK_asymm q1
    | succ i =>
      have q2 := upK_get h (show n < n + (i + 1) by omega) q0 (List.getElem?_eq_getElem (by omega))
      exact ltK_asymm (ltK_lt_le q1 q2)
  · intro x hx y hy
    obtain ⟨i, hi, rfl⟩ := List.getElem_of_mem hx
    rw [List.length_take] at hi
    rw [List.getElem_take]
    have q0 : es[i]? = some es[i] := List.getElem?_eq_getElem (by omega)
    rw [List.singleton_append] at hy
    rcases List.mem_cons.mp hy with rfl | hy
    · exact h1 i _ q0 (by omega)
    · obtain ⟨j, hj, rfl⟩ := List.getElem_of_mem hy
      rw [List.length_drop] at hj
      rw [List.getElem_drop]
      exact upK_get h (show i < n + j by omega) q0 (List.getElem?_eq_getElem (by omega))
theorem perm_ins {α : Type} (es : List α) (d : α) (n : Nat) : (es.take n ++ [d] ++ es.drop n).Perm (es ++ [d]) := by
  have e : es.take n ++ [d] ++ es.drop n = es.take n ++ d :: es.drop n := by rw [List.append_assoc]; rfl
  have h := List.perm_middle (a := d) (l₁ := es.take n) (l₂ := es.drop n)
  rw [List.take_append_drop] at h
  rw [e]
  exact h.trans (List.perm_append_singleton d es).symm
/-- texts, numbers, tuples of no more than a thousand of these -/
def wideK : Nat → PyData → Prop
  | _, .int _ => True
  | _, .str _ => True
  | r + 1, .tuple ds => ds.length ≤ 1000 ∧ ∀ d ∈ ds, wideK r d
  | _, _ => False
theorem isK_wide : ∀ {r : Nat} {d : PyData}, isK r d → wideK r d
  | r, d, h => by
    rcases isK_cases h with ⟨i, rfl, hi⟩ | ⟨z, rfl, hz⟩ | ⟨r1, ds, rfl, rfl, hl, hs⟩
    · cases r <;> exact trivial
    · cases r <;> exact trivial
    · exact ⟨by omega, fun d hd => isK_wide (hs d hd)⟩
theorem wide_cases {r : Nat} {d : PyData} (h : wideK r d) : (∃ i, d = .int i) ∨ (∃ z, d = .str z) ∨ ∃ r1 ds, r = r1 + 1 ∧ d = .tuple ds ∧ ds.length ≤ 1000 ∧ ∀ e ∈ ds, wideK r1 e := by
  cases d with
  | int i => exact .inl ⟨i, rfl⟩
  | str z => exact .inr (.inl ⟨z, rfl⟩)
  | tuple ds =>
    cases r with
    | zero => exact h.elim
    | succ r => exact .inr (.inr ⟨r, ds, rfl, rfl, h.1, h.2⟩)
  | none => cases r <;> exact h.elim
  | bool b => cases r <;> exact h.elim
  | list b => cases r <;> exact h.elim
  | dict b => cases r <;> exact h.elim
end Tw

/-! TwL: the laws' reader of keys, sign by sign. -/
namespace Tw
open PySem PySem.Spec PyProof.Rows L2 TL
inductive Wd
  | wanted | opened | minus | figures | text | freed | behind
  deriving DecidableEq
/-- the reader's state; how many things stand in the tuples around, the innermost first -/
structure Rs where
  w : Wd
  n : Nat
  inn : List Nat
def upI : List Nat → List Nat
  | [] => []
  | j :: u => (j + 1) :: u
def begunR (inn : List Nat) (c : Nat) : Option Rs :=
  if c = 34 then some ⟨.text, 0, upI inn⟩
  else if c = 40 ∧ inn.length < 3 then some ⟨.opened, 0, 0 :: upI inn⟩
  else if c = 45 then some ⟨.minus, 0, upI inn⟩
  else if c = 48 then some ⟨.behind, 0, upI inn⟩
  else if 49 ≤ c ∧ c ≤ 57 then some ⟨.figures, 1, upI inn⟩
  else none
def withinR (w : Wd) (n : Nat) (inn : List Nat) (c : Nat) : Option Rs :=
  if w = .minus ∧ 49 ≤ c ∧ c ≤ 57 then some ⟨.figures, 1, inn⟩
  else if w = .freed ∧ (c = 34 ∨ c = 92) then some ⟨.text, n + 1, inn⟩
  else if w = .text ∧ c = 34 then some ⟨.behind, 0, inn⟩
  else if w ≠ .text ∨ n = 40 ∨ c < 32 ∨ 126 < c then none
  else if c = 92 then some ⟨.freed, n, inn⟩
  else some ⟨.text, n + 1, inn⟩
def roomR (many : Bool) : List Nat → Bool
  | [] => many
  | j :: _ => decide (j < 4)
def stepR (many : Bool) (s : Rs) (c : Nat) : Option Rs :=
  if s.w = .minus ∨ s.w = .text ∨ s.w = .freed then withinR s.w s.n s.inn c
  else if s.w = .opened ∧ c = 41 then some ⟨.behind, 0, s.inn.tail⟩
  else if s.w = .opened ∨ s.w = .wanted then begunR s.inn c
  else if s.w = .figures ∧ digC c = true ∧ s.n < 60 then some ⟨.figures, s.n + 1, s.inn⟩
  else if c = 41 ∧ s.inn ≠ [] then some ⟨.behind, 0, s.inn.tail⟩
  else if c = 32 ∧ roomR many s.inn = true then some ⟨.wanted, 0, s.inn⟩
  else none
def goodR (s : Rs) : Bool := decide (s.w = .figures ∨ s.w = .behind) && s.inn.isEmpty
/-- the first sign with which it can't go on -/
def bad (many : Bool) : Rs → List Nat → Option Nat
  | s, [] => if goodR s = true then none else some 0
  | s, c :: l => match stepR many s c with
    | none => some 0
    | some t => (bad many t l).map (· + 1)
section
variable {m : Bool}
theorem bad_none {s : Rs} {c : Nat} {l : List Nat} (h : stepR m s c = none) : bad m s (c :: l) = some 0 := by rw [bad, h]
theorem bad_some {s t : Rs} {c : Nat} {l : List Nat} (h : stepR m s c = some t) : bad m s (c :: l) = (bad m t l).map (· + 1) := by rw [bad, h]
theorem map_add (o : Option Nat) (a b : Nat) : (o.map (· + a)).map (· + b) = o.map (· + (a + b)) := by
  cases o with
  | none => rfl
  | some x => simp only [Option.map_some]; congr 1; omega
theorem map_zero (o : Option Nat) : o.map (· + 0) = o := by cases o <;> rfl
theorem step_within {s : Rs} {c : Nat} (h : s.w = .minus ∨ s.w = .text ∨ s.w = .freed) : stepR m s c = withinR s.w s.n s.inn c := by unfold stepR; rw [if_pos h]
theorem step_text {n c : Nat} {inn : List Nat} : stepR m ⟨.text, n, inn⟩ c = withinR .text n inn c := step_within (.inr (.inl rfl))
theorem step_freed {n c : Nat} {inn : List Nat} : stepR m ⟨.freed, n, inn⟩ c = withinR .freed n inn c := step_within (.inr (.inr rfl))
theorem step_minus {n c : Nat} {inn : List Nat} : stepR m ⟨.minus, n, inn⟩ c = withinR .minus n inn c := step_within (.inl rfl)
theorem step_wanted {n c : Nat} {inn : List Nat} : stepR m ⟨.wanted, n, inn⟩ c = begunR inn c := by
  unfold stepR
  rw [if_neg (by rintro (h | h | h) <;> cases h), if_neg (by rintro ⟨h, _⟩; cases h), if_pos (.inr rfl)]
theorem step_opened {n c : Nat} {inn : List Nat} (hc : c ≠ 41) : stepR m ⟨.opened, n, inn⟩ c = begunR inn c := by
  unfold stepR
  rw [if_neg (by rintro (h | h | h) <;> cases h), if_neg (fun h => hc h.2), if_pos (.inl rfl)]
theorem step_shut {n : Nat} {inn : List Nat} : stepR m ⟨.opened, n, inn⟩ 41 = some ⟨.behind, 0, inn.tail⟩ := by
  unfold stepR
  rw [if_neg (by rintro (h | h | h) <;> cases h), if_pos ⟨rfl, rfl⟩]
def behindR (many : Bool) (inn : List Nat) (c : Nat) : Option Rs :=
  if c = 41 ∧ inn ≠ [] then some ⟨.behind, 0, inn.tail⟩
  else if c = 32 ∧ roomR many inn = true then some ⟨.wanted, 0, inn⟩
  else none
theorem step_behind {n c : Nat} {inn : List Nat} : stepR m ⟨.behind, n, inn⟩ c = behindR m inn c := by
  unfold stepR
  rw [if_neg (by rintro (h | h | h) <;> cases h), if_neg (by rintro ⟨h, _⟩; cases h), if_neg (by rintro (h | h) <;> cases h), if_neg (by rintro ⟨h, _⟩; cases h)]; rfl
theorem step_fig {n c : Nat} {inn : List Nat} (hc : digC c = true) (hn : n < 60) : stepR m ⟨.figures, n, inn⟩ c = some ⟨.figures, n + 1, inn⟩ := by
  unfold stepR
  rw [if_neg (by rintro (h | h | h) <;> cases h), if_neg (by rintro ⟨h, _⟩; cases h), if_neg (by rintro (h | h) <;> cases h), if_pos ⟨rfl, hc, hn⟩]
theorem step_figN {n c : Nat} {inn : List Nat} (h : digC c = false ∨ ¬ n < 60) : stepR m ⟨.figures, n, inn⟩ c = behindR m inn c := by
  unfold stepR
  rw [if_neg (by rintro (h | h | h) <;> cases h), if_neg (by rintro ⟨h, _⟩; cases h), if_neg (by rintro (h | h) <;> cases h), if_neg (by
    rintro ⟨_, h1, h2⟩
    rcases h with h | h
    · rw [h1] at h; cases h
    · exact h h2)]; rfl
theorem digC_iff {c : Nat} : digC c = true ↔ 48 ≤ c ∧ c ≤ 57 := by unfold digC; rw [Bool.and_eq_true, decide_eq_true_eq, decide_eq_true_eq]
theorem behindR_dig {c : Nat} {inn : List Nat} (h : digC c = true) : behindR m inn c = none := by
  have := digC_iff.mp h
  unfold behindR
  rw [if_neg (by omega), if_neg (by omega)]
/-- behind the figures of a number -/
theorem bad_fig {n : Nat} {inn : List Nat} {l : List Nat} (h : ∀ c, l.head? = some c → digC c = false) : bad m ⟨.figures, n, inn⟩ l = bad m ⟨.behind, 0, inn⟩ l := by
  cases l with
  | nil => rfl
  | cons c l =>
    rw [bad, bad, step_figN (.inl (h c rfl)), step_behind]
theorem bad_opened {n n2 : Nat} {inn : List Nat} {l : List Nat} (h : l.head? ≠ some 41) : bad m ⟨.opened, n, inn⟩ l = bad m ⟨.wanted, n2, inn⟩ l := by
  cases l with
  | nil => rfl
  | cons c l =>
    rw [bad, bad, step_opened (fun e => h (by rw [e]; rfl)), step_wanted]

/-! ### one sign of a text -/
def sgn : List Nat → Except Nat (Nat × Nat)
  | [] => .error 0
  | [c] => if c < 32 ∨ 126 < c then .error 0 else if c = 92 then .error 1 else .ok (c, 1)
  | c :: d :: _ => if c < 32 ∨ 126 < c then .error 0 else if c = 92 then (if d = 34 ∨ d = 92 then .ok (d, 2) else .error 1) else .ok (c, 1)
theorem sgn_one {c : Nat} : sgn [c] = if c < 32 ∨ 126 < c then .error 0 else if c = 92 then .error 1 else .ok (c, 1) := rfl
theorem sgn_two {c d : Nat} {l : List Nat} : sgn (c :: d :: l) = if c < 32 ∨ 126 < c then .error 0 else if c = 92 then (if d = 34 ∨ d = 92 then .ok (d, 2) else .error 1) else .ok (c, 1) := rfl
theorem within_text {n c : Nat} {inn : List Nat} (hn : n ≠ 40) (hc : c ≠ 34) : withinR .text n inn c = if c < 32 ∨ 126 < c then none else if c = 92 then some ⟨.freed, n, inn⟩ else some ⟨.text, n + 1, inn⟩ := by
  unfold withinR
  rw [if_neg (by rintro ⟨h, _⟩; cases h), if_neg (by rintro ⟨h, _⟩; cases h), if_neg (by rintro ⟨_, h⟩; exact hc h)]
  by_cases h : c < 32 ∨ 126 < c
  · rw [if_pos (.inr (.inr h)), if_pos h]
  · rw [if_neg (by
      rintro (h1 | h1 | h1)
      · exact h1 rfl
      · exact hn h1
      · exact h h1), if_neg h]
theorem within_freed {n c : Nat} {inn : List Nat} : withinR .freed n inn c = if c = 34 ∨ c = 92 then some ⟨.text, n + 1, inn⟩ else none := by
  unfold withinR
  rw [if_neg (by rintro ⟨h, _⟩; cases h)]
  by_cases h : c = 34 ∨ c = 92
  · rw [if_pos ⟨rfl, h⟩, if_pos h]
  · rw [if_neg (by rintro ⟨_, h1⟩; exact h h1), if_neg (by rintro ⟨h, _⟩; cases h), if_pos (.inl (fun e => nomatch e)), if_neg h]
theorem sgn_error {n e : Nat} {inn : List Nat} {l : List Nat} (hn : n ≠ 40) (hl : l.head? ≠ some 34) (h : sgn l = .error e) : bad m ⟨.text, n, inn⟩ l = some e := by
  cases l with
  | nil => cases h; rfl
  | cons c l =>
    have hc : c ≠ 34 := fun e => hl (by rw [e]; rfl)
    cases l with
    | nil =>
      first | rw [sgn_one] at h | rw [sgn_two] at h
      by_cases h1 : c < 32 ∨ 126 < c
      · rw [if_pos h1] at h; cases h
        exact bad_none (by rw [step_text, within_text hn hc, if_pos h1])
      · rw [if_neg h1] at h
        by_cases h2 : c = 92
        · rw [if_pos h2] at h; cases h
          rw [bad_some (by rw [step_text, within_text hn hc, if_neg h1, if_pos h2])]; rfl
        · rw [if_neg h2] at h; cases h
    | cons d l =>
      first | rw [sgn_one] at h | rw [sgn_two] at h
      by_cases h1 : c < 32 ∨ 126 < c
      · rw [if_pos h1] at h; cases h
        exact bad_none (by rw [step_text, within_text hn hc, if_pos h1])
      · rw [if_neg h1] at h
        by_cases h2 : c = 92
        · rw [if_pos h2] at h
          by_cases h3 : d = 34 ∨ d = 92
          · rw [if_pos h3] at h; cases h
          · rw [if_neg h3] at h; cases h
            rw [bad_some (by rw [step_text, within_text hn hc, if_neg h1, if_pos h2]), bad_none (by rw [step_freed, within_freed, if_neg h3])]; rfl
        · rw [if_neg h2] at h; cases h
theorem sgn_ok {n c' e : Nat} {inn : List Nat} {l : List Nat} (hn : n ≠ 40) (hl : l.head? ≠ some 34) (h : sgn l = .ok (c', e)) :
    (32 ≤ c' ∧ c' ≤ 126) ∧ e = (esc1 c').length ∧ l = esc1 c' ++ l.drop e ∧ bad m ⟨.text, n, inn⟩ l = (bad m ⟨.text, n + 1, inn⟩ (l.drop e)).map (· + e) := by
  cases l with
  | nil => cases h
  | cons c l =>
    have hc : c ≠ 34 := fun e => hl (by rw [e]; rfl)
    have one : ∀ (h1 : ¬ (c < 32 ∨ 126 < c)) (h2 : c ≠ 92), (32 ≤ c ∧ c ≤ 126) ∧ 1 = (esc1 c).length ∧ c :: l = esc1 c ++ (c :: l).drop 1 ∧ bad m ⟨.text, n, inn⟩ (c :: l) = (bad m ⟨.text, n + 1, inn⟩ ((c :: l).drop 1)).map (· + 1) := fun h1 h2 => by
      have e1 : esc1 c = [c] := by unfold esc1; rw [if_neg (by rintro (h | h); exact hc h; exact h2 h)]
      rw [e1]
      exact ⟨by omega, rfl, rfl, bad_some (by rw [step_text, within_text hn hc, if_neg h1, if_neg h2])⟩
    cases l with
    | nil =>
      first | rw [sgn_one] at h | rw [sgn_two] at h
      by_cases h1 : c < 32 ∨ 126 < c
      · rw [if_pos h1] at h; cases h
      · rw [if_neg h1] at h
        by_cases h2 : c = 92
        · rw [if_pos h2] at h; cases h
        · rw [if_neg h2] at h; cases h
          exact one h1 h2
    | cons d l =>
      first | rw [sgn_one] at h | rw [sgn_two] at h
      by_cases h1 : c < 32 ∨ 126 < c
      · rw [if_pos h1] at h; cases h
      · rw [if_neg h1] at h
        by_cases h2 : c = 92
        · rw [if_pos h2] at h
          by_cases h3 : d = 34 ∨ d = 92
          · rw [if_pos h3] at h
            obtain ⟨rfl, rfl⟩ : d = c' ∧ 2 = e := by injection h with h; injection h with h h'; exact ⟨h, h'⟩
            have e1 : esc1 d = [92, d] := by unfold esc1; rw [if_pos h3]
            rw [e1, h2]
            refine ⟨by omega, rfl, rfl, ?_⟩
            rw [bad_some (by rw [step_text, within_text hn (by decide), if_neg (by decide), if_pos rfl]), bad_some (by rw [step_freed, within_freed, if_pos h3]), map_add]; rfl
          · rw [if_neg h3] at h; cases h
        · rw [if_neg h2] at h; cases h
          exact one h1 h2

/-! ### figures -/
theorem numL_of : ∀ (k : Nat) (ds : List Nat), ds.length = k + 1 → (∀ c ∈ ds, 48 ≤ c ∧ c ≤ 57) → ds.head? ≠ some 48 → ∃ n, numL n = ds ∧ n ≠ 0
  | 0, ds, hl, hd, hh => by
    obtain ⟨c, rfl⟩ := List.length_eq_one_iff.mp hl
    have := hd c (List.mem_cons_self ..)
    have h2 : c ≠ 48 := fun e => hh (by rw [e]; rfl)
    refine ⟨c - 48, ?_, by omega⟩
    rw [numL_lt (by omega)]
    congr 1; omega
  | k + 1, ds, hl, hd, hh => by
    have hne : ds ≠ [] := fun e => by rw [e] at hl; cases hl
    have e := List.dropLast_concat_getLast hne
    generalize ds.getLast hne = c at e
    generalize ds.dropLast = es at e
    subst e
    rw [List.length_append] at hl
    have hel : es.length = k + 1 := Nat.succ.inj hl
    obtain ⟨n, h1, h2⟩ := numL_of k es hel (fun c hc => hd c (List.mem_append_left _ hc)) (fun h => hh (by rw [List.head?_append, h]; rfl))
    have hc := hd c (List.mem_append_right _ (List.mem_singleton.mpr rfl))
    refine ⟨n * 10 + (c - 48), ?_, by omega⟩
    rw [numL_step (by omega)]
    have e1 : (n * 10 + (c - 48)) / 10 = n := by omega
    have e2 : (n * 10 + (c - 48)) % 10 = c - 48 := by omega
    rw [e1, e2, h1]
    congr 2; omega
theorem numL_big : ∀ (k n : Nat), 10 ^ k ≤ n → k < (numL n).length
  | 0, n, _ => List.length_pos_iff.mpr (numL_ne n)
  | k + 1, n, h => by
    rw [Nat.pow_succ] at h
    have h1 : 1 ≤ 10 ^ k := Nat.pow_pos (by decide)
    rw [numL_step (by omega), List.length_append]
    have := numL_big k (n / 10) ((Nat.le_div_iff_mul_le (by decide)).mpr h)
    exact Nat.succ_lt_succ this
theorem numL_60' {n : Nat} (h : (numL n).length ≤ 60) : n < 10 ^ 60 := by
  rcases Nat.lt_or_ge n (10 ^ 60) with h1 | h1
  · exact h1
  · have := numL_big 60 n h1; omega
/-- figures, perhaps behind a minus, write a number -/
theorem intL_of {ds : List Nat} {neg : Bool} (hd : ∀ c ∈ ds, 48 ≤ c ∧ c ≤ 57) (h0 : ds ≠ []) (h1 : ds.length ≤ 60) (hh : ds.head? ≠ some 48) : ∃ i, numOk i ∧ intL i = (if neg = true then 45 :: ds else ds) ∧ intText? (strOf (intL i)) = some i := by
  obtain ⟨n, e, hn⟩ := numL_of (ds.length - 1) ds (by have := List.length_pos_iff.mpr h0; omega) hd hh
  have hb : n < 10 ^ 60 := numL_60' (by rw [e]; exact h1)
  have hbi : ((n : Nat) : Int) < (10 : Int) ^ 60 := by
    have e2 : ((10 ^ 60 : Nat) : Int) = (10 : Int) ^ 60 := by decide
    rw [← e2]; exact Int.ofNat_lt.mpr hb
  have h10 : (0 : Int) < (10 : Int) ^ 60 := by decide
  cases neg with
  | false =>
    refine ⟨n, ⟨by generalize (10 : Int) ^ 60 = t at *; omega, hbi⟩, ?_, ?_⟩
    · rw [intL_nat, e]; rfl
    · rw [intL_nat]; exact int_back_nat hb
  | true =>
    obtain ⟨k, rfl⟩ : ∃ k, n = k + 1 := ⟨n - 1, by omega⟩
    refine ⟨Int.negSucc k, ⟨?_, ?_⟩, ?_, ?_⟩
    · have e3 : Int.negSucc k = -((k + 1 : Nat) : Int) := rfl
      rw [e3]; generalize (10 : Int) ^ 60 = t at *; omega
    · have e3 : Int.negSucc k = -((k + 1 : Nat) : Int) := rfl
      rw [e3]; generalize (10 : Int) ^ 60 = t at *; omega
    · rw [intL_neg, e]; rfl
    · rw [intL_neg]
      have e3 : Int.negSucc k = -((k + 1 : Nat) : Int) := rfl
      rw [e3]; exact int_back_neg hb
theorem intL_zero : intL 0 = [48] := by decide +kernel
theorem bad_full {inn : List Nat} {l : List Nat} (h : l.head? ≠ some 34) : bad m ⟨.text, 40, inn⟩ l = some 0 := by
  cases l with
  | nil => rfl
  | cons c l =>
    refine bad_none ?_
    rw [step_text]
    unfold withinR
    rw [if_neg (by rintro ⟨h, _⟩; cases h), if_neg (by rintro ⟨h, _⟩; cases h), if_neg (by rintro ⟨_, h1⟩; exact h (by rw [h1]; rfl)), if_pos (.inr (.inl rfl))]
theorem bad_quote {n : Nat} {inn : List Nat} {l : List Nat} : bad m ⟨.text, n, inn⟩ (34 :: l) = (bad m ⟨.behind, 0, inn⟩ l).map (· + 1) := by
  refine bad_some ?_
  rw [step_text]
  unfold withinR
  rw [if_neg (by rintro ⟨h, _⟩; cases h), if_neg (by rintro ⟨h, _⟩; cases h), if_pos ⟨rfl, rfl⟩]
/-- it is refused with NoText of a place -/
def Refuses (mg : Str → Option Value) (H : Hp) (E : XK) (n : Nat) : Prop := ∀ d H', Fr Non H H' → H' d = some (.xd [("at", .int (n : Int))]) → E (.ref (clA mg "NoText")) (some d) H'
theorem Refuses.mono {mg : Str → Option Value} {H H1 : Hp} {E : XK} {n : Nat} (h : Refuses mg H E n) (f : Fr Non H H1) : Refuses mg H1 E n := fun d H' g e => h d H' (f.trans g) e
theorem head_34 {l : List Nat} : decide (sgO l.head? = Str.ofString "\"") = decide (l.head? = some 34) := by
  cases l with
  | nil => decide +kernel
  | cons c l =>
    rw [List.head?_cons, sg_eq c 34 _ sg_q]
    exact decide_eq_decide.mpr ⟨fun h => by rw [h], fun h => by injection h⟩
theorem sgO_dec (o : Option Nat) (x : Nat) (s : String) (h : Str.ofString s = ⟨#[x]⟩) : decide (sgO o = Str.ofString s) = decide (o = some x) := by
  cases o with
  | none =>
    rw [h]
    exact decide_eq_decide.mpr ⟨fun h => (by
      injection h with h
      have := congrArg Array.size h
      cases this), fun h => nomatch h⟩
  | some c =>
    rw [sg_eq c x s h]
    exact decide_eq_decide.mpr ⟨fun h => by rw [h], fun h => by injection h⟩
theorem encMore_snoc (d : PyData) : ∀ es : List PyData, encMore (es ++ [d]) = encMore es ++ 32 :: encL d
  | [] => by rw [List.nil_append, encMore, encMore, encMore, List.append_nil]; rfl
  | e :: es => by rw [List.cons_append, encMore, encMore, encMore_snoc d es, List.cons_append, List.append_assoc]
theorem encAll_snoc {ds : List PyData} (d : PyData) (h : ds ≠ []) : encAll (ds ++ [d]) = encAll ds ++ 32 :: encL d := by
  cases ds with
  | nil => exact absurd rfl h
  | cons e es => rw [List.cons_append, encAll, encAll, encMore_snoc, List.append_assoc]
theorem behindR_shut {j : Nat} {u : List Nat} : behindR m (j :: u) 41 = some ⟨.behind, 0, u⟩ := by
  unfold behindR
  rw [if_pos ⟨rfl, fun e => nomatch e⟩]; rfl
theorem behindR_more {j : Nat} {u : List Nat} (h : j < 4) : behindR m (j :: u) 32 = some ⟨.wanted, 0, j :: u⟩ := by
  unfold behindR
  rw [if_neg (by rintro ⟨h, _⟩; exact absurd h (by decide)), if_pos ⟨rfl, decide_eq_true h⟩]
theorem behindR_no {inn : List Nat} {c : Nat} (h : c ≠ 41 ∨ inn = []) (h2 : c ≠ 32 ∨ roomR m inn = false) : behindR m inn c = none := by
  unfold behindR
  rw [if_neg (by
    rintro ⟨a, b⟩
    rcases h with h | h
    · exact h a
    · exact b h), if_neg (by
    rintro ⟨a, b⟩
    rcases h2 with h2 | h2
    · exact h2 a
    · rw [h2] at b; cases b)]
theorem bad_behind {j n : Nat} {u : List Nat} {l : List Nat} (h : l.head? ≠ some 41) (h2 : l.head? = some 32 → ¬ j < 4) : bad m ⟨.behind, n, j :: u⟩ l = some 0 := by
  cases l with
  | nil => rfl
  | cons c l =>
    refine bad_none ?_
    rw [step_behind]
    refine behindR_no (.inl fun e => h (by rw [e]; rfl)) ?_
    by_cases hc : c = 32
    · exact .inr (decide_eq_false (h2 (by rw [hc]; rfl)))
    · exact .inl hc
/-- what key_from tells of a place -/
def R_key_from (mg : Str → Option Value) (r : Nat) : V → V → V → Hp → VK → XK → Prop := fun t n rm H Q E => ∃ (z : Str) (k : Nat) (m : Bool) (inn : List Nat), t = .str z ∧ n = .int k ∧ rm = .int (r : Int) ∧ z.length ≤ 1000000 ∧ inn.length + r = 3 ∧
  (∀ d rest p v H', isK r d → z.cps.toList.drop k = encL d ++ rest → bad m ⟨.wanted, 0, inn⟩ (z.cps.toList.drop k) = (bad m ⟨.behind, 0, upI inn⟩ rest).map (· + (encL d).length) → Fr Non H H' → H' p = some (.tup [v, .int ((k + (encL d).length : Nat) : Int)]) → Dt H' v d → Q (.ref p) H') ∧
  (∀ e, bad m ⟨.wanted, 0, inn⟩ (z.cps.toList.drop k) = some e → Refuses mg H E (k + e))
def R_parts_from (mg : Str → Option Value) (r : Nat) : V → V → V → Hp → VK → XK → Prop := fun t n rm H Q E => ∃ (z : Str) (k : Nat) (m : Bool) (u : List Nat), t = .str z ∧ n = .int k ∧ rm = .int (r : Int) ∧ z.length ≤ 1000000 ∧ u.length + 1 + r = 3 ∧
  (∀ ds rest p v H', (∀ d ∈ ds, isK r d) → ds.length ≤ 4 → z.cps.toList.drop k = encAll ds ++ 41 :: rest → bad m ⟨.opened, 0, 0 :: u⟩ (z.cps.toList.drop k) = (bad m ⟨.behind, 0, u⟩ rest).map (· + ((encAll ds).length + 1)) → Fr Non H H' → H' p = some (.tup [v, .int ((k + (encAll ds).length + 1 : Nat) : Int)]) → Dt H' v (.tuple ds) → Q (.ref p) H') ∧
  (∀ e, bad m ⟨.opened, 0, 0 :: u⟩ (z.cps.toList.drop k) = some e → Refuses mg H E (k + e))
end
end Tw

/-! TwM: the laws' reader of keys as tuples; texts made; refusals with a field, caught. -/
namespace Tw
open PySem PySem.Spec PyProof.Rows L2 TL
/-! ### signs up to the last printable one -/
def okT (z : Str) : Prop := ∀ c ∈ z.cps.toList, c ≤ 126
theorem okT_app {a b : Str} (h : okT a) (k : okT b) : okT (a ++ b) := fun c hc => by
  rw [str_app] at hc
  rcases List.mem_append.mp hc with hc | hc
  · exact h c hc
  · exact k c hc
theorem cut_list (z : Str) (lo hi : Option Int) : (cutS z lo hi).cps.toList = (z.cps.toList.drop (HT.sIx z.length 0 lo)).take (HT.sIx z.length z.length hi - HT.sIx z.length 0 lo) := rfl
theorem okT_cut {z : Str} (h : okT z) (lo hi : Option Int) : okT (cutS z lo hi) := fun c hc => by
  rw [cut_list] at hc
  exact h c (List.mem_of_mem_drop (List.mem_of_mem_take hc))
theorem cut_len (z : Str) (lo hi : Option Int) : (cutS z lo hi).length ≤ z.length := by
  rw [str_len, str_len, cut_list, List.length_take, List.length_drop]; omega
theorem cut_lenN (z : Str) {a n : Int} (ha : 0 ≤ a) (hn : 0 ≤ n) : ((cutS z (some a) (some (a + n))).length : Int) ≤ n := by
  have e1 : HT.sIx z.length 0 (some a) = min a.toNat z.length := by
    show (if a < 0 then _ else min a.toNat z.length) = _
    rw [if_neg (by omega)]
  have e2 : HT.sIx z.length z.length (some (a + n)) = min (a + n).toNat z.length := by
    show (if a + n < 0 then _ else min (a + n).toNat z.length) = _
    rw [if_neg (by omega)]
  rw [str_len, cut_list, List.length_take, e1, e2]
  omega
theorem okT_strOk {z : Str} (h : okT z) : PyData.strOk z = true := by
  unfold PyData.strOk
  rw [Array.all_eq_true_iff_forall_mem]
  intro c hc
  have := h c (Array.mem_toList_iff.mpr hc)
  exact decide_eq_true (by omega)
theorem okT_one {c : Nat} (h : c ≤ 126) : okT ⟨#[c]⟩ := fun d hd => by
  have e : d = c := by simpa using hd
  subst e; exact h
theorem okT_all {s : Str} (h : s.cps.toList.all (fun c => decide (c ≤ 126)) = true) : okT s := fun c hc => of_decide_eq_true (List.all_eq_true.mp h c hc)
theorem okT_encL : ∀ {r : Nat} {d : PyData}, isK r d → ∀ c ∈ encL d, c ≤ 126
  | r, d, h => by
    rcases isK_cases h with ⟨i, rfl, hi⟩ | ⟨z, rfl, hz⟩ | ⟨r1, ds, rfl, rfl, _, hs⟩
    · intro c hc
      rw [encL] at hc
      rcases intL_cases hi with ⟨m, h1, h2, h3⟩ | ⟨m, h1, h2, h3⟩
      · rw [h2] at hc
        have := numL_digits m c hc; omega
      · rw [h2] at hc
        rcases List.mem_cons.mp hc with rfl | hc
        · decide
        · have := numL_digits _ c hc; omega
    · intro c hc
      rw [encL] at hc
      have he : ∀ l : List Nat, (∀ x ∈ l, x ≤ 126) → ∀ x ∈ escL l, x ≤ 126 := by
        intro l hl
        induction l with
        | nil => intro x hx; cases hx
        | cons y l ih =>
          intro x hx
          rw [escL_cons] at hx
          rcases List.mem_append.mp hx with hx | hx
          · have hy := hl y (List.mem_cons_self ..)
            unfold esc1 at hx
            split at hx
            · rcases List.mem_cons.mp hx with rfl | hx
              · decide
              · rw [List.mem_singleton.mp hx]; exact hy
            · rw [List.mem_singleton.mp hx]; exact hy
          · exact ih (fun x hx => hl x (List.mem_cons_of_mem _ hx)) x hx
      rcases List.mem_cons.mp hc with rfl | hc
      · decide
      rcases List.mem_append.mp hc with hc | hc
      · exact he _ (fun x hx => (hz.2 x hx).2) c hc
      · rw [List.mem_singleton.mp hc]; decide
    · have hm : ∀ es : List PyData, (∀ e ∈ es, isK r1 e) → ∀ c ∈ encMore es, c ≤ 126 := by
        intro es
        induction es with
        | nil => intro _ c hc; cases hc
        | cons e es ih =>
          intro he c hc
          rw [encMore] at hc
          rcases List.mem_cons.mp hc with rfl | hc
          · decide
          rcases List.mem_append.mp hc with hc | hc
          · exact okT_encL (he e (List.mem_cons_self ..)) c hc
          · exact ih (fun x hx => he x (List.mem_cons_of_mem _ hx)) c hc
      intro c hc
      rw [encL] at hc
      rcases List.mem_cons.mp hc with rfl | hc
      · decide
      rcases List.mem_append.mp hc with hc | hc
      · cases ds with
        | nil => cases hc
        | cons e es =>
          rw [encAll] at hc
          rcases List.mem_append.mp hc with hc | hc
          · exact okT_encL (hs e (List.mem_cons_self ..)) c hc
          · exact hm es (fun x hx => hs x (List.mem_cons_of_mem _ hx)) c hc
      · rw [List.mem_singleton.mp hc]; decide

/-! ### the reader's state as a tuple -/
def wdS : Wd → Str
  | .wanted => "wanted"
  | .opened => "opened"
  | .minus => "minus"
  | .figures => "figures"
  | .text => "text"
  | .freed => "freed"
  | .behind => "behind"
def innD (inn : List Nat) : List PyData := inn.reverse.map fun (j : Nat) => PyData.int (j : Int)
def stD (s : Rs) : PyData := .tuple [.str (wdS s.w), .int (s.n : Int), .tuple (innD s.inn)]
theorem innD_nil : innD [] = [] := rfl
theorem innD_cons (j : Nat) (u : List Nat) : innD (j :: u) = innD u ++ [.int (j : Int)] := by unfold innD; rw [List.reverse_cons, List.map_append]; rfl
theorem innD_tail (inn : List Nat) : innD inn.tail = (innD inn).dropLast := by
  cases inn with
  | nil => rfl
  | cons j u => rw [innD_cons, List.dropLast_concat]; rfl
theorem innD_len (inn : List Nat) : (innD inn).length = inn.length := by unfold innD; rw [List.length_map, List.length_reverse]
theorem any3 (w : Wd) : ([PyData.str "minus", .str "text", .str "freed"].any fun z => PyData.eqv z (.str (wdS w))) = decide (w = .minus ∨ w = .text ∨ w = .freed) := by cases w <;> decide +kernel
theorem any2 (w : Wd) : ([PyData.str "opened", .str "wanted"].any fun z => PyData.eqv z (.str (wdS w))) = decide (w = .opened ∨ w = .wanted) := by cases w <;> decide +kernel
theorem any2b (w : Wd) : ([PyData.str "figures", .str "behind"].any fun z => PyData.eqv z (.str (wdS w))) = decide (w = .figures ∨ w = .behind) := by cases w <;> decide +kernel
theorem wd_ok (w : Wd) : SeqAt.shaped (.str (wdS w)) = true := by cases w <;> decide +kernel
theorem cut_init {α : Type} (ds : List α) {n : Nat} (h : n = ds.length) : (ds.drop (HT.sIx n 0 none)).take (HT.sIx n n (some (-1)) - HT.sIx n 0 none) = ds.dropLast := by
  have e : HT.sIx n n (some (-1)) = n - 1 := by
    show (if (-1 : Int) < 0 then ((-1 : Int) + (n : Int)).toNat else min (-1 : Int).toNat n) = _
    rw [if_pos (by decide)]; omega
  have e0 : HT.sIx n 0 none = 0 := rfl
  rw [e0, e, List.drop_zero, Nat.sub_zero, List.dropLast_eq_take, h]
theorem nz_mem (c : Nat) : decide (c ∈ (Str.ofString "123456789").cps.toList) = decide (49 ≤ c ∧ c ≤ 57) := by
  have e : (Str.ofString "123456789").cps.toList = [49, 50, 51, 52, 53, 54, 55, 56, 57] := by decide +kernel
  rw [e]
  refine decide_eq_decide.mpr ?_
  simp only [List.mem_cons, List.not_mem_nil, or_false]
  omega
theorem sg_lt (c : Nat) : decide ((⟨#[c]⟩ : Str).cps.toList < (Str.ofString " ").cps.toList) = decide (c < 32) := by
  rw [blank_cps]
  refine decide_eq_decide.mpr ?_
  show ([c] < [32]) ↔ _
  exact one_lt
theorem sg_gt (c : Nat) : decide ((Str.ofString "~").cps.toList < (⟨#[c]⟩ : Str).cps.toList) = decide (126 < c) := by
  rw [tilde_cps]
  refine decide_eq_decide.mpr ?_
  show ([126] < [c]) ↔ _
  exact one_lt
theorem inn_shaped (inn : List Nat) : SeqAt.shaped (.tuple (innD inn)) = true := by
  have h1 : (PyData.tuple (innD inn)).canLay0 = true := by
    show PyData.canLayAll0 (innD inn) = true
    exact canLayAll0_of fun d hd => by
      obtain ⟨j, _, rfl⟩ := List.mem_map.mp hd
      rfl
  have h2 : (PyData.tuple (innD inn)).depth ≤ 1 := by
    show PyData.depthAll (innD inn) + 1 ≤ 1
    exact Nat.succ_le_succ (depthAll_le fun d hd => by
      obtain ⟨j, _, rfl⟩ := List.mem_map.mp hd
      exact Nat.le_refl _)
  unfold SeqAt.shaped
  rw [h1, decide_eq_true (Nat.le_trans h2 (by decide))]; rfl
theorem inn_eqv (inn : List Nat) : PyData.eqv (.tuple (innD inn)) (.tuple []) = decide (inn = []) := by
  cases inn with
  | nil => decide +kernel
  | cons j u =>
    rw [innD_cons]
    cases hq : innD u ++ [PyData.int (j : Int)] with
    | nil => simp at hq
    | cons a b => simp [PyData.eqv, PyData.eqvAll]
theorem step_len {m : Bool} {s t : Rs} {c : Nat} (h : stepR m s c = some t) (hs : s.inn.length ≤ 3) : t.inn.length ≤ 3 := by
  have hu : (upI s.inn).length = s.inn.length := by cases s.inn <;> rfl
  have ht : s.inn.tail.length ≤ s.inn.length := by rw [List.length_tail]; omega
  have hw : ∀ w n, withinR w n s.inn c = some t → t.inn.length ≤ 3 := fun w n h => by
    unfold withinR at h
    repeat' split at h
    all_goals first | (cases h; exact hs) | cases h
  unfold stepR at h
  split at h
  · exact hw _ _ h
  split at h
  · cases h; exact Nat.le_trans ht hs
  split at h
  · unfold begunR at h
    split at h
    · cases h; show (upI s.inn).length ≤ 3; omega
    split at h
    · cases h; show (0 :: upI s.inn).length ≤ 3; rw [List.length_cons]; omega
    repeat' split at h
    all_goals first | (cases h; show (upI s.inn).length ≤ 3; omega) | cases h
  split at h
  · cases h; exact hs
  split at h
  · cases h; exact Nat.le_trans ht hs
  split at h
  · cases h; exact hs
  · cases h
/-- what the laws' reader tells of a text -/
def failsR (m : Bool) (z : Str) : Int := if m = true ∧ z.cps.toList = [] then -1 else match bad m ⟨.wanted, 0, []⟩ z.cps.toList with
  | none => -1
  | some e => (e : Int)

/-! ### isinstance of what is caught, with a field -/
section
variable {X : Cx}
def rIsY (K : PySem.W.Frag) (a : Addr) (cls : Value) (d : Option Addr) : List V → Hp → VK → Prop := fun xs H Q => ∃ (D dd : Addr) (fs : List (Str × V)) (c : V) (cv : Value) (b : Bool), cls = .ref D ∧ d = some dd ∧ H dd = some (.xd fs) ∧ HoldC K D ∧ xs = [.ref a, c] ∧ ClsV c cv ∧ PySem.W.kitOne K (.ref D) cv = some b ∧ Q (.bl b) H
theorem call_isY {a : Addr} {cls : Value} {d : Option Addr} {oe : Obj} {pn : List (Addr × Obj)} (hz : Zc cls d oe) (hf : ∃ vs, oe.data = .fields vs) : CallR (X.suite a ((a, oe) :: pn)) (.builtin "isinstance") (rIsY X.K a cls d) := by
  intro pins s σ H xs us Q I r h
  obtain ⟨D, dd, fs, c, cv, b, rfl, rfl, hd, hC, rfl, hv, e, q⟩ := h
  obtain ⟨u1, u2, rfl, r1, r2⟩ := vals2 r
  cases (show u1 = Value.ref a from r1)
  cases hv.eq r2
  obtain ⟨hget, _⟩ := I.pin (a, oe) (List.mem_append.mpr (.inl List.mem_cons_self))
  obtain ⟨vs, hv2⟩ := hf
  obtain ⟨mA, hns, hr⟩ := I.hok dd _ hd
  obtain ⟨od, ho, _⟩ := lookIn_ns hns
  have J : PySem.W.InstAt s.heap a oe D (some od) := by
    obtain ⟨oc, od', oda, osl⟩ := oe
    obtain ⟨h1, h2⟩ := hz
    dsimp only at h1 h2 hv2
    subst h1 h2 hv2
    exact ⟨hget, rfl, rfl, ho⟩
  have C := hC.ex
  exact PySem.W.kia_one (PySem.W.kitx_exc hC.cl C.hg C.hk C.hs C.ha C.hn C.ht C.hm) I.kIn J e (fun z => nomatch z) fun tk => ⟨.bl b, H, I.kept (t' := tk) fun _ _ z => z, rfl, q⟩
theorem x_isY {K : PySem.W.Frag} {a D dd : Addr} {fs : List (Str × V)} {c : V} {cv : Value} {b : Bool} {H : Hp} {Q : VK} (hd : H dd = some (.xd fs)) (hC : HoldC K D) (hv : ClsV c cv) (e : PySem.W.kitOne K (.ref D) cv = some b) (q : Q (.bl b) H) : rIsY K a (.ref D) (some dd) [.ref a, c] H Q := ⟨D, dd, fs, c, cv, b, rfl, rfl, hd, hC, rfl, hv, e, q⟩
end
/-- e.f of what is caught -/
theorem x_xf {a C dd : Addr} {f : Str} {v : V} {fs : List (Str × V)} {i : Nat} {σ : L2.St} {H : Hp} {Q : VK} (hv : σ[i]? = some (some (.ref a))) (hd : H dd = some (.xd fs)) (hl : List.lookup f fs = some v) (q : Q v H) : tXf a (.ref C) (some dd) C f (tVar i) σ H Q := ⟨.ref a, hv, rfl, rfl, dd, fs, v, rfl, hd, hl, q⟩
end Tw

namespace Tw
open PySem L2
def top (i : Nat) : Stmt := PySem.Challenge.pw_twigmap_k17_many_read.main.body.getD i (.Pass ⟨0, 0, 0, 0⟩)
abbrev s_law_pull : Stmt := top 18
abbrev s_law_free : Stmt := top 29
abbrev s_law_spoilt : Stmt := top 28
abbrev s_law_odd : Stmt := top 27
abbrev s_law_shown : Stmt := top 22
abbrev s_law_text : Stmt := top 20
abbrev s_law_great : Stmt := top 19
abbrev s_law_key : Stmt := top 21
abbrev s_law_one : Stmt := top 32
abbrev s_law_within : Stmt := top 24
abbrev s_law_begun : Stmt := top 23
abbrev s_law_step : Stmt := top 25
abbrev s_law_fails : Stmt := top 26
abbrev s_law_well : Stmt := top 17
abbrev s_NoText___init__ : Stmt := inClass (top 2) 0
abbrev s_is_digit : Stmt := top 9
abbrev s_number_from : Stmt := top 10
abbrev s_sign_from : Stmt := top 11
abbrev s_text_from : Stmt := top 12
abbrev s_parts_from : Stmt := top 13
abbrev s_key_from : Stmt := top 14
abbrev s_read_many : Stmt := top 15
abbrev s_law_is_key : Stmt := top 30
abbrev s_law_told : Stmt := top 31
abbrev s_law : Stmt := top 33
structure TX (K : PySem.W.Frag) (mg : Str → Option Value) : Prop where
  d_law_pull : DefX K mg "_law_pull" ["_law_well_here", "_law_many"] s_law_pull
  d_law_free : DefX K mg "_law_free" ["_law_well_here"] s_law_free
  d_law_spoilt : DefX K mg "_law_spoilt" ["_law_well_here", "_law_text_here"] s_law_spoilt
  d_law_odd : DefX K mg "_law_odd" ["_law_well_here"] s_law_odd
  d_law_shown : DefX K mg "_law_shown" ["_law_key_here"] s_law_shown
  d_law_text : DefX K mg "_law_text" ["_law_well_here"] s_law_text
  d_law_great : DefX K mg "_law_great" ["_law_well_here", "_law_bound"] s_law_great
  d_law_key : DefX K mg "_law_key" ["_law_well_here", "_law_room"] s_law_key
  d_law_one : DefX K mg "_law_one" ["_law_well_here"] s_law_one
  d_law_within : DefX K mg "_law_within" ["_law_word", "_law_count", "_law_inner", "_law_sign"] s_law_within
  d_law_begun : DefX K mg "_law_begun" ["_law_inner", "_law_sign"] s_law_begun
  d_law_step : DefX K mg "_law_step" ["_law_state", "_law_sign", "_law_many"] s_law_step
  d_law_fails : DefX K mg "_law_fails" ["_law_text_here", "_law_many"] s_law_fails
  d_law_well : DefX K mg "_law_well" ["_law_script", "_law_k"] s_law_well
  d_NoText___init__ : DefM K mg "NoText" "NoText.__init__" ["self", "at"] s_NoText___init__
  o_NoText : OwnTX K mg "NoText" "at"
  d_is_digit : DefX K mg "is_digit" ["sign"] s_is_digit
  d_number_from : DefX K mg "number_from" ["text", "at"] s_number_from
  d_sign_from : DefX K mg "sign_from" ["text", "at"] s_sign_from
  d_text_from : DefX K mg "text_from" ["text", "at"] s_text_from
  d_parts_from : DefX K mg "parts_from" ["text", "at", "room"] s_parts_from
  d_key_from : DefX K mg "key_from" ["text", "at", "room"] s_key_from
  d_read_many : DefX K mg "read_many" ["text"] s_read_many
  d_law_is_key : DefX K mg "_law_is_key" ["_law_thing", "_law_room"] s_law_is_key
  d_law_told : DefX K mg "_law_told" ["_law_text_here"] s_law_told
  d_law : DefX K mg "law" ["_law_script"] s_law
  bs_TwigError : BaseTX K (clA mg "TwigError")
  b_abs : mg "abs" = none
  b_all : mg "all" = none
  b_bool : mg "bool" = none
  b_int : mg "int" = none
  b_isinstance : mg "isinstance" = none
  b_len : mg "len" = none
  b_list : mg "list" = none
  b_max : mg "max" = none
  b_min : mg "min" = none
  b_range : mg "range" = none
  b_str : mg "str" = none
  b_tuple : mg "tuple" = none
  c_DEEP : ConstX mg "DEEP" (.int 3)
  c_DIGITS : ConstX mg "DIGITS" (.str "0123456789")
  c_FIGURES : ConstX mg "FIGURES" (.int 60)
  c_SIGNS : ConstX mg "SIGNS" (.int 40)
  c_WIDE : ConstX mg "WIDE" (.int 4)
  x_NoText : ClsTX K mg "NoText"
  x_TwigError : ClsTX K mg "TwigError"
  em_NoText : PySem.W.exmOne K (.ref (clA mg "NoText")) (.ref (clA mg "TwigError")) = some true
  xc_NoText : excCB K (clA mg "NoText") = true
  cl_NoText : (PySem.W.clsIn K (clA mg "NoText")).isSome = true
  ki_NoText : PySem.W.kitOne K (.ref (clA mg "NoText")) (.ref (clA mg "NoText")) = some true
local macro_rules | `(tactic| walk_at "nn") => `(tactic| first
  | assumption
  | exact upd_back (by assumption)
  | exact upd_back (upd_back (by assumption))
  | exact upd_back (upd_back (upd_back (by assumption)))
  | exact upd_back (upd_back (upd_back (upd_back (by assumption))))
  | exact upd_back (upd_back (upd_back (upd_back (upd_back (by assumption)))))
  | exact upd_back (upd_back (upd_back (upd_back (upd_back (upd_back (by assumption))))))
  | exact upd_back (upd_back (upd_back (upd_back (upd_back (upd_back (upd_back (by assumption)))))))
  | exact upd_back (upd_back (upd_back (upd_back (upd_back (upd_back (upd_back (upd_back (by assumption))))))))
  | exact upd_back (upd_back (upd_back (upd_back (upd_back (upd_back (upd_back (upd_back (upd_back (by assumption)))))))))
  | exact upd_back (upd_back (upd_back (upd_back (upd_back (upd_back (upd_back (upd_back (upd_back (upd_back (by assumption))))))))))
  | exact Fr.free (by assumption) (by walk_at "nn")
  | exact upd_back (Fr.free (by assumption) (by walk_at "nn"))
  | exact upd_back (upd_back (Fr.free (by assumption) (by walk_at "nn")))
  | exact upd_back (upd_back (upd_back (Fr.free (by assumption) (by walk_at "nn"))))
  | exact upd_back (upd_back (upd_back (upd_back (Fr.free (by assumption) (by walk_at "nn")))))
  | exact upd_back (upd_back (upd_back (upd_back (upd_back (Fr.free (by assumption) (by walk_at "nn"))))))
  | exact upd_back (upd_back (upd_back (upd_back (upd_back (upd_back (Fr.free (by assumption) (by walk_at "nn")))))))
  | fail "no way")
local macro_rules | `(tactic| walk_at "ne1") => `(tactic| first
  | assumption
  | exact Ne.symm (by assumption)
  | fail "no way")
local macro_rules | `(tactic| walk_at "ne") => `(tactic| first
  | walk_at "ne1"
  | (refine ne_fr (H := ?H) (o := ?o) ?h1 ?h2; (case h2 => assumption); (case h1 => walk_at "hp"))
  | (refine ne_fr (H := ?H) (o := .tup ?xs) ?h1 ?h2; (case h2 => assumption); (case h1 => walk_at "hp"))
  | (refine Ne.symm (ne_fr (H := ?H) (o := ?o) ?h1 ?h2); (case h2 => assumption); (case h1 => walk_at "hp"))
  | (refine Ne.symm (ne_fr (H := ?H) (o := .tup ?xs) ?h1 ?h2); (case h2 => assumption); (case h1 => walk_at "hp"))
  | (refine Well.ne (H := ?H) ?h1 ?h2; (case h2 => assumption); (case h1 => walk_at "we"))
  | (refine Ne.symm (Well.ne (H := ?H) ?h1 ?h2); (case h2 => assumption); (case h1 => walk_at "we"))
  | (refine ne_of (by assumption) (by assumption) ?_; (intro z; cases z; done))
  | fail "no way")
local macro_rules | `(tactic| walk_at "we") => `(tactic| first
  | assumption
  | (refine Well.fr (S := Non) ?h1 (Fr.new (Fr.refl _) ?h2) id; (case h2 => assumption); (case h1 => walk_at "we"))
  | (refine Well.fr (S := One _) ?h1 (Fr.mut (u := ?u) (Fr.refl _) ?h2 ?h3 (.inl rfl)) ?h4; (case h1 => walk_at "we"); (case h2 => walk_at "hp"); (case h3 => rfl); (case h4 => walk_at "ns"))
  | (refine Well.fr (S := ?S) (H := ?H) ?h1 ?f ?h2; (case f => assumption); (case h1 => walk_at "we"); (case h2 => walk_at "ns"))
  | fail "no way")
local macro_rules | `(tactic| walk_at "ns") => `(tactic| first
  | exact id
  | assumption
  | ((with_reducible refine not_One ?_); walk_at "ne")
  | fail "no way")
local macro_rules | `(tactic| walk_at "hp") => `(tactic| first
  | assumption
  | exact upd_same
  | ((with_reducible refine Eq.trans (upd_ne ?h1) ?h2); (case h1 => walk_at "ne"); (case h2 => walk_at "hp"))
  | (refine Fr.tup (S := ?S) (H := ?H0) ?f _ _ ?h1; (case f => assumption); (case h1 => walk_at "hp"))
  | (refine Fr.keep (S := ?S) (H := ?H0) ?f _ _ ?h1 ?h2; (case f => assumption); (case h1 => walk_at "hp"); (case h2 => walk_at "ns"))
  | fail "no way")
local macro_rules | `(tactic| walk_at "sq") => `(tactic| first
  | assumption
  | exact SqL.of (by walk_at "hp")
  | exact SqT.of (by walk_at "hp")
  | exact .inl (SqL.of (by walk_at "hp"))
  | exact .inr (SqT.of (by walk_at "hp"))
  | exact .inl (by assumption)
  | exact .inr (by assumption)
  | (refine SqL_upd ?_ (by assumption); walk_at "sq")
  | (refine .inl (SqL_upd ?_ (by assumption)); walk_at "sq")
  | (refine SqL_fr ?_ (by assumption) (by walk_at "ns"); walk_at "sq")
  | (refine .inl (SqL_fr ?_ (by assumption) (by walk_at "ns")); walk_at "sq")
  | fail "no way")
local macro_rules | `(tactic| walk_at "tg") => `(tactic| first
  | assumption
  | exact TgS.non
  | exact TgS.bl _
  | exact TgS.int _
  | exact TgS.str _
  | exact TgAllS.nil
  | (refine TgS.tup (by walk_at "hp") ?_; walk_at "tg")
  | (refine TgS.lst (by walk_at "hp") (by walk_at "ns"))
  | (refine TgS.dct (by walk_at "hp") (by walk_at "ns"))
  | (refine TgAllS.cons ?_ ?_ <;> walk_at "tg")
  | (refine TgS.new ?_ (by assumption); walk_at "tg")
  | (refine TgAllS.new ?_ (by assumption); walk_at "tg")
  | fail "no way")
local macro_rules | `(tactic| walk_at "dt") => `(tactic| first
  | assumption
  | exact Dt.int _
  | exact Dt.str _
  | exact DtAll.nil
  | (refine Dt.tup (by walk_at "hp") ?_; walk_at "dt")
  | (refine DtAll.cons ?_ ?_ <;> walk_at "dt")
  | (refine Dt.upd ?_ (by assumption); walk_at "dt")
  | (refine DtAll.upd ?_ (by assumption); walk_at "dt")
  | (refine Dt.updm (u := ?u) ?_ ?h1 ?h2; (case h1 => walk_at "hp"); (case h2 => rfl); walk_at "dt")
  | (refine DtAll.updm (u := ?u) ?_ ?h1 ?h2; (case h1 => walk_at "hp"); (case h2 => rfl); walk_at "dt")
  | (refine Dt.mono ?_ (by assumption); walk_at "dt")
  | (refine DtAll.mono ?_ (by assumption); walk_at "dt")
  | fail "no way")
local macro_rules | `(tactic| walk_at "mu") => `(tactic| first
  | exact Or.inl rfl
  | exact Or.inl trivial
  | exact Or.inr (by walk_at "nn")
  | exact Or.inl (by assumption)
  | fail "no way")
local macro_rules | `(tactic| walk_at "fr") => `(tactic| first
  | assumption
  | exact Fr.refl _
  | ((with_reducible refine Fr.new ?_ ?h1); (case h1 => assumption); walk_at "fr")
  | ((with_reducible refine Fr.mut (u := ?u) ?_ ?h1 ?h2 ?h3); (case h1 => walk_at "hp"); (case h2 => rfl); (case h3 => walk_at "mu"); walk_at "fr")
  | ((with_reducible refine Fr.sub' (H1 := ?H1) (T := ?T) ?_ ?h1 ?h2); (case h1 => assumption); (case h2 => walk_at "su"); walk_at "fr")
  | fail "no way")
local macro_rules | `(tactic| walk_at "su") => `(tactic| first
  | exact fun _ h => h.elim
  | exact fun _ h => .inl h
  | (intro b h; subst h; walk_at "mu")
  | fail "no way")
local macro_rules | `(tactic| walk_at "ix") => `(tactic| first
  | rfl
  | assumption
  | exact ix2i _ _ _
  | exact atI0 _ _
  | fail "no way")
local macro_rules | `(tactic| walk_at "sz") => `(tactic| first
  | (show _ ≤ 1000; decide)
  | assumption
  | (simp only [List.length_cons, List.length_nil, List.length_append, List.length_map, List.length_set, List.length_replicate]; omega)
  | omega
  | fail "no way")
local macro_rules | `(tactic| walk_at "zs") => `(tactic| first
  | assumption
  | (show _ ≤ 16777216; omega)
  | decide
  | fail "no way")
local macro_rules | `(tactic| walk_at "za") => `(tactic| first
  | assumption
  | (show _ ≤ 16777216; omega)
  | (refine Nat.le_trans (Nat.add_le_add_left (Nat.le_of_eq (str_one _)) _) ?_; show _ ≤ 16777216; omega)
  | (refine Nat.le_trans (Nat.add_le_add_right (Nat.le_of_eq (str_one _)) _) ?_; show _ ≤ 16777216; omega)
  | fail "no way")
local macro_rules | `(tactic| walk_at "ty") => `(tactic| first
  | exact .base (.int _)
  | exact .base (.bl _)
  | exact .base (.str _)
  | exact .base .non
  | exact .base (.tup (by walk_at "hp"))
  | exact .base (.lst (by walk_at "hp"))
  | fail "no way")
local macro_rules | `(tactic| walk_at "kit") => `(tactic| first
  | exact kit_int_int | exact kit_int_bool | exact kit_int_str | exact kit_int_tuple | exact kit_int_list
  | exact kit_bool_int | exact kit_bool_bool | exact kit_bool_str | exact kit_bool_tuple | exact kit_bool_list
  | exact kit_str_int | exact kit_str_bool | exact kit_str_str | exact kit_str_tuple | exact kit_str_list
  | exact kit_tuple_int | exact kit_tuple_bool | exact kit_tuple_str | exact kit_tuple_tuple | exact kit_tuple_list
  | exact kit_list_int | exact kit_list_bool | exact kit_list_str | exact kit_list_tuple | exact kit_list_list
  | exact kit_NoneType_int | exact kit_NoneType_bool | exact kit_NoneType_str | exact kit_NoneType_tuple | exact kit_NoneType_list
  | exact kit_dict_int | exact kit_dict_bool | exact kit_dict_str | exact kit_dict_tuple | exact kit_dict_list | exact kit_dict_dict
  | exact kit_int_dict | exact kit_bool_dict | exact kit_str_dict | exact kit_tuple_dict | exact kit_list_dict | exact kit_NoneType_dict
  | fail "no way")
local macro_rules | `(tactic| walk_at "mul") => `(tactic| first
  | exact .inr ⟨by decide, by decide⟩
  | exact .inl ⟨by decide, by decide⟩
  | (refine .inl ⟨?_, ?_⟩ <;> omega)
  | (refine .inr ⟨?_, ?_⟩ <;> omega)
  | (refine .inr ⟨?_, ?_⟩ <;> split <;> decide)
  | fail "no way")
local macro_rules | `(tactic| walk_at "rd1") => `(tactic| first
  | with_reducible refine x_seq ?_
  | with_reducible refine x_asg ?_
  | ((with_reducible refine x_var (v := ?v) ?h1 ?_); (case h1 => rfl))
  | with_reducible refine x_c ?_
  | with_reducible refine x_gname ?_
  | with_reducible refine x_op ?_
  | with_reducible refine x_if ?_
  | with_reducible refine x_test ?_
  | with_reducible refine x_bl ?_
  | with_reducible refine x_ret ?_
  | with_reducible refine x_next ?_
  | with_reducible refine x_cons ?_
  | with_reducible refine x_nil ?_
  | with_reducible refine x_cal ?_
  | with_reducible refine x_cb ?_
  | with_reducible refine x_sp1 ?_
  | with_reducible refine x_sp2 ?_
  | with_reducible refine x_sp3 ?_
  | with_reducible refine x_sp4 ?_
  | ((with_reducible refine x_ixL (xs := ?xs) (v := ?v) ?h1 ?h2 ?_); (case h1 => walk_at "sq"); (case h2 => walk_at "ix"))
  | ((with_reducible refine x_ixS (c := ?c) ?h1 ?h2 ?_); (case h1 => walk_at "zs"); (case h2 => walk_at "ix"))
  | ((with_reducible refine x_addS ?h1 ?_); (case h1 => walk_at "za"))
  | ((with_reducible refine x_ixT (xs := ?xs) (v := ?v) ?h1 ?h2 ?_); (case h1 => walk_at "sq"); (case h2 => walk_at "ix"))
  | with_reducible refine x_eqI ?_
  | with_reducible refine x_neI ?_
  | with_reducible refine x_add ?_
  | with_reducible refine x_sub ?_
  | with_reducible refine x_lt ?_
  | with_reducible refine x_le ?_
  | with_reducible refine x_gt ?_
  | with_reducible refine x_ge ?_
  | ((with_reducible refine x_mul ?h1 ?_); (case h1 => walk_at "mul"))
  | ((with_reducible refine x_pow ?h1 ?_); (case h1 => exact ⟨by decide, by decide, by decide⟩))
  | ((with_reducible refine x_mod ?h1 ?_); (case h1 => first | decide | assumption | omega | fail "no way"))
  | ((with_reducible refine x_div ?h1 ?_); (case h1 => exact ⟨by omega, by omega⟩))
  | ((with_reducible refine x_divW ?h1 ?_); (case h1 => first | assumption | exact ⟨by decide, by decide⟩ | exact ⟨by assumption, by assumption⟩ | fail "no way"))
  | with_reducible refine x_neg ?_
  | with_reducible refine x_un ?_
  | with_reducible refine x_isN ?_
  | with_reducible refine x_notN ?_
  | with_reducible refine x_not ?_
  | with_reducible refine x_and ?_
  | with_reducible refine x_or ?_
  | with_reducible refine x_andV ?_
  | with_reducible refine x_orV ?_
  | with_reducible refine x_notV ?_
  | with_reducible refine x_tB ?_
  | with_reducible refine x_iteF ?_
  | with_reducible refine x_iteT ?_
  | with_reducible refine x_ife ?_
  | with_reducible refine x_drop ?_
  | with_reducible refine x_retN ?_
  | with_reducible refine x_gsub ?_
  | ((with_reducible refine x_setL (xs := ?xs) (n := ?n) ?h1 ?h2 ?_); (case h1 => walk_at "hp"); (case h2 => walk_at "ix"))
  | ((with_reducible refine x_gtup (xs := ?xs) ?h1 ?h2 ?_); (case h1 => walk_at "sq"); (case h2 => rfl))
  | with_reducible refine x_gcons ?_
  | with_reducible refine x_gnil ?_
  | with_reducible refine x_tup ?_
  | with_reducible refine x_lst ?_
  | ((with_reducible refine x_sz ?h1 ?_); (case h1 => walk_at "sz"))
  | ((with_reducible refine x_len (xs := ?xs) ?h1 ?_); (case h1 => walk_at "sq"))
  | ((with_reducible refine x_cat (xs := ?xs) (zs := ?zs) ?h1 ?h2 ?h3 ?_); (case h1 => walk_at "hp"); (case h2 => walk_at "hp"); (case h3 => walk_at "sz"))
  | with_reducible refine x_abs ?_
  | with_reducible refine x_max2 ?_
  | with_reducible refine x_min2 ?_
  | with_reducible refine x_intI ?_
  | with_reducible refine x_intB ?_
  | ((with_reducible refine x_isiI (r := ?r) ?h2 ?_); (case h2 => walk_at "kit"))
  | ((with_reducible refine x_isiB (r := ?r) ?h2 ?_); (case h2 => walk_at "kit"))
  | ((with_reducible refine x_isiS (r := ?r) ?h2 ?_); (case h2 => walk_at "kit"))
  | ((with_reducible refine x_isiN (r := ?r) ?h2 ?_); (case h2 => walk_at "kit"))
  | ((with_reducible refine x_isiT (xs := ?xs) (r := ?r) ?h1 ?h2 ?_); (case h1 => walk_at "hp"); (case h2 => walk_at "kit"))
  | ((with_reducible refine x_isiL (xs := ?xs) (r := ?r) ?h1 ?h2 ?_); (case h1 => walk_at "hp"); (case h2 => walk_at "kit"))
  | ((with_reducible refine x_isiD (xs := ?xs) (r := ?r) ?h1 ?h2 ?_); (case h1 => walk_at "hp"); (case h2 => walk_at "kit"))
  | ((with_reducible refine x_listOf (xs := ?xs) ?h1 ?_); (case h1 => walk_at "sq"))
  | ((with_reducible refine x_tupL (xs := ?xs) ?h1 ?_); (case h1 => walk_at "sq"))
  | with_reducible refine x_eqS ?_
  | with_reducible refine x_neS ?_
  | with_reducible refine x_eqB ?_
  | with_reducible refine x_neB ?_
  | with_reducible refine x_ltS ?_
  | with_reducible refine x_leS ?_
  | with_reducible refine x_rng1 ?_
  | with_reducible refine x_rng2 ?_
  | ((with_reducible refine x_rng1' ?h1 ?_); (case h1 => first | exact ⟨by decide, by decide⟩ | assumption | (constructor <;> omega) | fail "no way"))
  | with_reducible refine x_for ?_
  | with_reducible refine x_lc ?_
  | with_reducible refine x_lct ?_
  | ((with_reducible refine x_wip ?h1 ?_); (case h1 => rfl))
  | with_reducible refine x_tyes ?_
  | ((with_reducible refine x_acc (acc := ?acc) ?h1 ?h2 ?_); (case h1 => walk_at "hp"); (case h2 => walk_at "sz"))
  | with_reducible refine x_iList ?_
  | with_reducible refine x_iTup ?_
  | with_reducible refine x_sl ?_
  | with_reducible refine x_noP ?_
  | with_reducible refine x_part ?_
  | with_reducible refine x_int ?_
  | ((with_reducible refine x_slL (xs := ?xs) ?h1 ?_); (case h1 => walk_at "sq"))
  | with_reducible refine x_bm ?_
  | with_reducible refine x_bm0 ?_
  | with_reducible refine x_chain ?_
  | with_reducible refine x_revL ?_
  | with_reducible refine x_repl ?_
  | ((with_reducible refine x_aug (x := ?v) ?h1 ?_); (case h1 => rfl))
  | with_reducible refine x_ipA ?_
  | with_reducible refine x_ipS ?_
  | with_reducible refine x_inZ ?_
  | with_reducible refine x_dnew ?_
  | ((with_reducible refine x_slZ ?h1 ?_); (case h1 => walk_at "zs"))
  | with_reducible refine x_gtS ?_
  | with_reducible refine x_geS ?_
  | with_reducible refine x_tryAs ?_
  | with_reducible refine x_calS ?_
  | with_reducible refine x_raise0 ?_
  | with_reducible refine x_mkV ?_
  | with_reducible refine x_raiseI ?_
  | with_reducible refine x_iStr ?_
  | with_reducible refine x_isStr ?_
  | with_reducible refine x_isB ?_
  | with_reducible refine x_notB ?_
  | with_reducible refine x_ckw ?_
  | ((with_reducible refine x_insert (xs := ?xs) ?h1 ?h2 ?h3 ?_); (case h1 => walk_at "hp"); (case h2 => walk_at "sz"); (case h3 => first | assumption | (constructor <;> omega) | fail "no way"))
  | ((with_reducible refine x_tyL (xs := ?xs) ?h1 ?_); (case h1 => walk_at "sq"))
  | with_reducible refine x_tyS ?_
  | ((with_reducible refine x_tyD (kvs := ?xs) ?h1 ?_); (case h1 => walk_at "hp"))
  | ((with_reducible refine x_append (xs := ?xs) ?h1 ?h2 ?_); (case h1 => walk_at "hp"); (case h2 => walk_at "sz"))
  | ((with_reducible refine x_lenAs (xs := ?xs) ?h1 ?_); (case h1 => walk_at "sq"))
  | ((with_reducible refine x_lenAz ?h1 ?_); (case h1 => walk_at "zs"))
  | ((with_reducible refine x_lenZ ?h1 ?_); (case h1 => walk_at "zs"))
  | ((with_reducible refine x_addTz ?h1 ?_); (case h1 => walk_at "za"))
  | ((with_reducible refine x_slXz ?h1 ?_); (case h1 => walk_at "zs"))
  | ((with_reducible refine x_ixAt (xs := ?xs) (v := ?v) ?h1 ?h2 ?_); (case h1 => walk_at "sq"); (case h2 => walk_at "ix"))
  | ((with_reducible refine x_ixAl (xs := ?xs) (v := ?v) ?h1 ?h2 ?_); (case h1 => walk_at "sq"); (case h2 => walk_at "ix"))
  | ((with_reducible refine x_ixAz (c := ?c) ?h1 ?h2 ?_); (case h1 => walk_at "zs"); (case h2 => walk_at "ix"))
  | with_reducible refine x_brk ?_
  | with_reducible refine x_cont ?_
  | ((with_reducible refine x_yes ?h1 ?_); (case h1 => decide))
  | ((with_reducible refine x_no ?h1 ?_); (case h1 => decide))
  | fail "no way")
local macro_rules | `(tactic| walk_at "rd") => `(tactic| first | (walk_at "rd1"; walk_at "rd") | skip)
-- the def top 18
theorem sc_law_pull : FnScope ["_law_well_here", "_law_many", "_law_first", "_law_second", "_law_found"] ["_law_well_here", "_law_many"] (defScope s_law_pull) := ⟨rfl, rfl, rfl, by decide +kernel, rfl, by decide +kernel, by decide +kernel⟩
/-- a number below m; only the well changes -/
def B_law_pull : BK2 := fun wl mm H Q _ => ∃ (a : Addr) (m : Int), wl = .ref a ∧ mm = .int m ∧ 0 < m ∧ m.natAbs.log2 < 9000 ∧ Well H a ∧
  ∀ r H', Fr (One a) H H' → Well H' a → 0 ≤ r → r < m → Q (.int r) H'
section
variable {P : Program} {w : World} {K : PySem.W.Frag} {mg : Str → Option Value} {base : Heap}
theorem ok_law_pull (T : TX K mg) : CalX P w K mg base 1 "_law_pull" ["_law_well_here", "_law_many"] (Sp2 (B_law_pull)) := by
  obtain ⟨f, fd, F, hm, bd⟩ := T.d_law_pull.ex
  refine ⟨f, fd, F.okX sc_law_pull len2 (fun cdv A outer s H vs Q E hr h => ?_), hm, F.kp, bd⟩
  obtain ⟨wl, mm, rfl, h⟩ := h
  refine ⟨_, (pss_cons (ps_if (pt_cmpR op_eq (pe_ix ix_list (pv 0) pe_int (fun _ _ => rfl)) pe_int (nomark _)) (pss_one (ps_ret pe_int)) pss_nil) (pss_cons (ps_asg (pe_op op_sub (pe_ix ix_list (pv 0) pe_int (fun _ _ => rfl)) pe_int) (pg_sub (pv 0) pe_int set_list)) (pss_cons (ps_if (pt_cmpR op_gt (pe_ix ix_list (pv 0) pe_int (fun _ _ => rfl)) pe_int (nomark _)) (pss_cons (ps_set (i := 4) sc_law_pull.nd rfl (Or.inl rfl) (pe_op op_mod (pe_ix ix_list (pv 0) pe_int (fun _ _ => rfl)) (pv 1))) (pss_cons (ps_asg (pe_op op_fdivW (pe_ix ix_list (pv 0) pe_int (fun _ _ => rfl)) (pv 1)) (pg_sub (pv 0) pe_int set_list)) (pss_one (ps_ret (pv 4))))) pss_nil) (pss_cons (ps_asg (pe_op op_add (pe_ix ix_list (pv 0) pe_int (fun _ _ => rfl)) pe_int) (pg_sub (pv 0) pe_int set_list)) (pss_cons (ps_set (i := 2) sc_law_pull.nd rfl (Or.inl rfl) (pe_op op_mod (pe_op op_mul (pe_op op_add (pe_ix ix_list (pv 0) pe_int (fun _ _ => rfl)) pe_int) (pe_op op_add pe_int (pe_op op_mul pe_int (pe_ix ix_list (pv 0) pe_int (fun _ _ => rfl))))) pe_int)) (pss_cons (ps_set (i := 3) sc_law_pull.nd rfl (Or.inl rfl) (pe_op op_mod (pe_op op_mul (pe_op op_add (pe_op op_fdivW (pv 2) pe_int) pe_int) (pe_op op_add (pe_op op_mod (pv 2) pe_int) pe_int)) pe_int)) (pss_one (ps_ret (pe_op op_mod (pe_op op_fdivW (pv 3) pe_int) (pv 1)))))))))), ?_⟩
  show (_ : TS) _ [some wl, some mm, none, none, none] H
  first | dsimp only [L2.cxOf] | skip
  obtain ⟨a, m, rfl, rfl, hm0, hml, ⟨c, n, g, l, hL, hc0, hc1⟩, q⟩ := h
  walk_at "rd"
  refine x_dec (fun _ => ?_) (fun _ => ?_)
  · walk_at "rd"
    exact q _ _ (Fr.refl _) ⟨c, n, g, l, hL, hc0, hc1⟩ (by omega) hm0
  · walk_at "rd"
    refine x_dec (fun _ => ?_) (fun _ => ?_)
    · walk_at "rd"
      exact q _ _ (by walk_at "fr") ⟨_, _, _, _, upd_same, hc0, hc1⟩ (Int.emod_nonneg _ (by omega)) (Int.emod_lt_of_pos _ hm0)
    · walk_at "rd"
      exact q _ _ (by walk_at "fr") ⟨_, _, _, _, upd_same, hc0, hc1⟩ (Int.emod_nonneg _ (by omega)) (Int.emod_lt_of_pos _ hm0)
end

-- the def top 29
theorem sc_law_free : FnScope ["_law_well_here", "_law_signs", "_law_j"] ["_law_well_here"] (defScope s_law_free) := ⟨rfl, rfl, rfl, by decide +kernel, rfl, by decide +kernel, by decide +kernel⟩
def B_law_free : BK1 := fun wl H Q _ => ∃ (a : Addr), wl = .ref a ∧ Well H a ∧
  ∀ z H', Fr (One a) H H' → Well H' a → okT z → z.length ≤ 30 → Q (.str z) H'
theorem len_join0 : ∀ ys : List Str, (∀ y ∈ ys, y.length = 1 ∧ okT y) → (Txt.join (Str.ofString "") ys).length ≤ ys.length ∧ okT (Txt.join (Str.ofString "") ys) := by
  intro ys h
  rw [show Txt.join (Str.ofString "") ys = Str.join (Str.ofString "") ys from StrLaws.glued_eq_join _ _]
  have e0 : (Str.ofString "").length = 0 := by decide +kernel
  have c0 : (Str.ofString "").cps.toList = [] := by decide +kernel
  induction ys with
  | nil => exact ⟨Nat.zero_le _, fun c hc => by cases hc⟩
  | cons y ys ih =>
    have hy := h y (List.mem_cons_self ..)
    have hi := ih fun x hx => h x (List.mem_cons_of_mem _ hx)
    cases ys with
    | nil =>
      have e : Str.join (Str.ofString "") [y] = y := rfl
      rw [e]
      exact ⟨Nat.le_of_eq hy.1, hy.2⟩
    | cons x ys =>
      rw [PyProof.Rows.join_cons_cons]
      refine ⟨?_, okT_app (okT_app hy.2 (fun c hc => by rw [c0] at hc; cases hc)) hi.2⟩
      rw [PySem.Str.length_append, PySem.Str.length_append, e0, hy.1, List.length_cons]
      have := hi.1
      omega
theorem sum_one : ∀ ys : List Str, (∀ y ∈ ys, y.length = 1 ∧ okT y) → (ys.map (·.length)).sum = ys.length
  | [], _ => rfl
  | y :: ys, h => by
    rw [List.map_cons, List.sum_cons, sum_one ys fun x hx => h x (List.mem_cons_of_mem _ hx), (h y (List.mem_cons_self ..)).1, List.length_cons]; omega
section
variable {P : Program} {w : World} {K : PySem.W.Frag} {mg : Str → Option Value} {base : Heap}
theorem ok_law_free (T : TX K mg) : CalX P w K mg base 2 "_law_free" ["_law_well_here"] (Sp1 (B_law_free)) := by
  have C_law_pull := ok_law_pull (P := P) (w := w) (base := base) T
  obtain ⟨f, fd, F, hm, bd⟩ := T.d_law_free.ex
  refine ⟨f, fd, F.okX sc_law_free len1 (fun cdv A outer s H vs Q E hr h => ?_), hm, F.kp, bd⟩
  obtain ⟨wl, rfl, h⟩ := h
  refine ⟨_, (pss_cons (ps_set (i := 1) sc_law_free.nd rfl (Or.inr rfl) pe_str) (pss_one (ps_ret (pe_bm PySem.F.plainAttrs_str PySem.F.slot_str_join PySem.F.type_str_join m_join pe_str (pa_cons (pe_lc (own := [("_law_j", 2)]) (g := gName 2) (tt := tYes) rfl sc_law_free.nd (pi_range1 rfl T.b_range (pa_cons (pcall C_law_pull hr (by first | decide | omega) rfl Passes.none (pa_cons (pv 0) (pa_cons pe_int pa_nil))) pa_nil)) (blkOk_by (N := ["_law_well_here", "_law_signs", "_law_j"]) (sc := defScope s_law_free) (own := [("_law_j", 2)]) (by decide +kernel)) (fun _ _ _ _ _ => pg_name (i := 2) sc_law_free.nd rfl (by first | exact Or.inl rfl | exact Or.inr rfl)) (fun _ _ _ _ _ => pts_nil) (fun _ _ _ _ _ => (pe_ix ix_str (pv 1) (pcall C_law_pull hr (by first | decide | omega) rfl Passes.none (pa_cons (pv 0) (pa_cons pe_int pa_nil))) (fun _ _ => rfl)))) pa_nil))))), ?_⟩
  show (_ : TS) _ [some wl, none, none] H
  first | dsimp only [L2.cxOf] | skip
  obtain ⟨a, rfl, W, q⟩ := h
  obtain ⟨S, eS⟩ : ∃ S, S = Str.ofString " \"\\()-0123456789a~!Zb\n" := ⟨_, rfl⟩
  have hsl : S.length = 22 := by rw [eS]; decide +kernel
  have hsok : okT S := by rw [eS]; exact okT_all (by decide +kernel)
  have hsz : S.length ≤ sizeLine := by rw [hsl]; decide
  have hix : ∀ r : Int, 0 ≤ r → r < 22 → ∃ c, atI S.cps.toList r = some c ∧ c ≤ 126 := fun r h0 h1 => by
    obtain ⟨c, e1, e2⟩ := atI_ex (xs := S.cps.toList) h0 (by rw [← str_len, hsl]; exact h1)
    exact ⟨c, e1, hsok c (List.mem_of_getElem? e2)⟩
  walk_at "rd"
  rw [← eS]
  refine ⟨a, _, rfl, rfl, by decide, by decide +kernel, W, fun r H1 f1 w1 r0 r1 => ?_⟩
  walk_at "rd"
  intro D nD
  have nDa : D ≠ a := Well.ne w1 nD
  have nDH : Fresh H D := f1.free nD
  refine x_lcR (n := r.toNat) (fun i H' => Fr (One a) H H' ∧ Well H' a ∧ ∃ ys : List Str, H' D = some (.lst (ys.map V.str)) ∧ ys.length = i ∧ ∀ y ∈ ys, y.length = 1 ∧ okT y) ⟨Fr.new f1 nD, w1.new nD, [], upd_same, rfl, List.forall_mem_nil _⟩ ?_ ?_
  · rintro i H2 hi ⟨f2, w2, ys, hD, hl, hy⟩
    walk_at "rd"
    refine ⟨a, _, rfl, rfl, by decide, by decide +kernel, w2, fun r2 H3 f3 w3 r20 r21 => ?_⟩
    obtain ⟨c, hc1, hc2⟩ := hix r2 r20 r21
    have hD3 := f3.keep _ _ hD (not_One nDa)
    have hl3 : (ys.map V.str).length ≤ 100000 := by rw [List.length_map]; omega
    walk_at "rd"
    refine ⟨Fr.mut (f2.trans f3) hD3 rfl (.inr nDH), w3.fr (Fr.mut (S := One D) (Fr.refl _) hD3 rfl (.inl rfl)) (not_One (Ne.symm nDa)), ys ++ [⟨#[c]⟩], ?_, by rw [List.length_append, hl]; rfl, fun y hy2 => ?_⟩
    · rw [List.map_append]; exact upd_same
    · rcases List.mem_append.mp hy2 with hy2 | hy2
      · exact hy y hy2
      · rw [List.mem_singleton.mp hy2]; exact ⟨rfl, okT_one hc2⟩
  · rintro H2 ⟨f2, w2, ys, hD, hl, hy⟩
    have hj := len_join0 ys hy
    walk_at "rd"
    refine x_join (SqL.of hD) ?_ ?_
    · rw [sum_one ys hy, show (Str.ofString "").length = 0 by decide +kernel]; omega
    · exact q _ _ f2 w2 hj.2 (by omega)
end

-- the def top 28
theorem sc_law_spoilt : FnScope ["_law_well_here", "_law_text_here", "_law_way", "_law_at", "_law_sign"] ["_law_well_here", "_law_text_here"] (defScope s_law_spoilt) := ⟨rfl, rfl, rfl, by decide +kernel, rfl, by decide +kernel, by decide +kernel⟩
def B_law_spoilt : BK2 := fun wl t H Q _ => ∃ (a : Addr) (z : Str), wl = .ref a ∧ t = .str z ∧ Well H a ∧ okT z ∧ z.length ≤ 500000 ∧
  ∀ w H', Fr (One a) H H' → Well H' a → okT w → w.length ≤ z.length + 10 → Q (.str w) H'
section
variable {P : Program} {w : World} {K : PySem.W.Frag} {mg : Str → Option Value} {base : Heap}
theorem ok_law_spoilt (T : TX K mg) : CalX P w K mg base 2 "_law_spoilt" ["_law_well_here", "_law_text_here"] (Sp2 (B_law_spoilt)) := by
  have C_law_pull := ok_law_pull (P := P) (w := w) (base := base) T
  obtain ⟨f, fd, F, hm, bd⟩ := T.d_law_spoilt.ex
  refine ⟨f, fd, F.okX sc_law_spoilt len2 (fun cdv A outer s H vs Q E hr h => ?_), hm, F.kp, bd⟩
  obtain ⟨wl, t, rfl, h⟩ := h
  refine ⟨_, (pss_cons (ps_set (i := 2) sc_law_spoilt.nd rfl (Or.inl rfl) (pcall C_law_pull hr (by first | decide | omega) rfl Passes.none (pa_cons (pv 0) (pa_cons pe_int pa_nil)))) (pss_cons (ps_set (i := 3) sc_law_spoilt.nd rfl (Or.inl rfl) (pcall C_law_pull hr (by first | decide | omega) rfl Passes.none (pa_cons (pv 0) (pa_cons (pe_op op_add (pe_callB c_lenZ (by rfl) T.b_len (by decide +kernel) (pa_cons (pv 1) pa_nil)) pe_int) pa_nil)))) (pss_cons (ps_set (i := 4) sc_law_spoilt.nd rfl (Or.inl rfl) (pe_ix ix_str pe_str (pcall C_law_pull hr (by first | decide | omega) rfl Passes.none (pa_cons (pv 0) (pa_cons pe_int pa_nil))) (fun _ _ => rfl))) (pss_cons (ps_if (pt_cmpR op_eq (pv 2) pe_int (nomark _)) (pss_one (ps_ret (pe_slice sl_str (pv 1) po_none (po_some (pv 3))))) pss_nil) (pss_cons (ps_if (pt_cmpR op_eq (pv 2) pe_int (nomark _)) (pss_one (ps_ret (pe_op o_addS (pe_slice sl_str (pv 1) po_none (po_some (pv 3))) (pe_slice sl_str (pv 1) (po_some (pe_op op_add (pv 3) pe_int)) po_none)))) pss_nil) (pss_cons (ps_if (pt_cmpR op_eq (pv 2) pe_int (nomark _)) (pss_one (ps_ret (pe_op o_addS (pe_op o_addS (pe_slice sl_str (pv 1) po_none (po_some (pv 3))) (pe_slice sl_str (pv 1) (po_some (pv 3)) (po_some (pe_op op_add (pv 3) (pcall C_law_pull hr (by first | decide | omega) rfl Passes.none (pa_cons (pv 0) (pa_cons pe_int pa_nil))))))) (pe_slice sl_str (pv 1) (po_some (pv 3)) po_none)))) pss_nil) (pss_cons (ps_if (pt_cmpR op_eq (pv 2) pe_int (nomark _)) (pss_one (ps_ret (pe_op o_addS (pe_op o_addS (pe_slice sl_str (pv 1) po_none (po_some (pv 3))) (pv 4)) (pe_slice sl_str (pv 1) (po_some (pe_op op_add (pv 3) pe_int)) po_none)))) pss_nil) (pss_cons (ps_if (pt_cmpR op_eq (pv 2) pe_int (nomark _)) (pss_one (ps_ret (pe_op o_addS (pv 1) (pv 4)))) pss_nil) (pss_one (ps_ret (pe_op o_addS (pe_op o_addS (pe_slice sl_str (pv 1) po_none (po_some (pv 3))) (pv 4)) (pe_slice sl_str (pv 1) (po_some (pv 3)) po_none)))))))))))), ?_⟩
  show (_ : TS) _ [some wl, some t, none, none, none] H
  first | dsimp only [L2.cxOf] | skip
  obtain ⟨a, z, rfl, rfl, W, hz, hl, q⟩ := h
  obtain ⟨S, eS⟩ : ∃ S, S = Str.ofString " \"\\()-019a~\n" := ⟨_, rfl⟩
  have hsl : S.length = 12 := by rw [eS]; decide +kernel
  have hsok : okT S := by rw [eS]; exact okT_all (by decide +kernel)
  have hsz : S.length ≤ sizeLine := by rw [hsl]; decide
  have hix : ∀ r : Int, 0 ≤ r → r < 12 → ∃ c, atI S.cps.toList r = some c ∧ c ≤ 126 := fun r h0 h1 => by
    obtain ⟨c, e1, e2⟩ := atI_ex (xs := S.cps.toList) h0 (by rw [← str_len, hsl]; exact h1)
    exact ⟨c, e1, hsok c (List.mem_of_getElem? e2)⟩
  have hzl : z.length ≤ sizeLine := Nat.le_trans hl (by decide)
  walk_at "rd"
  refine ⟨a, _, rfl, rfl, by decide, by decide +kernel, W, fun way H1 f1 w1 y0 y1 => ?_⟩
  walk_at "rd"
  refine ⟨a, _, rfl, rfl, by omega, (PullOk.small (by omega) (by omega)).2, w1, fun at' H2 f2 w2 a0 a1 => ?_⟩
  walk_at "rd"
  rw [← eS]
  refine ⟨a, _, rfl, rfl, by decide, by decide +kernel, w2, fun r H3 f3 w3 r0 r1 => ?_⟩
  obtain ⟨c, hc1, hc2⟩ := hix r r0 r1
  have f03 := (f1.trans f2).trans f3
  have hone := okT_one hc2
  have lone : (⟨#[c]⟩ : Str).length = 1 := rfl
  have head_len : (cutS z none (some at')).length + (cutS z (some at') none).length = z.length := by
    rw [str_len, str_len, str_len, cut_list, cut_list]
    have e0 : HT.sIx z.length 0 none = 0 := rfl
    have e1 : HT.sIx z.length z.length none = z.length := rfl
    have e2 : HT.sIx z.length z.length (some at') = min at'.toNat z.length := by
      show (if at' < 0 then _ else min at'.toNat z.length) = _
      rw [if_neg (by omega)]
    have e3 : HT.sIx z.length 0 (some at') = min at'.toNat z.length := by
      show (if at' < 0 then _ else min at'.toNat z.length) = _
      rw [if_neg (by omega)]
    rw [e0, e1, e2, e3, List.length_take, List.length_take, List.length_drop, List.length_drop, str_len]
    omega
  have tail_len : (cutS z (some (at' + 1)) none).length ≤ (cutS z (some at') none).length := by
    rw [str_len, str_len, cut_list, cut_list]
    have e1 : HT.sIx z.length z.length none = z.length := rfl
    have e2 : HT.sIx z.length 0 (some (at' + 1)) = min (at' + 1).toNat z.length := by
      show (if at' + 1 < 0 then _ else min (at' + 1).toNat z.length) = _
      rw [if_neg (by omega)]
    have e3 : HT.sIx z.length 0 (some at') = min at'.toNat z.length := by
      show (if at' < 0 then _ else min at'.toNat z.length) = _
      rw [if_neg (by omega)]
    rw [e1, e2, e3, List.length_take, List.length_take, List.length_drop, List.length_drop, str_len]
    omega
  have lA := cut_len z none (some at')
  have okA := okT_cut hz none (some at')
  have okB := okT_cut hz (some at') none
  have okC := okT_cut hz (some (at' + 1)) none
  have l1 := PySem.Str.length_append (cutS z none (some at')) ⟨#[c]⟩
  have l2 := PySem.Str.length_append (cutS z none (some at')) (cutS z (some (at' + 1)) none)
  have l3 := PySem.Str.length_append z ⟨#[c]⟩
  have l4 := PySem.Str.length_append (cutS z none (some at') ++ ⟨#[c]⟩) (cutS z (some (at' + 1)) none)
  have l5 := PySem.Str.length_append (cutS z none (some at') ++ ⟨#[c]⟩) (cutS z (some at') none)
  walk_at "rd"
  refine x_dec (fun y => ?_) (fun y => ?_)
  · walk_at "rd"
    exact q _ _ f03 w3 okA (by omega)
  walk_at "rd"
  refine x_dec (fun y => ?_) (fun y => ?_)
  · walk_at "rd"
    exact q _ _ f03 w3 (okT_app okA okC) (by omega)
  walk_at "rd"
  refine x_dec (fun y => ?_) (fun y => ?_)
  · walk_at "rd"
    refine ⟨a, _, rfl, rfl, by decide, by decide +kernel, w3, fun r9 H4 f4 w4 r90 r91 => ?_⟩
    have lN := cut_lenN z a0 r90
    have okN := okT_cut hz (some at') (some (at' + r9))
    have l6 := PySem.Str.length_append (cutS z none (some at')) (cutS z (some at') (some (at' + r9)))
    have l7 := PySem.Str.length_append (cutS z none (some at') ++ cutS z (some at') (some (at' + r9))) (cutS z (some at') none)
    walk_at "rd"
    exact q _ _ (f03.trans f4) w4 (okT_app (okT_app okA okN) okB) (by omega)
  walk_at "rd"
  refine x_dec (fun y => ?_) (fun y => ?_)
  · walk_at "rd"
    exact q _ _ f03 w3 (okT_app (okT_app okA hone) okC) (by omega)
  walk_at "rd"
  refine x_dec (fun y => ?_) (fun y => ?_)
  · walk_at "rd"
    exact q _ _ f03 w3 (okT_app hz hone) (by omega)
  walk_at "rd"
  exact q _ _ f03 w3 (okT_app (okT_app okA hone) okB) (by omega)
end

-- the def top 27
theorem sc_law_odd : FnScope ["_law_well_here", "_law_many", "_law_figures", "_law_odd_here"] ["_law_well_here"] (defScope s_law_odd) := ⟨rfl, rfl, rfl, by decide +kernel, rfl, by decide +kernel, by decide +kernel⟩
def B_law_odd : BK1 := fun wl H Q _ => ∃ (a : Addr), wl = .ref a ∧ Well H a ∧
  ∀ z H', Fr (One a) H H' → Well H' a → okT z → z.length ≤ 200 → Q (.str z) H'
theorem pickS {zs : List Str} {r : Int} (h0 : 0 ≤ r) (h1 : r < zs.length) : ∃ z, atI (zs.map V.str) r = some (.str z) ∧ z ∈ zs := by
  obtain ⟨v, e1, e2⟩ := atI_ex (xs := zs.map V.str) h0 (by rw [List.length_map]; exact h1)
  obtain ⟨z, hz, rfl⟩ := List.mem_map.mp (List.mem_of_getElem? e2)
  exact ⟨z, e1, hz⟩
theorem okc (s : Str) (n : Nat) (h : (decide (s.length ≤ n) && s.cps.toList.all (fun c => decide (c ≤ 126))) = true) : okT s ∧ s.length ≤ n := by
  rw [Bool.and_eq_true, decide_eq_true_eq] at h
  exact ⟨okT_all h.2, h.1⟩
section
variable {P : Program} {w : World} {K : PySem.W.Frag} {mg : Str → Option Value} {base : Heap}
theorem ok_law_odd (T : TX K mg) : CalX P w K mg base 2 "_law_odd" ["_law_well_here"] (Sp1 (B_law_odd)) := by
  have C_law_pull := ok_law_pull (P := P) (w := w) (base := base) T
  obtain ⟨f, fd, F, hm, bd⟩ := T.d_law_odd.ex
  refine ⟨f, fd, F.okX sc_law_odd len1 (fun cdv A outer s H vs Q E hr h => ?_), hm, F.kp, bd⟩
  obtain ⟨wl, rfl, h⟩ := h
  refine ⟨_, (pss_cons (ps_set (i := 1) sc_law_odd.nd rfl (Or.inl rfl) (pe_ix ix_list (pe_lst (pa_cons pe_int (pa_cons pe_int (pa_cons pe_int (pa_cons pe_int (pa_cons pe_int (pa_cons pe_int pa_nil))))))) (pcall C_law_pull hr (by first | decide | omega) rfl Passes.none (pa_cons (pv 0) (pa_cons pe_int pa_nil))) (fun _ _ => rfl))) (pss_cons (ps_set (i := 2) sc_law_odd.nd rfl (Or.inl rfl) (pe_op o_mulS pe_str (pv 1))) (pss_cons (ps_set (i := 3) sc_law_odd.nd rfl (Or.inl rfl) (pe_lst (pa_cons (pv 2) (pa_cons (pe_op o_addS pe_str (pv 2)) (pa_cons (pe_op o_addS (pe_op o_addS pe_str (pe_op o_mulS pe_str (pv 1))) pe_str) (pa_cons (pe_op o_addS (pe_op o_addS pe_str (pe_op o_mulS pe_str (pv 1))) pe_str) pa_nil)))))) (pss_cons (ps_set (i := 3) sc_law_odd.nd rfl (Or.inl rfl) (pe_op op_cat (pv 3) (pe_lst (pa_cons (pe_op o_addS (pe_op o_mulS pe_str (pe_op op_add pe_int (pe_op op_mod (pv 1) pe_int))) pe_str) (pa_cons pe_str (pa_cons pe_str (pa_cons pe_str (pa_cons pe_str pa_nil)))))))) (pss_one (ps_ret (pe_ix ix_list (pe_op op_cat (pv 3) (pe_lst (pa_cons pe_str (pa_cons pe_str (pa_cons pe_str pa_nil))))) (pcall C_law_pull hr (by first | decide | omega) rfl Passes.none (pa_cons (pv 0) (pa_cons pe_int pa_nil))) (fun _ _ => rfl)))))))), ?_⟩
  show (_ : TS) _ [some wl, none, none, none] H
  first | dsimp only [L2.cxOf] | skip
  obtain ⟨a, rfl, W, q⟩ := h
  have hpick : ∀ r : Int, 0 ≤ r → r < 6 → ∃ m : Int, atI [V.int 1, V.int 40, V.int 41, V.int 60, V.int 61, V.int 62] r = some (V.int m) ∧ 1 ≤ m ∧ m ≤ 62 := fun r h0 h1 => by
    obtain rfl | rfl | rfl | rfl | rfl | rfl : r = 0 ∨ r = 1 ∨ r = 2 ∨ r = 3 ∨ r = 4 ∨ r = 5 := by omega
    · exact ⟨1, rfl, by decide, by decide⟩
    · exact ⟨40, rfl, by decide, by decide⟩
    · exact ⟨41, rfl, by decide, by decide⟩
    · exact ⟨60, rfl, by decide, by decide⟩
    · exact ⟨61, rfl, by decide, by decide⟩
    · exact ⟨62, rfl, by decide, by decide⟩
  have cD := okc (Str.ofString "-") 1 (by decide +kernel)
  have cQ := okc (Str.ofString "\"") 1 (by decide +kernel)
  have c1 := okc (Str.ofString "1") 1 (by decide +kernel)
  have cT := okc (Str.ofString "~") 1 (by decide +kernel)
  have cB := okc (Str.ofString "\\\"") 2 (by decide +kernel)
  have cO := okc (Str.ofString "(") 1 (by decide +kernel)
  have c7 := okc (Str.ofString "7") 1 (by decide +kernel)
  have mulB : ∀ (w s : Str) (m : Int) (n : Nat), (w.length : Int) = s.length * (if m < 0 then 0 else m) → (∀ c ∈ w.cps.toList, c ∈ s.cps.toList) → okT s ∧ s.length ≤ n → 0 ≤ m → m ≤ 62 → okT w ∧ w.length ≤ n * 62 := fun w s m n hl hm hs h0 h1 => by
    refine ⟨fun c hc => hs.1 c (hm c hc), ?_⟩
    rw [if_neg (by omega)] at hl
    have a1 : (s.length : Int) * m ≤ (s.length : Int) * 62 := Int.mul_le_mul_of_nonneg_left h1 (by omega)
    have a2 : (s.length : Int) ≤ n := by have := hs.2; omega
    omega
  have appB : ∀ (x y : Str) (n k : Nat), okT x ∧ x.length ≤ n → okT y ∧ y.length ≤ k → okT (x ++ y) ∧ (x ++ y).length ≤ n + k := fun x y n k hx hy => ⟨okT_app hx.1 hy.1, by rw [PySem.Str.length_append]; have := hx.2; have := hy.2; omega⟩
  walk_at "rd"
  intro p1 n1
  have f1 : Fr (One a) H (upd H p1 (.lst [V.int 1, V.int 40, V.int 41, V.int 60, V.int 61, V.int 62])) := Fr.new (Fr.refl _) n1
  have w1 := W.new (u := .lst [V.int 1, V.int 40, V.int 41, V.int 60, V.int 61, V.int 62]) n1
  have h1 : upd H p1 (.lst [V.int 1, V.int 40, V.int 41, V.int 60, V.int 61, V.int 62]) p1 = some (.lst [V.int 1, V.int 40, V.int 41, V.int 60, V.int 61, V.int 62]) := upd_same
  have np1 : p1 ≠ a := Well.ne W n1
  generalize upd H p1 (.lst [V.int 1, V.int 40, V.int 41, V.int 60, V.int 61, V.int 62]) = H1 at f1 w1 h1 ⊢
  walk_at "rd"
  refine ⟨a, _, rfl, rfl, by decide, by decide +kernel, w1, fun r H2 f2 w2 r0 r1 => ?_⟩
  obtain ⟨m, hm1, hm2, hm3⟩ := hpick r r0 r1
  have h2 := f2.keep _ _ h1 (not_One np1)
  have f02 := f1.trans f2
  walk_at "rd"
  refine x_mulS (Nat.le_trans c1.2 (by decide)) ⟨by omega, by omega⟩ fun w1' l1 m1 => ?_
  have g1 := mulB w1' _ m 1 l1 m1 c1 (by omega) hm3
  have z1 : (Str.ofString "-").length + w1'.length ≤ 16777216 := by have := g1.2; have := cD.2; omega
  have k1 := appB _ _ _ _ cD g1
  walk_at "rd"
  refine x_mulS (Nat.le_trans cT.2 (by decide)) ⟨by omega, by omega⟩ fun w2' l2 m2 => ?_
  have g2 := mulB w2' _ m 1 l2 m2 cT (by omega) hm3
  have z2 : (Str.ofString "\"").length + w2'.length ≤ 16777216 := by have := g2.2; have := cQ.2; omega
  have k2 := appB _ _ _ _ cQ g2
  have z3 : (Str.ofString "\"" ++ w2').length + (Str.ofString "\"").length ≤ 16777216 := by have := k2.2; have := cQ.2; omega
  have k3 := appB _ _ _ _ k2 cQ
  walk_at "rd"
  refine x_mulS (Nat.le_trans cB.2 (by decide)) ⟨by omega, by omega⟩ fun w3' l3 m3 => ?_
  have g3 := mulB w3' _ m 2 l3 m3 cB (by omega) hm3
  have z4 : (Str.ofString "\"").length + w3'.length ≤ 16777216 := by have := g3.2; have := cQ.2; omega
  have k4 := appB _ _ _ _ cQ g3
  have z5 : (Str.ofString "\"" ++ w3').length + (Str.ofString "\"").length ≤ 16777216 := by have := k4.2; have := cQ.2; omega
  have k5 := appB _ _ _ _ k4 cQ
  walk_at "rd"
  intro p3 n3
  obtain ⟨zs4, ezs4⟩ : ∃ zs4 : List Str, zs4 = [w1', Str.ofString "-" ++ w1', Str.ofString "\"" ++ w2' ++ Str.ofString "\"", Str.ofString "\"" ++ w3' ++ Str.ofString "\""] := ⟨_, rfl⟩
  have eq4 : HO.lst [V.str w1', V.str (Str.ofString "-" ++ w1'), V.str (Str.ofString "\"" ++ w2' ++ Str.ofString "\""), V.str (Str.ofString "\"" ++ w3' ++ Str.ofString "\"")] = .lst (zs4.map V.str) := by rw [ezs4]; rfl
  have hz4 : ∀ z ∈ zs4, okT z ∧ z.length ≤ 200 := by
    rw [ezs4]
    intro z hz
    rcases List.mem_cons.mp hz with rfl | hz
    · exact ⟨g1.1, by have := g1.2; omega⟩
    rcases List.mem_cons.mp hz with rfl | hz
    · exact ⟨k1.1, by have := k1.2; omega⟩
    rcases List.mem_cons.mp hz with rfl | hz
    · exact ⟨k3.1, by have := k3.2; omega⟩
    rw [List.mem_singleton.mp hz]
    exact ⟨k5.1, by have := k5.2; omega⟩
  have zl4 : zs4.length = 4 := by rw [ezs4]; rfl
  rw [eq4]
  have f3 : Fr (One a) H (upd H2 p3 (.lst (zs4.map V.str))) := Fr.new f02 n3
  have w3 := w2.new (u := .lst (zs4.map V.str)) n3
  have hp3 : upd H2 p3 (.lst (zs4.map V.str)) p3 = some (.lst (zs4.map V.str)) := upd_same
  generalize upd H2 p3 (.lst (zs4.map V.str)) = H3 at f3 w3 hp3 ⊢
  clear ezs4 eq4 h2
  walk_at "rd"
  have hm5 : 0 ≤ m % 3 ∧ m % 3 < 3 := ⟨Int.emod_nonneg _ (by decide), Int.emod_lt_of_pos _ (by decide)⟩
  refine x_mulS (Nat.le_trans cO.2 (by decide)) ⟨by omega, by omega⟩ fun w4' l4 m4 => ?_
  have g4 := mulB w4' _ (2 + m % 3) 1 l4 m4 cO (by omega) (by omega)
  have z6 : w4'.length + (Str.ofString "7").length ≤ 16777216 := by have := g4.2; have := c7.2; omega
  have k6 := appB _ _ _ _ g4 c7
  walk_at "rd"
  intro p4 n4
  obtain ⟨zs5, ezs5⟩ : ∃ zs5 : List Str, zs5 = [w4' ++ Str.ofString "7", Str.ofString "(1 2 3 4 5)", Str.ofString "((1) (2 (3)) (4 (5 (6))))", Str.ofString "-0", Str.ofString "00"] := ⟨_, rfl⟩
  have eq5 : HO.lst [V.str (w4' ++ Str.ofString "7"), V.str (Str.ofString "(1 2 3 4 5)"), V.str (Str.ofString "((1) (2 (3)) (4 (5 (6))))"), V.str (Str.ofString "-0"), V.str (Str.ofString "00")] = .lst (zs5.map V.str) := by rw [ezs5]; rfl
  have hz5 : ∀ z ∈ zs5, okT z ∧ z.length ≤ 200 := by
    rw [ezs5]
    intro z hz
    rcases List.mem_cons.mp hz with rfl | hz
    · exact ⟨k6.1, by have := k6.2; omega⟩
    rcases List.mem_cons.mp hz with rfl | hz
    · exact okc _ 200 (by decide +kernel)
    rcases List.mem_cons.mp hz with rfl | hz
    · exact okc _ 200 (by decide +kernel)
    rcases List.mem_cons.mp hz with rfl | hz
    · exact okc _ 200 (by decide +kernel)
    rw [List.mem_singleton.mp hz]
    exact okc _ 200 (by decide +kernel)
  have zl5 : zs5.length = 5 := by rw [ezs5]; rfl
  rw [eq5]
  have f4 : Fr (One a) H (upd H3 p4 (.lst (zs5.map V.str))) := Fr.new f3 n4
  have w4 := w3.new (u := .lst (zs5.map V.str)) n4
  have hp4 : upd H3 p4 (.lst (zs5.map V.str)) p4 = some (.lst (zs5.map V.str)) := upd_same
  have hp34 := keepU (u := .lst (zs5.map V.str)) hp3 n4
  generalize upd H3 p4 (.lst (zs5.map V.str)) = H4 at f4 w4 hp4 hp34 ⊢
  clear ezs5 eq5
  walk_at "rd"
  intro p5 n5
  rw [← List.map_append]
  have f5 : Fr (One a) H (upd H4 p5 (.lst ((zs4 ++ zs5).map V.str))) := Fr.new f4 n5
  have w5 := w4.new (u := .lst ((zs4 ++ zs5).map V.str)) n5
  have hp5 : upd H4 p5 (.lst ((zs4 ++ zs5).map V.str)) p5 = some (.lst ((zs4 ++ zs5).map V.str)) := upd_same
  generalize upd H4 p5 (.lst ((zs4 ++ zs5).map V.str)) = H5 at f5 w5 hp5 ⊢
  walk_at "rd"
  intro p6 n6
  obtain ⟨zs6, ezs6⟩ : ∃ zs6 : List Str, zs6 = [Str.ofString "\"\\a\"", Str.ofString "( 1)", Str.ofString "()()"] := ⟨_, rfl⟩
  have eq6 : HO.lst [V.str (Str.ofString "\"\\a\""), V.str (Str.ofString "( 1)"), V.str (Str.ofString "()()")] = .lst (zs6.map V.str) := by rw [ezs6]; rfl
  have hz6 : ∀ z ∈ zs6, okT z ∧ z.length ≤ 200 := by
    rw [ezs6]
    intro z hz
    rcases List.mem_cons.mp hz with rfl | hz
    · exact okc _ 200 (by decide +kernel)
    rcases List.mem_cons.mp hz with rfl | hz
    · exact okc _ 200 (by decide +kernel)
    rw [List.mem_singleton.mp hz]
    exact okc _ 200 (by decide +kernel)
  have zl6 : zs6.length = 3 := by rw [ezs6]; rfl
  rw [eq6]
  have f6 : Fr (One a) H (upd H5 p6 (.lst (zs6.map V.str))) := Fr.new f5 n6
  have w6 := w5.new (u := .lst (zs6.map V.str)) n6
  have hp6 : upd H5 p6 (.lst (zs6.map V.str)) p6 = some (.lst (zs6.map V.str)) := upd_same
  have hp56 := keepU (u := .lst (zs6.map V.str)) hp5 n6
  generalize upd H5 p6 (.lst (zs6.map V.str)) = H6 at f6 w6 hp6 hp56 ⊢
  clear ezs6 eq6
  walk_at "rd"
  intro p7 n7
  rw [← List.map_append]
  have f7 : Fr (One a) H (upd H6 p7 (.lst ((zs4 ++ zs5 ++ zs6).map V.str))) := Fr.new f6 n7
  have w7 := w6.new (u := .lst ((zs4 ++ zs5 ++ zs6).map V.str)) n7
  have hp7 : upd H6 p7 (.lst ((zs4 ++ zs5 ++ zs6).map V.str)) p7 = some (.lst ((zs4 ++ zs5 ++ zs6).map V.str)) := upd_same
  have np7 : p7 ≠ a := Well.ne w6 n7
  generalize upd H6 p7 (.lst ((zs4 ++ zs5 ++ zs6).map V.str)) = H7 at f7 w7 hp7 ⊢
  walk_at "rd"
  refine ⟨a, _, rfl, rfl, by decide, by decide +kernel, w7, fun r8 H8 f8 w8 r80 r81 => ?_⟩
  have hp8 := f8.keep _ _ hp7 (not_One np7)
  obtain ⟨z, ez1, ez2⟩ := pickS (zs := zs4 ++ zs5 ++ zs6) r80 (by rw [List.length_append, List.length_append, zl4, zl5, zl6]; exact r81)
  have hok : okT z ∧ z.length ≤ 200 := by
    rcases List.mem_append.mp ez2 with h | h
    · rcases List.mem_append.mp h with h | h
      · exact hz4 z h
      · exact hz5 z h
    · exact hz6 z h
  walk_at "rd"
  exact q z _ (f7.trans f8) w8 hok.1 hok.2
end

-- the def top 22
theorem sc_law_shown : FnScope ["_law_key_here", "_law_text_here", "_law_sign", "_law_part"] ["_law_key_here"] (defScope s_law_shown) := ⟨rfl, rfl, rfl, by decide +kernel, rfl, by decide +kernel, by decide +kernel⟩
def B_law_shown (r : Nat) : BK1 := fun k H Q _ => ∃ d, Dt H k d ∧ isK r d ∧ r ≤ 3 ∧ ∀ H', Fr Non H H' → Q (.str (encS d)) H'
section
variable {P : Program} {w : World} {K : PySem.W.Frag} {mg : Str → Option Value} {base : Heap}
theorem step_law_shown (T : TX K mg) (r k : Nat) (spR : Sp) (hR : ∀ r1, r = r1 + 1 → ∀ vs H Q E, Sp1 (B_law_shown r1) vs H Q E → spR vs H Q E) (C_law_shown : CalX P w K mg base k "_law_shown" ["_law_key_here"] spR) (hk : 1 ≤ k) : CalX P w K mg base (k + 1) "_law_shown" ["_law_key_here"] (Sp1 (B_law_shown r)) := by
  obtain ⟨f, fd, F, hm, bd⟩ := T.d_law_shown.ex
  refine ⟨f, fd, F.okX sc_law_shown len1 (fun cdv A outer s H vs Q E hr h => ?_), hm, F.kp, bd⟩
  obtain ⟨k, rfl, h⟩ := h
  refine ⟨_, (pss_cons (ps_if (pt_val (pe_callB call_isi (by rfl) T.b_isinstance PyProof.Rows.boot_isinstance (pa_cons (pv 0) (pa_cons (pe_bltn (v := .ty "tuple") rfl T.b_tuple PyProof.Rows.boot_tuple rfl) pa_nil)))) (pss_one (ps_ret (pe_op o_addS (pe_op o_addS pe_str (pe_bm PySem.F.plainAttrs_str PySem.F.slot_str_join PySem.F.type_str_join m_join pe_str (pa_cons (pe_lc (own := [("_law_part", 3)]) (g := gName 3) (tt := tYes) rfl sc_law_shown.nd (pi_tup (pv 0)) (blkOk_by (N := ["_law_key_here", "_law_text_here", "_law_sign", "_law_part"]) (sc := defScope s_law_shown) (own := [("_law_part", 3)]) (by decide +kernel)) (fun _ _ _ _ _ => pg_name (i := 3) sc_law_shown.nd rfl (by first | exact Or.inl rfl | exact Or.inr rfl)) (fun _ _ _ _ _ => pts_nil) (fun _ _ _ _ _ => (pcall C_law_shown hr (by first | decide | omega) rfl Passes.none (pa_cons (pv 3) pa_nil)))) pa_nil))) pe_str))) pss_nil) (pss_cons (ps_if (pt_val (pe_callB call_isi (by rfl) T.b_isinstance PyProof.Rows.boot_isinstance (pa_cons (pv 0) (pa_cons (pe_bltn (v := .ty "int") rfl T.b_int PyProof.Rows.boot_int rfl) pa_nil)))) (pss_one (ps_ret (pe_callTy c_strI (by rfl) T.b_str (by decide +kernel) (pa_cons (pv 0) pa_nil)))) pss_nil) (pss_cons (ps_set (i := 1) sc_law_shown.nd rfl (Or.inl rfl) pe_str) (pss_cons (ps_for (passes_of rfl) rfl (pi_str (pv 0)) (pg_name (i := 2) sc_law_shown.nd rfl (Or.inl rfl)) (pss_cons (ps_if (PW.pt (pw_or (pt_cmpR op_eq (pv 2) pe_str (nomark _)) (pw_or1 (pt_cmpR op_eq (pv 2) pe_str (nomark _))))) (pss_one (ps_set (i := 1) sc_law_shown.nd rfl (Or.inl rfl) (pe_op o_addS (pv 1) pe_str))) pss_nil) (pss_one (ps_set (i := 1) sc_law_shown.nd rfl (Or.inl rfl) (pe_op o_addS (pv 1) (pv 2)))))) (pss_one (ps_ret (pe_op o_addS (pe_op o_addS pe_str (pv 1)) pe_str))))))), ?_⟩
  show (_ : TS) _ [some k, none, none, none] H
  first | dsimp only [L2.cxOf] | skip
  obtain ⟨d, hd, hk, hr3, q⟩ := h
  rcases isK_cases hk with ⟨i, rfl, hi⟩ | ⟨z, rfl, hz⟩ | ⟨r1, ds, rfl, rfl, hl, hs⟩
  · cases hd
    walk_at "rd"
    refine x_strI ?_ ?_
    · have h60 : i.natAbs < 10 ^ 60 := by
        have h1 := hi.1
        have h2 := hi.2
        have e : ((10 ^ 60 : Nat) : Int) = (10 : Int) ^ 60 := by decide
        rw [← e] at h1 h2
        omega
      refine Nat.lt_of_lt_of_le (PySem.Flt.log2_lt_of (show 0 < 200 by decide) (Nat.lt_of_lt_of_le h60 (by decide))) (by decide)
    · rw [encS_int] at q
      exact q _ (Fr.refl _)
  · cases hd
    have hz1 := hz.1
    rw [str_len] at hz1
    walk_at "rd"
    refine x_forS (fun i σ H' => H' = H ∧ ∃ (v2 v3 : Option V), σ = [some (.str z), some (.str (strOf (escL (z.cps.toList.take i)))), v2, v3]) ⟨rfl, _, _, rfl⟩ ?_ ?_
    · rintro i c σ H1 hc ⟨rfl, v2, v3, rfl⟩
      have hi : i < z.cps.toList.length := (List.getElem?_eq_some_iff.mp hc).1
      have hel : (escL (z.cps.toList.take i)).length ≤ 80 := Nat.le_trans (escL_len _) (by rw [List.length_take]; omega)
      have zb : (strOf (escL (z.cps.toList.take i))).length + (Str.ofString "\\").length ≤ sizeLine := by rw [strOf_len, len_b]; exact Nat.le_trans (Nat.add_le_add_right hel 1) (by decide)
      have z0 : (strOf (escL (z.cps.toList.take i))).length + (⟨#[c]⟩ : Str).length ≤ sizeLine := by rw [strOf_len, str_one]; exact Nat.le_trans (Nat.add_le_add_right hel 1) (by decide)
      have z1 : (strOf (escL (z.cps.toList.take i)) ++ Str.ofString "\\").length + (⟨#[c]⟩ : Str).length ≤ sizeLine := by rw [PySem.Str.length_append, strOf_len, len_b, str_one]; exact Nat.le_trans (Nat.add_le_add_right (Nat.add_le_add_right hel 1) 1) (by decide)
      have et : escL (z.cps.toList.take (i + 1)) = escL (z.cps.toList.take i) ++ esc1 c := by
        rw [List.take_add_one, hc, escL_app]
        show _ ++ (esc1 c ++ []) = _
        rw [List.append_nil]
      walk_at "rd"
      rw [sg_eqC c 34 _ sg_q]
      by_cases h34 : c = 34
      · rw [decide_eq_true h34]
        walk_at "rd"
        refine ⟨rfl, some (.str ⟨#[c]⟩), v3, ?_⟩
        rw [et, put_b, put_1, show esc1 c = [92, c] from if_pos (.inl h34), List.append_assoc]; rfl
      · rw [decide_eq_false h34]
        walk_at "rd"
        rw [sg_eqC c 92 _ sg_b]
        by_cases h92 : c = 92
        · rw [decide_eq_true h92]
          walk_at "rd"
          refine ⟨rfl, some (.str ⟨#[c]⟩), v3, ?_⟩
          rw [et, put_b, put_1, show esc1 c = [92, c] from if_pos (.inr h92), List.append_assoc]; rfl
        · rw [decide_eq_false h92]
          walk_at "rd"
          refine ⟨rfl, some (.str ⟨#[c]⟩), v3, ?_⟩
          rw [et, put_1, show esc1 c = [c] from if_neg (by rintro (e | e); exact h34 e; exact h92 e)]; rfl
    · rintro σ H1 ⟨rfl, v2, v3, rfl⟩
      rw [List.take_length]
      have hel : (escL z.cps.toList).length ≤ 80 := Nat.le_trans (escL_len _) (by omega)
      have z1 : (Str.ofString "\"").length + (strOf (escL z.cps.toList)).length ≤ sizeLine := by rw [len_q, strOf_len]; exact Nat.le_trans (Nat.add_le_add_left hel 1) (by decide)
      have z2 : (Str.ofString "\"" ++ strOf (escL z.cps.toList)).length + (Str.ofString "\"").length ≤ sizeLine := by rw [PySem.Str.length_append, len_q, strOf_len]; exact Nat.le_trans (Nat.add_le_add_right (Nat.add_le_add_left hel 1) 1) (by decide)
      walk_at "rd"
      rw [quoted]
      have e2 : encS (.str z) = strOf (34 :: (escL z.cps.toList ++ [34])) := by unfold encS; rw [encL]
      rw [e2] at q
      exact q _ (Fr.refl _)
  · cases hd with
    | @tup a xs _ e hx =>
    have hlx := hx.length
    have hln : ∀ d ∈ ds, (encL d).length ≤ 12500 := fun d hd => encL_small (isK_le (by omega) (hs d hd))
    walk_at "rd"
    refine x_iRef (C := fun a => ∃ xs, SqT K H a xs) ⟨xs, SqT.of e⟩ ?_
    walk_at "rd"
    intro D nD
    refine x_lcT xs (fun i H' => Fr Non H H' ∧ H' D = some (.lst (((ds.take i).map encS).map V.str))) ⟨by walk_at "fr", upd_same⟩ (fun i H' _ ⟨f, _⟩ => SqT.of (f.tup _ _ e)) ?_ ?_
    · rintro i x H3 hxi ⟨f3, hD⟩
      obtain ⟨d, hd1, hd2⟩ := hx.get hxi
      have hla4 : (((ds.take i).map encS).map V.str).length ≤ 100000 := by simp only [List.length_map, List.length_take]; omega
      walk_at "rd"
      refine hR r1 rfl _ _ _ _ ?_
      walk_at "rd"
      refine ⟨d, hd2.mono f3, hs d (List.mem_of_getElem? hd1), by omega, fun H4 f4 => ?_⟩
      walk_at "rd"
      refine ⟨by walk_at "fr", ?_⟩
      rw [List.take_add_one, hd1]
      simp only [List.map_append, Option.toList_some, List.map_cons, List.map_nil]
      exact upd_same
    · rintro H3 ⟨f3, hD⟩
      rw [List.take_of_length_le (by omega)] at hD
      have hal := encAll_len hln
      have hal2 : ds.length * (12500 + 1) ≤ 4 * (12500 + 1) := Nat.mul_le_mul_right _ hl
      have hsz : (strOf (encAll ds)).length ≤ 50004 := by rw [strOf_len]; omega
      have z1 : (Str.ofString "(").length + (strOf (encAll ds)).length ≤ sizeLine := by rw [len_o]; exact Nat.le_trans (Nat.add_le_add_left hsz 1) (by decide)
      have z2 : (Str.ofString "(" ++ strOf (encAll ds)).length + (Str.ofString ")").length ≤ sizeLine := by rw [PySem.Str.length_append, len_o, len_c]; exact Nat.le_trans (Nat.add_le_add_right (Nat.add_le_add_left hsz 1) 1) (by decide)
      walk_at "rd"
      refine x_join (SqL.of hD) ?_ ?_
      · have h1 := sum_encS hln
        have h2 : ds.length * 12500 ≤ 4 * 12500 := Nat.mul_le_mul_right _ hl
        rw [len_s, List.length_map]; omega
      · rw [join_enc]
        walk_at "rd"
        rw [braced]
        have e2 : encS (.tuple ds) = strOf (40 :: (encAll ds ++ [41])) := by unfold encS; rw [encL]
        rw [e2] at q
        exact q _ f3
theorem ok_law_shown (T : TX K mg) : ∀ r : Nat, CalX P w K mg base (2 + r) "_law_shown" ["_law_key_here"] (Sp1 (B_law_shown r))
  | 0 => step_law_shown T 0 1 _ (fun _ e => nomatch e) (CalX.never T.d_law_shown sc_law_shown (by decide)) (Nat.le_refl _)
  | r + 1 => step_law_shown T (r + 1) (2 + r) _ (fun r1 e => by cases e; exact fun _ _ _ _ h => h) (ok_law_shown T r) (by omega)
end

-- the def top 20
theorem sc_law_text : FnScope ["_law_well_here", "_law_signs", "_law_text_here", "_law_few", "_law_j", "_law_sign"] ["_law_well_here"] (defScope s_law_text) := ⟨rfl, rfl, rfl, by decide +kernel, rfl, by decide +kernel, by decide +kernel⟩
def B_law_text : BK1 := fun wl H Q _ => ∃ (a : Addr), wl = .ref a ∧ Well H a ∧
  ∀ z H', Fr (One a) H H' → Well H' a → txtOk z → Q (.str z) H'
section
variable {P : Program} {w : World} {K : PySem.W.Frag} {mg : Str → Option Value} {base : Heap}
theorem ok_law_text (T : TX K mg) : CalX P w K mg base 2 "_law_text" ["_law_well_here"] (Sp1 (B_law_text)) := by
  have C_law_pull := ok_law_pull (P := P) (w := w) (base := base) T
  obtain ⟨f, fd, F, hm, bd⟩ := T.d_law_text.ex
  refine ⟨f, fd, F.okX sc_law_text len1 (fun cdv A outer s H vs Q E hr h => ?_), hm, F.kp, bd⟩
  obtain ⟨wl, rfl, h⟩ := h
  refine ⟨_, (pss_cons (ps_set (i := 1) sc_law_text.nd rfl (Or.inl rfl) pe_str) (pss_cons (ps_set (i := 2) sc_law_text.nd rfl (Or.inl rfl) pe_str) (pss_cons (ps_set (i := 3) sc_law_text.nd rfl (Or.inl rfl) (pcall C_law_pull hr (by first | decide | omega) rfl Passes.none (pa_cons (pv 0) (pa_cons pe_int pa_nil)))) (pss_cons (ps_for (passes_of rfl) rfl (pi_range1 rfl T.b_range (pa_cons (pcall C_law_pull hr (by first | decide | omega) rfl Passes.none (pa_cons (pv 0) (pa_cons (pe_ix ix_list (pe_lst (pa_cons pe_int (pa_cons pe_int pa_nil))) (pcall C_law_pull hr (by first | decide | omega) rfl Passes.none (pa_cons (pv 0) (pa_cons pe_int pa_nil))) (fun _ _ => rfl)) pa_nil))) pa_nil)) (pg_name (i := 4) sc_law_text.nd rfl (Or.inl rfl)) (pss_cons (ps_set (i := 5) sc_law_text.nd rfl (Or.inl rfl) pe_str) (pss_cons (ps_if (PW.pt (pw_or (pt_cmpR op_gt (pv 3) pe_int (nomark _)) (pw_or1 (pt_cmpR op_eq (pcall C_law_pull hr (by first | decide | omega) rfl Passes.none (pa_cons (pv 0) (pa_cons pe_int pa_nil))) pe_int (nomark _))))) (pss_one (ps_set (i := 5) sc_law_text.nd rfl (Or.inl rfl) (pe_ix ix_str (pv 1) (pcall C_law_pull hr (by first | decide | omega) rfl Passes.none (pa_cons (pv 0) (pa_cons (pe_ix ix_list (pe_lst (pa_cons pe_int (pa_cons pe_int pa_nil))) (pe_op op_fdivW (pv 3) pe_int) (fun _ _ => rfl)) pa_nil))) (fun _ _ => rfl)))) pss_nil) (pss_one (ps_set (i := 2) sc_law_text.nd rfl (Or.inl rfl) (pe_op o_addS (pv 2) (pv 5))))))) (pss_one (ps_ret (pv 2))))))), ?_⟩
  show (_ : TS) _ [some wl, none, none, none, none, none] H
  first | dsimp only [L2.cxOf] | skip
  obtain ⟨a, rfl, W, q⟩ := h
  have hsl : (strIn s_law_text).length = 94 := by decide +kernel
  have hsc : ∀ c ∈ (strIn s_law_text).cps.toList, 32 ≤ c ∧ c ≤ 126 := by decide +kernel
  have hix : ∀ r : Int, 0 ≤ r → r < 94 → ∃ c, atI (strIn s_law_text).cps.toList r = some c ∧ (32 ≤ c ∧ c ≤ 126) := fun r h0 h1 => by
    obtain ⟨c, e1, e2⟩ := atI_ex (xs := (strIn s_law_text).cps.toList) h0 (by rw [← str_len, hsl]; exact h1)
    exact ⟨c, e1, hsc c (List.mem_of_getElem? e2)⟩
  have hsz : (strIn s_law_text).length ≤ sizeLine := by rw [hsl]; decide
  have hpick : ∀ (x y r : Int), 0 ≤ r → r < 2 → ∃ z, atI [V.int x, V.int y] r = some (V.int z) ∧ (z = x ∨ z = y) := fun x y r h0 h1 => by
    obtain rfl | rfl : r = 0 ∨ r = 1 := by omega
    · exact ⟨x, rfl, .inl rfl⟩
    · exact ⟨y, rfl, .inr rfl⟩
  walk_at "rd"
  refine ⟨a, _, rfl, rfl, by decide, by decide +kernel, W, fun pl H1 f1 w1 p0 p1 => ?_⟩
  walk_at "rd"
  intro l1 n1
  walk_at "rd"
  refine ⟨a, _, rfl, rfl, by decide, by decide +kernel, w1.fr (Fr.new (S := Non) (Fr.refl _) n1) id, fun r2 H2 f2 w2 r20 r21 => ?_⟩
  obtain ⟨m, hm1, hm2⟩ := hpick 4 41 r2 r20 r21
  walk_at "rd"
  refine ⟨a, _, rfl, rfl, by omega, (PullOk.small (by omega) (by omega)).2, w2, fun r3 H3 f3 w3 r30 r31 => ?_⟩
  walk_at "rd"
  refine x_forR (n := r3.toNat) (fun i σ H' => ∃ (z : Str) (v u : Option V), σ = [some (.ref a), some (.str (strIn s_law_text)), some (.str z), some (.int pl), v, u] ∧ Fr (One a) H H' ∧ Well H' a ∧ z.length ≤ i ∧ ∀ c ∈ z.cps.toList, 32 ≤ c ∧ c ≤ 126)
    ⟨_, none, none, rfl, by walk_at "fr", w3, Nat.le_refl _, fun c h => nomatch h⟩ ?_ ?_
  · rintro i σ H4 hi ⟨z, v, u, rfl, f4, w4, hz1, hz2⟩
    have hi40 : i < 40 := by omega
    have hpl : ∃ m : Int, atI [V.int 94, V.int 5] (pl / 2) = some (V.int m) ∧ (m = 94 ∨ m = 5) := hpick 94 5 (pl / 2) (by omega) (by omega)
    obtain ⟨m2, hm3, hm4⟩ := hpl
    walk_at "rd"
    refine x_dec (fun _ => ?b1) (fun _ => ?b2)
    case b2 =>
      walk_at "rd"
      refine ⟨a, _, rfl, rfl, by decide, by decide +kernel, w4, fun r4 H5 f5 w5 r40 r41 => ?_⟩
      walk_at "rd"
      refine x_dec (fun _ => ?b3) (fun _ => ?b4)
      case b3 =>
        have f6 := f4.trans f5
        have w6 := w5
        walk_at "rd"
        intro l2 n2
        walk_at "rd"
        refine ⟨a, _, rfl, rfl, by omega, (PullOk.small (by omega) (by omega)).2, w6.fr (Fr.new (S := Non) (Fr.refl _) n2) id, fun r7 H7 f7 w7 r70 r71 => ?_⟩
        obtain ⟨c, hc1, hc2⟩ := hix r7 r70 (by omega)
        walk_at "rd"
        obtain ⟨t1, t2⟩ := txt_app hz1 hz2 hc2
        exact ⟨_, _, _, rfl, by walk_at "fr", w7, t1, t2⟩
      case b4 =>
        walk_at "rd"
        obtain ⟨t1, t2⟩ := txt_app (c := 97) hz1 hz2 (by decide)
        exact ⟨_, _, _, rfl, f4.trans f5, w5, t1, t2⟩
    case b1 =>
      have f6 := f4
      have w6 := w4
      walk_at "rd"
      intro l2 n2
      walk_at "rd"
      refine ⟨a, _, rfl, rfl, by omega, (PullOk.small (by omega) (by omega)).2, w6.fr (Fr.new (S := Non) (Fr.refl _) n2) id, fun r7 H7 f7 w7 r70 r71 => ?_⟩
      obtain ⟨c, hc1, hc2⟩ := hix r7 r70 (by omega)
      walk_at "rd"
      obtain ⟨t1, t2⟩ := txt_app hz1 hz2 hc2
      exact ⟨_, _, _, rfl, by walk_at "fr", w7, t1, t2⟩
  · rintro σ H4 ⟨z, v, u, rfl, f4, w4, hz1, hz2⟩
    walk_at "rd"
    exact q _ _ f4 w4 ⟨by omega, hz2⟩
end

-- the def top 19
theorem sc_law_great : FnScope ["_law_well_here", "_law_bound", "_law_found", "_law_j"] ["_law_well_here", "_law_bound"] (defScope s_law_great) := ⟨rfl, rfl, rfl, by decide +kernel, rfl, by decide +kernel, by decide +kernel⟩
def B_law_great : BK2 := fun wl mm H Q _ => ∃ (a : Addr) (m : Int), wl = .ref a ∧ mm = .int m ∧ 0 < m ∧ m.natAbs.log2 < 9000 ∧ Well H a ∧
  ∀ r H', Fr (One a) H H' → Well H' a → 0 ≤ r → r < m → Q (.int r) H'
section
variable {P : Program} {w : World} {K : PySem.W.Frag} {mg : Str → Option Value} {base : Heap}
theorem ok_law_great (T : TX K mg) : CalX P w K mg base 2 "_law_great" ["_law_well_here", "_law_bound"] (Sp2 (B_law_great)) := by
  have C_law_pull := ok_law_pull (P := P) (w := w) (base := base) T
  obtain ⟨f, fd, F, hm, bd⟩ := T.d_law_great.ex
  refine ⟨f, fd, F.okX sc_law_great len2 (fun cdv A outer s H vs Q E hr h => ?_), hm, F.kp, bd⟩
  obtain ⟨wl, bd, rfl, h⟩ := h
  refine ⟨_, (pss_cons (ps_if (pt_cmpR op_gt (pe_ix ix_list (pv 0) pe_int (fun _ _ => rfl)) pe_int (nomark _)) (pss_one (ps_ret (pcall C_law_pull hr (by first | decide | omega) rfl Passes.none (pa_cons (pv 0) (pa_cons (pv 1) pa_nil))))) pss_nil) (pss_cons (ps_set (i := 2) sc_law_great.nd rfl (Or.inl rfl) pe_int) (pss_cons (ps_for (passes_of rfl) rfl (pi_range1 rfl T.b_range (pa_cons pe_int pa_nil)) (pg_name (i := 3) sc_law_great.nd rfl (Or.inl rfl)) (pss_one (ps_set (i := 2) sc_law_great.nd rfl (Or.inl rfl) (pe_op op_add (pe_op op_mul (pv 2) pe_int) (pcall C_law_pull hr (by first | decide | omega) rfl Passes.none (pa_cons (pv 0) (pa_cons pe_int pa_nil))))))) (pss_one (ps_ret (pe_op op_mod (pv 2) (pv 1))))))), ?_⟩
  show (_ : TS) _ [some wl, some bd, none, none] H
  first | dsimp only [L2.cxOf] | skip
  obtain ⟨a, m, rfl, rfl, hm0, hml, W, q⟩ := h
  obtain ⟨c, n, g, l, hL, hc0, hc1⟩ := id W
  walk_at "rd"
  refine x_dec (fun _ => ?_) (fun _ => ?_)
  · walk_at "rd"
    exact ⟨a, m, rfl, rfl, hm0, hml, W, q⟩
  · walk_at "rd"
    refine x_forR (n := 8) (fun i σ H' => ∃ (z : Int) (v : Option V), σ = [some (.ref a), some (.int m), some (.int z), v] ∧ Fr (One a) H H' ∧ Well H' a ∧ 0 ≤ z) ⟨0, none, rfl, Fr.refl _, W, by omega⟩ ?_ ?_
    · rintro i σ H1 hi ⟨z, v, rfl, f1, w1, hz⟩
      walk_at "rd"
      refine ⟨a, _, rfl, rfl, by decide, by decide +kernel, w1, fun r H2 f2 w2 h0 h1 => ?_⟩
      walk_at "rd"
      exact ⟨_, _, rfl, f1.trans f2, w2, by omega⟩
    · rintro σ H1 ⟨z, v, rfl, f1, w1, hz⟩
      walk_at "rd"
      exact q _ _ f1 w1 (Int.emod_nonneg _ (by omega)) (Int.emod_lt_of_pos _ hm0)
end

-- the def top 21
theorem sc_law_key : FnScope ["_law_well_here", "_law_room", "_law_way", "_law_j"] ["_law_well_here", "_law_room"] (defScope s_law_key) := ⟨rfl, rfl, rfl, by decide +kernel, rfl, by decide +kernel, by decide +kernel⟩
/-- any key in which no more tuples than r lie within one another -/
def B_law_key (r : Nat) : BK2 := fun wl rm H Q _ => ∃ (a : Addr), wl = .ref a ∧ rm = .int (r : Int) ∧ Well H a ∧
  ∀ v d H', Fr (One a) H H' → Well H' a → Dt H' v d → isK r d → Q v H'
section
variable {P : Program} {w : World} {K : PySem.W.Frag} {mg : Str → Option Value} {base : Heap}
theorem step_law_key (T : TX K mg) (r k : Nat) (spR : Sp) (hR : ∀ r1, r = r1 + 1 → ∀ vs H Q E, Sp2 (B_law_key r1) vs H Q E → spR vs H Q E) (C_law_key : CalX P w K mg base k "_law_key" ["_law_well_here", "_law_room"] spR) (hk : 2 ≤ k) : CalX P w K mg base (k + 1) "_law_key" ["_law_well_here", "_law_room"] (Sp2 (B_law_key r)) := by
  have C_law_pull := ok_law_pull (P := P) (w := w) (base := base) T
  have C_law_text := ok_law_text (P := P) (w := w) (base := base) T
  have C_law_great := ok_law_great (P := P) (w := w) (base := base) T
  obtain ⟨f, fd, F, hm, bd⟩ := T.d_law_key.ex
  refine ⟨f, fd, F.okX sc_law_key len2 (fun cdv A outer s H vs Q E hr h => ?_), hm, F.kp, bd⟩
  obtain ⟨wl, rm, rfl, h⟩ := h
  refine ⟨_, (pss_cons (ps_set (i := 2) sc_law_key.nd rfl (Or.inl rfl) (pcall C_law_pull hr (by first | decide | omega) rfl Passes.none (pa_cons (pv 0) (pa_cons pe_int pa_nil)))) (pss_cons (ps_if (pt_cmpR op_lt (pv 2) pe_int (nomark _)) (pss_one (ps_ret (pe_op op_sub (pcall C_law_pull hr (by first | decide | omega) rfl Passes.none (pa_cons (pv 0) (pa_cons pe_int pa_nil))) pe_int))) pss_nil) (pss_cons (ps_if (pt_cmpR op_eq (pv 2) pe_int (nomark _)) (pss_one (ps_ret (pe_op op_add (pe_op op_sub (pcall C_law_great hr (by first | decide | omega) rfl Passes.none (pa_cons (pv 0) (pa_cons (pe_op op_sub (pe_op op_mul pe_int (pe_op op_pow pe_int pe_int)) pe_int) pa_nil))) (pe_op op_pow pe_int pe_int)) pe_int))) pss_nil) (pss_cons (ps_if (PW.pt (pw_or (pt_cmpR op_lt (pv 2) pe_int (nomark _)) (pw_or1 (pt_cmpR op_eq (pv 1) pe_int (nomark _))))) (pss_one (ps_ret (pcall C_law_text hr (by first | decide | omega) rfl Passes.none (pa_cons (pv 0) pa_nil)))) pss_nil) (pss_one (ps_ret (pe_callTy c_tupOf (by rfl) T.b_tuple (by decide +kernel) (pa_cons (pe_lc (own := [("_law_j", 3)]) (g := gName 3) (tt := tYes) rfl sc_law_key.nd (pi_range1 rfl T.b_range (pa_cons (pcall C_law_pull hr (by first | decide | omega) rfl Passes.none (pa_cons (pv 0) (pa_cons pe_int pa_nil))) pa_nil)) (blkOk_by (N := ["_law_well_here", "_law_room", "_law_way", "_law_j"]) (sc := defScope s_law_key) (own := [("_law_j", 3)]) (by decide +kernel)) (fun _ _ _ _ _ => pg_name (i := 3) sc_law_key.nd rfl (by first | exact Or.inl rfl | exact Or.inr rfl)) (fun _ _ _ _ _ => pts_nil) (fun _ _ _ _ _ => (pcall C_law_key hr (by first | decide | omega) rfl Passes.none (pa_cons (pv 0) (pa_cons (pe_op op_sub (pv 1) pe_int) pa_nil))))) pa_nil)))))))), ?_⟩
  show (_ : TS) _ [some wl, some rm, none, none] H
  first | dsimp only [L2.cxOf] | skip
  obtain ⟨a, rfl, rfl, W, q⟩ := h
  walk_at "rd"
  refine ⟨a, _, rfl, rfl, by decide, by decide +kernel, W, fun wy H1 f1 w1 y0 y1 => ?_⟩
  walk_at "rd"
  refine x_dec (fun _ => ?_) (fun _ => ?_)
  · walk_at "rd"
    refine ⟨a, _, rfl, rfl, by decide, by decide +kernel, w1, fun z H2 f2 w2 z0 z1 => ?_⟩
    walk_at "rd"
    refine q _ _ _ (f1.trans f2) w2 (.int _) ?_
    rw [isK_int]
    have e : (10 : Int) ^ 60 > 100 := by decide
    exact ⟨by omega, by omega⟩
  · walk_at "rd"
    refine x_dec (fun _ => ?_) (fun _ => ?_)
    · walk_at "rd"
      refine ⟨a, _, rfl, rfl, by decide, by decide +kernel, w1, fun z H2 f2 w2 z0 z1 => ?_⟩
      walk_at "rd"
      refine q _ _ _ (f1.trans f2) w2 (.int _) ?_
      rw [isK_int]
      show -((10 : Int) ^ 60) < z - (10 : Int) ^ 60 + 1 ∧ z - (10 : Int) ^ 60 + 1 < (10 : Int) ^ 60
      have z1' : z < 2 * (10 : Int) ^ 60 - 1 := z1
      generalize (10 : Int) ^ 60 = t at z1' ⊢
      exact ⟨by omega, by omega⟩
    · walk_at "rd"
      refine x_dec (fun _ => ?_) (fun _ => ?_)
      · walk_at "rd"
        exact ⟨a, rfl, w1, fun z H2 f2 w2 hz => q _ _ _ (f1.trans f2) w2 (.str _) (by rw [isK_str]; exact hz)⟩
      · walk_at "rd"
        refine x_dec (fun h0 => ?_) (fun h0 => ?_)
        · walk_at "rd"
          exact ⟨a, rfl, w1, fun z H2 f2 w2 hz => q _ _ _ (f1.trans f2) w2 (.str _) (by rw [isK_str]; exact hz)⟩
        · obtain ⟨r1, rfl⟩ : ∃ r1, r = r1 + 1 := ⟨r - 1, by omega⟩
          walk_at "rd"
          refine ⟨a, _, rfl, rfl, by decide, by decide +kernel, w1, fun m H2 f2 w2 m0 m1 => ?_⟩
          walk_at "rd"
          intro D nD
          have nD0 : Fresh H D := f1.free (f2.free nD)
          refine x_lcR (n := m.toNat) (fun i H' => ∃ acc ds, H' D = some (.lst acc) ∧ DtAll H' acc ds ∧ acc.length = i ∧ (∀ d ∈ ds, isK r1 d) ∧ Fr (One a) H H' ∧ Well H' a) ⟨[], [], upd_same, .nil, rfl, List.forall_mem_nil _, by walk_at "fr", by walk_at "we"⟩ ?_ ?_
          · rintro i H3 hi ⟨acc, ds, hD, hds, hl, hk1, f3, w3⟩
            walk_at "rd"
            refine hR r1 rfl _ _ _ _ ?_
            walk_at "rd"
            refine ⟨a, rfl, congrArg V.int (by omega), w3, fun v d H4 f4 w4 hd hk4 => ?_⟩
            walk_at "rd"
            refine ⟨acc ++ [v], ds ++ [d], upd_same, ?_, by rw [List.length_append, hl]; rfl, ?_, ?_, ?_⟩
            · exact DtAll.app (by walk_at "dt") (DtAll.one (by walk_at "dt"))
            · intro d' hd'
              rcases List.mem_append.mp hd' with hd' | hd'
              · exact hk1 d' hd'
              · rw [List.mem_singleton] at hd'; subst hd'; exact hk4
            · walk_at "fr"
            · walk_at "we"
          · rintro H3 ⟨acc, ds, hD, hds, hl, hk1, f3, w3⟩
            walk_at "rd"
            intro l nl
            refine q _ _ _ (by walk_at "fr") (by walk_at "we") (.tup upd_same (hds.upd nl)) ?_
            rw [isK_tup, ← hds.length, hl]
            exact ⟨by omega, hk1⟩
theorem ok_law_key (T : TX K mg) : ∀ r : Nat, CalX P w K mg base (3 + r) "_law_key" ["_law_well_here", "_law_room"] (Sp2 (B_law_key r))
  | 0 => step_law_key T 0 2 _ (fun _ e => nomatch e) (CalX.never T.d_law_key sc_law_key (by decide)) (Nat.le_refl _)
  | r + 1 => step_law_key T (r + 1) (3 + r) _ (fun r1 e => by cases e; exact fun _ _ _ _ h => h) (ok_law_key T r) (by omega)
end

-- the def top 32
theorem sc_law_one : FnScope ["_law_well_here", "_law_spoils", "_law_words", "_law_j", "_law_text_here", "_law_turn"] ["_law_well_here"] (defScope s_law_one) := ⟨rfl, rfl, rfl, by decide +kernel, rfl, by decide +kernel, by decide +kernel⟩
def B_law_one (K : PySem.W.Frag) : BK1 := fun wl H Q _ => ∃ (a : Addr), wl = .ref a ∧ Well H a ∧
  ∀ z H', Fr (One a) H H' → Well H' a → okT z → z.length ≤ 150000 → Q (.str z) H'
theorem len_joinS {n : Nat} : ∀ ys : List Str, (∀ y ∈ ys, okT y ∧ y.length ≤ n) → (Txt.join (Str.ofString " ") ys).length ≤ ys.length * (n + 1) ∧ okT (Txt.join (Str.ofString " ") ys) := by
  intro ys h
  rw [show Txt.join (Str.ofString " ") ys = Str.join (Str.ofString " ") ys from StrLaws.glued_eq_join _ _]
  have e1 : (Str.ofString " ").length = 1 := by decide +kernel
  have c1 : okT (Str.ofString " ") := okT_all (by decide +kernel)
  induction ys with
  | nil => exact ⟨Nat.zero_le _, fun c hc => by cases hc⟩
  | cons y ys ih =>
    have hy := h y (List.mem_cons_self ..)
    have hi := ih fun x hx => h x (List.mem_cons_of_mem _ hx)
    cases ys with
    | nil =>
      have e : Str.join (Str.ofString " ") [y] = y := rfl
      rw [e]
      exact ⟨by rw [List.length_singleton]; omega, hy.1⟩
    | cons x ys =>
      rw [PyProof.Rows.join_cons_cons]
      refine ⟨?_, okT_app (okT_app hy.1 c1) hi.2⟩
      rw [PySem.Str.length_append, PySem.Str.length_append, e1, List.length_cons, Nat.succ_mul]
      have := hi.1
      omega
theorem sum_lenS {n : Nat} : ∀ ys : List Str, (∀ y ∈ ys, okT y ∧ y.length ≤ n) → (ys.map (·.length)).sum ≤ ys.length * n
  | [], _ => Nat.zero_le _
  | y :: ys, h => by
    have h1 := (h y (List.mem_cons_self ..)).2
    have h2 := sum_lenS ys fun x hx => h x (List.mem_cons_of_mem _ hx)
    rw [List.map_cons, List.sum_cons, List.length_cons, Nat.succ_mul]; omega
section
variable {P : Program} {w : World} {K : PySem.W.Frag} {mg : Str → Option Value} {base : Heap}
theorem ok_law_one (T : TX K mg) : CalX P w K mg base 7 "_law_one" ["_law_well_here"] (Sp1 (B_law_one K)) := by
  have C_law_pull := ok_law_pull (P := P) (w := w) (base := base) T
  have C_law_free := ok_law_free (P := P) (w := w) (base := base) T
  have C_law_spoilt := ok_law_spoilt (P := P) (w := w) (base := base) T
  have C_law_odd := ok_law_odd (P := P) (w := w) (base := base) T
  have C_law_shown := ok_law_shown (P := P) (w := w) (base := base) T 3
  have C_law_key := ok_law_key (P := P) (w := w) (base := base) T 3
  obtain ⟨f, fd, F, hm, bd⟩ := T.d_law_one.ex
  refine ⟨f, fd, F.okX sc_law_one len1 (fun cdv A outer s H vs Q E hr h => ?_), hm, F.kp, bd⟩
  obtain ⟨wl, rfl, h⟩ := h
  refine ⟨_, (pss_cons (ps_if (pt_cmpR op_eq (pcall C_law_pull hr (by first | decide | omega) rfl Passes.none (pa_cons (pv 0) (pa_cons pe_int pa_nil))) pe_int (nomark _)) (pss_one (ps_ret (pcall C_law_free hr (by first | decide | omega) rfl Passes.none (pa_cons (pv 0) pa_nil)))) pss_nil) (pss_cons (ps_set (i := 1) sc_law_one.nd rfl (Or.inl rfl) (pcall C_law_pull hr (by first | decide | omega) rfl Passes.none (pa_cons (pv 0) (pa_cons pe_int pa_nil)))) (pss_cons (ps_set (i := 2) sc_law_one.nd rfl (Or.inl rfl) (pe_lst pa_nil)) (pss_cons (ps_for (passes_of rfl) rfl (pi_range1 rfl T.b_range (pa_cons (pcall C_law_pull hr (by first | decide | omega) rfl Passes.none (pa_cons (pv 0) (pa_cons (pe_ix ix_list (pe_lst (pa_cons pe_int (pa_cons pe_int (pa_cons pe_int (pa_cons pe_int pa_nil))))) (pcall C_law_pull hr (by first | decide | omega) rfl Passes.none (pa_cons (pv 0) (pa_cons pe_int pa_nil))) (fun _ _ => rfl)) pa_nil))) pa_nil)) (pg_name (i := 3) sc_law_one.nd rfl (Or.inl rfl)) (pss_one (ps_if (pt_cmpR op_eq (pcall C_law_pull hr (by first | decide | omega) rfl Passes.none (pa_cons (pv 0) (pa_cons pe_int pa_nil))) pe_int (nomark _)) (pss_one (ps_expr (pe_bm PySem.F.plainAttrs_list PySem.F.slot_list_append PySem.F.type_list_append mt_append (pv 2) (pa_cons (pcall C_law_odd hr (by first | decide | omega) rfl Passes.none (pa_cons (pv 0) pa_nil)) pa_nil)))) (pss_one (ps_expr (pe_bm PySem.F.plainAttrs_list PySem.F.slot_list_append PySem.F.type_list_append mt_append (pv 2) (pa_cons (pcall C_law_shown hr (by first | decide | omega) rfl Passes.none (pa_cons (pcall C_law_key hr (by first | decide | omega) rfl Passes.none (pa_cons (pv 0) (pa_cons pe_int pa_nil))) pa_nil)) pa_nil))))))) (pss_cons (ps_set (i := 4) sc_law_one.nd rfl (Or.inl rfl) (pe_bm PySem.F.plainAttrs_str PySem.F.slot_str_join PySem.F.type_str_join m_join pe_str (pa_cons (pv 2) pa_nil))) (pss_cons (ps_for (passes_of rfl) rfl (pi_range1 rfl T.b_range (pa_cons (pv 1) pa_nil)) (pg_name (i := 5) sc_law_one.nd rfl (Or.inl rfl)) (pss_one (ps_set (i := 4) sc_law_one.nd rfl (Or.inl rfl) (pcall C_law_spoilt hr (by first | decide | omega) rfl Passes.none (pa_cons (pv 0) (pa_cons (pv 4) pa_nil)))))) (pss_one (ps_ret (pv 4))))))))), ?_⟩
  show (_ : TS) _ [some wl, none, none, none, none, none] H
  first | dsimp only [L2.cxOf] | skip
  obtain ⟨a, rfl, W, q⟩ := h
  have hpick : ∀ r : Int, 0 ≤ r → r < 4 → ∃ m : Int, atI [V.int 5, V.int 5, V.int 5, V.int 10] r = some (V.int m) ∧ 1 ≤ m ∧ m ≤ 10 := fun r h0 h1 => by
    obtain rfl | rfl | rfl | rfl : r = 0 ∨ r = 1 ∨ r = 2 ∨ r = 3 := by omega
    · exact ⟨5, rfl, by decide, by decide⟩
    · exact ⟨5, rfl, by decide, by decide⟩
    · exact ⟨5, rfl, by decide, by decide⟩
    · exact ⟨10, rfl, by decide, by decide⟩
  walk_at "rd"
  refine ⟨a, _, rfl, rfl, by decide, by decide +kernel, W, fun wy H1 f1 w1 y0 y1 => ?_⟩
  walk_at "rd"
  refine x_dec (fun c0 => ?_) (fun c0 => ?_)
  · walk_at "rd"
    exact ⟨a, rfl, w1, fun z H2 f2 w2 ok hl => q z H2 (f1.trans f2) w2 ok (by omega)⟩
  walk_at "rd"
  refine ⟨a, _, rfl, rfl, by decide, by decide +kernel, w1, fun sp H2 f2 w2 s0 s1 => ?_⟩
  have f02 := f1.trans f2
  walk_at "rd"
  intro D nD
  walk_at "rd"
  intro p3 n3
  have nDa : D ≠ a := Well.ne w2 nD
  have nDH : Fresh H D := f02.free nD
  have hD3 : upd (upd H2 D (.lst [])) p3 (.lst [V.int 5, V.int 5, V.int 5, V.int 10]) D = some (.lst []) := keepU upd_same n3
  have h3 : upd (upd H2 D (.lst [])) p3 (.lst [V.int 5, V.int 5, V.int 5, V.int 10]) p3 = some (.lst [V.int 5, V.int 5, V.int 5, V.int 10]) := upd_same
  have f03 : Fr (One a) H (upd (upd H2 D (.lst [])) p3 (.lst [V.int 5, V.int 5, V.int 5, V.int 10])) := Fr.new (Fr.new f02 nD) n3
  have w3 : Well (upd (upd H2 D (.lst [])) p3 (.lst [V.int 5, V.int 5, V.int 5, V.int 10])) a := (w2.new nD).new n3
  have np3 : p3 ≠ a := Well.ne (w2.new nD) n3
  generalize upd (upd H2 D (.lst [])) p3 (.lst [V.int 5, V.int 5, V.int 5, V.int 10]) = H3 at hD3 h3 f03 w3 ⊢
  walk_at "rd"
  refine ⟨a, _, rfl, rfl, by decide, by decide +kernel, w3, fun r4 H4 f4 w4 r40 r41 => ?_⟩
  obtain ⟨m, hm1, hm2, hm3⟩ := hpick r4 r40 r41
  have h4 := f4.keep _ _ h3 (not_One np3)
  have hD4 := f4.keep _ _ hD3 (not_One nDa)
  have f04 := f03.trans f4
  walk_at "rd"
  refine ⟨a, _, rfl, rfl, by omega, (PullOk.small (by omega) (by omega)).2, w4, fun r5 H5 f5 w5 r50 r51 => ?_⟩
  have hD5 := f5.keep _ _ hD4 (not_One nDa)
  have f05 := f04.trans f5
  walk_at "rd"
  refine x_forR (n := r5.toNat) (fun i σ H' => ∃ (zs : List Str) (v3 : Option V), σ = [some (.ref a), some (.int sp), some (.ref D), v3, none, none] ∧ Fr (One a) H H' ∧ Well H' a ∧ H' D = some (.lst (zs.map V.str)) ∧ zs.length = i ∧ ∀ z ∈ zs, okT z ∧ z.length ≤ 12500) ⟨[], _, rfl, f05, w5, hD5, rfl, List.forall_mem_nil _⟩ ?_ ?_
  · rintro i σ H6 hi ⟨zs, v3, rfl, f6, w6, hD6, hl6, hz6⟩
    have hl100 : (zs.map V.str).length ≤ 100000 := by rw [List.length_map]; omega
    have done : ∀ (z : Str) (H9 : Hp), Fr (One a) H H9 → Well H9 a → H9 D = some (.lst (zs.map V.str)) → okT z → z.length ≤ 12500 → ∃ (zs' : List Str) (v3 : Option V), [some (.ref a), some (.int sp), some (.ref D), some (V.int (0 + (i : Int))), none, none] = [some (V.ref a), some (V.int sp), some (V.ref D), v3, none, none] ∧ Fr (One a) H (upd H9 D (.lst (zs.map V.str ++ [V.str z]))) ∧ Well (upd H9 D (.lst (zs.map V.str ++ [V.str z]))) a ∧ upd H9 D (.lst (zs.map V.str ++ [V.str z])) D = some (.lst (zs'.map V.str)) ∧ zs'.length = i + 1 ∧ ∀ z ∈ zs', okT z ∧ z.length ≤ 12500 := fun z H9 f9 w9 hD9 ok hl => by
      refine ⟨zs ++ [z], _, rfl, Fr.mut f9 hD9 rfl (.inr nDH), w9.fr (Fr.mut (S := One D) (Fr.refl _) hD9 rfl (.inl rfl)) (not_One (Ne.symm nDa)), by rw [List.map_append]; exact upd_same, by rw [List.length_append, hl6]; rfl, fun y hy => ?_⟩
      rcases List.mem_append.mp hy with hy | hy
      · exact hz6 y hy
      · rw [List.mem_singleton.mp hy]; exact ⟨ok, hl⟩
    walk_at "rd"
    refine ⟨a, _, rfl, rfl, by decide, by decide +kernel, w6, fun r7 H7 f7 w7 r70 r71 => ?_⟩
    have f07 := f6.trans f7
    have hD7 := f7.keep _ _ hD6 (not_One nDa)
    walk_at "rd"
    refine x_dec (fun c7 => ?_) (fun c7 => ?_)
    · walk_at "rd"
      refine ⟨a, rfl, w7, fun z H8 f8 w8 ok8 hl8 => ?_⟩
      have hD8 := f8.keep _ _ hD7 (not_One nDa)
      walk_at "rd"
      exact done z H8 (f07.trans f8) w8 hD8 ok8 (by omega)
    · walk_at "rd"
      refine ⟨a, rfl, rfl, w7, fun v d H8 f8 w8 hv hk => ?_⟩
      have hD8 := f8.keep _ _ hD7 (not_One nDa)
      walk_at "rd"
      refine ⟨d, hv, hk, by decide, fun H9 f9 => ?_⟩
      have hD9 := f9.keep _ _ hD8 id
      walk_at "rd"
      exact done (encS d) H9 ((f07.trans f8).trans f9.non) (w8.fr f9 id) hD9 (fun c hc => okT_encL hk c hc) (by unfold encS; rw [strOf_len]; exact encL_small hk)
  · rintro σ H6 ⟨zs, v3, rfl, f6, w6, hD6, hl6, hz6⟩
    have hj := len_joinS zs hz6
    have hs := sum_lenS zs hz6
    have hr9 : zs.length ≤ 9 := by omega
    have hb1 : zs.length * (12500 + 1) ≤ 9 * 12501 := Nat.mul_le_mul_right _ hr9
    have hb2 : zs.length * 12500 ≤ 9 * 12500 := Nat.mul_le_mul_right _ hr9
    walk_at "rd"
    refine x_join (SqL.of hD6) ?_ ?_
    · rw [show (Str.ofString " ").length = 1 by decide +kernel]; omega
    walk_at "rd"
    refine x_forR (n := sp.toNat) (fun i σ H' => ∃ (z : Str) (v5 : Option V), σ = [some (.ref a), some (.int sp), some (.ref D), v3, some (.str z), v5] ∧ Fr (One a) H H' ∧ Well H' a ∧ okT z ∧ z.length ≤ 112600 + 10 * i) ⟨_, _, rfl, f6, w6, hj.2, by omega⟩ ?_ ?_
    · rintro i σ H7 hi ⟨z, v5, rfl, f7, w7, ok7, hl7⟩
      walk_at "rd"
      refine ⟨a, z, rfl, rfl, w7, ok7, by omega, fun w' H8 f8 w8 ok8 hl8 => ?_⟩
      walk_at "rd"
      exact ⟨w', _, rfl, f7.trans f8, w8, ok8, by omega⟩
    · rintro σ H7 ⟨z, v5, rfl, f7, w7, ok7, hl7⟩
      walk_at "rd"
      exact q z _ f7 w7 ok7 (by omega)
end

-- the def top 24
theorem sc_law_within : FnScope ["_law_word", "_law_count", "_law_inner", "_law_sign"] ["_law_word", "_law_count", "_law_inner", "_law_sign"] (defScope s_law_within) := ⟨rfl, rfl, rfl, by decide +kernel, rfl, by decide +kernel, by decide +kernel⟩
def B_law_within : BK4 := fun x y z s H Q _ => ∃ (w : Wd) (n : Nat) (inn : List Nat) (c : Nat), x = .str (wdS w) ∧ y = .int (n : Int) ∧ Dt H z (.tuple (innD inn)) ∧ s = .str ⟨#[c]⟩ ∧ (w = .minus ∨ w = .text ∨ w = .freed) ∧
  (∀ t v H', withinR w n inn c = some t → Fr Non H H' → Dt H' v (stD t) → Q v H') ∧ (withinR w n inn c = none → ∀ H', Fr Non H H' → Q .non H')
section
variable {P : Program} {w : World} {K : PySem.W.Frag} {mg : Str → Option Value} {base : Heap}
theorem ok_law_within (T : TX K mg) : CalX P w K mg base 1 "_law_within" ["_law_word", "_law_count", "_law_inner", "_law_sign"] (Sp4 (B_law_within)) := by
  obtain ⟨f, fd, F, hm, bd⟩ := T.d_law_within.ex
  refine ⟨f, fd, F.okX sc_law_within len4 (fun cdv A outer s H vs Q E hr h => ?_), hm, F.kp, bd⟩
  obtain ⟨x, y, z, s, rfl, h⟩ := h
  refine ⟨_, (pss_cons (ps_if (PW.pt (pw_and (pt_cmpR op_eq (pv 0) pe_str (nomark _)) (pw_and1 (pt_cmpR o_inZ (pv 3) pe_str rfl)))) (pss_one (ps_ret (pe_tup (pa_cons pe_str (pa_cons pe_int (pa_cons (pv 2) pa_nil)))))) pss_nil) (pss_cons (ps_if (PW.pt (pw_and (pt_cmpR op_eq (pv 0) pe_str (nomark _)) (pw_and1 (PW.pt (pw_or (pt_cmpR op_eq (pv 3) pe_str (nomark _)) (pw_or1 (pt_cmpR op_eq (pv 3) pe_str (nomark _)))))))) (pss_one (ps_ret (pe_tup (pa_cons pe_str (pa_cons (pe_op op_add (pv 1) pe_int) (pa_cons (pv 2) pa_nil)))))) pss_nil) (pss_cons (ps_if (PW.pt (pw_and (pt_cmpR op_eq (pv 0) pe_str (nomark _)) (pw_and1 (pt_cmpR op_eq (pv 3) pe_str (nomark _))))) (pss_one (ps_ret (pe_tup (pa_cons pe_str (pa_cons pe_int (pa_cons (pv 2) pa_nil)))))) pss_nil) (pss_cons (ps_if (PW.pt (pw_or (pt_cmpR op_ne (pv 0) pe_str (nomark _)) (pw_or (pt_cmpR op_eq (pv 1) pe_int (nomark _)) (pw_or (pt_cmpR o_ltS (pv 3) pe_str (nomark _)) (pw_or1 (pt_cmpR o_gtS (pv 3) pe_str (nomark _))))))) (pss_one (ps_ret pe_non)) pss_nil) (pss_cons (ps_if (pt_cmpR op_eq (pv 3) pe_str (nomark _)) (pss_one (ps_ret (pe_tup (pa_cons pe_str (pa_cons (pv 1) (pa_cons (pv 2) pa_nil)))))) pss_nil) (pss_one (ps_ret (pe_tup (pa_cons pe_str (pa_cons (pe_op op_add (pv 1) pe_int) (pa_cons (pv 2) pa_nil))))))))))), ?_⟩
  show (_ : TS) _ [some x, some y, some z, some s] H
  first | dsimp only [L2.cxOf] | skip
  obtain ⟨w, n, inn, c, rfl, rfl, hz, rfl, hw, q, qn⟩ := h
  have fin : ∀ (w' : Wd) (n' : Nat), withinR w n inn c = some ⟨w', n', inn⟩ → ∀ (x : V), x = .int (n' : Int) → ∀ p, Fresh H p → Q (.ref p) (upd H p (.tup [.str (wdS w'), x, z])) := fun w' n' hb x hx p9 n9 => by
    subst hx
    exact q ⟨w', n', inn⟩ (.ref p9) _ hb (Fr.new (Fr.refl _) n9) (.tup upd_same (.cons (.str _) (.cons (.int _) (.cons (hz.upd n9) .nil))))
  rcases hw with rfl | rfl | rfl
  · walk_at "rd"
    rw [nz_mem]
    refine x_dec (fun c1 => ?_) (fun c1 => ?_)
    · walk_at "rd"
      exact fin .figures 1 (by unfold withinR; rw [if_pos ⟨rfl, c1⟩]) _ rfl
    · walk_at "rd"
      exact qn (by unfold withinR; rw [if_neg (fun h => c1 h.2), if_neg (by rintro ⟨h, _⟩; cases h), if_neg (by rintro ⟨h, _⟩; cases h), if_pos (.inl (fun e => nomatch e))]) _ (Fr.refl _)
  · walk_at "rd"
    rw [sg_eqC c 34 _ sg_q]
    refine x_dec (fun c34 => ?_) (fun c34 => ?_)
    · walk_at "rd"
      exact fin .behind 0 (by unfold withinR; rw [if_neg (by rintro ⟨h, _⟩; cases h), if_neg (by rintro ⟨h, _⟩; cases h), if_pos ⟨rfl, c34⟩]) _ rfl
    walk_at "rd"
    have none0 : n = 40 ∨ c < 32 ∨ 126 < c → withinR .text n inn c = none := fun h => by
      unfold withinR; rw [if_neg (by rintro ⟨h, _⟩; cases h), if_neg (by rintro ⟨h, _⟩; cases h), if_neg (fun h => c34 h.2), if_pos (.inr h)]
    refine x_dec (fun c40 => ?_) (fun c40 => ?_)
    · walk_at "rd"
      exact qn (none0 (.inl (by omega))) _ (Fr.refl _)
    walk_at "rd"
    rw [sg_lt]
    refine x_dec (fun c32 => ?_) (fun c32 => ?_)
    · walk_at "rd"
      exact qn (none0 (.inr (.inl c32))) _ (Fr.refl _)
    walk_at "rd"
    rw [sg_gt]
    refine x_dec (fun c126 => ?_) (fun c126 => ?_)
    · walk_at "rd"
      exact qn (none0 (.inr (.inr c126))) _ (Fr.refl _)
    have hno : ¬ (n = 40 ∨ c < 32 ∨ 126 < c) := by omega
    have e1 := within_text (inn := inn) (n := n) (c := c) (by omega) c34
    rw [if_neg (by omega)] at e1
    walk_at "rd"
    rw [sg_eqC c 92 _ sg_b]
    refine x_dec (fun c92 => ?_) (fun c92 => ?_)
    · walk_at "rd"
      exact fin .freed n (by rw [e1, if_pos c92]) _ rfl
    walk_at "rd"
    exact fin .text (n + 1) (by rw [e1, if_neg c92]) _ rfl
  · have e1 := within_freed (inn := inn) (n := n) (c := c)
    walk_at "rd"
    rw [sg_eqC c 34 _ sg_q]
    refine x_dec (fun c34 => ?_) (fun c34 => ?_)
    · walk_at "rd"
      exact fin .text (n + 1) (by rw [e1, if_pos (.inl c34)]) _ rfl
    walk_at "rd"
    rw [sg_eqC c 92 _ sg_b]
    refine x_dec (fun c92 => ?_) (fun c92 => ?_)
    · walk_at "rd"
      exact fin .text (n + 1) (by rw [e1, if_pos (.inr c92)]) _ rfl
    walk_at "rd"
    exact qn (by rw [e1, if_neg (by rintro (h | h); exact c34 h; exact c92 h)]) _ (Fr.refl _)
end

-- the def top 23
theorem sc_law_begun : FnScope ["_law_inner", "_law_sign", "_law_up"] ["_law_inner", "_law_sign"] (defScope s_law_begun) := ⟨rfl, rfl, rfl, by decide +kernel, rfl, by decide +kernel, by decide +kernel⟩
def B_law_begun : BK2 := fun x y H Q _ => ∃ (inn : List Nat) (c : Nat), Dt H x (.tuple (innD inn)) ∧ y = .str ⟨#[c]⟩ ∧ inn.length ≤ 3 ∧
  (∀ s v H', begunR inn c = some s → Fr Non H H' → Dt H' v (stD s) → Q v H') ∧ (begunR inn c = none → ∀ H', Fr Non H H' → Q .non H')
section
variable {P : Program} {w : World} {K : PySem.W.Frag} {mg : Str → Option Value} {base : Heap}
theorem ok_law_begun (T : TX K mg) : CalX P w K mg base 1 "_law_begun" ["_law_inner", "_law_sign"] (Sp2 (B_law_begun)) := by
  obtain ⟨f, fd, F, hm, bd⟩ := T.d_law_begun.ex
  refine ⟨f, fd, F.okX sc_law_begun len2 (fun cdv A outer s H vs Q E hr h => ?_), hm, F.kp, bd⟩
  obtain ⟨x, y, rfl, h⟩ := h
  refine ⟨_, (pss_cons (ps_set (i := 2) sc_law_begun.nd rfl (Or.inl rfl) (pv 0)) (pss_cons (ps_if (pt_cmpR (op_neD hr.units) (pv 0) (pe_tup pa_nil) (nomark _)) (pss_one (ps_set (i := 2) sc_law_begun.nd rfl (Or.inl rfl) (pe_op op_catA (pe_slice sl_tupA (pv 0) po_none (po_some (pe_un un_neg pe_int))) (pe_tup (pa_cons (pe_op op_add (pe_ix ix_tup (pv 0) (pe_un un_neg pe_int) (fun _ _ => rfl)) pe_int) pa_nil))))) pss_nil) (pss_cons (ps_if (pt_cmpR op_eq (pv 1) pe_str (nomark _)) (pss_one (ps_ret (pe_tup (pa_cons pe_str (pa_cons pe_int (pa_cons (pv 2) pa_nil)))))) pss_nil) (pss_cons (ps_if (PW.pt (pw_and (pt_cmpR op_eq (pv 1) pe_str (nomark _)) (pw_and1 (pt_cmpR op_lt (pe_callB c_len (by rfl) T.b_len (by decide +kernel) (pa_cons (pv 0) pa_nil)) pe_int (nomark _))))) (pss_one (ps_ret (pe_tup (pa_cons pe_str (pa_cons pe_int (pa_cons (pe_op op_catA (pv 2) (pe_tup (pa_cons pe_int pa_nil))) pa_nil)))))) pss_nil) (pss_cons (ps_if (pt_cmpR op_eq (pv 1) pe_str (nomark _)) (pss_one (ps_ret (pe_tup (pa_cons pe_str (pa_cons pe_int (pa_cons (pv 2) pa_nil)))))) pss_nil) (pss_cons (ps_if (pt_cmpR op_eq (pv 1) pe_str (nomark _)) (pss_one (ps_ret (pe_tup (pa_cons pe_str (pa_cons pe_int (pa_cons (pv 2) pa_nil)))))) pss_nil) (pss_cons (ps_if (pt_cmpR o_inZ (pv 1) pe_str rfl) (pss_one (ps_ret (pe_tup (pa_cons pe_str (pa_cons pe_int (pa_cons (pv 2) pa_nil)))))) pss_nil) (pss_one (ps_ret pe_non))))))))), ?_⟩
  show (_ : TS) _ [some x, some y, none] H
  first | dsimp only [L2.cxOf] | skip
  obtain ⟨inn, c, hx, rfl, hl, q, qn⟩ := h
  cases hx with
  | @tup a xs _ ha hxs =>
  have hxl : xs.length = inn.length := by rw [hxs.length, innD_len]
  walk_at "rd"
  intro p np
  have ha1 : upd H p (.tup []) a = some (.tup xs) := keepU ha np
  have hxs1 := hxs.upd (o := .tup []) np
  have f1 : Fr Non H (upd H p (.tup [])) := Fr.new (Fr.refl _) np
  have hp1 : upd H p (.tup []) p = some (.tup []) := upd_same
  generalize upd H p (.tup []) = H1 at ha1 hxs1 f1 hp1 ⊢
  refine x_neD (d := .tuple (innD inn)) (e := .tuple []) (Dt.dp _ _ (.tup ha1 hxs1)) (Dt.dp _ _ (.tup hp1 .nil)) (inn_shaped inn) (by decide) ?_
  rw [inn_eqv]
  walk_at "rd"
  refine x_ndec (fun hi => ?_) (fun hi => ?_)
  · obtain ⟨j, u, rfl⟩ : ∃ j u, inn = j :: u := by
      cases inn with
      | nil => exact absurd rfl hi
      | cons j u => exact ⟨j, u, rfl⟩
    walk_at "rd"
    refine x_slD ha1 hxs1 fun p2 H2 f2 h2 => ?_
    rw [cut_init _ (by rw [hxl, innD_len]), innD_cons, List.dropLast_concat] at h2
    cases h2 with
    | @tup _ ys _ h2a h2b =>
    have ha2 := f2.tup _ _ ha1
    have hxs2 := hxs1.mono f2
    have f02 := f1.trans f2
    obtain ⟨vl, gl, kl⟩ := hxs2.last (d := .int (j : Int)) (by rw [innD_cons, List.getLast?_concat])
    cases kl
    have hyl : ys.length = u.length := by rw [h2b.length, innD_len]
    rw [List.length_cons] at hl
    walk_at "rd"
    intro p3 n3
    have ha3 := keepU (u := .tup [.int ((j : Int) + 1)]) ha2 n3
    have h2a3 := keepU (u := .tup [.int ((j : Int) + 1)]) h2a n3
    have h2b3 := h2b.upd (o := .tup [.int ((j : Int) + 1)]) n3
    have hxs3 := hxs2.upd (o := .tup [.int ((j : Int) + 1)]) n3
    have f03 : Fr Non H (upd H2 p3 (.tup [.int ((j : Int) + 1)])) := Fr.new f02 n3
    have hp3 : upd H2 p3 (.tup [.int ((j : Int) + 1)]) p3 = some (.tup [.int ((j : Int) + 1)]) := upd_same
    generalize upd H2 p3 (.tup [.int ((j : Int) + 1)]) = H3 at ha3 h2a3 h2b3 hxs3 f03 hp3 ⊢
    refine x_catD h2a3 hp3 h2b3 (.one (.int _)) (by rw [List.length_singleton]; omega) fun p4 H4 f4 h4 => ?_
    have hu : Dt H4 (.ref p4) (.tuple (innD (upI (j :: u)))) := by
      rw [show upI (j :: u) = (j + 1) :: u from rfl, innD_cons]; exact h4
    have f04 := f03.trans f4
    have ha4 := f4.tup _ _ ha3
    have hbl := hl
    have hil : (j :: u).length ≤ 3 := by rw [List.length_cons]; exact hl
    cases hu with
    | @tup _ us _ hua hub =>
    have hul : us.length ≤ 3 := by
      rw [hub.length, innD_len]
      exact Nat.le_trans (Nat.le_of_eq (by first | rfl | simp [upI])) hil
    have hul0 : us.length = (j :: u).length := by rw [hub.length, innD_len]; rfl
    have hud : Dt H4 (.ref p4) (.tuple (innD (upI (j :: u)))) := .tup hua hub
    have fin : ∀ (w : Wd) (n : Nat), begunR (j :: u) c = some ⟨w, n, upI (j :: u)⟩ → ∀ (x : V), x = .int (n : Int) → ∀ p, Fresh H4 p → Q (.ref p) (upd H4 p (.tup [.str (wdS w), x, .ref p4])) := fun w n hb x hx p9 n9 => by
      subst hx
      exact q ⟨w, n, upI (j :: u)⟩ (.ref p9) _ hb (Fr.new f04 n9) (.tup upd_same (.cons (.str _) (.cons (.int _) (.cons (hud.upd n9) .nil))))
    walk_at "rd"
    rw [sg_eqC c 34 _ sg_q]
    refine x_dec (fun c34 => ?_) (fun c34 => ?_)
    · walk_at "rd"
      exact fin .text 0 (by unfold begunR; rw [if_pos c34]) _ rfl
    walk_at "rd"
    rw [sg_eqC c 40 _ sg_o]
    refine x_dec (fun c40 => ?_) (fun c40 => ?_)
    · walk_at "rd"
      refine x_dec (fun c3 => ?_) (fun c3 => ?_)
      · walk_at "rd"
        intro p5 n5
        walk_at "rd"
        refine x_catD (keepU hua n5) upd_same (hub.upd n5) (.one (.int _)) (by rw [List.length_singleton]; omega) fun p6 H6 f6 h6 => ?_
        walk_at "rd"
        intro p7 n7
        refine q ⟨.opened, 0, 0 :: upI (j :: u)⟩ (.ref p7) _ (by unfold begunR; rw [if_neg c34, if_pos ⟨c40, by first | (rw [← hxl]; omega) | decide⟩]) (Fr.new ((Fr.new f04 n5).trans f6) n7) (.tup upd_same (.cons (.str _) (.cons (.int _) (.cons (Dt.upd (by rw [innD_cons]; exact h6) n7) .nil))))
      · have h40 : ¬ (c = 40 ∧ (j :: u).length < 3) := fun h => c3 (by have := h.2; first | omega | (rw [hul0]; decide))
        walk_at "rd"
        rw [sg_eqC c 45 _ (by decide +kernel)]
        refine x_dec (fun c45 => ?_) (fun c45 => ?_)
        · walk_at "rd"
          exact fin .minus 0 (by unfold begunR; rw [if_neg c34, if_neg h40, if_pos c45]) _ rfl
        walk_at "rd"
        rw [sg_eqC c 48 _ (by decide +kernel)]
        refine x_dec (fun c48 => ?_) (fun c48 => ?_)
        · walk_at "rd"
          exact fin .behind 0 (by unfold begunR; rw [if_neg c34, if_neg h40, if_neg c45, if_pos c48]) _ rfl
        walk_at "rd"
        rw [nz_mem]
        refine x_dec (fun c49 => ?_) (fun c49 => ?_)
        · walk_at "rd"
          exact fin .figures 1 (by unfold begunR; rw [if_neg c34, if_neg h40, if_neg c45, if_neg c48, if_pos c49]) _ rfl
        walk_at "rd"
        exact qn (by unfold begunR; rw [if_neg c34, if_neg h40, if_neg c45, if_neg c48, if_neg c49]) _ f04
    · have h40 : ¬ (c = 40 ∧ (j :: u).length < 3) := fun h => c40 h.1
      walk_at "rd"
      rw [sg_eqC c 45 _ (by decide +kernel)]
      refine x_dec (fun c45 => ?_) (fun c45 => ?_)
      · walk_at "rd"
        exact fin .minus 0 (by unfold begunR; rw [if_neg c34, if_neg h40, if_pos c45]) _ rfl
      walk_at "rd"
      rw [sg_eqC c 48 _ (by decide +kernel)]
      refine x_dec (fun c48 => ?_) (fun c48 => ?_)
      · walk_at "rd"
        exact fin .behind 0 (by unfold begunR; rw [if_neg c34, if_neg h40, if_neg c45, if_pos c48]) _ rfl
      walk_at "rd"
      rw [nz_mem]
      refine x_dec (fun c49 => ?_) (fun c49 => ?_)
      · walk_at "rd"
        exact fin .figures 1 (by unfold begunR; rw [if_neg c34, if_neg h40, if_neg c45, if_neg c48, if_pos c49]) _ rfl
      walk_at "rd"
      exact qn (by unfold begunR; rw [if_neg c34, if_neg h40, if_neg c45, if_neg c48, if_neg c49]) _ f04
  · subst hi
    walk_at "rd"
    have hu : Dt H1 (.ref a) (.tuple (innD (upI ([] : List Nat)))) := .tup ha1 hxs1
    have f04 := f1
    have ha4 := ha1
    have hil : ([] : List Nat).length ≤ 3 := Nat.zero_le _
    cases hu with
    | @tup _ us _ hua hub =>
    have hul : us.length ≤ 3 := by
      rw [hub.length, innD_len]
      exact Nat.le_trans (Nat.le_of_eq (by first | rfl | simp [upI])) hil
    have hul0 : us.length = ([] : List Nat).length := by rw [hub.length, innD_len]; rfl
    have hud : Dt H1 (.ref a) (.tuple (innD (upI ([] : List Nat)))) := .tup hua hub
    have fin : ∀ (w : Wd) (n : Nat), begunR ([] : List Nat) c = some ⟨w, n, upI ([] : List Nat)⟩ → ∀ (x : V), x = .int (n : Int) → ∀ p, Fresh H1 p → Q (.ref p) (upd H1 p (.tup [.str (wdS w), x, .ref a])) := fun w n hb x hx p9 n9 => by
      subst hx
      exact q ⟨w, n, upI ([] : List Nat)⟩ (.ref p9) _ hb (Fr.new f04 n9) (.tup upd_same (.cons (.str _) (.cons (.int _) (.cons (hud.upd n9) .nil))))
    walk_at "rd"
    rw [sg_eqC c 34 _ sg_q]
    refine x_dec (fun c34 => ?_) (fun c34 => ?_)
    · walk_at "rd"
      exact fin .text 0 (by unfold begunR; rw [if_pos c34]) _ rfl
    walk_at "rd"
    rw [sg_eqC c 40 _ sg_o]
    refine x_dec (fun c40 => ?_) (fun c40 => ?_)
    · walk_at "rd"
      refine x_dec (fun c3 => ?_) (fun c3 => ?_)
      · walk_at "rd"
        intro p5 n5
        walk_at "rd"
        refine x_catD (keepU hua n5) upd_same (hub.upd n5) (.one (.int _)) (by rw [List.length_singleton]; omega) fun p6 H6 f6 h6 => ?_
        walk_at "rd"
        intro p7 n7
        refine q ⟨.opened, 0, 0 :: upI ([] : List Nat)⟩ (.ref p7) _ (by unfold begunR; rw [if_neg c34, if_pos ⟨c40, by first | (rw [← hxl]; omega) | decide⟩]) (Fr.new ((Fr.new f04 n5).trans f6) n7) (.tup upd_same (.cons (.str _) (.cons (.int _) (.cons (Dt.upd (by rw [innD_cons]; exact h6) n7) .nil))))
      · have h40 : ¬ (c = 40 ∧ ([] : List Nat).length < 3) := fun h => c3 (by have := h.2; first | omega | (rw [hul0]; decide))
        walk_at "rd"
        rw [sg_eqC c 45 _ (by decide +kernel)]
        refine x_dec (fun c45 => ?_) (fun c45 => ?_)
        · walk_at "rd"
          exact fin .minus 0 (by unfold begunR; rw [if_neg c34, if_neg h40, if_pos c45]) _ rfl
        walk_at "rd"
        rw [sg_eqC c 48 _ (by decide +kernel)]
        refine x_dec (fun c48 => ?_) (fun c48 => ?_)
        · walk_at "rd"
          exact fin .behind 0 (by unfold begunR; rw [if_neg c34, if_neg h40, if_neg c45, if_pos c48]) _ rfl
        walk_at "rd"
        rw [nz_mem]
        refine x_dec (fun c49 => ?_) (fun c49 => ?_)
        · walk_at "rd"
          exact fin .figures 1 (by unfold begunR; rw [if_neg c34, if_neg h40, if_neg c45, if_neg c48, if_pos c49]) _ rfl
        walk_at "rd"
        exact qn (by unfold begunR; rw [if_neg c34, if_neg h40, if_neg c45, if_neg c48, if_neg c49]) _ f04
    · have h40 : ¬ (c = 40 ∧ ([] : List Nat).length < 3) := fun h => c40 h.1
      walk_at "rd"
      rw [sg_eqC c 45 _ (by decide +kernel)]
      refine x_dec (fun c45 => ?_) (fun c45 => ?_)
      · walk_at "rd"
        exact fin .minus 0 (by unfold begunR; rw [if_neg c34, if_neg h40, if_pos c45]) _ rfl
      walk_at "rd"
      rw [sg_eqC c 48 _ (by decide +kernel)]
      refine x_dec (fun c48 => ?_) (fun c48 => ?_)
      · walk_at "rd"
        exact fin .behind 0 (by unfold begunR; rw [if_neg c34, if_neg h40, if_neg c45, if_pos c48]) _ rfl
      walk_at "rd"
      rw [nz_mem]
      refine x_dec (fun c49 => ?_) (fun c49 => ?_)
      · walk_at "rd"
        exact fin .figures 1 (by unfold begunR; rw [if_neg c34, if_neg h40, if_neg c45, if_neg c48, if_pos c49]) _ rfl
      walk_at "rd"
      exact qn (by unfold begunR; rw [if_neg c34, if_neg h40, if_neg c45, if_neg c48, if_neg c49]) _ f04
end

-- the def top 25
theorem sc_law_step : FnScope ["_law_state", "_law_sign", "_law_many", "_law_word", "_law_count", "_law_inner"] ["_law_state", "_law_sign", "_law_many"] (defScope s_law_step) := ⟨rfl, rfl, rfl, by decide +kernel, rfl, by decide +kernel, by decide +kernel⟩
def B_law_step : BK3 := fun x s y H Q _ => ∃ (r : Rs) (c : Nat) (m : Bool), Dt H x (stD r) ∧ s = .str ⟨#[c]⟩ ∧ y = .bl m ∧ r.inn.length ≤ 3 ∧
  (∀ t v H', stepR m r c = some t → Fr Non H H' → Dt H' v (stD t) → Q v H') ∧ (stepR m r c = none → ∀ H', Fr Non H H' → Q .non H')
section
variable {P : Program} {w : World} {K : PySem.W.Frag} {mg : Str → Option Value} {base : Heap}
theorem ok_law_step (T : TX K mg) : CalX P w K mg base 2 "_law_step" ["_law_state", "_law_sign", "_law_many"] (Sp3 (B_law_step)) := by
  have C_law_within := ok_law_within (P := P) (w := w) (base := base) T
  have C_law_begun := ok_law_begun (P := P) (w := w) (base := base) T
  obtain ⟨f, fd, F, hm, bd⟩ := T.d_law_step.ex
  refine ⟨f, fd, F.okX sc_law_step len3 (fun cdv A outer s H vs Q E hr h => ?_), hm, F.kp, bd⟩
  obtain ⟨x, s, y, rfl, h⟩ := h
  refine ⟨_, (pss_cons (ps_asg (pv 0) (pg_tup rfl (pgs_cons (pg_name (i := 3) sc_law_step.nd rfl (Or.inl rfl)) (pgs_cons (pg_name (i := 4) sc_law_step.nd rfl (Or.inl rfl)) (pgs_cons (pg_name (i := 5) sc_law_step.nd rfl (Or.inl rfl)) pgs_nil))))) (pss_cons (ps_if (pt_cmpR (op_inD (u65 hr)) (pv 3) (pe_lst (pa_cons pe_str (pa_cons pe_str (pa_cons pe_str pa_nil)))) rfl) (pss_one (ps_ret (pcall C_law_within hr (by first | decide | omega) rfl Passes.none (pa_cons (pv 3) (pa_cons (pv 4) (pa_cons (pv 5) (pa_cons (pv 1) pa_nil))))))) pss_nil) (pss_cons (ps_if (PW.pt (pw_and (pt_cmpR op_eq (pv 3) pe_str (nomark _)) (pw_and1 (pt_cmpR op_eq (pv 1) pe_str (nomark _))))) (pss_one (ps_ret (pe_tup (pa_cons pe_str (pa_cons pe_int (pa_cons (pe_slice sl_tupA (pv 5) po_none (po_some (pe_un un_neg pe_int))) pa_nil)))))) pss_nil) (pss_cons (ps_if (pt_cmpR (op_inD (u65 hr)) (pv 3) (pe_lst (pa_cons pe_str (pa_cons pe_str pa_nil))) rfl) (pss_one (ps_ret (pcall C_law_begun hr (by first | decide | omega) rfl Passes.none (pa_cons (pv 5) (pa_cons (pv 1) pa_nil))))) pss_nil) (pss_cons (ps_if (PW.pt (pw_and (pt_cmpR op_eq (pv 3) pe_str (nomark _)) (pw_and (pt_cmpR o_inZ (pv 1) pe_str rfl) (pw_and1 (pt_cmpR op_lt (pv 4) pe_int (nomark _)))))) (pss_one (ps_ret (pe_tup (pa_cons pe_str (pa_cons (pe_op op_add (pv 4) pe_int) (pa_cons (pv 5) pa_nil)))))) pss_nil) (pss_cons (ps_if (PW.pt (pw_and (pt_cmpR op_eq (pv 1) pe_str (nomark _)) (pw_and1 (pt_cmpR (op_neD hr.units) (pv 5) (pe_tup pa_nil) (nomark _))))) (pss_one (ps_ret (pe_tup (pa_cons pe_str (pa_cons pe_int (pa_cons (pe_slice sl_tupA (pv 5) po_none (po_some (pe_un un_neg pe_int))) pa_nil)))))) pss_nil) (pss_cons (ps_if (PW.pt (pw_and (pt_cmpR op_eq (pv 1) pe_str (nomark _)) (pw_and1 (PW.pt (pw_or (PW.pt (pw_and (pt_cmpR (op_eqD hr.units) (pv 5) (pe_tup pa_nil) (nomark _)) (pw_and1 (pt_val (pv 2))))) (pw_or1 (PW.pt (pw_and (pt_cmpR (op_neD hr.units) (pv 5) (pe_tup pa_nil) (nomark _)) (pw_and1 (pt_cmpR op_lt (pe_ix ix_tup (pv 5) (pe_un un_neg pe_int) (fun _ _ => rfl)) pe_int (nomark _))))))))))) (pss_one (ps_ret (pe_tup (pa_cons pe_str (pa_cons pe_int (pa_cons (pv 5) pa_nil)))))) pss_nil) (pss_one (ps_ret pe_non))))))))), ?_⟩
  show (_ : TS) _ [some x, some s, some y, none, none, none] H
  first | dsimp only [L2.cxOf] | skip
  obtain ⟨⟨w, n, inn⟩, c, m, hx, rfl, rfl, hl, q, qn⟩ := h
  have hl : inn.length ≤ 3 := hl
  have hx : Dt H x (.tuple [.str (wdS w), .int (n : Int), .tuple (innD inn)]) := hx
  cases hx with
  | @tup a xs _ ha hxs =>
  cases hxs with
  | cons h0 hxs =>
  cases hxs with
  | cons h1 hxs =>
  cases hxs with
  | cons h2 hxs =>
  cases hxs
  cases h0
  cases h1
  cases h2 with
  | @tup b ys _ hb hys =>
  have hyl : ys.length = inn.length := by rw [hys.length, innD_len]
  walk_at "rd"
  intro p np
  have hb1 := keepU (u := .lst [.str "minus", .str "text", .str "freed"]) hb np
  have hys1 := hys.upd (o := .lst [.str "minus", .str "text", .str "freed"]) np
  have f1 : Fr Non H (upd H p (.lst [.str "minus", .str "text", .str "freed"])) := Fr.new (Fr.refl _) np
  have hp1 : upd H p (.lst [.str "minus", .str "text", .str "freed"]) p = some (.lst [.str "minus", .str "text", .str "freed"]) := upd_same
  generalize upd H p (.lst [.str "minus", .str "text", .str "freed"]) = H1 at hb1 hys1 f1 hp1 ⊢
  refine x_inD (d := .str (wdS w)) (ds := [.str "minus", .str "text", .str "freed"]) (.str _) (.lst (SqL.of hp1) (.cons (.str _) (.cons (.str _) (.cons (.str _) .nil)))) (wd_ok w) (by decide +kernel) ?_
  rw [any3]
  walk_at "rd"
  refine x_dec (fun hw => ?_) (fun hw => ?_)
  · walk_at "rd"
    exact ⟨w, n, inn, c, rfl, rfl, .tup hb1 hys1, rfl, hw, fun t v H2 ht f2 h2 => q t v H2 (by rw [step_within hw]; exact ht) (f1.trans f2) h2, fun ht H2 f2 => qn (by rw [step_within hw]; exact ht) H2 (f1.trans f2)⟩
  cases w with
  | minus => exact absurd (.inl rfl) hw
  | text => exact absurd (.inr (.inl rfl)) hw
  | freed => exact absurd (.inr (.inr rfl)) hw
  | wanted =>
    walk_at "rd"
    intro p2 n2
    refine x_inD (d := .str (wdS .wanted)) (ds := [.str "opened", .str "wanted"]) (.str _) (.lst (SqL.of upd_same) (.cons (.str _) (.cons (.str _) .nil))) (wd_ok _) (by decide +kernel) ?_
    rw [any2]
    walk_at "rd"
    exact ⟨inn, c, .tup (keepU hb1 n2) (hys1.upd n2), rfl, hl, fun t v H2 ht f2 h2 => q t v H2 (by rw [step_wanted]; exact ht) ((Fr.new f1 n2).trans f2) h2, fun ht H2 f2 => qn (by rw [step_wanted]; exact ht) H2 ((Fr.new f1 n2).trans f2)⟩
  | opened =>
    walk_at "rd"
    rw [sg_eqC c 41 _ sg_c]
    refine x_dec (fun c41 => ?_) (fun c41 => ?_)
    · walk_at "rd"
      refine x_slD hb1 hys1 fun p8 H8 f8 h8 => ?_
      rw [cut_init _ (by rw [hyl, innD_len]), ← innD_tail] at h8
      walk_at "rd"
      intro p9 n9
      exact q ⟨.behind, 0, inn.tail⟩ _ _ (by rw [c41]; exact step_shut) (Fr.new (f1.trans f8) n9) (.tup upd_same (.cons (.str _) (.cons (.int _) (.cons (h8.upd n9) .nil))))
    · walk_at "rd"
      intro p2 n2
      refine x_inD (d := .str (wdS .opened)) (ds := [.str "opened", .str "wanted"]) (.str _) (.lst (SqL.of upd_same) (.cons (.str _) (.cons (.str _) .nil))) (wd_ok _) (by decide +kernel) ?_
      rw [any2]
      walk_at "rd"
      exact ⟨inn, c, .tup (keepU hb1 n2) (hys1.upd n2), rfl, hl, fun t v H2 ht f2 h2 => q t v H2 (by rw [step_opened c41]; exact ht) ((Fr.new f1 n2).trans f2) h2, fun ht H2 f2 => qn (by rw [step_opened c41]; exact ht) H2 ((Fr.new f1 n2).trans f2)⟩
  | figures =>
    walk_at "rd"
    intro p2 n2
    have hb2 := keepU (u := .lst [.str "opened", .str "wanted"]) hb1 n2
    have hys2 := hys1.upd (o := .lst [.str "opened", .str "wanted"]) n2
    have f2 : Fr Non H (upd H1 p2 (.lst [.str "opened", .str "wanted"])) := Fr.new f1 n2
    have hp2 : upd H1 p2 (.lst [.str "opened", .str "wanted"]) p2 = some (.lst [.str "opened", .str "wanted"]) := upd_same
    generalize upd H1 p2 (.lst [.str "opened", .str "wanted"]) = H2 at hb2 hys2 f2 hp2 ⊢
    refine x_inD (d := .str (wdS .figures)) (ds := [.str "opened", .str "wanted"]) (.str _) (.lst (SqL.of hp2) (.cons (.str _) (.cons (.str _) .nil))) (wd_ok _) (by decide +kernel) ?_
    rw [any2]
    walk_at "rd"
    rw [dig_mem]
    refine x_bool (fun hdg => ?_) (fun hdg => ?_)
    · walk_at "rd"
      refine x_dec (fun h60 => ?_) (fun h60 => ?_)
      · walk_at "rd"
        intro p9 n9
        exact q ⟨.figures, n + 1, inn⟩ _ _ (step_fig hdg (by omega)) (Fr.new f2 n9) (.tup upd_same (.cons (.str _) (.cons (.int _) (.cons (Dt.upd (.tup hb2 hys2) n9) .nil))))
      · walk_at "rd"
        rw [sg_eqC c 41 _ sg_c]
        refine x_dec (fun c41 => ?_) (fun c41 => ?_)
        · walk_at "rd"
          intro p7 n7
          have hb7 := keepU (u := .tup []) hb2 n7
          have hys7 := hys2.upd (o := .tup []) n7
          have f7 : Fr Non H (upd H2 p7 (.tup [])) := Fr.new f2 n7
          have hp7 : upd H2 p7 (.tup []) p7 = some (.tup []) := upd_same
          generalize upd H2 p7 (.tup []) = H7 at hb7 hys7 f7 hp7 ⊢
          refine x_neD (d := .tuple (innD inn)) (e := .tuple []) (Dt.dp _ _ (.tup hb7 hys7)) (Dt.dp _ _ (.tup hp7 .nil)) (inn_shaped inn) (by decide) ?_
          rw [inn_eqv]
          walk_at "rd"
          refine x_ndec (fun hne => ?_) (fun hne => ?_)
          · walk_at "rd"
            refine x_slD hb7 hys7 fun p8 H8 f8 h8 => ?_
            rw [cut_init _ (by rw [hyl, innD_len]), ← innD_tail] at h8
            walk_at "rd"
            intro p9 n9
            exact q ⟨.behind, 0, inn.tail⟩ _ _ (by rw [step_figN (.inr (by omega))]; unfold behindR; rw [if_pos ⟨c41, hne⟩]) (Fr.new (f7.trans f8) n9) (.tup upd_same (.cons (.str _) (.cons (.int _) (.cons (h8.upd n9) .nil))))
          · walk_at "rd"
            rw [sg_eqC c 32 _ sg_s]
            refine x_no (decide_eq_false (by omega)) ?_
            walk_at "rd"
            exact qn (by rw [step_figN (.inr (by omega))]; exact behindR_no (.inr hne) (.inl (by omega))) _ f7
        · walk_at "rd"
          rw [sg_eqC c 32 _ sg_s]
          refine x_dec (fun c32 => ?_) (fun c32 => ?_)
          · walk_at "rd"
            intro p7 n7
            have hb7 := keepU (u := .tup []) hb2 n7
            have hys7 := hys2.upd (o := .tup []) n7
            have f7 : Fr Non H (upd H2 p7 (.tup [])) := Fr.new f2 n7
            have hp7 : upd H2 p7 (.tup []) p7 = some (.tup []) := upd_same
            generalize upd H2 p7 (.tup []) = H7 at hb7 hys7 f7 hp7 ⊢
            refine x_eqD (d := .tuple (innD inn)) (e := .tuple []) (Dt.dp _ _ (.tup hb7 hys7)) (Dt.dp _ _ (.tup hp7 .nil)) (inn_shaped inn) (by decide) ?_
            rw [inn_eqv]
            walk_at "rd"
            have yes : ∀ (H8 : Hp), Fr Non H H8 → H8 b = some (.tup ys) → DtAll H8 ys (innD inn) → roomR m inn = true → ∀ p, Fresh H8 p → Q (.ref p) (upd H8 p (.tup [.str (wdS .wanted), .int 0, .ref b])) := fun H8 f8 hb8 hys8 hr p9 n9 =>
              q ⟨.wanted, 0, inn⟩ _ _ (by rw [step_figN (.inr (by omega))]; unfold behindR; rw [if_neg (fun h => c41 h.1), if_pos ⟨c32, hr⟩]) (Fr.new f8 n9) (.tup upd_same (.cons (.str _) (.cons (.int _) (.cons (Dt.upd (.tup hb8 hys8) n9) .nil))))
            refine x_dec (fun hnil => ?_) (fun hnil => ?_)
            · walk_at "rd"
              refine x_bool (fun hm => ?_) (fun hm => ?_)
              · walk_at "rd"
                exact yes _ f7 hb7 hys7 (by rw [hnil]; exact hm)
              · walk_at "rd"
                intro p8 n8
                refine x_neD (d := .tuple (innD inn)) (e := .tuple []) (Dt.dp _ _ (.tup (keepU hb7 n8) (hys7.upd n8))) (Dt.dp _ _ (.tup upd_same .nil)) (inn_shaped inn) (by decide) ?_
                rw [inn_eqv, decide_eq_true hnil]
                walk_at "rd"
                exact qn (by rw [step_figN (.inr (by omega))]; exact behindR_no (.inl c41) (.inr (by rw [hnil]; exact hm))) _ (Fr.new f7 n8)
            · obtain ⟨j, u, hju⟩ : ∃ j u, inn = j :: u := by
                cases inn with
                | nil => exact absurd rfl hnil
                | cons j u => exact ⟨j, u, rfl⟩
              walk_at "rd"
              intro p8 n8
              refine x_neD (d := .tuple (innD inn)) (e := .tuple []) (Dt.dp _ _ (.tup (keepU hb7 n8) (hys7.upd n8))) (Dt.dp _ _ (.tup upd_same .nil)) (inn_shaped inn) (by decide) ?_
              rw [inn_eqv, decide_eq_false hnil]
              have hb8 := keepU (u := .tup []) hb7 n8
              have hys8 := hys7.upd (o := .tup []) n8
              obtain ⟨vl, gl, kl⟩ := hys8.last (d := .int (j : Int)) (by rw [hju, innD_cons, List.getLast?_concat])
              cases kl
              walk_at "rd"
              refine x_dec (fun c4 => ?_) (fun c4 => ?_)
              · walk_at "rd"
                exact yes _ (Fr.new f7 n8) hb8 hys8 (by rw [hju]; exact decide_eq_true (by omega))
              · walk_at "rd"
                exact qn (by rw [step_figN (.inr (by omega))]; exact behindR_no (.inl c41) (.inr (by rw [hju]; exact decide_eq_false (by omega)))) _ (Fr.new f7 n8)
          · walk_at "rd"
            exact qn (by rw [step_figN (.inr (by omega))]; exact behindR_no (.inl c41) (.inl c32)) _ f2
    · walk_at "rd"
      rw [sg_eqC c 41 _ sg_c]
      refine x_dec (fun c41 => ?_) (fun c41 => ?_)
      · walk_at "rd"
        intro p7 n7
        have hb7 := keepU (u := .tup []) hb2 n7
        have hys7 := hys2.upd (o := .tup []) n7
        have f7 : Fr Non H (upd H2 p7 (.tup [])) := Fr.new f2 n7
        have hp7 : upd H2 p7 (.tup []) p7 = some (.tup []) := upd_same
        generalize upd H2 p7 (.tup []) = H7 at hb7 hys7 f7 hp7 ⊢
        refine x_neD (d := .tuple (innD inn)) (e := .tuple []) (Dt.dp _ _ (.tup hb7 hys7)) (Dt.dp _ _ (.tup hp7 .nil)) (inn_shaped inn) (by decide) ?_
        rw [inn_eqv]
        walk_at "rd"
        refine x_ndec (fun hne => ?_) (fun hne => ?_)
        · walk_at "rd"
          refine x_slD hb7 hys7 fun p8 H8 f8 h8 => ?_
          rw [cut_init _ (by rw [hyl, innD_len]), ← innD_tail] at h8
          walk_at "rd"
          intro p9 n9
          exact q ⟨.behind, 0, inn.tail⟩ _ _ (by rw [step_figN (.inl hdg)]; unfold behindR; rw [if_pos ⟨c41, hne⟩]) (Fr.new (f7.trans f8) n9) (.tup upd_same (.cons (.str _) (.cons (.int _) (.cons (h8.upd n9) .nil))))
        · walk_at "rd"
          rw [sg_eqC c 32 _ sg_s]
          refine x_no (decide_eq_false (by omega)) ?_
          walk_at "rd"
          exact qn (by rw [step_figN (.inl hdg)]; exact behindR_no (.inr hne) (.inl (by omega))) _ f7
      · walk_at "rd"
        rw [sg_eqC c 32 _ sg_s]
        refine x_dec (fun c32 => ?_) (fun c32 => ?_)
        · walk_at "rd"
          intro p7 n7
          have hb7 := keepU (u := .tup []) hb2 n7
          have hys7 := hys2.upd (o := .tup []) n7
          have f7 : Fr Non H (upd H2 p7 (.tup [])) := Fr.new f2 n7
          have hp7 : upd H2 p7 (.tup []) p7 = some (.tup []) := upd_same
          generalize upd H2 p7 (.tup []) = H7 at hb7 hys7 f7 hp7 ⊢
          refine x_eqD (d := .tuple (innD inn)) (e := .tuple []) (Dt.dp _ _ (.tup hb7 hys7)) (Dt.dp _ _ (.tup hp7 .nil)) (inn_shaped inn) (by decide) ?_
          rw [inn_eqv]
          walk_at "rd"
          have yes : ∀ (H8 : Hp), Fr Non H H8 → H8 b = some (.tup ys) → DtAll H8 ys (innD inn) → roomR m inn = true → ∀ p, Fresh H8 p → Q (.ref p) (upd H8 p (.tup [.str (wdS .wanted), .int 0, .ref b])) := fun H8 f8 hb8 hys8 hr p9 n9 =>
            q ⟨.wanted, 0, inn⟩ _ _ (by rw [step_figN (.inl hdg)]; unfold behindR; rw [if_neg (fun h => c41 h.1), if_pos ⟨c32, hr⟩]) (Fr.new f8 n9) (.tup upd_same (.cons (.str _) (.cons (.int _) (.cons (Dt.upd (.tup hb8 hys8) n9) .nil))))
          refine x_dec (fun hnil => ?_) (fun hnil => ?_)
          · walk_at "rd"
            refine x_bool (fun hm => ?_) (fun hm => ?_)
            · walk_at "rd"
              exact yes _ f7 hb7 hys7 (by rw [hnil]; exact hm)
            · walk_at "rd"
              intro p8 n8
              refine x_neD (d := .tuple (innD inn)) (e := .tuple []) (Dt.dp _ _ (.tup (keepU hb7 n8) (hys7.upd n8))) (Dt.dp _ _ (.tup upd_same .nil)) (inn_shaped inn) (by decide) ?_
              rw [inn_eqv, decide_eq_true hnil]
              walk_at "rd"
              exact qn (by rw [step_figN (.inl hdg)]; exact behindR_no (.inl c41) (.inr (by rw [hnil]; exact hm))) _ (Fr.new f7 n8)
          · obtain ⟨j, u, hju⟩ : ∃ j u, inn = j :: u := by
              cases inn with
              | nil => exact absurd rfl hnil
              | cons j u => exact ⟨j, u, rfl⟩
            walk_at "rd"
            intro p8 n8
            refine x_neD (d := .tuple (innD inn)) (e := .tuple []) (Dt.dp _ _ (.tup (keepU hb7 n8) (hys7.upd n8))) (Dt.dp _ _ (.tup upd_same .nil)) (inn_shaped inn) (by decide) ?_
            rw [inn_eqv, decide_eq_false hnil]
            have hb8 := keepU (u := .tup []) hb7 n8
            have hys8 := hys7.upd (o := .tup []) n8
            obtain ⟨vl, gl, kl⟩ := hys8.last (d := .int (j : Int)) (by rw [hju, innD_cons, List.getLast?_concat])
            cases kl
            walk_at "rd"
            refine x_dec (fun c4 => ?_) (fun c4 => ?_)
            · walk_at "rd"
              exact yes _ (Fr.new f7 n8) hb8 hys8 (by rw [hju]; exact decide_eq_true (by omega))
            · walk_at "rd"
              exact qn (by rw [step_figN (.inl hdg)]; exact behindR_no (.inl c41) (.inr (by rw [hju]; exact decide_eq_false (by omega)))) _ (Fr.new f7 n8)
        · walk_at "rd"
          exact qn (by rw [step_figN (.inl hdg)]; exact behindR_no (.inl c41) (.inl c32)) _ f2
  | behind =>
    walk_at "rd"
    intro p2 n2
    have hb2 := keepU (u := .lst [.str "opened", .str "wanted"]) hb1 n2
    have hys2 := hys1.upd (o := .lst [.str "opened", .str "wanted"]) n2
    have f2 : Fr Non H (upd H1 p2 (.lst [.str "opened", .str "wanted"])) := Fr.new f1 n2
    have hp2 : upd H1 p2 (.lst [.str "opened", .str "wanted"]) p2 = some (.lst [.str "opened", .str "wanted"]) := upd_same
    generalize upd H1 p2 (.lst [.str "opened", .str "wanted"]) = H2 at hb2 hys2 f2 hp2 ⊢
    refine x_inD (d := .str (wdS .behind)) (ds := [.str "opened", .str "wanted"]) (.str _) (.lst (SqL.of hp2) (.cons (.str _) (.cons (.str _) .nil))) (wd_ok _) (by decide +kernel) ?_
    rw [any2]
    walk_at "rd"
    rw [sg_eqC c 41 _ sg_c]
    refine x_dec (fun c41 => ?_) (fun c41 => ?_)
    · walk_at "rd"
      intro p7 n7
      have hb7 := keepU (u := .tup []) hb2 n7
      have hys7 := hys2.upd (o := .tup []) n7
      have f7 : Fr Non H (upd H2 p7 (.tup [])) := Fr.new f2 n7
      have hp7 : upd H2 p7 (.tup []) p7 = some (.tup []) := upd_same
      generalize upd H2 p7 (.tup []) = H7 at hb7 hys7 f7 hp7 ⊢
      refine x_neD (d := .tuple (innD inn)) (e := .tuple []) (Dt.dp _ _ (.tup hb7 hys7)) (Dt.dp _ _ (.tup hp7 .nil)) (inn_shaped inn) (by decide) ?_
      rw [inn_eqv]
      walk_at "rd"
      refine x_ndec (fun hne => ?_) (fun hne => ?_)
      · walk_at "rd"
        refine x_slD hb7 hys7 fun p8 H8 f8 h8 => ?_
        rw [cut_init _ (by rw [hyl, innD_len]), ← innD_tail] at h8
        walk_at "rd"
        intro p9 n9
        exact q ⟨.behind, 0, inn.tail⟩ _ _ (by rw [step_behind]; unfold behindR; rw [if_pos ⟨c41, hne⟩]) (Fr.new (f7.trans f8) n9) (.tup upd_same (.cons (.str _) (.cons (.int _) (.cons (h8.upd n9) .nil))))
      · walk_at "rd"
        rw [sg_eqC c 32 _ sg_s]
        refine x_no (decide_eq_false (by omega)) ?_
        walk_at "rd"
        exact qn (by rw [step_behind]; exact behindR_no (.inr hne) (.inl (by omega))) _ f7
    · walk_at "rd"
      rw [sg_eqC c 32 _ sg_s]
      refine x_dec (fun c32 => ?_) (fun c32 => ?_)
      · walk_at "rd"
        intro p7 n7
        have hb7 := keepU (u := .tup []) hb2 n7
        have hys7 := hys2.upd (o := .tup []) n7
        have f7 : Fr Non H (upd H2 p7 (.tup [])) := Fr.new f2 n7
        have hp7 : upd H2 p7 (.tup []) p7 = some (.tup []) := upd_same
        generalize upd H2 p7 (.tup []) = H7 at hb7 hys7 f7 hp7 ⊢
        refine x_eqD (d := .tuple (innD inn)) (e := .tuple []) (Dt.dp _ _ (.tup hb7 hys7)) (Dt.dp _ _ (.tup hp7 .nil)) (inn_shaped inn) (by decide) ?_
        rw [inn_eqv]
        walk_at "rd"
        have yes : ∀ (H8 : Hp), Fr Non H H8 → H8 b = some (.tup ys) → DtAll H8 ys (innD inn) → roomR m inn = true → ∀ p, Fresh H8 p → Q (.ref p) (upd H8 p (.tup [.str (wdS .wanted), .int 0, .ref b])) := fun H8 f8 hb8 hys8 hr p9 n9 =>
          q ⟨.wanted, 0, inn⟩ _ _ (by rw [step_behind]; unfold behindR; rw [if_neg (fun h => c41 h.1), if_pos ⟨c32, hr⟩]) (Fr.new f8 n9) (.tup upd_same (.cons (.str _) (.cons (.int _) (.cons (Dt.upd (.tup hb8 hys8) n9) .nil))))
        refine x_dec (fun hnil => ?_) (fun hnil => ?_)
        · walk_at "rd"
          refine x_bool (fun hm => ?_) (fun hm => ?_)
          · walk_at "rd"
            exact yes _ f7 hb7 hys7 (by rw [hnil]; exact hm)
          · walk_at "rd"
            intro p8 n8
            refine x_neD (d := .tuple (innD inn)) (e := .tuple []) (Dt.dp _ _ (.tup (keepU hb7 n8) (hys7.upd n8))) (Dt.dp _ _ (.tup upd_same .nil)) (inn_shaped inn) (by decide) ?_
            rw [inn_eqv, decide_eq_true hnil]
            walk_at "rd"
            exact qn (by rw [step_behind]; exact behindR_no (.inl c41) (.inr (by rw [hnil]; exact hm))) _ (Fr.new f7 n8)
        · obtain ⟨j, u, hju⟩ : ∃ j u, inn = j :: u := by
            cases inn with
            | nil => exact absurd rfl hnil
            | cons j u => exact ⟨j, u, rfl⟩
          walk_at "rd"
          intro p8 n8
          refine x_neD (d := .tuple (innD inn)) (e := .tuple []) (Dt.dp _ _ (.tup (keepU hb7 n8) (hys7.upd n8))) (Dt.dp _ _ (.tup upd_same .nil)) (inn_shaped inn) (by decide) ?_
          rw [inn_eqv, decide_eq_false hnil]
          have hb8 := keepU (u := .tup []) hb7 n8
          have hys8 := hys7.upd (o := .tup []) n8
          obtain ⟨vl, gl, kl⟩ := hys8.last (d := .int (j : Int)) (by rw [hju, innD_cons, List.getLast?_concat])
          cases kl
          walk_at "rd"
          refine x_dec (fun c4 => ?_) (fun c4 => ?_)
          · walk_at "rd"
            exact yes _ (Fr.new f7 n8) hb8 hys8 (by rw [hju]; exact decide_eq_true (by omega))
          · walk_at "rd"
            exact qn (by rw [step_behind]; exact behindR_no (.inl c41) (.inr (by rw [hju]; exact decide_eq_false (by omega)))) _ (Fr.new f7 n8)
      · walk_at "rd"
        exact qn (by rw [step_behind]; exact behindR_no (.inl c41) (.inl c32)) _ f2
end

-- the def top 26
theorem sc_law_fails : FnScope ["_law_text_here", "_law_many", "_law_state", "_law_k"] ["_law_text_here", "_law_many"] (defScope s_law_fails) := ⟨rfl, rfl, rfl, by decide +kernel, rfl, by decide +kernel, by decide +kernel⟩
def B_law_fails : BK2 := fun x y H Q _ => ∃ (z : Str) (m : Bool), x = .str z ∧ y = .bl m ∧ z.length ≤ 1000000 ∧ ∀ H', Fr Non H H' → Q (.int (failsR m z)) H'
theorem stD_tup {H : Hp} {v : V} {r : Rs} (h : Dt H v (stD r)) : ∃ (a b : Addr) (ys : List V), v = .ref a ∧ H a = some (.tup [.str (wdS r.w), .int (r.n : Int), .ref b]) ∧ H b = some (.tup ys) ∧ DtAll H ys (innD r.inn) := by
  obtain ⟨w, n, inn⟩ := r
  have h : Dt H v (.tuple [.str (wdS w), .int (n : Int), .tuple (innD inn)]) := h
  cases h with
  | @tup a xs _ ha hxs =>
  cases hxs with
  | cons h0 hxs =>
  cases hxs with
  | cons h1 hxs =>
  cases hxs with
  | cons h2 hxs =>
  cases hxs
  cases h0
  cases h1
  cases h2 with
  | @tup b ys _ hb hys =>
  exact ⟨a, b, ys, rfl, ha, hb, hys⟩
theorem cps_nil {z : Str} : z = Str.ofString "" ↔ z.cps.toList = [] := by
  have e : (Str.ofString "").cps.toList = [] := by decide +kernel
  exact ⟨fun h => by rw [h]; exact e, fun h => PySem.W.str_of_cps (by rw [h, e])⟩
section
variable {P : Program} {w : World} {K : PySem.W.Frag} {mg : Str → Option Value} {base : Heap}
theorem ok_law_fails (T : TX K mg) : CalX P w K mg base 3 "_law_fails" ["_law_text_here", "_law_many"] (Sp2 (B_law_fails)) := by
  have C_law_step := ok_law_step (P := P) (w := w) (base := base) T
  obtain ⟨f, fd, F, hm, bd⟩ := T.d_law_fails.ex
  refine ⟨f, fd, F.okX sc_law_fails len2 (fun cdv A outer s H vs Q E hr h => ?_), hm, F.kp, bd⟩
  obtain ⟨x, y, rfl, h⟩ := h
  refine ⟨_, (pss_cons (ps_set (i := 2) sc_law_fails.nd rfl (Or.inl rfl) (pe_tup (pa_cons pe_str (pa_cons pe_int (pa_cons (pe_tup pa_nil) pa_nil))))) (pss_cons (ps_for (passes_of rfl) rfl (pi_range1 rfl T.b_range (pa_cons (pe_callB c_lenZ (by rfl) T.b_len (by decide +kernel) (pa_cons (pv 0) pa_nil)) pa_nil)) (pg_name (i := 3) sc_law_fails.nd rfl (Or.inl rfl)) (pss_cons (ps_set (i := 2) sc_law_fails.nd rfl (Or.inl rfl) (pcall C_law_step hr (by first | decide | omega) rfl Passes.none (pa_cons (pv 2) (pa_cons (pe_ix ix_str (pv 0) (pv 3) (fun _ _ => rfl)) (pa_cons (pv 1) pa_nil))))) (pss_one (ps_if (pt_cmpR o_isN (pv 2) pe_non (nomark _)) (pss_one (ps_ret (pv 3))) pss_nil)))) (pss_cons (ps_if (PW.pt (pw_or (PW.pt (pw_and (pt_cmpR (op_inD (u65 hr)) (pe_ix ix_tup (pv 2) pe_int (fun _ _ => rfl)) (pe_lst (pa_cons pe_str (pa_cons pe_str pa_nil))) rfl) (pw_and1 (pt_cmpR (op_eqD hr.units) (pe_ix ix_tup (pv 2) pe_int (fun _ _ => rfl)) (pe_tup pa_nil) (nomark _))))) (pw_or1 (PW.pt (pw_and (pt_val (pv 1)) (pw_and1 (pt_cmpR op_eq (pv 0) pe_str (nomark _)))))))) (pss_one (ps_ret (pe_un un_neg pe_int))) pss_nil) (pss_one (ps_ret (pe_callB c_lenZ (by rfl) T.b_len (by decide +kernel) (pa_cons (pv 0) pa_nil))))))), ?_⟩
  show (_ : TS) _ [some x, some y, none, none] H
  first | dsimp only [L2.cxOf] | skip
  obtain ⟨z, m, rfl, rfl, hz, q⟩ := h
  have hzl : z.length ≤ sizeLine := Nat.le_trans hz (by decide)
  have hlen := str_len z
  walk_at "rd"
  intro p1 n1
  walk_at "rd"
  intro p2 n2
  have f0 : Fr Non H (upd (upd H p1 (.tup [])) p2 (.tup [.str "wanted", .int 0, .ref p1])) := by walk_at "fr"
  have h0 : Dt (upd (upd H p1 (.tup [])) p2 (.tup [.str "wanted", .int 0, .ref p1])) (.ref p2) (stD ⟨.wanted, 0, []⟩) := .tup upd_same (.cons (.str _) (.cons (.int _) (.cons (.tup (keepU upd_same n2) .nil) .nil)))
  generalize upd (upd H p1 (.tup [])) p2 (.tup [.str "wanted", .int 0, .ref p1]) = H0 at f0 h0 ⊢
  have hbd : -(2 ^ 62) ≤ ((z.length : Nat) : Int) ∧ ((z.length : Nat) : Int) < 2 ^ 62 := by constructor <;> omega
  walk_at "rd"
  refine x_forR (n := z.length) (fun i σ H' => Fr Non H H' ∧ ∃ (r : Rs) (v : V) (v3 : Option V), Dt H' v (stD r) ∧ r.inn.length ≤ 3 ∧ bad m ⟨.wanted, 0, []⟩ z.cps.toList = (bad m r (z.cps.toList.drop i)).map (· + i) ∧ σ = [some (.str z), some (.bl m), some v, v3]) ⟨f0, ⟨.wanted, 0, []⟩, _, _, h0, Nat.zero_le _, (map_zero _).symm, rfl⟩ ?_ ?_
  · rintro i σ H1 hi ⟨f1, r, v, v3, hv, hrl, hb, rfl⟩
    have hi' : i < z.cps.toList.length := by omega
    have ei := List.getElem?_eq_getElem hi'
    have hdi := List.drop_eq_getElem_cons hi'
    generalize z.cps.toList[i] = c at ei hdi
    have ai : atI z.cps.toList (0 + (i : Int)) = some c := by rw [Int.zero_add]; exact atI_nat ei
    rw [hdi] at hb
    walk_at "rd"
    refine ⟨r, c, m, hv, rfl, rfl, hrl, fun t v' H2 ht f2 h2 => ?_, fun ht H2 f2 => ?_⟩
    · obtain ⟨a, b, ys, rfl, _⟩ := stD_tup h2
      walk_at "rd"
      refine ⟨f1.trans f2, t, _, _, h2, step_len ht hrl, ?_, rfl⟩
      rw [hb, bad_some ht, map_add, Nat.add_comm]
    · walk_at "rd"
      have e : failsR m z = 0 + (i : Int) := by
        unfold failsR
        rw [if_neg (by rintro ⟨_, h⟩; rw [h] at hi'; simp at hi'), hb, bad_none ht]
        show ((0 + i : Nat) : Int) = _
        omega
      rw [← e]
      exact q _ (f1.trans f2)
  · rintro σ H1 ⟨f1, r, v, v3, hv, hrl, hb, rfl⟩
    rw [hlen, List.drop_length] at hb
    have hfail : ¬ (m = true ∧ z.cps.toList = []) → failsR m z = if goodR r = true then -1 else (z.length : Int) := fun hn => by
      unfold failsR
      rw [if_neg hn, hb, bad]
      cases goodR r with
      | true => rfl
      | false =>
        show ((0 + z.cps.toList.length : Nat) : Int) = (z.length : Int)
        rw [hlen]; omega
    have hfail2 : m = true ∧ z.cps.toList = [] → failsR m z = -1 := fun h => by unfold failsR; rw [if_pos h]
    obtain ⟨a, b, ys, rfl, ha, hb2, hys⟩ := stD_tup hv
    walk_at "rd"
    intro p3 n3
    have ha3 := keepU (u := .lst [.str "figures", .str "behind"]) ha n3
    have hb3 := keepU (u := .lst [.str "figures", .str "behind"]) hb2 n3
    have hys3 := hys.upd (o := .lst [.str "figures", .str "behind"]) n3
    have f3 : Fr Non H (upd H1 p3 (.lst [.str "figures", .str "behind"])) := Fr.new f1 n3
    have hp3 : upd H1 p3 (.lst [.str "figures", .str "behind"]) p3 = some (.lst [.str "figures", .str "behind"]) := upd_same
    generalize upd H1 p3 (.lst [.str "figures", .str "behind"]) = H3 at ha3 hb3 hys3 f3 hp3 ⊢
    refine x_inD (d := .str (wdS r.w)) (ds := [.str "figures", .str "behind"]) (.str _) (.lst (SqL.of hp3) (.cons (.str _) (.cons (.str _) .nil))) (wd_ok _) (by decide +kernel) ?_
    rw [any2b]
    walk_at "rd"
    refine x_dec (fun hw => ?_) (fun hw => ?_)
    · walk_at "rd"
      intro p4 n4
      refine x_eqD (d := .tuple (innD r.inn)) (e := .tuple []) (Dt.dp _ _ (.tup (keepU hb3 n4) (hys3.upd n4))) (Dt.dp _ _ (.tup upd_same .nil)) (inn_shaped _) (by decide) ?_
      have f4 : Fr Non H (upd H3 p4 (.tup [])) := Fr.new f3 n4
      generalize upd H3 p4 (.tup []) = H4 at f4 ⊢
      rw [inn_eqv]
      walk_at "rd"
      refine x_dec (fun hi => ?_) (fun hi => ?_)
      · have hg : goodR r = true := by unfold goodR; rw [decide_eq_true hw, hi]; rfl
        walk_at "rd"
        have := q _ f4
        by_cases hmz : m = true ∧ z.cps.toList = []
        · rw [hfail2 hmz] at this; exact this
        · rw [hfail hmz, hg] at this; exact this
      · have hg : goodR r = false := by
          unfold goodR
          cases hq : r.inn with
          | nil => exact absurd hq hi
          | cons j u => rw [Bool.and_eq_false_iff]; exact .inr rfl
        walk_at "rd"
        refine x_bool (fun hm => ?_) (fun hm => ?_)
        · walk_at "rd"
          refine x_dec (fun hz0 => ?_) (fun hz0 => ?_)
          · walk_at "rd"
            have := q _ f4
            rw [hfail2 ⟨hm, cps_nil.mp hz0⟩] at this
            exact this
          · walk_at "rd"
            have := q _ f4
            rw [hfail (fun h => hz0 (cps_nil.mpr h.2)), hg] at this
            exact this
        · walk_at "rd"
          have := q _ f4
          rw [hfail (fun h => by rw [hm] at h; cases h.1), hg] at this
          exact this
    · have hg : goodR r = false := by unfold goodR; rw [decide_eq_false hw]; rfl
      walk_at "rd"
      refine x_bool (fun hm => ?_) (fun hm => ?_)
      · walk_at "rd"
        refine x_dec (fun hz0 => ?_) (fun hz0 => ?_)
        · walk_at "rd"
          have := q _ f3
          rw [hfail2 ⟨hm, cps_nil.mp hz0⟩] at this
          exact this
        · walk_at "rd"
          have := q _ f3
          rw [hfail (fun h => hz0 (cps_nil.mpr h.2)), hg] at this
          exact this
      · walk_at "rd"
        have := q _ f3
        rw [hfail (fun h => by rw [hm] at h; cases h.1), hg] at this
        exact this
end

-- the def top 17
theorem sc_law_well : FnScope ["_law_script", "_law_k", "_law_left", "_law_cell", "_law_digits"] ["_law_script", "_law_k"] (defScope s_law_well) := ⟨rfl, rfl, rfl, by decide +kernel, rfl, by decide +kernel, by decide +kernel⟩
def B_law_well (K : PySem.W.Frag) : BK2 := fun s k H Q _ => ∃ (a : Addr) (ns : List Int) (i : Int), s = .ref a ∧ k = .int i ∧ 0 ≤ i ∧ SqL K H a (ns.map V.int) ∧ ns.length ≤ 63 ∧
  ∀ p H', Fr Non H H' → Fresh H p → Well H' p → Q (.ref p) H'
section
variable {P : Program} {w : World} {K : PySem.W.Frag} {mg : Str → Option Value} {base : Heap}
theorem ok_law_well (T : TX K mg) : CalX P w K mg base 1 "_law_well" ["_law_script", "_law_k"] (Sp2 (B_law_well K)) := by
  obtain ⟨f, fd, F, hm, bd⟩ := T.d_law_well.ex
  refine ⟨f, fd, F.okX sc_law_well len2 (fun cdv A outer s H vs Q E hr h => ?_), hm, F.kp, bd⟩
  obtain ⟨s, k, rfl, h⟩ := h
  refine ⟨_, (pss_cons (ps_set (i := 2) sc_law_well.nd rfl (Or.inl rfl) (pe_ix ix_list (pe_lst (pa_cons pe_int (pa_cons pe_int pa_nil))) (pe_callTy c_int (by rfl) T.b_int (by decide +kernel) (pa_cons (pe_cmpR op_eq (pv 1) pe_int (nomark _)) pa_nil)) (fun _ _ => rfl))) (pss_cons (ps_set (i := 3) sc_law_well.nd rfl (Or.inl rfl) (pe_ix ix_list (pe_op op_cat (pe_callTy c_listOf (by rfl) T.b_list (by decide +kernel) (pa_cons (pv 0) pa_nil)) (pe_lst (pa_cons pe_int pa_nil))) (pe_op op_mod (pv 1) (pe_callB (c_max2 rfl) (by rfl) T.b_max (by decide +kernel) (pa_cons pe_int (pa_cons (pe_callB c_len (by rfl) T.b_len (by decide +kernel) (pa_cons (pv 0) pa_nil)) pa_nil)))) (fun _ _ => rfl))) (pss_cons (ps_set (i := 4) sc_law_well.nd rfl (Or.inl rfl) (pe_op op_mul (pe_callB c_abs (by rfl) T.b_abs (by decide +kernel) (pa_cons (pv 3) pa_nil)) (pe_callTy c_int (by rfl) T.b_int (by decide +kernel) (pa_cons (pe_and (pe_cmpR op_ge (pe_callB c_abs (by rfl) T.b_abs (by decide +kernel) (pa_cons (pv 3) pa_nil)) (pe_op op_pow pe_int pe_int) (nomark _)) (pe_one (pe_cmpR op_lt (pv 1) (pe_callB c_len (by rfl) T.b_len (by decide +kernel) (pa_cons (pv 0) pa_nil)) (nomark _)))) pa_nil)))) (pss_one (ps_ret (pe_lst (pa_cons (pe_op op_mod (pv 3) pe_int) (pa_cons (pe_op op_mul pe_int (pv 1)) (pa_cons (pv 4) (pa_cons (pv 2) pa_nil)))))))))), ?_⟩
  show (_ : TS) _ [some s, some k, none, none, none] H
  first | dsimp only [L2.cxOf] | skip
  obtain ⟨a, ns, i, rfl, rfl, hi, hS, hn, q⟩ := h
  have hx : ∃ z : Int, atI (ns.map V.int ++ [V.int 0]) (i % (if ((ns.map V.int).length : Int) > 1 then ((ns.map V.int).length : Int) else 1)) = some (V.int z) := by
    have hm1 : (0 : Int) < (if ((ns.map V.int).length : Int) > 1 then ((ns.map V.int).length : Int) else 1) := by split <;> omega
    have hm2 : (if ((ns.map V.int).length : Int) > 1 then ((ns.map V.int).length : Int) else 1) ≤ ((ns.map V.int ++ [V.int 0]).length : Int) := by
      rw [List.length_append, List.length_singleton]; split <;> omega
    obtain ⟨v, h1, h2⟩ := atI_ex (xs := ns.map V.int ++ [V.int 0]) (Int.emod_nonneg i (by omega)) (Int.lt_of_lt_of_le (Int.emod_lt_of_pos i hm1) hm2)
    have hv : v ∈ ns.map V.int ++ [V.int 0] := List.mem_of_getElem? h2
    rcases List.mem_append.mp hv with hv | hv
    · obtain ⟨z, _, rfl⟩ := List.mem_map.mp hv
      exact ⟨z, h1⟩
    · rw [List.mem_singleton] at hv
      exact ⟨0, by rw [h1, hv]⟩
  have hm1 : (0 : Int) < (if ((ns.map V.int).length : Int) > 1 then ((ns.map V.int).length : Int) else 1) := by split <;> omega
  obtain ⟨z, hz⟩ := hx
  walk_at "rd"
  intro p1 n1
  walk_at "rd"
  intro p2 n2
  walk_at "rd"
  intro p3 n3
  walk_at "rd"
  intro p4 n4
  walk_at "rd"
  refine x_dec (fun _ => ?_) (fun _ => ?_)
  · walk_at "rd"
    intro p5 n5
    exact q _ _ (by walk_at "fr") (by walk_at "nn") ⟨_, _, _, _, upd_same, by omega, by omega⟩
  · walk_at "rd"
    intro p5 n5
    exact q _ _ (by walk_at "fr") (by walk_at "nn") ⟨_, _, _, _, upd_same, by omega, by omega⟩
end

-- the def inClass (top 2) 0
theorem sc_NoText___init__ : FnScope ["self", "at"] ["self", "at"] (defScope s_NoText___init__) := ⟨rfl, rfl, rfl, by decide +kernel, rfl, by decide +kernel, by decide +kernel⟩
section
variable {P : Program} {w : World} {K : PySem.W.Frag} {mg : Str → Option Value} {base : Heap}
theorem ok_NoText___init__ (T : TX K mg) : MkX P w K mg base 1 "NoText" "at" := by
  obtain ⟨fI, fd, F, iC, tI, b⟩ := T.d_NoText___init__.ex
  refine ⟨fI, fd, _, F.okX sc_NoText___init__ len2 (fun cdv A outer s H vs Q E hr h => ?_), iC, tI, b⟩
  obtain ⟨self, y, rfl, a, rfl, ha, q⟩ := h
  refine ⟨_, (pss_cons (ps_expr (pe_owninit rfl T.x_TwigError.m T.bs_TwigError (pa_cons (pv 0) (pa_cons pe_str pa_nil)))) (pss_one (ps_ost (pv 0) (pv 1)))), ?_⟩
  exact x_init T.o_NoText.o T.o_NoText.no ha q
end

-- the def top 9
theorem sc_is_digit : FnScope ["sign"] ["sign"] (defScope s_is_digit) := ⟨rfl, rfl, rfl, by decide +kernel, rfl, by decide +kernel, by decide +kernel⟩
def B_is_digit : BK1 := fun s H Q _ => ∃ o : Option Nat, s = .str (sgO o) ∧ Q (.bl (digO o)) H
section
variable {P : Program} {w : World} {K : PySem.W.Frag} {mg : Str → Option Value} {base : Heap}
theorem ok_is_digit (T : TX K mg) : CalX P w K mg base 1 "is_digit" ["sign"] (Sp1 (B_is_digit)) := by
  obtain ⟨f, fd, F, hm, bd⟩ := T.d_is_digit.ex
  refine ⟨f, fd, F.okX sc_is_digit len1 (fun cdv A outer s H vs Q E hr h => ?_), hm, F.kp, bd⟩
  obtain ⟨s, rfl, h⟩ := h
  refine ⟨_, (pss_one (ps_ret (pe_and (pe_cmpR op_ne (pv 0) pe_str (nomark _)) (pe_one (pe_cmpR o_inZ (pv 0) (pconst T.c_DIGITS rfl) rfl))))), ?_⟩
  show (_ : TS) _ [some s] H
  first | dsimp only [L2.cxOf] | skip
  obtain ⟨o, rfl, q⟩ := h
  cases o with
  | none =>
    walk_at "rd"
    exact q
  | some c =>
    have e : decide (sgO (some c) = Str.ofString "") = false := decide_eq_false fun h => by
      have := congrArg Str.length h
      have e2 : (Str.ofString "").length = 0 := by decide +kernel
      rw [e2] at this
      cases this
    walk_at "rd"
    rw [e]
    walk_at "rd"
    rw [sgO_one]
    walk_at "rd"
    rw [dig_mem]
    exact q
end

-- the def top 10
theorem sc_number_from : FnScope ["text", "at", "begin", "first"] ["text", "at"] (defScope s_number_from) := ⟨rfl, rfl, rfl, by decide +kernel, rfl, by decide +kernel, by decide +kernel⟩
def B_number_from (mg : Str → Option Value) : BK2 := fun t n H Q E => ∃ (z : Str) (k : Nat) (m : Bool) (inn : List Nat), t = .str z ∧ n = .int k ∧ z.length ≤ 1000000 ∧ z.cps.toList[k]? ≠ some 34 ∧ (z.cps.toList[k]? = some 40 → ¬ inn.length < 3) ∧
  (∀ i rest p, numOk i → z.cps.toList.drop k = intL i ++ rest → bad m ⟨.wanted, 0, inn⟩ (z.cps.toList.drop k) = (bad m ⟨.behind, 0, upI inn⟩ rest).map (· + (intL i).length) → Fresh H p → Q (.ref p) (upd H p (.tup [.int i, .int ((k + (intL i).length : Nat) : Int)]))) ∧
  (∀ e, bad m ⟨.wanted, 0, inn⟩ (z.cps.toList.drop k) = some e → Refuses mg H E (k + e))
theorem digO_iff {o : Option Nat} : digO o = true → ∃ c, o = some c ∧ 48 ≤ c ∧ c ≤ 57 := fun h => by
  cases o with
  | none => cases h
  | some c => exact ⟨c, rfl, digC_iff.mp h⟩
section
variable {P : Program} {w : World} {K : PySem.W.Frag} {mg : Str → Option Value} {base : Heap}
theorem ok_number_from (T : TX K mg) : CalX P w K mg base 3 "number_from" ["text", "at"] (Sp2 (B_number_from mg)) := by
  have C_NoText___init__ := ok_NoText___init__ (P := P) (w := w) (base := base) T
  have C_is_digit := ok_is_digit (P := P) (w := w) (base := base) T
  obtain ⟨f, fd, F, hm, bd⟩ := T.d_number_from.ex
  refine ⟨f, fd, F.okX sc_number_from len2 (fun cdv A outer s H vs Q E hr h => ?_), hm, F.kp, bd⟩
  obtain ⟨t, n, rfl, h⟩ := h
  refine ⟨_, (pss_cons (ps_set (i := 2) sc_number_from.nd rfl (Or.inl rfl) (pv 1)) (pss_cons (ps_if (pt_cmpR op_eq (pe_slice sl_str (pv 0) (po_some (pv 1)) (po_some (pe_op op_add (pv 1) pe_int))) pe_str (nomark _)) (pss_one (ps_aug (i := 1) sc_number_from.nd rfl (Or.inl rfl) pe_int ip_add)) pss_nil) (pss_cons (ps_set (i := 3) sc_number_from.nd rfl (Or.inl rfl) (pv 1)) (pss_cons (ps_if (PW.pt (pw_or (pt_not (pt_val (pcall C_is_digit hr (by first | decide | omega) rfl (passes_call (takes_of rfl rfl rfl rfl) (fun _ _ _ _ h => h)) (pa_cons (pe_slice sl_str (pv 0) (po_some (pv 1)) (po_some (pe_op op_add (pv 1) pe_int))) pa_nil)))) (pw_or1 (PW.pt (pw_and (pt_cmpR op_eq (pe_ix ix_str (pv 0) (pv 1) (fun _ _ => rfl)) pe_str (nomark _)) (pw_and1 (pt_cmpR op_gt (pv 3) (pv 2) (nomark _)))))))) (pss_one (ps_raiseI rfl (takes_of rfl rfl rfl rfl) (pmk_I C_NoText___init__ T.o_NoText hr (by first | decide | omega) rfl (pa_cons (pv 1) pa_nil)))) pss_nil) (pss_cons (ps_aug (i := 1) sc_number_from.nd rfl (Or.inl rfl) pe_int ip_add) (pss_cons (ps_while (passes_of rfl) (PW.pt (pw_and (pt_cmpR op_ne (pe_ix ix_str (pv 0) (pv 3) (fun _ _ => rfl)) pe_str (nomark _)) (pw_and1 (pt_val (pcall C_is_digit hr (by first | decide | omega) rfl (passes_call (takes_of rfl rfl rfl rfl) (fun _ _ _ _ h => h)) (pa_cons (pe_slice sl_str (pv 0) (po_some (pv 1)) (po_some (pe_op op_add (pv 1) pe_int))) pa_nil)))))) (pss_cons (ps_if (pt_cmpR op_eq (pe_op op_sub (pv 1) (pv 3)) (pconst T.c_FIGURES rfl) (nomark _)) (pss_one (ps_raiseI rfl (takes_of rfl rfl rfl rfl) (pmk_I C_NoText___init__ T.o_NoText hr (by first | decide | omega) rfl (pa_cons (pv 1) pa_nil)))) pss_nil) (pss_one (ps_aug (i := 1) sc_number_from.nd rfl (Or.inl rfl) pe_int ip_add)))) (pss_one (ps_ret (pe_tup (pa_cons (pe_callTy c_intS (by rfl) T.b_int (by decide +kernel) (pa_cons (pe_slice sl_str (pv 0) (po_some (pv 2)) (po_some (pv 1))) pa_nil)) (pa_cons (pv 1) pa_nil))))))))))), ?_⟩
  show (_ : TS) _ [some t, some n, none, none] H
  first | dsimp only [L2.cxOf] | skip
  obtain ⟨z, k, m, inn, rfl, rfl, hz, n34, n40, q, qe⟩ := h
  have hzl : z.length ≤ sizeLine := Nat.le_trans hz (by decide)
  have hcut : ∀ m : Nat, cutS z (some (m : Int)) (some ((m : Int) + 1)) = sgO z.cps.toList[m]? := fun m => cut_one
  have is48 : ∀ c : Nat, decide ((⟨#[c]⟩ : Str) = Str.ofString "0") = decide (c = 48) := fun c => sg_eqC c 48 _ (by decide +kernel)
  have raise : ∀ (e : Nat) (x : Int), bad m ⟨.wanted, 0, inn⟩ (z.cps.toList.drop k) = some e → x = ((k + e : Nat) : Int) → rMkI (clA mg "NoText") "at" E [.int x] H := fun e x hb hx => by
    subst hx
    exact x_mkI0 fun d nd => qe e hb d _ (Fr.new (Fr.refl _) nd) upd_same
  have em : (((k : Nat) : Int) + 1) = ((k + 1 : Nat) : Int) := by omega
  have dk : ∀ f : Nat, z.cps.toList.drop f = match z.cps.toList[f]? with | some c => c :: z.cps.toList.drop (f + 1) | none => [] := fun f => by
    by_cases hf : f < z.cps.toList.length
    · rw [List.getElem?_eq_getElem hf, List.drop_eq_getElem_cons hf]
    · rw [List.getElem?_eq_none (by omega), List.drop_eq_nil_of_le (by omega)]
  have digB : ∀ c, 49 ≤ c ∧ c ≤ 57 → begunR inn c = some ⟨.figures, 1, upI inn⟩ := fun c h => by
    unfold begunR
    rw [if_neg (by omega), if_neg (by omega), if_neg (by omega), if_neg (by omega), if_pos h]
  walk_at "rd"
  rw [hcut k, sgO_dec _ 45 _ (by decide +kernel)]
  refine x_dec (fun hm => ?_) (fun hm => ?_)
  · -- behind a minus
    have hk0 := dk k
    rw [hm] at hk0
    have hb0 : bad m ⟨.wanted, 0, inn⟩ (z.cps.toList.drop k) = (bad m ⟨.minus, 0, upI inn⟩ (z.cps.toList.drop (k + 1))).map (· + 1) := by
      rw [hk0]
      exact bad_some (by rw [step_wanted]; unfold begunR; rw [if_neg (by decide), if_neg (by rintro ⟨h, _⟩; exact absurd h (by decide)), if_pos rfl])
    walk_at "rd"
    rw [em, hcut (k + 1)]
    refine ⟨_, rfl, ?_⟩
    have d1 := dk (k + 1)
    cases hdF : digO z.cps.toList[k + 1]? with
    | false =>
      walk_at "rd"
      refine raise 1 _ ?_ rfl
      rw [hb0, d1]
      cases hF : z.cps.toList[k + 1]? with
      | none => rfl
      | some c =>
        rw [hF] at hdF
        have hnd : ¬ (48 ≤ c ∧ c ≤ 57) := fun h => by
          have : digC c = true := digC_iff.mpr h
          rw [show digO (some c) = digC c from rfl, this] at hdF; cases hdF
        show (bad m _ (c :: _)).map _ = _
        rw [bad_none]; rfl
        rw [step_minus]
        unfold withinR
        rw [if_neg (by rintro ⟨_, h⟩; omega), if_neg (by rintro ⟨h, _⟩; cases h), if_neg (by rintro ⟨h, _⟩; cases h), if_pos (.inl (fun e => nomatch e))]
    | true =>
      obtain ⟨c, hF, hcd⟩ := digO_iff hdF
      rw [hF] at d1
      have aidx : atI z.cps.toList ((k + 1 : Nat) : Int) = some c := atI_nat hF
      walk_at "rd"
      rw [is48 c]
      refine x_dec (fun hc48 => ?_) (fun hc48 => ?_)
      · walk_at "rd"
        refine x_yes (decide_eq_true (by omega)) ?_
        walk_at "rd"
        refine raise 1 _ ?_ rfl
        rw [hb0, d1]
        show (bad m _ (c :: _)).map _ = _
        rw [bad_none]; rfl
        rw [step_minus]
        unfold withinR
        rw [if_neg (by rintro ⟨_, h⟩; omega), if_neg (by rintro ⟨h, _⟩; cases h), if_neg (by rintro ⟨h, _⟩; cases h), if_pos (.inl (fun e => nomatch e))]
      · walk_at "rd"
        refine x_while (W := fun mm σ H' => H' = H ∧ ∃ j : Nat, mm = 100 - j ∧ 1 ≤ j ∧ j ≤ 60 ∧ (∀ x ∈ (z.cps.toList.drop (k + 1)).take j, 48 ≤ x ∧ x ≤ 57) ∧ ((z.cps.toList.drop (k + 1)).take j).length = j ∧ bad m ⟨.wanted, 0, inn⟩ (z.cps.toList.drop k) = (bad m ⟨.figures, j, upI inn⟩ (z.cps.toList.drop ((k + 1) + j))).map (· + (j + 1)) ∧ σ = [some (.str z), some (.int (((k + 1) + j : Nat) : Int)), some (.int ((k : Nat) : Int)), some (.int (((k + 1) : Nat) : Int))]) 99 ⟨rfl, 1, rfl, Nat.le_refl _, by decide, ?_, ?_, ?_, rfl⟩ ?_
        · rw [dk (k + 1), hF]
          intro x hx
          rw [List.take_succ_cons, List.take_zero, List.mem_singleton] at hx
          rw [hx]; exact hcd
        · rw [dk (k + 1), hF]; rfl
        · rw [hb0, d1]
          show (bad m _ (c :: _)).map _ = _
          rw [bad_some (t := ⟨.figures, 1, upI inn⟩), map_add]
          rw [step_minus]
          unfold withinR
          rw [if_pos ⟨rfl, by omega⟩]
        rintro mm σ H1 ⟨rfl, j, rfl, hj1, hj2, hdg, hjl, hb, rfl⟩
        have raise1 := raise
        walk_at "rd"
        rw [is48 c, decide_eq_false hc48]
        walk_at "rd"
        have hcj := hcut ((k + 1) + j)
        rw [hcj]
        refine ⟨_, rfl, ?_⟩
        cases hdj : digO z.cps.toList[(k + 1) + j]? with
        | true =>
          obtain ⟨y, hy, hy1⟩ := digO_iff hdj
          have hdr := dk ((k + 1) + j)
          rw [hy] at hdr
          walk_at "rd"
          refine ⟨fun σ' H' => ∃ m', m' < 100 - j ∧ H' = H1 ∧ ∃ j : Nat, m' = 100 - j ∧ 1 ≤ j ∧ j ≤ 60 ∧ (∀ x ∈ (z.cps.toList.drop (k + 1)).take j, 48 ≤ x ∧ x ≤ 57) ∧ ((z.cps.toList.drop (k + 1)).take j).length = j ∧ bad m ⟨.wanted, 0, inn⟩ (z.cps.toList.drop k) = (bad m ⟨.figures, j, upI inn⟩ (z.cps.toList.drop ((k + 1) + j))).map (· + (j + 1)) ∧ σ' = [some (.str z), some (.int (((k + 1) + j : Nat) : Int)), some (.int ((k : Nat) : Int)), some (.int (((k + 1) : Nat) : Int))], fun σ' H' h => h, ?_⟩
          walk_at "rd"
          refine x_dec (fun h60 => ?_) (fun h60 => ?_)
          · have h60 : j = 60 := by omega
            walk_at "rd"
            refine raise (j + 1) _ ?_ (by omega)
            rw [hb, hdr, bad_none (by rw [step_figN (.inr (by omega)), behindR_dig (digC_iff.mpr hy1)])]
            show some (0 + (j + 1)) = some (j + 1)
            rw [Nat.zero_add]
          · walk_at "rd"
            have htk : (z.cps.toList.drop (k + 1)).take (j + 1) = (z.cps.toList.drop (k + 1)).take j ++ [y] := by
              rw [List.take_succ, List.getElem?_drop, hy]; rfl
            refine ⟨100 - (j + 1), by omega, rfl, j + 1, rfl, by omega, by omega, ?_, ?_, ?_, rfl⟩
            · rw [htk]
              intro x hx
              rcases List.mem_append.mp hx with hx | hx
              · exact hdg x hx
              · rw [List.mem_singleton.mp hx]; exact hy1
            · rw [htk, List.length_append, hjl]; rfl
            · rw [hb, hdr, bad_some (step_fig (digC_iff.mpr hy1) (by omega)), map_add]
              have e : 1 + (j + 1) = j + 1 + 1 := by omega
              rw [e]; rfl
        | false =>
          have hne : (z.cps.toList.drop (k + 1)).take j ≠ [] := fun e => by rw [e] at hjl; simp only [List.length_nil] at hjl; omega
          have hh : ((z.cps.toList.drop (k + 1)).take j).head? ≠ some 48 := by
            rw [dk (k + 1), hF]
            obtain ⟨j', rfl⟩ : ∃ j', j = j' + 1 := ⟨j - 1, by omega⟩
            rw [List.take_succ_cons, List.head?_cons]
            exact fun e => hc48 (by injection e)
          obtain ⟨i, hi, hil, hit⟩ := intL_of (neg := true) hdg hne (by omega) hh
          have hlen : (intL i).length = j + 1 := by
            rw [hil]
            first
              | (rw [if_pos rfl, List.length_cons, hjl])
              | (rw [if_neg Bool.false_ne_true]; exact hjl)
          have hwhole : z.cps.toList.drop k = intL i ++ z.cps.toList.drop ((k + 1) + j) := by
            rw [hil]
            have e : z.cps.toList.drop (k + 1) = (z.cps.toList.drop (k + 1)).take j ++ z.cps.toList.drop ((k + 1) + j) := by
              have := (List.take_append_drop j (z.cps.toList.drop (k + 1))).symm
              rwa [List.drop_drop] at this
            rw [if_pos rfl, List.cons_append, ← e]; exact hk0
          have hkl : k ≤ z.cps.toList.length := by
            rcases Nat.lt_or_ge z.cps.toList.length k with h | h
            · rw [List.drop_eq_nil_of_le (Nat.le_of_lt h)] at hwhole
              have := congrArg List.length hwhole
              rw [List.length_append, hlen] at this
              simp only [List.length_nil] at this
              omega
            · exact h
          have hmid : cutS z (some (k : Int)) (some (((k + 1) + j : Nat) : Int)) = strOf (intL i) := cut_mid (a := z.cps.toList.take k) (b := intL i) (c := z.cps.toList.drop ((k + 1) + j)) (by rw [List.append_assoc, ← hwhole, List.take_append_drop]) (by rw [List.length_take]; omega) (by rw [List.length_take, hlen]; omega)
          have hl640 : (strOf (intL i)).length ≤ 640 := by rw [strOf_len, hlen]; omega
          walk_at "rd"
          rw [hmid]
          refine x_intS hit hl640 ?_
          walk_at "rd"
          intro p np
          have hbh : bad m ⟨.wanted, 0, inn⟩ (z.cps.toList.drop k) = (bad m ⟨.behind, 0, upI inn⟩ (z.cps.toList.drop ((k + 1) + j))).map (· + (intL i).length) := by
            rw [hb, bad_fig (fun x hx => by rw [List.head?_drop] at hx; rw [hx] at hdj; exact hdj), hlen]
          have := q i _ p hi hwhole hbh np
          rw [hlen] at this
          have e : k + (j + 1) = (k + 1) + j := by omega
          rw [e] at this
          exact this
  · -- no minus
    walk_at "rd"
    rw [hcut k]
    refine ⟨_, rfl, ?_⟩
    have d1 := dk k
    cases hdF : digO z.cps.toList[k]? with
    | false =>
      walk_at "rd"
      refine raise 0 _ ?_ rfl
      rw [d1]
      cases hF : z.cps.toList[k]? with
      | none => rfl
      | some c =>
        rw [hF] at hdF n34 n40 hm
        have hnd : ¬ (48 ≤ c ∧ c ≤ 57) := fun h => by
          have : digC c = true := digC_iff.mpr h
          rw [show digO (some c) = digC c from rfl, this] at hdF; cases hdF
        refine bad_none ?_
        rw [step_wanted]
        unfold begunR
        rw [if_neg (fun h => n34 (by rw [h])), if_neg (fun h => n40 (by rw [h.1]) h.2), if_neg (fun h => hm (by rw [h])), if_neg (by omega), if_neg (by omega)]
    | true =>
      obtain ⟨c, hF, hcd⟩ := digO_iff hdF
      rw [hF] at d1
      have aidx : atI z.cps.toList ((k : Nat) : Int) = some c := atI_nat hF
      walk_at "rd"
      rw [is48 c]
      refine x_dec (fun hc48 => ?_) (fun hc48 => ?_)
      · walk_at "rd"
        refine x_no (decide_eq_false (by omega)) ?_
        walk_at "rd"
        refine x_while (W := fun mm σ H' => H' = H ∧ σ = [some (.str z), some (.int ((k : Nat) + 1 : Int)), some (.int ((k : Nat) : Int)), some (.int ((k : Nat) : Int))]) 0 ⟨rfl, rfl⟩ ?_
        rintro mm σ H1 ⟨rfl, rfl⟩
        walk_at "rd"
        rw [is48 c, decide_eq_true hc48]
        walk_at "rd"
        have hd48 : z.cps.toList.drop k = intL 0 ++ z.cps.toList.drop (k + 1) := by rw [intL_zero, d1, hc48]; rfl
        have hkl : k < z.cps.toList.length := (List.getElem?_eq_some_iff.mp hF).1
        have hmid : cutS z (some (k : Int)) (some ((k : Int) + 1)) = strOf (intL 0) := by rw [hcut k, hF, hc48, intL_zero]; rfl
        rw [hmid]
        refine x_intS (n := 0) (by decide +kernel) (by decide +kernel) ?_
        walk_at "rd"
        intro p np
        have := q 0 _ p ⟨by decide, by decide⟩ hd48 (by
          rw [d1, hc48, intL_zero]
          exact bad_some (by rw [step_wanted]; unfold begunR; rw [if_neg (by decide), if_neg (by rintro ⟨h, _⟩; exact absurd h (by decide)), if_neg (by decide), if_pos rfl])) np
        rw [intL_zero] at this
        exact this
      · walk_at "rd"
        refine x_while (W := fun mm σ H' => H' = H ∧ ∃ j : Nat, mm = 100 - j ∧ 1 ≤ j ∧ j ≤ 60 ∧ (∀ x ∈ (z.cps.toList.drop k).take j, 48 ≤ x ∧ x ≤ 57) ∧ ((z.cps.toList.drop k).take j).length = j ∧ bad m ⟨.wanted, 0, inn⟩ (z.cps.toList.drop k) = (bad m ⟨.figures, j, upI inn⟩ (z.cps.toList.drop (k + j))).map (· + (j + 0)) ∧ σ = [some (.str z), some (.int ((k + j : Nat) : Int)), some (.int ((k : Nat) : Int)), some (.int ((k : Nat) : Int))]) 99 ⟨rfl, 1, rfl, Nat.le_refl _, by decide, ?_, ?_, ?_, rfl⟩ ?_
        · rw [dk k, hF]
          intro x hx
          rw [List.take_succ_cons, List.take_zero, List.mem_singleton] at hx
          rw [hx]; exact hcd
        · rw [dk k, hF]; rfl
        · rw [d1, bad_some (by rw [step_wanted]; exact digB c (by omega))]
        rintro mm σ H1 ⟨rfl, j, rfl, hj1, hj2, hdg, hjl, hb, rfl⟩
        have raise1 := raise
        walk_at "rd"
        rw [is48 c, decide_eq_false hc48]
        walk_at "rd"
        have hcj := hcut (k + j)
        rw [hcj]
        refine ⟨_, rfl, ?_⟩
        cases hdj : digO z.cps.toList[k + j]? with
        | true =>
          obtain ⟨y, hy, hy1⟩ := digO_iff hdj
          have hdr := dk (k + j)
          rw [hy] at hdr
          walk_at "rd"
          refine ⟨fun σ' H' => ∃ m', m' < 100 - j ∧ H' = H1 ∧ ∃ j : Nat, m' = 100 - j ∧ 1 ≤ j ∧ j ≤ 60 ∧ (∀ x ∈ (z.cps.toList.drop k).take j, 48 ≤ x ∧ x ≤ 57) ∧ ((z.cps.toList.drop k).take j).length = j ∧ bad m ⟨.wanted, 0, inn⟩ (z.cps.toList.drop k) = (bad m ⟨.figures, j, upI inn⟩ (z.cps.toList.drop (k + j))).map (· + (j + 0)) ∧ σ' = [some (.str z), some (.int ((k + j : Nat) : Int)), some (.int ((k : Nat) : Int)), some (.int ((k : Nat) : Int))], fun σ' H' h => h, ?_⟩
          walk_at "rd"
          refine x_dec (fun h60 => ?_) (fun h60 => ?_)
          · have h60 : j = 60 := by omega
            walk_at "rd"
            refine raise (j + 0) _ ?_ (by omega)
            rw [hb, hdr, bad_none (by rw [step_figN (.inr (by omega)), behindR_dig (digC_iff.mpr hy1)])]
            show some (0 + (j + 0)) = some (j + 0)
            rw [Nat.zero_add]
          · walk_at "rd"
            have htk : (z.cps.toList.drop k).take (j + 1) = (z.cps.toList.drop k).take j ++ [y] := by
              rw [List.take_succ, List.getElem?_drop, hy]; rfl
            refine ⟨100 - (j + 1), by omega, rfl, j + 1, rfl, by omega, by omega, ?_, ?_, ?_, rfl⟩
            · rw [htk]
              intro x hx
              rcases List.mem_append.mp hx with hx | hx
              · exact hdg x hx
              · rw [List.mem_singleton.mp hx]; exact hy1
            · rw [htk, List.length_append, hjl]; rfl
            · rw [hb, hdr, bad_some (step_fig (digC_iff.mpr hy1) (by omega)), map_add]
              have e : 1 + (j + 0) = j + 1 + 0 := by omega
              rw [e]; rfl
        | false =>
          have hne : (z.cps.toList.drop k).take j ≠ [] := fun e => by rw [e] at hjl; simp only [List.length_nil] at hjl; omega
          have hh : ((z.cps.toList.drop k).take j).head? ≠ some 48 := by
            rw [dk k, hF]
            obtain ⟨j', rfl⟩ : ∃ j', j = j' + 1 := ⟨j - 1, by omega⟩
            rw [List.take_succ_cons, List.head?_cons]
            exact fun e => hc48 (by injection e)
          obtain ⟨i, hi, hil, hit⟩ := intL_of (neg := false) hdg hne (by omega) hh
          have hlen : (intL i).length = j + 0 := by
            rw [hil]
            first
              | (rw [if_pos rfl, List.length_cons, hjl])
              | (rw [if_neg Bool.false_ne_true]; exact hjl)
          have hwhole : z.cps.toList.drop k = intL i ++ z.cps.toList.drop (k + j) := by
            rw [hil]
            have e : z.cps.toList.drop k = (z.cps.toList.drop k).take j ++ z.cps.toList.drop (k + j) := by
              have := (List.take_append_drop j (z.cps.toList.drop k)).symm
              rwa [List.drop_drop] at this
            rw [if_neg Bool.false_ne_true]; exact e
          have hkl : k ≤ z.cps.toList.length := by
            rcases Nat.lt_or_ge z.cps.toList.length k with h | h
            · rw [List.drop_eq_nil_of_le (Nat.le_of_lt h)] at hwhole
              have := congrArg List.length hwhole
              rw [List.length_append, hlen] at this
              simp only [List.length_nil] at this
              omega
            · exact h
          have hmid : cutS z (some (k : Int)) (some ((k + j : Nat) : Int)) = strOf (intL i) := cut_mid (a := z.cps.toList.take k) (b := intL i) (c := z.cps.toList.drop (k + j)) (by rw [List.append_assoc, ← hwhole, List.take_append_drop]) (by rw [List.length_take]; omega) (by rw [List.length_take, hlen]; omega)
          have hl640 : (strOf (intL i)).length ≤ 640 := by rw [strOf_len, hlen]; omega
          walk_at "rd"
          rw [hmid]
          refine x_intS hit hl640 ?_
          walk_at "rd"
          intro p np
          have hbh : bad m ⟨.wanted, 0, inn⟩ (z.cps.toList.drop k) = (bad m ⟨.behind, 0, upI inn⟩ (z.cps.toList.drop (k + j))).map (· + (intL i).length) := by
            rw [hb, bad_fig (fun x hx => by rw [List.head?_drop] at hx; rw [hx] at hdj; exact hdj), hlen]
          have := q i _ p hi hwhole hbh np
          rw [hlen] at this
          have e : k + (j + 0) = k + j := by omega
          rw [e] at this
          exact this
end

-- the def top 11
theorem sc_sign_from : FnScope ["text", "at", "sign"] ["text", "at"] (defScope s_sign_from) := ⟨rfl, rfl, rfl, by decide +kernel, rfl, by decide +kernel, by decide +kernel⟩
def B_sign_from (mg : Str → Option Value) : BK2 := fun t n H Q E => ∃ (z : Str) (k : Nat), t = .str z ∧ n = .int k ∧ z.length ≤ 1000000 ∧
  (∀ c e p, sgn (z.cps.toList.drop k) = .ok (c, e) → Fresh H p → Q (.ref p) (upd H p (.tup [.str ⟨#[c]⟩, .int ((k + e : Nat) : Int)]))) ∧
  (∀ e, sgn (z.cps.toList.drop k) = .error e → Refuses mg H E (k + e))
section
variable {P : Program} {w : World} {K : PySem.W.Frag} {mg : Str → Option Value} {base : Heap}
theorem ok_sign_from (T : TX K mg) : CalX P w K mg base 3 "sign_from" ["text", "at"] (Sp2 (B_sign_from mg)) := by
  have C_NoText___init__ := ok_NoText___init__ (P := P) (w := w) (base := base) T
  obtain ⟨f, fd, F, hm, bd⟩ := T.d_sign_from.ex
  refine ⟨f, fd, F.okX sc_sign_from len2 (fun cdv A outer s H vs Q E hr h => ?_), hm, F.kp, bd⟩
  obtain ⟨t, n, rfl, h⟩ := h
  refine ⟨_, (pss_cons (ps_set (i := 2) sc_sign_from.nd rfl (Or.inl rfl) (pe_slice sl_str (pv 0) (po_some (pv 1)) (po_some (pe_op op_add (pv 1) pe_int)))) (pss_cons (ps_if (PW.pt (pw_or (pt_cmpR op_eq (pv 2) pe_str (nomark _)) (pw_or1 (pt_not (pt_chain o_leS o_leS pe_str (pv 2) pe_str))))) (pss_one (ps_raiseI rfl (takes_of rfl rfl rfl rfl) (pmk_I C_NoText___init__ T.o_NoText hr (by first | decide | omega) rfl (pa_cons (pv 1) pa_nil)))) pss_nil) (pss_cons (ps_if (pt_cmpR op_ne (pv 2) pe_str (nomark _)) (pss_one (ps_ret (pe_tup (pa_cons (pv 2) (pa_cons (pe_op op_add (pv 1) pe_int) pa_nil))))) pss_nil) (pss_cons (ps_set (i := 2) sc_sign_from.nd rfl (Or.inl rfl) (pe_slice sl_str (pv 0) (po_some (pe_op op_add (pv 1) pe_int)) (po_some (pe_op op_add (pv 1) pe_int)))) (pss_cons (ps_if (PW.pt (pw_and (pt_cmpR op_ne (pv 2) pe_str (nomark _)) (pw_and1 (pt_cmpR op_ne (pv 2) pe_str (nomark _))))) (pss_one (ps_raiseI rfl (takes_of rfl rfl rfl rfl) (pmk_I C_NoText___init__ T.o_NoText hr (by first | decide | omega) rfl (pa_cons (pe_op op_add (pv 1) pe_int) pa_nil)))) pss_nil) (pss_one (ps_ret (pe_tup (pa_cons (pv 2) (pa_cons (pe_op op_add (pv 1) pe_int) pa_nil)))))))))), ?_⟩
  show (_ : TS) _ [some t, some n, none] H
  first | dsimp only [L2.cxOf] | skip
  obtain ⟨z, k, rfl, rfl, hz, q, qe⟩ := h
  have hzl : z.length ≤ sizeLine := Nat.le_trans hz (by decide)
  have hcut : ∀ m : Nat, cutS z (some (m : Int)) (some ((m : Int) + 1)) = sgO z.cps.toList[m]? := fun m => cut_one
  have ek : (k : Int) = ((k + 0 : Nat) : Int) := rfl
  have ek1 : (k : Int) + 1 = ((k + 1 : Nat) : Int) := by omega
  have ek2 : (k : Int) + 2 = ((k + 2 : Nat) : Int) := by omega
  cases hd : z.cps.toList.drop k with
  | nil =>
    have g1 := get_off hd
    rw [hd] at qe
    walk_at "rd"
    rw [hcut k, g1]
    walk_at "rd"
    exact x_mkI0 fun d nd => qe 0 rfl d _ (Fr.new (Fr.refl _) nd) upd_same
  | cons c r =>
    have g1 := get_at (a := []) (l := z.cps.toList) (n := k) (c := c) (r := r) hd
    rw [hd] at q qe
    walk_at "rd"
    rw [hcut k, g1, sg_e]
    walk_at "rd"
    rw [sgO_one, sg_lo]
    have fin0 : ∀ h : c < 32 ∨ 126 < c, sgn (c :: r) = .error 0 := fun h => by
      cases r with
      | nil => (first | rw [sgn_one] | rw [sgn_two]); rw [if_pos h]
      | cons d r => (first | rw [sgn_one] | rw [sgn_two]); rw [if_pos h]
    refine x_dec (fun c1 => ?_) (fun c1 => ?_)
    rotate_left
    · walk_at "rd"
      exact x_mkI0 fun d nd => qe 0 (fin0 (.inl (by omega))) d _ (Fr.new (Fr.refl _) nd) upd_same
    walk_at "rd"
    rw [sg_hi]
    refine x_ndec (fun c2 => ?_) (fun c2 => ?_)
    · walk_at "rd"
      exact x_mkI0 fun d nd => qe 0 (fin0 (.inr (by omega))) d _ (Fr.new (Fr.refl _) nd) upd_same
    have hcc : ¬ (c < 32 ∨ 126 < c) := by omega
    walk_at "rd"
    rw [show (⟨#[c]⟩ : Str) = sgO (some c) from rfl, sg_eq c 92 _ sg_b]
    refine x_ndec (fun c3 => ?_) (fun c3 => ?_)
    · walk_at "rd"
      intro p np
      have := q c 1 p (by
        cases r with
        | nil => (first | rw [sgn_one] | rw [sgn_two]); rw [if_neg hcc, if_neg c3]
        | cons d r => (first | rw [sgn_one] | rw [sgn_two]); rw [if_neg hcc, if_neg c3]) np
      rw [ek1]; exact this
    · have hcut2 : cutS z (some ((k : Int) + 1)) (some ((k : Int) + 2)) = sgO z.cps.toList[k + 1]? := by
        have := hcut (k + 1)
        have e : (((k + 1 : Nat) : Int) + 1) = (k : Int) + 2 := by omega
        rw [e] at this
        exact this
      have hd1 := drop_next hd
      walk_at "rd"
      cases r with
      | nil =>
        have g2 := get_off hd1
        rw [hcut2, g2]
        have e1 : decide (sgO none = Str.ofString "\"") = false := by decide +kernel
        have e2 : decide (sgO none = Str.ofString "\\") = false := by decide +kernel
        rw [e1]
        walk_at "rd"
        rw [ek1]
        exact x_mkI0 fun d nd => qe 1 (by (first | rw [sgn_one] | rw [sgn_two]); rw [if_neg hcc, if_pos c3]) d _ (Fr.new (Fr.refl _) nd) upd_same
      | cons d r =>
        have g2 := get_at (a := []) (l := z.cps.toList) (n := k + 1) (c := d) (r := r) hd1
        rw [hcut2, g2, sg_eq d 34 _ sg_q]
        have fin : ∀ (h : d = 34 ∨ d = 92) p, Fresh H p → Q (.ref p) (upd H p (.tup [.str (sgO (some d)), .int ((k : Int) + 2)])) := fun h p np => by
          rw [ek2]
          exact q d 2 p (by (first | rw [sgn_one] | rw [sgn_two]); rw [if_neg hcc, if_pos c3, if_pos h]) np
        refine x_ndec (fun c4 => ?_) (fun c4 => ?_)
        · walk_at "rd"
          rw [sg_eq d 92 _ sg_b]
          refine x_ndec (fun c5 => ?_) (fun c5 => ?_)
          · walk_at "rd"
            rw [ek1]
            exact x_mkI0 fun d' nd => qe 1 (by (first | rw [sgn_one] | rw [sgn_two]); rw [if_neg hcc, if_pos c3, if_neg (by rintro (h | h); exact c4 h; exact c5 h)]) d' _ (Fr.new (Fr.refl _) nd) upd_same
          · walk_at "rd"
            exact fin (.inr c5)
        · walk_at "rd"
          exact fin (.inl c4)
end

-- the def top 12
theorem sc_text_from : FnScope ["text", "at", "found", "sign"] ["text", "at"] (defScope s_text_from) := ⟨rfl, rfl, rfl, by decide +kernel, rfl, by decide +kernel, by decide +kernel⟩
def B_text_from (mg : Str → Option Value) : BK2 := fun t n H Q E => ∃ (z : Str) (k : Nat) (m : Bool) (inn : List Nat), t = .str z ∧ n = .int k ∧ z.length ≤ 1000000 ∧
  (∀ cs rest p H', cs.length ≤ 40 → (∀ c ∈ cs, 32 ≤ c ∧ c ≤ 126) → z.cps.toList.drop k = escL cs ++ 34 :: rest → bad m ⟨.text, 0, inn⟩ (z.cps.toList.drop k) = (bad m ⟨.behind, 0, inn⟩ rest).map (· + ((escL cs).length + 1)) →
    Fr Non H H' → H' p = some (.tup [.str (strOf cs), .int ((k + (escL cs).length + 1 : Nat) : Int)]) → Q (.ref p) H') ∧
  (∀ e, bad m ⟨.text, 0, inn⟩ (z.cps.toList.drop k) = some e → Refuses mg H E (k + e))
section
variable {P : Program} {w : World} {K : PySem.W.Frag} {mg : Str → Option Value} {base : Heap}
theorem ok_text_from (T : TX K mg) : CalX P w K mg base 4 "text_from" ["text", "at"] (Sp2 (B_text_from mg)) := by
  have C_sign_from := ok_sign_from (P := P) (w := w) (base := base) T
  have C_NoText___init__ := ok_NoText___init__ (P := P) (w := w) (base := base) T
  obtain ⟨f, fd, F, hm, bd⟩ := T.d_text_from.ex
  refine ⟨f, fd, F.okX sc_text_from len2 (fun cdv A outer s H vs Q E hr h => ?_), hm, F.kp, bd⟩
  obtain ⟨t, n, rfl, h⟩ := h
  refine ⟨_, (pss_cons (ps_set (i := 2) sc_text_from.nd rfl (Or.inl rfl) pe_str) (pss_cons (ps_while (passes_of rfl) (pt_cmpR op_ne (pe_slice sl_str (pv 0) (po_some (pv 1)) (po_some (pe_op op_add (pv 1) pe_int))) pe_str (nomark _)) (pss_cons (ps_if (pt_cmpR op_eq (pe_callB c_lenZ (by rfl) T.b_len (by decide +kernel) (pa_cons (pv 2) pa_nil)) (pconst T.c_SIGNS rfl) (nomark _)) (pss_one (ps_raiseI rfl (takes_of rfl rfl rfl rfl) (pmk_I C_NoText___init__ T.o_NoText hr (by first | decide | omega) rfl (pa_cons (pv 1) pa_nil)))) pss_nil) (pss_cons (ps_asg (pcall C_sign_from hr (by first | decide | omega) rfl (passes_call (takes_of rfl rfl rfl rfl) (fun _ _ _ _ h => h)) (pa_cons (pv 0) (pa_cons (pv 1) pa_nil))) (pg_tup rfl (pgs_cons (pg_name (i := 3) sc_text_from.nd rfl (Or.inl rfl)) (pgs_cons (pg_name (i := 1) sc_text_from.nd rfl (Or.inl rfl)) pgs_nil)))) (pss_one (ps_set (i := 2) sc_text_from.nd rfl (Or.inl rfl) (pe_op o_addS (pv 2) (pv 3))))))) (pss_one (ps_ret (pe_tup (pa_cons (pv 2) (pa_cons (pe_op op_add (pv 1) pe_int) pa_nil))))))), ?_⟩
  show (_ : TS) _ [some t, some n, none, none] H
  first | dsimp only [L2.cxOf] | skip
  obtain ⟨z, k, m, inn, rfl, rfl, hz, q, qe⟩ := h
  have hzl : z.length ≤ sizeLine := Nat.le_trans hz (by decide)
  have hcut : ∀ m : Nat, cutS z (some (m : Int)) (some ((m : Int) + 1)) = sgO z.cps.toList[m]? := fun m => cut_one
  walk_at "rd"
  refine x_while (W := fun mm σ H' => Fr Non H H' ∧ ∃ (cs : List Nat) (l : List Nat) (v3 : Option V), mm = 41 - cs.length ∧ cs.length ≤ 40 ∧ (∀ c ∈ cs, 32 ≤ c ∧ c ≤ 126) ∧ z.cps.toList.drop k = escL cs ++ l ∧
    bad m ⟨.text, 0, inn⟩ (z.cps.toList.drop k) = (bad m ⟨.text, cs.length, inn⟩ l).map (· + (escL cs).length) ∧ σ = [some (.str z), some (.int ((k + (escL cs).length : Nat) : Int)), some (.str (strOf cs)), v3]) 41 ⟨Fr.refl _, [], z.cps.toList.drop k, _, rfl, Nat.zero_le _, List.forall_mem_nil _, rfl, (map_zero _).symm, rfl⟩ ?_
  rintro mm σ H1 ⟨f1, cs, l, v3, rfl, hl, hcs, hd, hb, rfl⟩
  obtain ⟨a, ha⟩ : ∃ a : Nat, a = k + (escL cs).length := ⟨_, rfl⟩
  have hda : z.cps.toList.drop a = l := by rw [ha]; exact drop_far hd
  have lt : (strOf cs).length = cs.length := strOf_len cs
  have hlz : (strOf cs).length ≤ sizeLine := by rw [lt]; exact Nat.le_trans hl (by decide)
  have gets : z.cps.toList[a]? = l.head? := by rw [← hda, List.head?_drop]
  rw [← ha]
  walk_at "rd"
  rw [hcut a, gets]
  rw [head_34]
  refine x_ndec (fun h34 => ?_) (fun h34 => ?_)
  · refine ⟨fun σ' H' => ∃ m', m' < 41 - cs.length ∧ Fr Non H H' ∧ ∃ (cs : List Nat) (l : List Nat) (v3 : Option V), m' = 41 - cs.length ∧ cs.length ≤ 40 ∧ (∀ c ∈ cs, 32 ≤ c ∧ c ≤ 126) ∧ z.cps.toList.drop k = escL cs ++ l ∧
      bad m ⟨.text, 0, inn⟩ (z.cps.toList.drop k) = (bad m ⟨.text, cs.length, inn⟩ l).map (· + (escL cs).length) ∧ σ' = [some (.str z), some (.int ((k + (escL cs).length : Nat) : Int)), some (.str (strOf cs)), v3], fun σ' H' h => h, ?_⟩
    walk_at "rd"
    rw [lt]
    refine x_dec (fun c40 => ?_) (fun c40 => ?_)
    · have c40 : cs.length = 40 := by omega
      walk_at "rd"
      refine x_mkI0 fun d nd => ?_
      rw [c40, bad_full h34] at hb
      have := qe _ hb d _ (Fr.new f1 nd) (by rw [show k + (0 + (escL cs).length) = a by omega]; exact upd_same)
      exact this
    · walk_at "rd"
      refine ⟨z, a, rfl, rfl, hz, fun c e p hs np => ?_, fun e hs => ?_⟩
      · rw [hda] at hs
        obtain ⟨hc, he, hl2, hb2⟩ := sgn_ok (m := m) (inn := inn) (n := cs.length) (by omega) h34 hs
        have hza : (strOf cs).length + (⟨#[c]⟩ : Str).length ≤ sizeLine := by rw [lt, str_one]; exact Nat.le_trans (Nat.succ_le_succ hl) (by decide)
        walk_at "rd"
        refine ⟨41 - (cs.length + 1), by omega, Fr.new f1 np, cs ++ [c], l.drop e, some (.str ⟨#[c]⟩), by rw [List.length_append]; rfl, by rw [List.length_append]; show cs.length + 1 ≤ 40; omega, ?_, ?_, ?_, ?_⟩
        · intro x hx
          rcases List.mem_append.mp hx with hx | hx
          · exact hcs x hx
          · rw [List.mem_singleton.mp hx]; exact hc
        · rw [escL_app, show escL [c] = esc1 c from List.append_nil _, List.append_assoc, ← hl2]; exact hd
        · rw [hb, hb2, map_add, escL_app, show escL [c] = esc1 c from List.append_nil _, List.length_append, List.length_append, he, Nat.add_comm]; rfl
        · have ea : strOf cs ++ (⟨#[c]⟩ : Str) = strOf (cs ++ [c]) := strOf_app _ [c]
          have eb : a + e = k + (escL (cs ++ [c])).length := by rw [escL_app, show escL [c] = esc1 c from List.append_nil _, List.length_append, ha, he]; omega
          rw [ea, eb]; rfl
      · rw [hda] at hs
        have hb2 := sgn_error (m := m) (inn := inn) (n := cs.length) (by omega) h34 hs
        rw [hb2] at hb
        have := (qe _ hb).mono f1
        rw [show k + (e + (escL cs).length) = a + e by omega] at this
        exact this
  · obtain ⟨rest, rfl⟩ : ∃ rest, l = 34 :: rest := by
      cases l with
      | nil => cases h34
      | cons x l => cases h34; exact ⟨_, rfl⟩
    walk_at "rd"
    intro p np
    refine q cs rest p _ hl hcs hd ?_ (Fr.new f1 np) ?_
    · rw [hb, bad_quote, map_add, Nat.add_comm]
    · rw [ha]; exact upd_same
end

-- the def top 13
theorem sc_parts_from : FnScope ["text", "at", "room", "part", "found"] ["text", "at", "room"] (defScope s_parts_from) := ⟨rfl, rfl, rfl, by decide +kernel, rfl, by decide +kernel, by decide +kernel⟩
section
variable {P : Program} {w : World} {K : PySem.W.Frag} {mg : Str → Option Value} {base : Heap}
theorem step_parts_from (T : TX K mg) (r k : Nat) (C_key_from : CalX P w K mg base k "key_from" ["text", "at", "room"] (Sp3 (R_key_from mg r))) (hk : 2 ≤ k) : CalX P w K mg base (k + 1) "parts_from" ["text", "at", "room"] (Sp3 (R_parts_from mg r)) := by
  have C_NoText___init__ := ok_NoText___init__ (P := P) (w := w) (base := base) T
  obtain ⟨f, fd, F, hm, bd⟩ := T.d_parts_from.ex
  refine ⟨f, fd, F.okX sc_parts_from len3 (fun cdv A outer s H vs Q E hr h => ?_), hm, F.kp, bd⟩
  obtain ⟨t, n, rm, rfl, h⟩ := h
  refine ⟨_, (pss_cons (ps_if (pt_cmpR op_eq (pe_slice sl_str (pv 0) (po_some (pv 1)) (po_some (pe_op op_add (pv 1) pe_int))) pe_str (nomark _)) (pss_one (ps_ret (pe_tup (pa_cons (pe_tup pa_nil) (pa_cons (pe_op op_add (pv 1) pe_int) pa_nil))))) pss_nil) (pss_cons (ps_asg (pcall C_key_from hr (by first | decide | omega) rfl (passes_call (takes_of rfl rfl rfl rfl) (fun _ _ _ _ h => h)) (pa_cons (pv 0) (pa_cons (pv 1) (pa_cons (pv 2) pa_nil)))) (pg_tup rfl (pgs_cons (pg_name (i := 3) sc_parts_from.nd rfl (Or.inl rfl)) (pgs_cons (pg_name (i := 1) sc_parts_from.nd rfl (Or.inl rfl)) pgs_nil)))) (pss_cons (ps_set (i := 4) sc_parts_from.nd rfl (Or.inl rfl) (pe_lst (pa_cons (pv 3) pa_nil))) (pss_cons (ps_while (passes_of rfl) (pt_cmpR op_ne (pe_slice sl_str (pv 0) (po_some (pv 1)) (po_some (pe_op op_add (pv 1) pe_int))) pe_str (nomark _)) (pss_cons (ps_if (PW.pt (pw_or (pt_cmpR op_ne (pe_slice sl_str (pv 0) (po_some (pv 1)) (po_some (pe_op op_add (pv 1) pe_int))) pe_str (nomark _)) (pw_or1 (pt_cmpR op_eq (pe_callB c_len (by rfl) T.b_len (by decide +kernel) (pa_cons (pv 4) pa_nil)) (pconst T.c_WIDE rfl) (nomark _))))) (pss_one (ps_raiseI rfl (takes_of rfl rfl rfl rfl) (pmk_I C_NoText___init__ T.o_NoText hr (by first | decide | omega) rfl (pa_cons (pv 1) pa_nil)))) pss_nil) (pss_cons (ps_asg (pcall C_key_from hr (by first | decide | omega) rfl (passes_call (takes_of rfl rfl rfl rfl) (fun _ _ _ _ h => h)) (pa_cons (pv 0) (pa_cons (pe_op op_add (pv 1) pe_int) (pa_cons (pv 2) pa_nil)))) (pg_tup rfl (pgs_cons (pg_name (i := 3) sc_parts_from.nd rfl (Or.inl rfl)) (pgs_cons (pg_name (i := 1) sc_parts_from.nd rfl (Or.inl rfl)) pgs_nil)))) (pss_one (ps_expr (pe_bm PySem.F.plainAttrs_list PySem.F.slot_list_append PySem.F.type_list_append mt_append (pv 4) (pa_cons (pv 3) pa_nil))))))) (pss_one (ps_ret (pe_tup (pa_cons (pe_callTy c_tupOf (by rfl) T.b_tuple (by decide +kernel) (pa_cons (pv 4) pa_nil)) (pa_cons (pe_op op_add (pv 1) pe_int) pa_nil))))))))), ?_⟩
  show (_ : TS) _ [some t, some n, some rm, none, none] H
  first | dsimp only [L2.cxOf] | skip
  obtain ⟨z, k, m, u, rfl, rfl, rfl, hz, hu, q, qe⟩ := h
  have hzl : z.length ≤ sizeLine := Nat.le_trans hz (by decide)
  have hcut : ∀ m : Nat, cutS z (some (m : Int)) (some ((m : Int) + 1)) = sgO z.cps.toList[m]? := fun m => cut_one
  walk_at "rd"
  rw [hcut k, sgO_dec _ 41 _ sg_c]
  refine x_dec (fun h41 => ?_) (fun h41 => ?_)
  · have hd : z.cps.toList.drop k = 41 :: z.cps.toList.drop (k + 1) := by
      have hlt := (List.getElem?_eq_some_iff.mp h41)
      rw [List.drop_eq_getElem_cons hlt.1, hlt.2]
    walk_at "rd"
    intro p1 n1
    walk_at "rd"
    intro p2 n2
    refine q [] _ p2 (.ref p1) _ (List.forall_mem_nil _) (Nat.zero_le _) hd ?_ (Fr.new (Fr.new (Fr.refl _) n1) n2) upd_same (Dt.upd (.tup upd_same .nil) n2)
    rw [hd]
    exact bad_some step_shut
  · have h41' : (z.cps.toList.drop k).head? ≠ some 41 := by rw [List.head?_drop]; exact h41
    have hop : bad m ⟨.opened, 0, 0 :: u⟩ (z.cps.toList.drop k) = bad m ⟨.wanted, 0, 0 :: u⟩ (z.cps.toList.drop k) := bad_opened h41'
    walk_at "rd"
    refine ⟨z, k, m, 0 :: u, rfl, rfl, rfl, hz, by rw [List.length_cons]; omega, fun d0 rest0 p1 v1 H1 hk1 hd1 hb1 f1 e1 h1 => ?_, fun e hb => qe e (by rw [hop]; exact hb)⟩
    walk_at "rd"
    intro L nL
    have nLH : Fresh H L := f1.free nL
    walk_at "rd"
    refine x_while (W := fun mm σ H' => Fr Non H H' ∧ ∃ (ds : List PyData) (l : List Nat) (vs : List V) (v3 : V), mm = 5 - ds.length ∧ ds ≠ [] ∧ ds.length ≤ 4 ∧ (∀ d ∈ ds, isK r d) ∧ z.cps.toList.drop k = encAll ds ++ l ∧
      bad m ⟨.opened, 0, 0 :: u⟩ (z.cps.toList.drop k) = (bad m ⟨.behind, 0, ds.length :: u⟩ l).map (· + (encAll ds).length) ∧
      σ = [some (.str z), some (.int ((k + (encAll ds).length : Nat) : Int)), some (.int (r : Int)), some v3, some (.ref L)] ∧ H' L = some (.lst vs) ∧ DtAll H' vs ds) 4 ?_ ?_
    · refine ⟨Fr.new f1 nL, [d0], rest0, [v1], v1, rfl, (fun e => nomatch e), (by show 1 ≤ 4; decide), fun d hd => by rw [List.mem_singleton.mp hd]; exact hk1, ?_, ?_, ?_, upd_same, .cons (h1.upd nL) .nil⟩
      · rw [encAll, encMore, List.append_nil]; exact hd1
      · rw [hop, hb1, encAll, encMore, List.append_nil]; rfl
      · rw [encAll, encMore, List.append_nil]; rfl
    · rintro mm σ H2 ⟨f2, ds, l, vs, v3, rfl, hne, hl4, hks, hd, hb, rfl, hL, hvs⟩
      obtain ⟨a, ha⟩ : ∃ a : Nat, a = k + (encAll ds).length := ⟨_, rfl⟩
      have hda : z.cps.toList.drop a = l := by rw [ha]; exact drop_far hd
      have gets : z.cps.toList[a]? = l.head? := by rw [← hda, List.head?_drop]
      have hvl := hvs.length
      have hv100 : vs.length ≤ 100000 := by omega
      have raise : ∀ (e : Nat) (x : Int), bad m ⟨.behind, 0, ds.length :: u⟩ l = some e → x = ((a + e : Nat) : Int) → rMkI (clA mg "NoText") "at" E [.int x] H2 := fun e x hbe hx => by
        subst hx
        rw [hbe] at hb
        refine x_mkI0 fun d nd => ?_
        have := qe _ hb d _ (Fr.new f2 nd) (by rw [show k + (e + (encAll ds).length) = a + e by omega]; exact upd_same)
        exact this
      rw [← ha]
      walk_at "rd"
      rw [hcut a, gets, sgO_dec _ 41 _ sg_c]
      refine x_ndec (fun g41 => ?_) (fun g41 => ?_)
      · refine ⟨fun σ' H' => ∃ m', m' < 5 - ds.length ∧ Fr Non H H' ∧ ∃ (ds : List PyData) (l : List Nat) (vs : List V) (v3 : V), m' = 5 - ds.length ∧ ds ≠ [] ∧ ds.length ≤ 4 ∧ (∀ d ∈ ds, isK r d) ∧ z.cps.toList.drop k = encAll ds ++ l ∧
          bad m ⟨.opened, 0, 0 :: u⟩ (z.cps.toList.drop k) = (bad m ⟨.behind, 0, ds.length :: u⟩ l).map (· + (encAll ds).length) ∧
          σ' = [some (.str z), some (.int ((k + (encAll ds).length : Nat) : Int)), some (.int (r : Int)), some v3, some (.ref L)] ∧ H' L = some (.lst vs) ∧ DtAll H' vs ds, fun σ' H' h => h, ?_⟩
        walk_at "rd"
        rw [hcut a, gets, sgO_dec _ 32 _ sg_s]
        refine x_ndec (fun g32 => ?_) (fun g32 => ?_)
        · walk_at "rd"
          exact raise 0 _ (bad_behind g41 fun h => absurd h g32) rfl
        · walk_at "rd"
          refine x_dec (fun h4 => ?_) (fun h4 => ?_)
          · walk_at "rd"
            exact raise 0 _ (bad_behind g41 fun _ => by omega) rfl
          · obtain ⟨l', rfl⟩ : ∃ l', l = 32 :: l' := by
              cases l with
              | nil => cases g32
              | cons x l => cases g32; exact ⟨_, rfl⟩
            have hst : bad m ⟨.behind, 0, ds.length :: u⟩ (32 :: l') = (bad m ⟨.wanted, 0, ds.length :: u⟩ l').map (· + 1) := bad_some (by rw [step_behind]; exact behindR_more (by omega))
            have em : ((a : Int) + 1) = ((a + 1 : Nat) : Int) := by omega
            have hda1 : z.cps.toList.drop (a + 1) = l' := drop_next hda
            walk_at "rd"
            rw [em]
            refine ⟨z, a + 1, m, ds.length :: u, rfl, rfl, rfl, hz, by rw [List.length_cons]; omega, fun d rest p3 v H3 hk3 hd3 hb3 f3 e3 h3 => ?_, fun e hb3 => ?_⟩
            · have hL3 := f3.keep _ _ hL id
              have hvs3 := hvs.mono f3
              have f03 := f2.trans f3
              rw [hda1] at hd3 hb3
              walk_at "rd"
              have hea : (encAll (ds ++ [d])).length = (encAll ds).length + (1 + (encL d).length) := by
                rw [encAll_snoc d hne, List.length_append, List.length_cons]; omega
              refine ⟨5 - (ds.length + 1), by omega, Fr.mut f03 hL3 rfl (.inr nLH), ds ++ [d], rest, vs ++ [v], v, by rw [List.length_append]; rfl, (fun e => by have := congrArg List.length e; rw [List.length_append] at this; simp at this), by rw [List.length_append]; show ds.length + 1 ≤ 4; omega, fun x hx => ?_, ?_, ?_, ?_, upd_same, DtAll.app (hvs3.updm hL3 rfl) (DtAll.one (h3.updm hL3 rfl))⟩
              · rcases List.mem_append.mp hx with hx | hx
                · exact hks x hx
                · rw [List.mem_singleton.mp hx]; exact hk3
              · rw [encAll_snoc d hne, List.append_assoc, List.cons_append, ← hd3]; exact hd
              · rw [hb, hst, hb3, map_add, map_add, hea, List.length_append]
                have e1 : (encL d).length + (1 + (encAll ds).length) = (encAll ds).length + (1 + (encL d).length) := by omega
                rw [e1]; rfl
              · have eb : a + 1 + (encL d).length = k + (encAll (ds ++ [d])).length := by rw [hea]; omega
                rw [eb]; rfl
            · rw [hda1] at hb3
              rw [hst, hb3] at hb
              have := (qe _ hb).mono f2
              rw [show k + (e + 1 + (encAll ds).length) = a + 1 + e by omega] at this
              exact this
      · obtain ⟨rest, rfl⟩ : ∃ l', l = 41 :: l' := by
          cases l with
          | nil => cases g41
          | cons x l => cases g41; exact ⟨_, rfl⟩
        walk_at "rd"
        intro p3 n3
        walk_at "rd"
        intro p4 n4
        refine q ds rest p4 (.ref p3) _ hks hl4 hd ?_ (Fr.new (Fr.new f2 n3) n4) ?_ (Dt.upd (.tup upd_same (DtAll.upd hvs n3)) n4)
        · rw [hb, bad_some (by rw [step_behind]; exact behindR_shut), map_add, Nat.add_comm]
        · rw [← ha]; exact upd_same
end

-- the def top 14
theorem sc_key_from : FnScope ["text", "at", "room"] ["text", "at", "room"] (defScope s_key_from) := ⟨rfl, rfl, rfl, by decide +kernel, rfl, by decide +kernel, by decide +kernel⟩
section
variable {P : Program} {w : World} {K : PySem.W.Frag} {mg : Str → Option Value} {base : Heap}
theorem step_key_from (T : TX K mg) (r k : Nat) (spP : Sp) (hP : ∀ r1, r = r1 + 1 → ∀ vs H Q E, Sp3 (R_parts_from mg r1) vs H Q E → spP vs H Q E) (C_parts_from : CalX P w K mg base k "parts_from" ["text", "at", "room"] spP) (hk : 4 ≤ k) : CalX P w K mg base (k + 1) "key_from" ["text", "at", "room"] (Sp3 (R_key_from mg r)) := by
  have C_text_from := ok_text_from (P := P) (w := w) (base := base) T
  have C_number_from := ok_number_from (P := P) (w := w) (base := base) T
  obtain ⟨f, fd, F, hm, bd⟩ := T.d_key_from.ex
  refine ⟨f, fd, F.okX sc_key_from len3 (fun cdv A outer s H vs Q E hr h => ?_), hm, F.kp, bd⟩
  obtain ⟨t, n, rm, rfl, h⟩ := h
  refine ⟨_, (pss_cons (ps_if (pt_cmpR op_eq (pe_slice sl_str (pv 0) (po_some (pv 1)) (po_some (pe_op op_add (pv 1) pe_int))) pe_str (nomark _)) (pss_one (ps_ret (pcall C_text_from hr (by first | decide | omega) rfl (passes_call (takes_of rfl rfl rfl rfl) (fun _ _ _ _ h => h)) (pa_cons (pv 0) (pa_cons (pe_op op_add (pv 1) pe_int) pa_nil))))) pss_nil) (pss_cons (ps_if (PW.pt (pw_and (pt_cmpR op_eq (pe_slice sl_str (pv 0) (po_some (pv 1)) (po_some (pe_op op_add (pv 1) pe_int))) pe_str (nomark _)) (pw_and1 (pt_cmpR op_gt (pv 2) pe_int (nomark _))))) (pss_one (ps_ret (pcall C_parts_from hr (by first | decide | omega) rfl (passes_call (takes_of rfl rfl rfl rfl) (fun _ _ _ _ h => h)) (pa_cons (pv 0) (pa_cons (pe_op op_add (pv 1) pe_int) (pa_cons (pe_op op_sub (pv 2) pe_int) pa_nil)))))) pss_nil) (pss_one (ps_ret (pcall C_number_from hr (by first | decide | omega) rfl (passes_call (takes_of rfl rfl rfl rfl) (fun _ _ _ _ h => h)) (pa_cons (pv 0) (pa_cons (pv 1) pa_nil))))))), ?_⟩
  show (_ : TS) _ [some t, some n, some rm] H
  first | dsimp only [L2.cxOf] | skip
  obtain ⟨z, k0, m, inn, rfl, rfl, rfl, hz, hin, q, qe⟩ := h
  have hzl : z.length ≤ sizeLine := Nat.le_trans hz (by decide)
  have hcut : ∀ m : Nat, cutS z (some (m : Int)) (some ((m : Int) + 1)) = sgO z.cps.toList[m]? := fun m => cut_one
  have em : ((k0 : Int) + 1) = ((k0 + 1 : Nat) : Int) := by omega
  have dk : ∀ {f c : Nat}, z.cps.toList[f]? = some c → z.cps.toList.drop f = c :: z.cps.toList.drop (f + 1) := fun h => by
    have hlt := (List.getElem?_eq_some_iff.mp h)
    rw [List.drop_eq_getElem_cons hlt.1, hlt.2]
  have num : ∀ (n34 : z.cps.toList[k0]? ≠ some 34) (n40 : z.cps.toList[k0]? = some 40 → ¬ inn.length < 3), B_number_from mg (.str z) (.int k0) H Q E := fun n34 n40 =>
    ⟨z, k0, m, inn, rfl, rfl, hz, n34, n40, fun i rest p hi hd hb np => q (.int i) rest p (.int i) _ (by rw [isK_int]; exact hi) hd hb (Fr.new (Fr.refl _) np) upd_same (.int i), qe⟩
  walk_at "rd"
  rw [hcut k0, sgO_dec _ 34 _ sg_q]
  refine x_dec (fun h34 => ?_) (fun h34 => ?_)
  · have hd := dk h34
    have hb0 : bad m ⟨.wanted, 0, inn⟩ (z.cps.toList.drop k0) = (bad m ⟨.text, 0, upI inn⟩ (z.cps.toList.drop (k0 + 1))).map (· + 1) := by
      rw [hd]; exact bad_some (by rw [step_wanted]; unfold begunR; rw [if_pos rfl])
    walk_at "rd"
    rw [em]
    refine ⟨z, k0 + 1, m, upI inn, rfl, rfl, hz, fun cs rest p H' hcl hcs hd2 hb2 f2 e2 => ?_, fun e hb2 => ?_⟩
    · have hen : (encL (.str (strOf cs))).length = (escL cs).length + 1 + 1 := by
        rw [encL, strOf_cps]; simp only [List.length_cons, List.length_append, List.length_nil]
      refine q (.str (strOf cs)) rest p _ H' (by rw [isK_str]; exact ⟨by rw [strOf_len]; exact hcl, hcs⟩) ?_ ?_ f2 ?_ (.str _)
      · rw [hd, hd2, encL, strOf_cps, List.cons_append, List.append_assoc]; rfl
      · rw [hb0, hb2, map_add, hen]
      · rw [hen, show k0 + ((escL cs).length + 1 + 1) = k0 + 1 + (escL cs).length + 1 by omega]; exact e2
    · rw [hb2] at hb0
      have := qe _ hb0
      rw [show k0 + (e + 1) = k0 + 1 + e by omega] at this
      exact this
  · walk_at "rd"
    rw [hcut k0, sgO_dec _ 40 _ sg_o]
    refine x_dec (fun h40 => ?_) (fun h40 => ?_)
    · walk_at "rd"
      refine x_dec (fun hr0 => ?_) (fun hr0 => ?_)
      · obtain ⟨r1, rfl⟩ : ∃ r1, r = r1 + 1 := ⟨r - 1, by omega⟩
        have hd := dk h40
        have hb0 : bad m ⟨.wanted, 0, inn⟩ (z.cps.toList.drop k0) = (bad m ⟨.opened, 0, 0 :: upI inn⟩ (z.cps.toList.drop (k0 + 1))).map (· + 1) := by
          rw [hd]; exact bad_some (by rw [step_wanted]; unfold begunR; rw [if_neg (by decide), if_pos ⟨rfl, by omega⟩])
        have er : (((r1 + 1 : Nat) : Int) - 1) = ((r1 : Nat) : Int) := by omega
        have hul : (upI inn).length = inn.length := by cases inn <;> rfl
        walk_at "rd"
        rw [em, er]
        refine hP r1 rfl _ _ _ _ ?_
        walk_at "rd"
        refine ⟨z, k0 + 1, m, upI inn, rfl, rfl, rfl, hz, by omega, fun ds rest p v H' hks hl4 hd2 hb2 f2 e2 h2 => ?_, fun e hb2 => ?_⟩
        · have hen : (encL (.tuple ds)).length = (encAll ds).length + 1 + 1 := by
            rw [encL]; simp only [List.length_cons, List.length_append, List.length_nil]
          refine q (.tuple ds) rest p v H' (by rw [isK_tup]; exact ⟨hl4, hks⟩) ?_ ?_ f2 ?_ h2
          · rw [hd, hd2, encL, List.cons_append, List.append_assoc]; rfl
          · rw [hb0, hb2, map_add, hen]
          · rw [hen, show k0 + ((encAll ds).length + 1 + 1) = k0 + 1 + (encAll ds).length + 1 by omega]; exact e2
        · rw [hb2] at hb0
          have := qe _ hb0
          rw [show k0 + (e + 1) = k0 + 1 + e by omega] at this
          exact this
      · walk_at "rd"
        exact num h34 fun _ => by omega
    · walk_at "rd"
      exact num h34 fun h => absurd h h40
theorem ok_key_from (T : TX K mg) : ∀ r : Nat, CalX P w K mg base (5 + 2 * r) "key_from" ["text", "at", "room"] (Sp3 (R_key_from mg r))
  | 0 => step_key_from T 0 4 _ (fun _ e => nomatch e) (CalX.never T.d_parts_from sc_parts_from (by decide)) (by decide)
  | r + 1 => step_key_from T (r + 1) (5 + 2 * r + 1) _ (fun r1 e => by cases e; exact fun _ _ _ _ h => h) (step_parts_from T r (5 + 2 * r) (ok_key_from T r) (by omega)) (by omega)
end


-- the def top 15
theorem sc_read_many : FnScope ["text", "key", "at", "found"] ["text"] (defScope s_read_many) := ⟨rfl, rfl, rfl, by decide +kernel, rfl, by decide +kernel, by decide +kernel⟩
def B_read_many (mg : Str → Option Value) : BK1 := fun t H Q E => ∃ (z : Str), t = .str z ∧ z.length ≤ 150000 ∧
  (∀ (ds : List PyData) (p : Addr) (xs : List V) (H' : Hp), (z.cps.toList = [] ∨ bad true ⟨.wanted, 0, []⟩ z.cps.toList = none) → z.cps.toList = encAll ds → (∀ d ∈ ds, isK 3 d) → Fr Non H H' → Fresh H p → H' p = some (.lst xs) → DtAll H' xs ds → Q (.ref p) H') ∧
  (∀ e, z.cps.toList ≠ [] → bad true ⟨.wanted, 0, []⟩ z.cps.toList = some e → Refuses mg H E e)
theorem cps_nil2 {z : Str} : z = Str.ofString "" ↔ z.cps.toList = [] := by
  have e : (Str.ofString "").cps.toList = [] := by decide +kernel
  exact ⟨fun h => by rw [h]; exact e, fun h => PySem.W.str_of_cps (by rw [h, e])⟩
theorem encL_pos {r : Nat} {d : PyData} (h : isK r d) : 1 ≤ (encL d).length := by
  obtain ⟨x, t, e, _⟩ := encL_head h
  rw [e, List.length_cons]; omega
theorem encMore_ge {r : Nat} : ∀ {ds : List PyData}, (∀ d ∈ ds, isK r d) → 2 * ds.length ≤ (encMore ds).length
  | [], _ => Nat.zero_le _
  | d :: ds, h => by
    have h1 := encL_pos (h d (List.mem_cons_self ..))
    have h2 := encMore_ge fun e he => h e (List.mem_cons_of_mem _ he)
    rw [encMore]; simp only [List.length_cons, List.length_append]; omega
theorem encAll_ge {r : Nat} {ds : List PyData} (h : ∀ d ∈ ds, isK r d) : 2 * ds.length ≤ (encAll ds).length + 1 := by
  cases ds with
  | nil => exact Nat.zero_le _
  | cons d ds =>
    have h1 := encL_pos (h d (List.mem_cons_self ..))
    have h2 := encMore_ge fun e he => h e (List.mem_cons_of_mem _ he)
    rw [encAll, List.length_append, List.length_cons]; omega
section
variable {P : Program} {w : World} {K : PySem.W.Frag} {mg : Str → Option Value} {base : Heap}
theorem ok_read_many (T : TX K mg) : CalX P w K mg base 12 "read_many" ["text"] (Sp1 (B_read_many mg)) := by
  have C_key_from := ok_key_from (P := P) (w := w) (base := base) T 3
  have C_NoText___init__ := ok_NoText___init__ (P := P) (w := w) (base := base) T
  obtain ⟨f, fd, F, hm, bd⟩ := T.d_read_many.ex
  refine ⟨f, fd, F.okX sc_read_many len1 (fun cdv A outer s H vs Q E hr h => ?_), hm, F.kp, bd⟩
  obtain ⟨t, rfl, h⟩ := h
  refine ⟨_, (pss_cons (ps_if (pt_cmpR op_eq (pv 0) pe_str (nomark _)) (pss_one (ps_ret (pe_lst pa_nil))) pss_nil) (pss_cons (ps_asg (pcall C_key_from hr (by first | decide | omega) rfl (passes_call (takes_of rfl rfl rfl rfl) (fun _ _ _ _ h => h)) (pa_cons (pv 0) (pa_cons pe_int (pa_cons (pconst T.c_DEEP rfl) pa_nil)))) (pg_tup rfl (pgs_cons (pg_name (i := 1) sc_read_many.nd rfl (Or.inl rfl)) (pgs_cons (pg_name (i := 2) sc_read_many.nd rfl (Or.inl rfl)) pgs_nil)))) (pss_cons (ps_set (i := 3) sc_read_many.nd rfl (Or.inl rfl) (pe_lst (pa_cons (pv 1) pa_nil))) (pss_cons (ps_while (passes_of rfl) (pt_cmpR op_lt (pv 2) (pe_callB c_lenZ (by rfl) T.b_len (by decide +kernel) (pa_cons (pv 0) pa_nil)) (nomark _)) (pss_cons (ps_if (pt_cmpR op_ne (pe_ix ix_str (pv 0) (pv 2) (fun _ _ => rfl)) pe_str (nomark _)) (pss_one (ps_raiseI rfl (takes_of rfl rfl rfl rfl) (pmk_I C_NoText___init__ T.o_NoText hr (by first | decide | omega) rfl (pa_cons (pv 2) pa_nil)))) pss_nil) (pss_cons (ps_asg (pcall C_key_from hr (by first | decide | omega) rfl (passes_call (takes_of rfl rfl rfl rfl) (fun _ _ _ _ h => h)) (pa_cons (pv 0) (pa_cons (pe_op op_add (pv 2) pe_int) (pa_cons (pconst T.c_DEEP rfl) pa_nil)))) (pg_tup rfl (pgs_cons (pg_name (i := 1) sc_read_many.nd rfl (Or.inl rfl)) (pgs_cons (pg_name (i := 2) sc_read_many.nd rfl (Or.inl rfl)) pgs_nil)))) (pss_one (ps_expr (pe_bm PySem.F.plainAttrs_list PySem.F.slot_list_append PySem.F.type_list_append mt_append (pv 3) (pa_cons (pv 1) pa_nil))))))) (pss_one (ps_ret (pv 3))))))), ?_⟩
  show (_ : TS) _ [some t, none, none, none] H
  first | dsimp only [L2.cxOf] | skip
  obtain ⟨z, rfl, hz, q, qe⟩ := h
  have hzl : z.length ≤ sizeLine := Nat.le_trans hz (by decide)
  have hlen := str_len z
  walk_at "rd"
  refine x_dec (fun h0 => ?_) (fun h0 => ?_)
  · have h0 := cps_nil2.mp h0
    walk_at "rd"
    intro p np
    exact q [] p [] _ (.inl h0) h0 (List.forall_mem_nil _) (Fr.new (Fr.refl _) np) np upd_same .nil
  have hne : z.cps.toList ≠ [] := fun h => h0 (cps_nil2.mpr h)
  have qe' := fun e => qe e hne
  walk_at "rd"
  refine ⟨z, 0, true, [], rfl, rfl, rfl, by omega, rfl, fun d rest p v H1 hk hd hb f1 e1 h1 => ?_, fun e hb => by have := qe' e hb; rw [Nat.zero_add]; exact this⟩
  rw [List.drop_zero] at hd hb
  walk_at "rd"
  intro L nL
  have nLH : Fresh H L := f1.free nL
  walk_at "rd"
  refine x_while (W := fun mm σ H' => Fr Non H H' ∧ ∃ (ds : List PyData) (l : List Nat) (vs : List V) (v1 : V), mm = l.length ∧ ds ≠ [] ∧ (∀ d ∈ ds, isK 3 d) ∧ z.cps.toList = encAll ds ++ l ∧
    bad true ⟨.wanted, 0, []⟩ z.cps.toList = (bad true ⟨.behind, 0, []⟩ l).map (· + (encAll ds).length) ∧
    σ = [some (.str z), some v1, some (.int (((encAll ds).length : Nat) : Int)), some (.ref L)] ∧ H' L = some (.lst vs) ∧ DtAll H' vs ds) rest.length ?_ ?_
  · refine ⟨Fr.new f1 nL, [d], rest, [v], v, rfl, (fun e => nomatch e), fun x hx => by rw [List.mem_singleton.mp hx]; exact hk, ?_, ?_, ?_, upd_same, .cons (h1.upd nL) .nil⟩
    · rw [encAll, encMore, List.append_nil]; exact hd
    · rw [hb, encAll, encMore, List.append_nil]; rfl
    · rw [encAll, encMore, List.append_nil, Nat.zero_add]; rfl
  · rintro mm σ H2 ⟨f2, ds, l, vs, v1, rfl, hdn, hks, hd2, hb2, rfl, hL, hvs⟩
    have hll : z.length = (encAll ds).length + l.length := by rw [hlen, hd2, List.length_append]
    have hge := encAll_ge hks
    have hvl := hvs.length
    have hv100 : vs.length ≤ 100000 := by omega
    obtain ⟨a, ha⟩ : ∃ a : Nat, a = (encAll ds).length := ⟨_, rfl⟩
    have hda : z.cps.toList.drop a = l := by rw [ha, hd2, List.drop_left]
    rw [← ha]
    walk_at "rd"
    refine x_dec (fun hlt => ?_) (fun hlt => ?_)
    · cases l with
      | nil => simp only [List.length_nil] at hll; omega
      | cons c l =>
        have ac : atI z.cps.toList (a : Int) = some c := atI_nat (get_at (a := []) hda)
        have hda1 : z.cps.toList.drop (a + 1) = l := drop_next hda
        refine ⟨fun σ' H' => ∃ m', m' < (c :: l).length ∧ Fr Non H H' ∧ ∃ (ds : List PyData) (l : List Nat) (vs : List V) (v1 : V), m' = l.length ∧ ds ≠ [] ∧ (∀ d ∈ ds, isK 3 d) ∧ z.cps.toList = encAll ds ++ l ∧
          bad true ⟨.wanted, 0, []⟩ z.cps.toList = (bad true ⟨.behind, 0, []⟩ l).map (· + (encAll ds).length) ∧
          σ' = [some (.str z), some v1, some (.int (((encAll ds).length : Nat) : Int)), some (.ref L)] ∧ H' L = some (.lst vs) ∧ DtAll H' vs ds, fun σ' H' h => h, ?_⟩
        walk_at "rd"
        rw [sg_eqC c 32 _ sg_s]
        refine x_ndec (fun g32 => ?_) (fun g32 => ?_)
        · have hbs : bad true ⟨.behind, 0, []⟩ (c :: l) = some 0 := bad_none (by rw [step_behind]; exact behindR_no (.inr rfl) (.inl g32))
          rw [hbs] at hb2
          walk_at "rd"
          exact x_mkI0 fun d' nd => qe' (0 + (encAll ds).length) hb2 d' _ (Fr.new f2 nd) (by rw [show 0 + (encAll ds).length = a by omega]; exact upd_same)
        · have hst : bad true ⟨.behind, 0, []⟩ (c :: l) = (bad true ⟨.wanted, 0, []⟩ l).map (· + 1) := by
            rw [g32]
            refine bad_some ?_
            rw [step_behind]
            unfold behindR
            rw [if_neg (by rintro ⟨h, _⟩; exact absurd h (by decide)), if_pos ⟨rfl, rfl⟩]
          have em : ((a : Int) + 1) = ((a + 1 : Nat) : Int) := by omega
          walk_at "rd"
          rw [em]
          refine ⟨z, a + 1, true, [], rfl, rfl, rfl, by omega, rfl, fun d rest p3 v H3 hk3 hd3 hb3 f3 e3 h3 => ?_, fun e hb3 => ?_⟩
          · have hL3 := f3.keep _ _ hL id
            have hvs3 := hvs.mono f3
            have f03 := f2.trans f3
            rw [hda1] at hd3 hb3
            walk_at "rd"
            have hea : (encAll (ds ++ [d])).length = (encAll ds).length + (1 + (encL d).length) := by
              rw [encAll_snoc d hdn, List.length_append, List.length_cons]; omega
            have hrl : l.length = (encL d).length + rest.length := by rw [hd3, List.length_append]
            refine ⟨rest.length, by rw [List.length_cons]; omega, Fr.mut f03 hL3 rfl (.inr nLH), ds ++ [d], rest, vs ++ [v], v, rfl, (fun e => by have := congrArg List.length e; rw [List.length_append] at this; simp at this), fun x hx => ?_, ?_, ?_, ?_, upd_same, DtAll.app (hvs3.updm hL3 rfl) (DtAll.one (h3.updm hL3 rfl))⟩
            · rcases List.mem_append.mp hx with hx | hx
              · exact hks x hx
              · rw [List.mem_singleton.mp hx]; exact hk3
            · rw [encAll_snoc d hdn, List.append_assoc, List.cons_append, ← hd3, ← g32]; exact hd2
            · rw [hb2, hst, hb3, map_add, map_add, hea]
              have e1 : (encL d).length + (1 + (encAll ds).length) = (encAll ds).length + (1 + (encL d).length) := by omega
              rw [e1]; rfl
            · have eb : a + 1 + (encL d).length = (encAll (ds ++ [d])).length := by rw [hea]; omega
              rw [eb]; rfl
          · rw [hda1] at hb3
            rw [hst, hb3] at hb2
            have := (qe' (e + 1 + (encAll ds).length) hb2).mono f2
            rw [show e + 1 + (encAll ds).length = a + 1 + e by omega] at this
            exact this
    · cases l with
      | cons c l => simp only [List.length_cons] at hll; omega
      | nil =>
        walk_at "rd"
        rw [List.append_nil] at hd2
        exact q ds L vs _ (.inr (by rw [hb2]; rfl)) hd2 hks f2 nLH hL hvs
end

-- the def top 30
theorem sc_law_is_key : FnScope ["_law_thing", "_law_room", "_law_part"] ["_law_thing", "_law_room"] (defScope s_law_is_key) := ⟨rfl, rfl, rfl, by decide +kernel, rfl, by decide +kernel, by decide +kernel⟩
def B_law_is_key (r : Nat) : BK2 := fun t rm H Q _ => ∃ d, Dt H t d ∧ isK r d ∧ rm = .int (r : Int) ∧ ∀ H', Fr Non H H' → Q (.bl true) H'
section
variable {P : Program} {w : World} {K : PySem.W.Frag} {mg : Str → Option Value} {base : Heap}
theorem step_law_is_key (T : TX K mg) (r k : Nat) (spR : Sp) (hR : ∀ r1, r = r1 + 1 → ∀ vs H Q E, Sp2 (B_law_is_key r1) vs H Q E → spR vs H Q E) (C_law_is_key : CalX P w K mg base k "_law_is_key" ["_law_thing", "_law_room"] spR) (hk : 1 ≤ k) : CalX P w K mg base (k + 1) "_law_is_key" ["_law_thing", "_law_room"] (Sp2 (B_law_is_key r)) := by
  obtain ⟨f, fd, F, hm, bd⟩ := T.d_law_is_key.ex
  refine ⟨f, fd, F.okX sc_law_is_key len2 (fun cdv A outer s H vs Q E hr h => ?_), hm, F.kp, bd⟩
  obtain ⟨t, rm, rfl, h⟩ := h
  refine ⟨_, (pss_cons (ps_if (pt_val (pe_callB call_isi (by rfl) T.b_isinstance PyProof.Rows.boot_isinstance (pa_cons (pv 0) (pa_cons (pe_bltn (v := .ty "tuple") rfl T.b_tuple PyProof.Rows.boot_tuple rfl) pa_nil)))) (pss_one (ps_ret (pe_and (pe_cmpR op_gt (pv 1) pe_int (nomark _)) (pe_one (pe_callB (cr_all rfl) (by rfl) T.b_all (by decide +kernel) (pa_cons (pe_lc (own := [("_law_part", 2)]) (g := gName 2) (tt := tYes) rfl sc_law_is_key.nd (pi_tup (pv 0)) (blkOk_by (N := ["_law_thing", "_law_room", "_law_part"]) (sc := defScope s_law_is_key) (own := [("_law_part", 2)]) (by decide +kernel)) (fun _ _ _ _ _ => pg_name (i := 2) sc_law_is_key.nd rfl (by first | exact Or.inl rfl | exact Or.inr rfl)) (fun _ _ _ _ _ => pts_nil) (fun _ _ _ _ _ => (pcall C_law_is_key hr (by first | decide | omega) rfl Passes.none (pa_cons (pv 2) (pa_cons (pe_op op_sub (pv 1) pe_int) pa_nil))))) pa_nil)))))) pss_nil) (pss_one (ps_ret (pe_or (pe_callB call_isi (by rfl) T.b_isinstance PyProof.Rows.boot_isinstance (pa_cons (pv 0) (pa_cons (pe_bltn (v := .ty "str") rfl T.b_str PyProof.Rows.boot_str rfl) pa_nil))) (pe_one (pe_and (pe_callB call_isi (by rfl) T.b_isinstance PyProof.Rows.boot_isinstance (pa_cons (pv 0) (pa_cons (pe_bltn (v := .ty "int") rfl T.b_int PyProof.Rows.boot_int rfl) pa_nil))) (pe_one (pe_not (pe_callB call_isi (by rfl) T.b_isinstance PyProof.Rows.boot_isinstance (pa_cons (pv 0) (pa_cons (pe_bltn (v := .ty "bool") rfl T.b_bool PyProof.Rows.boot_bool rfl) pa_nil))))))))))), ?_⟩
  show (_ : TS) _ [some t, some rm, none] H
  first | dsimp only [L2.cxOf] | skip
  obtain ⟨d, hd, hk, rfl, q⟩ := h
  rcases isK_cases hk with ⟨i, rfl, hi⟩ | ⟨z, rfl, hz⟩ | ⟨r1, ds, rfl, rfl, hl, hs⟩
  · cases hd
    walk_at "rd"
    exact q _ (Fr.refl _)
  · cases hd
    walk_at "rd"
    exact q _ (Fr.refl _)
  · cases hd with
    | @tup a xs _ e1 h1 =>
    have l1 := h1.length
    walk_at "rd"
    refine x_yes (decide_eq_true (by omega)) ?_
    walk_at "rd"
    refine x_iRef (C := fun a => ∃ xs, SqT K H a xs) ⟨xs, SqT.of e1⟩ ?_
    intro D nD
    refine x_lcT xs (fun i H' => Fr Non H H' ∧ H' D = some (.lst ((List.replicate i true).map V.bl))) ⟨by walk_at "fr", upd_same⟩ (fun i H' _ ⟨f, _⟩ => SqT.of (f.tup _ _ e1)) ?_ ?_
    · rintro i x H3 hx ⟨f3, hD⟩
      obtain ⟨d, g1, k1⟩ := h1.get hx
      have hi := (List.getElem?_eq_some_iff.mp hx).1
      have hl3 : ((List.replicate i true).map V.bl).length ≤ 100000 := by simp only [List.length_map, List.length_replicate]; omega
      have er : (((r1 + 1 : Nat) : Int) - 1) = ((r1 : Nat) : Int) := by omega
      walk_at "rd"
      rw [er]
      refine hR r1 rfl _ _ _ _ ?_
      walk_at "rd"
      refine ⟨d, k1.mono f3, hs d (List.mem_of_getElem? g1), rfl, fun H4 f4 => ?_⟩
      walk_at "rd"
      refine ⟨by walk_at "fr", ?_⟩
      rw [List.replicate_succ', List.map_append]
      exact upd_same
    · rintro H3 ⟨f3, hD⟩
      walk_at "rd"
      refine x_all (SqL.of hD) ?_
      have e : (List.replicate xs.length true).all id = true := by rw [List.all_eq_true]; exact fun x hx => by rw [List.eq_of_mem_replicate hx]; rfl
      rw [e]
      exact q _ f3
theorem ok_law_is_key (T : TX K mg) : ∀ r : Nat, CalX P w K mg base (2 + r) "_law_is_key" ["_law_thing", "_law_room"] (Sp2 (B_law_is_key r))
  | 0 => step_law_is_key T 0 1 _ (fun _ e => nomatch e) (CalX.never T.d_law_is_key sc_law_is_key (by decide)) (Nat.le_refl _)
  | r + 1 => step_law_is_key T (r + 1) (2 + r) _ (fun r1 e => by cases e; exact fun _ _ _ _ h => h) (ok_law_is_key T r) (by omega)
end

-- the def top 31
theorem sc_law_told : FnScope ["_law_text_here", "_law_found", "_law_wrote", "e", "_law_key_here"] ["_law_text_here"] (defScope s_law_told) := ⟨rfl, rfl, rfl, by decide +kernel, rfl, by decide +kernel, by decide +kernel⟩
def B_law_told (mg : Str → Option Value) : BK1 := fun t H Q _ => ∃ (z : Str), t = .str z ∧ z.length ≤ 150000 ∧
  (∀ e v H', z.cps.toList ≠ [] → bad true ⟨.wanted, 0, []⟩ z.cps.toList = some e → Fr Non H H' → Dt H' v (.tuple [.str "refused", .int (e : Int)]) → Q v H') ∧
  (∀ v H', (z.cps.toList = [] ∨ bad true ⟨.wanted, 0, []⟩ z.cps.toList = none) → Fr Non H H' → Dt H' v (.tuple [.str "told", .str z]) → Q v H')
theorem sum_more : ∀ ds : List PyData, ((ds.map encS).map (·.length)).sum + ds.length = (encMore ds).length
  | [] => rfl
  | d :: ds => by
    have h := sum_more ds
    have h3 : (encS d).length = (encL d).length := strOf_len _
    rw [List.map_cons, List.map_cons, List.sum_cons, encMore, List.length_cons, List.length_cons, List.length_append, h3]; omega
theorem sum_all (ds : List PyData) : ((ds.map encS).map (·.length)).sum + ds.length ≤ (encAll ds).length + 1 := by
  cases ds with
  | nil => exact Nat.zero_le _
  | cons d ds =>
    have h := sum_more ds
    have h3 : (encS d).length = (encL d).length := strOf_len _
    rw [List.map_cons, List.map_cons, List.sum_cons, encAll, List.length_append, List.length_cons, h3]; omega
section
variable {P : Program} {w : World} {K : PySem.W.Frag} {mg : Str → Option Value} {base : Heap}
theorem ok_law_told (T : TX K mg) : CalX P w K mg base 13 "_law_told" ["_law_text_here"] (Sp1 (B_law_told mg)) := by
  have C_read_many := ok_read_many (P := P) (w := w) (base := base) T
  have C_law_shown := ok_law_shown (P := P) (w := w) (base := base) T 3
  have C_law_is_key := ok_law_is_key (P := P) (w := w) (base := base) T 3
  obtain ⟨f, fd, F, hm, bd⟩ := T.d_law_told.ex
  refine ⟨f, fd, F.okX sc_law_told len1 (fun cdv A outer s H vs Q E hr h => ?_), hm, F.kp, bd⟩
  obtain ⟨t, rfl, h⟩ := h
  refine ⟨_, (pss_cons (ps_set (i := 1) sc_law_told.nd rfl (Or.inl rfl) (pe_lst pa_nil)) (pss_cons (ps_tryAs (i := 3) rfl rfl sc_law_told.nd rfl rfl ⟨rfl, by decide, .inl T.x_TwigError.m⟩ takes0 (fun W pn xe tk _ => (pss_one (ps_set (i := 1) sc_law_told.nd rfl (Or.inl rfl) (pcallX C_read_many hr (by first | decide | omega) rfl tk (pa_cons (pv 0) pa_nil))))) (fun a oe cls d pn hz hf => (pss_cons (ps_if (PW.pt (pw_or (pt_not (pt_val (pe_callB (r := rIsY K a cls d) (call_isY hz hf) (by rfl) T.b_isinstance PyProof.Rows.boot_isinstance (pa_cons (pv 3) (pa_cons (pe_glob (v := .ref (clA mg "NoText")) rfl T.x_NoText.m rfl) pa_nil))))) (pw_or (pt_not (pt_val (pe_callB (r := rIsi K) call_isi (by rfl) T.b_isinstance PyProof.Rows.boot_isinstance (pa_cons (pe_xf T.o_NoText.xf T.o_NoText.no hz hf (pv 3)) (pa_cons (pe_bltn (v := .ty "int") rfl T.b_int PyProof.Rows.boot_int rfl) pa_nil))))) (pw_or1 (pt_val (pe_callB (r := rIsi K) call_isi (by rfl) T.b_isinstance PyProof.Rows.boot_isinstance (pa_cons (pe_xf T.o_NoText.xf T.o_NoText.no hz hf (pv 3)) (pa_cons (pe_bltn (v := .ty "bool") rfl T.b_bool PyProof.Rows.boot_bool rfl) pa_nil)))))))) (pss_one (ps_ret (pe_tup (pa_cons pe_str pa_nil)))) pss_nil) (pss_one (ps_ret (pe_tup (pa_cons pe_str (pa_cons (pe_xf T.o_NoText.xf T.o_NoText.no hz hf (pv 3)) pa_nil)))))))) (pss_cons (ps_if (PW.pt (pw_or (pt_not (pt_val (pe_callB call_isi (by rfl) T.b_isinstance PyProof.Rows.boot_isinstance (pa_cons (pv 1) (pa_cons (pe_bltn (v := .ty "list") rfl T.b_list PyProof.Rows.boot_list rfl) pa_nil))))) (pw_or1 (pt_not (pt_val (pe_callB (cr_all rfl) (by rfl) T.b_all (by decide +kernel) (pa_cons (pe_lc (own := [("_law_key_here", 4)]) (g := gName 4) (tt := tYes) rfl sc_law_told.nd (pi_list (pv 1)) (blkOk_by (N := ["_law_text_here", "_law_found", "_law_wrote", "e", "_law_key_here"]) (sc := defScope s_law_told) (own := [("_law_key_here", 4)]) (by decide +kernel)) (fun _ _ _ _ _ => pg_name (i := 4) sc_law_told.nd rfl (by first | exact Or.inl rfl | exact Or.inr rfl)) (fun _ _ _ _ _ => pts_nil) (fun _ _ _ _ _ => (pcall C_law_is_key hr (by first | decide | omega) rfl Passes.none (pa_cons (pv 4) (pa_cons pe_int pa_nil))))) pa_nil))))))) (pss_one (ps_ret (pe_tup (pa_cons pe_str pa_nil)))) pss_nil) (pss_cons (ps_set (i := 2) sc_law_told.nd rfl (Or.inl rfl) (pe_bm PySem.F.plainAttrs_str PySem.F.slot_str_join PySem.F.type_str_join m_join pe_str (pa_cons (pe_lc (own := [("_law_key_here", 4)]) (g := gName 4) (tt := tYes) rfl sc_law_told.nd (pi_list (pv 1)) (blkOk_by (N := ["_law_text_here", "_law_found", "_law_wrote", "e", "_law_key_here"]) (sc := defScope s_law_told) (own := [("_law_key_here", 4)]) (by decide +kernel)) (fun _ _ _ _ _ => pg_name (i := 4) sc_law_told.nd rfl (by first | exact Or.inl rfl | exact Or.inr rfl)) (fun _ _ _ _ _ => pts_nil) (fun _ _ _ _ _ => (pcall C_law_shown hr (by first | decide | omega) rfl Passes.none (pa_cons (pv 4) pa_nil)))) pa_nil))) (pss_cons (ps_expr (pe_bm0 PySem.F.plainAttrs_list PySem.F.slot_list_clear PySem.F.type_list_clear mt_clear (pv 1))) (pss_one (ps_ret (pe_tup (pa_cons pe_str (pa_cons (pv 2) pa_nil)))))))))), ?_⟩
  show (_ : TS) _ [some t, none, none, none, none] H
  first | dsimp only [L2.cxOf] | skip
  obtain ⟨z, rfl, hz, q1, q2⟩ := h
  have hC : HoldC K (clA mg "NoText") := ⟨T.cl_NoText, excC_of T.xc_NoText⟩
  walk_at "rd"
  intro p0 n0
  have f0 : Fr Non H (upd H p0 (.lst [])) := Fr.new (Fr.refl _) n0
  generalize upd H p0 (.lst []) = H0 at f0 ⊢
  walk_at "rd"
  refine ⟨z, rfl, hz, fun ds p xs H1 hb he hk f1 np hp hxs => ?_, fun e hne hb dd H1 f1 hd => ?_⟩
  · have hxl := hxs.length
    have hge := encAll_ge hk
    have hlen : z.length = (encAll ds).length := by rw [str_len, he]
    have hsum := sum_all ds
    walk_at "rd"
    refine x_iRef (C := fun a => ∃ xs, SqL K H1 a xs) ⟨xs, SqL.of hp⟩ ?_
    intro D nD
    refine x_lcL xs (fun i H' => Fr Non H1 H' ∧ H' D = some (.lst ((List.replicate i true).map V.bl))) ⟨Fr.new (Fr.refl _) nD, upd_same⟩ (fun i H' _ ⟨f, _⟩ => SqL.of (f.keep _ _ hp id)) ?_ ?_
    · rintro i x H3 hx ⟨f3, hD⟩
      obtain ⟨d, g1, k1⟩ := hxs.get hx
      have hi := (List.getElem?_eq_some_iff.mp hx).1
      have hl3 : ((List.replicate i true).map V.bl).length ≤ 100000 := by simp only [List.length_map, List.length_replicate]; omega
      walk_at "rd"
      refine ⟨d, k1.mono f3, hk d (List.mem_of_getElem? g1), rfl, fun H4 f4 => ?_⟩
      walk_at "rd"
      refine ⟨by walk_at "fr", ?_⟩
      rw [List.replicate_succ', List.map_append]
      exact upd_same
    · rintro H3 ⟨f3, hD⟩
      walk_at "rd"
      refine x_all (SqL.of hD) ?_
      have e : (List.replicate xs.length true).all id = true := by rw [List.all_eq_true]; exact fun x hx => by rw [List.eq_of_mem_replicate hx]; rfl
      rw [e]
      have hp3 := f3.keep _ _ hp id
      have hxs3 := hxs.mono f3
      walk_at "rd"
      refine x_iRef (C := fun a => ∃ xs, SqL K H3 a xs) ⟨xs, SqL.of hp3⟩ ?_
      intro D2 nD2
      refine x_lcL xs (fun i H' => Fr Non H3 H' ∧ H' D2 = some (.lst (((ds.take i).map encS).map V.str))) ⟨Fr.new (Fr.refl _) nD2, upd_same⟩ (fun i H' _ ⟨f, _⟩ => SqL.of (f.keep _ _ hp3 id)) ?_ ?_
      · rintro i x H4 hx ⟨f4, hD4⟩
        obtain ⟨d, g1, k1⟩ := hxs3.get hx
        have hi := (List.getElem?_eq_some_iff.mp hx).1
        have hl4 : (((ds.take i).map encS).map V.str).length ≤ 100000 := by simp only [List.length_map, List.length_take]; omega
        walk_at "rd"
        refine ⟨d, k1.mono f4, hk d (List.mem_of_getElem? g1), by decide, fun H5 f5 => ?_⟩
        walk_at "rd"
        refine ⟨by walk_at "fr", ?_⟩
        rw [List.take_succ, g1, List.map_append, List.map_append]
        exact upd_same
      · rintro H4 ⟨f4, hD4⟩
        rw [List.take_of_length_le (by omega)] at hD4
        have hp4 := f4.keep _ _ hp3 id
        walk_at "rd"
        refine x_join (SqL.of hD4) ?_ ?_
        · rw [List.length_map, show (Str.ofString " ").length = 1 by decide +kernel]; omega
        rw [join_enc]
        walk_at "rd"
        refine ⟨p, xs, rfl, rfl, hp4, ?_⟩
        walk_at "rd"
        intro p9 n9
        refine q2 _ _ hb (Fr.new (Fr.mut ((f0.trans f1).trans (f3.trans f4)) hp4 rfl (.inr (f0.free np))) n9) (.tup upd_same (.cons (.str _) (.cons ?_ .nil)))
        rw [← he, of_cps]
        exact .str _
  · refine x_wAsT T.em_NoText fun a ha => ?_
    walk_at "rd"
    refine x_isY hd hC (.own _) T.ki_NoText ?_
    walk_at "rd"
    refine x_xf rfl hd rfl ?_
    walk_at "rd"
    refine x_xf rfl hd rfl ?_
    walk_at "rd"
    refine x_xf rfl hd rfl ?_
    walk_at "rd"
    intro p np
    exact q1 e _ _ hne hb (Fr.new (f0.trans f1) np) (.tup upd_same (.cons (.str _) (.cons (.int _) .nil)))
end

-- the def top 33
theorem sc_law : FnScope ["_law_script", "_law_k", "_law_text_here", "_law_at", "_law_due", "_law_turn"] ["_law_script"] (defScope s_law) := ⟨rfl, rfl, rfl, by decide +kernel, rfl, by decide +kernel, by decide +kernel⟩
def B_law (K : PySem.W.Frag) : BK1 := fun s H Q _ => ∃ (a : Addr) (ns : List Int), s = .ref a ∧ SqL K H a (ns.map V.int) ∧ ns.length ≤ 63 ∧ ∀ H', Q (.bl true) H'
theorem due_shaped1 (e : Int) : SeqAt.shaped (.tuple [.str "refused", .int e]) = true := by
  have h : PyData.strOk "refused" = true := by decide +kernel
  simp [SeqAt.shaped, PyData.canLay0, PyData.canLayAll0, PyData.depth, PyData.depthAll, h]
theorem due_shaped2 {z : Str} (hz : okT z) : SeqAt.shaped (.tuple [.str "told", .str z]) = true := by
  have h : PyData.strOk "told" = true := by decide +kernel
  simp [SeqAt.shaped, PyData.canLay0, PyData.canLayAll0, PyData.depth, PyData.depthAll, h, okT_strOk hz]
theorem due_eqv1 (e : Int) : PyData.eqv (.tuple [.str "refused", .int e]) (.tuple [.str "refused", .int e]) = true := by simp [PyData.eqv, PyData.eqvAll]
theorem due_eqv2 (z : Str) : PyData.eqv (.tuple [.str "told", .str z]) (.tuple [.str "told", .str z]) = true := by simp [PyData.eqv, PyData.eqvAll]
theorem fails_none {m : Bool} {z : Str} (hb : (m = true ∧ z.cps.toList = []) ∨ bad m ⟨.wanted, 0, []⟩ z.cps.toList = none) : failsR m z = -1 := by
  unfold failsR
  split
  · rfl
  · rename_i h
    rcases hb with hb | hb
    · exact absurd hb h
    · rw [hb]
theorem fails_some {m : Bool} {z : Str} {e : Nat} (hn : ¬ (m = true ∧ z.cps.toList = [])) (hb : bad m ⟨.wanted, 0, []⟩ z.cps.toList = some e) : failsR m z = (e : Int) := by
  unfold failsR
  rw [if_neg hn, hb]
section
variable {P : Program} {w : World} {K : PySem.W.Frag} {mg : Str → Option Value} {base : Heap}
theorem ok_law (T : TX K mg) {f : Addr} {fd : FuncData} (F : Fun K "law" "law" s_law f fd) : FnOk P w K mg base (L2.CX P w) 14 f fd ["_law_script"] (Sp1 (B_law K)) := by
  have C_law_one := ok_law_one (P := P) (w := w) (base := base) T
  have C_law_fails := ok_law_fails (P := P) (w := w) (base := base) T
  have C_law_well := ok_law_well (P := P) (w := w) (base := base) T
  have C_law_told := ok_law_told (P := P) (w := w) (base := base) T
  refine F.okX sc_law len1 (fun cdv A outer s H vs Q E hr h => ?_)
  obtain ⟨s, rfl, h⟩ := h
  refine ⟨_, (pss_cons (ps_for (passes_of rfl) rfl (pi_range2 rfl T.b_range (pa_cons pe_int (pa_cons (pe_callB (c_max2 rfl) (by rfl) T.b_max (by decide +kernel) (pa_cons pe_int (pa_cons (pe_callB (c_min2 rfl) (by rfl) T.b_min (by decide +kernel) (pa_cons (pe_callB c_lenA (by rfl) T.b_len (by decide +kernel) (pa_cons (pv 0) pa_nil)) (pa_cons pe_int pa_nil))) pa_nil))) pa_nil))) (pg_name (i := 1) sc_law.nd rfl (Or.inl rfl)) (pss_cons (ps_set (i := 2) sc_law.nd rfl (Or.inl rfl) (pcall C_law_one hr (by first | decide | omega) rfl Passes.none (pa_cons (pcall C_law_well hr (by first | decide | omega) rfl Passes.none (pa_cons (pv 0) (pa_cons (pv 1) pa_nil))) pa_nil))) (pss_cons (ps_set (i := 3) sc_law.nd rfl (Or.inl rfl) (pcall C_law_fails hr (by first | decide | omega) rfl Passes.none (pa_cons (pv 2) (pa_cons pe_bl pa_nil)))) (pss_cons (ps_set (i := 4) sc_law.nd rfl (Or.inl rfl) (pe_tup (pa_cons pe_str (pa_cons (pv 3) pa_nil)))) (pss_cons (ps_if (pt_cmpR op_eq (pv 3) (pe_un un_neg pe_int) (nomark _)) (pss_one (ps_set (i := 4) sc_law.nd rfl (Or.inl rfl) (pe_tup (pa_cons pe_str (pa_cons (pv 2) pa_nil))))) pss_nil) (pss_one (ps_for (passes_of rfl) rfl (pi_range1 rfl T.b_range (pa_cons pe_int pa_nil)) (pg_name (i := 5) sc_law.nd rfl (Or.inl rfl)) (pss_one (ps_if (pt_cmpR (op_neD hr.units) (pcall C_law_told hr (by first | decide | omega) rfl Passes.none (pa_cons (pv 2) pa_nil)) (pv 4) (nomark _)) (pss_one (ps_ret pe_bl)) pss_nil))))))))) (pss_one (ps_ret pe_bl))), ?_⟩
  show (_ : TS) _ [some s, none, none, none, none, none] H
  first | dsimp only [L2.cxOf] | skip
  obtain ⟨a, ns, rfl, hS, hn, q⟩ := h
  obtain ⟨top, htop, htop1⟩ : ∃ top : Int, top = (if (if 63 < ((ns.map V.int).length : Int) then (63 : Int) else ((ns.map V.int).length : Int)) > 4 then (if 63 < ((ns.map V.int).length : Int) then (63 : Int) else ((ns.map V.int).length : Int)) else 4) ∧ (4 ≤ top ∧ top ≤ 63) := by
    refine ⟨_, rfl, ?_⟩
    rw [List.length_map]
    constructor <;> (repeat' split) <;> omega
  have hrg : (-(2 ^ 62) ≤ (1 : Int) ∧ (1 : Int) < 2 ^ 62 ∧ -(2 ^ 62) ≤ top ∧ top < 2 ^ 62) := ⟨by decide, by decide, by omega, by omega⟩
  walk_at "rd"
  rw [← htop]
  refine ⟨_, _, rfl, hrg, ?_⟩
  refine x_forR (n := (top - 1).toNat) (fun i σ H' => ∃ v1 v2 v3 v4 v5 : Option V, σ = [some (.ref a), v1, v2, v3, v4, v5] ∧ Fr Non H H') ⟨_, _, _, _, _, rfl, Fr.refl _⟩ ?_ ?_
  · rintro i σ H1 hi ⟨v1, v2, v3, v4, v5, rfl, f1⟩
    walk_at "rd"
    refine ⟨a, ns, _, rfl, rfl, by omega, SqL_fr hS f1 id, hn, fun W H2 f2 nW w2 => ?_⟩
    have nWH : Fresh H W := f1.free nW
    walk_at "rd"
    refine ⟨W, rfl, w2, fun z H4 f4' w4 okz hzl => ?_⟩
    have f4 : Fr Non H H4 := (f1.trans f2).sub' f4' fun b h => by subst h; exact .inr nWH
    walk_at "rd"
    refine ⟨z, true, rfl, rfl, by omega, fun H5 f5 => ?_⟩
    have f45 := f4.trans f5
    walk_at "rd"
    intro p6 n6
    walk_at "rd"
    by_cases hno : z.cps.toList = [] ∨ bad true ⟨.wanted, 0, []⟩ z.cps.toList = none
    · rw [fails_none (hno.imp (fun h => ⟨rfl, h⟩) id)]
      walk_at "rd"
      intro p7 n7
      walk_at "rd"
      have f7 : Fr Non H (upd (upd H5 p6 (.tup [.str "refused", .int (-1)])) p7 (.tup [.str "told", .str z])) := Fr.new (Fr.new f45 n6) n7
      have h7 : Dt (upd (upd H5 p6 (.tup [.str "refused", .int (-1)])) p7 (.tup [.str "told", .str z])) (.ref p7) (.tuple [.str "told", .str z]) := .tup upd_same (.cons (.str _) (.cons (.str _) .nil))
      generalize upd (upd H5 p6 (.tup [.str "refused", .int (-1)])) p7 (.tup [.str "told", .str z]) = H7 at f7 h7 ⊢
      refine x_forR (n := 2) (fun j σ H' => ∃ v5 : Option V, σ = [some (.ref a), some (.int (1 + (i : Int))), some (.str z), some (.int (-1)), some (.ref p7), v5] ∧ Fr Non H7 H') ⟨_, rfl, Fr.refl _⟩ ?_ ?_
      · rintro j σ H8 hj ⟨v5', rfl, f8⟩
        walk_at "rd"
        refine ⟨z, rfl, hzl, fun e v H9 hn9 hb9 f9 hv9 => ?_, fun v H9 hb9 f9 hv9 => ?_⟩
        · rcases hno with h | h
          · exact absurd h hn9
          · rw [h] at hb9; cases hb9
        · have hd9 := (h7.mono f8).mono f9
          walk_at "rd"
          refine x_neD (Dt.dp _ _ hv9) (Dt.dp _ _ hd9) (due_shaped2 okz) (due_shaped2 okz) ?_
          rw [due_eqv2]
          walk_at "rd"
          exact ⟨_, rfl, f8.trans f9⟩
      · rintro σ H8 ⟨v5', rfl, f8⟩
        exact ⟨_, _, _, _, _, rfl, f7.trans f8⟩
    · obtain ⟨e0, hb0⟩ : ∃ e, bad true ⟨.wanted, 0, []⟩ z.cps.toList = some e := by
        cases hq : bad true ⟨.wanted, 0, []⟩ z.cps.toList with
        | none => exact absurd (.inr hq) hno
        | some e => exact ⟨e, rfl⟩
      have efs : failsR true z = (e0 : Int) := fails_some (fun h => hno (.inl h.2)) hb0
      rw [efs]
      refine x_no (decide_eq_false (by omega)) ?_
      have f6 : Fr Non H (upd H5 p6 (.tup [.str "refused", .int (e0 : Int)])) := Fr.new f45 n6
      have h6 : Dt (upd H5 p6 (.tup [.str "refused", .int (e0 : Int)])) (.ref p6) (.tuple [.str "refused", .int (e0 : Int)]) := .tup upd_same (.cons (.str _) (.cons (.int _) .nil))
      generalize upd H5 p6 (.tup [.str "refused", .int (e0 : Int)]) = H6 at f6 h6 ⊢
      walk_at "rd"
      refine x_forR (n := 2) (fun j σ H' => ∃ v5 : Option V, σ = [some (.ref a), some (.int (1 + (i : Int))), some (.str z), some (.int (e0 : Int)), some (.ref p6), v5] ∧ Fr Non H6 H') ⟨_, rfl, Fr.refl _⟩ ?_ ?_
      · rintro j σ H8 hj ⟨v5', rfl, f8⟩
        walk_at "rd"
        refine ⟨z, rfl, hzl, fun e v H9 hn9 hb9 f9 hv9 => ?_, fun v H9 hb9 f9 hv9 => ?_⟩
        · rw [hb0] at hb9
          cases hb9
          have hd9 := (h6.mono f8).mono f9
          walk_at "rd"
          refine x_neD (Dt.dp _ _ hv9) (Dt.dp _ _ hd9) (due_shaped1 _) (due_shaped1 _) ?_
          rw [due_eqv1]
          walk_at "rd"
          exact ⟨_, rfl, f8.trans f9⟩
        · exact absurd hb9 hno
      · rintro σ H8 ⟨v5', rfl, f8⟩
        exact ⟨_, _, _, _, _, rfl, f6.trans f8⟩
  · rintro σ H1 ⟨v1, v2, v3, v4, v5, rfl, f1⟩
    walk_at "rd"
    exact q _
end

theorem all_mk {l : PySem.W.OpenLaw} {w : World} {K : PySem.W.Frag} {h : Heap} {mg : Str → Option Value} {fa : Addr} {k_NoText : Addr} {k_TwigError : Addr} {f0 : Addr} {od0 an0 : Option Addr} {sl0 : Array (Option Value)} {oc0 kV0 dc0 pm0 cd0 ct0 : Value} {f1 : Addr} {od1 an1 : Option Addr} {sl1 : Array (Option Value)} {oc1 kV1 dc1 pm1 cd1 ct1 : Value} {f2 : Addr} {od2 an2 : Option Addr} {sl2 : Array (Option Value)} {oc2 kV2 dc2 pm2 cd2 ct2 : Value} {f3 : Addr} {od3 an3 : Option Addr} {sl3 : Array (Option Value)} {oc3 kV3 dc3 pm3 cd3 ct3 : Value} {f4 : Addr} {od4 an4 : Option Addr} {sl4 : Array (Option Value)} {oc4 kV4 dc4 pm4 cd4 ct4 : Value} {f5 : Addr} {od5 an5 : Option Addr} {sl5 : Array (Option Value)} {oc5 kV5 dc5 pm5 cd5 ct5 : Value} {f6 : Addr} {od6 an6 : Option Addr} {sl6 : Array (Option Value)} {oc6 kV6 dc6 pm6 cd6 ct6 : Value} {f7 : Addr} {od7 an7 : Option Addr} {sl7 : Array (Option Value)} {oc7 kV7 dc7 pm7 cd7 ct7 : Value} {f8 : Addr} {od8 an8 : Option Addr} {sl8 : Array (Option Value)} {oc8 kV8 dc8 pm8 cd8 ct8 : Value} {f9 : Addr} {od9 an9 : Option Addr} {sl9 : Array (Option Value)} {oc9 kV9 dc9 pm9 cd9 ct9 : Value} {f10 : Addr} {od10 an10 : Option Addr} {sl10 : Array (Option Value)} {oc10 kV10 dc10 pm10 cd10 ct10 : Value} {f11 : Addr} {od11 an11 : Option Addr} {sl11 : Array (Option Value)} {oc11 kV11 dc11 pm11 cd11 ct11 : Value} {f12 : Addr} {od12 an12 : Option Addr} {sl12 : Array (Option Value)} {oc12 kV12 dc12 pm12 cd12 ct12 : Value} {f13 : Addr} {od13 an13 : Option Addr} {sl13 : Array (Option Value)} {oc13 kV13 dc13 pm13 cd13 ct13 : Value} {f14 : Addr} {od14 an14 : Option Addr} {sl14 : Array (Option Value)} {oc14 kV14 dc14 pm14 cd14 ct14 : Value} {f15 : Addr} {od15 an15 : Option Addr} {sl15 : Array (Option Value)} {oc15 kV15 dc15 pm15 cd15 ct15 : Value} {f16 : Addr} {od16 an16 : Option Addr} {sl16 : Array (Option Value)} {oc16 kV16 dc16 pm16 cd16 ct16 : Value} {f17 : Addr} {od17 an17 : Option Addr} {sl17 : Array (Option Value)} {oc17 kV17 dc17 pm17 cd17 ct17 : Value} {f18 : Addr} {od18 an18 : Option Addr} {sl18 : Array (Option Value)} {oc18 kV18 dc18 pm18 cd18 ct18 : Value} {f19 : Addr} {od19 an19 : Option Addr} {sl19 : Array (Option Value)} {oc19 kV19 dc19 pm19 cd19 ct19 : Value} {f20 : Addr} {od20 an20 : Option Addr} {sl20 : Array (Option Value)} {oc20 kV20 dc20 pm20 cd20 ct20 : Value} {f21 : Addr} {od21 an21 : Option Addr} {sl21 : Array (Option Value)} {oc21 kV21 dc21 pm21 cd21 ct21 : Value} {f22 : Addr} {od22 an22 : Option Addr} {sl22 : Array (Option Value)} {oc22 kV22 dc22 pm22 cd22 ct22 : Value} {f23 : Addr} {od23 an23 : Option Addr} {sl23 : Array (Option Value)} {oc23 kV23 dc23 pm23 cd23 ct23 : Value} {f24 : Addr} {od24 an24 : Option Addr} {sl24 : Array (Option Value)} {oc24 kV24 dc24 pm24 cd24 ct24 : Value} {t_DEEP : Nat} {t_DIGITS : Nat} {t_FIGURES : Nat} {t_SIGNS : Nat} {t_WIDE : Nat} {nm_NoText qn_NoText : Str} {N_NoText : Addr} {bs_NoText bm_NoText su_NoText : List Value} {sn_NoText : List Str} {ab_NoText : Bool} {co_NoText : Option Bool} {dd_NoText : Option Addr} {g0_NoText g1_NoText g2_NoText g3_NoText g5_NoText : Option Value} (X : K.In h) (G : h.Ns mainGlobals mg) (hfa : mg "law" = some (.ref fa))
    (n_NoText : PySem.W.nsIn K mainGlobals "NoText" = some (some (.ref k_NoText)))
    (n_TwigError : PySem.W.nsIn K mainGlobals "TwigError" = some (some (.ref k_TwigError)))
    (a0 : PySem.W.nsIn K mainGlobals "_law_pull" = some (some (.ref f0))) (l0 : K.lookup f0 = some ⟨oc0, od0, .func (PySem.W.fnOf "_law_pull" "_law_pull" (defArgs s_law_pull) (defBody s_law_pull) (defScope s_law_pull) .none kV0 dc0 pm0 an0 cd0 ct0), sl0⟩) (c0 : PySem.W.codeIn K cd0 "_law_pull" = true) (k0 : PySem.W.keepIn K (.ref f0) = true)
    (a1 : PySem.W.nsIn K mainGlobals "_law_free" = some (some (.ref f1))) (l1 : K.lookup f1 = some ⟨oc1, od1, .func (PySem.W.fnOf "_law_free" "_law_free" (defArgs s_law_free) (defBody s_law_free) (defScope s_law_free) .none kV1 dc1 pm1 an1 cd1 ct1), sl1⟩) (c1 : PySem.W.codeIn K cd1 "_law_free" = true) (k1 : PySem.W.keepIn K (.ref f1) = true)
    (a2 : PySem.W.nsIn K mainGlobals "_law_spoilt" = some (some (.ref f2))) (l2 : K.lookup f2 = some ⟨oc2, od2, .func (PySem.W.fnOf "_law_spoilt" "_law_spoilt" (defArgs s_law_spoilt) (defBody s_law_spoilt) (defScope s_law_spoilt) .none kV2 dc2 pm2 an2 cd2 ct2), sl2⟩) (c2 : PySem.W.codeIn K cd2 "_law_spoilt" = true) (k2 : PySem.W.keepIn K (.ref f2) = true)
    (a3 : PySem.W.nsIn K mainGlobals "_law_odd" = some (some (.ref f3))) (l3 : K.lookup f3 = some ⟨oc3, od3, .func (PySem.W.fnOf "_law_odd" "_law_odd" (defArgs s_law_odd) (defBody s_law_odd) (defScope s_law_odd) .none kV3 dc3 pm3 an3 cd3 ct3), sl3⟩) (c3 : PySem.W.codeIn K cd3 "_law_odd" = true) (k3 : PySem.W.keepIn K (.ref f3) = true)
    (a4 : PySem.W.nsIn K mainGlobals "_law_shown" = some (some (.ref f4))) (l4 : K.lookup f4 = some ⟨oc4, od4, .func (PySem.W.fnOf "_law_shown" "_law_shown" (defArgs s_law_shown) (defBody s_law_shown) (defScope s_law_shown) .none kV4 dc4 pm4 an4 cd4 ct4), sl4⟩) (c4 : PySem.W.codeIn K cd4 "_law_shown" = true) (k4 : PySem.W.keepIn K (.ref f4) = true)
    (a5 : PySem.W.nsIn K mainGlobals "_law_text" = some (some (.ref f5))) (l5 : K.lookup f5 = some ⟨oc5, od5, .func (PySem.W.fnOf "_law_text" "_law_text" (defArgs s_law_text) (defBody s_law_text) (defScope s_law_text) .none kV5 dc5 pm5 an5 cd5 ct5), sl5⟩) (c5 : PySem.W.codeIn K cd5 "_law_text" = true) (k5 : PySem.W.keepIn K (.ref f5) = true)
    (a6 : PySem.W.nsIn K mainGlobals "_law_great" = some (some (.ref f6))) (l6 : K.lookup f6 = some ⟨oc6, od6, .func (PySem.W.fnOf "_law_great" "_law_great" (defArgs s_law_great) (defBody s_law_great) (defScope s_law_great) .none kV6 dc6 pm6 an6 cd6 ct6), sl6⟩) (c6 : PySem.W.codeIn K cd6 "_law_great" = true) (k6 : PySem.W.keepIn K (.ref f6) = true)
    (a7 : PySem.W.nsIn K mainGlobals "_law_key" = some (some (.ref f7))) (l7 : K.lookup f7 = some ⟨oc7, od7, .func (PySem.W.fnOf "_law_key" "_law_key" (defArgs s_law_key) (defBody s_law_key) (defScope s_law_key) .none kV7 dc7 pm7 an7 cd7 ct7), sl7⟩) (c7 : PySem.W.codeIn K cd7 "_law_key" = true) (k7 : PySem.W.keepIn K (.ref f7) = true)
    (a8 : PySem.W.nsIn K mainGlobals "_law_one" = some (some (.ref f8))) (l8 : K.lookup f8 = some ⟨oc8, od8, .func (PySem.W.fnOf "_law_one" "_law_one" (defArgs s_law_one) (defBody s_law_one) (defScope s_law_one) .none kV8 dc8 pm8 an8 cd8 ct8), sl8⟩) (c8 : PySem.W.codeIn K cd8 "_law_one" = true) (k8 : PySem.W.keepIn K (.ref f8) = true)
    (a9 : PySem.W.nsIn K mainGlobals "_law_within" = some (some (.ref f9))) (l9 : K.lookup f9 = some ⟨oc9, od9, .func (PySem.W.fnOf "_law_within" "_law_within" (defArgs s_law_within) (defBody s_law_within) (defScope s_law_within) .none kV9 dc9 pm9 an9 cd9 ct9), sl9⟩) (c9 : PySem.W.codeIn K cd9 "_law_within" = true) (k9 : PySem.W.keepIn K (.ref f9) = true)
    (a10 : PySem.W.nsIn K mainGlobals "_law_begun" = some (some (.ref f10))) (l10 : K.lookup f10 = some ⟨oc10, od10, .func (PySem.W.fnOf "_law_begun" "_law_begun" (defArgs s_law_begun) (defBody s_law_begun) (defScope s_law_begun) .none kV10 dc10 pm10 an10 cd10 ct10), sl10⟩) (c10 : PySem.W.codeIn K cd10 "_law_begun" = true) (k10 : PySem.W.keepIn K (.ref f10) = true)
    (a11 : PySem.W.nsIn K mainGlobals "_law_step" = some (some (.ref f11))) (l11 : K.lookup f11 = some ⟨oc11, od11, .func (PySem.W.fnOf "_law_step" "_law_step" (defArgs s_law_step) (defBody s_law_step) (defScope s_law_step) .none kV11 dc11 pm11 an11 cd11 ct11), sl11⟩) (c11 : PySem.W.codeIn K cd11 "_law_step" = true) (k11 : PySem.W.keepIn K (.ref f11) = true)
    (a12 : PySem.W.nsIn K mainGlobals "_law_fails" = some (some (.ref f12))) (l12 : K.lookup f12 = some ⟨oc12, od12, .func (PySem.W.fnOf "_law_fails" "_law_fails" (defArgs s_law_fails) (defBody s_law_fails) (defScope s_law_fails) .none kV12 dc12 pm12 an12 cd12 ct12), sl12⟩) (c12 : PySem.W.codeIn K cd12 "_law_fails" = true) (k12 : PySem.W.keepIn K (.ref f12) = true)
    (a13 : PySem.W.nsIn K mainGlobals "_law_well" = some (some (.ref f13))) (l13 : K.lookup f13 = some ⟨oc13, od13, .func (PySem.W.fnOf "_law_well" "_law_well" (defArgs s_law_well) (defBody s_law_well) (defScope s_law_well) .none kV13 dc13 pm13 an13 cd13 ct13), sl13⟩) (c13 : PySem.W.codeIn K cd13 "_law_well" = true) (k13 : PySem.W.keepIn K (.ref f13) = true)
    (b14 : PySem.W.findIn K (.ref k_NoText) "__init__" = some (some (.ref f14))) (t14 : PySem.W.typeIn K (.ref f14) = some (.type "function")) (l14 : K.lookup f14 = some ⟨oc14, od14, .func (PySem.W.fnOf "__init__" "NoText.__init__" (defArgs s_NoText___init__) (defBody s_NoText___init__) (defScope s_NoText___init__) .none kV14 dc14 pm14 an14 cd14 ct14), sl14⟩) (c14 : PySem.W.codeIn K cd14 "NoText.__init__" = true) (k14 : PySem.W.keepIn K (.ref f14) = true)
    (a15 : PySem.W.nsIn K mainGlobals "is_digit" = some (some (.ref f15))) (l15 : K.lookup f15 = some ⟨oc15, od15, .func (PySem.W.fnOf "is_digit" "is_digit" (defArgs s_is_digit) (defBody s_is_digit) (defScope s_is_digit) .none kV15 dc15 pm15 an15 cd15 ct15), sl15⟩) (c15 : PySem.W.codeIn K cd15 "is_digit" = true) (k15 : PySem.W.keepIn K (.ref f15) = true)
    (a16 : PySem.W.nsIn K mainGlobals "number_from" = some (some (.ref f16))) (l16 : K.lookup f16 = some ⟨oc16, od16, .func (PySem.W.fnOf "number_from" "number_from" (defArgs s_number_from) (defBody s_number_from) (defScope s_number_from) .none kV16 dc16 pm16 an16 cd16 ct16), sl16⟩) (c16 : PySem.W.codeIn K cd16 "number_from" = true) (k16 : PySem.W.keepIn K (.ref f16) = true)
    (a17 : PySem.W.nsIn K mainGlobals "sign_from" = some (some (.ref f17))) (l17 : K.lookup f17 = some ⟨oc17, od17, .func (PySem.W.fnOf "sign_from" "sign_from" (defArgs s_sign_from) (defBody s_sign_from) (defScope s_sign_from) .none kV17 dc17 pm17 an17 cd17 ct17), sl17⟩) (c17 : PySem.W.codeIn K cd17 "sign_from" = true) (k17 : PySem.W.keepIn K (.ref f17) = true)
    (a18 : PySem.W.nsIn K mainGlobals "text_from" = some (some (.ref f18))) (l18 : K.lookup f18 = some ⟨oc18, od18, .func (PySem.W.fnOf "text_from" "text_from" (defArgs s_text_from) (defBody s_text_from) (defScope s_text_from) .none kV18 dc18 pm18 an18 cd18 ct18), sl18⟩) (c18 : PySem.W.codeIn K cd18 "text_from" = true) (k18 : PySem.W.keepIn K (.ref f18) = true)
    (a19 : PySem.W.nsIn K mainGlobals "parts_from" = some (some (.ref f19))) (l19 : K.lookup f19 = some ⟨oc19, od19, .func (PySem.W.fnOf "parts_from" "parts_from" (defArgs s_parts_from) (defBody s_parts_from) (defScope s_parts_from) .none kV19 dc19 pm19 an19 cd19 ct19), sl19⟩) (c19 : PySem.W.codeIn K cd19 "parts_from" = true) (k19 : PySem.W.keepIn K (.ref f19) = true)
    (a20 : PySem.W.nsIn K mainGlobals "key_from" = some (some (.ref f20))) (l20 : K.lookup f20 = some ⟨oc20, od20, .func (PySem.W.fnOf "key_from" "key_from" (defArgs s_key_from) (defBody s_key_from) (defScope s_key_from) .none kV20 dc20 pm20 an20 cd20 ct20), sl20⟩) (c20 : PySem.W.codeIn K cd20 "key_from" = true) (k20 : PySem.W.keepIn K (.ref f20) = true)
    (a21 : PySem.W.nsIn K mainGlobals "read_many" = some (some (.ref f21))) (l21 : K.lookup f21 = some ⟨oc21, od21, .func (PySem.W.fnOf "read_many" "read_many" (defArgs s_read_many) (defBody s_read_many) (defScope s_read_many) .none kV21 dc21 pm21 an21 cd21 ct21), sl21⟩) (c21 : PySem.W.codeIn K cd21 "read_many" = true) (k21 : PySem.W.keepIn K (.ref f21) = true)
    (a22 : PySem.W.nsIn K mainGlobals "_law_is_key" = some (some (.ref f22))) (l22 : K.lookup f22 = some ⟨oc22, od22, .func (PySem.W.fnOf "_law_is_key" "_law_is_key" (defArgs s_law_is_key) (defBody s_law_is_key) (defScope s_law_is_key) .none kV22 dc22 pm22 an22 cd22 ct22), sl22⟩) (c22 : PySem.W.codeIn K cd22 "_law_is_key" = true) (k22 : PySem.W.keepIn K (.ref f22) = true)
    (a23 : PySem.W.nsIn K mainGlobals "_law_told" = some (some (.ref f23))) (l23 : K.lookup f23 = some ⟨oc23, od23, .func (PySem.W.fnOf "_law_told" "_law_told" (defArgs s_law_told) (defBody s_law_told) (defScope s_law_told) .none kV23 dc23 pm23 an23 cd23 ct23), sl23⟩) (c23 : PySem.W.codeIn K cd23 "_law_told" = true) (k23 : PySem.W.keepIn K (.ref f23) = true)
    (a24 : PySem.W.nsIn K mainGlobals "law" = some (some (.ref f24))) (l24 : K.lookup f24 = some ⟨oc24, od24, .func (PySem.W.fnOf "law" "law" (defArgs s_law) (defBody s_law) (defScope s_law) .none kV24 dc24 pm24 an24 cd24 ct24), sl24⟩) (c24 : PySem.W.codeIn K cd24 "law" = true) (k24 : PySem.W.keepIn K (.ref f24) = true)
    (z_abs : PySem.W.nsIn K mainGlobals "abs" = some none)
    (z_all : PySem.W.nsIn K mainGlobals "all" = some none)
    (z_bool : PySem.W.nsIn K mainGlobals "bool" = some none)
    (z_int : PySem.W.nsIn K mainGlobals "int" = some none)
    (z_isinstance : PySem.W.nsIn K mainGlobals "isinstance" = some none)
    (z_len : PySem.W.nsIn K mainGlobals "len" = some none)
    (z_list : PySem.W.nsIn K mainGlobals "list" = some none)
    (z_max : PySem.W.nsIn K mainGlobals "max" = some none)
    (z_min : PySem.W.nsIn K mainGlobals "min" = some none)
    (z_range : PySem.W.nsIn K mainGlobals "range" = some none)
    (z_str : PySem.W.nsIn K mainGlobals "str" = some none)
    (z_tuple : PySem.W.nsIn K mainGlobals "tuple" = some none)
    (u_DEEP : PySem.W.nsIn K mainGlobals "DEEP" = some (some (.int 3 t_DEEP)))
    (u_DIGITS : PySem.W.nsIn K mainGlobals "DIGITS" = some (some (.str "0123456789" t_DIGITS)))
    (u_FIGURES : PySem.W.nsIn K mainGlobals "FIGURES" = some (some (.int 60 t_FIGURES)))
    (u_SIGNS : PySem.W.nsIn K mainGlobals "SIGNS" = some (some (.int 40 t_SIGNS)))
    (u_WIDE : PySem.W.nsIn K mainGlobals "WIDE" = some (some (.int 4 t_WIDE)))
    (v1_NoText : K.lookup k_NoText = some (excClassObj nm_NoText qn_NoText k_NoText N_NoText bs_NoText bm_NoText true sn_NoText su_NoText ab_NoText co_NoText dd_NoText g0_NoText g1_NoText g2_NoText g3_NoText g5_NoText "ValueError.__new__")) (v2_NoText : HandSPX.refsVE bm_NoText = true)
    (v3_NoText : PySem.W.findIn K (.ref k_NoText) "__setattr__" = some (some (.builtin "object.__setattr__"))) (v4_NoText : PySem.W.subIn K (.ref k_NoText) (.type "BaseException") = some true) (v5_NoText : PySem.W.typeIn K (.ref k_NoText) = some (.type "type")) (v6_NoText : PySem.W.keepIn K (.ref k_NoText) = true)
    (v7_NoText : PySem.W.findIn K (.ref k_NoText) "__getattribute__" = some (some (.builtin "BaseException.__getattribute__"))) (v8_NoText : PySem.W.findIn K (.ref k_NoText) "__getattr__" = some none) (v9_NoText : PySem.W.hasDictIn K k_NoText = true) (va_NoText : PySem.W.findIn K (.ref k_NoText) "at" = some none)
    (w1_TwigError : PySem.W.specialIn K (.ref k_TwigError) "__getattribute__" = some (some (.builtin "type.__getattribute__"))) (w2_TwigError : PySem.W.readsIn K k_TwigError (.type "type") = true) (w3_TwigError : PySem.W.findCls K (.ref k_TwigError) (.type "type") "__init__" = some (.val (.builtin "ValueError.__init__")))
    (y_em_NoText : PySem.W.exmOne K (.ref k_NoText) (.ref k_TwigError) = some true)
    (y_xc_NoText : excCB K k_NoText = true)
    (y_cl_NoText : (PySem.W.clsIn K k_NoText).isSome = true)
    (y_ki_NoText : PySem.W.kitOne K (.ref k_NoText) (.ref k_NoText) = some true) :
    ∃ fd : FuncData, (∀ (s : Shared) (v : Value), BindsTo s fd ⟨[v], []⟩ [("_law_script", v)]) ∧ ∀ base : Heap, K.In base → base.Ns mainGlobals mg → FnOk l.prog w K mg base (L2.CX l.prog w) 14 fa fd ["_law_script"] (Sp1 (B_law K)) := by
  have e := hfa.symm.trans (PySem.W.mg_of X G a24)
  cases e
  have e_NoText : clA mg "NoText" = k_NoText := clA_of (PySem.W.mg_of X G n_NoText)
  have e_TwigError : clA mg "TwigError" = k_TwigError := clA_of (PySem.W.mg_of X G n_TwigError)
  have T : TX K mg := {
    d_law_pull := ⟨_, _, fun_mk (st := s_law_pull) l0 c0 k0, PySem.W.mg_of X G a0, (fun_mk (st := s_law_pull) l0 c0 k0).binds (ps := ["_law_well_here", "_law_many"]) fun _ _ _ _ _ _ us hl => match us, hl with | [_, _], _ => rfl⟩,
    d_law_free := ⟨_, _, fun_mk (st := s_law_free) l1 c1 k1, PySem.W.mg_of X G a1, (fun_mk (st := s_law_free) l1 c1 k1).binds (ps := ["_law_well_here"]) fun _ _ _ _ _ _ us hl => match us, hl with | [_], _ => rfl⟩,
    d_law_spoilt := ⟨_, _, fun_mk (st := s_law_spoilt) l2 c2 k2, PySem.W.mg_of X G a2, (fun_mk (st := s_law_spoilt) l2 c2 k2).binds (ps := ["_law_well_here", "_law_text_here"]) fun _ _ _ _ _ _ us hl => match us, hl with | [_, _], _ => rfl⟩,
    d_law_odd := ⟨_, _, fun_mk (st := s_law_odd) l3 c3 k3, PySem.W.mg_of X G a3, (fun_mk (st := s_law_odd) l3 c3 k3).binds (ps := ["_law_well_here"]) fun _ _ _ _ _ _ us hl => match us, hl with | [_], _ => rfl⟩,
    d_law_shown := ⟨_, _, fun_mk (st := s_law_shown) l4 c4 k4, PySem.W.mg_of X G a4, (fun_mk (st := s_law_shown) l4 c4 k4).binds (ps := ["_law_key_here"]) fun _ _ _ _ _ _ us hl => match us, hl with | [_], _ => rfl⟩,
    d_law_text := ⟨_, _, fun_mk (st := s_law_text) l5 c5 k5, PySem.W.mg_of X G a5, (fun_mk (st := s_law_text) l5 c5 k5).binds (ps := ["_law_well_here"]) fun _ _ _ _ _ _ us hl => match us, hl with | [_], _ => rfl⟩,
    d_law_great := ⟨_, _, fun_mk (st := s_law_great) l6 c6 k6, PySem.W.mg_of X G a6, (fun_mk (st := s_law_great) l6 c6 k6).binds (ps := ["_law_well_here", "_law_bound"]) fun _ _ _ _ _ _ us hl => match us, hl with | [_, _], _ => rfl⟩,
    d_law_key := ⟨_, _, fun_mk (st := s_law_key) l7 c7 k7, PySem.W.mg_of X G a7, (fun_mk (st := s_law_key) l7 c7 k7).binds (ps := ["_law_well_here", "_law_room"]) fun _ _ _ _ _ _ us hl => match us, hl with | [_, _], _ => rfl⟩,
    d_law_one := ⟨_, _, fun_mk (st := s_law_one) l8 c8 k8, PySem.W.mg_of X G a8, (fun_mk (st := s_law_one) l8 c8 k8).binds (ps := ["_law_well_here"]) fun _ _ _ _ _ _ us hl => match us, hl with | [_], _ => rfl⟩,
    d_law_within := ⟨_, _, fun_mk (st := s_law_within) l9 c9 k9, PySem.W.mg_of X G a9, (fun_mk (st := s_law_within) l9 c9 k9).binds (ps := ["_law_word", "_law_count", "_law_inner", "_law_sign"]) fun _ _ _ _ _ _ us hl => match us, hl with | [_, _, _, _], _ => rfl⟩,
    d_law_begun := ⟨_, _, fun_mk (st := s_law_begun) l10 c10 k10, PySem.W.mg_of X G a10, (fun_mk (st := s_law_begun) l10 c10 k10).binds (ps := ["_law_inner", "_law_sign"]) fun _ _ _ _ _ _ us hl => match us, hl with | [_, _], _ => rfl⟩,
    d_law_step := ⟨_, _, fun_mk (st := s_law_step) l11 c11 k11, PySem.W.mg_of X G a11, (fun_mk (st := s_law_step) l11 c11 k11).binds (ps := ["_law_state", "_law_sign", "_law_many"]) fun _ _ _ _ _ _ us hl => match us, hl with | [_, _, _], _ => rfl⟩,
    d_law_fails := ⟨_, _, fun_mk (st := s_law_fails) l12 c12 k12, PySem.W.mg_of X G a12, (fun_mk (st := s_law_fails) l12 c12 k12).binds (ps := ["_law_text_here", "_law_many"]) fun _ _ _ _ _ _ us hl => match us, hl with | [_, _], _ => rfl⟩,
    d_law_well := ⟨_, _, fun_mk (st := s_law_well) l13 c13 k13, PySem.W.mg_of X G a13, (fun_mk (st := s_law_well) l13 c13 k13).binds (ps := ["_law_script", "_law_k"]) fun _ _ _ _ _ _ us hl => match us, hl with | [_, _], _ => rfl⟩,
    d_NoText___init__ := ⟨_, _, fun_mk (st := s_NoText___init__) l14 c14 k14, by rw [e_NoText]; exact b14, t14, (fun_mk (st := s_NoText___init__) l14 c14 k14).binds (ps := ["self", "at"]) fun _ _ _ _ _ _ us hl => match us, hl with | [_, _], _ => rfl⟩,
    d_is_digit := ⟨_, _, fun_mk (st := s_is_digit) l15 c15 k15, PySem.W.mg_of X G a15, (fun_mk (st := s_is_digit) l15 c15 k15).binds (ps := ["sign"]) fun _ _ _ _ _ _ us hl => match us, hl with | [_], _ => rfl⟩,
    d_number_from := ⟨_, _, fun_mk (st := s_number_from) l16 c16 k16, PySem.W.mg_of X G a16, (fun_mk (st := s_number_from) l16 c16 k16).binds (ps := ["text", "at"]) fun _ _ _ _ _ _ us hl => match us, hl with | [_, _], _ => rfl⟩,
    d_sign_from := ⟨_, _, fun_mk (st := s_sign_from) l17 c17 k17, PySem.W.mg_of X G a17, (fun_mk (st := s_sign_from) l17 c17 k17).binds (ps := ["text", "at"]) fun _ _ _ _ _ _ us hl => match us, hl with | [_, _], _ => rfl⟩,
    d_text_from := ⟨_, _, fun_mk (st := s_text_from) l18 c18 k18, PySem.W.mg_of X G a18, (fun_mk (st := s_text_from) l18 c18 k18).binds (ps := ["text", "at"]) fun _ _ _ _ _ _ us hl => match us, hl with | [_, _], _ => rfl⟩,
    d_parts_from := ⟨_, _, fun_mk (st := s_parts_from) l19 c19 k19, PySem.W.mg_of X G a19, (fun_mk (st := s_parts_from) l19 c19 k19).binds (ps := ["text", "at", "room"]) fun _ _ _ _ _ _ us hl => match us, hl with | [_, _, _], _ => rfl⟩,
    d_key_from := ⟨_, _, fun_mk (st := s_key_from) l20 c20 k20, PySem.W.mg_of X G a20, (fun_mk (st := s_key_from) l20 c20 k20).binds (ps := ["text", "at", "room"]) fun _ _ _ _ _ _ us hl => match us, hl with | [_, _, _], _ => rfl⟩,
    d_read_many := ⟨_, _, fun_mk (st := s_read_many) l21 c21 k21, PySem.W.mg_of X G a21, (fun_mk (st := s_read_many) l21 c21 k21).binds (ps := ["text"]) fun _ _ _ _ _ _ us hl => match us, hl with | [_], _ => rfl⟩,
    d_law_is_key := ⟨_, _, fun_mk (st := s_law_is_key) l22 c22 k22, PySem.W.mg_of X G a22, (fun_mk (st := s_law_is_key) l22 c22 k22).binds (ps := ["_law_thing", "_law_room"]) fun _ _ _ _ _ _ us hl => match us, hl with | [_, _], _ => rfl⟩,
    d_law_told := ⟨_, _, fun_mk (st := s_law_told) l23 c23 k23, PySem.W.mg_of X G a23, (fun_mk (st := s_law_told) l23 c23 k23).binds (ps := ["_law_text_here"]) fun _ _ _ _ _ _ us hl => match us, hl with | [_], _ => rfl⟩,
    d_law := ⟨_, _, fun_mk (st := s_law) l24 c24 k24, PySem.W.mg_of X G a24, (fun_mk (st := s_law) l24 c24 k24).binds (ps := ["_law_script"]) fun _ _ _ _ _ _ us hl => match us, hl with | [_], _ => rfl⟩,
    b_abs := PySem.W.mg_none_of X G z_abs,
    b_all := PySem.W.mg_none_of X G z_all,
    b_bool := PySem.W.mg_none_of X G z_bool,
    b_int := PySem.W.mg_none_of X G z_int,
    b_isinstance := PySem.W.mg_none_of X G z_isinstance,
    b_len := PySem.W.mg_none_of X G z_len,
    b_list := PySem.W.mg_none_of X G z_list,
    b_max := PySem.W.mg_none_of X G z_max,
    b_min := PySem.W.mg_none_of X G z_min,
    b_range := PySem.W.mg_none_of X G z_range,
    b_str := PySem.W.mg_none_of X G z_str,
    b_tuple := PySem.W.mg_none_of X G z_tuple,
    c_DEEP := ⟨_, PySem.W.mg_of X G u_DEEP, ⟨_, rfl⟩⟩,
    c_DIGITS := ⟨_, PySem.W.mg_of X G u_DIGITS, ⟨_, rfl⟩⟩,
    c_FIGURES := ⟨_, PySem.W.mg_of X G u_FIGURES, ⟨_, rfl⟩⟩,
    c_SIGNS := ⟨_, PySem.W.mg_of X G u_SIGNS, ⟨_, rfl⟩⟩,
    c_WIDE := ⟨_, PySem.W.mg_of X G u_WIDE, ⟨_, rfl⟩⟩,
    x_NoText := ⟨by rw [e_NoText]; exact PySem.W.mg_of X G n_NoText⟩,
    x_TwigError := ⟨by rw [e_TwigError]; exact PySem.W.mg_of X G n_TwigError⟩,
    o_NoText := ⟨by rw [e_NoText]; exact PySem.W.mg_of X G n_NoText, by rw [e_NoText]; exact ⟨⟨_, _, _, _, _, _, _, _, _, _, _, _, _, _, _, v1_NoText, v2_NoText⟩, v3_NoText, v4_NoText, v5_NoText, v6_NoText⟩, by rw [e_NoText]; exact ⟨v7_NoText, v8_NoText, v4_NoText, v9_NoText⟩, by rw [e_NoText]; exact va_NoText⟩,
    bs_TwigError := by rw [e_TwigError]; exact ⟨w1_TwigError, w2_TwigError, w3_TwigError⟩,
    em_NoText := by rw [e_NoText, e_TwigError]; exact y_em_NoText,
    xc_NoText := by rw [e_NoText]; exact y_xc_NoText,
    cl_NoText := by rw [e_NoText]; exact y_cl_NoText,
    ki_NoText := by rw [e_NoText]; exact y_ki_NoText }
  exact ⟨_, fun s v => .of_eq rfl, fun base _ _ => ok_law T (fun_mk (st := s_law) l24 c24 k24)⟩
theorem walk {l : PySem.W.OpenLaw} {q : Program} {loose : List Str} {XP : (Str → Option Value) → Heap → Prop} {YP : World → Heap → Prop} {d : DefRec} {K : Params → PySem.W.Frag} (hn : l.most = some 63) (hdf : d.params.defaults = [])
    (hY : ∀ (w : World) (h : Heap), YP w h → (K w.params).In h)
    (F : ∀ (w : World) (mg : Str → Option Value) (fa : Addr) (h : Heap), (K w.params).In h → h.Ns mainGlobals mg → mg d.name = some (.ref fa) →
      ∃ fd : FuncData, (∀ (s : Shared) (v : Value), BindsTo s fd ⟨[v], []⟩ [("_law_script", v)]) ∧ ∀ base : Heap, (K w.params).In base → base.Ns mainGlobals mg → FnOk l.prog w (K w.params) mg base (L2.CX l.prog w) 14 fa fd ["_law_script"] (Sp1 (B_law (K w.params)))) :
    PySem.W.WalkO q loose XP YP l.row.toRowW d [] (fun f vs => PySem.call f vs) :=
  L2.walk_of (n := 63) (k := 14) (x := "_law_script") (CX := fun w => L2.CX l.prog w) (sp := fun w => Sp1 (B_law (K w.params))) hn (by decide) hdf ⟨rfl, by decide, by decide⟩ hY F (fun _ _ a ns hl _ hS => ⟨_, rfl, a, ns, rfl, hS, hl, fun _ => rfl⟩) fun _ _ _ _ _ z => by obtain ⟨_, _, _, _, _, _, _, _, _, _, _, _, h⟩ := z; exact h
end Tw

open PySem PySem.W PyProof.Rows in
set_option maxRecDepth 100000 in
set_option maxHeartbeats 0 in
theorem PySem.Challenge.cw_twigmap_k17_many_read_holds : PySem.Challenge.rw_twigmap_k17_many_read.Holds := by
  w_on; o_law; k_head; (case hw => w_witness2)
  k_fill
  refine Tw.walk (l := PySem.Challenge.rw_twigmap_k17_many_read) rfl rfl (fun w h Y => PySem.W.kIn_of Y) ?F
  case F =>
    intro w mg fa h KX G hmg
    refine' Tw.all_mk KX G hmg ?n_NoText ?n_TwigError ?a0 ?l0 ?c0 ?k0 ?a1 ?l1 ?c1 ?k1 ?a2 ?l2 ?c2 ?k2 ?a3 ?l3 ?c3 ?k3 ?a4 ?l4 ?c4 ?k4 ?a5 ?l5 ?c5 ?k5 ?a6 ?l6 ?c6 ?k6 ?a7 ?l7 ?c7 ?k7 ?a8 ?l8 ?c8 ?k8 ?a9 ?l9 ?c9 ?k9 ?a10 ?l10 ?c10 ?k10 ?a11 ?l11 ?c11 ?k11 ?a12 ?l12 ?c12 ?k12 ?a13 ?l13 ?c13 ?k13 ?b14 ?t14 ?l14 ?c14 ?k14 ?a15 ?l15 ?c15 ?k15 ?a16 ?l16 ?c16 ?k16 ?a17 ?l17 ?c17 ?k17 ?a18 ?l18 ?c18 ?k18 ?a19 ?l19 ?c19 ?k19 ?a20 ?l20 ?c20 ?k20 ?a21 ?l21 ?c21 ?k21 ?a22 ?l22 ?c22 ?k22 ?a23 ?l23 ?c23 ?k23 ?a24 ?l24 ?c24 ?k24 ?z_abs ?z_all ?z_bool ?z_int ?z_isinstance ?z_len ?z_list ?z_max ?z_min ?z_range ?z_str ?z_tuple ?u_DEEP ?u_DIGITS ?u_FIGURES ?u_SIGNS ?u_WIDE ?v1_NoText ?v2_NoText ?v3_NoText ?v4_NoText ?v5_NoText ?v6_NoText ?v7_NoText ?v8_NoText ?v9_NoText ?va_NoText ?w1_TwigError ?w2_TwigError ?w3_TwigError ?y_em_NoText ?y_xc_NoText ?y_cl_NoText ?y_ki_NoText
    (case n_NoText => k_is)
    (case n_TwigError => k_is)
    (case a0 => k_is)
    (case l0 => k_is)
    (case c0 => k_is)
    (case k0 => k_is)
    (case a1 => k_is)
    (case l1 => k_is)
    (case c1 => k_is)
    (case k1 => k_is)
    (case a2 => k_is)
    (case l2 => k_is)
    (case c2 => k_is)
    (case k2 => k_is)
    (case a3 => k_is)
    (case l3 => k_is)
    (case c3 => k_is)
    (case k3 => k_is)
    (case a4 => k_is)
    (case l4 => k_is)
    (case c4 => k_is)
    (case k4 => k_is)
    (case a5 => k_is)
    (case l5 => k_is)
    (case c5 => k_is)
    (case k5 => k_is)
    (case a6 => k_is)
    (case l6 => k_is)
    (case c6 => k_is)
    (case k6 => k_is)
    (case a7 => k_is)
    (case l7 => k_is)
    (case c7 => k_is)
    (case k7 => k_is)
    (case a8 => k_is)
    (case l8 => k_is)
    (case c8 => k_is)
    (case k8 => k_is)
    (case a9 => k_is)
    (case l9 => k_is)
    (case c9 => k_is)
    (case k9 => k_is)
    (case a10 => k_is)
    (case l10 => k_is)
    (case c10 => k_is)
    (case k10 => k_is)
    (case a11 => k_is)
    (case l11 => k_is)
    (case c11 => k_is)
    (case k11 => k_is)
    (case a12 => k_is)
    (case l12 => k_is)
    (case c12 => k_is)
    (case k12 => k_is)
    (case a13 => k_is)
    (case l13 => k_is)
    (case c13 => k_is)
    (case k13 => k_is)
    (case b14 => k_is)
    (case t14 => k_is)
    (case l14 => k_is)
    (case c14 => k_is)
    (case k14 => k_is)
    (case a15 => k_is)
    (case l15 => k_is)
    (case c15 => k_is)
    (case k15 => k_is)
    (case a16 => k_is)
    (case l16 => k_is)
    (case c16 => k_is)
    (case k16 => k_is)
    (case a17 => k_is)
    (case l17 => k_is)
    (case c17 => k_is)
    (case k17 => k_is)
    (case a18 => k_is)
    (case l18 => k_is)
    (case c18 => k_is)
    (case k18 => k_is)
    (case a19 => k_is)
    (case l19 => k_is)
    (case c19 => k_is)
    (case k19 => k_is)
    (case a20 => k_is)
    (case l20 => k_is)
    (case c20 => k_is)
    (case k20 => k_is)
    (case a21 => k_is)
    (case l21 => k_is)
    (case c21 => k_is)
    (case k21 => k_is)
    (case a22 => k_is)
    (case l22 => k_is)
    (case c22 => k_is)
    (case k22 => k_is)
    (case a23 => k_is)
    (case l23 => k_is)
    (case c23 => k_is)
    (case k23 => k_is)
    (case a24 => k_is)
    (case l24 => k_is)
    (case c24 => k_is)
    (case k24 => k_is)
    (case z_abs => k_is)
    (case z_all => k_is)
    (case z_bool => k_is)
    (case z_int => k_is)
    (case z_isinstance => k_is)
    (case z_len => k_is)
    (case z_list => k_is)
    (case z_max => k_is)
    (case z_min => k_is)
    (case z_range => k_is)
    (case z_str => k_is)
    (case z_tuple => k_is)
    (case u_DEEP => k_is)
    (case u_DIGITS => k_is)
    (case u_FIGURES => k_is)
    (case u_SIGNS => k_is)
    (case u_WIDE => k_is)
    (case v1_NoText => k_is)
    (case v2_NoText => kernel_rfl)
    (case v3_NoText => k_is)
    (case v4_NoText => k_is)
    (case v5_NoText => k_is)
    (case v6_NoText => k_is)
    (case v7_NoText => k_is)
    (case v8_NoText => k_is)
    (case v9_NoText => k_is)
    (case va_NoText => k_is)
    (case w1_TwigError => k_is)
    (case w2_TwigError => k_is)
    (case w3_TwigError => k_is)
    (case y_em_NoText => kernel_rfl)
    (case y_xc_NoText => kernel_rfl)
    (case y_cl_NoText => kernel_rfl)
    (case y_ki_NoText => kernel_rfl)
