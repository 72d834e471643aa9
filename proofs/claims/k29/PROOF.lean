import PyProof.Rows.All
import Wide.All
import OpenK.AllK
import Wide.FinOn
import KE.DataCmp
import HandS.ForMost
import HandS.Exc
import HandS.TryOnly
import HandS.ExcOwn
import HandS.WordsExc
import HandS.IsInst
import HandS.Wide
import HandS.EndBits
import HandS.Flow
import HandS.Conv
import HandS.SortKw
import HandS.TupAny
import HandS.Style
import HandS.Iter
import HandS.Comp
import HandS.More
import KE.DatumOrd
import HandS.ExcIs
import HandS.TryMany
import KE.KIsAll
import HandS.Deep
import HandS.Text
import PyProof.Rows.StrMul
import HandS.TupMul
import PySem.Challenge.RW_twigmap_k29_labels_over
set_option Elab.async false
set_option linter.all false
set_option maxRecDepth 100000
set_option maxHeartbeats 4000000
set_option Elab.async false
set_option linter.all false
set_option maxRecDepth 100000
set_option maxHeartbeats 2000000
/-! Tw: frames of heaps, data in tuples, steps of readings. -/
namespace Tw
open PySem PySem.Spec PyProof.Rows L2

/-! ### frames -/
/-- all that stood and is not in S stands; tuples stand; nothing is lost -/
structure Fr (S : Addr → Prop) (H H' : Hp) : Prop where
  keep : ∀ b o, H b = some o → ¬ S b → H' b = some o
  tup : ∀ b xs, H b = some (.tup xs) → H' b = some (.tup xs)
  back : ∀ b, H' b = none → H b = none
/-- an address that nothing stands at -/
def Fresh (H : Hp) (p : Addr) : Prop := H p = none
abbrev Non : Addr → Prop := fun _ => False
abbrev One (a : Addr) : Addr → Prop := fun b => b = a
theorem not_One {a b : Addr} (h : b ≠ a) : ¬ One a b := h
theorem Fr.refl {S : Addr → Prop} (H : Hp) : Fr S H H := ⟨fun _ _ h _ => h, fun _ _ h => h, fun _ h => h⟩
theorem Fr.trans {S : Addr → Prop} {H H1 H2 : Hp} (a : Fr S H H1) (b : Fr S H1 H2) : Fr S H H2 :=
  ⟨fun c o h n => b.keep c o (a.keep c o h n) n, fun c xs h => b.tup c xs (a.tup c xs h), fun c h => a.back c (b.back c h)⟩
theorem Fr.sub {S T : Addr → Prop} {H H1 : Hp} (a : Fr S H H1) (h : ∀ b, S b → T b) : Fr T H H1 :=
  ⟨fun c o e n => a.keep c o e (fun s => n (h c s)), a.tup, a.back⟩
/-- what changed lies in S or was not there -/
theorem Fr.sub' {S T : Addr → Prop} {H H1 H2 : Hp} (a : Fr S H H1) (b : Fr T H1 H2) (h : ∀ b, T b → S b ∨ Fresh H b) : Fr S H H2 :=
  ⟨fun c o e n => b.keep c o (a.keep c o e n) (fun t => (h c t).elim n fun z => by have z0 : H c = none := z; rw [z0] at e; cases e), fun c xs e => b.tup c xs (a.tup c xs e), fun c e => a.back c (b.back c e)⟩
theorem Fr.non {S : Addr → Prop} {H H1 : Hp} (a : Fr Non H H1) : Fr S H H1 := a.sub fun _ h => h.elim
theorem Fr.new {S : Addr → Prop} {H H1 : Hp} {p : Addr} {o : HO} (a : Fr S H H1) (hp : Fresh H1 p) : Fr S H (upd H1 p o) := by
  have h0 := a.back p hp
  refine ⟨fun c u e n => ?_, fun c xs e => ?_, fun c e => ?_⟩
  · rw [upd_ne (ne_of_none e h0)]; exact a.keep c u e n
  · rw [upd_ne (ne_of_none e h0)]; exact a.tup c xs e
  · by_cases hc : c = p
    · subst hc; exact h0
    · rw [upd_ne hc] at e; exact a.back c e
def noTup : HO → Bool
  | .tup _ => false
  | _ => true
theorem Fr.mut {S : Addr → Prop} {H H1 : Hp} {p : Addr} {o u : HO} (a : Fr S H H1) (hu : H1 p = some u) (ht : noTup u = true) (hp : S p ∨ Fresh H p) : Fr S H (upd H1 p o) := by
  refine ⟨fun c v e n => ?_, fun c xs e => ?_, fun c e => ?_⟩
  · have hc : c ≠ p := fun z => by
      subst z
      rcases hp with h | h
      · exact n h
      · have h0 : H c = none := h
        rw [h0] at e; cases e
    rw [upd_ne hc]; exact a.keep c v e n
  · have q := a.tup c xs e
    have hc : c ≠ p := fun z => by
      subst z
      rw [hu] at q; cases q; cases ht
    rw [upd_ne hc]; exact q
  · by_cases hc : c = p
    · subst hc; rw [upd_same] at e; cases e
    · rw [upd_ne hc] at e; exact a.back c e
theorem Fr.free {S : Addr → Prop} {H H1 : Hp} {p : Addr} (a : Fr S H H1) (h : Fresh H1 p) : Fresh H p := a.back p h
theorem ne_fr {H : Hp} {a b : Addr} {o : HO} (h : H a = some o) (n : Fresh H b) : a ≠ b := ne_of_none h n

/-! ### data in tuples -/
mutual
/-- the value v is the datum d, all of it in tuples -/
inductive Dt (H : Hp) : V → PyData → Prop
  | non : Dt H .non .none
  | bl (b : Bool) : Dt H (.bl b) (.bool b)
  | int (i : Int) : Dt H (.int i) (.int i)
  | str (x : Str) : Dt H (.str x) (.str x)
  | tup {a : Addr} {xs : List V} {ds : List PyData} (h : H a = some (.tup xs)) (hs : DtAll H xs ds) : Dt H (.ref a) (.tuple ds)
inductive DtAll (H : Hp) : List V → List PyData → Prop
  | nil : DtAll H [] []
  | cons {v : V} {vs : List V} {d : PyData} {ds : List PyData} (h : Dt H v d) (hs : DtAll H vs ds) : DtAll H (v :: vs) (d :: ds)
end
mutual
theorem Dt.mono' {H H1 : Hp} (f : ∀ b xs, H b = some (.tup xs) → H1 b = some (.tup xs)) : ∀ (d : PyData) (v : V), Dt H v d → Dt H1 v d
  | .none, _, h => by cases h; exact .non
  | .bool b, _, h => by cases h; exact .bl b
  | .int i, _, h => by cases h; exact .int i
  | .str x, _, h => by cases h; exact .str x
  | .list _, _, h => by cases h
  | .dict _, _, h => by cases h
  | .tuple ds, _, h => by
    cases h with
    | tup e hs => exact .tup (f _ _ e) (DtAll.mono' f ds _ hs)
theorem DtAll.mono' {H H1 : Hp} (f : ∀ b xs, H b = some (.tup xs) → H1 b = some (.tup xs)) : ∀ (ds : List PyData) (vs : List V), DtAll H vs ds → DtAll H1 vs ds
  | [], _, h => by cases h; exact .nil
  | d :: ds, _, h => by
    cases h with
    | cons h1 h2 => exact .cons (Dt.mono' f d _ h1) (DtAll.mono' f ds _ h2)
end
theorem Dt.mono {S : Addr → Prop} {H H1 : Hp} {v : V} {d : PyData} (h : Dt H v d) (f : Fr S H H1) : Dt H1 v d := Dt.mono' f.tup d v h
theorem DtAll.mono {S : Addr → Prop} {H H1 : Hp} {v : List V} {d : List PyData} (h : DtAll H v d) (f : Fr S H H1) : DtAll H1 v d := DtAll.mono' f.tup d v h
mutual
theorem Dt.dp {K : PySem.W.Frag} {H : Hp} : ∀ (d : PyData) (v : V), Dt H v d → Dp K H v d
  | .none, _, h => by cases h; exact .non
  | .bool b, _, h => by cases h; exact .bl b
  | .int i, _, h => by cases h; exact .int i
  | .str x, _, h => by cases h; exact .str x
  | .list _, _, h => by cases h
  | .dict _, _, h => by cases h
  | .tuple ds, _, h => by
    cases h with
    | tup e hs => exact .tup (SqT.of e) (DtAll.dp ds _ hs)
theorem DtAll.dp {K : PySem.W.Frag} {H : Hp} : ∀ (ds : List PyData) (vs : List V), DtAll H vs ds → DpAll K H vs ds
  | [], _, h => by cases h; exact .nil
  | d :: ds, _, h => by
    cases h with
    | cons h1 h2 => exact .cons (Dt.dp d _ h1) (DtAll.dp ds _ h2)
end
mutual
theorem Dt.fn {H : Hp} : ∀ (d e : PyData) (v : V), Dt H v d → Dt H v e → d = e
  | .none, _, _, h, k => by cases h; cases k; rfl
  | .bool b, _, _, h, k => by cases h; cases k; rfl
  | .int i, _, _, h, k => by cases h; cases k; rfl
  | .str x, _, _, h, k => by cases h; cases k; rfl
  | .list _, _, _, h, _ => by cases h
  | .dict _, _, _, h, _ => by cases h
  | .tuple ds, _, _, h, k => by
    cases h with
    | tup h1 h2 =>
      cases k with
      | tup k1 k2 =>
        rw [h1] at k1; cases k1
        rw [DtAll.fn ds _ _ h2 k2]
theorem DtAll.fn {H : Hp} : ∀ (ds es : List PyData) (vs : List V), DtAll H vs ds → DtAll H vs es → ds = es
  | [], _, _, h, k => by cases h; cases k; rfl
  | d :: ds, _, _, h, k => by
    cases h with
    | cons h1 h2 =>
      cases k with
      | cons k1 k2 => rw [Dt.fn d _ _ h1 k1, DtAll.fn ds _ _ h2 k2]
end
theorem Dt.upd {H : Hp} {p : Addr} {o : HO} {v : V} {d : PyData} (h : Dt H v d) (n : Fresh H p) : Dt (L2.upd H p o) v d := h.mono (Fr.new (S := Non) (Fr.refl H) n)
theorem Dt.updm {H : Hp} {p : Addr} {o u : HO} {v : V} {d : PyData} (h : Dt H v d) (e : H p = some u) (n : noTup u = true) : Dt (L2.upd H p o) v d := h.mono (Fr.mut (S := fun _ => True) (Fr.refl H) e n (.inl trivial))
theorem DtAll.upd {H : Hp} {p : Addr} {o : HO} {v : List V} {d : List PyData} (h : DtAll H v d) (n : Fresh H p) : DtAll (L2.upd H p o) v d := h.mono (Fr.new (S := Non) (Fr.refl H) n)
theorem DtAll.updm {H : Hp} {p : Addr} {o u : HO} {v : List V} {d : List PyData} (h : DtAll H v d) (e : H p = some u) (n : noTup u = true) : DtAll (L2.upd H p o) v d := h.mono (Fr.mut (S := fun _ => True) (Fr.refl H) e n (.inl trivial))
theorem upd_back {H : Hp} {a p : Addr} {o : HO} (h : Fresh (L2.upd H a o) p) : Fresh H p := by
  have h0 : L2.upd H a o p = none := h
  by_cases e : p = a
  · subst e; rw [upd_same] at h0; cases h0
  · rw [upd_ne e] at h0; exact h0
theorem DtAll.length {H : Hp} : ∀ {vs : List V} {ds : List PyData}, DtAll H vs ds → vs.length = ds.length
  | _, [], h => by cases h; rfl
  | _, d :: ds, h => by
    cases h with
    | cons h1 h2 => rw [List.length_cons, List.length_cons, DtAll.length h2]
theorem DtAll.get {H : Hp} : ∀ {vs : List V} {ds : List PyData} {i : Nat} {v : V}, DtAll H vs ds → vs[i]? = some v → ∃ d, ds[i]? = some d ∧ Dt H v d
  | _, [], _, _, h, e => by cases h; simp at e
  | _, d :: ds, 0, _, h, e => by
    cases h with
    | cons h1 h2 => simp at e; subst e; exact ⟨d, rfl, h1⟩
  | _, d :: ds, i + 1, _, h, e => by
    cases h with
    | cons h1 h2 =>
      obtain ⟨d', q1, q2⟩ := DtAll.get (i := i) h2 (by simpa using e)
      exact ⟨d', by simpa using q1, q2⟩
theorem DtAll.app {H : Hp} : ∀ {vs ws : List V} {ds es : List PyData}, DtAll H vs ds → DtAll H ws es → DtAll H (vs ++ ws) (ds ++ es)
  | _, _, [], _, h, k => by cases h; exact k
  | _, _, d :: ds, _, h, k => by
    cases h with
    | cons h1 h2 => exact .cons h1 (DtAll.app h2 k)
theorem DtAll.one {H : Hp} {v : V} {d : PyData} (h : Dt H v d) : DtAll H [v] [d] := .cons h .nil
theorem DtAll.take {H : Hp} : ∀ {vs : List V} {ds : List PyData} (n : Nat), DtAll H vs ds → DtAll H (vs.take n) (ds.take n)
  | _, _, 0, _ => .nil
  | _, [], _ + 1, h => by cases h; exact .nil
  | _, d :: ds, n + 1, h => by
    cases h with
    | cons h1 h2 => exact .cons h1 (DtAll.take n h2)
theorem DtAll.drop {H : Hp} : ∀ {vs : List V} {ds : List PyData} (n : Nat), DtAll H vs ds → DtAll H (vs.drop n) (ds.drop n)
  | _, _, 0, h => h
  | _, [], _ + 1, h => by cases h; exact .nil
  | _, d :: ds, n + 1, h => by
    cases h with
    | cons h1 h2 => exact DtAll.drop n h2

/-! ### own rules -/
section
variable {X : Cx}
def rLtD (K : PySem.W.Frag) : R2 := fun x y H Q => ∃ d e, Dp K H x d ∧ Dp K H y e ∧ PySem.W.alike d e = true ∧ d ≠ .none ∧ d.depth ≤ 60 ∧ Q (.bl (PySem.W.dataLt d e)) H
theorem op_ltD (hu : X.A.units + 64 < cLine) : OpR X (compareOp .Lt) (rLtD X.K) := by
  intro pins s σ H x y v u Q I rx ry h
  obtain ⟨d, e, hd, he, al, hn, dep, q⟩ := h
  obtain ⟨as, r1⟩ := Dp.reads I d x v hd rx
  obtain ⟨bs, r2⟩ := Dp.reads I e y u he ry
  refine PySem.W.lt_data r1 r2 al hn ?_ ⟨.bl _, H, I, rfl, q⟩
  have : min d.depth e.depth ≤ d.depth := Nat.min_le_left _ _
  omega
/-- built-ins' calls under names -/
def rLen (K : PySem.W.Frag) : List V → Hp → VK → Prop := fun xs H Q => ∃ p ys, xs = [.ref p] ∧ (SqL K H p ys ∨ SqT K H p ys) ∧ Q (.int ys.length) H
theorem c_len : CallR X (.builtin "len") (rLen X.K) := call_len_seq
def rLenZ : List V → Hp → VK → Prop := fun xs H Q => ∃ z, xs = [.str z] ∧ z.length ≤ sizeLine ∧ Q (.int z.length) H
theorem c_lenZ : CallR X (.builtin "len") rLenZ := call_len_str
def rLenD : List V → Hp → VK → Prop := fun xs H Q => ∃ a kvs, xs = [V.ref a] ∧ H a = some (.dK kvs) ∧ Q (.int kvs.length) H
theorem c_lenD : CallR X (.builtin "len") rLenD := call_lenD
def rAbs : List V → Hp → VK → Prop := fun xs H Q => ∃ i, xs = [.int i] ∧ Q (.int (if i < 0 then -i else i)) H
theorem c_abs : CallR X (.builtin "abs") rAbs := call_abs
def rMx2 : List V → Hp → VK → Prop := fun xs H Q => ∃ i j, xs = [.int i, .int j] ∧ Q (.int (if j > i then j else i)) H
theorem c_max2 (hc : X.calm = true) : CallR X (.builtin "max") rMx2 := call_max2 hc
def rMn2 : List V → Hp → VK → Prop := fun xs H Q => ∃ i j, xs = [.int i, .int j] ∧ Q (.int (if j < i then j else i)) H
theorem c_min2 (hc : X.calm = true) : CallR X (.builtin "min") rMn2 := call_min2 hc
def rInt1 : List V → Hp → VK → Prop := fun xs H Q => (∃ i, xs = [.int i] ∧ Q (.int i) H) ∨ ∃ k, xs = [.bl k] ∧ Q (.int (if k then 1 else 0)) H
theorem c_int : CallR X (.type "int") rInt1 := call_int1
def rStrI : List V → Hp → VK → Prop := fun xs H Q => ∃ i, xs = [.int i] ∧ i.natAbs.log2 < 1920 ∧ Q (.str (toString i)) H
theorem c_strI : CallR X (.type "str") rStrI := call_str_int
def rListOf (K : PySem.W.Frag) : List V → Hp → VK → Prop := fun xs H Q => ∃ p ys, xs = [.ref p] ∧ (SqL K H p ys ∨ SqT K H p ys) ∧ ∀ l, H l = none → Q (.ref l) (upd H l (.lst ys))
theorem c_listOf : CallR X (.type "list") (rListOf X.K) := call_list_of
def rTupOf (K : PySem.W.Frag) : List V → Hp → VK → Prop := fun xs H Q => ∃ p ys, xs = [.ref p] ∧ ((SqL K H p ys ∧ ∀ l, H l = none → Q (.ref l) (upd H l (.tup ys))) ∨ (SqT K H p ys ∧ Q (.ref p) H))
theorem c_tupOf : CallR X (.type "tuple") (rTupOf X.K) := call_tuple_of
def rAddS : R2 := fun x y H Q => ∃ i j, x = .str i ∧ y = .str j ∧ i.length + j.length ≤ sizeLine ∧ Q (.str (i ++ j)) H
theorem o_addS : OpR X (binaryOp .Add) rAddS := op_add_str
def rLtS : R2 := fun x y H Q => ∃ i j, x = .str i ∧ y = .str j ∧ Q (.bl (decide (i.cps.toList < j.cps.toList))) H
theorem o_ltS : OpR X (compareOp .Lt) rLtS := op_lt_str
def rLeS : R2 := fun x y H Q => ∃ i j, x = .str i ∧ y = .str j ∧ Q (.bl (!decide (j.cps.toList < i.cps.toList))) H
theorem o_leS : OpR X (compareOp .LtE) rLeS := op_le_str
def rIsN : R2 := fun x y H Q => y = .non ∧ Q (.bl (decide (x = .non))) H
theorem o_isN : OpR X (compareOp .Is) rIsN := op_isN
def rNotN : R2 := fun x y H Q => y = .non ∧ Q (.bl (!decide (x = .non))) H
theorem o_notN : OpR X (compareOp .IsNot) rNotN := op_notN
end

/-! ### defs by name -/
/-- a def that may be called by its name -/
structure CalX (P : Program) (w : World) (K : PySem.W.Frag) (mg : Str → Option Value) (base : Heap) (k : Nat) (x : Str) (ps : List Str) (sp : Sp) : Prop where
  ex : ∃ (f : Addr) (fd : FuncData), FnOk P w K mg base (L2.CX P w) k f fd ps sp ∧ mg x = some (.ref f) ∧ PySem.W.keepIn K (.ref f) = true ∧ Binds K fd ps []
/-- a def as it stands behind the top -/
structure DefX (K : PySem.W.Frag) (mg : Str → Option Value) (x : Str) (ps : List Str) (st : Stmt) : Prop where
  ex : ∃ (f : Addr) (fd : FuncData), Fun K x x st f fd ∧ mg x = some (.ref f) ∧ Binds K fd ps []
theorem Passes.none {X : Cx} : Passes (L2.CX X.prog X.w) X E0 := fun _ _ _ _ _ _ _ h => by
  obtain ⟨_, _, _, _, _, _, _, _, _, _, _, _, h⟩ := h
  exact h.elim
def tCal (sp : Sp) (E : XK) (t : TA) : TE := fun σ H Q => t σ H fun vs H1 => sp vs H1 Q E
theorem tCal_eq {sp : Sp} {E : XK} {t : TA} : tCall sp [] E t = tCal sp E t := by
  funext σ H Q
  show t σ H (fun vs H1 => sp (vs ++ []) H1 Q E) = t σ H (fun vs H1 => sp vs H1 Q E)
  have e : (fun (vs : List V) (H1 : Hp) => sp (vs ++ []) H1 Q E) = fun vs H1 => sp vs H1 Q E := by
    funext vs H1
    rw [List.append_nil]
  rw [e]
section
variable {X : Cx} {k j : Nat} {x : Str} {ps : List Str} {sp : Sp} {p pos : Pos} {e : Expr} {es : List Expr} {E : XK} {t : TA}
theorem pcall (c : CalX X.prog X.w X.K X.mg X.base k x ps sp) (hr : Room j X.A) (hk : k ≤ j) (hg : Gl X x) (hx : Passes (L2.CX X.prog X.w) X E) (ha : PA X (e :: es) t)
    (hdb : (x == ("__debug__" : Str)) = false := by decide) (he : starEach (e :: es) X.env = (false, eval e X.env) :: starEach es X.env := by rfl) (hpl : (backTo pos (starEach es X.env)).any (·.1) = false := by rfl) :
    PE X (.Call (.Name x p) (e :: es) [] pos) (tCal sp E t) := by
  obtain ⟨f, fd, F, hm, kp, b⟩ := c.ex
  rw [← tCal_eq]
  exact pe_call F (hr.mono hk) hg hm kp b .nil hx ha hdb he hpl
theorem pcall0 (c : CalX X.prog X.w X.K X.mg X.base k x ps sp) (hr : Room j X.A) (hk : k ≤ j) (hg : Gl X x) (hx : Passes (L2.CX X.prog X.w) X E)
    (hdb : (x == ("__debug__" : Str)) = false := by decide) : PE X (.Call (.Name x p) [] [] pos) (tCal sp E tNil) := by
  obtain ⟨f, fd, F, hm, kp, b⟩ := c.ex
  rw [← tCal_eq]
  exact pe_call0 F (hr.mono hk) hg hm kp b .nil hx hdb
theorem CalX.mono {P : Program} {w : World} {K : PySem.W.Frag} {mg : Str → Option Value} {base : Heap} {sp' : Sp} (c : CalX P w K mg base k x ps sp) (h : ∀ vs H Q E, sp' vs H Q E → sp vs H Q E) : CalX P w K mg base k x ps sp' := by
  obtain ⟨f, fd, F, hm, kp, b⟩ := c.ex
  exact ⟨f, fd, ⟨fun vs H Q E q => F.len vs H Q E (h _ _ _ _ q), fun A outer s H args us vs Q E hr e0 hb r q => F.run A outer s H args us vs Q E hr e0 hb r (h _ _ _ _ q)⟩, hm, kp, b⟩
end

theorem CalX.never {P : Program} {w : World} {K : PySem.W.Frag} {mg : Str → Option Value} {base : Heap} {k : Nat} {x : Str} {ps N : List Str} {st : Stmt} (D : DefX K mg x ps st) (S : FnScope N ps (defScope st)) (hk : 1 ≤ k) : CalX P w K mg base k x ps (fun _ _ _ _ => False) := by
  obtain ⟨f, fd, F, hm, bd⟩ := D.ex
  obtain ⟨j, rfl⟩ : ∃ j, k = j + 1 := ⟨k - 1, by omega⟩
  exact ⟨f, fd, F.okX S (fun _ _ _ _ h => h.elim) (fun _ _ _ _ _ _ _ _ _ h => h.elim), hm, F.kp, bd⟩
theorem str_one (c : Nat) : (⟨#[c]⟩ : Str).length = 1 := rfl
/-- a constant of the module -/
structure ConstX (mg : Str → Option Value) (x : Str) (v : V) : Prop where
  ex : ∃ u, mg x = some u ∧ RelV v u
theorem pconst {X : Cx} {x : Str} {v : V} {pos : Pos} (h : ConstX X.mg x v) (hg : Gl X x) (hd : (x == ("__debug__" : Str)) = false := by decide) : PE X (.Name x pos) (tC v) := by
  obtain ⟨u, hm, r⟩ := h.ex
  exact pe_glob hg hm r hd
theorem SqL_fr {K : PySem.W.Frag} {S : Addr → Prop} {H H1 : Hp} {a : Addr} {xs : List V} (h : SqL K H a xs) (f : Fr S H H1) (n : ¬ S a) : SqL K H1 a xs := by
  rcases h with (h | ⟨o, h⟩) | h
  · exact .inl (.inl (f.keep _ _ h n))
  · exact .inl (.inr ⟨o, f.keep _ _ h n⟩)
  · exact .inr h
theorem SqL_upd {K : PySem.W.Frag} {H : Hp} {a p : Addr} {xs : List V} {o : HO} (h : SqL K H a xs) (n : Fresh H p) : SqL K (upd H p o) a xs := SqL_fr h (Fr.new (S := Non) (Fr.refl H) n) id
theorem ix2i (b : Bool) (x y : Int) : atI [V.int x, V.int y] (if b = true then 1 else 0) = some (V.int (if b = true then y else x)) := by cases b <;> rfl
theorem atI_ex {α : Type} {xs : List α} {i : Int} (h0 : 0 ≤ i) (h1 : i < xs.length) : ∃ v, atI xs i = some v ∧ xs[i.toNat]? = some v := by
  obtain ⟨n, rfl⟩ : ∃ n : Nat, i = n := ⟨i.toNat, by omega⟩
  have h : n < xs.length := by omega
  exact ⟨xs[n], atI_nat (List.getElem?_eq_getElem h), by simp [h]⟩

/-! ### promises by the number of arguments -/
abbrev BK1 := V → Hp → VK → XK → Prop
abbrev BK2 := V → V → Hp → VK → XK → Prop
abbrev BK3 := V → V → V → Hp → VK → XK → Prop
abbrev BK4 := V → V → V → V → Hp → VK → XK → Prop
def Sp0 (B : Hp → VK → XK → Prop) : Sp := fun vs H Q E => vs = [] ∧ B H Q E
def Sp1 (B : BK1) : Sp := fun vs H Q E => ∃ a, vs = [a] ∧ B a H Q E
def Sp2 (B : BK2) : Sp := fun vs H Q E => ∃ a b, vs = [a, b] ∧ B a b H Q E
def Sp3 (B : BK3) : Sp := fun vs H Q E => ∃ a b c, vs = [a, b, c] ∧ B a b c H Q E
def Sp4 (B : BK4) : Sp := fun vs H Q E => ∃ a b c d, vs = [a, b, c, d] ∧ B a b c d H Q E
theorem len0 {B x} : ∀ vs H Q E, Sp0 B vs H Q E → vs.length = ([] : List x).length := fun _ _ _ _ ⟨e, _⟩ => by rw [e]; rfl
theorem len1 {B} {p : Str} : ∀ vs H Q E, Sp1 B vs H Q E → vs.length = [p].length := fun _ _ _ _ ⟨_, e, _⟩ => by rw [e]; rfl
theorem len2 {B} {p q : Str} : ∀ vs H Q E, Sp2 B vs H Q E → vs.length = [p, q].length := fun _ _ _ _ ⟨_, _, e, _⟩ => by rw [e]; rfl
theorem len3 {B} {p q r : Str} : ∀ vs H Q E, Sp3 B vs H Q E → vs.length = [p, q, r].length := fun _ _ _ _ ⟨_, _, _, e, _⟩ => by rw [e]; rfl
theorem len4 {B} {p q r s : Str} : ∀ vs H Q E, Sp4 B vs H Q E → vs.length = [p, q, r, s].length := fun _ _ _ _ ⟨_, _, _, _, e, _⟩ => by rw [e]; rfl

/-! ### steps of readings -/
section
variable {K : PySem.W.Frag} {σ : L2.St} {H : Hp} {Q : VK} {D : Ends} {x y v : V} {ta tb te tc : TE} {t u : TS} {tt uu : TT} {i j : Int} {b : Bool}
theorem x_var {n : Nat} (h : σ[n]? = some (some v)) (q : Q v H) : tVar n σ H Q := ⟨v, h, q⟩
theorem x_c (q : Q v H) : tC v σ H Q := q
theorem x_op {r : R2} (q : ta σ H fun x H1 => tb σ H1 fun y H2 => r x y H2 Q) : tOp r ta tb σ H Q := q
theorem x_un {r : V → Hp → VK → Prop} (q : ta σ H fun x H1 => r x H1 Q) : tUn r ta σ H Q := q
theorem x_add (q : Q (.int (i + j)) H) : rI0 (fun i j => .int (i + j)) (.int i) (.int j) H Q := ⟨i, j, rfl, rfl, q⟩
theorem x_sub (q : Q (.int (i - j)) H) : rI0 (fun i j => .int (i - j)) (.int i) (.int j) H Q := ⟨i, j, rfl, rfl, q⟩
theorem x_lt (q : Q (.bl (decide (i < j))) H) : rI0 (fun i j => .bl (decide (i < j))) (.int i) (.int j) H Q := ⟨i, j, rfl, rfl, q⟩
theorem x_le (q : Q (.bl (decide (i ≤ j))) H) : rI0 (fun i j => .bl (decide (i ≤ j))) (.int i) (.int j) H Q := ⟨i, j, rfl, rfl, q⟩
theorem x_gt (q : Q (.bl (decide (j < i))) H) : rI0 (fun i j => .bl (decide (j < i))) (.int i) (.int j) H Q := ⟨i, j, rfl, rfl, q⟩
theorem x_ge (q : Q (.bl (decide (j ≤ i))) H) : rI0 (fun i j => .bl (decide (j ≤ i))) (.int i) (.int j) H Q := ⟨i, j, rfl, rfl, q⟩
theorem x_mul (h : CMul i j) (q : Q (.int (i * j)) H) : rI CMul (fun i j => .int (i * j)) (.int i) (.int j) H Q := ⟨i, j, rfl, rfl, h, q⟩
theorem x_mulW (h : CMulW i j) (q : Q (.int (i * j)) H) : rI CMulW (fun i j => .int (i * j)) (.int i) (.int j) H Q := ⟨i, j, rfl, rfl, h, q⟩
theorem x_pow (h : CPow i j) (q : Q (.int (i ^ j.toNat)) H) : rI CPow (fun i j => .int (i ^ j.toNat)) (.int i) (.int j) H Q := ⟨i, j, rfl, rfl, h, q⟩
theorem x_mod (h : 0 < j) (q : Q (.int (i % j)) H) : rI (fun _ j => 0 < j) (fun i j => .int (i % j)) (.int i) (.int j) H Q := ⟨i, j, rfl, rfl, h, q⟩
theorem x_div (h : CDiv i j) (q : Q (.int (i / j)) H) : rI CDiv (fun i j => .int (i / j)) (.int i) (.int j) H Q := ⟨i, j, rfl, rfl, h, q⟩
theorem x_divW (h : CDivW i j) (q : Q (.int (i / j)) H) : rI CDivW (fun i j => .int (i / j)) (.int i) (.int j) H Q := ⟨i, j, rfl, rfl, h, q⟩
theorem x_neg (q : Q (.int (-i)) H) : rU (fun i => .int (-i)) (.int i) H Q := ⟨i, rfl, q⟩
/-- == of two ints, as ints -/
theorem x_eqI (q : Q (.bl (decide (i = j))) H) : rEq (.int i) (.int j) H Q := ⟨rfl, by
  have e : decide (V.int i = V.int j) = decide (i = j) := decide_eq_decide.mpr ⟨fun h => V.int.inj h, fun h => congrArg V.int h⟩
  rw [e]; exact q⟩
theorem x_neI (q : Q (.bl (!decide (i = j))) H) : rNe (.int i) (.int j) H Q := ⟨rfl, by
  have e : decide (V.int i = V.int j) = decide (i = j) := decide_eq_decide.mpr ⟨fun h => V.int.inj h, fun h => congrArg V.int h⟩
  rw [e]; exact q⟩
theorem x_eqS {z w : Str} (q : Q (.bl (decide (z = w))) H) : rEq (.str z) (.str w) H Q := ⟨rfl, by
  have e : decide (V.str z = V.str w) = decide (z = w) := decide_eq_decide.mpr ⟨fun h => V.str.inj h, fun h => congrArg V.str h⟩
  rw [e]; exact q⟩
theorem x_neS {z w : Str} (q : Q (.bl (!decide (z = w))) H) : rNe (.str z) (.str w) H Q := ⟨rfl, by
  have e : decide (V.str z = V.str w) = decide (z = w) := decide_eq_decide.mpr ⟨fun h => V.str.inj h, fun h => congrArg V.str h⟩
  rw [e]; exact q⟩
theorem x_eqB {a c : Bool} (q : Q (.bl (decide (a = c))) H) : rEq (.bl a) (.bl c) H Q := ⟨rfl, by
  have e : decide (V.bl a = V.bl c) = decide (a = c) := decide_eq_decide.mpr ⟨fun h => V.bl.inj h, fun h => congrArg V.bl h⟩
  rw [e]; exact q⟩
theorem x_neB {a c : Bool} (q : Q (.bl (!decide (a = c))) H) : rNe (.bl a) (.bl c) H Q := ⟨rfl, by
  have e : decide (V.bl a = V.bl c) = decide (a = c) := decide_eq_decide.mpr ⟨fun h => V.bl.inj h, fun h => congrArg V.bl h⟩
  rw [e]; exact q⟩
theorem x_eqD {d e : PyData} (h1 : Dp K H x d) (h2 : Dp K H y e) (s1 : SeqAt.shaped d = true) (s2 : SeqAt.shaped e = true) (q : Q (.bl (PyData.eqv d e)) H) : rEqD K x y H Q := ⟨d, e, h1, h2, s1, s2, q⟩
theorem x_neD {d e : PyData} (h1 : Dp K H x d) (h2 : Dp K H y e) (s1 : SeqAt.shaped d = true) (s2 : SeqAt.shaped e = true) (q : Q (.bl (!PyData.eqv d e)) H) : rNeD K x y H Q := ⟨d, e, h1, h2, s1, s2, q⟩
theorem x_ltD {d e : PyData} (h1 : Dp K H x d) (h2 : Dp K H y e) (al : PySem.W.alike d e = true) (hn : d ≠ .none) (hd : d.depth ≤ 60) (q : Q (.bl (PySem.W.dataLt d e)) H) : rLtD K x y H Q := ⟨d, e, h1, h2, al, hn, hd, q⟩
theorem x_test {R : Bool → Hp → Prop} (q : te σ H fun x H' => ∃ k, x = .bl k ∧ R k H') : tTest te σ H R := q
theorem x_tB {R : Bool → Hp → Prop} (q : te σ H fun x H' => ∃ k, x = .bl k ∧ R k H') : tB te σ H R := q
theorem x_bl {R : Bool → Prop} (q : R b) : ∃ k, V.bl b = .bl k ∧ R k := ⟨b, rfl, q⟩
theorem x_seq (q : t { D with nx := u D } σ H) : tSeq t u D σ H := q
theorem x_asg {g : TG} (q : te σ H fun x H1 => g x σ H1 D.nx) : tAsg te g D σ H := q
theorem x_gname {n : Nat} {R : L2.St → Hp → Prop} (q : R (σ.set n (some v)) H) : gName n v σ H R := q
theorem x_ret (q : te σ H D.rt) : tRet te D σ H := q
theorem x_retN (q : D.rt .non H) : tRetN D σ H := q
theorem x_next (q : D.nx σ H) : tNext D σ H := q
theorem x_brk (q : D.bk σ H) : tBreak D σ H := q
theorem x_cont (q : D.ct σ H) : tCont D σ H := q
theorem x_drop (q : te σ H fun _ H1 => D.nx σ H1) : tDrop te D σ H := q
theorem x_if (q : tt σ H fun b H1 => if b = true then t D σ H1 else u D σ H1) : tIfS tt t u D σ H := q
theorem x_ife (q : tt σ H fun c H1 => if c = true then ta σ H1 Q else tb σ H1 Q) : tIf tt ta tb σ H Q := q
theorem x_and {R : Bool → Hp → Prop} (q : tt σ H fun c H1 => if c = true then uu σ H1 R else R false H1) : tAnd tt uu σ H R := q
theorem x_or {R : Bool → Hp → Prop} (q : tt σ H fun c H1 => if c = true then R true H1 else uu σ H1 R) : tOr tt uu σ H R := q
theorem x_not {R : Bool → Hp → Prop} (q : tt σ H fun c H1 => R (!c) H1) : tNot tt σ H R := q
theorem x_andV (q : ta σ H fun x H1 => ∃ c, x = .bl c ∧ if c = true then tb σ H1 Q else Q (.bl false) H1) : tAndV ta tb σ H Q := q
theorem x_orV (q : ta σ H fun x H1 => ∃ c, x = .bl c ∧ if c = true then Q (.bl true) H1 else tb σ H1 Q) : tOrV ta tb σ H Q := q
theorem x_notV (q : ta σ H fun x H1 => ∃ c, x = .bl c ∧ Q (.bl (!c)) H1) : tNotV ta σ H Q := q
theorem x_nil {R : List V → Hp → Prop} (q : R [] H) : tNil σ H R := q
theorem x_cons {tr : TA} {R : List V → Hp → Prop} (q : ta σ H fun x H1 => tr σ H1 fun xs H2 => R (x :: xs) H2) : tCons ta tr σ H R := q
theorem x_tup {tr : TA} (q : tr σ H fun xs H1 => xs.length ≤ sizeLine ∧ ∀ p, Fresh H1 p → Q (.ref p) (upd H1 p (.tup xs))) : tTup tr σ H Q := q
theorem x_lst {tr : TA} (q : tr σ H fun xs H1 => xs.length ≤ sizeLine ∧ ∀ p, Fresh H1 p → Q (.ref p) (upd H1 p (.lst xs))) : tLst tr σ H Q := q
theorem x_cal {sp : Sp} {E : XK} {tr : TA} (q : tr σ H fun vs H1 => sp vs H1 Q E) : tCal sp E tr σ H Q := q
theorem x_cb {r : List V → Hp → VK → Prop} {tr : TA} (q : tr σ H fun vs H1 => r vs H1 Q) : tCB r tr σ H Q := q
theorem x_sp1 {B : BK1} {E : XK} {a : V} (q : B a H Q E) : Sp1 B [a] H Q E := ⟨a, rfl, q⟩
theorem x_sp2 {B : BK2} {E : XK} {a b : V} (q : B a b H Q E) : Sp2 B [a, b] H Q E := ⟨a, b, rfl, q⟩
theorem x_sp3 {B : BK3} {E : XK} {a b c : V} (q : B a b c H Q E) : Sp3 B [a, b, c] H Q E := ⟨a, b, c, rfl, q⟩
theorem x_sp4 {B : BK4} {E : XK} {a b c d : V} (q : B a b c d H Q E) : Sp4 B [a, b, c, d] H Q E := ⟨a, b, c, d, rfl, q⟩
theorem x_sz {xs : List V} {P : Prop} (h : xs.length ≤ 1000) (q : P) : xs.length ≤ sizeLine ∧ P := ⟨Nat.le_trans h (by decide), q⟩
theorem x_ixL {p : Addr} {xs : List V} (h : SqL K H p xs) (ha : atI xs i = some v) (q : Q v H) : rIxL K (.ref p) (.int i) H Q := ⟨p, xs, i, v, rfl, rfl, h, ha, q⟩
theorem x_ixT {p : Addr} {xs : List V} (h : SqT K H p xs) (ha : atI xs i = some v) (q : Q v H) : rIxT K (.ref p) (.int i) H Q := ⟨p, xs, i, v, rfl, rfl, h, ha, q⟩
theorem x_ixS {z : Str} {c : Nat} (h : z.length ≤ sizeLine) (ha : atI z.cps.toList i = some c) (q : Q (.str ⟨#[c]⟩) H) : rIxS (.str z) (.int i) H Q := ⟨z, i, c, rfl, rfl, h, ha, q⟩
theorem x_gsub {to ti : TE} {s : TSet} {R : L2.St → Hp → Prop} (q : to σ H fun o H1 => ti σ H1 fun i H2 => s o i v H2 fun H3 => R σ H3) : gSub to ti s v σ H R := q
theorem x_setL {p : Addr} {xs : List V} {n : Nat} {R : Hp → Prop} (h : H p = some (.lst xs)) (hj : ixN xs.length i = some n) (q : R (upd H p (.lst (xs.set n v)))) : rSetL (.ref p) (.int i) v H R := ⟨p, xs, i, n, rfl, rfl, h, hj, q⟩
theorem x_gtup {p : Addr} {xs : List V} {n : Nat} {s : TGs} {R : L2.St → Hp → Prop} (h : SqT K H p xs) (hn : xs.length = n) (q : s xs σ H R) : gTup K n s (.ref p) σ H R := ⟨p, xs, rfl, h, hn, q⟩
theorem x_gcons {g : TG} {s : TGs} {vs : List V} {R : L2.St → Hp → Prop} (q : g v σ H fun σ' H' => s vs σ' H' R) : gCons g s (v :: vs) σ H R := ⟨v, vs, rfl, q⟩
theorem x_gnil {R : L2.St → Hp → Prop} (q : R σ H) : gNil [] σ H R := ⟨rfl, q⟩
theorem x_len {p : Addr} {xs : List V} (h : SqL K H p xs ∨ SqT K H p xs) (q : Q (.int xs.length) H) : rLen K [.ref p] H Q := ⟨p, xs, rfl, h, q⟩
theorem x_lenZ {z : Str} (h : z.length ≤ sizeLine) (q : Q (.int z.length) H) : rLenZ [.str z] H Q := ⟨z, rfl, h, q⟩
theorem x_lenD {p : Addr} {kvs : List (Key × V)} (h : H p = some (.dK kvs)) (q : Q (.int kvs.length) H) : rLenD [.ref p] H Q := ⟨p, kvs, rfl, h, q⟩
theorem x_abs (q : Q (.int (if i < 0 then -i else i)) H) : rAbs [.int i] H Q := ⟨i, rfl, q⟩
theorem x_max2 (q : Q (.int (if j > i then j else i)) H) : rMx2 [.int i, .int j] H Q := ⟨i, j, rfl, q⟩
theorem x_min2 (q : Q (.int (if j < i then j else i)) H) : rMn2 [.int i, .int j] H Q := ⟨i, j, rfl, q⟩
theorem x_intI (q : Q (.int i) H) : rInt1 [.int i] H Q := .inl ⟨i, rfl, q⟩
theorem x_intB (q : Q (.int (if b then 1 else 0)) H) : rInt1 [.bl b] H Q := .inr ⟨b, rfl, q⟩
theorem x_strI (h : i.natAbs.log2 < 1920) (q : Q (.str (toString i)) H) : rStrI [.int i] H Q := ⟨i, rfl, h, q⟩
theorem x_listOf {p : Addr} {xs : List V} (h : SqL K H p xs ∨ SqT K H p xs) (q : ∀ l, Fresh H l → Q (.ref l) (upd H l (.lst xs))) : rListOf K [.ref p] H Q := ⟨p, xs, rfl, h, q⟩
theorem x_tupL {p : Addr} {xs : List V} (h : SqL K H p xs) (q : ∀ l, Fresh H l → Q (.ref l) (upd H l (.tup xs))) : rTupOf K [.ref p] H Q := ⟨p, xs, rfl, .inl ⟨h, q⟩⟩
theorem x_addS {z w : Str} (h : z.length + w.length ≤ sizeLine) (q : Q (.str (z ++ w)) H) : rAddS (.str z) (.str w) H Q := ⟨z, w, rfl, rfl, h, q⟩
theorem x_ltS {z w : Str} (q : Q (.bl (decide (z.cps.toList < w.cps.toList))) H) : rLtS (.str z) (.str w) H Q := ⟨z, w, rfl, rfl, q⟩
theorem x_leS {z w : Str} (q : Q (.bl (!decide (w.cps.toList < z.cps.toList))) H) : rLeS (.str z) (.str w) H Q := ⟨z, w, rfl, rfl, q⟩
theorem x_isN (q : Q (.bl (decide (x = .non))) H) : rIsN x .non H Q := ⟨rfl, q⟩
theorem x_notN (q : Q (.bl (!decide (x = .non))) H) : rNotN x .non H Q := ⟨rfl, q⟩
theorem x_isi {a b : String} {r : Bool} (h : TyX K H x (.type a)) (k : kitB a b = some r) (q : Q (.bl r) H) : rIsi K [x, .ty b] H Q := ⟨x, .ty b, .type a, .type b, r, rfl, .ty b, h, kit_ty k, q⟩
theorem x_rng1 {R : It → Hp → Prop} {tr : TA} (q : tr σ H fun vs H1 => ∃ j : Int, vs = [.int j] ∧ -(2 ^ 62) ≤ j ∧ j < 2 ^ 62 ∧ R (Itr 0 j.toNat) H1) : iRng1 tr σ H R := q
theorem x_rng1' {R : Int → Prop} (h : -(2 ^ 62) ≤ i ∧ i < 2 ^ 62) (q : R i) : ∃ j : Int, [V.int i] = [.int j] ∧ -(2 ^ 62) ≤ j ∧ j < 2 ^ 62 ∧ R j := ⟨i, rfl, h.1, h.2, q⟩
theorem x_rng2 {R : It → Hp → Prop} {tr : TA} (q : tr σ H fun vs H1 => ∃ i j : Int, vs = [.int i, .int j] ∧ (-(2 ^ 62) ≤ i ∧ i < 2 ^ 62 ∧ -(2 ^ 62) ≤ j ∧ j < 2 ^ 62) ∧ R (Itr i (j - i).toNat) H1) : iRng2 tr σ H R := q
theorem x_iList {R : It → Hp → Prop} (q : te σ H fun x H1 => ∃ a, x = .ref a ∧ (∃ xs, SqL K H1 a xs) ∧ R (Itl K a) H1) : iList K te σ H R := q
theorem x_iTup {R : It → Hp → Prop} (q : te σ H fun x H1 => ∃ a, x = .ref a ∧ (∃ xs, SqT K H1 a xs) ∧ R (Itt K a) H1) : iTup K te σ H R := q
theorem x_iRef {p : Addr} {C : Addr → Prop} {R : Addr → Prop} (h : C p) (q : R p) : ∃ a, V.ref p = .ref a ∧ C a ∧ R a := ⟨p, rfl, h, q⟩
theorem x_sl {r : V → Option Int → Option Int → Hp → VK → Prop} {tl th : TO} (q : te σ H fun x H1 => tl σ H1 fun l H2 => th σ H2 fun u H3 => r x l u H3 Q) : tSl r te tl th σ H Q := q
theorem x_noP {R : Option Int → Hp → Prop} (q : R none H) : tNoPart σ H R := q
theorem x_part {R : Option Int → Hp → Prop} (q : te σ H fun x H1 => ∃ i, x = .int i ∧ R (some i) H1) : tPart te σ H R := q
theorem x_int {R : Int → Prop} (q : R i) : ∃ k, V.int i = .int k ∧ R k := ⟨i, rfl, q⟩
theorem x_slL {p : Addr} {xs : List V} {lo hi : Option Int} (h : SqL K H p xs) (q : ∀ l, Fresh H l → Q (.ref l) (upd H l (.lst (cutV xs lo hi)))) : rSlL K (.ref p) lo hi H Q := ⟨p, xs, rfl, h, q⟩
theorem x_bm {T : String} {r : V → List V → Hp → VK → Prop} {tr : TA} (q : te σ H fun x H1 => tyV K T x H1 ∧ tr σ H1 fun xs H2 => r x xs H2 Q) : tBM K T r te tr σ H Q := q
theorem x_bm0 {T : String} {r : V → List V → Hp → VK → Prop} (q : te σ H fun x H1 => tyV K T x H1 ∧ r x [] H1 Q) : tBM0 K T r te σ H Q := q
theorem x_append {p : Addr} {xs : List V} (h : H p = some (.lst xs)) (hs : xs.length ≤ 100000) (q : Q .non (upd H p (.lst (xs ++ [y])))) : rAppend (.ref p) [y] H Q := ⟨p, xs, y, rfl, rfl, h, Nat.lt_of_le_of_lt hs (by decide), q⟩
theorem x_cat {p r : Addr} {xs zs : List V} (h : H p = some (.lst xs)) (k : H r = some (.lst zs)) (hs : xs.length + zs.length ≤ 100000) (q : ∀ l, Fresh H l → Q (.ref l) (upd H l (.lst (xs ++ zs)))) : rCat (.ref p) (.ref r) H Q := ⟨p, r, xs, zs, rfl, rfl, h, k, Nat.le_trans hs (by decide), q⟩
theorem x_all {p : Addr} {bs : List Bool} (h : SqL K H p (bs.map V.bl)) (q : Q (.bl (bs.all id)) H) : rAll K [.ref p] H Q := ⟨p, bs, rfl, h, q⟩
/-- a for's turns -/
def ForG (J : It) (g : TG) (tb : TS) (D : Ends) (σ : L2.St) (H1 : Hp) : Prop := ∃ W : Nat → Nat → L2.St → Hp → Prop, (∃ m, W 0 m σ H1) ∧ ∀ i m σ H, W i m σ H →
  (J.stop i H ∧ D.nx σ H) ∨ (J.go i H ∧ ∃ N : L2.St → Hp → Prop, (∀ σ' H', N σ' H' → ∃ m', m' < m ∧ W (i + 1) m' σ' H') ∧ ∀ x H', J.yld i H x H' → g x σ H' fun σ2 H2 => tb { D with nx := N, ct := N, bk := D.nx } σ2 H2)
theorem x_for {wi : TI} {g : TG} {tb : TS} (q : wi σ H fun J H1 => ForG J g tb D σ H1) : tFor wi g tb D σ H := q
theorem x_forR {lo : Int} {n : Nat} {g : TG} {tb : TS} (Pv : Nat → L2.St → Hp → Prop) (h0 : Pv 0 σ H)
    (hs : ∀ i σ H, i < n → Pv i σ H → g (.int (lo + i)) σ H fun σ2 H2 => tb { D with nx := Pv (i + 1), ct := Pv (i + 1), bk := D.nx } σ2 H2) (hd : ∀ σ H, Pv n σ H → D.nx σ H) : ForG (Itr lo n) g tb D σ H := for_range Pv h0 hs hd
theorem x_forL {a : Addr} (xs : List V) {g : TG} {tb : TS} (Pv : Nat → L2.St → Hp → Prop) (h0 : Pv 0 σ H) (hl : ∀ i σ H, i ≤ xs.length → Pv i σ H → SqL K H a xs)
    (hs : ∀ i x σ H, xs[i]? = some x → Pv i σ H → g x σ H fun σ2 H2 => tb { D with nx := Pv (i + 1), ct := Pv (i + 1), bk := D.nx } σ2 H2) (hd : ∀ σ H, Pv xs.length σ H → D.nx σ H) : ForG (Itl K a) g tb D σ H := for_list Pv h0 hl hs hd
theorem x_forT {a : Addr} (xs : List V) {g : TG} {tb : TS} (Pv : Nat → L2.St → Hp → Prop) (h0 : Pv 0 σ H) (hl : ∀ i σ H, i ≤ xs.length → Pv i σ H → SqT K H a xs)
    (hs : ∀ i x σ H, xs[i]? = some x → Pv i σ H → g x σ H fun σ2 H2 => tb { D with nx := Pv (i + 1), ct := Pv (i + 1), bk := D.nx } σ2 H2) (hd : ∀ σ H, Pv xs.length σ H → D.nx σ H) : ForG (Itt K a) g tb D σ H := for_tup Pv h0 hl hs hd
/-- a list comprehension's turns -/
def LcG (J : It) (g : TG) (tt : TT) (te : TE) (vs : List Nat) (σ : L2.St) (H1 : Hp) (D : Addr) (Q : Hp → Prop) : Prop := ∃ W : Nat → Nat → Hp → Prop, (∃ m, W 0 m (upd H1 D (.lst []))) ∧ ∀ i m H, W i m H →
  (J.stop i H ∧ Q H) ∨ (J.go i H ∧ ∃ Nx : Hp → Prop, (∀ H', Nx H' → ∃ m', m' < m ∧ W (i + 1) m' H') ∧ ∀ x H', J.yld i H x H' → g x (wipe σ vs) H' fun σ2 H2 => wipe σ2 vs = wipe σ vs ∧ tt σ2 H2 fun b H3 =>
    if b = true then te σ2 H3 fun y H4 => ∃ acc, H4 D = some (.lst acc) ∧ acc.length < sizeLine ∧ Nx (upd H4 D (.lst (acc ++ [y]))) else Nx H3)
theorem x_lc {wi : TI} {g : TG} {vs : List Nat} (q : wi σ H fun J H1 => ∀ D, Fresh H1 D → LcG J g tt te vs σ H1 D fun H => Q (.ref D) H) : tLc wi g tt te vs σ H Q := q
/-- one turn -/
def LcT (g : TG) (tt : TT) (te : TE) (vs : List Nat) (σ : L2.St) (D : Addr) (x : V) (Nx : Hp → Prop) (H : Hp) : Prop := g x (wipe σ vs) H fun σ2 H2 => wipe σ2 vs = wipe σ vs ∧ tt σ2 H2 fun b H3 =>
    if b = true then te σ2 H3 fun y H4 => ∃ acc, H4 D = some (.lst acc) ∧ acc.length < sizeLine ∧ Nx (upd H4 D (.lst (acc ++ [y]))) else Nx H3
theorem x_lcR {lo : Int} {n : Nat} {g : TG} {vs : List Nat} {DD : Addr} {Qd : Hp → Prop} (Pv : Nat → Hp → Prop) (h0 : Pv 0 (upd H DD (.lst [])))
    (hs : ∀ i H, i < n → Pv i H → LcT g tt te vs σ DD (.int (lo + i)) (Pv (i + 1)) H) (hd : ∀ H, Pv n H → Qd H) : LcG (Itr lo n) g tt te vs σ H DD Qd := lc_range Pv h0 hs hd
theorem x_lcL {a : Addr} (xs : List V) {g : TG} {vs : List Nat} {DD : Addr} {Qd : Hp → Prop} (Pv : Nat → Hp → Prop) (h0 : Pv 0 (upd H DD (.lst []))) (hl : ∀ i H, i ≤ xs.length → Pv i H → SqL K H a xs)
    (hs : ∀ i x H, xs[i]? = some x → Pv i H → LcT g tt te vs σ DD x (Pv (i + 1)) H) (hd : ∀ H, Pv xs.length H → Qd H) : LcG (Itl K a) g tt te vs σ H DD Qd := lc_list Pv h0 hl hs hd
theorem x_lcT {a : Addr} (xs : List V) {g : TG} {vs : List Nat} {DD : Addr} {Qd : Hp → Prop} (Pv : Nat → Hp → Prop) (h0 : Pv 0 (upd H DD (.lst []))) (hl : ∀ i H, i ≤ xs.length → Pv i H → SqT K H a xs)
    (hs : ∀ i x H, xs[i]? = some x → Pv i H → LcT g tt te vs σ DD x (Pv (i + 1)) H) (hd : ∀ H, Pv xs.length H → Qd H) : LcG (Itt K a) g tt te vs σ H DD Qd := lc_tup Pv h0 hl hs hd
theorem x_lct {g : TG} {vs : List Nat} {DD : Addr} {Nx : Hp → Prop} (q : g v (wipe σ vs) H fun σ2 H2 => wipe σ2 vs = wipe σ vs ∧ tt σ2 H2 fun b H3 =>
    if b = true then te σ2 H3 fun y H4 => ∃ acc, H4 DD = some (.lst acc) ∧ acc.length < sizeLine ∧ Nx (upd H4 DD (.lst (acc ++ [y]))) else Nx H3) : LcT g tt te vs σ DD v Nx H := q
theorem x_wip {a b : L2.St} {B : Prop} (h : a = b) (q : B) : a = b ∧ B := ⟨h, q⟩
theorem x_tyes {R : Bool → Hp → Prop} (q : R true H) : tYes σ H R := q
theorem x_acc {DD : Addr} {acc : List V} {R : List V → Prop} (h : H DD = some (.lst acc)) (hs : acc.length ≤ 100000) (q : R acc) : ∃ acc, H DD = some (.lst acc) ∧ acc.length < sizeLine ∧ R acc := ⟨acc, h, Nat.lt_of_le_of_lt hs (by decide), q⟩
theorem x_while {W : Nat → L2.St → Hp → Prop} {tb : TS} (m : Nat) (h0 : W m σ H) (hs : ∀ m σ H, W m σ H → tt σ H fun c H1 => if c = true then ∃ N : L2.St → Hp → Prop, (∀ σ' H', N σ' H' → ∃ m', m' < m ∧ W m' σ' H') ∧ tb { D with nx := N, ct := N, bk := D.nx } σ H1 else D.nx σ H1) : tWhile tt tb D σ H := ⟨W, ⟨m, h0⟩, hs⟩
theorem x_yes {c : Bool} {A B : Prop} (hc : c = true) (q : A) : if c = true then A else B := by rw [if_pos hc]; exact q
theorem x_no {c : Bool} {A B : Prop} (hc : c = false) (q : B) : if c = true then A else B := by rw [hc, if_neg Bool.false_ne_true]; exact q
theorem x_iteT {A B : Prop} (q : A) : if true = true then A else B := by rw [if_pos rfl]; exact q
theorem x_iteF {A B : Prop} (q : B) : if false = true then A else B := by rw [if_neg Bool.false_ne_true]; exact q
theorem x_bool {c : Bool} {A B : Prop} (h1 : c = true → A) (h2 : c = false → B) : if c = true then A else B := by
  cases c with
  | true => exact x_iteT (h1 rfl)
  | false => exact x_iteF (h2 rfl)
theorem x_dec {p : Prop} [Decidable p] {A B : Prop} (h1 : p → A) (h2 : ¬ p → B) : if decide p = true then A else B := x_bool (fun e => h1 (of_decide_eq_true e)) (fun e => h2 (of_decide_eq_false e))
theorem x_ndec {p : Prop} [Decidable p] {A B : Prop} (h1 : ¬ p → A) (h2 : p → B) : if (!decide p) = true then A else B := x_bool (fun e => h1 (of_decide_eq_false (by simpa using e))) (fun e => h2 (of_decide_eq_true (by simpa using e)))
end
theorem kit_NoneType_bool : kitB "NoneType" "bool" = some false := by decide +kernel
theorem kit_NoneType_int : kitB "NoneType" "int" = some false := by decide +kernel
theorem kit_NoneType_str : kitB "NoneType" "str" = some false := by decide +kernel
theorem kit_NoneType_list : kitB "NoneType" "list" = some false := by decide +kernel
theorem kit_NoneType_tuple : kitB "NoneType" "tuple" = some false := by decide +kernel
theorem kit_NoneType_dict : kitB "NoneType" "dict" = some false := by decide +kernel
theorem kit_bool_bool : kitB "bool" "bool" = some true := by decide +kernel
theorem kit_bool_int : kitB "bool" "int" = some true := by decide +kernel
theorem kit_bool_str : kitB "bool" "str" = some false := by decide +kernel
theorem kit_bool_list : kitB "bool" "list" = some false := by decide +kernel
theorem kit_bool_tuple : kitB "bool" "tuple" = some false := by decide +kernel
theorem kit_bool_dict : kitB "bool" "dict" = some false := by decide +kernel
theorem kit_int_bool : kitB "int" "bool" = some false := by decide +kernel
theorem kit_int_int : kitB "int" "int" = some true := by decide +kernel
theorem kit_int_str : kitB "int" "str" = some false := by decide +kernel
theorem kit_int_list : kitB "int" "list" = some false := by decide +kernel
theorem kit_int_tuple : kitB "int" "tuple" = some false := by decide +kernel
theorem kit_int_dict : kitB "int" "dict" = some false := by decide +kernel
theorem kit_str_bool : kitB "str" "bool" = some false := by decide +kernel
theorem kit_str_int : kitB "str" "int" = some false := by decide +kernel
theorem kit_str_str : kitB "str" "str" = some true := by decide +kernel
theorem kit_str_list : kitB "str" "list" = some false := by decide +kernel
theorem kit_str_tuple : kitB "str" "tuple" = some false := by decide +kernel
theorem kit_str_dict : kitB "str" "dict" = some false := by decide +kernel
theorem kit_list_bool : kitB "list" "bool" = some false := by decide +kernel
theorem kit_list_int : kitB "list" "int" = some false := by decide +kernel
theorem kit_list_str : kitB "list" "str" = some false := by decide +kernel
theorem kit_list_list : kitB "list" "list" = some true := by decide +kernel
theorem kit_list_tuple : kitB "list" "tuple" = some false := by decide +kernel
theorem kit_list_dict : kitB "list" "dict" = some false := by decide +kernel
theorem kit_tuple_bool : kitB "tuple" "bool" = some false := by decide +kernel
theorem kit_tuple_int : kitB "tuple" "int" = some false := by decide +kernel
theorem kit_tuple_str : kitB "tuple" "str" = some false := by decide +kernel
theorem kit_tuple_list : kitB "tuple" "list" = some false := by decide +kernel
theorem kit_tuple_tuple : kitB "tuple" "tuple" = some true := by decide +kernel
theorem kit_tuple_dict : kitB "tuple" "dict" = some false := by decide +kernel
theorem kit_dict_bool : kitB "dict" "bool" = some false := by decide +kernel
theorem kit_dict_int : kitB "dict" "int" = some false := by decide +kernel
theorem kit_dict_str : kitB "dict" "str" = some false := by decide +kernel
theorem kit_dict_list : kitB "dict" "list" = some false := by decide +kernel
theorem kit_dict_tuple : kitB "dict" "tuple" = some false := by decide +kernel
theorem kit_dict_dict : kitB "dict" "dict" = some true := by decide +kernel
end Tw

/-! TwB: what the laws draw from; keys. -/
namespace Tw
open PySem PySem.Spec PyProof.Rows L2
/-- a well: a list of four ints, the first one a rest -/
def Well (H : Hp) (p : Addr) : Prop := ∃ c n g l : Int, H p = some (.lst [.int c, .int n, .int g, .int l]) ∧ 0 ≤ c ∧ c < 2147483647
theorem Well.fr {S : Addr → Prop} {H H1 : Hp} {p : Addr} (h : Well H p) (f : Fr S H H1) (n : ¬ S p) : Well H1 p := by
  obtain ⟨c, m, g, l, e, r⟩ := h
  exact ⟨c, m, g, l, f.keep _ _ e n, r⟩
theorem Well.some {H : Hp} {p : Addr} (h : Well H p) : ∃ xs, H p = some (.lst xs) := by
  obtain ⟨c, m, g, l, e, r⟩ := h
  exact ⟨_, e⟩
theorem Well.ne {H : Hp} {p l : Addr} (h : Well H p) (n : Fresh H l) : l ≠ p := fun e => by
  obtain ⟨xs, q⟩ := h.some
  have n0 : H l = none := n
  rw [← e, n0] at q; cases q
/-- what may be drawn from -/
def PullOk (m : Int) : Prop := 0 < m ∧ m.natAbs.log2 < 9000
theorem PullOk.small {m : Int} (h : 0 < m) (h2 : m ≤ 9223372036854775808) : PullOk m := by
  refine ⟨h, Nat.lt_of_lt_of_le (PySem.Flt.log2_lt_of (show 0 < 64 by decide) ?_) (by decide)⟩
  have e : (2 : Nat) ^ 64 = 18446744073709551616 := by decide
  rw [e]; omega
/-- a text's first written constant -/
def strIn (s : Stmt) : Str := match defBody s with
  | (.Assign _ (.Constant (.str x) _ _) _) :: _ => x
  | _ => PySem.Str.empty

/-! ### keys as data -/
def numOk (i : Int) : Prop := -(10 ^ 60) < i ∧ i < 10 ^ 60
def txtOk (z : Str) : Prop := z.length ≤ 40 ∧ ∀ c ∈ z.cps.toList, 32 ≤ c ∧ c ≤ 126
/-- a key in which no more tuples than r lie within one another -/
def isK : Nat → PyData → Prop
  | _, .int i => numOk i
  | _, .str z => txtOk z
  | r + 1, .tuple ds => ds.length ≤ 4 ∧ ∀ d ∈ ds, isK r d
  | _, _ => False
theorem isK_int {r : Nat} {i : Int} : isK r (.int i) = numOk i := by cases r <;> rfl
theorem isK_str {r : Nat} {z : Str} : isK r (.str z) = txtOk z := by cases r <;> rfl
theorem isK_tup {r : Nat} {ds : List PyData} : isK (r + 1) (.tuple ds) = (ds.length ≤ 4 ∧ ∀ d ∈ ds, isK r d) := rfl
theorem str_len (z : Str) : z.length = z.cps.toList.length := by simp [PySem.Str.length]
theorem str_app (a b : Str) : (a ++ b).cps.toList = a.cps.toList ++ b.cps.toList := by simp [PySem.Str.cps_append]
theorem txt_app {z : Str} {c n : Nat} (h : z.length ≤ n) (hz : ∀ d ∈ z.cps.toList, 32 ≤ d ∧ d ≤ 126) (hc : 32 ≤ c ∧ c ≤ 126) : (z ++ (⟨#[c]⟩ : Str)).length ≤ n + 1 ∧ ∀ d ∈ (z ++ (⟨#[c]⟩ : Str)).cps.toList, 32 ≤ d ∧ d ≤ 126 := by
  refine ⟨?_, fun d hd => ?_⟩
  · rw [PySem.Str.length_append]
    have : (⟨#[c]⟩ : Str).length = 1 := rfl
    omega
  · rw [str_app] at hd
    rcases List.mem_append.mp hd with hd | hd
    · exact hz d hd
    · have e : d = c := by simpa using hd
      subst e; exact hc
end Tw

/-! TwC: readings for values of several kinds; the order of keys. -/
namespace Tw
open PySem PySem.Spec PyProof.Rows L2
section
variable {X : Cx}
/-- len of a list, a tuple or a text -/
def rLenA (K : PySem.W.Frag) : List V → Hp → VK → Prop := fun xs H Q => rLen K xs H Q ∨ rLenZ xs H Q
theorem c_lenA : CallR X (.builtin "len") (rLenA X.K) := CallR.or c_len c_lenZ
/-- + of two texts or two tuples -/
def rAddT (K : PySem.W.Frag) : R2 := fun x y H Q => rAddS x y H Q ∨ rCatA K x y H Q
theorem o_addT : OpR X (binaryOp .Add) (rAddT X.K) := OpR.or o_addS op_catA
def rGtS : R2 := fun x y H Q => ∃ i j, x = .str i ∧ y = .str j ∧ Q (.bl (decide (j.cps.toList < i.cps.toList))) H
theorem o_gtS : OpR X (compareOp .Gt) rGtS := op_gt_str
def rGeS : R2 := fun x y H Q => ∃ i j, x = .str i ∧ y = .str j ∧ Q (.bl (!decide (i.cps.toList < j.cps.toList))) H
theorem o_geS : OpR X (compareOp .GtE) rGeS := op_ge_str
theorem u65 {k : Nat} {A : Around} (hr : Room k A) : A.units + 65 < cLine := by have := hr.un; omega
/-- a part of a list, a tuple or a text -/
def rSlX (K : PySem.W.Frag) : V → Option Int → Option Int → Hp → VK → Prop := fun x lo hi H Q => rSlL K x lo hi H Q ∨ (rSlA K x lo hi H Q ∨ rSlS x lo hi H Q)
theorem sl_any : SlR X (rSlX X.K) := SlR.or sl_list (SlR.or sl_tupA sl_str)
end
section
variable {K : PySem.W.Frag} {H : Hp} {Q : VK} {x y v : V} {i j : Int}
theorem x_chain {σ : L2.St} {ta tb tc : TE} {r r' : R2} (q : ta σ H fun x H1 => tb σ H1 fun y H2 => r x y H2 fun z H3 => ∃ k, z = .bl k ∧ (if k = true then tc σ H3 fun w' H4 => r' y w' H4 Q else Q (.bl false) H3)) : tChain r r' ta tb tc σ H Q := q
theorem x_gtS {z w : Str} (q : Q (.bl (decide (w.cps.toList < z.cps.toList))) H) : rGtS (.str z) (.str w) H Q := ⟨z, w, rfl, rfl, q⟩
theorem x_geS {z w : Str} (q : Q (.bl (!decide (z.cps.toList < w.cps.toList))) H) : rGeS (.str z) (.str w) H Q := ⟨z, w, rfl, rfl, q⟩
theorem x_inD {d : PyData} {ds : List PyData} (h1 : Dp K H x d) (h2 : Dp K H y (.list ds)) (s1 : SeqAt.shaped d = true) (s2 : SeqAt.shaped (.list ds) = true) (q : Q (.bl (ds.any fun z => PyData.eqv z d)) H) : rInD K x y H Q := ⟨d, ds, h1, h2, s1, s2, q⟩
theorem x_notInD {d : PyData} {ds : List PyData} (h1 : Dp K H x d) (h2 : Dp K H y (.list ds)) (s1 : SeqAt.shaped d = true) (s2 : SeqAt.shaped (.list ds) = true) (q : Q (.bl (!ds.any fun z => PyData.eqv z d)) H) : rNotInD K x y H Q := ⟨d, ds, h1, h2, s1, s2, q⟩
theorem x_isiI {b : String} {r : Bool} (k : kitB "int" b = some r) (q : Q (.bl r) H) : rIsi K [.int i, .ty b] H Q := x_isi (.base (.int i)) k q
theorem x_isiB {c : Bool} {b : String} {r : Bool} (k : kitB "bool" b = some r) (q : Q (.bl r) H) : rIsi K [.bl c, .ty b] H Q := x_isi (.base (.bl c)) k q
theorem x_isiS {c : Str} {b : String} {r : Bool} (k : kitB "str" b = some r) (q : Q (.bl r) H) : rIsi K [.str c, .ty b] H Q := x_isi (.base (.str c)) k q
theorem x_isiN {b : String} {r : Bool} (k : kitB "NoneType" b = some r) (q : Q (.bl r) H) : rIsi K [.non, .ty b] H Q := x_isi (.base .non) k q
theorem x_isiT {p : Addr} {xs : List V} {b : String} {r : Bool} (h : H p = some (.tup xs)) (k : kitB "tuple" b = some r) (q : Q (.bl r) H) : rIsi K [.ref p, .ty b] H Q := x_isi (.base (.tup h)) k q
theorem x_isiL {p : Addr} {xs : List V} {b : String} {r : Bool} (h : H p = some (.lst xs)) (k : kitB "list" b = some r) (q : Q (.bl r) H) : rIsi K [.ref p, .ty b] H Q := x_isi (.base (.lst h)) k q
theorem x_isiD {p : Addr} {xs : List (Key × V)} {b : String} {r : Bool} (h : H p = some (.dK xs)) (k : kitB "dict" b = some r) (q : Q (.bl r) H) : rIsi K [.ref p, .ty b] H Q := x_isi (.base (.dK h)) k q
theorem x_tyL {p : Addr} {xs : List V} {B : Prop} (h : SqL K H p xs) (q : B) : tyV K "list" (.ref p) H ∧ B := ⟨.inl ⟨rfl, xs, h⟩, q⟩
theorem x_tyS {z : Str} {B : Prop} (q : B) : tyV K "str" (.str z) H ∧ B := ⟨rfl, q⟩
theorem x_tyD {p : Addr} {kvs : List (Key × V)} {B : Prop} (h : H p = some (.dK kvs)) (q : B) : tyV K "dict" (.ref p) H ∧ B := ⟨.inr (.inr (.inl ⟨rfl, .inl ⟨kvs, h⟩⟩)), q⟩
theorem x_lenAs {p : Addr} {xs : List V} (h : SqL K H p xs ∨ SqT K H p xs) (q : Q (.int xs.length) H) : rLenA K [.ref p] H Q := .inl ⟨p, xs, rfl, h, q⟩
theorem x_lenAz {z : Str} (h : z.length ≤ sizeLine) (q : Q (.int z.length) H) : rLenA K [.str z] H Q := .inr ⟨z, rfl, h, q⟩
theorem x_addTz {z w : Str} (h : z.length + w.length ≤ sizeLine) (q : Q (.str (z ++ w)) H) : rAddT K (.str z) (.str w) H Q := .inl ⟨z, w, rfl, rfl, h, q⟩
/-- + of tuples: where it stands, that is one tuple -/
theorem x_catA {a b : Addr} {xs ys : List V} (ha : SqT K H a xs) (hb : SqT K H b ys) (hz : xs.length + ys.length ≤ 100000)
    (q0 : xs = [] → Q (.ref b) H) (q1 : xs ≠ [] → ys = [] → Q (.ref a) H) (q2 : xs ≠ [] → ys ≠ [] → ∀ p, Fresh H p → Q (.ref p) (upd H p (.tup (xs ++ ys)))) : rCatA K (.ref a) (.ref b) H Q :=
  ⟨a, b, xs, ys, rfl, rfl, ha, hb, Nat.le_trans hz (by decide), q0, q1, q2⟩
theorem x_catD {a b : Addr} {xs ys : List V} {ds es : List PyData} (ha : H a = some (.tup xs)) (hb : H b = some (.tup ys)) (da : DtAll H xs ds) (db : DtAll H ys es) (hz : xs.length + ys.length ≤ 100000)
    (q : ∀ p H', Fr Non H H' → Dt H' (.ref p) (.tuple (ds ++ es)) → Q (.ref p) H') : rCatA K (.ref a) (.ref b) H Q := by
  refine x_catA (SqT.of ha) (SqT.of hb) hz (fun e => ?_) (fun _ e => ?_) (fun _ _ p n => ?_)
  · subst e; cases da; exact q b H (Fr.refl _) (.tup hb db)
  · subst e; cases db; rw [List.append_nil] at q; exact q a H (Fr.refl _) (.tup ha da)
  · exact q p _ (Fr.new (Fr.refl _) n) (.tup upd_same (DtAll.app (da.upd n) (db.upd n)))
theorem x_addTt (q : rCatA K x y H Q) : rAddT K x y H Q := .inr q
theorem x_slXz {z : Str} {lo hi : Option Int} (h : z.length ≤ sizeLine) (q : Q (.str (cutS z lo hi)) H) : rSlX K (.str z) lo hi H Q := .inr (.inr ⟨z, rfl, h, q⟩)
theorem x_slXt {lo hi : Option Int} (q : rSlA K x lo hi H Q) : rSlX K x lo hi H Q := .inr (.inl q)
theorem cutV_eq (xs : List V) (lo hi : Option Int) : cutV xs lo hi = (xs.drop (HT.sIx xs.length 0 lo)).take (HT.sIx xs.length xs.length hi - HT.sIx xs.length 0 lo) := rfl
theorem x_slD {a : Addr} {xs : List V} {ds : List PyData} {lo hi : Option Int} (ha : H a = some (.tup xs)) (da : DtAll H xs ds)
    (q : ∀ p H', Fr Non H H' → Dt H' (.ref p) (.tuple ((ds.drop (HT.sIx xs.length 0 lo)).take (HT.sIx xs.length xs.length hi - HT.sIx xs.length 0 lo))) → Q (.ref p) H') : rSlA K (.ref a) lo hi H Q := by
  refine ⟨a, xs, rfl, SqT.of ha, fun ⟨e1, e2⟩ => ?_, fun _ p n => ?_⟩
  · refine q a H (Fr.refl _) ?_
    rw [e1, e2, List.drop_zero, Nat.sub_zero, List.take_of_length_le (Nat.le_of_eq da.length.symm)]
    exact .tup ha da
  · exact q p _ (Fr.new (Fr.refl _) n) (.tup upd_same (by rw [cutV_eq]; exact ((da.drop _).take _).upd n))
theorem x_ixAt {p : Addr} {xs : List V} (h : SqT K H p xs) (ha : atI xs i = some v) (q : Q v H) : rIx K (.ref p) (.int i) H Q := .inr (.inl ⟨p, xs, i, v, rfl, rfl, h, ha, q⟩)
theorem x_ixAl {p : Addr} {xs : List V} (h : SqL K H p xs) (ha : atI xs i = some v) (q : Q v H) : rIx K (.ref p) (.int i) H Q := .inl ⟨p, xs, i, v, rfl, rfl, h, ha, q⟩
theorem x_ixAz {z : Str} {c : Nat} (h : z.length ≤ sizeLine) (ha : atI z.cps.toList i = some c) (q : Q (.str ⟨#[c]⟩) H) : rIx K (.str z) (.int i) H Q := .inr (.inr ⟨z, i, c, rfl, rfl, h, ha, q⟩)
end

/-! ### keys: depth, equality -/
theorem isK_cases {r : Nat} {d : PyData} (h : isK r d) : (∃ i, d = .int i ∧ numOk i) ∨ (∃ z, d = .str z ∧ txtOk z) ∨ ∃ r1 ds, r = r1 + 1 ∧ d = .tuple ds ∧ ds.length ≤ 4 ∧ ∀ e ∈ ds, isK r1 e := by
  cases d with
  | int i => rw [isK_int] at h; exact .inl ⟨i, rfl, h⟩
  | str z => rw [isK_str] at h; exact .inr (.inl ⟨z, rfl, h⟩)
  | tuple ds =>
    cases r with
    | zero => cases h
    | succ r1 => exact .inr (.inr ⟨r1, ds, rfl, rfl, h.1, h.2⟩)
  | none => cases r <;> cases h
  | bool => cases r <;> cases h
  | list => cases r <;> cases h
  | dict => cases r <;> cases h
theorem isK_up : ∀ {r : Nat} {d : PyData}, isK r d → isK (r + 1) d
  | r, d, h => by
    rcases isK_cases h with ⟨i, rfl, h3⟩ | ⟨z, rfl, h3⟩ | ⟨r1, ds, rfl, rfl, h1, h2⟩
    · rw [isK_int]; exact h3
    · rw [isK_str]; exact h3
    · rw [isK_tup]; exact ⟨h1, fun e he => isK_up (h2 e he)⟩
theorem isK_le {r s : Nat} (h : r ≤ s) {d : PyData} (k : isK r d) : isK s d := by
  obtain ⟨t, rfl⟩ : ∃ t, s = r + t := ⟨s - r, by omega⟩
  clear h
  induction t with
  | zero => exact k
  | succ t ih => exact isK_up ih
theorem depthAll_le {n : Nat} : ∀ {ds : List PyData}, (∀ d ∈ ds, d.depth ≤ n) → PyData.depthAll ds ≤ n
  | [], _ => Nat.zero_le _
  | d :: ds, h => by
    rw [PyData.depthAll]
    exact Nat.max_le.mpr ⟨h d (List.mem_cons_self ..), depthAll_le fun e he => h e (List.mem_cons_of_mem _ he)⟩
theorem isK_depth : ∀ {r : Nat} {d : PyData}, isK r d → d.depth ≤ r
  | r, d, h => by
    rcases isK_cases h with ⟨i, rfl, _⟩ | ⟨z, rfl, _⟩ | ⟨r1, ds, rfl, rfl, _, h2⟩
    · exact Nat.zero_le _
    · exact Nat.zero_le _
    · show PyData.depthAll ds + 1 ≤ r1 + 1
      exact Nat.succ_le_succ (depthAll_le fun e he => isK_depth (h2 e he))
theorem canLayAll0_of : ∀ {ds : List PyData}, (∀ d ∈ ds, d.canLay0 = true) → PyData.canLayAll0 ds = true
  | [], _ => rfl
  | d :: ds, h => by
    rw [PyData.canLayAll0, h d (List.mem_cons_self ..), canLayAll0_of fun e he => h e (List.mem_cons_of_mem _ he)]; rfl
theorem txt_strOk {z : Str} (h : ∀ c ∈ z.cps.toList, 32 ≤ c ∧ c ≤ 126) : PyData.strOk z = true := by
  unfold PyData.strOk
  rw [Array.all_eq_true_iff_forall_mem]
  intro c hc
  have := h c (Array.mem_toList_iff.mpr hc)
  exact decide_eq_true (by omega)
theorem isK_lay : ∀ {r : Nat} {d : PyData}, isK r d → d.canLay0 = true
  | r, d, h => by
    rcases isK_cases h with ⟨i, rfl, _⟩ | ⟨z, rfl, h3⟩ | ⟨r1, ds, rfl, rfl, _, h2⟩
    · rfl
    · exact txt_strOk h3.2
    · show PyData.canLayAll0 ds = true
      exact canLayAll0_of fun e he => isK_lay (h2 e he)
theorem isK_shaped {r : Nat} {d : PyData} (h : isK r d) (hr : r ≤ 60) : SeqAt.shaped d = true := by
  unfold SeqAt.shaped
  rw [isK_lay h, decide_eq_true (Nat.le_trans (isK_depth h) (by omega))]; rfl
theorem isK_ne {r : Nat} {d : PyData} (h : isK r d) : d ≠ .none := fun e => by subst e; cases r <;> cases h
theorem str_beq {x y : Str} : (x == y) = true ↔ x = y := by simp
mutual
theorem eqv_of_eq : ∀ {r : Nat} {d : PyData}, isK r d → PyData.eqv d d = true
  | r, d, h => by
    rcases isK_cases h with ⟨i, rfl, _⟩ | ⟨z, rfl, h⟩ | ⟨r1, ds, rfl, rfl, _, h2⟩
    · rw [PyData.eqv]; exact beq_self_eq_true _
    · rw [PyData.eqv]; exact beq_self_eq_true _
    · rw [PyData.eqv]; exact eqvAll_of_eq h2
theorem eqvAll_of_eq : ∀ {r : Nat} {ds : List PyData}, (∀ d ∈ ds, isK r d) → PyData.eqvAll ds ds = true
  | r, [], _ => rfl
  | r, d :: ds, h => by
    rw [PyData.eqvAll, eqv_of_eq (h d (List.mem_cons_self ..)), eqvAll_of_eq fun e he => h e (List.mem_cons_of_mem _ he)]; rfl
end
mutual
theorem eq_of_eqv : ∀ {r s : Nat} {d e : PyData}, isK r d → isK s e → PyData.eqv d e = true → d = e
  | r, s, d, e, h, k, q => by
    rcases isK_cases h with ⟨i, rfl, _⟩ | ⟨z, rfl, h⟩ | ⟨r1, ds, rfl, rfl, _, h2⟩
    · rcases isK_cases k with ⟨j, rfl, _⟩ | ⟨w, rfl, k⟩ | ⟨s1, es, rfl, rfl, _, k2⟩
      · rw [PyData.eqv] at q; rw [eq_of_beq q]
      · rw [PyData.eqv] at q; cases q
      · rw [PyData.eqv] at q; cases q
    · rcases isK_cases k with ⟨j, rfl, _⟩ | ⟨w, rfl, k⟩ | ⟨s1, es, rfl, rfl, _, k2⟩
      · rw [PyData.eqv] at q; cases q
      · rw [PyData.eqv] at q; rw [eq_of_beq q]
      · rw [PyData.eqv] at q; cases q
    · rcases isK_cases k with ⟨j, rfl, _⟩ | ⟨w, rfl, k⟩ | ⟨s1, es, rfl, rfl, _, k2⟩
      · rw [PyData.eqv] at q; cases q
      · rw [PyData.eqv] at q; cases q
      · rw [PyData.eqv] at q; rw [eqAll_of_eqv h2 k2 q]
theorem eqAll_of_eqv : ∀ {r s : Nat} {ds es : List PyData}, (∀ d ∈ ds, isK r d) → (∀ d ∈ es, isK s d) → PyData.eqvAll ds es = true → ds = es
  | r, s, [], [], _, _, _ => rfl
  | r, s, d :: ds, e :: es, h, k, q => by
    rw [PyData.eqvAll, Bool.and_eq_true] at q
    rw [eq_of_eqv (h d (List.mem_cons_self ..)) (k e (List.mem_cons_self ..)) q.1, eqAll_of_eqv (fun e he => h e (List.mem_cons_of_mem _ he)) (fun e he => k e (List.mem_cons_of_mem _ he)) q.2]
  | r, s, [], e :: es, _, _, q => by rw [PyData.eqvAll] at q; cases q
  | r, s, d :: ds, [], _, _, q => by rw [PyData.eqvAll] at q; cases q
end
theorem eqv_iff {r s : Nat} {d e : PyData} (h : isK r d) (k : isK s e) : PyData.eqv d e = true ↔ d = e :=
  ⟨eq_of_eqv h k, fun q => by subst q; exact eqv_of_eq h⟩

/-! ### the order -/
mutual
/-- what the program compares in a key's place -/
def rankD : PyData → PyData
  | .int i => .tuple [.int 0, .int i, .str "", .tuple []]
  | .str z => .tuple [.int 1, .int 0, .str z, .tuple []]
  | .tuple ds => .tuple [.int 2, .int 0, .str "", .tuple (rankAll ds)]
  | .none | .bool _ | .list _ | .dict _ => .tuple [.int 3, .int 0, .str "", .tuple []]
def rankAll : List PyData → List PyData
  | [] => []
  | d :: ds => rankD d :: rankAll ds
end
theorem rankAll_map : ∀ ds : List PyData, rankAll ds = ds.map rankD
  | [] => rfl
  | d :: ds => by rw [rankAll, rankAll_map ds]; rfl
open PySem.W in
theorem alike4 (a b c d : Int) (x y : Str) {ds es : List PyData} (h : alikeAll ds es = true) : alike (.tuple [.int a, .int b, .str x, .tuple ds]) (.tuple [.int c, .int d, .str y, .tuple es]) = true := by
  simp [alike, alikeAll, h]
open PySem.W in
mutual
theorem rank_alike : ∀ d e : PyData, alike (rankD d) (rankD e) = true
  | .tuple ds, e => by
    cases e with
    | tuple es => exact alike4 _ _ _ _ _ _ (rankAll_alike ds es)
    | int => exact alike4 _ _ _ _ _ _ (by cases ds <;> simp [rankAll, alikeAll])
    | str => exact alike4 _ _ _ _ _ _ (by cases ds <;> simp [rankAll, alikeAll])
    | none => exact alike4 _ _ _ _ _ _ (by cases ds <;> simp [rankAll, alikeAll])
    | bool => exact alike4 _ _ _ _ _ _ (by cases ds <;> simp [rankAll, alikeAll])
    | list => exact alike4 _ _ _ _ _ _ (by cases ds <;> simp [rankAll, alikeAll])
    | dict => exact alike4 _ _ _ _ _ _ (by cases ds <;> simp [rankAll, alikeAll])
  | .int i, e => by cases e <;> exact alike4 _ _ _ _ _ _ (by simp [alikeAll])
  | .str i, e => by cases e <;> exact alike4 _ _ _ _ _ _ (by simp [alikeAll])
  | .none, e => by cases e <;> exact alike4 _ _ _ _ _ _ (by simp [alikeAll])
  | .bool i, e => by cases e <;> exact alike4 _ _ _ _ _ _ (by simp [alikeAll])
  | .list i, e => by cases e <;> exact alike4 _ _ _ _ _ _ (by simp [alikeAll])
  | .dict i, e => by cases e <;> exact alike4 _ _ _ _ _ _ (by simp [alikeAll])
theorem rankAll_alike : ∀ ds es : List PyData, alikeAll (rankAll ds) (rankAll es) = true
  | [], _ => by simp [rankAll, alikeAll]
  | _ :: _, [] => by simp [rankAll, alikeAll]
  | d :: ds, e :: es => by rw [rankAll, rankAll, alikeAll, rank_alike d e, rankAll_alike ds es]; rfl
end
theorem rank_ne (d : PyData) : rankD d ≠ .none := by cases d <;> (rw [rankD]; exact fun h => nomatch h)
theorem depth4 (a b : Int) (x : Str) {ds : List PyData} {n : Nat} (h : PyData.depthAll ds ≤ n) : (PyData.tuple [.int a, .int b, .str x, .tuple ds]).depth ≤ n + 2 := by
  simp only [PyData.depth, PyData.depthAll]
  omega
theorem rank_depth : ∀ {r : Nat} {d : PyData}, isK r d → (rankD d).depth ≤ 2 * r + 2
  | r, d, h => by
    rcases isK_cases h with ⟨i, rfl, _⟩ | ⟨z, rfl, _⟩ | ⟨r1, ds, rfl, rfl, _, h2⟩
    · rw [rankD]; exact depth4 _ _ _ (Nat.zero_le _)
    · rw [rankD]; exact depth4 _ _ _ (Nat.zero_le _)
    · rw [rankD]
      refine depth4 _ _ _ ?_
      rw [rankAll_map]
      refine depthAll_le fun e he => ?_
      obtain ⟨e0, h0, rfl⟩ := List.mem_map.mp he
      have := rank_depth (h2 e0 h0)
      omega
/-- d stands ahead of e -/
def ltK (d e : PyData) : Bool := PySem.W.dataLt (rankD d) (rankD e)
def ltKs (ds es : List PyData) : Bool := PySem.W.dataLt (.tuple (rankAll ds)) (.tuple (rankAll es))
section
open PySem.W
theorem dl_yes {x y : PyData} {xs ys : List PyData} (h : alike x y = true) (e : PyData.eqv x y = true) : dataLt (.tuple (x :: xs)) (.tuple (y :: ys)) = dataLt (.tuple xs) (.tuple ys) := by
  rw [dataLt_tuple, dataLt_tuple]; exact dataLt_all_yes h e
theorem dl_no {x y : PyData} {xs ys : List PyData} (h : alike x y = true) (e : PyData.eqv x y = false) : dataLt (.tuple (x :: xs)) (.tuple (y :: ys)) = dataLt x y := by
  rw [dataLt_tuple]; exact dataLt_all_no h e
theorem dl_nil : dataLt (.tuple []) (.tuple []) = false := by rw [dataLt_tuple]; exact lex_irrefl _
theorem dl_nilc {y : PyData} {ys : List PyData} : dataLt (.tuple []) (.tuple (y :: ys)) = true := by
  rw [dataLt_tuple, toks_all_cons, keyToksAll, lex_diff (O := itemOrd) (by simp)]; rfl
theorem dl_cnil {y : PyData} {ys : List PyData} : dataLt (.tuple (y :: ys)) (.tuple []) = false := by
  rw [dataLt_tuple, toks_all_cons, keyToksAll, lex_diff (O := itemOrd) (by simp)]; rfl
theorem eqv_i {i j : Int} (h : i ≠ j) : PyData.eqv (.int i) (.int j) = false := by rw [PyData.eqv]; exact beq_false_of_ne h
theorem eqv_ii (i : Int) : PyData.eqv (.int i) (.int i) = true := by rw [PyData.eqv]; exact beq_self_eq_true _
theorem eqv_s {i j : Str} (h : i ≠ j) : PyData.eqv (.str i) (.str j) = false := by rw [PyData.eqv]; exact beq_false_of_ne h
theorem eqv_ss (i : Str) : PyData.eqv (.str i) (.str i) = true := by rw [PyData.eqv]; exact beq_self_eq_true _
theorem al_i (i j : Int) : alike (.int i) (.int j) = true := by rw [alike]
theorem al_s (i j : Str) : alike (.str i) (.str j) = true := by rw [alike]
theorem ltK_kind {a b c d : Int} {x y : Str} {ds es : List PyData} (h : a ≠ c) : dataLt (.tuple [.int a, .int b, .str x, .tuple ds]) (.tuple [.int c, .int d, .str y, .tuple es]) = decide (a < c) := by
  rw [dl_no (al_i _ _) (eqv_i h), dataLt_int]
theorem ltK_int (i j : Int) : ltK (.int i) (.int j) = decide (i < j) := by
  unfold ltK
  rw [rankD, rankD, dl_yes (al_i _ _) (eqv_ii _)]
  by_cases h : i = j
  · subst h
    rw [dl_yes (al_i _ _) (eqv_ii _), dl_yes (al_s _ _) (eqv_ss _), dl_yes (by rw [alike, alikeAll]) (by rw [PyData.eqv, PyData.eqvAll]), dl_nil]
    exact (decide_eq_false (by omega)).symm
  · rw [dl_no (al_i _ _) (eqv_i h), dataLt_int]
theorem ltK_str (i j : Str) : ltK (.str i) (.str j) = decide (i.cps.toList < j.cps.toList) := by
  unfold ltK
  rw [rankD, rankD, dl_yes (al_i _ _) (eqv_ii _), dl_yes (al_i _ _) (eqv_ii _)]
  by_cases h : i = j
  · subst h
    rw [dl_yes (al_s _ _) (eqv_ss _), dl_yes (by rw [alike, alikeAll]) (by rw [PyData.eqv, PyData.eqvAll]), dl_nil]
    exact (decide_eq_false (List.lt_irrefl _)).symm
  · rw [dl_no (al_s _ _) (eqv_s h), dataLt_str]
theorem ltK_tup (ds es : List PyData) : ltK (.tuple ds) (.tuple es) = ltKs ds es := by
  unfold ltK ltKs
  rw [rankD, rankD, dl_yes (al_i _ _) (eqv_ii _), dl_yes (al_i _ _) (eqv_ii _), dl_yes (al_s _ _) (eqv_ss _)]
  cases h : PyData.eqv (.tuple (rankAll ds)) (.tuple (rankAll es)) with
  | true =>
    have ha : alike (.tuple (rankAll ds)) (.tuple (rankAll es)) = true := by rw [alike]; exact rankAll_alike ds es
    rw [dl_yes ha h, dl_nil]
    have e := (toks_eqv _ _ ha).1 h
    unfold dataLt
    rw [e]; exact (lex_irrefl _).symm
  | false =>
    rw [dl_no (by rw [alike]; exact rankAll_alike ds es) h]
theorem ltK_is (i : Int) (z : Str) : ltK (.int i) (.str z) = true := by unfold ltK; rw [rankD, rankD, ltK_kind (by decide)]; rfl
theorem ltK_si (i : Int) (z : Str) : ltK (.str z) (.int i) = false := by unfold ltK; rw [rankD, rankD, ltK_kind (by decide)]; rfl
theorem ltK_it (i : Int) (z : List PyData) : ltK (.int i) (.tuple z) = true := by unfold ltK; rw [rankD, rankD, ltK_kind (by decide)]; rfl
theorem ltK_ti (i : Int) (z : List PyData) : ltK (.tuple z) (.int i) = false := by unfold ltK; rw [rankD, rankD, ltK_kind (by decide)]; rfl
theorem ltK_st (i : Str) (z : List PyData) : ltK (.str i) (.tuple z) = true := by unfold ltK; rw [rankD, rankD, ltK_kind (by decide)]; rfl
theorem ltK_ts (i : Str) (z : List PyData) : ltK (.tuple z) (.str i) = false := by unfold ltK; rw [rankD, rankD, ltK_kind (by decide)]; rfl
theorem ltKs_nil : ltKs [] [] = false := dl_nil
theorem ltKs_nilc {y : PyData} {ys : List PyData} : ltKs [] (y :: ys) = true := by unfold ltKs; rw [rankAll, rankAll]; exact dl_nilc
theorem ltKs_cnil {y : PyData} {ys : List PyData} : ltKs (y :: ys) [] = false := by unfold ltKs; rw [rankAll, rankAll]; exact dl_cnil
mutual
theorem rank_eqv : ∀ d : PyData, PyData.eqv (rankD d) (rankD d) = true
  | .tuple ds => by rw [rankD]; simp only [PyData.eqv, PyData.eqvAll, beq_self_eq_true, Bool.true_and, Bool.and_true]; exact rankAll_eqv ds
  | .int i => by rw [rankD]; simp [PyData.eqv, PyData.eqvAll]
  | .str i => by rw [rankD]; simp [PyData.eqv, PyData.eqvAll]
  | .none => by rw [rankD]; simp [PyData.eqv, PyData.eqvAll]
  | .bool _ => by rw [rankD]; simp [PyData.eqv, PyData.eqvAll]
  | .list _ => by rw [rankD]; simp [PyData.eqv, PyData.eqvAll]
  | .dict _ => by rw [rankD]; simp [PyData.eqv, PyData.eqvAll]
theorem rankAll_eqv : ∀ ds : List PyData, PyData.eqvAll (rankAll ds) (rankAll ds) = true
  | [] => rfl
  | d :: ds => by rw [rankAll, PyData.eqvAll, rank_eqv d, rankAll_eqv ds]; rfl
end
theorem eqv4 {a b c d : Int} {x y : Str} {ds es : List PyData} (h : PyData.eqv (.tuple [.int a, .int b, .str x, .tuple ds]) (.tuple [.int c, .int d, .str y, .tuple es]) = true) : a = c ∧ b = d ∧ x = y ∧ PyData.eqvAll ds es = true := by
  simp only [PyData.eqv, PyData.eqvAll, Bool.and_eq_true, Bool.and_true] at h
  exact ⟨eq_of_beq h.1, eq_of_beq h.2.1, eq_of_beq h.2.2.1, h.2.2.2⟩
mutual
theorem rank_inj : ∀ {r s : Nat} {d e : PyData}, isK r d → isK s e → PyData.eqv (rankD d) (rankD e) = true → d = e
  | r, s, d, e, h, k, q => by
    rcases isK_cases h with ⟨i, rfl, _⟩ | ⟨z, rfl, h⟩ | ⟨r1, ds, rfl, rfl, _, h2⟩
    · rcases isK_cases k with ⟨j, rfl, _⟩ | ⟨w, rfl, k⟩ | ⟨s1, es, rfl, rfl, _, k2⟩
      · rw [rankD, rankD] at q; rw [(eqv4 q).2.1]
      · rw [rankD, rankD] at q; exact absurd (eqv4 q).1 (by decide)
      · rw [rankD, rankD] at q; exact absurd (eqv4 q).1 (by decide)
    · rcases isK_cases k with ⟨j, rfl, _⟩ | ⟨w, rfl, k⟩ | ⟨s1, es, rfl, rfl, _, k2⟩
      · rw [rankD, rankD] at q; exact absurd (eqv4 q).1 (by decide)
      · rw [rankD, rankD] at q; rw [(eqv4 q).2.2.1]
      · rw [rankD, rankD] at q; exact absurd (eqv4 q).1 (by decide)
    · rcases isK_cases k with ⟨j, rfl, _⟩ | ⟨w, rfl, k⟩ | ⟨s1, es, rfl, rfl, _, k2⟩
      · rw [rankD, rankD] at q; exact absurd (eqv4 q).1 (by decide)
      · rw [rankD, rankD] at q; exact absurd (eqv4 q).1 (by decide)
      · rw [rankD, rankD] at q; rw [rankAll_inj h2 k2 (eqv4 q).2.2.2]
theorem rankAll_inj : ∀ {r s : Nat} {ds es : List PyData}, (∀ d ∈ ds, isK r d) → (∀ d ∈ es, isK s d) → PyData.eqvAll (rankAll ds) (rankAll es) = true → ds = es
  | r, s, [], [], _, _, _ => rfl
  | r, s, d :: ds, e :: es, h, k, q => by
    rw [rankAll, rankAll, PyData.eqvAll, Bool.and_eq_true] at q
    rw [rank_inj (h d (List.mem_cons_self ..)) (k e (List.mem_cons_self ..)) q.1, rankAll_inj (fun e he => h e (List.mem_cons_of_mem _ he)) (fun e he => k e (List.mem_cons_of_mem _ he)) q.2]
  | r, s, [], e :: es, _, _, q => by rw [rankAll, rankAll, PyData.eqvAll] at q; cases q
  | r, s, d :: ds, [], _, _, q => by rw [rankAll, rankAll, PyData.eqvAll] at q; cases q
end
theorem ltKs_same (d : PyData) (ds es : List PyData) : ltKs (d :: ds) (d :: es) = ltKs ds es := by
  unfold ltKs; rw [rankAll, rankAll, dl_yes (rank_alike d d) (rank_eqv d)]
theorem ltKs_diff {r s : Nat} {d e : PyData} (hd : isK r d) (he : isK s e) (hn : d ≠ e) (ds es : List PyData) : ltKs (d :: ds) (e :: es) = ltK d e := by
  unfold ltKs; rw [rankAll, rankAll, dl_no (rank_alike d e) ?_]
  · rfl
  · cases h : PyData.eqv (rankD d) (rankD e) with
    | false => rfl
    | true => exact absurd (rank_inj hd he h) hn
theorem ltK_irrefl (d : PyData) : ltK d d = false := lex_irrefl _
theorem ltK_trans {a b c : PyData} : ltK a b = true → ltK b c = true → ltK a c = true := lex_trans _ _ _
theorem ltK_neg {a b c : PyData} : ltK a c = true → ltK a b = true ∨ ltK b c = true := lex_negTrans _ _ _
theorem ltK_tot {r s : Nat} {a b : PyData} (ha : isK r a) (hb : isK s b) (h1 : ltK a b = false) (h2 : ltK b a = false) : a = b := by
  have e : keyToks (rankD a) = keyToks (rankD b) := lex_total _ _ h1 h2
  refine rank_inj ha hb ?_
  cases h : PyData.eqv (rankD a) (rankD b) with
  | true => rfl
  | false =>
    have q := (toks_eqv _ _ (rank_alike a b)).2 h [.inl 0] [.inl 1]
    rw [e, lex_pre, lex_irrefl, lex_diff (O := itemOrd) (by simp)] at q
    exact absurd q (by decide)
theorem ltK_asymm {a b : PyData} (h : ltK a b = true) : ltK b a = false := by
  cases q : ltK b a with
  | false => rfl
  | true => have := ltK_trans h q; rw [ltK_irrefl] at this; cases this
end

/-! ### sign by sign, thing by thing -/
theorem ltN_at : ∀ (i : Nat) {a b : List Nat} {x y : Nat}, a.take i = b.take i → a[i]? = some x → b[i]? = some y → x ≠ y → decide (a < b) = decide ([x] < [y])
  | 0, [], _, _, _, _, h, _, _ => by simp at h
  | 0, _ :: _, [], _, _, _, _, h, _ => by simp at h
  | 0, c :: a, d :: b, x, y, _, hx, hy, hn => by
    simp at hx hy
    subst hx; subst hy
    refine decide_eq_decide.mpr ?_
    rw [List.cons_lt_cons_iff, List.cons_lt_cons_iff]
    constructor
    · rintro (h | ⟨h, _⟩)
      · exact .inl h
      · exact absurd h hn
    · rintro (h | ⟨h, _⟩)
      · exact .inl h
      · exact absurd h hn
  | i + 1, [], _, _, _, _, h, _, _ => by simp at h
  | i + 1, _ :: _, [], _, _, _, _, h, _ => by simp at h
  | i + 1, c :: a, d :: b, x, y, ht, hx, hy, hn => by
    simp at ht hx hy
    obtain ⟨rfl, ht⟩ := ht
    rw [← ltN_at i ht hx hy hn]
    refine decide_eq_decide.mpr ?_
    rw [List.cons_lt_cons_iff]
    constructor
    · rintro (h | ⟨_, h⟩)
      · exact absurd h (Nat.lt_irrefl _)
      · exact h
    · exact fun h => .inr ⟨rfl, h⟩
theorem ltN_end : ∀ {a b : List Nat}, a.take (min a.length b.length) = b.take (min a.length b.length) → decide (a < b) = decide (a.length < b.length)
  | [], [], _ => by simp
  | [], _ :: _, _ => by simp
  | _ :: _, [], _ => by simp
  | c :: a, d :: b, h => by
    have e : min (c :: a).length (d :: b).length = min a.length b.length + 1 := by simp only [List.length_cons]; omega
    rw [e] at h
    simp only [List.take_succ_cons, List.cons.injEq] at h
    obtain ⟨rfl, h⟩ := h
    have q := ltN_end h
    have q2 : (a < b) ↔ a.length < b.length := decide_eq_decide.mp q
    refine decide_eq_decide.mpr ?_
    rw [List.cons_lt_cons_iff]
    constructor
    · rintro (h | ⟨_, h⟩)
      · exact absurd h (Nat.lt_irrefl _)
      · simp only [List.length_cons]; exact Nat.succ_lt_succ (q2.mp h)
    · intro h
      simp only [List.length_cons] at h
      exact .inr ⟨rfl, q2.mpr (Nat.lt_of_succ_lt_succ h)⟩
theorem ltKs_at {r s : Nat} : ∀ (i : Nat) {a b : List PyData} {x y : PyData}, (∀ d ∈ a, isK r d) → (∀ d ∈ b, isK s d) → a.take i = b.take i → a[i]? = some x → b[i]? = some y → x ≠ y → ltKs a b = ltK x y
  | 0, [], _, _, _, _, _, _, h, _, _ => by simp at h
  | 0, _ :: _, [], _, _, _, _, _, _, h, _ => by simp at h
  | 0, c :: a, d :: b, x, y, ha, hb, _, hx, hy, hn => by
    simp at hx hy
    subst hx; subst hy
    exact ltKs_diff (ha _ (List.mem_cons_self ..)) (hb _ (List.mem_cons_self ..)) hn _ _
  | i + 1, [], _, _, _, _, _, _, h, _, _ => by simp at h
  | i + 1, _ :: _, [], _, _, _, _, _, _, h, _ => by simp at h
  | i + 1, c :: a, d :: b, x, y, ha, hb, ht, hx, hy, hn => by
    simp at ht hx hy
    obtain ⟨rfl, ht⟩ := ht
    rw [ltKs_same]
    exact ltKs_at i (fun e he => ha e (List.mem_cons_of_mem _ he)) (fun e he => hb e (List.mem_cons_of_mem _ he)) ht hx hy hn
theorem ltKs_end : ∀ {a b : List PyData}, a.take (min a.length b.length) = b.take (min a.length b.length) → ltKs a b = decide (a.length < b.length)
  | [], [], _ => by rw [ltKs_nil]; rfl
  | [], _ :: _, _ => by rw [ltKs_nilc]; simp
  | _ :: _, [], _ => by rw [ltKs_cnil]; simp
  | c :: a, d :: b, h => by
    have e : min (c :: a).length (d :: b).length = min a.length b.length + 1 := by simp only [List.length_cons]; omega
    rw [e] at h
    simp only [List.take_succ_cons, List.cons.injEq] at h
    obtain ⟨rfl, h⟩ := h
    rw [ltKs_same, ltKs_end h]
    exact decide_eq_decide.mpr (by simp only [List.length_cons]; omega)
theorem take_succ_eq {α : Type} {a b : List α} {i : Nat} {x : α} (h : a.take i = b.take i) (hx : a[i]? = some x) (hy : b[i]? = some x) : a.take (i + 1) = b.take (i + 1) := by
  rw [List.take_add_one, List.take_add_one, h, hx, hy]
theorem one_ne {x y : Nat} : (⟨#[x]⟩ : Str) = ⟨#[y]⟩ ↔ x = y := by
  constructor
  · intro h
    injection h with h
    simpa using h
  · rintro rfl; rfl
/-- the text of a small number -/
theorem txt_num {i : Int} (h0 : 0 ≤ i) (h1 : i < 10 ^ 9) : txtOk (toString i : String) := by
  refine ⟨?_, fun c hc => ?_⟩
  · have := int_text_length_le10 (a := i) (k := 9) (by decide) (by omega)
    have e : ((toString i : String) : Str).length = (toString i).length := by
      exact PySem.ofString_length _
    rw [e]; omega
  · by_cases hk : c ≠ 45 ∧ (c < 48 ∨ 57 < c)
    · exact absurd hc (int_text_free' c hk i)
    · omega
end Tw

/-! TwD: things of any kind; is_key's answer; max with a default; walks over a text. -/
namespace Tw
open PySem PySem.Spec PyProof.Rows L2
mutual
/-- the value v is the thing d; what lies in its lists and dicts is left open; none of these is in S -/
inductive TgS (S : Addr → Prop) (H : Hp) : V → PyData → Prop
  | non : TgS S H .non .none
  | bl (b : Bool) : TgS S H (.bl b) (.bool b)
  | int (i : Int) : TgS S H (.int i) (.int i)
  | str (x : Str) : TgS S H (.str x) (.str x)
  | lst {a : Addr} {xs : List V} (h : H a = some (.lst xs)) (n : ¬ S a) : TgS S H (.ref a) (.list [])
  | dct {a : Addr} {kvs : List (Key × V)} (h : H a = some (.dK kvs)) (n : ¬ S a) : TgS S H (.ref a) (.dict [])
  | tup {a : Addr} {xs : List V} {ds : List PyData} (h : H a = some (.tup xs)) (hs : TgAllS S H xs ds) : TgS S H (.ref a) (.tuple ds)
inductive TgAllS (S : Addr → Prop) (H : Hp) : List V → List PyData → Prop
  | nil : TgAllS S H [] []
  | cons {v : V} {vs : List V} {d : PyData} {ds : List PyData} (h : TgS S H v d) (hs : TgAllS S H vs ds) : TgAllS S H (v :: vs) (d :: ds)
end
abbrev Tg := TgS Non
abbrev TgAll := TgAllS Non
mutual
theorem Dt.tg {S : Addr → Prop} {H : Hp} : ∀ (d : PyData) (v : V), Dt H v d → TgS S H v d
  | .none, _, h => by cases h; exact .non
  | .bool b, _, h => by cases h; exact .bl b
  | .int i, _, h => by cases h; exact .int i
  | .str x, _, h => by cases h; exact .str x
  | .list _, _, h => by cases h
  | .dict _, _, h => by cases h
  | .tuple ds, _, h => by
    cases h with
    | tup e hs => exact .tup e (DtAll.tg ds _ hs)
theorem DtAll.tg {S : Addr → Prop} {H : Hp} : ∀ (ds : List PyData) (vs : List V), DtAll H vs ds → TgAllS S H vs ds
  | [], _, h => by cases h; exact .nil
  | d :: ds, _, h => by
    cases h with
    | cons h1 h2 => exact .cons (Dt.tg d _ h1) (DtAll.tg ds _ h2)
end
mutual
theorem TgS.mono {S : Addr → Prop} {H H1 : Hp} (f : Fr S H H1) : ∀ (d : PyData) (v : V), TgS S H v d → TgS S H1 v d
  | .none, _, h => by cases h; exact .non
  | .bool b, _, h => by cases h; exact .bl b
  | .int i, _, h => by cases h; exact .int i
  | .str x, _, h => by cases h; exact .str x
  | .list _, _, h => by
    cases h with
    | lst e n => exact .lst (f.keep _ _ e n) n
  | .dict _, _, h => by
    cases h with
    | dct e n => exact .dct (f.keep _ _ e n) n
  | .tuple ds, _, h => by
    cases h with
    | tup e hs => exact .tup (f.tup _ _ e) (TgAllS.mono f ds _ hs)
theorem TgAllS.mono {S : Addr → Prop} {H H1 : Hp} (f : Fr S H H1) : ∀ (ds : List PyData) (vs : List V), TgAllS S H vs ds → TgAllS S H1 vs ds
  | [], _, h => by cases h; exact .nil
  | d :: ds, _, h => by
    cases h with
    | cons h1 h2 => exact .cons (TgS.mono f d _ h1) (TgAllS.mono f ds _ h2)
end
mutual
theorem TgS.weak {S : Addr → Prop} {H : Hp} : ∀ (d : PyData) (v : V), TgS S H v d → Tg H v d
  | .none, _, h => by cases h; exact .non
  | .bool b, _, h => by cases h; exact .bl b
  | .int i, _, h => by cases h; exact .int i
  | .str x, _, h => by cases h; exact .str x
  | .list _, _, h => by
    cases h with
    | lst e n => exact .lst e id
  | .dict _, _, h => by
    cases h with
    | dct e n => exact .dct e id
  | .tuple ds, _, h => by
    cases h with
    | tup e hs => exact .tup e (TgAllS.weak ds _ hs)
theorem TgAllS.weak {S : Addr → Prop} {H : Hp} : ∀ (ds : List PyData) (vs : List V), TgAllS S H vs ds → TgAll H vs ds
  | [], _, h => by cases h; exact .nil
  | d :: ds, _, h => by
    cases h with
    | cons h1 h2 => exact .cons (TgS.weak d _ h1) (TgAllS.weak ds _ h2)
end
theorem Tg.mono {H H1 : Hp} (f : Fr Non H H1) (d : PyData) (v : V) (h : Tg H v d) : Tg H1 v d := TgS.mono f d v h
theorem TgAll.mono {H H1 : Hp} (f : Fr Non H H1) (d : List PyData) (v : List V) (h : TgAll H v d) : TgAll H1 v d := TgAllS.mono f d v h
theorem TgS.new {S : Addr → Prop} {H : Hp} {p : Addr} {o : HO} {v : V} {d : PyData} (h : TgS S H v d) (n : Fresh H p) : TgS S (upd H p o) v d := TgS.mono (Fr.new (Fr.refl H) n) d v h
theorem TgAllS.new {S : Addr → Prop} {H : Hp} {p : Addr} {o : HO} {v : List V} {d : List PyData} (h : TgAllS S H v d) (n : Fresh H p) : TgAllS S (upd H p o) v d := TgAllS.mono (Fr.new (Fr.refl H) n) d v h
theorem TgAllS.length {S : Addr → Prop} {H : Hp} : ∀ {vs : List V} {ds : List PyData}, TgAllS S H vs ds → vs.length = ds.length
  | _, [], h => by cases h; rfl
  | _, d :: ds, h => by
    cases h with
    | cons h1 h2 => rw [List.length_cons, List.length_cons, TgAllS.length h2]
theorem TgAllS.get {S : Addr → Prop} {H : Hp} : ∀ {vs : List V} {ds : List PyData} {i : Nat} {v : V}, TgAllS S H vs ds → vs[i]? = some v → ∃ d, ds[i]? = some d ∧ TgS S H v d
  | _, [], _, _, h, e => by cases h; simp at e
  | _, d :: ds, 0, _, h, e => by
    cases h with
    | cons h1 h2 => simp at e; subst e; exact ⟨d, rfl, h1⟩
  | _, d :: ds, i + 1, _, h, e => by
    cases h with
    | cons h1 h2 =>
      obtain ⟨d', q1, q2⟩ := TgAllS.get (i := i) h2 (by simpa using e)
      exact ⟨d', by simpa using q1, q2⟩
theorem TgAllS.app {S : Addr → Prop} {H : Hp} : ∀ {vs ws : List V} {ds es : List PyData}, TgAllS S H vs ds → TgAllS S H ws es → TgAllS S H (vs ++ ws) (ds ++ es)
  | _, _, [], _, h, k => by cases h; exact k
  | _, _, d :: ds, _, h, k => by
    cases h with
    | cons h1 h2 => exact .cons h1 (TgAllS.app h2 k)
theorem TgAllS.take {S : Addr → Prop} {H : Hp} : ∀ {vs : List V} {ds : List PyData} (n : Nat), TgAllS S H vs ds → TgAllS S H (vs.take n) (ds.take n)
  | _, _, 0, _ => .nil
  | _, [], _ + 1, h => by cases h; exact .nil
  | _, d :: ds, n + 1, h => by
    cases h with
    | cons h1 h2 => exact .cons h1 (TgAllS.take n h2)
theorem TgAllS.set {S : Addr → Prop} {H : Hp} {v : V} {d : PyData} (k : TgS S H v d) : ∀ {vs : List V} {ds : List PyData} (n : Nat), TgAllS S H vs ds → TgAllS S H (vs.set n v) (ds.set n d)
  | _, [], _, h => by cases h; exact .nil
  | _, e :: ds, 0, h => by
    cases h with
    | cons h1 h2 => exact .cons k h2
  | _, e :: ds, n + 1, h => by
    cases h with
    | cons h1 h2 => exact .cons h1 (TgAllS.set k n h2)

theorem keepU {H : Hp} {p q : Addr} {o u : HO} (h : H p = some o) (n : Fresh H q) : upd H q u p = some o := (upd_ne (ne_fr h n)).trans h
theorem Well.new {H : Hp} {a q : Addr} {u : HO} (h : Well H a) (n : Fresh H q) : Well (upd H q u) a := h.fr (Fr.new (S := Non) (Fr.refl _) n) id
/-- what stands already -/
abbrev Old (H : Hp) : Addr → Prop := fun b => ¬ Fresh H b
theorem old_of {H : Hp} {p : Addr} {o : HO} (h : H p = some o) : Old H p := fun n => by
  have n0 : H p = none := n
  rw [n0] at h; cases h
theorem Well.old {H : Hp} {a : Addr} (h : Well H a) : ∀ b, One a b → Old H b := fun b e => by
  subst e
  obtain ⟨xs, q⟩ := h.some
  exact old_of q
mutual
theorem TgS.less {S T : Addr → Prop} {H : Hp} (f : ∀ b, S b → T b) : ∀ (d : PyData) (v : V), TgS T H v d → TgS S H v d
  | .none, _, h => by cases h; exact .non
  | .bool b, _, h => by cases h; exact .bl b
  | .int i, _, h => by cases h; exact .int i
  | .str x, _, h => by cases h; exact .str x
  | .list _, _, h => by
    cases h with
    | lst e n => exact .lst e fun s => n (f _ s)
  | .dict _, _, h => by
    cases h with
    | dct e n => exact .dct e fun s => n (f _ s)
  | .tuple ds, _, h => by
    cases h with
    | tup e hs => exact .tup e (TgAllS.less f ds _ hs)
theorem TgAllS.less {S T : Addr → Prop} {H : Hp} (f : ∀ b, S b → T b) : ∀ (ds : List PyData) (vs : List V), TgAllS T H vs ds → TgAllS S H vs ds
  | [], _, h => by cases h; exact .nil
  | d :: ds, _, h => by
    cases h with
    | cons h1 h2 => exact .cons (TgS.less f d _ h1) (TgAllS.less f ds _ h2)
end
/-! ### what is_key tells -/
def bnd : Int := 10 ^ 60
def numB (i : Int) : Bool := decide (-bnd < i) && decide (i < bnd)
def signB (c : Nat) : Bool := decide (32 ≤ c) && decide (c ≤ 126)
def txtB (z : Str) : Bool := decide (z.length ≤ 40) && z.cps.toList.all signB
def keyB : Nat → PyData → Bool
  | _, .int i => numB i
  | _, .str z => txtB z
  | r + 1, .tuple ds => decide (ds.length ≤ 4) && ds.all (keyB r)
  | _, _ => false
theorem numB_iff {i : Int} : numB i = true ↔ numOk i := by unfold numB numOk bnd; simp
theorem txtB_iff {z : Str} : txtB z = true ↔ txtOk z := by
  unfold txtB txtOk
  rw [Bool.and_eq_true, decide_eq_true_eq, List.all_eq_true]
  refine and_congr_right fun _ => forall_congr' fun c => forall_congr' fun _ => ?_
  unfold signB
  rw [Bool.and_eq_true, decide_eq_true_eq, decide_eq_true_eq]
theorem keyB_int {r : Nat} {i : Int} : keyB r (.int i) = numB i := by cases r <;> rfl
theorem keyB_str {r : Nat} {z : Str} : keyB r (.str z) = txtB z := by cases r <;> rfl
theorem keyB_iff : ∀ {r : Nat} {d : PyData}, keyB r d = true ↔ isK r d
  | r, .int i => by rw [keyB_int, isK_int, numB_iff]
  | r, .str z => by rw [keyB_str, isK_str, txtB_iff]
  | 0, .tuple ds => by simp [keyB, isK]
  | r + 1, .tuple ds => by
    rw [isK_tup]
    show (decide (ds.length ≤ 4) && ds.all (keyB r)) = true ↔ _
    rw [Bool.and_eq_true, decide_eq_true_eq, List.all_eq_true]
    exact ⟨fun h => ⟨h.1, fun d hd => keyB_iff.mp (h.2 d hd)⟩, fun h => ⟨h.1, fun d hd => keyB_iff.mpr (h.2 d hd)⟩⟩
  | r, .none => by cases r <;> simp [keyB, isK]
  | r, .bool b => by cases r <;> simp [keyB, isK]
  | r, .list b => by cases r <;> simp [keyB, isK]
  | r, .dict b => by cases r <;> simp [keyB, isK]
theorem keyB_of {r : Nat} {d : PyData} (h : isK r d) : keyB r d = true := keyB_iff.mpr h

theorem one_lt {c d : Nat} : ([c] < [d]) ↔ c < d := by
  rw [List.cons_lt_cons_iff]
  exact ⟨fun h => h.elim id fun h => absurd h.2 (List.lt_irrefl _), .inl⟩
theorem blank_cps : (Str.ofString " ").cps.toList = [32] := by decide +kernel
theorem tilde_cps : (Str.ofString "~").cps.toList = [126] := by decide +kernel
theorem sg_lo (c : Nat) : (!decide ((⟨#[c]⟩ : Str).cps.toList < (Str.ofString " ").cps.toList)) = decide (32 ≤ c) := by
  rw [blank_cps, Bool.eq_iff_iff, Bool.not_eq_true', decide_eq_false_iff_not, decide_eq_true_eq]
  show ¬ ([c] < [32]) ↔ _
  rw [one_lt]; omega
theorem sg_hi (c : Nat) : (!decide ((Str.ofString "~").cps.toList < (⟨#[c]⟩ : Str).cps.toList)) = decide (c ≤ 126) := by
  rw [tilde_cps, Bool.eq_iff_iff, Bool.not_eq_true', decide_eq_false_iff_not, decide_eq_true_eq]
  show ¬ ([126] < [c]) ↔ _
  rw [one_lt]; omega
theorem all_map {α : Type} (f : α → Bool) (l : List α) : (l.map f).all id = l.all f := by rw [List.all_map]; rfl
mutual
/-- texts within are of a size that the machine holds -/
def txtSmall : PyData → Prop
  | .str z => z.length ≤ 100000 ∧ PyData.strOk z = true
  | .tuple ds => txtSmallAll ds
  | .none => True
  | .bool _ => True
  | .int _ => True
  | .list _ => True
  | .dict _ => True
def txtSmallAll : List PyData → Prop
  | [] => True
  | d :: ds => txtSmall d ∧ txtSmallAll ds
end
theorem txtSmallAll_mem : ∀ {ds : List PyData}, txtSmallAll ds → ∀ d ∈ ds, txtSmall d
  | d :: ds, h, e, he => by
    rcases List.mem_cons.mp he with rfl | he
    · exact h.1
    · exact txtSmallAll_mem h.2 e he
theorem txtSmallAll_of : ∀ {ds : List PyData}, (∀ d ∈ ds, txtSmall d) → txtSmallAll ds
  | [], _ => trivial
  | d :: ds, h => ⟨h d (List.mem_cons_self ..), txtSmallAll_of fun e he => h e (List.mem_cons_of_mem _ he)⟩
theorem isK_small : ∀ {r : Nat} {d : PyData}, isK r d → txtSmall d
  | r, d, h => by
    rcases isK_cases h with ⟨i, rfl, _⟩ | ⟨z, rfl, h3⟩ | ⟨r1, ds, rfl, rfl, _, h2⟩
    · trivial
    · exact ⟨Nat.le_trans h3.1 (by decide), txt_strOk h3.2⟩
    · exact txtSmallAll_of fun e he => isK_small (h2 e he)
/-! ### a depth as a number -/
def deepK : PyData → Int := fun d => (d.depth : Int)

/-! ### a walk over a text, in a comprehension -/
section
variable {K : PySem.W.Frag} {σ : L2.St} {H : Hp} {tt : TT} {te : TE} {Q : VK} {x y v : V} {D : Ends}
theorem x_iStr {R : It → Hp → Prop} (q : te σ H fun x H1 => ∃ z, x = .str z ∧ R (Its z) H1) : iStr te σ H R := q
theorem x_isStr {z : Str} {R : Str → Prop} (q : R z) : ∃ w, V.str z = .str w ∧ R w := ⟨z, rfl, q⟩
theorem x_lcS {z : Str} {g : TG} {vs : List Nat} {DD : Addr} {Qd : Hp → Prop} (Pv : Nat → Hp → Prop) (h0 : Pv 0 (upd H DD (.lst [])))
    (hs : ∀ i c H, z.cps.toList[i]? = some c → Pv i H → LcT g tt te vs σ DD (.str ⟨#[c]⟩) (Pv (i + 1)) H) (hd : ∀ H, Pv z.cps.toList.length H → Qd H) : LcG (Its z) g tt te vs σ H DD Qd := by
  refine ⟨fun i m H => m = z.cps.size - i ∧ i ≤ z.cps.size ∧ Pv i H, ⟨z.cps.size, by simp, Nat.zero_le _, h0⟩, ?_⟩
  rintro i m H ⟨rfl, hi, p⟩
  by_cases hlt : i < z.cps.size
  · refine .inr ⟨hlt, Pv (i + 1), fun H' p' => ⟨z.cps.size - (i + 1), by omega, rfl, hlt, p'⟩, fun x H' yy => ?_⟩
    obtain ⟨rfl, c, hc, rfl⟩ := yy
    exact hs i c _ (by rw [Array.getElem?_toList]; exact hc) p
  · have e : i = z.cps.toList.length := by rw [Array.length_toList]; omega
    refine .inl ⟨by show z.cps.size ≤ i; omega, hd H (e ▸ p)⟩
theorem x_forS {z : Str} {g : TG} {tb : TS} (Pv : Nat → L2.St → Hp → Prop) (h0 : Pv 0 σ H)
    (hs : ∀ i c σ H, z.cps.toList[i]? = some c → Pv i σ H → g (.str ⟨#[c]⟩) σ H fun σ2 H2 => tb { D with nx := Pv (i + 1), ct := Pv (i + 1), bk := D.nx } σ2 H2) (hd : ∀ σ H, Pv z.cps.toList.length σ H → D.nx σ H) : ForG (Its z) g tb D σ H := by
  refine ⟨fun i m σ H => m = z.cps.size - i ∧ i ≤ z.cps.size ∧ Pv i σ H, ⟨z.cps.size, by simp, Nat.zero_le _, h0⟩, ?_⟩
  rintro i m σ H ⟨rfl, hi, p⟩
  by_cases hlt : i < z.cps.size
  · refine .inr ⟨hlt, Pv (i + 1), fun σ' H' p' => ⟨z.cps.size - (i + 1), by omega, rfl, hlt, p'⟩, fun x H' yy => ?_⟩
    obtain ⟨rfl, c, hc, rfl⟩ := yy
    exact hs i c σ _ (by rw [Array.getElem?_toList]; exact hc) p
  · have e : i = z.cps.toList.length := by rw [Array.length_toList]; omega
    refine .inl ⟨by show z.cps.size ≤ i; omega, hd σ H (e ▸ p)⟩
theorem x_isB {a b : Bool} (q : Q (.bl (decide (a = b))) H) : rIsB (.bl a) (.bl b) H Q := ⟨a, b, rfl, rfl, q⟩
theorem x_notB {a b : Bool} (q : Q (.bl (!decide (a = b))) H) : rNotB (.bl a) (.bl b) H Q := ⟨a, b, rfl, rfl, q⟩
end

/-! ### max(numbers, default=number) -/
def rMaxDef (K : PySem.W.Frag) : List V → List V → Hp → VK → Prop := fun vs zs H Q => ∃ (a : Addr) (ns : List Int) (d : Int), vs = [.ref a] ∧ zs = [.int d] ∧ SqL K H a (ns.map V.int) ∧
  (ns = [] → Q (.int d) H) ∧ (∀ m : Int, m ∈ ns → (∀ j ∈ ns, j ≤ m) → Q (.int m) H)
theorem maxOf_mem (x : Int) : ∀ xs : List Int, PySem.W.maxOf x xs ∈ x :: xs ∧ ∀ j ∈ x :: xs, j ≤ PySem.W.maxOf x xs := fun xs => by
  induction xs generalizing x with
  | nil => exact ⟨List.mem_cons_self .., fun j hj => by rw [List.mem_singleton.mp hj]; exact Int.le_refl _⟩
  | cons y ys ih =>
    have e : PySem.W.maxOf x (y :: ys) = PySem.W.maxOf (if decide (x < y) = true then y else x) ys := rfl
    rw [e]
    obtain ⟨h1, h2⟩ := ih (if decide (x < y) = true then y else x)
    have h3 := h2 _ (List.mem_cons_self ..)
    constructor
    · rcases List.mem_cons.mp h1 with h | h
      · rw [h]; split <;> simp
      · exact List.mem_cons_of_mem _ (List.mem_cons_of_mem _ h)
    · intro j hj
      rcases List.mem_cons.mp hj with rfl | hj
      · refine Int.le_trans ?_ h3
        split
        · exact Int.le_of_lt (of_decide_eq_true (by assumption))
        · exact Int.le_refl _
      · rcases List.mem_cons.mp hj with rfl | hj
        · refine Int.le_trans ?_ h3
          split
          · exact Int.le_refl _
          · rename_i h; have := of_decide_eq_false (Bool.eq_false_iff.mpr h); omega
        · exact h2 j (List.mem_cons_of_mem _ hj)
theorem dpAll_ints {K : PySem.W.Frag} {H : Hp} : ∀ ns : List Int, DpAll K H (ns.map V.int) (ns.map PySem.W.Datum.toD)
  | [] => .nil
  | n :: ns => .cons (.int n) (dpAll_ints ns)
theorem cr_maxDef {X : Cx} (hc : X.calm = true) (hu : X.A.units + 64 < cLine) : CallRK X (.builtin "max") [Str.ofString "default"] (rMaxDef X.K) := by
  intro pins s σ H vs zs us ws Q I r rz h
  obtain ⟨a, ns, d, rfl, rfl, hs, q0, q1⟩ := h
  obtain rfl := Vals.ref1 r
  obtain ⟨w1, rfl, e1⟩ := vals1 rz
  obtain ⟨t, rfl⟩ := e1
  obtain ⟨its, rv, hl, _⟩ := I.list hs
  obtain ⟨as, hR⟩ := Dp.readsAll I _ _ _ (dpAll_ints (K := X.K) (H := H) ns) rv
  refine PySem.W.max_list_datum_default (α := Int) (xs := ns) (I.ok.hd hc) hl.isList ⟨as, hR⟩ ?_ (fun e h' tk k => ?_) fun y ys i v h' tk e hi hv k => ?_
  · show X.A.units + 1 + 0 < cLine
    omega
  · exact ⟨.int d, H, I.kept k, ⟨_, rfl⟩, q0 e⟩
  · obtain ⟨bs, hv⟩ := hv
    obtain ⟨m1, m2⟩ := maxOf_mem y ys
    generalize PySem.W.maxOf y ys = m at hv m1 m2
    have e2 : ∃ t, v = .int m t := by
      cases hv with
      | int => exact ⟨_, rfl⟩
    obtain ⟨t2, rfl⟩ := e2
    exact ⟨.int m, H, I.kept k, ⟨_, rfl⟩, q1 m (e ▸ m1) (e ▸ m2)⟩
section
variable {K : PySem.W.Frag} {σ : L2.St} {H : Hp} {Q : VK}
theorem x_ckw {r : List V → List V → Hp → VK → Prop} {t tk : TA} (q : t σ H fun vs H1 => tk σ H1 fun zs H2 => r vs zs H2 Q) : tCKw r t tk σ H Q := q
theorem x_maxDef {a : Addr} {ns : List Int} {d : Int} (h : SqL K H a (ns.map V.int)) (q0 : ns = [] → Q (.int d) H) (q1 : ∀ m : Int, m ∈ ns → (∀ j ∈ ns, j ≤ m) → Q (.int m) H) : rMaxDef K [.ref a] [.int d] H Q := ⟨a, ns, d, rfl, rfl, h, q0, q1⟩
def rInsert : V → List V → Hp → VK → Prop := fun x vs H Q => ∃ (l : Addr) (xs : List V) (i : Int) (y : V), x = .ref l ∧ vs = [.int i, y] ∧ H l = some (.lst xs) ∧ xs.length < sizeLine ∧ 0 ≤ i ∧ i < 2 ^ 63 ∧
    Q .non (upd H l (.lst (xs.take i.toNat ++ [y] ++ xs.drop i.toNat)))
theorem m_insert {X : Cx} : MtR X "list.insert" rInsert := mt_insert
theorem x_insert {l : Addr} {xs : List V} {i : Int} {y : V} (h : H l = some (.lst xs)) (hs : xs.length ≤ 100000) (hi : 0 ≤ i ∧ i < 2 ^ 63) (q : Q .non (upd H l (.lst (xs.take i.toNat ++ [y] ++ xs.drop i.toNat)))) :
    rInsert (.ref l) [.int i, y] H Q := ⟨l, xs, i, y, rfl, rfl, h, Nat.lt_of_le_of_lt hs (by decide), hi.1, hi.2, q⟩
end
theorem pickD {H : Hp} {xs : List V} {ds : List PyData} {r : Int} (h : DtAll H xs ds) (h0 : 0 ≤ r) (h1 : r < xs.length) : ∃ v d, atI xs r = some v ∧ Dt H v d ∧ d ∈ ds := by
  obtain ⟨v, e1, e2⟩ := atI_ex (xs := xs) h0 h1
  obtain ⟨d, d1, d2⟩ := h.get e2
  exact ⟨v, d, e1, d2, List.mem_of_getElem? d1⟩
/-- the first r items -/
theorem cut_to {xs : List V} {r : Int} (h0 : 0 ≤ r) : cutV xs none (some r) = xs.take r.toNat := by
  have e : HT.sIx xs.length xs.length (some r) = min r.toNat xs.length := by
    show (if r < 0 then _ else min r.toNat xs.length) = _
    rw [if_neg (by omega)]
  rw [cutV_eq, HT.sIx_none, e, List.drop_zero, Nat.sub_zero]
  by_cases h : r.toNat ≤ xs.length
  · rw [Nat.min_eq_left h]
  · rw [Nat.min_eq_right (by omega), List.take_of_length_le (Nat.le_refl _), List.take_of_length_le (by omega)]
mutual
theorem TgS.dt {S : Addr → Prop} {H : Hp} : ∀ (r : Nat) (d : PyData) (v : V), isK r d → TgS S H v d → Dt H v d
  | r, .int i, _, _, h => by cases h; exact .int i
  | r, .str i, _, _, h => by cases h; exact .str i
  | r + 1, .tuple ds, _, k, h => by
    cases h with
    | tup e hs => exact .tup e (TgAllS.dt r ds _ k.2 hs)
  | 0, .tuple ds, _, k, _ => k.elim
  | r, .none, _, k, _ => by cases r <;> cases k
  | r, .bool _, _, k, _ => by cases r <;> cases k
  | r, .list _, _, k, _ => by cases r <;> cases k
  | r, .dict _, _, k, _ => by cases r <;> cases k
theorem TgAllS.dt {S : Addr → Prop} {H : Hp} : ∀ (r : Nat) (ds : List PyData) (vs : List V), (∀ d ∈ ds, isK r d) → TgAllS S H vs ds → DtAll H vs ds
  | r, [], _, _, h => by cases h; exact .nil
  | r, d :: ds, _, k, h => by
    cases h with
    | cons h1 h2 => exact .cons (TgS.dt r d _ (k d (List.mem_cons_self ..)) h1) (TgAllS.dt r ds _ (fun e he => k e (List.mem_cons_of_mem _ he)) h2)
end
theorem pickT {S : Addr → Prop} {H : Hp} {xs : List V} {ds : List PyData} {r : Int} (h : TgAllS S H xs ds) (h0 : 0 ≤ r) (h1 : r < xs.length) : ∃ v d, atI xs r = some v ∧ TgS S H v d ∧ d ∈ ds := by
  obtain ⟨v, e1, e2⟩ := atI_ex (xs := xs) h0 h1
  obtain ⟨d, d1, d2⟩ := h.get e2
  exact ⟨v, d, e1, d2, List.mem_of_getElem? d1⟩
/-! ### texts told again and again; parts of texts -/
def rMulS : R2 := fun x y H Q => ∃ (z : Str) (n : Int), x = .str z ∧ y = .int n ∧ z.length ≤ 100 ∧ -(2 ^ 63) ≤ n ∧ n ≤ 1000 ∧ ∀ w : Str, (w.length : Int) = z.length * (if n < 0 then 0 else n) → (∀ c ∈ w.cps.toList, c ∈ z.cps.toList) → Q (.str w) H
theorem reps_mem (x : Array Nat) : ∀ (k : Nat) (acc : Array Nat) (c : Nat), c ∈ ((List.replicate k x).foldl (· ++ ·) acc).toList → c ∈ acc.toList ∨ c ∈ x.toList
  | 0, _, _, h => .inl h
  | k + 1, acc, c, h => by
    rw [List.replicate_succ, List.foldl_cons] at h
    rcases reps_mem x k _ c h with h | h
    · rw [Array.toList_append] at h
      exact (List.mem_append.mp h)
    · exact .inr h
theorem mul_mem {z : Str} {n : Int} {c : Nat} (h : c ∈ (Txt.mul z n).cps.toList) : c ∈ z.cps.toList := by
  unfold Txt.mul at h
  split at h
  · cases h
  · split at h
    · exact h
    · rcases reps_mem z.cps _ _ c h with h | h
      · cases h
      · exact h
theorem o_mulS {X : Cx} : OpR X (binaryOp .Mult) rMulS := by
  intro pins s σ H x y v u Q I rx ry h
  obtain ⟨z, n, rfl, rfl, hz, h0, h1, q⟩ := h
  obtain ⟨t, rfl⟩ := rx
  obtain ⟨t2, rfl⟩ := ry
  refine SB.mul (mulOk_of 100 1000 hz (by omega) h0 (by decide) (by decide)) fun t' k => ⟨.str (Txt.mul z n), H, I.tok _, ⟨_, rfl⟩, q _ ?_ fun c hc => mul_mem hc⟩
  have e := len_mul z n
  by_cases hn : n < 0
  · rw [decide_eq_true hn, if_pos rfl] at e; rw [if_pos hn]; exact e
  · rw [decide_eq_false hn, if_neg Bool.false_ne_true] at e; rw [if_neg hn]; exact e
theorem x_mulS {H : Hp} {Q : VK} {z : Str} {n : Int} (hz : z.length ≤ 100) (h : -(2 ^ 63) ≤ n ∧ n ≤ 1000) (q : ∀ w : Str, (w.length : Int) = z.length * (if n < 0 then 0 else n) → (∀ c ∈ w.cps.toList, c ∈ z.cps.toList) → Q (.str w) H) : rMulS (.str z) (.int n) H Q := ⟨z, n, rfl, rfl, hz, h.1, h.2, q⟩
theorem x_slZ {H : Hp} {Q : VK} {z : Str} {lo hi : Option Int} (h : z.length ≤ sizeLine) (q : Q (.str (cutS z lo hi)) H) : rSlS (.str z) lo hi H Q := ⟨z, rfl, h, q⟩
theorem cutS_mem {z : Str} {lo hi : Option Int} {c : Nat} (h : c ∈ (cutS z lo hi).cps.toList) : c ∈ z.cps.toList := by
  have h2 : c ∈ (z.cps.toList.drop (HT.sIx z.length 0 lo)).take (HT.sIx z.length z.length hi - HT.sIx z.length 0 lo) := h
  exact List.mem_of_mem_drop (List.mem_of_mem_take h2)
theorem strOk_of {z : Str} (h : ∀ c ∈ z.cps.toList, c < 1114112) : PyData.strOk z = true := by
  unfold PyData.strOk
  rw [Array.all_eq_true_iff_forall_mem]
  intro c hc
  exact decide_eq_true (h c (Array.mem_toList_iff.mpr hc))
theorem strOk_mem {z : Str} (h : PyData.strOk z = true) : ∀ c ∈ z.cps.toList, c < 1114112 := by
  unfold PyData.strOk at h
  rw [Array.all_eq_true_iff_forall_mem] at h
  exact fun c hc => of_decide_eq_true (h c (Array.mem_toList_iff.mp hc))
theorem strOk_app {z w : Str} (h : PyData.strOk z = true) (k : PyData.strOk w = true) : PyData.strOk (z ++ w) = true := strOk_of fun c hc => by
  rw [str_app] at hc
  exact (List.mem_append.mp hc).elim (strOk_mem h c) (strOk_mem k c)
theorem x_dnew {σ : L2.St} {H : Hp} {Q : VK} (q : ∀ p, Fresh H p → Q (.ref p) (upd H p (.dK []))) : tDNewK σ H Q := q
theorem x_mulTup {P : Prop} (q : P) : P := q
theorem x_slT {K : PySem.W.Frag} {S : Addr → Prop} {H : Hp} {Q : VK} {a : Addr} {xs : List V} {ds : List PyData} {hi : Option Int} (ha : H a = some (.tup xs)) (da : TgAllS S H xs ds)
    (q : ∀ p H' n, Fr Non H H' → TgS S H' (.ref p) (.tuple (ds.take n)) → Q (.ref p) H') : rSlA K (.ref a) none hi H Q := by
  refine ⟨a, xs, rfl, SqT.of ha, fun _ => ?_, fun _ p n => ?_⟩
  · refine q a H ds.length (Fr.refl _) ?_
    rw [List.take_length]
    exact .tup ha da
  · exact q p _ (HT.sIx xs.length xs.length hi) (Fr.new (Fr.refl _) n) (.tup upd_same (by rw [cutV_eq, HT.sIx_none, List.drop_zero, Nat.sub_zero]; exact (da.take _).new n))
theorem x_catT {K : PySem.W.Frag} {S : Addr → Prop} {H : Hp} {Q : VK} {a b : Addr} {xs ys : List V} {ds es : List PyData} (ha : H a = some (.tup xs)) (hb : H b = some (.tup ys)) (da : TgAllS S H xs ds) (db : TgAllS S H ys es) (hz : xs.length + ys.length ≤ 100000)
    (q : ∀ p H', Fr Non H H' → TgS S H' (.ref p) (.tuple (ds ++ es)) → Q (.ref p) H') : rCatA K (.ref a) (.ref b) H Q := by
  refine x_catA (SqT.of ha) (SqT.of hb) hz (fun e => ?_) (fun _ e => ?_) (fun _ _ p n => ?_)
  · subst e; cases da; exact q b H (Fr.refl _) (.tup hb db)
  · subst e; cases db; rw [List.append_nil] at q; exact q a H (Fr.refl _) (.tup ha da)
  · exact q p _ (Fr.new (Fr.refl _) n) (.tup upd_same (TgAllS.app (da.new n) (db.new n)))
theorem atI_last {α : Type} {xs : List α} {x : α} (h : xs.getLast? = some x) : atI xs (-1) = some x := by
  have hn : xs ≠ [] := fun e => by subst e; cases h
  have hl : 0 < xs.length := List.length_pos_iff.mpr hn
  unfold atI ixN
  rw [if_neg (by decide), if_pos (by omega)]
  show xs[((-1 : Int) + (xs.length : Int)).toNat]? = some x
  have e : ((-1 : Int) + (xs.length : Int)).toNat = xs.length - 1 := by omega
  rw [e, ← List.getLast?_eq_getElem?, h]
theorem atI0 {α : Type} (v : α) (vs : List α) : atI (v :: vs) 0 = some v := by
  unfold atI ixN
  rw [if_pos (by decide), if_pos (by simp only [List.length_cons]; omega)]
  rfl
theorem DtAll.head {H : Hp} {xs : List V} {ds : List PyData} {d : PyData} (h : DtAll H xs ds) (e : ds.head? = some d) : ∃ v, atI xs 0 = some v ∧ Dt H v d := by
  cases h with
  | nil => cases e
  | cons h1 h2 => cases e; exact ⟨_, atI0 _ _, h1⟩
theorem DtAll.last {H : Hp} {xs : List V} {ds : List PyData} {d : PyData} (h : DtAll H xs ds) (e : ds.getLast? = some d) : ∃ v, atI xs (-1) = some v ∧ Dt H v d := by
  have hl := h.length
  rw [List.getLast?_eq_getElem?] at e
  have hlt : ds.length - 1 < ds.length := (List.getElem?_eq_some_iff.mp e).1
  have hx : ds.length - 1 < xs.length := by omega
  have e2 := List.getElem?_eq_getElem hx
  obtain ⟨d', e3, e4⟩ := h.get e2
  rw [e] at e3
  cases e3
  refine ⟨xs[ds.length - 1], atI_last ?_, e4⟩
  rw [List.getLast?_eq_getElem?, hl, e2]
end Tw

/-! TwE: refusals: raise, try, isinstance of what was caught. -/
namespace Tw
open PySem PySem.Spec PyProof.Rows L2
/-- the address that a global class stands at -/
def clA (mg : Str → Option Value) (x : Str) : Addr := match mg x with
  | some (.ref a) => a
  | _ => 0
theorem clA_of {mg : Str → Option Value} {x : Str} {a : Addr} (h : mg x = some (.ref a)) : clA mg x = a := by unfold clA; rw [h]
/-- a class that is named -/
structure ClsTX (K : PySem.W.Frag) (mg : Str → Option Value) (x : Str) : Prop where
  m : mg x = some (.ref (clA mg x))
/-- a refusal without a field -/
structure ExcTX (K : PySem.W.Frag) (mg : Str → Option Value) (x : Str) (bm : List Value) (new : String) : Prop where
  m : mg x = some (.ref (clA mg x))
  kp : PySem.W.keepIn K (.ref (clA mg x)) = true
  ex : PySem.W.excIn K (clA mg x) bm new = true
  sb : PySem.W.subIn K (.ref (clA mg x)) (.type "BaseException") = some true
  ty : PySem.W.typeIn K (.ref (clA mg x)) = some (.type "type")
section
variable {X : Cx} {C : Addr}
/-- C() -/
theorem pmk_own0 {bmB : List Value} {B newId initId : String} {x : Str} {p pos : Pos} (F : ExcBaseFacts B newId initId bmB) (q : PySem.W.excIn X.K C bmB newId = true) (gC : X.mg x = some (.ref C)) (kC : PySem.W.keepIn X.K (.ref C) = true) (r : Raises X (.ref C)) (hg : Gl X x)
    (hdb : (x == ("__debug__" : Str)) = false := by decide) : PMk X (.Call (.Name x p) [] [] pos) (fun _ H Q => Q (.ref C) none H) := by
  intro pins s σ H Q I h
  refine wpAny_Call_Name_kw (ld_glob I hg gC ?_ hdb)
  refine PySem.W.callWith_K0 (f := .ref C) I.kIn kC ?_
  show wpAny _ _ (call (.ref C) []) _ _ _
  obtain ⟨bm, N, nm, qn, bs, hdct, sn, sub, ab, col, dd, k0, k1, k2, k3, k5, mN, hC, hN, hni, T⟩ := exc_obj I.kIn q
  refine wpAny_call_exc_subT F T hC hN hni (fun h' e hm => ?_) (Nat.zero_le _)
  exact mk_of I hm r h (I.hok.gone hm.new)
/-- raise C() -/
def tRaise0 (W : WX) (C : Addr) : TS := fun _ σ H => W (.ref C) none σ H
theorem ps_raise0 {W : WX} {e : Expr} {pos : Pos} (hc : X.calm = true) (tk : Takes X W) (he : PMk X e (fun _ H Q => Q (.ref C) none H)) : PS X (.Raise (some e) none pos) (tRaise0 W C) := ps_raise hc tk he
theorem x_raise0 {E : XK} {D : Ends} {σ : L2.St} {H : Hp} (q : E (.ref C) none H) : tRaise0 (fun cls d _ H => E cls d H) C D σ H := q
/-- a call within a try -/
def tCalS (sp : Sp) (W : WX) (t : TA) : TE := fun σ H Q => t σ H fun vs H1 => sp vs H1 Q (WE W σ)
theorem pcallX {k j : Nat} {x : Str} {ps : List Str} {sp : Sp} {p pos : Pos} {e : Expr} {es : List Expr} {t : TA} {W : WX} (c : CalX X.prog X.w X.K X.mg X.base k x ps sp) (hr : Room j X.A) (hk : k ≤ j) (hg : Gl X x) (tk : Takes X W) (ha : PA X (e :: es) t)
    (hdb : (x == ("__debug__" : Str)) = false := by decide) (he : starEach (e :: es) X.env = (false, eval e X.env) :: starEach es X.env := by rfl) (hpl : (backTo pos (starEach es X.env)).any (·.1) = false := by rfl) :
    PE X (.Call (.Name x p) (e :: es) [] pos) (tCalS sp W t) := by
  obtain ⟨f, fd, F, hm, kp, b⟩ := c.ex
  exact pe_callS F (hr.mono hk) hg hm kp b (fun σ => passAt tk σ) ha hdb he hpl
theorem x_calS {σ : L2.St} {H : Hp} {Q : VK} {sp : Sp} {W : WX} {tr : TA} (q : tr σ H fun vs H1 => sp vs H1 Q (WE W σ)) : tCalS sp W tr σ H Q := q
/-- isinstance of what the suite holds -/
def rIsX (K : PySem.W.Frag) (a : Addr) (cls : Value) (d : Option Addr) : List V → Hp → VK → Prop := fun xs H Q => ∃ (D : Addr) (c : V) (cv : Value) (b : Bool), cls = .ref D ∧ d = none ∧ ExcC K D ∧ xs = [.ref a, c] ∧ ClsV c cv ∧ PySem.W.kitOne K (.ref D) cv = some b ∧ Q (.bl b) H
theorem call_isX {a : Addr} {cls : Value} {d : Option Addr} {oe : Obj} {pn : List (Addr × Obj)} (hz : Zc cls d oe) (hf : ∃ vs, oe.data = .fields vs) : CallR (X.suite a ((a, oe) :: pn)) (.builtin "isinstance") (rIsX X.K a cls d) := by
  intro pins s σ H xs us Q I r h
  obtain ⟨D, c, cv, b, rfl, rfl, hC, rfl, hv, e, q⟩ := h
  exact call_isE hC hz hf pins s σ H _ us Q I r ⟨c, cv, b, rfl, fun u ru => hv.eq ru, e, q⟩
def rIsXT (K : PySem.W.Frag) (a : Addr) (cls : Value) (d : Option Addr) : List V → Hp → VK → Prop := fun xs H Q => ∃ (D tp : Addr) (cs : List V) (us : List Value) (b : Bool), cls = .ref D ∧ d = none ∧ ExcC K D ∧ xs = [.ref a, .ref tp] ∧ H tp = some (.tup cs) ∧ Paired ClsV cs us ∧ PySem.W.kitAny K (.ref D) us = some b ∧ Q (.bl b) H
theorem call_isXT {a : Addr} {cls : Value} {d : Option Addr} {oe : Obj} {pn : List (Addr × Obj)} (hz : Zc cls d oe) (hf : ∃ vs, oe.data = .fields vs) : CallR (X.suite a ((a, oe) :: pn)) (.builtin "isinstance") (rIsXT X.K a cls d) := by
  intro pins s σ H xs us Q I r h
  obtain ⟨D, tp, cs, ws, b, rfl, rfl, C, rfl, hT, k, e, q⟩ := h
  obtain ⟨u1, u2, rfl, r1, r2⟩ := vals2 r
  cases (show u2 = Value.ref tp from r2)
  cases (show u1 = Value.ref a from r1)
  obtain ⟨_, its, rv, o, h1, h2, n, h3⟩ := (show ObjOk X.prog X.w H s.heap tp (.tup cs) from I.hok tp _ hT)
  have e3 := ClsV.all k rv
  subst e3
  obtain ⟨oc, od, dt, sl⟩ := o
  simp only at h2 h3
  subst h2 h3
  obtain ⟨hget, _⟩ := I.pin (a, oe) (List.mem_append.mpr (.inl List.mem_cons_self))
  obtain ⟨vs, hv⟩ := hf
  have J : PySem.W.InstAt s.heap a oe D none := by
    obtain ⟨oc, od, oda, osl⟩ := oe
    obtain ⟨h1, h2⟩ := hz
    dsimp only at h1 h2 hv
    subst h1 h2 hv
    exact ⟨hget, rfl, rfl, trivial⟩
  exact PySem.W.kia_tup (PySem.W.handS_kitx_exc C.hg C.hk C.hs C.hd C.ha C.hn C.ht C.hm) I.kIn J h1 e (fun z => nomatch z) fun tk => ⟨.bl b, H, I.kept (t' := tk) fun _ _ z => z, rfl, q⟩
theorem x_isX {K : PySem.W.Frag} {a D : Addr} {c : V} {cv : Value} {b : Bool} {H : Hp} {Q : VK} (hC : ExcC K D) (hv : ClsV c cv) (e : PySem.W.kitOne K (.ref D) cv = some b) (q : Q (.bl b) H) : rIsX K a (.ref D) none [.ref a, c] H Q := ⟨D, c, cv, b, rfl, rfl, hC, rfl, hv, e, q⟩
theorem x_isXT {K : PySem.W.Frag} {a D tp : Addr} {cs : List V} {us : List Value} {b : Bool} {H : Hp} {Q : VK} (hC : ExcC K D) (hT : H tp = some (.tup cs)) (hv : Paired ClsV cs us) (e : PySem.W.kitAny K (.ref D) us = some b) (q : Q (.bl b) H) : rIsXT K a (.ref D) none [.ref a, .ref tp] H Q := ⟨D, tp, cs, us, b, rfl, rfl, hC, rfl, hT, hv, e, q⟩
end
/-- try .. except C as n (n in slot i) -/
def tTryAs (K : PySem.W.Frag) (c : Value) (i : Nat) (ts : Addr → Value → Option Addr → TS) (Wout : WX) (tb : WX → TS) : TS := fun D σ H => tb (wAs K c i ts Wout D) D σ H
theorem ps_tryAs {X : Cx} {x n : Str} {c : Value} {i : Nat} {body suite : List Stmt} {b₀ : Stmt} {np pos pos' : Pos} {tb : WX → TS} {ts : Addr → Value → Option Addr → TS} {Wout : WX}
    (hs : X.stack = X.env :: X.outer) (hf : X.env.frame = some X.env.locals) (hN : X.N.Nodup) (hi : X.N[i]? = some n) (hln : X.env.kindOf n = some .local) (hc : Names X x c) (tk : Takes X Wout)
    (hb : ∀ (W : WX) (pn : List (Addr × Obj)) (xe : Value → Shared → Prop), Takes (X.tr pn xe) W → PassesOwn (model X.prog X.w) X.A X.env xe → PSs (X.tr pn xe) body (tb W))
    (hsu : ∀ (a : Addr) (oe : Obj) (cls : Value) (d : Option Addr) (pn : List (Addr × Obj)), Zc cls d oe → (∃ vs, oe.data = .fields vs) → PSs (X.suite a ((a, oe) :: pn)) (b₀ :: suite) (ts a cls d)) :
    PS X (.Try body [.ExceptHandler (some (.Name x np)) (some n) (b₀ :: suite) pos'] [] [] pos) (tTryAs X.K c i ts Wout tb) := ps_try_as hs hf hN hi hln hc tk hb hsu
theorem x_tryAs {K : PySem.W.Frag} {c : Value} {i : Nat} {ts : Addr → Value → Option Addr → TS} {Wout : WX} {tb : WX → TS} {D : Ends} {σ : L2.St} {H : Hp} (q : tb (wAs K c i ts Wout D) D σ H) : tTryAs K c i ts Wout tb D σ H := q
/-- the clause takes it -/
theorem x_wAsT {K : PySem.W.Frag} {c cls : Value} {d : Option Addr} {i : Nat} {ts : Addr → Value → Option Addr → TS} {Wout : WX} {D : Ends} {σ : L2.St} {H : Hp} (h : PySem.W.exmOne K cls c = some true)
    (q : ∀ a, Fresh H a → ts a cls d { nx := fun σ' H' => D.nx (σ'.set i none) H', rt := D.rt, bk := fun σ' H' => D.bk (σ'.set i none) H', ct := fun σ' H' => D.ct (σ'.set i none) H' } (σ.set i (some (.ref a))) H) :
    WE (wAs K c i ts Wout D) σ cls d H := ⟨true, h, fun _ a ha => q a ha, fun e => nomatch e⟩
def excCB (K : PySem.W.Frag) (D : Addr) : Bool := decide (PySem.W.findIn K (.ref D) "__getattribute__" = some (some (.builtin "BaseException.__getattribute__"))) && (decide (PySem.W.findIn K (.ref D) "__getattr__" = some none) &&
  (decide (PySem.W.subIn K (.ref D) (.type "BaseException") = some true) && (PySem.W.hasDictIn K D && (decide (PySem.W.findIn K (.ref D) "__class__" = some (some (.builtin "object.__class__"))) &&
  (decide (PySem.W.specialIn K (.builtin "object.__class__") "__get__" = some (some (.builtin "getset_descriptor.__get__"))) && (decide (PySem.W.takesIn K (.builtin "object.__class__") = some true) && decide (PySem.W.mroIn K D (.type "object") = some true)))))))
theorem excC_of {K : PySem.W.Frag} {D : Addr} (h : excCB K D = true) : ExcC K D := by
  unfold excCB at h
  simp only [Bool.and_eq_true, decide_eq_true_eq] at h
  obtain ⟨h1, h2, h3, h4, h5, h6, h7, h8⟩ := h
  exact ⟨h1, h2, h3, h4, h5, h6, h7, h8⟩
theorem boot_ValueError : bootBuiltins "ValueError" = some (.type "ValueError") := by decide +kernel
/-! ### a tuple, none or one time -/
theorem tuple_mul1 (l : Addr) (items : Array Value) (n : Nat) (dd : Option Addr) (sl : Array (Option Value)) (u : Tok) :
    Meets (Builtin.«tuple.__mul__» ⟨[.ref l, .int 1 u], []⟩) (fun _ R s => s.heap.get? l = some { cls := .type "tuple", dict := dd, data := .seq items n, slots := sl } ∧ R (.ok (.ret (Value.ref l))) s) :=
  .of_wp fun prog w A R s h => by
    obtain ⟨hp, g, d, tk, os⟩ := s
    obtain ⟨hl, h⟩ := h
    have f1 := AutoSeq1.idx_int
    wp_walk using wpAny_loadPart' hl
    repeat (first
      | (refine wpAny_ite_true (by simp) ?_; wp_walk using wpAny_loadPart' hl)
      | (refine wpAny_ite_false (by simp) ?_; wp_walk using wpAny_loadPart' hl))
    exact ⟨_, rfl, h⟩
theorem tuple_mul0 (l : Addr) (items : Array Value) (n : Nat) (dd : Option Addr) (sl : Array (Option Value)) (u : Tok) (hi : items.isEmpty = false) :
    Meets (Builtin.«tuple.__mul__» ⟨[.ref l, .int 0 u], []⟩) (fun _ R s => s.heap.get? l = some { cls := .type "tuple", dict := dd, data := .seq items n, slots := sl } ∧
      R (.ok (.ret (Value.ref s.heap.objs.size))) { s with heap := s.heap.push { cls := Value.type "tuple", data := Data.seq #[] }, toks := s.toks }) :=
  .of_wp fun prog w A R s h => by
    obtain ⟨hp, g, d, tk, os⟩ := s
    obtain ⟨hl, h⟩ := h
    have f1 := AutoSeq1.idx_int
    wp_walk using wpAny_loadPart' hl
    repeat (first
      | (refine wpAny_ite_false (by simp [hi]) ?_; wp_walk using wpAny_loadPart' hl)
      | (refine wpAny_ite_true (by simp [hi]) ?_; wp_walk using wpAny_loadPart' hl))
    exact ⟨_, rfl, h⟩
def rRep01 (K : PySem.W.Frag) : R2 := fun x y H Q => ∃ l k xs, x = .ref l ∧ y = .int k ∧ SqT K H l xs ∧ xs ≠ [] ∧ (k = 0 ∨ k = 1) ∧ (k = 0 → ∀ p, H p = none → Q (.ref p) (upd H p (.tup []))) ∧ (k = 1 → Q (.ref l) H)
theorem op_rep01 {X : Cx} : OpR X (binaryOp .Mult) (rRep01 X.K) := by
  intro pins s σ H x y v u Q I rx ry h
  obtain ⟨l, k, xs, rfl, rfl, hT, hne, hk, q0, q1⟩ := h
  cases rx
  obtain ⟨t, rfl⟩ := ry
  obtain ⟨its, r, ⟨⟨cls, dd, data, sl⟩, ho, hc, n, hd⟩, hs⟩ := I.tuple hT
  simp only at hc hd
  subst hc hd
  have hle : its.length = xs.length := r.length.symm
  have hn : its ≠ [] := fun e => hne (by
    rw [e] at hle
    exact List.eq_nil_of_length_eq_zero hle.symm)
  have hi : its.toArray.isEmpty = false := by
    cases its with
    | nil => exact absurd rfl hn
    | cons a b => rfl
  rcases hk with rfl | rfl
  · refine wpAny_binaryOp_repeat_ref (T := "tuple") (U := "int") (by decide) ⟨_, ho, rfl⟩ (fun s' => typeIs_int s' 0 t) noFill_tuple_mul F.fills_int_mul F.slot_int_rmul repeat_tuple F.slot_int_index.lookup
      (call_meets F.slot_int_rmul (typeIs_int s 0 t) F.entry_int_rmul (F.args_int_rmul_2 _ _) (int_rmul_tuple 0 t l its.toArray n dd sl)
        ⟨ho, rfl, ⟨_, ho, rfl⟩, call_meets F.slot_tuple_mul ⟨_, ho, rfl⟩ F.entry_tuple_mul (F.args_tuple_mul_2 _ _) (tuple_mul0 l its.toArray n dd sl t hi) ⟨ho, ?_⟩⟩)
    refine ⟨.ref s.heap.objs.size, _, I.laid (t' := s.toks) (o := .tup []) (fun b ob q => Heap.get?_push_of_some _ q) (Nat.le_refl _) ?_, rfl, q0 rfl _ (I.hok.fresh (Nat.le_refl _))⟩
    exact ⟨Nat.zero_le _, [], .nil, IsTup.new _ _⟩
  · refine wpAny_binaryOp_repeat_ref (T := "tuple") (U := "int") (by decide) ⟨_, ho, rfl⟩ (fun s' => typeIs_int s' 1 t) noFill_tuple_mul F.fills_int_mul F.slot_int_rmul repeat_tuple F.slot_int_index.lookup
      (call_meets F.slot_int_rmul (typeIs_int s 1 t) F.entry_int_rmul (F.args_int_rmul_2 _ _) (int_rmul_tuple 1 t l its.toArray n dd sl)
        ⟨ho, rfl, ⟨_, ho, rfl⟩, call_meets F.slot_tuple_mul ⟨_, ho, rfl⟩ F.entry_tuple_mul (F.args_tuple_mul_2 _ _) (tuple_mul1 l its.toArray n dd sl t) ⟨ho, ?_⟩⟩)
    exact ⟨.ref l, H, I, rfl, q1 rfl⟩
theorem x_rep01 {K : PySem.W.Frag} {H : Hp} {Q : VK} {l : Addr} {xs : List V} {k : Int} (h : SqT K H l xs) (hne : xs ≠ []) (hk : k = 0 ∨ k = 1) (q0 : k = 0 → ∀ p, Fresh H p → Q (.ref p) (upd H p (.tup []))) (q1 : k = 1 → Q (.ref l) H) : rRep01 K (.ref l) (.int k) H Q := ⟨l, k, xs, rfl, rfl, h, hne, hk, q0, q1⟩
end Tw

/-! TwF: labels. -/
namespace Tw
open PySem PySem.Spec PyProof.Rows L2
/-- a label: height, least key, greatest key, how many rows -/
structure Lb where
  h : Int
  lo : PyData
  hi : PyData
  n : Int
def lbD (l : Lb) : PyData := .tuple [.int l.h, l.lo, l.hi, .int l.n]
/-- rows: a list of tuples (key, value) -/
def rowD (p : PyData × PyData) : PyData := .tuple [p.1, p.2]
def lbStep (f x y : Lb) : Bool := decide (y.h = f.h) && ltK x.hi y.lo
def lbRun (f : Lb) : List Lb → Bool
  | x :: y :: r => lbStep f x y && lbRun f (y :: r)
  | _ => true
/-- they may stand in one stem -/
def lbOk : List Lb → Bool
  | [] => false
  | f :: r => decide (2 ≤ (f :: r).length) && decide ((f :: r).length ≤ 4) && lbRun f (f :: r)
theorem lbOk_len {ls : List Lb} (h : ls.length < 2 ∨ 4 < ls.length) : lbOk ls = false := by
  cases ls with
  | nil => rfl
  | cons f r =>
    show (decide (2 ≤ (f :: r).length) && decide ((f :: r).length ≤ 4) && lbRun f (f :: r)) = false
    rcases h with h | h
    · rw [decide_eq_false (by omega)]; rfl
    · rw [decide_eq_true (show 2 ≤ (f :: r).length by omega), decide_eq_false (by omega)]; rfl
theorem lbOk_run {ls : List Lb} {f : Lb} (h1 : 2 ≤ ls.length) (h2 : ls.length ≤ 4) (hf : ls.head? = some f) : lbOk ls = lbRun f ls := by
  cases ls with
  | nil => cases hf
  | cons g r =>
    cases hf
    have h1 : 2 ≤ (f :: r).length := h1
    have h2 : (f :: r).length ≤ 4 := h2
    show (decide (2 ≤ (f :: r).length) && decide ((f :: r).length ≤ 4) && lbRun f (f :: r)) = _
    rw [decide_eq_true h1, decide_eq_true h2]; rfl
theorem lb_drop {ls : List Lb} {i : Nat} {x y : Lb} (hx : ls[i]? = some x) (hy : ls[i + 1]? = some y) (f : Lb) : lbRun f (ls.drop i) = (lbStep f x y && lbRun f (ls.drop (i + 1))) := by
  obtain ⟨a1, a2⟩ := List.getElem?_eq_some_iff.mp hx
  obtain ⟨b1, b2⟩ := List.getElem?_eq_some_iff.mp hy
  rw [List.drop_eq_getElem_cons a1, List.drop_eq_getElem_cons b1, a2, b2]; rfl
theorem lb_last {ls : List Lb} {n : Nat} (h : ls.length ≤ n + 1) (f : Lb) : lbRun f (ls.drop n) = true := by
  have e : (ls.drop n).length ≤ 1 := by rw [List.length_drop]; omega
  cases hd : ls.drop n with
  | nil => rfl
  | cons a r =>
    rw [hd] at e
    cases r with
    | nil => rfl
    | cons b r => simp only [List.length_cons] at e; omega
theorem DtAll.tup4 {H : Hp} {v : V} {a b c d : PyData} (h : Dt H v (.tuple [a, b, c, d])) : ∃ (p : Addr) (u0 u1 u2 u3 : V), v = .ref p ∧ H p = some (.tup [u0, u1, u2, u3]) ∧ Dt H u0 a ∧ Dt H u1 b ∧ Dt H u2 c ∧ Dt H u3 d := by
  cases h with
  | @tup p xs _ e hx =>
  cases hx with
  | cons h0 hx =>
  cases hx with
  | cons h1 hx =>
  cases hx with
  | cons h2 hx =>
  cases hx with
  | cons h3 hx =>
  cases hx
  exact ⟨p, _, _, _, _, rfl, e, h0, h1, h2, h3⟩
def lbSum (ls : List Lb) : Int := (ls.map (·.n)).sum
def lbOver (ls : List Lb) (f l : Lb) : PyData := .tuple [.int (f.h + 1), f.lo, l.hi, .int (lbSum ls)]
theorem cut_from {xs : List V} {k : Int} (h0 : 0 ≤ k) : cutV xs (some k) none = xs.drop k.toNat := by
  have e : HT.sIx xs.length 0 (some k) = min k.toNat xs.length := by
    show (if k < 0 then _ else min k.toNat xs.length) = _
    rw [if_neg (by omega)]
  rw [cutV_eq, HT.sIx_none, e]
  by_cases h : k.toNat ≤ xs.length
  · rw [Nat.min_eq_left h, List.take_of_length_le (by rw [List.length_drop]; omega)]
  · rw [Nat.min_eq_right (by omega), List.drop_eq_nil_of_le (Nat.le_refl _), List.drop_eq_nil_of_le (by omega), List.take_nil]
end Tw

namespace Tw
open PySem L2
def top (i : Nat) : Stmt := PySem.Challenge.pw_twigmap_k29_labels_over.main.body.getD i (.Pass ⟨0, 0, 0, 0⟩)
abbrev s_law_pull : Stmt := top 16
abbrev s_law_grid : Stmt := top 20
abbrev s_law_well : Stmt := top 15
abbrev s_law_labels : Stmt := top 22
abbrev s_law_rank : Stmt := top 17
abbrev s_law_less : Stmt := top 18
abbrev s_law_due : Stmt := top 23
abbrev s_rank : Stmt := top 8
abbrev s_ahead : Stmt := top 9
abbrev s_label_over : Stmt := top 13
abbrev s_law_asked : Stmt := top 24
abbrev s_law_leaf_rows : Stmt := top 21
abbrev s_law_alike : Stmt := top 19
abbrev s_label_of_rows : Stmt := top 12
abbrev s_law : Stmt := top 25
structure TX (K : PySem.W.Frag) (mg : Str → Option Value) : Prop where
  d_law_pull : DefX K mg "_law_pull" ["_law_well_here", "_law_many"] s_law_pull
  d_law_grid : DefX K mg "_law_grid" ["_law_well_here"] s_law_grid
  d_law_well : DefX K mg "_law_well" ["_law_script", "_law_k"] s_law_well
  d_law_labels : DefX K mg "_law_labels" ["_law_well_here", "_law_grid_here"] s_law_labels
  d_law_rank : DefX K mg "_law_rank" ["_law_spot"] s_law_rank
  d_law_less : DefX K mg "_law_less" ["_law_one", "_law_other"] s_law_less
  d_law_due : DefX K mg "_law_due" ["_law_labels_here"] s_law_due
  d_rank : DefX K mg "rank" ["key"] s_rank
  d_ahead : DefX K mg "ahead" ["one", "other"] s_ahead
  d_label_over : DefX K mg "label_over" ["labels"] s_label_over
  d_law_asked : DefX K mg "_law_asked" ["_law_labels_here"] s_law_asked
  d_law_leaf_rows : DefX K mg "_law_leaf_rows" ["_law_well_here", "_law_grid_here", "_law_block"] s_law_leaf_rows
  d_law_alike : DefX K mg "_law_alike" ["_law_found", "_law_due_here"] s_law_alike
  d_label_of_rows : DefX K mg "label_of_rows" ["rows"] s_label_of_rows
  d_law : DefX K mg "law" ["_law_script"] s_law
  b_ValueError : mg "ValueError" = none
  b_abs : mg "abs" = none
  b_all : mg "all" = none
  b_bool : mg "bool" = none
  b_int : mg "int" = none
  b_isinstance : mg "isinstance" = none
  b_len : mg "len" = none
  b_list : mg "list" = none
  b_max : mg "max" = none
  b_min : mg "min" = none
  b_range : mg "range" = none
  b_str : mg "str" = none
  b_sum : mg "sum" = none
  b_tuple : mg "tuple" = none
  c_MOST : ConstX mg "MOST" (.int 4)
  x_NoKey : ClsTX K mg "NoKey"
  x_NoLeaf : ClsTX K mg "NoLeaf"
  x_NoStem : ClsTX K mg "NoStem"
  x_NoTwig : ClsTX K mg "NoTwig"
  x_NotHeld : ClsTX K mg "NotHeld"
  x_TwigError : ClsTX K mg "TwigError"
  r_NoStem : ExcTX K mg "NoStem" [.type "ValueError", .type "Exception", .type "BaseException", .type "object"] "ValueError.__new__"
  em_NoStem : PySem.W.exmOne K (.ref (clA mg "NoStem")) (.ref (clA mg "TwigError")) = some true
  xc_NoStem : excCB K (clA mg "NoStem") = true
  ka_NoStem_4 : PySem.W.kitAny K (.ref (clA mg "NoStem")) [.ref (clA mg "NoKey"), .ref (clA mg "NoLeaf"), .ref (clA mg "NotHeld"), .ref (clA mg "NoTwig")] = some false
  ki_NoStem : PySem.W.kitOne K (.ref (clA mg "NoStem")) (.ref (clA mg "NoStem")) = some true
  ki_NoStem_VE : PySem.W.kitOne K (.ref (clA mg "NoStem")) (.type "ValueError") = some true
local macro_rules | `(tactic| walk_at "nn") => `(tactic| first
  | assumption
  | exact upd_back (by assumption)
  | exact upd_back (upd_back (by assumption))
  | exact upd_back (upd_back (upd_back (by assumption)))
  | exact upd_back (upd_back (upd_back (upd_back (by assumption))))
  | exact upd_back (upd_back (upd_back (upd_back (upd_back (by assumption)))))
  | exact upd_back (upd_back (upd_back (upd_back (upd_back (upd_back (by assumption))))))
  | exact upd_back (upd_back (upd_back (upd_back (upd_back (upd_back (upd_back (by assumption)))))))
  | exact upd_back (upd_back (upd_back (upd_back (upd_back (upd_back (upd_back (upd_back (by assumption))))))))
  | exact upd_back (upd_back (upd_back (upd_back (upd_back (upd_back (upd_back (upd_back (upd_back (by assumption)))))))))
  | exact upd_back (upd_back (upd_back (upd_back (upd_back (upd_back (upd_back (upd_back (upd_back (upd_back (by assumption))))))))))
  | exact Fr.free (by assumption) (by walk_at "nn")
  | exact upd_back (Fr.free (by assumption) (by walk_at "nn"))
  | exact upd_back (upd_back (Fr.free (by assumption) (by walk_at "nn")))
  | exact upd_back (upd_back (upd_back (Fr.free (by assumption) (by walk_at "nn"))))
  | exact upd_back (upd_back (upd_back (upd_back (Fr.free (by assumption) (by walk_at "nn")))))
  | exact upd_back (upd_back (upd_back (upd_back (upd_back (Fr.free (by assumption) (by walk_at "nn"))))))
  | exact upd_back (upd_back (upd_back (upd_back (upd_back (upd_back (Fr.free (by assumption) (by walk_at "nn")))))))
  | fail "no way")
local macro_rules | `(tactic| walk_at "ne1") => `(tactic| first
  | assumption
  | exact Ne.symm (by assumption)
  | fail "no way")
local macro_rules | `(tactic| walk_at "ne") => `(tactic| first
  | walk_at "ne1"
  | (refine ne_fr (H := ?H) (o := ?o) ?h1 ?h2; (case h2 => assumption); (case h1 => walk_at "hp"))
  | (refine ne_fr (H := ?H) (o := .tup ?xs) ?h1 ?h2; (case h2 => assumption); (case h1 => walk_at "hp"))
  | (refine Ne.symm (ne_fr (H := ?H) (o := ?o) ?h1 ?h2); (case h2 => assumption); (case h1 => walk_at "hp"))
  | (refine Ne.symm (ne_fr (H := ?H) (o := .tup ?xs) ?h1 ?h2); (case h2 => assumption); (case h1 => walk_at "hp"))
  | (refine Well.ne (H := ?H) ?h1 ?h2; (case h2 => assumption); (case h1 => walk_at "we"))
  | (refine Ne.symm (Well.ne (H := ?H) ?h1 ?h2); (case h2 => assumption); (case h1 => walk_at "we"))
  | (refine ne_of (by assumption) (by assumption) ?_; (intro z; cases z; done))
  | fail "no way")
local macro_rules | `(tactic| walk_at "we") => `(tactic| first
  | assumption
  | (refine Well.fr (S := Non) ?h1 (Fr.new (Fr.refl _) ?h2) id; (case h2 => assumption); (case h1 => walk_at "we"))
  | (refine Well.fr (S := One _) ?h1 (Fr.mut (u := ?u) (Fr.refl _) ?h2 ?h3 (.inl rfl)) ?h4; (case h1 => walk_at "we"); (case h2 => walk_at "hp"); (case h3 => rfl); (case h4 => walk_at "ns"))
  | (refine Well.fr (S := ?S) (H := ?H) ?h1 ?f ?h2; (case f => assumption); (case h1 => walk_at "we"); (case h2 => walk_at "ns"))
  | fail "no way")
local macro_rules | `(tactic| walk_at "ns") => `(tactic| first
  | exact id
  | assumption
  | ((with_reducible refine not_One ?_); walk_at "ne")
  | fail "no way")
local macro_rules | `(tactic| walk_at "hp") => `(tactic| first
  | assumption
  | exact upd_same
  | ((with_reducible refine Eq.trans (upd_ne ?h1) ?h2); (case h1 => walk_at "ne"); (case h2 => walk_at "hp"))
  | (refine Fr.tup (S := ?S) (H := ?H0) ?f _ _ ?h1; (case f => assumption); (case h1 => walk_at "hp"))
  | (refine Fr.keep (S := ?S) (H := ?H0) ?f _ _ ?h1 ?h2; (case f => assumption); (case h1 => walk_at "hp"); (case h2 => walk_at "ns"))
  | fail "no way")
local macro_rules | `(tactic| walk_at "sq") => `(tactic| first
  | assumption
  | exact SqL.of (by walk_at "hp")
  | exact SqT.of (by walk_at "hp")
  | exact .inl (SqL.of (by walk_at "hp"))
  | exact .inr (SqT.of (by walk_at "hp"))
  | exact .inl (by assumption)
  | exact .inr (by assumption)
  | (refine SqL_upd ?_ (by assumption); walk_at "sq")
  | (refine .inl (SqL_upd ?_ (by assumption)); walk_at "sq")
  | (refine SqL_fr ?_ (by assumption) (by walk_at "ns"); walk_at "sq")
  | (refine .inl (SqL_fr ?_ (by assumption) (by walk_at "ns")); walk_at "sq")
  | fail "no way")
local macro_rules | `(tactic| walk_at "tg") => `(tactic| first
  | assumption
  | exact TgS.non
  | exact TgS.bl _
  | exact TgS.int _
  | exact TgS.str _
  | exact TgAllS.nil
  | (refine TgS.tup (by walk_at "hp") ?_; walk_at "tg")
  | (refine TgS.lst (by walk_at "hp") (by walk_at "ns"))
  | (refine TgS.dct (by walk_at "hp") (by walk_at "ns"))
  | (refine TgAllS.cons ?_ ?_ <;> walk_at "tg")
  | (refine TgS.new ?_ (by assumption); walk_at "tg")
  | (refine TgAllS.new ?_ (by assumption); walk_at "tg")
  | fail "no way")
local macro_rules | `(tactic| walk_at "dt") => `(tactic| first
  | assumption
  | exact Dt.int _
  | exact Dt.str _
  | exact DtAll.nil
  | (refine Dt.tup (by walk_at "hp") ?_; walk_at "dt")
  | (refine DtAll.cons ?_ ?_ <;> walk_at "dt")
  | (refine Dt.upd ?_ (by assumption); walk_at "dt")
  | (refine DtAll.upd ?_ (by assumption); walk_at "dt")
  | (refine Dt.updm (u := ?u) ?_ ?h1 ?h2; (case h1 => walk_at "hp"); (case h2 => rfl); walk_at "dt")
  | (refine DtAll.updm (u := ?u) ?_ ?h1 ?h2; (case h1 => walk_at "hp"); (case h2 => rfl); walk_at "dt")
  | (refine Dt.mono ?_ (by assumption); walk_at "dt")
  | (refine DtAll.mono ?_ (by assumption); walk_at "dt")
  | fail "no way")
local macro_rules | `(tactic| walk_at "mu") => `(tactic| first
  | exact Or.inl rfl
  | exact Or.inl trivial
  | exact Or.inr (by walk_at "nn")
  | exact Or.inl (by assumption)
  | fail "no way")
local macro_rules | `(tactic| walk_at "fr") => `(tactic| first
  | assumption
  | exact Fr.refl _
  | ((with_reducible refine Fr.new ?_ ?h1); (case h1 => assumption); walk_at "fr")
  | ((with_reducible refine Fr.mut (u := ?u) ?_ ?h1 ?h2 ?h3); (case h1 => walk_at "hp"); (case h2 => rfl); (case h3 => walk_at "mu"); walk_at "fr")
  | ((with_reducible refine Fr.sub' (H1 := ?H1) (T := ?T) ?_ ?h1 ?h2); (case h1 => assumption); (case h2 => walk_at "su"); walk_at "fr")
  | fail "no way")
local macro_rules | `(tactic| walk_at "su") => `(tactic| first
  | exact fun _ h => h.elim
  | exact fun _ h => .inl h
  | (intro b h; subst h; walk_at "mu")
  | fail "no way")
local macro_rules | `(tactic| walk_at "ix") => `(tactic| first
  | rfl
  | assumption
  | exact ix2i _ _ _
  | exact atI0 _ _
  | fail "no way")
local macro_rules | `(tactic| walk_at "sz") => `(tactic| first
  | (show _ ≤ 1000; decide)
  | assumption
  | (simp only [List.length_cons, List.length_nil, List.length_append, List.length_map, List.length_set, List.length_replicate]; omega)
  | omega
  | fail "no way")
local macro_rules | `(tactic| walk_at "zs") => `(tactic| first
  | assumption
  | (show _ ≤ 16777216; omega)
  | decide
  | fail "no way")
local macro_rules | `(tactic| walk_at "za") => `(tactic| first
  | assumption
  | (show _ ≤ 16777216; omega)
  | (refine Nat.le_trans (Nat.add_le_add_left (Nat.le_of_eq (str_one _)) _) ?_; show _ ≤ 16777216; omega)
  | (refine Nat.le_trans (Nat.add_le_add_right (Nat.le_of_eq (str_one _)) _) ?_; show _ ≤ 16777216; omega)
  | fail "no way")
local macro_rules | `(tactic| walk_at "ty") => `(tactic| first
  | exact .base (.int _)
  | exact .base (.bl _)
  | exact .base (.str _)
  | exact .base .non
  | exact .base (.tup (by walk_at "hp"))
  | exact .base (.lst (by walk_at "hp"))
  | fail "no way")
local macro_rules | `(tactic| walk_at "kit") => `(tactic| first
  | exact kit_int_int | exact kit_int_bool | exact kit_int_str | exact kit_int_tuple | exact kit_int_list
  | exact kit_bool_int | exact kit_bool_bool | exact kit_bool_str | exact kit_bool_tuple | exact kit_bool_list
  | exact kit_str_int | exact kit_str_bool | exact kit_str_str | exact kit_str_tuple | exact kit_str_list
  | exact kit_tuple_int | exact kit_tuple_bool | exact kit_tuple_str | exact kit_tuple_tuple | exact kit_tuple_list
  | exact kit_list_int | exact kit_list_bool | exact kit_list_str | exact kit_list_tuple | exact kit_list_list
  | exact kit_NoneType_int | exact kit_NoneType_bool | exact kit_NoneType_str | exact kit_NoneType_tuple | exact kit_NoneType_list
  | exact kit_dict_int | exact kit_dict_bool | exact kit_dict_str | exact kit_dict_tuple | exact kit_dict_list | exact kit_dict_dict
  | exact kit_int_dict | exact kit_bool_dict | exact kit_str_dict | exact kit_tuple_dict | exact kit_list_dict | exact kit_NoneType_dict
  | fail "no way")
local macro_rules | `(tactic| walk_at "mul") => `(tactic| first
  | exact .inr ⟨by decide, by decide⟩
  | exact .inl ⟨by decide, by decide⟩
  | (refine .inl ⟨?_, ?_⟩ <;> omega)
  | (refine .inr ⟨?_, ?_⟩ <;> omega)
  | (refine .inr ⟨?_, ?_⟩ <;> split <;> decide)
  | fail "no way")
local macro_rules | `(tactic| walk_at "rd1") => `(tactic| first
  | with_reducible refine x_seq ?_
  | with_reducible refine x_asg ?_
  | ((with_reducible refine x_var (v := ?v) ?h1 ?_); (case h1 => rfl))
  | with_reducible refine x_c ?_
  | with_reducible refine x_gname ?_
  | with_reducible refine x_op ?_
  | with_reducible refine x_if ?_
  | with_reducible refine x_test ?_
  | with_reducible refine x_bl ?_
  | with_reducible refine x_ret ?_
  | with_reducible refine x_next ?_
  | with_reducible refine x_cons ?_
  | with_reducible refine x_nil ?_
  | with_reducible refine x_cal ?_
  | with_reducible refine x_cb ?_
  | with_reducible refine x_sp1 ?_
  | with_reducible refine x_sp2 ?_
  | with_reducible refine x_sp3 ?_
  | with_reducible refine x_sp4 ?_
  | ((with_reducible refine x_ixL (xs := ?xs) (v := ?v) ?h1 ?h2 ?_); (case h1 => walk_at "sq"); (case h2 => walk_at "ix"))
  | ((with_reducible refine x_ixS (c := ?c) ?h1 ?h2 ?_); (case h1 => walk_at "zs"); (case h2 => walk_at "ix"))
  | ((with_reducible refine x_addS ?h1 ?_); (case h1 => walk_at "za"))
  | ((with_reducible refine x_ixT (xs := ?xs) (v := ?v) ?h1 ?h2 ?_); (case h1 => walk_at "sq"); (case h2 => walk_at "ix"))
  | with_reducible refine x_eqI ?_
  | with_reducible refine x_neI ?_
  | with_reducible refine x_add ?_
  | with_reducible refine x_sub ?_
  | with_reducible refine x_lt ?_
  | with_reducible refine x_le ?_
  | with_reducible refine x_gt ?_
  | with_reducible refine x_ge ?_
  | ((with_reducible refine x_mul ?h1 ?_); (case h1 => walk_at "mul"))
  | ((with_reducible refine x_pow ?h1 ?_); (case h1 => exact ⟨by decide, by decide, by decide⟩))
  | ((with_reducible refine x_mod ?h1 ?_); (case h1 => first | decide | assumption | omega | fail "no way"))
  | ((with_reducible refine x_div ?h1 ?_); (case h1 => exact ⟨by omega, by omega⟩))
  | ((with_reducible refine x_divW ?h1 ?_); (case h1 => first | assumption | exact ⟨by decide, by decide⟩ | exact ⟨by assumption, by assumption⟩ | fail "no way"))
  | with_reducible refine x_neg ?_
  | with_reducible refine x_un ?_
  | with_reducible refine x_isN ?_
  | with_reducible refine x_notN ?_
  | with_reducible refine x_not ?_
  | with_reducible refine x_and ?_
  | with_reducible refine x_or ?_
  | with_reducible refine x_andV ?_
  | with_reducible refine x_orV ?_
  | with_reducible refine x_notV ?_
  | with_reducible refine x_tB ?_
  | with_reducible refine x_iteF ?_
  | with_reducible refine x_iteT ?_
  | with_reducible refine x_ife ?_
  | with_reducible refine x_drop ?_
  | with_reducible refine x_retN ?_
  | with_reducible refine x_gsub ?_
  | ((with_reducible refine x_setL (xs := ?xs) (n := ?n) ?h1 ?h2 ?_); (case h1 => walk_at "hp"); (case h2 => walk_at "ix"))
  | ((with_reducible refine x_gtup (xs := ?xs) ?h1 ?h2 ?_); (case h1 => walk_at "sq"); (case h2 => rfl))
  | with_reducible refine x_gcons ?_
  | with_reducible refine x_gnil ?_
  | with_reducible refine x_tup ?_
  | with_reducible refine x_lst ?_
  | ((with_reducible refine x_sz ?h1 ?_); (case h1 => walk_at "sz"))
  | ((with_reducible refine x_len (xs := ?xs) ?h1 ?_); (case h1 => walk_at "sq"))
  | ((with_reducible refine x_cat (xs := ?xs) (zs := ?zs) ?h1 ?h2 ?h3 ?_); (case h1 => walk_at "hp"); (case h2 => walk_at "hp"); (case h3 => walk_at "sz"))
  | with_reducible refine x_abs ?_
  | with_reducible refine x_max2 ?_
  | with_reducible refine x_min2 ?_
  | with_reducible refine x_intI ?_
  | with_reducible refine x_intB ?_
  | ((with_reducible refine x_isiI (r := ?r) ?h2 ?_); (case h2 => walk_at "kit"))
  | ((with_reducible refine x_isiB (r := ?r) ?h2 ?_); (case h2 => walk_at "kit"))
  | ((with_reducible refine x_isiS (r := ?r) ?h2 ?_); (case h2 => walk_at "kit"))
  | ((with_reducible refine x_isiN (r := ?r) ?h2 ?_); (case h2 => walk_at "kit"))
  | ((with_reducible refine x_isiT (xs := ?xs) (r := ?r) ?h1 ?h2 ?_); (case h1 => walk_at "hp"); (case h2 => walk_at "kit"))
  | ((with_reducible refine x_isiL (xs := ?xs) (r := ?r) ?h1 ?h2 ?_); (case h1 => walk_at "hp"); (case h2 => walk_at "kit"))
  | ((with_reducible refine x_isiD (xs := ?xs) (r := ?r) ?h1 ?h2 ?_); (case h1 => walk_at "hp"); (case h2 => walk_at "kit"))
  | ((with_reducible refine x_listOf (xs := ?xs) ?h1 ?_); (case h1 => walk_at "sq"))
  | ((with_reducible refine x_tupL (xs := ?xs) ?h1 ?_); (case h1 => walk_at "sq"))
  | with_reducible refine x_eqS ?_
  | with_reducible refine x_neS ?_
  | with_reducible refine x_eqB ?_
  | with_reducible refine x_neB ?_
  | with_reducible refine x_ltS ?_
  | with_reducible refine x_leS ?_
  | with_reducible refine x_rng1 ?_
  | with_reducible refine x_rng2 ?_
  | ((with_reducible refine x_rng1' ?h1 ?_); (case h1 => first | exact ⟨by decide, by decide⟩ | assumption | (constructor <;> omega) | fail "no way"))
  | with_reducible refine x_for ?_
  | with_reducible refine x_lc ?_
  | with_reducible refine x_lct ?_
  | ((with_reducible refine x_wip ?h1 ?_); (case h1 => rfl))
  | with_reducible refine x_tyes ?_
  | ((with_reducible refine x_acc (acc := ?acc) ?h1 ?h2 ?_); (case h1 => walk_at "hp"); (case h2 => walk_at "sz"))
  | with_reducible refine x_iList ?_
  | with_reducible refine x_iTup ?_
  | with_reducible refine x_sl ?_
  | with_reducible refine x_noP ?_
  | with_reducible refine x_part ?_
  | with_reducible refine x_int ?_
  | ((with_reducible refine x_slL (xs := ?xs) ?h1 ?_); (case h1 => walk_at "sq"))
  | with_reducible refine x_bm ?_
  | with_reducible refine x_bm0 ?_
  | with_reducible refine x_chain ?_
  | with_reducible refine x_dnew ?_
  | ((with_reducible refine x_slZ ?h1 ?_); (case h1 => walk_at "zs"))
  | with_reducible refine x_gtS ?_
  | with_reducible refine x_geS ?_
  | with_reducible refine x_tryAs ?_
  | with_reducible refine x_calS ?_
  | with_reducible refine x_raise0 ?_
  | with_reducible refine x_iStr ?_
  | with_reducible refine x_isStr ?_
  | with_reducible refine x_isB ?_
  | with_reducible refine x_notB ?_
  | with_reducible refine x_ckw ?_
  | ((with_reducible refine x_insert (xs := ?xs) ?h1 ?h2 ?h3 ?_); (case h1 => walk_at "hp"); (case h2 => walk_at "sz"); (case h3 => first | assumption | (constructor <;> omega) | fail "no way"))
  | ((with_reducible refine x_tyL (xs := ?xs) ?h1 ?_); (case h1 => walk_at "sq"))
  | with_reducible refine x_tyS ?_
  | ((with_reducible refine x_tyD (kvs := ?xs) ?h1 ?_); (case h1 => walk_at "hp"))
  | ((with_reducible refine x_append (xs := ?xs) ?h1 ?h2 ?_); (case h1 => walk_at "hp"); (case h2 => walk_at "sz"))
  | ((with_reducible refine x_lenAs (xs := ?xs) ?h1 ?_); (case h1 => walk_at "sq"))
  | ((with_reducible refine x_lenAz ?h1 ?_); (case h1 => walk_at "zs"))
  | ((with_reducible refine x_lenZ ?h1 ?_); (case h1 => walk_at "zs"))
  | ((with_reducible refine x_addTz ?h1 ?_); (case h1 => walk_at "za"))
  | ((with_reducible refine x_slXz ?h1 ?_); (case h1 => walk_at "zs"))
  | ((with_reducible refine x_ixAt (xs := ?xs) (v := ?v) ?h1 ?h2 ?_); (case h1 => walk_at "sq"); (case h2 => walk_at "ix"))
  | ((with_reducible refine x_ixAl (xs := ?xs) (v := ?v) ?h1 ?h2 ?_); (case h1 => walk_at "sq"); (case h2 => walk_at "ix"))
  | ((with_reducible refine x_ixAz (c := ?c) ?h1 ?h2 ?_); (case h1 => walk_at "zs"); (case h2 => walk_at "ix"))
  | with_reducible refine x_brk ?_
  | with_reducible refine x_cont ?_
  | ((with_reducible refine x_yes ?h1 ?_); (case h1 => decide))
  | ((with_reducible refine x_no ?h1 ?_); (case h1 => decide))
  | fail "no way")
local macro_rules | `(tactic| walk_at "rd") => `(tactic| first | (walk_at "rd1"; walk_at "rd") | skip)
-- the def top 16
theorem sc_law_pull : FnScope ["_law_well_here", "_law_many", "_law_first", "_law_second", "_law_found"] ["_law_well_here", "_law_many"] (defScope s_law_pull) := ⟨rfl, rfl, rfl, by decide +kernel, rfl, by decide +kernel, by decide +kernel⟩
/-- a number below m; only the well changes -/
def B_law_pull : BK2 := fun wl mm H Q _ => ∃ (a : Addr) (m : Int), wl = .ref a ∧ mm = .int m ∧ 0 < m ∧ m.natAbs.log2 < 9000 ∧ Well H a ∧
  ∀ r H', Fr (One a) H H' → Well H' a → 0 ≤ r → r < m → Q (.int r) H'
section
variable {P : Program} {w : World} {K : PySem.W.Frag} {mg : Str → Option Value} {base : Heap}
theorem ok_law_pull (T : TX K mg) : CalX P w K mg base 1 "_law_pull" ["_law_well_here", "_law_many"] (Sp2 (B_law_pull)) := by
  obtain ⟨f, fd, F, hm, bd⟩ := T.d_law_pull.ex
  refine ⟨f, fd, F.okX sc_law_pull len2 (fun cdv A outer s H vs Q E hr h => ?_), hm, F.kp, bd⟩
  obtain ⟨wl, mm, rfl, h⟩ := h
  refine ⟨_, (pss_cons (ps_if (pt_cmpR op_eq (pe_ix ix_list (pv 0) pe_int (fun _ _ => rfl)) pe_int (nomark _)) (pss_one (ps_ret pe_int)) pss_nil) (pss_cons (ps_asg (pe_op op_sub (pe_ix ix_list (pv 0) pe_int (fun _ _ => rfl)) pe_int) (pg_sub (pv 0) pe_int set_list)) (pss_cons (ps_if (pt_cmpR op_gt (pe_ix ix_list (pv 0) pe_int (fun _ _ => rfl)) pe_int (nomark _)) (pss_cons (ps_set (i := 4) sc_law_pull.nd rfl (Or.inl rfl) (pe_op op_mod (pe_ix ix_list (pv 0) pe_int (fun _ _ => rfl)) (pv 1))) (pss_cons (ps_asg (pe_op op_fdivW (pe_ix ix_list (pv 0) pe_int (fun _ _ => rfl)) (pv 1)) (pg_sub (pv 0) pe_int set_list)) (pss_one (ps_ret (pv 4))))) pss_nil) (pss_cons (ps_asg (pe_op op_add (pe_ix ix_list (pv 0) pe_int (fun _ _ => rfl)) pe_int) (pg_sub (pv 0) pe_int set_list)) (pss_cons (ps_set (i := 2) sc_law_pull.nd rfl (Or.inl rfl) (pe_op op_mod (pe_op op_mul (pe_op op_add (pe_ix ix_list (pv 0) pe_int (fun _ _ => rfl)) pe_int) (pe_op op_add pe_int (pe_op op_mul pe_int (pe_ix ix_list (pv 0) pe_int (fun _ _ => rfl))))) pe_int)) (pss_cons (ps_set (i := 3) sc_law_pull.nd rfl (Or.inl rfl) (pe_op op_mod (pe_op op_mul (pe_op op_add (pe_op op_fdivW (pv 2) pe_int) pe_int) (pe_op op_add (pe_op op_mod (pv 2) pe_int) pe_int)) pe_int)) (pss_one (ps_ret (pe_op op_mod (pe_op op_fdivW (pv 3) pe_int) (pv 1)))))))))), ?_⟩
  show (_ : TS) _ [some wl, some mm, none, none, none] H
  first | dsimp only [L2.cxOf] | skip
  obtain ⟨a, m, rfl, rfl, hm0, hml, ⟨c, n, g, l, hL, hc0, hc1⟩, q⟩ := h
  walk_at "rd"
  refine x_dec (fun _ => ?_) (fun _ => ?_)
  · walk_at "rd"
    exact q _ _ (Fr.refl _) ⟨c, n, g, l, hL, hc0, hc1⟩ (by omega) hm0
  · walk_at "rd"
    refine x_dec (fun _ => ?_) (fun _ => ?_)
    · walk_at "rd"
      exact q _ _ (by walk_at "fr") ⟨_, _, _, _, upd_same, hc0, hc1⟩ (Int.emod_nonneg _ (by omega)) (Int.emod_lt_of_pos _ hm0)
    · walk_at "rd"
      exact q _ _ (by walk_at "fr") ⟨_, _, _, _, upd_same, hc0, hc1⟩ (Int.emod_nonneg _ (by omega)) (Int.emod_lt_of_pos _ hm0)
end

-- the def top 20
theorem sc_law_grid : FnScope ["_law_well_here", "_law_signs", "_law_found", "_law_size", "_law_one", "_law_two", "_law_j"] ["_law_well_here"] (defScope s_law_grid) := ⟨rfl, rfl, rfl, by decide +kernel, rfl, by decide +kernel, by decide +kernel⟩
/-- sixty-four keys -/
def B_law_grid : BK1 := fun wl H Q _ => ∃ (a : Addr), wl = .ref a ∧ Well H a ∧
  ∀ p H' gs ds, Fr (One a) H H' → Well H' a → Fresh H p → H' p = some (.lst gs) → DtAll H' gs ds → gs.length = 64 → (∀ d ∈ ds, isK 1 d) → Q (.ref p) H'
section
variable {P : Program} {w : World} {K : PySem.W.Frag} {mg : Str → Option Value} {base : Heap}
theorem ok_law_grid (T : TX K mg) : CalX P w K mg base 2 "_law_grid" ["_law_well_here"] (Sp1 (B_law_grid)) := by
  have C_law_pull := ok_law_pull (P := P) (w := w) (base := base) T
  obtain ⟨f, fd, F, hm, bd⟩ := T.d_law_grid.ex
  refine ⟨f, fd, F.okX sc_law_grid len1 (fun cdv A outer s H vs Q E hr h => ?_), hm, F.kp, bd⟩
  obtain ⟨wl, rfl, h⟩ := h
  refine ⟨_, (pss_cons (ps_set (i := 1) sc_law_grid.nd rfl (Or.inl rfl) pe_str) (pss_cons (ps_set (i := 2) sc_law_grid.nd rfl (Or.inl rfl) (pe_lst pa_nil)) (pss_cons (ps_set (i := 3) sc_law_grid.nd rfl (Or.inl rfl) pe_int) (pss_cons (ps_set (i := 4) sc_law_grid.nd rfl (Or.inl rfl) (pcall C_law_pull hr (by first | decide | omega) rfl Passes.none (pa_cons (pv 0) (pa_cons pe_int pa_nil)))) (pss_cons (ps_set (i := 5) sc_law_grid.nd rfl (Or.inl rfl) (pe_op op_add (pv 4) (pcall C_law_pull hr (by first | decide | omega) rfl Passes.none (pa_cons (pv 0) (pa_cons (pe_op op_sub pe_int (pv 4)) pa_nil))))) (pss_cons (ps_for (passes_of rfl) rfl (pi_range1 rfl T.b_range (pa_cons pe_int pa_nil)) (pg_name (i := 6) sc_law_grid.nd rfl (Or.inl rfl)) (pss_cons (ps_set (i := 3) sc_law_grid.nd rfl (Or.inl rfl) (pe_op op_add (pe_op op_add (pv 3) pe_int) (pcall C_law_pull hr (by first | decide | omega) rfl Passes.none (pa_cons (pv 0) (pa_cons pe_int pa_nil))))) (pss_one (ps_if (pt_cmpR op_lt (pv 6) (pv 4) (nomark _)) (pss_one (ps_expr (pe_bm PySem.F.plainAttrs_list PySem.F.slot_list_append PySem.F.type_list_append mt_append (pv 2) (pa_cons (pe_op op_sub (pv 3) pe_int) pa_nil)))) (pss_one (ps_if (pt_cmpR op_lt (pv 6) (pv 5) (nomark _)) (pss_one (ps_expr (pe_bm PySem.F.plainAttrs_list PySem.F.slot_list_append PySem.F.type_list_append mt_append (pv 2) (pa_cons (pe_op o_addS (pe_op o_addS (pe_op o_addS pe_str (pe_ix ix_str (pv 1) (pe_op op_fdivW (pv 3) pe_int) (fun _ _ => rfl))) (pe_ix ix_str (pv 1) (pe_op op_mod (pv 3) pe_int) (fun _ _ => rfl))) (pe_op o_mulS pe_str (pe_op op_mod (pv 6) pe_int))) pa_nil)))) (pss_one (ps_expr (pe_bm PySem.F.plainAttrs_list PySem.F.slot_list_append PySem.F.type_list_append mt_append (pv 2) (pa_cons (pe_op op_catA (pe_tup (pa_cons pe_str (pa_cons (pv 3) pa_nil))) (pe_op op_rep01 (pe_tup (pa_cons pe_int pa_nil)) (pe_op op_mod (pv 6) pe_int))) pa_nil)))))))))) (pss_one (ps_ret (pv 2))))))))), ?_⟩
  show (_ : TS) _ [some wl, none, none, none, none, none, none] H
  first | dsimp only [L2.cxOf] | skip
  obtain ⟨a, rfl, W, q⟩ := h
  have hsl : (strIn s_law_grid).length = 55 := by decide +kernel
  have hsc : ∀ c ∈ (strIn s_law_grid).cps.toList, 32 ≤ c ∧ c ≤ 126 := by decide +kernel
  have hix : ∀ r : Int, 0 ≤ r → r < 55 → ∃ c, atI (strIn s_law_grid).cps.toList r = some c ∧ (32 ≤ c ∧ c ≤ 126) := fun r h0 h1 => by
    obtain ⟨c, e1, e2⟩ := atI_ex (xs := (strIn s_law_grid).cps.toList) h0 (by rw [← str_len, hsl]; exact h1)
    exact ⟨c, e1, hsc c (List.mem_of_getElem? e2)⟩
  have hsz : (strIn s_law_grid).length ≤ sizeLine := by rw [hsl]; decide
  walk_at "rd"
  intro L nL
  walk_at "rd"
  refine ⟨a, _, rfl, rfl, by decide, by decide +kernel, W.new nL, fun one H1 f1 w1 o0 o1 => ?_⟩
  have e1 : H1 L = some (.lst []) := f1.keep _ _ upd_same (not_One (Well.ne W nL))
  walk_at "rd"
  refine ⟨a, _, rfl, rfl, by omega, (PullOk.small (by omega) (by omega)).2, w1, fun two H2 f2 w2 t0 t1 => ?_⟩
  have e2 := f2.keep _ _ e1 (not_One (Well.ne W nL))
  have f02 : Fr (One a) H H2 := (Fr.trans (Fr.new (Fr.refl _) nL) f1).trans f2
  walk_at "rd"
  refine x_forR (n := 64) (fun i σ H' => ∃ (gs : List V) (ds : List PyData) (sz : Int) (v : Option V), σ = [some (.ref a), some (.str (strIn s_law_grid)), some (.ref L), some (.int sz), some (.int one), some (.int (one + two)), v] ∧
    Fr (One a) H H' ∧ Well H' a ∧ H' L = some (.lst gs) ∧ DtAll H' gs ds ∧ gs.length = i ∧ (∀ d ∈ ds, isK 1 d) ∧ 0 ≤ sz ∧ sz ≤ 20 * i) ?_ ?_ ?_
  · exact ⟨[], [], 0, none, rfl, f02, w2, e2, .nil, rfl, List.forall_mem_nil _, Int.le_refl _, Int.le_refl _⟩
  · rintro i σ H3 hi ⟨gs, ds, sz, v, rfl, f3, w3, e3, h3, l3, k3, s0, s1⟩
    have hLa : L ≠ a := Well.ne W nL
    walk_at "rd"
    refine ⟨a, _, rfl, rfl, by decide, by decide +kernel, w3, fun r H4 f4 w4 r0 r1 => ?_⟩
    have e4 := f4.keep _ _ e3 (not_One hLa)
    have h4 := h3.mono f4
    have f04 := f3.trans f4
    have hgl : gs.length ≤ 100000 := by omega
    walk_at "rd"
    refine x_dec (fun c1 => ?_) (fun c1 => ?_)
    · walk_at "rd"
      refine ⟨gs ++ [.int (sz + 1 + r - 700)], ds ++ [.int (sz + 1 + r - 700)], sz + 1 + r, _, rfl, Fr.mut f04 e4 rfl (.inr nL), w4.fr (Fr.mut (S := One L) (Fr.refl _) e4 rfl (.inl rfl)) (not_One hLa.symm), upd_same, DtAll.app (h4.updm e4 rfl) (DtAll.one (.int _)), by rw [List.length_append, l3]; rfl, fun d hd => ?_, by omega, by omega⟩
      rcases List.mem_append.mp hd with hd | hd
      · exact k3 d hd
      · rw [List.mem_singleton.mp hd, isK_int]
        have e60 : (10 : Int) ^ 60 > 100000 := by decide
        exact ⟨by omega, by omega⟩
    · walk_at "rd"
      refine x_dec (fun c2 => ?_) (fun c2 => ?_)
      · obtain ⟨c, hc1, hc2⟩ := hix ((sz + 1 + r) / 50) (by omega) (by omega)
        obtain ⟨c', hc3, hc4⟩ := hix ((sz + 1 + r) % 50) (by omega) (by omega)
        have hk1 : (Str.ofString "k").length = 1 := by decide +kernel
        have hkc : ∀ c ∈ (Str.ofString "k").cps.toList, 32 ≤ c ∧ c ≤ 126 := by decide +kernel
        obtain ⟨t1, t2⟩ := txt_app (z := Str.ofString "k") (n := 1) (by rw [hk1]; exact Nat.le_refl _) hkc hc2
        obtain ⟨t3, t4⟩ := txt_app t1 t2 hc4
        have z1 : (Str.ofString "k").length + (⟨#[c]⟩ : Str).length ≤ sizeLine := by rw [hk1, str_one]; decide
        have z2 : (Str.ofString "k" ++ (⟨#[c]⟩ : Str)).length + (⟨#[c']⟩ : Str).length ≤ sizeLine := by rw [str_one]; exact Nat.le_trans (Nat.add_le_add_right t1 1) (by decide)
        walk_at "rd"
        refine x_mulS (by decide +kernel) ⟨by omega, by omega⟩ fun aa la ma => ?_
        have la1 : aa.length ≤ 1 := by
          have e1 : (Str.ofString "a").length = 1 := by decide +kernel
          rw [e1] at la
          split at la <;> omega
        have ea : ∀ c ∈ aa.cps.toList, 32 ≤ c ∧ c ≤ 126 := fun c hc => by
          have h0 : ∀ c ∈ (Str.ofString "a").cps.toList, 32 ≤ c ∧ c ≤ 126 := by decide +kernel
          exact h0 c (ma c hc)
        have ht : txtOk (Str.ofString "k" ++ (⟨#[c]⟩ : Str) ++ (⟨#[c']⟩ : Str) ++ aa) := by
          refine ⟨by rw [PySem.Str.length_append]; omega, fun d hd => ?_⟩
          rw [str_app] at hd
          exact (List.mem_append.mp hd).elim (t4 d) (ea d)
        have z3 : (Str.ofString "k" ++ (⟨#[c]⟩ : Str) ++ (⟨#[c']⟩ : Str)).length + aa.length ≤ sizeLine := Nat.le_trans (Nat.add_le_add t3 la1) (by decide)
        walk_at "rd"
        generalize Str.ofString "k" ++ (⟨#[c]⟩ : Str) ++ (⟨#[c']⟩ : Str) ++ aa = tx at ht ⊢
        refine ⟨gs ++ [.str tx], ds ++ [.str tx], sz + 1 + r, _, rfl, Fr.mut f04 e4 rfl (.inr nL), w4.fr (Fr.mut (S := One L) (Fr.refl _) e4 rfl (.inl rfl)) (not_One hLa.symm), upd_same, DtAll.app (h4.updm e4 rfl) (DtAll.one (.str _)), by rw [List.length_append, l3]; rfl, fun d hd => ?_, by omega, by omega⟩
        rcases List.mem_append.mp hd with hd | hd
        · exact k3 d hd
        · rw [List.mem_singleton.mp hd, isK_str]; exact ht
      · walk_at "rd"
        intro p1 n1
        walk_at "rd"
        intro p2 n2
        walk_at "rd"
        have d1 : Dt (upd (upd H4 p1 (.tup [.str (Str.ofString ""), .int (sz + 1 + r)])) p2 (.tup [.int 0])) (.ref p1) (.tuple [.str (Str.ofString ""), .int (sz + 1 + r)]) := Dt.upd (.tup upd_same (.cons (.str _) (.cons (.int _) .nil))) n2
        have d2 : upd (upd H4 p1 (.tup [.str (Str.ofString ""), .int (sz + 1 + r)])) p2 (.tup [.int 0]) p2 = some (.tup [.int 0]) := upd_same
        have e6 := keepU (u := .tup [.int 0]) (keepU (u := .tup [.str (Str.ofString ""), .int (sz + 1 + r)]) e4 n1) n2
        have h6 : DtAll (upd (upd H4 p1 (.tup [.str (Str.ofString ""), .int (sz + 1 + r)])) p2 (.tup [.int 0])) gs ds := (h4.upd n1).upd n2
        have f06 : Fr (One a) H (upd (upd H4 p1 (.tup [.str (Str.ofString ""), .int (sz + 1 + r)])) p2 (.tup [.int 0])) := Fr.new (Fr.new f04 n1) n2
        have w6 := (w4.new (u := .tup [.str (Str.ofString ""), .int (sz + 1 + r)]) n1).new (u := .tup [.int 0]) n2
        generalize upd (upd H4 p1 (.tup [.str (Str.ofString ""), .int (sz + 1 + r)])) p2 (.tup [.int 0]) = H6 at d1 d2 e6 h6 f06 w6 ⊢
        have fin : ∀ (p : Addr) (H8 : Hp) (es : List PyData), Fr Non H6 H8 → Dt H8 (.ref p) (.tuple ([.str (Str.ofString ""), .int (sz + 1 + r)] ++ es)) → (es = [] ∨ es = [.int 0]) →
            ∃ (gs' : List V) (ds' : List PyData) (sz' : Int) (v' : Option V), [some (V.ref a), some (.str (strIn s_law_grid)), some (.ref L), some (.int (sz + 1 + r)), some (.int one), some (.int (one + two)), some (V.int (0 + (i : Int)))] = [some (.ref a), some (.str (strIn s_law_grid)), some (.ref L), some (.int sz'), some (.int one), some (.int (one + two)), v'] ∧
              Fr (One a) H (upd H8 L (.lst (gs ++ [.ref p]))) ∧ Well (upd H8 L (.lst (gs ++ [.ref p]))) a ∧ upd H8 L (.lst (gs ++ [.ref p])) L = some (.lst gs') ∧ DtAll (upd H8 L (.lst (gs ++ [.ref p]))) gs' ds' ∧ gs'.length = i + 1 ∧ (∀ d ∈ ds', isK 1 d) ∧ 0 ≤ sz' ∧ sz' ≤ 20 * ((i + 1 : Nat) : Int) := by
          intro p H8 es f8 d8 he
          have e8 := f8.keep _ _ e6 id
          refine ⟨gs ++ [.ref p], ds ++ [.tuple ([.str (Str.ofString ""), .int (sz + 1 + r)] ++ es)], sz + 1 + r, _, rfl, Fr.mut (f06.trans f8.non) e8 rfl (.inr nL), (w6.fr f8 id).fr (Fr.mut (S := One L) (Fr.refl _) e8 rfl (.inl rfl)) (not_One hLa.symm), upd_same,
            DtAll.app ((h6.mono f8).updm e8 rfl) (DtAll.one (d8.updm e8 rfl)), by rw [List.length_append, l3]; rfl, fun d hd => ?_, by omega, by omega⟩
          rcases List.mem_append.mp hd with hd | hd
          · exact k3 d hd
          · rw [List.mem_singleton.mp hd]
            have e60 : (10 : Int) ^ 60 > 100000 := by decide
            have b1 : isK 0 (.str (Str.ofString "")) := ⟨by decide, by decide⟩
            have b2 : isK 0 (.int (sz + 1 + r)) := ⟨by omega, by omega⟩
            have b3 : isK 0 (.int 0) := ⟨by decide, by decide⟩
            rcases he with rfl | rfl
            · exact ⟨by show 2 ≤ 4; decide, fun d hd => by
                rcases List.mem_cons.mp hd with rfl | hd
                · exact b1
                · rw [List.mem_singleton.mp hd]; exact b2⟩
            · exact ⟨by show 3 ≤ 4; decide, fun d hd => by
                rcases List.mem_cons.mp hd with rfl | hd
                · exact b1
                rcases List.mem_cons.mp hd with rfl | hd
                · exact b2
                · rw [List.mem_singleton.mp hd]; exact b3⟩
        cases d1 with
        | @tup _ xs1 _ x1 x2 =>
        refine x_rep01 (SqT.of d2) (by simp) (by omega) (fun k0 p3 n3 => ?_) (fun k1 => ?_)
        · have f63 : Fr Non H6 (upd H6 p3 (.tup [])) := Fr.new (Fr.refl _) n3
          refine x_catD (f63.tup _ _ x1) upd_same (x2.upd n3) .nil (by rw [x2.length]; show 2 + 0 ≤ 100000; decide) fun p7 H7 f7 h7 => ?_
          have e7 := f7.keep _ _ (f63.keep _ _ e6 id) id
          walk_at "rd"
          exact fin p7 H7 [] (f63.trans f7) h7 (.inl rfl)
        · refine x_catD x1 d2 x2 (.cons (.int 0) .nil) (by rw [x2.length]; show 2 + 1 ≤ 100000; decide) fun p7 H7 f7 h7 => ?_
          have e7 := f7.keep _ _ e6 id
          walk_at "rd"
          exact fin p7 H7 [.int 0] f7 h7 (.inr rfl)
  · rintro σ H3 ⟨gs, ds, sz, v, rfl, f3, w3, e3, h3, l3, k3, _⟩
    walk_at "rd"
    exact q _ _ _ _ f3 w3 nL e3 h3 l3 k3
end

-- the def top 15
theorem sc_law_well : FnScope ["_law_script", "_law_k", "_law_left", "_law_cell", "_law_digits"] ["_law_script", "_law_k"] (defScope s_law_well) := ⟨rfl, rfl, rfl, by decide +kernel, rfl, by decide +kernel, by decide +kernel⟩
def B_law_well (K : PySem.W.Frag) : BK2 := fun s k H Q _ => ∃ (a : Addr) (ns : List Int) (i : Int), s = .ref a ∧ k = .int i ∧ 0 ≤ i ∧ SqL K H a (ns.map V.int) ∧ ns.length ≤ 63 ∧
  ∀ p H', Fr Non H H' → Fresh H p → Well H' p → Q (.ref p) H'
section
variable {P : Program} {w : World} {K : PySem.W.Frag} {mg : Str → Option Value} {base : Heap}
theorem ok_law_well (T : TX K mg) : CalX P w K mg base 1 "_law_well" ["_law_script", "_law_k"] (Sp2 (B_law_well K)) := by
  obtain ⟨f, fd, F, hm, bd⟩ := T.d_law_well.ex
  refine ⟨f, fd, F.okX sc_law_well len2 (fun cdv A outer s H vs Q E hr h => ?_), hm, F.kp, bd⟩
  obtain ⟨s, k, rfl, h⟩ := h
  refine ⟨_, (pss_cons (ps_set (i := 2) sc_law_well.nd rfl (Or.inl rfl) (pe_ix ix_list (pe_lst (pa_cons pe_int (pa_cons pe_int pa_nil))) (pe_callTy c_int (by rfl) T.b_int (by decide +kernel) (pa_cons (pe_cmpR op_eq (pv 1) pe_int (nomark _)) pa_nil)) (fun _ _ => rfl))) (pss_cons (ps_set (i := 3) sc_law_well.nd rfl (Or.inl rfl) (pe_ix ix_list (pe_op op_cat (pe_callTy c_listOf (by rfl) T.b_list (by decide +kernel) (pa_cons (pv 0) pa_nil)) (pe_lst (pa_cons pe_int pa_nil))) (pe_op op_mod (pv 1) (pe_callB (c_max2 rfl) (by rfl) T.b_max (by decide +kernel) (pa_cons pe_int (pa_cons (pe_callB c_len (by rfl) T.b_len (by decide +kernel) (pa_cons (pv 0) pa_nil)) pa_nil)))) (fun _ _ => rfl))) (pss_cons (ps_set (i := 4) sc_law_well.nd rfl (Or.inl rfl) (pe_op op_mul (pe_callB c_abs (by rfl) T.b_abs (by decide +kernel) (pa_cons (pv 3) pa_nil)) (pe_callTy c_int (by rfl) T.b_int (by decide +kernel) (pa_cons (pe_and (pe_cmpR op_ge (pe_callB c_abs (by rfl) T.b_abs (by decide +kernel) (pa_cons (pv 3) pa_nil)) (pe_op op_pow pe_int pe_int) (nomark _)) (pe_one (pe_cmpR op_lt (pv 1) (pe_callB c_len (by rfl) T.b_len (by decide +kernel) (pa_cons (pv 0) pa_nil)) (nomark _)))) pa_nil)))) (pss_one (ps_ret (pe_lst (pa_cons (pe_op op_mod (pv 3) pe_int) (pa_cons (pe_op op_mul pe_int (pv 1)) (pa_cons (pv 4) (pa_cons (pv 2) pa_nil)))))))))), ?_⟩
  show (_ : TS) _ [some s, some k, none, none, none] H
  first | dsimp only [L2.cxOf] | skip
  obtain ⟨a, ns, i, rfl, rfl, hi, hS, hn, q⟩ := h
  have hx : ∃ z : Int, atI (ns.map V.int ++ [V.int 0]) (i % (if ((ns.map V.int).length : Int) > 1 then ((ns.map V.int).length : Int) else 1)) = some (V.int z) := by
    have hm1 : (0 : Int) < (if ((ns.map V.int).length : Int) > 1 then ((ns.map V.int).length : Int) else 1) := by split <;> omega
    have hm2 : (if ((ns.map V.int).length : Int) > 1 then ((ns.map V.int).length : Int) else 1) ≤ ((ns.map V.int ++ [V.int 0]).length : Int) := by
      rw [List.length_append, List.length_singleton]; split <;> omega
    obtain ⟨v, h1, h2⟩ := atI_ex (xs := ns.map V.int ++ [V.int 0]) (Int.emod_nonneg i (by omega)) (Int.lt_of_lt_of_le (Int.emod_lt_of_pos i hm1) hm2)
    have hv : v ∈ ns.map V.int ++ [V.int 0] := List.mem_of_getElem? h2
    rcases List.mem_append.mp hv with hv | hv
    · obtain ⟨z, _, rfl⟩ := List.mem_map.mp hv
      exact ⟨z, h1⟩
    · rw [List.mem_singleton] at hv
      exact ⟨0, by rw [h1, hv]⟩
  have hm1 : (0 : Int) < (if ((ns.map V.int).length : Int) > 1 then ((ns.map V.int).length : Int) else 1) := by split <;> omega
  obtain ⟨z, hz⟩ := hx
  walk_at "rd"
  intro p1 n1
  walk_at "rd"
  intro p2 n2
  walk_at "rd"
  intro p3 n3
  walk_at "rd"
  intro p4 n4
  walk_at "rd"
  refine x_dec (fun _ => ?_) (fun _ => ?_)
  · walk_at "rd"
    intro p5 n5
    exact q _ _ (by walk_at "fr") (by walk_at "nn") ⟨_, _, _, _, upd_same, by omega, by omega⟩
  · walk_at "rd"
    intro p5 n5
    exact q _ _ (by walk_at "fr") (by walk_at "nn") ⟨_, _, _, _, upd_same, by omega, by omega⟩
end

-- the def top 22
theorem sc_law_labels : FnScope ["_law_well_here", "_law_grid_here", "_law_found", "_law_at", "_law_high", "_law_j", "_law_low", "_law_k", "_law_other", "_law_some"] ["_law_well_here", "_law_grid_here"] (defScope s_law_labels) := ⟨rfl, rfl, rfl, by decide +kernel, rfl, by decide +kernel, by decide +kernel⟩
def LbGood (l : Lb) : Prop := isK 1 l.lo ∧ isK 1 l.hi ∧ (0 ≤ l.h ∧ l.h ≤ 10) ∧ 0 ≤ l.n ∧ l.n ≤ 10
def B_law_labels : BK2 := fun wl gr H Q _ => ∃ (a g : Addr) (gs : List V) (ds : List PyData), wl = .ref a ∧ gr = .ref g ∧ Well H a ∧ H g = some (.lst gs) ∧ DtAll H gs ds ∧ gs.length = 64 ∧ (∀ d ∈ ds, isK 1 d) ∧
  ∀ (p : Addr) (H' : Hp) (xs : List V) (ls : List Lb), Fr (One a) H H' → Well H' a → Fresh H p → H' p = some (.lst xs) → DtAll H' xs (ls.map lbD) → ls.length ≤ 16 → (∀ l ∈ ls, LbGood l) → Q (.ref p) H'
section
variable {P : Program} {w : World} {K : PySem.W.Frag} {mg : Str → Option Value} {base : Heap}
theorem ok_law_labels (T : TX K mg) : CalX P w K mg base 2 "_law_labels" ["_law_well_here", "_law_grid_here"] (Sp2 (B_law_labels)) := by
  have C_law_pull := ok_law_pull (P := P) (w := w) (base := base) T
  obtain ⟨f, fd, F, hm, bd⟩ := T.d_law_labels.ex
  refine ⟨f, fd, F.okX sc_law_labels len2 (fun cdv A outer s H vs Q E hr h => ?_), hm, F.kp, bd⟩
  obtain ⟨wl, gr, rfl, h⟩ := h
  refine ⟨_, (pss_cons (ps_set (i := 2) sc_law_labels.nd rfl (Or.inl rfl) (pe_lst pa_nil)) (pss_cons (ps_set (i := 3) sc_law_labels.nd rfl (Or.inl rfl) (pcall C_law_pull hr (by first | decide | omega) rfl Passes.none (pa_cons (pv 0) (pa_cons pe_int pa_nil)))) (pss_cons (ps_set (i := 4) sc_law_labels.nd rfl (Or.inl rfl) (pcall C_law_pull hr (by first | decide | omega) rfl Passes.none (pa_cons (pv 0) (pa_cons pe_int pa_nil)))) (pss_cons (ps_for (passes_of rfl) rfl (pi_range1 rfl T.b_range (pa_cons (pcall C_law_pull hr (by first | decide | omega) rfl Passes.none (pa_cons (pv 0) (pa_cons pe_int pa_nil))) pa_nil)) (pg_name (i := 5) sc_law_labels.nd rfl (Or.inl rfl)) (pss_cons (ps_set (i := 6) sc_law_labels.nd rfl (Or.inl rfl) (pe_callB (c_min2 rfl) (by rfl) T.b_min (by decide +kernel) (pa_cons pe_int (pa_cons (pe_op op_add (pv 3) (pe_op op_mul (pcall C_law_pull hr (by first | decide | omega) rfl Passes.none (pa_cons (pv 0) (pa_cons pe_int pa_nil))) (pe_callTy c_int (by rfl) T.b_int (by decide +kernel) (pa_cons (pe_cmpR op_gt (pv 5) pe_int (nomark _)) pa_nil)))) pa_nil)))) (pss_cons (ps_set (i := 3) sc_law_labels.nd rfl (Or.inl rfl) (pe_callB (c_min2 rfl) (by rfl) T.b_min (by decide +kernel) (pa_cons pe_int (pa_cons (pe_op op_add (pv 6) (pcall C_law_pull hr (by first | decide | omega) rfl Passes.none (pa_cons (pv 0) (pa_cons pe_int pa_nil)))) pa_nil)))) (pss_cons (ps_expr (pe_bm PySem.F.plainAttrs_list PySem.F.slot_list_append PySem.F.type_list_append mt_append (pv 2) (pa_cons (pe_tup (pa_cons (pv 4) (pa_cons (pe_ix ix_list (pv 1) (pv 6) (fun _ _ => rfl)) (pa_cons (pe_ix ix_list (pv 1) (pv 3) (fun _ _ => rfl)) (pa_cons (pe_op op_add pe_int (pcall C_law_pull hr (by first | decide | omega) rfl Passes.none (pa_cons (pv 0) (pa_cons pe_int pa_nil)))) pa_nil))))) pa_nil))) (pss_cons (ps_set (i := 3) sc_law_labels.nd rfl (Or.inl rfl) (pe_op op_add (pv 3) (pe_ix ix_list (pe_lst (pa_cons pe_int (pa_cons pe_int (pa_cons pe_int (pa_cons pe_int pa_nil))))) (pcall C_law_pull hr (by first | decide | omega) rfl Passes.none (pa_cons (pv 0) (pa_cons pe_int pa_nil))) (fun _ _ => rfl)))) (pss_one (ps_set (i := 3) sc_law_labels.nd rfl (Or.inl rfl) (pe_callB (c_min2 rfl) (by rfl) T.b_min (by decide +kernel) (pa_cons pe_int (pa_cons (pv 3) pa_nil)))))))))) (pss_cons (ps_if (PW.pt (pw_and (pt_cmpR op_gt (pe_callB c_len (by rfl) T.b_len (by decide +kernel) (pa_cons (pv 2) pa_nil)) pe_int (nomark _)) (pw_and1 (pt_cmpR op_eq (pcall C_law_pull hr (by first | decide | omega) rfl Passes.none (pa_cons (pv 0) (pa_cons pe_int pa_nil))) pe_int (nomark _))))) (pss_cons (ps_set (i := 7) sc_law_labels.nd rfl (Or.inl rfl) (pcall C_law_pull hr (by first | decide | omega) rfl Passes.none (pa_cons (pv 0) (pa_cons (pe_callB c_len (by rfl) T.b_len (by decide +kernel) (pa_cons (pv 2) pa_nil)) pa_nil)))) (pss_cons (ps_set (i := 8) sc_law_labels.nd rfl (Or.inl rfl) (pe_tup (pa_cons (pe_op op_add (pe_ix ix_tup (pe_ix ix_list (pv 2) (pv 7) (fun _ _ => rfl)) pe_int (fun _ _ => rfl)) pe_int) (pa_cons (pe_ix ix_tup (pe_ix ix_list (pv 2) (pv 7) (fun _ _ => rfl)) pe_int (fun _ _ => rfl)) (pa_cons (pe_ix ix_tup (pe_ix ix_list (pv 2) (pv 7) (fun _ _ => rfl)) pe_int (fun _ _ => rfl)) (pa_cons (pe_ix ix_tup (pe_ix ix_list (pv 2) (pv 7) (fun _ _ => rfl)) pe_int (fun _ _ => rfl)) pa_nil)))))) (pss_cons (ps_set (i := 9) sc_law_labels.nd rfl (Or.inl rfl) (pe_lst (pa_cons (pe_op op_cat (pe_op op_cat (pe_slice sl_list (pv 2) po_none (po_some (pv 7))) (pe_lst (pa_cons (pv 8) pa_nil))) (pe_slice sl_list (pv 2) (po_some (pe_op op_add (pv 7) pe_int)) po_none)) (pa_cons (pe_op op_cat (pe_slice sl_list (pv 2) (po_some (pv 7)) po_none) (pe_slice sl_list (pv 2) po_none (po_some (pv 7)))) (pa_cons (pe_op op_cat (pe_slice sl_list (pv 2) po_none (po_some (pe_op op_add (pv 7) pe_int))) (pe_slice sl_list (pv 2) (po_some (pv 7)) po_none)) pa_nil))))) (pss_one (ps_set (i := 2) sc_law_labels.nd rfl (Or.inl rfl) (pe_ix ix_list (pv 9) (pcall C_law_pull hr (by first | decide | omega) rfl Passes.none (pa_cons (pv 0) (pa_cons pe_int pa_nil))) (fun _ _ => rfl))))))) pss_nil) (pss_one (ps_ret (pv 2)))))))), ?_⟩
  show (_ : TS) _ [some wl, some gr, none, none, none, none, none, none, none, none] H
  first | dsimp only [L2.cxOf] | skip
  obtain ⟨a, g, gs, ds, rfl, rfl, W, hg, hds, hgl, hkd, q⟩ := h
  have hga : g ≠ a := fun e => by
    subst e
    obtain ⟨c, n, g, l, e, _⟩ := W
    rw [hg] at e
    cases e
    cases hgl
  walk_at "rd"
  intro L nL
  walk_at "rd"
  refine ⟨a, _, rfl, rfl, by decide, by decide +kernel, W.new nL, fun at0 H1 f1 w1 a0 a1 => ?_⟩
  have e1 : H1 L = some (.lst []) := f1.keep _ _ upd_same (not_One (Well.ne W nL))
  walk_at "rd"
  refine ⟨a, _, rfl, rfl, by decide, by decide +kernel, w1, fun hi H2 f2 w2 h0 h1 => ?_⟩
  have hLa : L ≠ a := Well.ne W nL
  have e2 := f2.keep _ _ e1 (not_One hLa)
  have f02 : Fr (One a) H H2 := (Fr.trans (Fr.new (Fr.refl _) nL) f1).trans f2
  walk_at "rd"
  refine ⟨a, _, rfl, rfl, by decide, by decide +kernel, w2, fun m H3 f3 w3 m0 m1 => ?_⟩
  have e3 := f3.keep _ _ e2 (not_One hLa)
  have f03 := f02.trans f3
  walk_at "rd"
  refine x_forR (n := m.toNat) (fun i σ H' => ∃ (xs : List V) (ls : List Lb) (at1 : Int) (v5 v6 : Option V), σ = [some (.ref a), some (.ref g), some (.ref L), some (.int at1), some (.int hi), v5, v6, none, none, none] ∧
    Fr (One a) H H' ∧ Well H' a ∧ H' L = some (.lst xs) ∧ DtAll H' xs (ls.map lbD) ∧ ls.length = i ∧ (∀ l ∈ ls, LbGood l) ∧ 0 ≤ at1 ∧ at1 ≤ 63 ∧ ∀ l ∈ ls, 0 ≤ l.h + 1 ∧ l.h + 1 ≤ 10) ?_ ?_ ?_
  · exact ⟨[], [], at0, none, none, rfl, f03, w3, e3, .nil, rfl, List.forall_mem_nil _, a0, by omega, List.forall_mem_nil _⟩
  · rintro i σ H4 hi4 ⟨xs, ls, at1, v5, v6, rfl, f4, w4, e4, hd4, hl4, hk4, a40, a41, hhi⟩
    have hxl := hd4.length
    rw [List.length_map] at hxl
    have hi6 : i < 6 := by omega
    walk_at "rd"
    refine ⟨a, _, rfl, rfl, by decide, by decide +kernel, w4, fun r5 H5 f5 w5 r50 r51 => ?_⟩
    have f05 := f4.trans f5
    have e5 := f5.keep _ _ e4 (not_One hLa)
    have hd5 := hd4.mono f5
    walk_at "rd"
    obtain ⟨low, hlow⟩ : ∃ low : Int, low = (if at1 + r5 * (if decide (0 < (0 : Int) + (i : Int)) = true then 1 else 0) < 63 then at1 + r5 * (if decide (0 < (0 : Int) + (i : Int)) = true then 1 else 0) else 63) := ⟨_, rfl⟩
    have hr5 : 0 ≤ r5 * (if decide (0 < (0 : Int) + (i : Int)) = true then 1 else 0) := by split <;> omega
    have l0 : 0 ≤ low := by rw [hlow]; split <;> omega
    have l1 : low ≤ 63 := by rw [hlow]; split <;> omega
    rw [← hlow]
    refine ⟨a, _, rfl, rfl, by decide, by decide +kernel, w5, fun r6 H6 f6 w6 r60 r61 => ?_⟩
    have f06 := f05.trans f6
    have e6 := f6.keep _ _ e5 (not_One hLa)
    have hd6 := hd5.mono f6
    have hg6 := f06.keep _ _ hg (not_One hga)
    have hds6 := hds.mono f06
    walk_at "rd"
    obtain ⟨at2, hat2⟩ : ∃ at2 : Int, at2 = (if low + r6 < 63 then low + r6 else 63) := ⟨_, rfl⟩
    have b0 : 0 ≤ at2 := by rw [hat2]; split <;> omega
    have b1 : at2 ≤ 63 := by rw [hat2]; split <;> omega
    obtain ⟨vl, dl, gl, kl, ml⟩ := pickD hds6 l0 (by rw [hgl]; omega)
    obtain ⟨va, da, ga, ka, ma⟩ := pickD hds6 b0 (by rw [hgl]; omega)
    rw [← hat2]
    walk_at "rd"
    refine ⟨a, _, rfl, rfl, by decide, by decide +kernel, w6, fun r7 H7 f7 w7 r70 r71 => ?_⟩
    have f07 := f06.trans f7
    have e7 := f7.keep _ _ e6 (not_One hLa)
    have hd7 := hd6.mono f7
    have kl7 := kl.mono f7
    have ka7 := ka.mono f7
    have hx7 : xs.length ≤ 100000 := by omega
    walk_at "rd"
    intro p8 n8
    have e8 := keepU (u := .tup [.int hi, vl, va, .int (1 + r7)]) e7 n8
    walk_at "rd"
    have dt8 : Dt (upd H7 p8 (.tup [.int hi, vl, va, .int (1 + r7)])) (.ref p8) (lbD (Lb.mk hi dl da (1 + r7))) := .tup upd_same (.cons (.int _) (.cons (kl7.upd n8) (.cons (ka7.upd n8) (.cons (.int _) .nil))))
    have hd8 := hd7.upd (o := .tup [.int hi, vl, va, .int (1 + r7)]) n8
    have f08 : Fr (One a) H (upd H7 p8 (.tup [.int hi, vl, va, .int (1 + r7)])) := Fr.new f07 n8
    have w8 := w7.new (u := .tup [.int hi, vl, va, .int (1 + r7)]) n8
    generalize upd H7 p8 (.tup [.int hi, vl, va, .int (1 + r7)]) = H8 at e8 dt8 hd8 f08 w8 ⊢
    have e9 : upd H8 L (.lst (xs ++ [.ref p8])) L = some (.lst (xs ++ [.ref p8])) := upd_same
    have hd9 : DtAll (upd H8 L (.lst (xs ++ [.ref p8]))) (xs ++ [.ref p8]) ((ls ++ [Lb.mk hi dl da (1 + r7)]).map lbD) := by
      rw [List.map_append]
      exact DtAll.app (hd8.updm e8 rfl) (DtAll.one (dt8.updm e8 rfl))
    have f09 : Fr (One a) H (upd H8 L (.lst (xs ++ [.ref p8]))) := Fr.mut f08 e8 rfl (.inr nL)
    have w9 : Well (upd H8 L (.lst (xs ++ [.ref p8]))) a := w8.fr (Fr.mut (S := One L) (Fr.refl _) e8 rfl (.inl rfl)) (not_One hLa.symm)
    generalize upd H8 L (.lst (xs ++ [.ref p8])) = H9 at e9 hd9 f09 w9 ⊢
    walk_at "rd"
    intro p10 n10
    walk_at "rd"
    have e10 := keepU (u := .lst [.int 1, .int 1, .int 1, .int 0]) e9 n10
    have g10 : upd H9 p10 (.lst [.int 1, .int 1, .int 1, .int 0]) p10 = some (.lst [.int 1, .int 1, .int 1, .int 0]) := upd_same
    have hd10 := hd9.upd (o := .lst [.int 1, .int 1, .int 1, .int 0]) n10
    have f010 : Fr (One a) H (upd H9 p10 (.lst [.int 1, .int 1, .int 1, .int 0])) := Fr.new f09 n10
    have w10 := w9.new (u := .lst [.int 1, .int 1, .int 1, .int 0]) n10
    have na : p10 ≠ a := Well.ne w9 n10
    generalize upd H9 p10 (.lst [.int 1, .int 1, .int 1, .int 0]) = H10 at e10 g10 hd10 f010 w10 ⊢
    refine ⟨a, _, rfl, rfl, by decide, by decide +kernel, w10, fun r11 H11 f11 w11 r110 r111 => ?_⟩
    have g11 := f11.keep _ _ g10 (not_One na)
    have e11 := f11.keep _ _ e10 (not_One hLa)
    obtain ⟨st, hst, s0, s1⟩ : ∃ st : Int, atI [V.int 1, .int 1, .int 1, .int 0] r11 = some (.int st) ∧ 0 ≤ st ∧ st ≤ 1 := by
      obtain rfl | rfl | rfl | rfl : r11 = 0 ∨ r11 = 1 ∨ r11 = 2 ∨ r11 = 3 := by omega
      · exact ⟨1, rfl, by decide, by decide⟩
      · exact ⟨1, rfl, by decide, by decide⟩
      · exact ⟨1, rfl, by decide, by decide⟩
      · exact ⟨0, rfl, by decide, by decide⟩
    walk_at "rd"
    refine ⟨xs ++ [.ref p8], ls ++ [Lb.mk hi dl da (1 + r7)], _, _, _, rfl, f010.trans f11, w11, e11, hd10.mono f11, by rw [List.length_append, hl4]; rfl, fun l hl => ?_, ?_, ?_, fun l hl => ?_⟩
    · rcases List.mem_append.mp hl with hl | hl
      · exact hk4 l hl
      · rw [List.mem_singleton.mp hl]
        exact ⟨hkd dl ml, hkd da ma, ⟨h0, by show hi ≤ 10; omega⟩, by show 0 ≤ 1 + r7; omega, by show 1 + r7 ≤ 10; omega⟩
    · split <;> omega
    · split <;> omega
    · rcases List.mem_append.mp hl with hl | hl
      · exact hhi l hl
      · rw [List.mem_singleton.mp hl]
        exact ⟨by show 0 ≤ hi + 1; omega, by show hi + 1 ≤ 10; omega⟩
  · rintro σ H4 ⟨xs, ls, at1, v5, v6, rfl, f4, w4, e4, hd4, hl4, hk4, a40, a41, hhi⟩
    have hxl := hd4.length
    rw [List.length_map] at hxl
    have hl6 : ls.length ≤ 6 := by omega
    walk_at "rd"
    refine x_dec (fun c1 => ?_) (fun c1 => ?_)
    · walk_at "rd"
      refine ⟨a, _, rfl, rfl, by decide, by decide +kernel, w4, fun r5 H5 f5 w5 r50 r51 => ?_⟩
      have f05 := f4.trans f5
      have e5 := f5.keep _ _ e4 (not_One hLa)
      have hd5 := hd4.mono f5
      walk_at "rd"
      refine x_dec (fun c2 => ?_) (fun c2 => ?_)
      · walk_at "rd"
        refine ⟨a, _, rfl, rfl, by omega, (PullOk.small (by omega) (by omega)).2, w5, fun k H6 f6 w6 k0 k1 => ?_⟩
        have f06 := f05.trans f6
        have e6 := f6.keep _ _ e5 (not_One hLa)
        have hd6 := hd5.mono f6
        obtain ⟨vk, dk, gk, hdk, mk⟩ := pickD hd6 k0 (by omega)
        obtain ⟨lk, mlk, rfl⟩ := List.mem_map.mp mk
        obtain ⟨pk, y0, y1, y2, y3, rfl, ek, dy0, dy1, dy2, dy3⟩ := DtAll.tup4 hdk
        cases dy0
        have b1 : atI [V.int lk.h, y1, y2, y3] 1 = some y1 := rfl
        have b2 : atI [V.int lk.h, y1, y2, y3] 2 = some y2 := rfl
        have b3 : atI [V.int lk.h, y1, y2, y3] 3 = some y3 := rfl
        walk_at "rd"
        intro po no
        have hx6 : xs.length ≤ 6 := by omega
        have z1 : (xs.take k.toNat).length + [V.ref po].length ≤ 100000 := by simp only [List.length_take, List.length_singleton]; omega
        have z2 : (xs.take k.toNat ++ [V.ref po]).length + (xs.drop (k + 1).toNat).length ≤ 100000 := by simp only [List.length_append, List.length_take, List.length_drop, List.length_singleton]; omega
        have z3 : (xs.drop k.toNat).length + (xs.take k.toNat).length ≤ 100000 := by simp only [List.length_take, List.length_drop]; omega
        have z4 : (xs.take (k + 1).toNat).length + (xs.drop k.toNat).length ≤ 100000 := by simp only [List.length_take, List.length_drop]; omega
        have e_L_Ha := keepU (u := (.tup [.int (lk.h + 1), y1, y2, y3])) e6 no
        have hd_Ha := hd6.upd (o := (.tup [.int (lk.h + 1), y1, y2, y3])) no
        have w_Ha := w6.new (u := (.tup [.int (lk.h + 1), y1, y2, y3])) no
        have f_Ha : Fr (One a) H (upd H6 po (.tup [.int (lk.h + 1), y1, y2, y3])) := Fr.new f06 no
        have o_Ha : Dt (upd H6 po (.tup [.int (lk.h + 1), y1, y2, y3])) (.ref po) (lbD (Lb.mk (lk.h + 1) lk.lo lk.hi lk.n)) := .tup upd_same (.cons (.int _) (.cons (dy1.upd no) (.cons (dy2.upd no) (.cons (dy3.upd no) .nil))))
        have n_Ha : Fresh H po := f06.free no
        generalize upd H6 po (.tup [.int (lk.h + 1), y1, y2, y3]) = Ha at e_L_Ha hd_Ha w_Ha f_Ha o_Ha ⊢
        walk_at "rd"
        intro q1 m1
        rw [cut_to k0]
        have e_L_Hb := keepU (u := (.lst (xs.take k.toNat))) e_L_Ha m1
        have e_q1_Hb : (upd Ha q1 (.lst (xs.take k.toNat))) q1 = some (.lst (xs.take k.toNat)) := upd_same
        have hd_Hb := hd_Ha.upd (o := (.lst (xs.take k.toNat))) m1
        have w_Hb := w_Ha.new (u := (.lst (xs.take k.toNat))) m1
        have f_Hb : Fr (One a) H (upd Ha q1 (.lst (xs.take k.toNat))) := Fr.new f_Ha m1
        have o_Hb := o_Ha.upd (o := (.lst (xs.take k.toNat))) m1
        have n_Hb : Fresh H q1 := f_Ha.free m1
        generalize upd Ha q1 (.lst (xs.take k.toNat)) = Hb at e_L_Hb e_q1_Hb hd_Hb w_Hb f_Hb o_Hb ⊢
        walk_at "rd"
        intro q2 m2
        have e_L_Hc := keepU (u := (.lst ([.ref po]))) e_L_Hb m2
        have e_q1_Hc := keepU (u := (.lst ([.ref po]))) e_q1_Hb m2
        have e_q2_Hc : (upd Hb q2 (.lst ([.ref po]))) q2 = some (.lst ([.ref po])) := upd_same
        have hd_Hc := hd_Hb.upd (o := (.lst ([.ref po]))) m2
        have w_Hc := w_Hb.new (u := (.lst ([.ref po]))) m2
        have f_Hc : Fr (One a) H (upd Hb q2 (.lst ([.ref po]))) := Fr.new f_Hb m2
        have o_Hc := o_Hb.upd (o := (.lst ([.ref po]))) m2
        have n_Hc : Fresh H q2 := f_Hb.free m2
        generalize upd Hb q2 (.lst ([.ref po])) = Hc at e_L_Hc e_q1_Hc e_q2_Hc hd_Hc w_Hc f_Hc o_Hc ⊢
        walk_at "rd"
        intro q3 m3
        have e_L_Hd := keepU (u := (.lst (xs.take k.toNat ++ [.ref po]))) e_L_Hc m3
        have e_q1_Hd := keepU (u := (.lst (xs.take k.toNat ++ [.ref po]))) e_q1_Hc m3
        have e_q2_Hd := keepU (u := (.lst (xs.take k.toNat ++ [.ref po]))) e_q2_Hc m3
        have e_q3_Hd : (upd Hc q3 (.lst (xs.take k.toNat ++ [.ref po]))) q3 = some (.lst (xs.take k.toNat ++ [.ref po])) := upd_same
        have hd_Hd := hd_Hc.upd (o := (.lst (xs.take k.toNat ++ [.ref po]))) m3
        have w_Hd := w_Hc.new (u := (.lst (xs.take k.toNat ++ [.ref po]))) m3
        have f_Hd : Fr (One a) H (upd Hc q3 (.lst (xs.take k.toNat ++ [.ref po]))) := Fr.new f_Hc m3
        have o_Hd := o_Hc.upd (o := (.lst (xs.take k.toNat ++ [.ref po]))) m3
        have n_Hd : Fresh H q3 := f_Hc.free m3
        generalize upd Hc q3 (.lst (xs.take k.toNat ++ [.ref po])) = Hd at e_L_Hd e_q1_Hd e_q2_Hd e_q3_Hd hd_Hd w_Hd f_Hd o_Hd ⊢
        walk_at "rd"
        intro q4 m4
        rw [cut_from (show (0 : Int) ≤ k + 1 by omega)]
        have e_L_He := keepU (u := (.lst (xs.drop (k + 1).toNat))) e_L_Hd m4
        have e_q1_He := keepU (u := (.lst (xs.drop (k + 1).toNat))) e_q1_Hd m4
        have e_q2_He := keepU (u := (.lst (xs.drop (k + 1).toNat))) e_q2_Hd m4
        have e_q3_He := keepU (u := (.lst (xs.drop (k + 1).toNat))) e_q3_Hd m4
        have e_q4_He : (upd Hd q4 (.lst (xs.drop (k + 1).toNat))) q4 = some (.lst (xs.drop (k + 1).toNat)) := upd_same
        have hd_He := hd_Hd.upd (o := (.lst (xs.drop (k + 1).toNat))) m4
        have w_He := w_Hd.new (u := (.lst (xs.drop (k + 1).toNat))) m4
        have f_He : Fr (One a) H (upd Hd q4 (.lst (xs.drop (k + 1).toNat))) := Fr.new f_Hd m4
        have o_He := o_Hd.upd (o := (.lst (xs.drop (k + 1).toNat))) m4
        have n_He : Fresh H q4 := f_Hd.free m4
        generalize upd Hd q4 (.lst (xs.drop (k + 1).toNat)) = He at e_L_He e_q1_He e_q2_He e_q3_He e_q4_He hd_He w_He f_He o_He ⊢
        walk_at "rd"
        intro q5 m5
        have e_L_Hf := keepU (u := (.lst (xs.take k.toNat ++ [.ref po] ++ xs.drop (k + 1).toNat))) e_L_He m5
        have e_q1_Hf := keepU (u := (.lst (xs.take k.toNat ++ [.ref po] ++ xs.drop (k + 1).toNat))) e_q1_He m5
        have e_q2_Hf := keepU (u := (.lst (xs.take k.toNat ++ [.ref po] ++ xs.drop (k + 1).toNat))) e_q2_He m5
        have e_q3_Hf := keepU (u := (.lst (xs.take k.toNat ++ [.ref po] ++ xs.drop (k + 1).toNat))) e_q3_He m5
        have e_q4_Hf := keepU (u := (.lst (xs.take k.toNat ++ [.ref po] ++ xs.drop (k + 1).toNat))) e_q4_He m5
        have e_q5_Hf : (upd He q5 (.lst (xs.take k.toNat ++ [.ref po] ++ xs.drop (k + 1).toNat))) q5 = some (.lst (xs.take k.toNat ++ [.ref po] ++ xs.drop (k + 1).toNat)) := upd_same
        have hd_Hf := hd_He.upd (o := (.lst (xs.take k.toNat ++ [.ref po] ++ xs.drop (k + 1).toNat))) m5
        have w_Hf := w_He.new (u := (.lst (xs.take k.toNat ++ [.ref po] ++ xs.drop (k + 1).toNat))) m5
        have f_Hf : Fr (One a) H (upd He q5 (.lst (xs.take k.toNat ++ [.ref po] ++ xs.drop (k + 1).toNat))) := Fr.new f_He m5
        have o_Hf := o_He.upd (o := (.lst (xs.take k.toNat ++ [.ref po] ++ xs.drop (k + 1).toNat))) m5
        have n_Hf : Fresh H q5 := f_He.free m5
        generalize upd He q5 (.lst (xs.take k.toNat ++ [.ref po] ++ xs.drop (k + 1).toNat)) = Hf at e_L_Hf e_q1_Hf e_q2_Hf e_q3_Hf e_q4_Hf e_q5_Hf hd_Hf w_Hf f_Hf o_Hf ⊢
        walk_at "rd"
        intro q6 m6
        rw [cut_from k0]
        have e_L_Hg := keepU (u := (.lst (xs.drop k.toNat))) e_L_Hf m6
        have e_q1_Hg := keepU (u := (.lst (xs.drop k.toNat))) e_q1_Hf m6
        have e_q2_Hg := keepU (u := (.lst (xs.drop k.toNat))) e_q2_Hf m6
        have e_q3_Hg := keepU (u := (.lst (xs.drop k.toNat))) e_q3_Hf m6
        have e_q4_Hg := keepU (u := (.lst (xs.drop k.toNat))) e_q4_Hf m6
        have e_q5_Hg := keepU (u := (.lst (xs.drop k.toNat))) e_q5_Hf m6
        have e_q6_Hg : (upd Hf q6 (.lst (xs.drop k.toNat))) q6 = some (.lst (xs.drop k.toNat)) := upd_same
        have hd_Hg := hd_Hf.upd (o := (.lst (xs.drop k.toNat))) m6
        have w_Hg := w_Hf.new (u := (.lst (xs.drop k.toNat))) m6
        have f_Hg : Fr (One a) H (upd Hf q6 (.lst (xs.drop k.toNat))) := Fr.new f_Hf m6
        have o_Hg := o_Hf.upd (o := (.lst (xs.drop k.toNat))) m6
        have n_Hg : Fresh H q6 := f_Hf.free m6
        generalize upd Hf q6 (.lst (xs.drop k.toNat)) = Hg at e_L_Hg e_q1_Hg e_q2_Hg e_q3_Hg e_q4_Hg e_q5_Hg e_q6_Hg hd_Hg w_Hg f_Hg o_Hg ⊢
        walk_at "rd"
        intro q7 m7
        rw [cut_to k0]
        have e_L_Hh := keepU (u := (.lst (xs.take k.toNat))) e_L_Hg m7
        have e_q1_Hh := keepU (u := (.lst (xs.take k.toNat))) e_q1_Hg m7
        have e_q2_Hh := keepU (u := (.lst (xs.take k.toNat))) e_q2_Hg m7
        have e_q3_Hh := keepU (u := (.lst (xs.take k.toNat))) e_q3_Hg m7
        have e_q4_Hh := keepU (u := (.lst (xs.take k.toNat))) e_q4_Hg m7
        have e_q5_Hh := keepU (u := (.lst (xs.take k.toNat))) e_q5_Hg m7
        have e_q6_Hh := keepU (u := (.lst (xs.take k.toNat))) e_q6_Hg m7
        have e_q7_Hh : (upd Hg q7 (.lst (xs.take k.toNat))) q7 = some (.lst (xs.take k.toNat)) := upd_same
        have hd_Hh := hd_Hg.upd (o := (.lst (xs.take k.toNat))) m7
        have w_Hh := w_Hg.new (u := (.lst (xs.take k.toNat))) m7
        have f_Hh : Fr (One a) H (upd Hg q7 (.lst (xs.take k.toNat))) := Fr.new f_Hg m7
        have o_Hh := o_Hg.upd (o := (.lst (xs.take k.toNat))) m7
        have n_Hh : Fresh H q7 := f_Hg.free m7
        generalize upd Hg q7 (.lst (xs.take k.toNat)) = Hh at e_L_Hh e_q1_Hh e_q2_Hh e_q3_Hh e_q4_Hh e_q5_Hh e_q6_Hh e_q7_Hh hd_Hh w_Hh f_Hh o_Hh ⊢
        walk_at "rd"
        intro q8 m8
        have e_L_Hi := keepU (u := (.lst (xs.drop k.toNat ++ xs.take k.toNat))) e_L_Hh m8
        have e_q1_Hi := keepU (u := (.lst (xs.drop k.toNat ++ xs.take k.toNat))) e_q1_Hh m8
        have e_q2_Hi := keepU (u := (.lst (xs.drop k.toNat ++ xs.take k.toNat))) e_q2_Hh m8
        have e_q3_Hi := keepU (u := (.lst (xs.drop k.toNat ++ xs.take k.toNat))) e_q3_Hh m8
        have e_q4_Hi := keepU (u := (.lst (xs.drop k.toNat ++ xs.take k.toNat))) e_q4_Hh m8
        have e_q5_Hi := keepU (u := (.lst (xs.drop k.toNat ++ xs.take k.toNat))) e_q5_Hh m8
        have e_q6_Hi := keepU (u := (.lst (xs.drop k.toNat ++ xs.take k.toNat))) e_q6_Hh m8
        have e_q7_Hi := keepU (u := (.lst (xs.drop k.toNat ++ xs.take k.toNat))) e_q7_Hh m8
        have e_q8_Hi : (upd Hh q8 (.lst (xs.drop k.toNat ++ xs.take k.toNat))) q8 = some (.lst (xs.drop k.toNat ++ xs.take k.toNat)) := upd_same
        have hd_Hi := hd_Hh.upd (o := (.lst (xs.drop k.toNat ++ xs.take k.toNat))) m8
        have w_Hi := w_Hh.new (u := (.lst (xs.drop k.toNat ++ xs.take k.toNat))) m8
        have f_Hi : Fr (One a) H (upd Hh q8 (.lst (xs.drop k.toNat ++ xs.take k.toNat))) := Fr.new f_Hh m8
        have o_Hi := o_Hh.upd (o := (.lst (xs.drop k.toNat ++ xs.take k.toNat))) m8
        have n_Hi : Fresh H q8 := f_Hh.free m8
        generalize upd Hh q8 (.lst (xs.drop k.toNat ++ xs.take k.toNat)) = Hi at e_L_Hi e_q1_Hi e_q2_Hi e_q3_Hi e_q4_Hi e_q5_Hi e_q6_Hi e_q7_Hi e_q8_Hi hd_Hi w_Hi f_Hi o_Hi ⊢
        walk_at "rd"
        intro q9 m9
        rw [cut_to (show (0 : Int) ≤ k + 1 by omega)]
        have e_L_Hj := keepU (u := (.lst (xs.take (k + 1).toNat))) e_L_Hi m9
        have e_q1_Hj := keepU (u := (.lst (xs.take (k + 1).toNat))) e_q1_Hi m9
        have e_q2_Hj := keepU (u := (.lst (xs.take (k + 1).toNat))) e_q2_Hi m9
        have e_q3_Hj := keepU (u := (.lst (xs.take (k + 1).toNat))) e_q3_Hi m9
        have e_q4_Hj := keepU (u := (.lst (xs.take (k + 1).toNat))) e_q4_Hi m9
        have e_q5_Hj := keepU (u := (.lst (xs.take (k + 1).toNat))) e_q5_Hi m9
        have e_q6_Hj := keepU (u := (.lst (xs.take (k + 1).toNat))) e_q6_Hi m9
        have e_q7_Hj := keepU (u := (.lst (xs.take (k + 1).toNat))) e_q7_Hi m9
        have e_q8_Hj := keepU (u := (.lst (xs.take (k + 1).toNat))) e_q8_Hi m9
        have e_q9_Hj : (upd Hi q9 (.lst (xs.take (k + 1).toNat))) q9 = some (.lst (xs.take (k + 1).toNat)) := upd_same
        have hd_Hj := hd_Hi.upd (o := (.lst (xs.take (k + 1).toNat))) m9
        have w_Hj := w_Hi.new (u := (.lst (xs.take (k + 1).toNat))) m9
        have f_Hj : Fr (One a) H (upd Hi q9 (.lst (xs.take (k + 1).toNat))) := Fr.new f_Hi m9
        have o_Hj := o_Hi.upd (o := (.lst (xs.take (k + 1).toNat))) m9
        have n_Hj : Fresh H q9 := f_Hi.free m9
        generalize upd Hi q9 (.lst (xs.take (k + 1).toNat)) = Hj at e_L_Hj e_q1_Hj e_q2_Hj e_q3_Hj e_q4_Hj e_q5_Hj e_q6_Hj e_q7_Hj e_q8_Hj e_q9_Hj hd_Hj w_Hj f_Hj o_Hj ⊢
        walk_at "rd"
        intro q10 m10
        rw [cut_from k0]
        have e_L_Hk := keepU (u := (.lst (xs.drop k.toNat))) e_L_Hj m10
        have e_q1_Hk := keepU (u := (.lst (xs.drop k.toNat))) e_q1_Hj m10
        have e_q2_Hk := keepU (u := (.lst (xs.drop k.toNat))) e_q2_Hj m10
        have e_q3_Hk := keepU (u := (.lst (xs.drop k.toNat))) e_q3_Hj m10
        have e_q4_Hk := keepU (u := (.lst (xs.drop k.toNat))) e_q4_Hj m10
        have e_q5_Hk := keepU (u := (.lst (xs.drop k.toNat))) e_q5_Hj m10
        have e_q6_Hk := keepU (u := (.lst (xs.drop k.toNat))) e_q6_Hj m10
        have e_q7_Hk := keepU (u := (.lst (xs.drop k.toNat))) e_q7_Hj m10
        have e_q8_Hk := keepU (u := (.lst (xs.drop k.toNat))) e_q8_Hj m10
        have e_q9_Hk := keepU (u := (.lst (xs.drop k.toNat))) e_q9_Hj m10
        have e_q10_Hk : (upd Hj q10 (.lst (xs.drop k.toNat))) q10 = some (.lst (xs.drop k.toNat)) := upd_same
        have hd_Hk := hd_Hj.upd (o := (.lst (xs.drop k.toNat))) m10
        have w_Hk := w_Hj.new (u := (.lst (xs.drop k.toNat))) m10
        have f_Hk : Fr (One a) H (upd Hj q10 (.lst (xs.drop k.toNat))) := Fr.new f_Hj m10
        have o_Hk := o_Hj.upd (o := (.lst (xs.drop k.toNat))) m10
        have n_Hk : Fresh H q10 := f_Hj.free m10
        generalize upd Hj q10 (.lst (xs.drop k.toNat)) = Hk at e_L_Hk e_q1_Hk e_q2_Hk e_q3_Hk e_q4_Hk e_q5_Hk e_q6_Hk e_q7_Hk e_q8_Hk e_q9_Hk e_q10_Hk hd_Hk w_Hk f_Hk o_Hk ⊢
        walk_at "rd"
        intro q11 m11
        have e_L_Hl := keepU (u := (.lst (xs.take (k + 1).toNat ++ xs.drop k.toNat))) e_L_Hk m11
        have e_q1_Hl := keepU (u := (.lst (xs.take (k + 1).toNat ++ xs.drop k.toNat))) e_q1_Hk m11
        have e_q2_Hl := keepU (u := (.lst (xs.take (k + 1).toNat ++ xs.drop k.toNat))) e_q2_Hk m11
        have e_q3_Hl := keepU (u := (.lst (xs.take (k + 1).toNat ++ xs.drop k.toNat))) e_q3_Hk m11
        have e_q4_Hl := keepU (u := (.lst (xs.take (k + 1).toNat ++ xs.drop k.toNat))) e_q4_Hk m11
        have e_q5_Hl := keepU (u := (.lst (xs.take (k + 1).toNat ++ xs.drop k.toNat))) e_q5_Hk m11
        have e_q6_Hl := keepU (u := (.lst (xs.take (k + 1).toNat ++ xs.drop k.toNat))) e_q6_Hk m11
        have e_q7_Hl := keepU (u := (.lst (xs.take (k + 1).toNat ++ xs.drop k.toNat))) e_q7_Hk m11
        have e_q8_Hl := keepU (u := (.lst (xs.take (k + 1).toNat ++ xs.drop k.toNat))) e_q8_Hk m11
        have e_q9_Hl := keepU (u := (.lst (xs.take (k + 1).toNat ++ xs.drop k.toNat))) e_q9_Hk m11
        have e_q10_Hl := keepU (u := (.lst (xs.take (k + 1).toNat ++ xs.drop k.toNat))) e_q10_Hk m11
        have e_q11_Hl : (upd Hk q11 (.lst (xs.take (k + 1).toNat ++ xs.drop k.toNat))) q11 = some (.lst (xs.take (k + 1).toNat ++ xs.drop k.toNat)) := upd_same
        have hd_Hl := hd_Hk.upd (o := (.lst (xs.take (k + 1).toNat ++ xs.drop k.toNat))) m11
        have w_Hl := w_Hk.new (u := (.lst (xs.take (k + 1).toNat ++ xs.drop k.toNat))) m11
        have f_Hl : Fr (One a) H (upd Hk q11 (.lst (xs.take (k + 1).toNat ++ xs.drop k.toNat))) := Fr.new f_Hk m11
        have o_Hl := o_Hk.upd (o := (.lst (xs.take (k + 1).toNat ++ xs.drop k.toNat))) m11
        have n_Hl : Fresh H q11 := f_Hk.free m11
        generalize upd Hk q11 (.lst (xs.take (k + 1).toNat ++ xs.drop k.toNat)) = Hl at e_L_Hl e_q1_Hl e_q2_Hl e_q3_Hl e_q4_Hl e_q5_Hl e_q6_Hl e_q7_Hl e_q8_Hl e_q9_Hl e_q10_Hl e_q11_Hl hd_Hl w_Hl f_Hl o_Hl ⊢
        walk_at "rd"
        intro q12 m12
        have e_L_Hm := keepU (u := (.lst ([.ref q5, .ref q8, .ref q11]))) e_L_Hl m12
        have e_q1_Hm := keepU (u := (.lst ([.ref q5, .ref q8, .ref q11]))) e_q1_Hl m12
        have e_q2_Hm := keepU (u := (.lst ([.ref q5, .ref q8, .ref q11]))) e_q2_Hl m12
        have e_q3_Hm := keepU (u := (.lst ([.ref q5, .ref q8, .ref q11]))) e_q3_Hl m12
        have e_q4_Hm := keepU (u := (.lst ([.ref q5, .ref q8, .ref q11]))) e_q4_Hl m12
        have e_q5_Hm := keepU (u := (.lst ([.ref q5, .ref q8, .ref q11]))) e_q5_Hl m12
        have e_q6_Hm := keepU (u := (.lst ([.ref q5, .ref q8, .ref q11]))) e_q6_Hl m12
        have e_q7_Hm := keepU (u := (.lst ([.ref q5, .ref q8, .ref q11]))) e_q7_Hl m12
        have e_q8_Hm := keepU (u := (.lst ([.ref q5, .ref q8, .ref q11]))) e_q8_Hl m12
        have e_q9_Hm := keepU (u := (.lst ([.ref q5, .ref q8, .ref q11]))) e_q9_Hl m12
        have e_q10_Hm := keepU (u := (.lst ([.ref q5, .ref q8, .ref q11]))) e_q10_Hl m12
        have e_q11_Hm := keepU (u := (.lst ([.ref q5, .ref q8, .ref q11]))) e_q11_Hl m12
        have e_q12_Hm : (upd Hl q12 (.lst ([.ref q5, .ref q8, .ref q11]))) q12 = some (.lst ([.ref q5, .ref q8, .ref q11])) := upd_same
        have hd_Hm := hd_Hl.upd (o := (.lst ([.ref q5, .ref q8, .ref q11]))) m12
        have w_Hm := w_Hl.new (u := (.lst ([.ref q5, .ref q8, .ref q11]))) m12
        have f_Hm : Fr (One a) H (upd Hl q12 (.lst ([.ref q5, .ref q8, .ref q11]))) := Fr.new f_Hl m12
        have o_Hm := o_Hl.upd (o := (.lst ([.ref q5, .ref q8, .ref q11]))) m12
        have n_Hm : Fresh H q12 := f_Hl.free m12
        generalize upd Hl q12 (.lst ([.ref q5, .ref q8, .ref q11])) = Hm at e_L_Hm e_q1_Hm e_q2_Hm e_q3_Hm e_q4_Hm e_q5_Hm e_q6_Hm e_q7_Hm e_q8_Hm e_q9_Hm e_q10_Hm e_q11_Hm e_q12_Hm hd_Hm w_Hm f_Hm o_Hm ⊢
        walk_at "rd"
        refine ⟨a, _, rfl, rfl, by decide, by decide +kernel, w_Hm, fun r19 H19 f19 w19 r190 r191 => ?_⟩
        have g12 := f19.keep _ _ e_q12_Hm (not_One (Well.ne W n_Hm))
        have hd19 := hd_Hm.mono f19
        have o19 := o_Hm.mono f19
        have hgk := hk4 lk mlk
        have hgo : LbGood (Lb.mk (lk.h + 1) lk.lo lk.hi lk.n) := ⟨hgk.1, hgk.2.1, hhi lk mlk, hgk.2.2.2⟩
        obtain rfl | rfl | rfl : r19 = 0 ∨ r19 = 1 ∨ r19 = 2 := by omega
        · have ix : atI [V.ref q5, .ref q8, .ref q11] 0 = some (.ref q5) := rfl
          walk_at "rd"
          refine q _ _ _ (ls.take k.toNat ++ [Lb.mk (lk.h + 1) lk.lo lk.hi lk.n] ++ ls.drop (k + 1).toNat) (f_Hm.trans f19) w19 n_Hf (f19.keep _ _ e_q5_Hm (not_One (Well.ne W n_Hf))) ?_ (by simp only [List.length_append, List.length_take, List.length_drop, List.length_singleton]; omega) fun l hl => ?_
          · rw [List.map_append, List.map_append, List.map_take, List.map_drop]
            exact DtAll.app (DtAll.app (hd19.take _) (DtAll.one o19)) (hd19.drop _)
          · rcases List.mem_append.mp hl with hl | hl
            · rcases List.mem_append.mp hl with hl | hl
              · exact hk4 l (List.mem_of_mem_take hl)
              · rw [List.mem_singleton.mp hl]; exact hgo
            · exact hk4 l (List.mem_of_mem_drop hl)
        · have ix : atI [V.ref q5, .ref q8, .ref q11] 1 = some (.ref q8) := rfl
          walk_at "rd"
          refine q _ _ _ (ls.drop k.toNat ++ ls.take k.toNat) (f_Hm.trans f19) w19 n_Hi (f19.keep _ _ e_q8_Hm (not_One (Well.ne W n_Hi))) ?_ (by simp only [List.length_append, List.length_take, List.length_drop]; omega) fun l hl => ?_
          · rw [List.map_append, List.map_take, List.map_drop]
            exact DtAll.app (hd19.drop _) (hd19.take _)
          · rcases List.mem_append.mp hl with hl | hl
            · exact hk4 l (List.mem_of_mem_drop hl)
            · exact hk4 l (List.mem_of_mem_take hl)
        · have ix : atI [V.ref q5, .ref q8, .ref q11] 2 = some (.ref q11) := rfl
          walk_at "rd"
          refine q _ _ _ (ls.take (k + 1).toNat ++ ls.drop k.toNat) (f_Hm.trans f19) w19 n_Hl (f19.keep _ _ e_q11_Hm (not_One (Well.ne W n_Hl))) ?_ (by simp only [List.length_append, List.length_take, List.length_drop]; omega) fun l hl => ?_
          · rw [List.map_append, List.map_take, List.map_drop]
            exact DtAll.app (hd19.take _) (hd19.drop _)
          · rcases List.mem_append.mp hl with hl | hl
            · exact hk4 l (List.mem_of_mem_take hl)
            · exact hk4 l (List.mem_of_mem_drop hl)
      · walk_at "rd"
        exact q _ _ _ _ f05 w5 nL e5 hd5 (by omega) hk4
    · walk_at "rd"
      exact q _ _ _ _ f4 w4 nL e4 hd4 (by omega) hk4
end

-- the def top 17
theorem sc_law_rank : FnScope ["_law_spot", "_law_part"] ["_law_spot"] (defScope s_law_rank) := ⟨rfl, rfl, rfl, by decide +kernel, rfl, by decide +kernel, by decide +kernel⟩
/-- the key in the place of which the program compares -/
def B_law_rank (r : Nat) : BK1 := fun k H Q _ => ∃ d, Dt H k d ∧ isK r d ∧ ∀ v H', Fr Non H H' → Dt H' v (rankD d) → Q v H'
section
variable {P : Program} {w : World} {K : PySem.W.Frag} {mg : Str → Option Value} {base : Heap}
theorem step_law_rank (T : TX K mg) (r k : Nat) (spR : Sp) (hR : ∀ r1, r = r1 + 1 → ∀ vs H Q E, Sp1 (B_law_rank r1) vs H Q E → spR vs H Q E) (C_law_rank : CalX P w K mg base k "_law_rank" ["_law_spot"] spR) (hk : 1 ≤ k) : CalX P w K mg base (k + 1) "_law_rank" ["_law_spot"] (Sp1 (B_law_rank r)) := by
  obtain ⟨f, fd, F, hm, bd⟩ := T.d_law_rank.ex
  refine ⟨f, fd, F.okX sc_law_rank len1 (fun cdv A outer s H vs Q E hr h => ?_), hm, F.kp, bd⟩
  obtain ⟨k, rfl, h⟩ := h
  refine ⟨_, (pss_cons (ps_if (pt_val (pe_callB call_isi (by rfl) T.b_isinstance PyProof.Rows.boot_isinstance (pa_cons (pv 0) (pa_cons (pe_bltn (v := .ty "int") rfl T.b_int PyProof.Rows.boot_int rfl) pa_nil)))) (pss_one (ps_ret (pe_tup (pa_cons pe_int (pa_cons (pv 0) (pa_cons pe_str (pa_cons (pe_tup pa_nil) pa_nil))))))) pss_nil) (pss_cons (ps_if (pt_val (pe_callB call_isi (by rfl) T.b_isinstance PyProof.Rows.boot_isinstance (pa_cons (pv 0) (pa_cons (pe_bltn (v := .ty "str") rfl T.b_str PyProof.Rows.boot_str rfl) pa_nil)))) (pss_one (ps_ret (pe_tup (pa_cons pe_int (pa_cons pe_int (pa_cons (pv 0) (pa_cons (pe_tup pa_nil) pa_nil))))))) pss_nil) (pss_one (ps_ret (pe_tup (pa_cons pe_int (pa_cons pe_int (pa_cons pe_str (pa_cons (pe_callTy c_tupOf (by rfl) T.b_tuple (by decide +kernel) (pa_cons (pe_lc (own := [("_law_part", 1)]) (g := gName 1) (tt := tYes) rfl sc_law_rank.nd (pi_tup (pv 0)) (blkOk_by (N := ["_law_spot", "_law_part"]) (sc := defScope s_law_rank) (own := [("_law_part", 1)]) (by decide +kernel)) (fun _ _ _ _ _ => pg_name (i := 1) sc_law_rank.nd rfl (by first | exact Or.inl rfl | exact Or.inr rfl)) (fun _ _ _ _ _ => pts_nil) (fun _ _ _ _ _ => (pcall C_law_rank hr (by first | decide | omega) rfl Passes.none (pa_cons (pv 1) pa_nil)))) pa_nil)) pa_nil))))))))), ?_⟩
  show (_ : TS) _ [some k, none] H
  first | dsimp only [L2.cxOf] | skip
  obtain ⟨d, hd, hk, q⟩ := h
  rcases isK_cases hk with ⟨i, rfl, hi⟩ | ⟨z, rfl, hz⟩ | ⟨r1, ds, rfl, rfl, hl, hs⟩
  · cases hd
    walk_at "rd"
    intro p1 n1
    walk_at "rd"
    intro p2 n2
    exact q _ _ (by walk_at "fr") (by rw [rankD]; walk_at "dt")
  · cases hd
    walk_at "rd"
    intro p1 n1
    walk_at "rd"
    intro p2 n2
    exact q _ _ (by walk_at "fr") (by rw [rankD]; walk_at "dt")
  · cases hd with
    | @tup a xs _ e hx =>
    have hlx : xs.length ≤ 4 := by rw [hx.length]; exact hl
    walk_at "rd"
    refine x_iRef (C := fun a => ∃ xs, SqT K H a xs) ⟨xs, SqT.of e⟩ ?_
    walk_at "rd"
    intro D nD
    refine x_lcT xs (fun i H' => ∃ acc, H' D = some (.lst acc) ∧ DtAll H' acc (rankAll (ds.take i)) ∧ acc.length = i ∧ Fr Non H H') ⟨[], upd_same, .nil, rfl, by walk_at "fr"⟩ (fun i H' _ ⟨_, _, _, _, f⟩ => SqT.of (f.tup _ _ e)) ?_ ?_
    · rintro i x H3 hxi ⟨acc, hD, hds, hla, f3⟩
      obtain ⟨d, hd1, hd2⟩ := hx.get hxi
      have hil : i < xs.length := (List.getElem?_eq_some_iff.mp hxi).1
      have hla4 : acc.length ≤ 100000 := by omega
      walk_at "rd"
      refine hR r1 rfl _ _ _ _ ?_
      walk_at "rd"
      refine ⟨d, hd2.mono f3, hs d (List.mem_of_getElem? hd1), fun v H4 f4 hv => ?_⟩
      walk_at "rd"
      refine ⟨acc ++ [v], upd_same, ?_, by rw [List.length_append, hla]; rfl, ?_⟩
      · rw [List.take_add_one, hd1, rankAll_map, List.map_append, ← rankAll_map]
        exact DtAll.app (by walk_at "dt") (DtAll.one (by walk_at "dt"))
      · walk_at "fr"
    · rintro H3 ⟨acc, hD, hds, hla, f3⟩
      rw [List.take_of_length_le (by rw [← hx.length]; exact Nat.le_refl _)] at hds
      walk_at "rd"
      intro l1 n1
      walk_at "rd"
      intro l2 n2
      exact q _ _ (by walk_at "fr") (by rw [rankD]; walk_at "dt")
theorem ok_law_rank (T : TX K mg) : ∀ r : Nat, CalX P w K mg base (2 + r) "_law_rank" ["_law_spot"] (Sp1 (B_law_rank r))
  | 0 => step_law_rank T 0 1 _ (fun _ e => nomatch e) (CalX.never T.d_law_rank sc_law_rank (by decide)) (Nat.le_refl _)
  | r + 1 => step_law_rank T (r + 1) (2 + r) _ (fun r1 e => by cases e; exact fun _ _ _ _ h => h) (ok_law_rank T r) (by omega)
end

-- the def top 18
theorem sc_law_less : FnScope ["_law_one", "_law_other"] ["_law_one", "_law_other"] (defScope s_law_less) := ⟨rfl, rfl, rfl, by decide +kernel, rfl, by decide +kernel, by decide +kernel⟩
def B_law_less : BK2 := fun one other H Q _ => ∃ d e, Dt H one d ∧ Dt H other e ∧ isK 3 d ∧ isK 3 e ∧ ∀ H', Fr Non H H' → Q (.bl (ltK d e)) H'
section
variable {P : Program} {w : World} {K : PySem.W.Frag} {mg : Str → Option Value} {base : Heap}
theorem ok_law_less (T : TX K mg) : CalX P w K mg base 6 "_law_less" ["_law_one", "_law_other"] (Sp2 (B_law_less)) := by
  have C_law_rank := ok_law_rank (P := P) (w := w) (base := base) T 3
  obtain ⟨f, fd, F, hm, bd⟩ := T.d_law_less.ex
  refine ⟨f, fd, F.okX sc_law_less len2 (fun cdv A outer s H vs Q E hr h => ?_), hm, F.kp, bd⟩
  obtain ⟨one, other, rfl, h⟩ := h
  refine ⟨_, (pss_one (ps_ret (pe_cmpR (op_ltD hr.units) (pcall C_law_rank hr (by first | decide | omega) rfl Passes.none (pa_cons (pv 0) pa_nil)) (pcall C_law_rank hr (by first | decide | omega) rfl Passes.none (pa_cons (pv 1) pa_nil)) (nomark _)))), ?_⟩
  show (_ : TS) _ [some one, some other] H
  first | dsimp only [L2.cxOf] | skip
  obtain ⟨d, e, hd, he, kd, ke, q⟩ := h
  walk_at "rd"
  refine ⟨d, hd, kd, fun v H1 f1 h1 => ?_⟩
  walk_at "rd"
  refine ⟨e, he.mono f1, ke, fun u H2 f2 h2 => ?_⟩
  walk_at "rd"
  exact x_ltD (Dt.dp _ _ (h1.mono f2)) (Dt.dp _ _ h2) (rank_alike d e) (rank_ne d) (Nat.le_trans (rank_depth kd) (by decide)) (q _ (f1.trans f2))
end

-- the def top 23
theorem sc_law_due : FnScope ["_law_labels_here", "_law_j", "_law_label"] ["_law_labels_here"] (defScope s_law_due) := ⟨rfl, rfl, rfl, by decide +kernel, rfl, by decide +kernel, by decide +kernel⟩
def B_law_due : BK1 := fun x H Q _ => ∃ (a : Addr) (xs : List V) (ls : List Lb), x = .ref a ∧ H a = some (.lst xs) ∧ DtAll H xs (ls.map lbD) ∧ ls.length ≤ 1000 ∧ (∀ l ∈ ls, isK 3 l.lo ∧ isK 3 l.hi) ∧
  (∀ f l, lbOk ls = true → ls.head? = some f → ls.getLast? = some l → ∀ v H', Fr Non H H' → Dt H' v (lbOver ls f l) → Q v H') ∧ (lbOk ls = false → ∀ H', Fr Non H H' → Q .non H')
section
variable {P : Program} {w : World} {K : PySem.W.Frag} {mg : Str → Option Value} {base : Heap}
theorem ok_law_due (T : TX K mg) : CalX P w K mg base 7 "_law_due" ["_law_labels_here"] (Sp1 (B_law_due)) := by
  have C_law_less := ok_law_less (P := P) (w := w) (base := base) T
  obtain ⟨f, fd, F, hm, bd⟩ := T.d_law_due.ex
  refine ⟨f, fd, F.okX sc_law_due len1 (fun cdv A outer s H vs Q E hr h => ?_), hm, F.kp, bd⟩
  obtain ⟨ls, rfl, h⟩ := h
  refine ⟨_, (pss_cons (ps_if (pt_not (pt_chain op_le op_le pe_int (pe_callB c_len (by rfl) T.b_len (by decide +kernel) (pa_cons (pv 0) pa_nil)) pe_int)) (pss_one (ps_ret pe_non)) pss_nil) (pss_cons (ps_for (passes_of rfl) rfl (pi_range2 rfl T.b_range (pa_cons pe_int (pa_cons (pe_callB c_len (by rfl) T.b_len (by decide +kernel) (pa_cons (pv 0) pa_nil)) pa_nil))) (pg_name (i := 1) sc_law_due.nd rfl (Or.inl rfl)) (pss_one (ps_if (PW.pt (pw_or (pt_cmpR op_ne (pe_ix ix_tup (pe_ix ix_list (pv 0) (pv 1) (fun _ _ => rfl)) pe_int (fun _ _ => rfl)) (pe_ix ix_tup (pe_ix ix_list (pv 0) pe_int (fun _ _ => rfl)) pe_int (fun _ _ => rfl)) (nomark _)) (pw_or1 (pt_not (pt_val (pcall C_law_less hr (by first | decide | omega) rfl Passes.none (pa_cons (pe_ix ix_tup (pe_ix ix_list (pv 0) (pe_op op_sub (pv 1) pe_int) (fun _ _ => rfl)) pe_int (fun _ _ => rfl)) (pa_cons (pe_ix ix_tup (pe_ix ix_list (pv 0) (pv 1) (fun _ _ => rfl)) pe_int (fun _ _ => rfl)) pa_nil)))))))) (pss_one (ps_ret pe_non)) pss_nil))) (pss_one (ps_ret (pe_tup (pa_cons (pe_op op_add (pe_ix ix_tup (pe_ix ix_list (pv 0) pe_int (fun _ _ => rfl)) pe_int (fun _ _ => rfl)) pe_int) (pa_cons (pe_ix ix_tup (pe_ix ix_list (pv 0) pe_int (fun _ _ => rfl)) pe_int (fun _ _ => rfl)) (pa_cons (pe_ix ix_tup (pe_ix ix_list (pv 0) (pe_un un_neg pe_int) (fun _ _ => rfl)) pe_int (fun _ _ => rfl)) (pa_cons (pe_callB (cr_sum rfl) (by rfl) T.b_sum (by decide +kernel) (pa_cons (pe_lc (own := [("_law_label", 2)]) (g := gName 2) (tt := tYes) rfl sc_law_due.nd (pi_list (pv 0)) (blkOk_by (N := ["_law_labels_here", "_law_j", "_law_label"]) (sc := defScope s_law_due) (own := [("_law_label", 2)]) (by decide +kernel)) (fun _ _ _ _ _ => pg_name (i := 2) sc_law_due.nd rfl (by first | exact Or.inl rfl | exact Or.inr rfl)) (fun _ _ _ _ _ => pts_nil) (fun _ _ _ _ _ => (pe_ix (r := rIxT K) ix_tup (pv 2) pe_int (fun _ _ => rfl)))) pa_nil)) pa_nil))))))))), ?_⟩
  show (_ : TS) _ [some ls, none, none] H
  first | dsimp only [L2.cxOf] | skip
  obtain ⟨a, xs, ls, rfl, hH, hd, hn, hk, q1, q2⟩ := h
  have hlen := hd.length
  rw [List.length_map] at hlen
  walk_at "rd"
  refine x_dec (fun c1 => ?_) (fun c1 => ?_)
  rotate_left
  · walk_at "rd"
    exact q2 (lbOk_len (.inl (by omega))) _ (Fr.refl _)
  · walk_at "rd"
    refine x_ndec (fun c2 => ?_) (fun c2 => ?_)
    · walk_at "rd"
      exact q2 (lbOk_len (.inr (by omega))) _ (Fr.refl _)
    · obtain ⟨f, hf⟩ : ∃ f, ls.head? = some f := by
        cases ls with
        | nil => simp only [List.length_nil] at hlen; omega
        | cons f r => exact ⟨f, rfl⟩
      obtain ⟨l, hl⟩ : ∃ l, ls.getLast? = some l := by
        cases hq : ls.getLast? with
        | some l => exact ⟨l, rfl⟩
        | none => rw [List.getLast?_eq_none_iff] at hq; subst hq; simp only [List.length_nil] at hlen; omega
      have hrun := lbOk_run (by omega) (by omega) hf
      obtain ⟨vf, gf, kf⟩ := hd.head (d := lbD f) (by rw [List.head?_map, hf]; rfl)
      obtain ⟨pf, f0, f1, f2, f3, rfl, ef, df0, df1, df2, df3⟩ := DtAll.tup4 kf
      cases df0
      have hrg : (-(2 ^ 62) ≤ (1 : Int) ∧ (1 : Int) < 2 ^ 62 ∧ -(2 ^ 62) ≤ ((xs.length : Nat) : Int) ∧ ((xs.length : Nat) : Int) < 2 ^ 62) := ⟨by decide, by decide, by omega, by omega⟩
      walk_at "rd"
      refine ⟨_, _, rfl, hrg, ?_⟩
      have hn1 : (((xs.length : Nat) : Int) - 1).toNat = ls.length - 1 := by omega
      rw [hn1]
      refine x_forR (n := ls.length - 1) (fun i σ H' => ∃ (v1 v2 : Option V), σ = [some (.ref a), v1, v2] ∧ Fr Non H H' ∧ lbOk ls = lbRun f (ls.drop i)) ⟨_, _, rfl, Fr.refl _, by rw [List.drop_zero]; exact hrun⟩ ?_ ?_
      · rintro i σ H1 hi ⟨v1, v2, rfl, fr1, hr1⟩
        have hi1 : i < xs.length := by omega
        have hi2 : i + 1 < xs.length := by omega
        have ex := List.getElem?_eq_getElem hi1
        have ey := List.getElem?_eq_getElem hi2
        obtain ⟨dx, gx, kx⟩ := hd.get ex
        obtain ⟨dy, gy, ky⟩ := hd.get ey
        rw [List.getElem?_map] at gx gy
        obtain ⟨lx, hlx, rfl⟩ := Option.map_eq_some_iff.mp gx
        obtain ⟨ly, hly, rfl⟩ := Option.map_eq_some_iff.mp gy
        obtain ⟨px, x0, x1, x2, x3, rx, exx, dx0, dx1, dx2, dx3⟩ := DtAll.tup4 kx
        obtain ⟨py, y0, y1, y2, y3, ry, eyy, dy0, dy1, dy2, dy3⟩ := DtAll.tup4 ky
        rw [rx] at ex
        rw [ry] at ey
        cases dx0
        cases dy0
        have ax : atI xs (1 + (i : Int) - 1) = some (.ref px) := by
          have e : 1 + (i : Int) - 1 = ((i : Nat) : Int) := by omega
          rw [e]; exact atI_nat ex
        have ay : atI xs (1 + (i : Int)) = some (.ref py) := by
          have e : 1 + (i : Int) = ((i + 1 : Nat) : Int) := by omega
          rw [e]; exact atI_nat ey
        have hH1 := fr1.keep _ _ hH id
        have exx1 := fr1.tup _ _ exx
        have eyy1 := fr1.tup _ _ eyy
        have ef1 := fr1.tup _ _ ef
        have a2 : atI [V.int lx.h, x1, x2, x3] 2 = some x2 := rfl
        have a1 : atI [V.int ly.h, y1, y2, y3] 1 = some y1 := rfl
        have hdr := lb_drop hlx hly f
        have hkx := (hk lx (List.mem_of_getElem? hlx)).2
        have hky := (hk ly (List.mem_of_getElem? hly)).1
        walk_at "rd"
        refine x_ndec (fun c3 => ?_) (fun c3 => ?_)
        · walk_at "rd"
          refine q2 ?_ _ fr1
          rw [hr1, hdr]
          unfold lbStep
          rw [decide_eq_false c3]; rfl
        · walk_at "rd"
          refine ⟨lx.hi, ly.lo, dx2.mono fr1, dy1.mono fr1, hkx, hky, fun H2 fr2 => ?_⟩
          walk_at "rd"
          cases hb : ltK lx.hi ly.lo with
          | true =>
            walk_at "rd"
            refine ⟨_, _, rfl, fr1.trans fr2, ?_⟩
            rw [hr1, hdr]
            unfold lbStep
            rw [decide_eq_true c3, hb]; rfl
          | false =>
            walk_at "rd"
            refine q2 ?_ _ (fr1.trans fr2)
            rw [hr1, hdr]
            unfold lbStep
            rw [decide_eq_true c3, hb]; rfl
      · rintro σ H1 ⟨v1, v2, rfl, fr1, hr1⟩
        have hok : lbOk ls = true := by rw [hr1]; exact lb_last (by omega) f
        have hH1 := fr1.keep _ _ hH id
        have ef1 := fr1.tup _ _ ef
        have hd1 := hd.mono fr1
        obtain ⟨vl, gl, kl⟩ := hd.last (d := lbD l) (by rw [List.getLast?_map, hl]; rfl)
        obtain ⟨pl, l0, l1, l2, l3, rfl, el, dl0, dl1, dl2, dl3⟩ := DtAll.tup4 kl
        have el1 := fr1.tup _ _ el
        have b1 : atI [V.int f.h, f1, f2, f3] 1 = some f1 := rfl
        have b2 : atI [l0, l1, l2, l3] 2 = some l2 := rfl
        walk_at "rd"
        refine x_iRef (C := fun a => ∃ xs, SqL K H1 a xs) ⟨xs, SqL.of hH1⟩ ?_
        walk_at "rd"
        intro D nD
        have nD0 : Fresh H D := fr1.free nD
        refine x_lcL xs (fun i H' => Fr Non H1 H' ∧ H' D = some (.lst (((ls.take i).map (·.n)).map V.int))) ⟨by walk_at "fr", upd_same⟩ (fun i H' _ ⟨g, _⟩ => SqL.of (g.keep _ _ hH1 id)) ?_ ?_
        · rintro i x H2 hx ⟨fr2, hD⟩
          obtain ⟨dx, gx, kx⟩ := hd1.get hx
          rw [List.getElem?_map] at gx
          obtain ⟨lx, hlx, rfl⟩ := Option.map_eq_some_iff.mp gx
          obtain ⟨px, x0, x1, x2, x3, rfl, exx, dx0, dx1, dx2, dx3⟩ := DtAll.tup4 kx
          cases dx3
          have exx2 := fr2.tup _ _ exx
          have a3 : atI [x0, x1, x2, V.int lx.n] 3 = some (V.int lx.n) := rfl
          have hl3 : (((ls.take i).map (·.n)).map V.int).length ≤ 100000 := by simp only [List.length_map, List.length_take]; omega
          walk_at "rd"
          refine ⟨by walk_at "fr", ?_⟩
          rw [List.take_add_one, hlx]
          simp only [List.map_append, Option.toList_some, List.map_cons, List.map_nil]
          exact upd_same
        · rintro H2 ⟨fr2, hD⟩
          rw [List.take_of_length_le (by omega)] at hD
          walk_at "rd"
          refine ⟨D, ls.map (·.n), rfl, SqL.of hD, ?_⟩
          walk_at "rd"
          intro p np
          refine q1 f l hok hf hl _ _ ((fr1.trans fr2).trans (Fr.new (Fr.refl _) np)) ?_
          exact .tup upd_same (.cons (.int _) (.cons (((df1.mono fr1).mono fr2).upd np) (.cons (((dl2.mono fr1).mono fr2).upd np) (.cons (.int _) .nil))))
end

-- the def top 8
theorem sc_rank : FnScope ["key", "part"] ["key"] (defScope s_rank) := ⟨rfl, rfl, rfl, by decide +kernel, rfl, by decide +kernel, by decide +kernel⟩
/-- the key in the place of which the program compares -/
def B_rank (r : Nat) : BK1 := fun k H Q _ => ∃ d, Dt H k d ∧ isK r d ∧ ∀ v H', Fr Non H H' → Dt H' v (rankD d) → Q v H'
section
variable {P : Program} {w : World} {K : PySem.W.Frag} {mg : Str → Option Value} {base : Heap}
theorem step_rank (T : TX K mg) (r k : Nat) (spR : Sp) (hR : ∀ r1, r = r1 + 1 → ∀ vs H Q E, Sp1 (B_rank r1) vs H Q E → spR vs H Q E) (C_rank : CalX P w K mg base k "rank" ["key"] spR) (hk : 1 ≤ k) : CalX P w K mg base (k + 1) "rank" ["key"] (Sp1 (B_rank r)) := by
  obtain ⟨f, fd, F, hm, bd⟩ := T.d_rank.ex
  refine ⟨f, fd, F.okX sc_rank len1 (fun cdv A outer s H vs Q E hr h => ?_), hm, F.kp, bd⟩
  obtain ⟨k, rfl, h⟩ := h
  refine ⟨_, (pss_cons (ps_if (pt_val (pe_callB call_isi (by rfl) T.b_isinstance PyProof.Rows.boot_isinstance (pa_cons (pv 0) (pa_cons (pe_bltn (v := .ty "int") rfl T.b_int PyProof.Rows.boot_int rfl) pa_nil)))) (pss_one (ps_ret (pe_tup (pa_cons pe_int (pa_cons (pv 0) (pa_cons pe_str (pa_cons (pe_tup pa_nil) pa_nil))))))) pss_nil) (pss_cons (ps_if (pt_val (pe_callB call_isi (by rfl) T.b_isinstance PyProof.Rows.boot_isinstance (pa_cons (pv 0) (pa_cons (pe_bltn (v := .ty "str") rfl T.b_str PyProof.Rows.boot_str rfl) pa_nil)))) (pss_one (ps_ret (pe_tup (pa_cons pe_int (pa_cons pe_int (pa_cons (pv 0) (pa_cons (pe_tup pa_nil) pa_nil))))))) pss_nil) (pss_one (ps_ret (pe_tup (pa_cons pe_int (pa_cons pe_int (pa_cons pe_str (pa_cons (pe_callTy c_tupOf (by rfl) T.b_tuple (by decide +kernel) (pa_cons (pe_lc (own := [("part", 1)]) (g := gName 1) (tt := tYes) rfl sc_rank.nd (pi_tup (pv 0)) (blkOk_by (N := ["key", "part"]) (sc := defScope s_rank) (own := [("part", 1)]) (by decide +kernel)) (fun _ _ _ _ _ => pg_name (i := 1) sc_rank.nd rfl (by first | exact Or.inl rfl | exact Or.inr rfl)) (fun _ _ _ _ _ => pts_nil) (fun _ _ _ _ _ => (pcall C_rank hr (by first | decide | omega) rfl Passes.none (pa_cons (pv 1) pa_nil)))) pa_nil)) pa_nil))))))))), ?_⟩
  show (_ : TS) _ [some k, none] H
  first | dsimp only [L2.cxOf] | skip
  obtain ⟨d, hd, hk, q⟩ := h
  rcases isK_cases hk with ⟨i, rfl, hi⟩ | ⟨z, rfl, hz⟩ | ⟨r1, ds, rfl, rfl, hl, hs⟩
  · cases hd
    walk_at "rd"
    intro p1 n1
    walk_at "rd"
    intro p2 n2
    exact q _ _ (by walk_at "fr") (by rw [rankD]; walk_at "dt")
  · cases hd
    walk_at "rd"
    intro p1 n1
    walk_at "rd"
    intro p2 n2
    exact q _ _ (by walk_at "fr") (by rw [rankD]; walk_at "dt")
  · cases hd with
    | @tup a xs _ e hx =>
    have hlx : xs.length ≤ 4 := by rw [hx.length]; exact hl
    walk_at "rd"
    refine x_iRef (C := fun a => ∃ xs, SqT K H a xs) ⟨xs, SqT.of e⟩ ?_
    walk_at "rd"
    intro D nD
    refine x_lcT xs (fun i H' => ∃ acc, H' D = some (.lst acc) ∧ DtAll H' acc (rankAll (ds.take i)) ∧ acc.length = i ∧ Fr Non H H') ⟨[], upd_same, .nil, rfl, by walk_at "fr"⟩ (fun i H' _ ⟨_, _, _, _, f⟩ => SqT.of (f.tup _ _ e)) ?_ ?_
    · rintro i x H3 hxi ⟨acc, hD, hds, hla, f3⟩
      obtain ⟨d, hd1, hd2⟩ := hx.get hxi
      have hil : i < xs.length := (List.getElem?_eq_some_iff.mp hxi).1
      have hla4 : acc.length ≤ 100000 := by omega
      walk_at "rd"
      refine hR r1 rfl _ _ _ _ ?_
      walk_at "rd"
      refine ⟨d, hd2.mono f3, hs d (List.mem_of_getElem? hd1), fun v H4 f4 hv => ?_⟩
      walk_at "rd"
      refine ⟨acc ++ [v], upd_same, ?_, by rw [List.length_append, hla]; rfl, ?_⟩
      · rw [List.take_add_one, hd1, rankAll_map, List.map_append, ← rankAll_map]
        exact DtAll.app (by walk_at "dt") (DtAll.one (by walk_at "dt"))
      · walk_at "fr"
    · rintro H3 ⟨acc, hD, hds, hla, f3⟩
      rw [List.take_of_length_le (by rw [← hx.length]; exact Nat.le_refl _)] at hds
      walk_at "rd"
      intro l1 n1
      walk_at "rd"
      intro l2 n2
      exact q _ _ (by walk_at "fr") (by rw [rankD]; walk_at "dt")
theorem ok_rank (T : TX K mg) : ∀ r : Nat, CalX P w K mg base (2 + r) "rank" ["key"] (Sp1 (B_rank r))
  | 0 => step_rank T 0 1 _ (fun _ e => nomatch e) (CalX.never T.d_rank sc_rank (by decide)) (Nat.le_refl _)
  | r + 1 => step_rank T (r + 1) (2 + r) _ (fun r1 e => by cases e; exact fun _ _ _ _ h => h) (ok_rank T r) (by omega)
end

-- the def top 9
theorem sc_ahead : FnScope ["one", "other"] ["one", "other"] (defScope s_ahead) := ⟨rfl, rfl, rfl, by decide +kernel, rfl, by decide +kernel, by decide +kernel⟩
def B_ahead : BK2 := fun one other H Q _ => ∃ d e, Dt H one d ∧ Dt H other e ∧ isK 3 d ∧ isK 3 e ∧ ∀ H', Fr Non H H' → Q (.bl (ltK d e)) H'
section
variable {P : Program} {w : World} {K : PySem.W.Frag} {mg : Str → Option Value} {base : Heap}
theorem ok_ahead (T : TX K mg) : CalX P w K mg base 6 "ahead" ["one", "other"] (Sp2 (B_ahead)) := by
  have C_rank := ok_rank (P := P) (w := w) (base := base) T 3
  obtain ⟨f, fd, F, hm, bd⟩ := T.d_ahead.ex
  refine ⟨f, fd, F.okX sc_ahead len2 (fun cdv A outer s H vs Q E hr h => ?_), hm, F.kp, bd⟩
  obtain ⟨one, other, rfl, h⟩ := h
  refine ⟨_, (pss_one (ps_ret (pe_cmpR (op_ltD hr.units) (pcall C_rank hr (by first | decide | omega) rfl Passes.none (pa_cons (pv 0) pa_nil)) (pcall C_rank hr (by first | decide | omega) rfl Passes.none (pa_cons (pv 1) pa_nil)) (nomark _)))), ?_⟩
  show (_ : TS) _ [some one, some other] H
  first | dsimp only [L2.cxOf] | skip
  obtain ⟨d, e, hd, he, kd, ke, q⟩ := h
  walk_at "rd"
  refine ⟨d, hd, kd, fun v H1 f1 h1 => ?_⟩
  walk_at "rd"
  refine ⟨e, he.mono f1, ke, fun u H2 f2 h2 => ?_⟩
  walk_at "rd"
  exact x_ltD (Dt.dp _ _ (h1.mono f2)) (Dt.dp _ _ h2) (rank_alike d e) (rank_ne d) (Nat.le_trans (rank_depth kd) (by decide)) (q _ (f1.trans f2))
end

-- the def top 13
theorem sc_label_over : FnScope ["labels", "k", "label"] ["labels"] (defScope s_label_over) := ⟨rfl, rfl, rfl, by decide +kernel, rfl, by decide +kernel, by decide +kernel⟩
def B_label_over (mg : Str → Option Value) : BK1 := fun x H Q E => ∃ (a : Addr) (xs : List V) (ls : List Lb), x = .ref a ∧ H a = some (.lst xs) ∧ DtAll H xs (ls.map lbD) ∧ ls.length ≤ 1000 ∧ (∀ l ∈ ls, isK 3 l.lo ∧ isK 3 l.hi) ∧
  (∀ f l, lbOk ls = true → ls.head? = some f → ls.getLast? = some l → ∀ v H', Fr Non H H' → Dt H' v (lbOver ls f l) → Q v H') ∧ (lbOk ls = false → ∀ H', Fr Non H H' → E (.ref (clA mg "NoStem")) none H')
section
variable {P : Program} {w : World} {K : PySem.W.Frag} {mg : Str → Option Value} {base : Heap}
theorem ok_label_over (T : TX K mg) : CalX P w K mg base 7 "label_over" ["labels"] (Sp1 (B_label_over mg)) := by
  have C_ahead := ok_ahead (P := P) (w := w) (base := base) T
  obtain ⟨f, fd, F, hm, bd⟩ := T.d_label_over.ex
  refine ⟨f, fd, F.okX sc_label_over len1 (fun cdv A outer s H vs Q E hr h => ?_), hm, F.kp, bd⟩
  obtain ⟨ls, rfl, h⟩ := h
  refine ⟨_, (pss_cons (ps_if (PW.pt (pw_or (pt_cmpR op_lt (pe_callB c_len (by rfl) T.b_len (by decide +kernel) (pa_cons (pv 0) pa_nil)) pe_int (nomark _)) (pw_or1 (pt_cmpR op_gt (pe_callB c_len (by rfl) T.b_len (by decide +kernel) (pa_cons (pv 0) pa_nil)) (pconst T.c_MOST rfl) (nomark _))))) (pss_one (ps_raise0 rfl (takes_of rfl rfl rfl rfl) (pmk_own0 PySem.F.excBase_ValueError T.r_NoStem.ex T.r_NoStem.m T.r_NoStem.kp (raises_own T.r_NoStem.sb T.r_NoStem.ty) rfl))) pss_nil) (pss_cons (ps_for (passes_of rfl) rfl (pi_range2 rfl T.b_range (pa_cons pe_int (pa_cons (pe_callB c_len (by rfl) T.b_len (by decide +kernel) (pa_cons (pv 0) pa_nil)) pa_nil))) (pg_name (i := 1) sc_label_over.nd rfl (Or.inl rfl)) (pss_one (ps_if (PW.pt (pw_or (pt_cmpR op_ne (pe_ix ix_tup (pe_ix ix_list (pv 0) (pv 1) (fun _ _ => rfl)) pe_int (fun _ _ => rfl)) (pe_ix ix_tup (pe_ix ix_list (pv 0) pe_int (fun _ _ => rfl)) pe_int (fun _ _ => rfl)) (nomark _)) (pw_or1 (pt_not (pt_val (pcall C_ahead hr (by first | decide | omega) rfl (passes_call (takes_of rfl rfl rfl rfl) (fun _ _ _ _ h => h)) (pa_cons (pe_ix ix_tup (pe_ix ix_list (pv 0) (pe_op op_sub (pv 1) pe_int) (fun _ _ => rfl)) pe_int (fun _ _ => rfl)) (pa_cons (pe_ix ix_tup (pe_ix ix_list (pv 0) (pv 1) (fun _ _ => rfl)) pe_int (fun _ _ => rfl)) pa_nil)))))))) (pss_one (ps_raise0 rfl (takes_of rfl rfl rfl rfl) (pmk_own0 PySem.F.excBase_ValueError T.r_NoStem.ex T.r_NoStem.m T.r_NoStem.kp (raises_own T.r_NoStem.sb T.r_NoStem.ty) rfl))) pss_nil))) (pss_one (ps_ret (pe_tup (pa_cons (pe_op op_add (pe_ix ix_tup (pe_ix ix_list (pv 0) pe_int (fun _ _ => rfl)) pe_int (fun _ _ => rfl)) pe_int) (pa_cons (pe_ix ix_tup (pe_ix ix_list (pv 0) pe_int (fun _ _ => rfl)) pe_int (fun _ _ => rfl)) (pa_cons (pe_ix ix_tup (pe_ix ix_list (pv 0) (pe_un un_neg pe_int) (fun _ _ => rfl)) pe_int (fun _ _ => rfl)) (pa_cons (pe_callB (cr_sum rfl) (by rfl) T.b_sum (by decide +kernel) (pa_cons (pe_lc (own := [("label", 2)]) (g := gName 2) (tt := tYes) rfl sc_label_over.nd (pi_list (pv 0)) (blkOk_by (N := ["labels", "k", "label"]) (sc := defScope s_label_over) (own := [("label", 2)]) (by decide +kernel)) (fun _ _ _ _ _ => pg_name (i := 2) sc_label_over.nd rfl (by first | exact Or.inl rfl | exact Or.inr rfl)) (fun _ _ _ _ _ => pts_nil) (fun _ _ _ _ _ => (pe_ix (r := rIxT K) ix_tup (pv 2) pe_int (fun _ _ => rfl)))) pa_nil)) pa_nil))))))))), ?_⟩
  show (_ : TS) _ [some ls, none, none] H
  first | dsimp only [L2.cxOf] | skip
  obtain ⟨a, xs, ls, rfl, hH, hd, hn, hk, q1, q2⟩ := h
  have hlen := hd.length
  rw [List.length_map] at hlen
  walk_at "rd"
  refine x_dec (fun c1 => ?_) (fun c1 => ?_)
  · walk_at "rd"
    exact q2 (lbOk_len (.inl (by omega))) _ (Fr.refl _)
  · walk_at "rd"
    refine x_dec (fun c2 => ?_) (fun c2 => ?_)
    · walk_at "rd"
      exact q2 (lbOk_len (.inr (by omega))) _ (Fr.refl _)
    · obtain ⟨f, hf⟩ : ∃ f, ls.head? = some f := by
        cases ls with
        | nil => simp only [List.length_nil] at hlen; omega
        | cons f r => exact ⟨f, rfl⟩
      obtain ⟨l, hl⟩ : ∃ l, ls.getLast? = some l := by
        cases hq : ls.getLast? with
        | some l => exact ⟨l, rfl⟩
        | none => rw [List.getLast?_eq_none_iff] at hq; subst hq; simp only [List.length_nil] at hlen; omega
      have hrun := lbOk_run (by omega) (by omega) hf
      obtain ⟨vf, gf, kf⟩ := hd.head (d := lbD f) (by rw [List.head?_map, hf]; rfl)
      obtain ⟨pf, f0, f1, f2, f3, rfl, ef, df0, df1, df2, df3⟩ := DtAll.tup4 kf
      cases df0
      have hrg : (-(2 ^ 62) ≤ (1 : Int) ∧ (1 : Int) < 2 ^ 62 ∧ -(2 ^ 62) ≤ ((xs.length : Nat) : Int) ∧ ((xs.length : Nat) : Int) < 2 ^ 62) := ⟨by decide, by decide, by omega, by omega⟩
      walk_at "rd"
      refine ⟨_, _, rfl, hrg, ?_⟩
      have hn1 : (((xs.length : Nat) : Int) - 1).toNat = ls.length - 1 := by omega
      rw [hn1]
      refine x_forR (n := ls.length - 1) (fun i σ H' => ∃ (v1 v2 : Option V), σ = [some (.ref a), v1, v2] ∧ Fr Non H H' ∧ lbOk ls = lbRun f (ls.drop i)) ⟨_, _, rfl, Fr.refl _, by rw [List.drop_zero]; exact hrun⟩ ?_ ?_
      · rintro i σ H1 hi ⟨v1, v2, rfl, fr1, hr1⟩
        have hi1 : i < xs.length := by omega
        have hi2 : i + 1 < xs.length := by omega
        have ex := List.getElem?_eq_getElem hi1
        have ey := List.getElem?_eq_getElem hi2
        obtain ⟨dx, gx, kx⟩ := hd.get ex
        obtain ⟨dy, gy, ky⟩ := hd.get ey
        rw [List.getElem?_map] at gx gy
        obtain ⟨lx, hlx, rfl⟩ := Option.map_eq_some_iff.mp gx
        obtain ⟨ly, hly, rfl⟩ := Option.map_eq_some_iff.mp gy
        obtain ⟨px, x0, x1, x2, x3, rx, exx, dx0, dx1, dx2, dx3⟩ := DtAll.tup4 kx
        obtain ⟨py, y0, y1, y2, y3, ry, eyy, dy0, dy1, dy2, dy3⟩ := DtAll.tup4 ky
        rw [rx] at ex
        rw [ry] at ey
        cases dx0
        cases dy0
        have ax : atI xs (1 + (i : Int) - 1) = some (.ref px) := by
          have e : 1 + (i : Int) - 1 = ((i : Nat) : Int) := by omega
          rw [e]; exact atI_nat ex
        have ay : atI xs (1 + (i : Int)) = some (.ref py) := by
          have e : 1 + (i : Int) = ((i + 1 : Nat) : Int) := by omega
          rw [e]; exact atI_nat ey
        have hH1 := fr1.keep _ _ hH id
        have exx1 := fr1.tup _ _ exx
        have eyy1 := fr1.tup _ _ eyy
        have ef1 := fr1.tup _ _ ef
        have a2 : atI [V.int lx.h, x1, x2, x3] 2 = some x2 := rfl
        have a1 : atI [V.int ly.h, y1, y2, y3] 1 = some y1 := rfl
        have hdr := lb_drop hlx hly f
        have hkx := (hk lx (List.mem_of_getElem? hlx)).2
        have hky := (hk ly (List.mem_of_getElem? hly)).1
        walk_at "rd"
        refine x_ndec (fun c3 => ?_) (fun c3 => ?_)
        · walk_at "rd"
          refine q2 ?_ _ fr1
          rw [hr1, hdr]
          unfold lbStep
          rw [decide_eq_false c3]; rfl
        · walk_at "rd"
          refine ⟨lx.hi, ly.lo, dx2.mono fr1, dy1.mono fr1, hkx, hky, fun H2 fr2 => ?_⟩
          walk_at "rd"
          cases hb : ltK lx.hi ly.lo with
          | true =>
            walk_at "rd"
            refine ⟨_, _, rfl, fr1.trans fr2, ?_⟩
            rw [hr1, hdr]
            unfold lbStep
            rw [decide_eq_true c3, hb]; rfl
          | false =>
            walk_at "rd"
            refine q2 ?_ _ (fr1.trans fr2)
            rw [hr1, hdr]
            unfold lbStep
            rw [decide_eq_true c3, hb]; rfl
      · rintro σ H1 ⟨v1, v2, rfl, fr1, hr1⟩
        have hok : lbOk ls = true := by rw [hr1]; exact lb_last (by omega) f
        have hH1 := fr1.keep _ _ hH id
        have ef1 := fr1.tup _ _ ef
        have hd1 := hd.mono fr1
        obtain ⟨vl, gl, kl⟩ := hd.last (d := lbD l) (by rw [List.getLast?_map, hl]; rfl)
        obtain ⟨pl, l0, l1, l2, l3, rfl, el, dl0, dl1, dl2, dl3⟩ := DtAll.tup4 kl
        have el1 := fr1.tup _ _ el
        have b1 : atI [V.int f.h, f1, f2, f3] 1 = some f1 := rfl
        have b2 : atI [l0, l1, l2, l3] 2 = some l2 := rfl
        walk_at "rd"
        refine x_iRef (C := fun a => ∃ xs, SqL K H1 a xs) ⟨xs, SqL.of hH1⟩ ?_
        walk_at "rd"
        intro D nD
        have nD0 : Fresh H D := fr1.free nD
        refine x_lcL xs (fun i H' => Fr Non H1 H' ∧ H' D = some (.lst (((ls.take i).map (·.n)).map V.int))) ⟨by walk_at "fr", upd_same⟩ (fun i H' _ ⟨g, _⟩ => SqL.of (g.keep _ _ hH1 id)) ?_ ?_
        · rintro i x H2 hx ⟨fr2, hD⟩
          obtain ⟨dx, gx, kx⟩ := hd1.get hx
          rw [List.getElem?_map] at gx
          obtain ⟨lx, hlx, rfl⟩ := Option.map_eq_some_iff.mp gx
          obtain ⟨px, x0, x1, x2, x3, rfl, exx, dx0, dx1, dx2, dx3⟩ := DtAll.tup4 kx
          cases dx3
          have exx2 := fr2.tup _ _ exx
          have a3 : atI [x0, x1, x2, V.int lx.n] 3 = some (V.int lx.n) := rfl
          have hl3 : (((ls.take i).map (·.n)).map V.int).length ≤ 100000 := by simp only [List.length_map, List.length_take]; omega
          walk_at "rd"
          refine ⟨by walk_at "fr", ?_⟩
          rw [List.take_add_one, hlx]
          simp only [List.map_append, Option.toList_some, List.map_cons, List.map_nil]
          exact upd_same
        · rintro H2 ⟨fr2, hD⟩
          rw [List.take_of_length_le (by omega)] at hD
          walk_at "rd"
          refine ⟨D, ls.map (·.n), rfl, SqL.of hD, ?_⟩
          walk_at "rd"
          intro p np
          refine q1 f l hok hf hl _ _ ((fr1.trans fr2).trans (Fr.new (Fr.refl _) np)) ?_
          exact .tup upd_same (.cons (.int _) (.cons (((df1.mono fr1).mono fr2).upd np) (.cons (((dl2.mono fr1).mono fr2).upd np) (.cons (.int _) .nil))))
end

-- the def top 24
theorem sc_law_asked : FnScope ["_law_labels_here", "_law_found", "e"] ["_law_labels_here"] (defScope s_law_asked) := ⟨rfl, rfl, rfl, by decide +kernel, rfl, by decide +kernel, by decide +kernel⟩
def B_law_asked : BK1 := fun x H Q _ => ∃ (a : Addr) (xs : List V) (ls : List Lb), x = .ref a ∧ H a = some (.lst xs) ∧ DtAll H xs (ls.map lbD) ∧ ls.length ≤ 1000 ∧ (∀ l ∈ ls, isK 3 l.lo ∧ isK 3 l.hi) ∧
  (∀ f l, lbOk ls = true → ls.head? = some f → ls.getLast? = some l → ∀ v H', Fr Non H H' → Dt H' v (lbOver ls f l) → Q v H') ∧ (lbOk ls = false → ∀ H', Fr Non H H' → Q .non H')
section
variable {P : Program} {w : World} {K : PySem.W.Frag} {mg : Str → Option Value} {base : Heap}
theorem ok_law_asked (T : TX K mg) : CalX P w K mg base 8 "_law_asked" ["_law_labels_here"] (Sp1 (B_law_asked)) := by
  have C_label_over := ok_label_over (P := P) (w := w) (base := base) T
  obtain ⟨f, fd, F, hm, bd⟩ := T.d_law_asked.ex
  refine ⟨f, fd, F.okX sc_law_asked len1 (fun cdv A outer s H vs Q E hr h => ?_), hm, F.kp, bd⟩
  obtain ⟨ls, rfl, h⟩ := h
  refine ⟨_, (pss_cons (ps_tryAs (i := 2) rfl rfl sc_law_asked.nd rfl rfl ⟨rfl, by decide, .inl T.x_TwigError.m⟩ takes0 (fun W pn xe tk _ => (pss_one (ps_set (i := 1) sc_law_asked.nd rfl (Or.inl rfl) (pcallX C_label_over hr (by first | decide | omega) rfl tk (pa_cons (pv 0) pa_nil))))) (fun a oe cls d pn hz hf => (pss_cons (ps_if (pt_val (pe_callB (r := rIsXT K a cls d) (call_isXT hz hf) (by rfl) T.b_isinstance PyProof.Rows.boot_isinstance (pa_cons (pv 2) (pa_cons (pe_tup (pa_cons (pe_glob (v := .ref (clA mg "NoKey")) rfl T.x_NoKey.m rfl) (pa_cons (pe_glob (v := .ref (clA mg "NoLeaf")) rfl T.x_NoLeaf.m rfl) (pa_cons (pe_glob (v := .ref (clA mg "NotHeld")) rfl T.x_NotHeld.m rfl) (pa_cons (pe_glob (v := .ref (clA mg "NoTwig")) rfl T.x_NoTwig.m rfl) pa_nil))))) pa_nil)))) (pss_one (ps_ret pe_str)) pss_nil) (pss_cons (ps_if (PW.pt (pw_and (pt_val (pe_callB (r := rIsX K a cls d) (call_isX hz hf) (by rfl) T.b_isinstance PyProof.Rows.boot_isinstance (pa_cons (pv 2) (pa_cons (pe_glob (v := .ref (clA mg "NoStem")) rfl T.x_NoStem.m rfl) pa_nil)))) (pw_and1 (pt_val (pe_callB (r := rIsX K a cls d) (call_isX hz hf) (by rfl) T.b_isinstance PyProof.Rows.boot_isinstance (pa_cons (pv 2) (pa_cons (pe_bltn (v := .ty "ValueError") rfl T.b_ValueError boot_ValueError rfl) pa_nil))))))) (pss_one (ps_ret pe_non)) pss_nil) (pss_one (ps_ret pe_str)))))) (pss_one (ps_ret (pv 1)))), ?_⟩
  show (_ : TS) _ [some ls, none, none] H
  first | dsimp only [L2.cxOf] | skip
  obtain ⟨a, xs, ls, rfl, hH, hd, hn, hk, q1, q2⟩ := h
  walk_at "rd"
  refine ⟨a, xs, ls, rfl, hH, hd, hn, hk, fun f l h1 h2 h3 v H1 f1 hv => ?_, fun h1 H1 f1 => ?_⟩
  · walk_at "rd"
    exact q1 f l h1 h2 h3 v H1 f1 hv
  · refine x_wAsT T.em_NoStem fun b hb => ?_
    walk_at "rd"
    intro tp ntp
    walk_at "rd"
    refine x_isXT (excC_of T.xc_NoStem) upd_same (.cons (.own _) (.cons (.own _) (.cons (.own _) (.cons (.own _) .nil)))) T.ka_NoStem_4 ?_
    walk_at "rd"
    refine x_isX (excC_of T.xc_NoStem) (.own _) T.ki_NoStem ?_
    walk_at "rd"
    refine x_isX (excC_of T.xc_NoStem) (.ty _) T.ki_NoStem_VE ?_
    walk_at "rd"
    exact q2 h1 _ (by walk_at "fr")
end

-- the def top 21
theorem sc_law_leaf_rows : FnScope ["_law_well_here", "_law_grid_here", "_law_block", "_law_rows", "_law_j"] ["_law_well_here", "_law_grid_here", "_law_block"] (defScope s_law_leaf_rows) := ⟨rfl, rfl, rfl, by decide +kernel, rfl, by decide +kernel, by decide +kernel⟩
def RowGood (p : PyData × PyData) : Prop := isK 1 p.1 ∧ isK 1 p.2
theorem rowvals : ∀ d ∈ [PyData.int 0, .int 1, .str (Str.ofString "v"), .str (Str.ofString ""), .tuple [], .tuple [.int 1, .str (Str.ofString "a")]], isK 1 d := by
  intro d hd
  rcases List.mem_cons.mp hd with rfl | hd
  · exact ⟨by decide, by decide⟩
  rcases List.mem_cons.mp hd with rfl | hd
  · exact ⟨by decide, by decide⟩
  rcases List.mem_cons.mp hd with rfl | hd
  · exact ⟨by decide, by decide⟩
  rcases List.mem_cons.mp hd with rfl | hd
  · exact ⟨by decide, by decide⟩
  rcases List.mem_cons.mp hd with rfl | hd
  · exact ⟨by decide, List.forall_mem_nil _⟩
  · rw [List.mem_singleton.mp hd]
    exact ⟨by decide, fun d hd => by
      rcases List.mem_cons.mp hd with rfl | hd
      · exact ⟨by decide, by decide⟩
      · rw [List.mem_singleton.mp hd]; exact ⟨by decide, by decide⟩⟩
theorem list_shaped {r : Nat} {ds : List PyData} (h : ∀ d ∈ ds, isK r d) (hr : r ≤ 60) : SeqAt.shaped (.list ds) = true := by
  unfold SeqAt.shaped
  have e1 : PyData.canLay0 (.list ds) = true := canLayAll0_of fun d hd => isK_lay (h d hd)
  have e2 : PyData.depth (.list ds) = PyData.depthAll ds + 1 := rfl
  have e3 : PyData.depthAll ds ≤ r := depthAll_le fun d hd => isK_depth (h d hd)
  rw [e1, decide_eq_true (by omega)]; rfl
theorem isK_row {r : Nat} {p : PyData × PyData} (h : isK r p.1) (k : isK r p.2) : isK (r + 1) (rowD p) := ⟨by show 2 ≤ 4; decide, fun d hd => by
  rcases List.mem_cons.mp hd with rfl | hd
  · exact h
  · rw [List.mem_singleton.mp hd]; exact k⟩
def B_law_leaf_rows : BK3 := fun wl gr bl H Q _ => ∃ (a g : Addr) (b : Int) (gs : List V) (ds : List PyData), wl = .ref a ∧ gr = .ref g ∧ bl = .int b ∧ 0 ≤ b ∧ b < 16 ∧ Well H a ∧ H g = some (.lst gs) ∧ DtAll H gs ds ∧ gs.length = 64 ∧ (∀ d ∈ ds, isK 1 d) ∧
  ∀ (p : Addr) (H' : Hp) (xs : List V) (ps : List (PyData × PyData)), Fr (One a) H H' → Well H' a → Fresh H p → H' p = some (.lst xs) → DtAll H' xs (ps.map rowD) → 1 ≤ ps.length → ps.length ≤ 4 → (∀ l ∈ ps, RowGood l) → Q (.ref p) H'
section
variable {P : Program} {w : World} {K : PySem.W.Frag} {mg : Str → Option Value} {base : Heap}
theorem ok_law_leaf_rows (T : TX K mg) : CalX P w K mg base 2 "_law_leaf_rows" ["_law_well_here", "_law_grid_here", "_law_block"] (Sp3 (B_law_leaf_rows)) := by
  have C_law_pull := ok_law_pull (P := P) (w := w) (base := base) T
  obtain ⟨f, fd, F, hm, bd⟩ := T.d_law_leaf_rows.ex
  refine ⟨f, fd, F.okX sc_law_leaf_rows len3 (fun cdv A outer s H vs Q E hr h => ?_), hm, F.kp, bd⟩
  obtain ⟨wl, gr, bl, rfl, h⟩ := h
  refine ⟨_, (pss_cons (ps_set (i := 3) sc_law_leaf_rows.nd rfl (Or.inl rfl) (pe_lst pa_nil)) (pss_cons (ps_for (passes_of rfl) rfl (pi_range1 rfl T.b_range (pa_cons pe_int pa_nil)) (pg_name (i := 4) sc_law_leaf_rows.nd rfl (Or.inl rfl)) (pss_one (ps_if (pt_cmpR op_gt (pcall C_law_pull hr (by first | decide | omega) rfl Passes.none (pa_cons (pv 0) (pa_cons pe_int pa_nil))) pe_int (nomark _)) (pss_one (ps_expr (pe_bm PySem.F.plainAttrs_list PySem.F.slot_list_append PySem.F.type_list_append mt_append (pv 3) (pa_cons (pe_tup (pa_cons (pe_ix ix_list (pv 1) (pe_op op_add (pe_op op_mul pe_int (pv 2)) (pv 4)) (fun _ _ => rfl)) (pa_cons (pe_ix ix_list (pe_lst (pa_cons pe_int (pa_cons pe_int (pa_cons pe_str (pa_cons pe_str (pa_cons (pe_tup pa_nil) (pa_cons (pe_tup (pa_cons pe_int (pa_cons pe_str pa_nil))) pa_nil))))))) (pcall C_law_pull hr (by first | decide | omega) rfl Passes.none (pa_cons (pv 0) (pa_cons pe_int pa_nil))) (fun _ _ => rfl)) pa_nil))) pa_nil)))) pss_nil))) (pss_cons (ps_if (pt_cmpR (op_eqD hr.units) (pv 3) (pe_lst pa_nil) (nomark _)) (pss_one (ps_expr (pe_bm PySem.F.plainAttrs_list PySem.F.slot_list_append PySem.F.type_list_append mt_append (pv 3) (pa_cons (pe_tup (pa_cons (pe_ix ix_list (pv 1) (pe_op op_add (pe_op op_mul pe_int (pv 2)) (pcall C_law_pull hr (by first | decide | omega) rfl Passes.none (pa_cons (pv 0) (pa_cons pe_int pa_nil)))) (fun _ _ => rfl)) (pa_cons pe_str pa_nil))) pa_nil)))) pss_nil) (pss_one (ps_ret (pv 3)))))), ?_⟩
  show (_ : TS) _ [some wl, some gr, some bl, none, none] H
  first | dsimp only [L2.cxOf] | skip
  obtain ⟨a, g, b, gs, ds, rfl, rfl, rfl, b0, b1, W, hg, hds, hgl, hkd, q⟩ := h
  have hga : g ≠ a := fun e => by
    subst e
    obtain ⟨c, n, g, l, e, _⟩ := W
    rw [hg] at e
    cases e
    cases hgl
  walk_at "rd"
  intro L nL
  have hLa : L ≠ a := Well.ne W nL
  walk_at "rd"
  refine x_forR (n := 4) (fun i σ H' => ∃ (xs : List V) (ps : List (PyData × PyData)) (v4 : Option V), σ = [some (.ref a), some (.ref g), some (.int b), some (.ref L), v4] ∧
    Fr (One a) H H' ∧ Well H' a ∧ H' L = some (.lst xs) ∧ DtAll H' xs (ps.map rowD) ∧ ps.length ≤ i ∧ (∀ l ∈ ps, RowGood l)) ?_ ?_ ?_
  · exact ⟨[], [], none, rfl, by walk_at "fr", W.new nL, upd_same, .nil, Nat.le_refl _, List.forall_mem_nil _⟩
  · rintro i σ H1 hi ⟨xs, ps, v4, rfl, f1, w1, e1, hd1, hl1, hk1⟩
    have hxl := hd1.length
    rw [List.length_map] at hxl
    have hx100 : xs.length ≤ 100000 := by omega
    walk_at "rd"
    refine ⟨a, _, rfl, rfl, by decide, by decide +kernel, w1, fun r2 H2 f2 w2 r20 r21 => ?_⟩
    have f02 := f1.trans f2
    have e2 := f2.keep _ _ e1 (not_One hLa)
    have hd2 := hd1.mono f2
    walk_at "rd"
    refine x_dec (fun c1 => ?_) (fun c1 => ?_)
    · have hg2 := f02.keep _ _ hg (not_One hga)
      have hds2 := hds.mono f02
      obtain ⟨vg, dg, gg, kg, mg⟩ := pickD (r := 4 * b + (0 + (i : Int))) hds2 (by omega) (by rw [hgl]; omega)
      walk_at "rd"
      intro p3 n3
      walk_at "rd"
      intro p4 n4
      walk_at "rd"
      intro p5 n5
      walk_at "rd"
      have hv : DtAll (upd (upd (upd H2 p3 (.tup [])) p4 (.tup [.int 1, .str (Str.ofString "a")])) p5 (.lst [.int 0, .int 1, .str (Str.ofString "v"), .str (Str.ofString ""), .ref p3, .ref p4])) [.int 0, .int 1, .str (Str.ofString "v"), .str (Str.ofString ""), .ref p3, .ref p4] [PyData.int 0, .int 1, .str (Str.ofString "v"), .str (Str.ofString ""), .tuple [], .tuple [.int 1, .str (Str.ofString "a")]] :=
        .cons (.int _) (.cons (.int _) (.cons (.str _) (.cons (.str _) (.cons (Dt.upd (Dt.upd (.tup upd_same .nil) n4) n5) (.cons (Dt.upd (.tup upd_same (.cons (.int _) (.cons (.str _) .nil))) n5) .nil)))))
      have e5 : upd (upd (upd H2 p3 (.tup [])) p4 (.tup [.int 1, .str (Str.ofString "a")])) p5 (.lst [.int 0, .int 1, .str (Str.ofString "v"), .str (Str.ofString ""), .ref p3, .ref p4]) p5 = some (.lst [.int 0, .int 1, .str (Str.ofString "v"), .str (Str.ofString ""), .ref p3, .ref p4]) := upd_same
      have eL := keepU (u := .lst [.int 0, .int 1, .str (Str.ofString "v"), .str (Str.ofString ""), .ref p3, .ref p4]) (keepU (u := .tup [.int 1, .str (Str.ofString "a")]) (keepU (u := .tup []) e2 n3) n4) n5
      have w5 : Well (upd (upd (upd H2 p3 (.tup [])) p4 (.tup [.int 1, .str (Str.ofString "a")])) p5 (.lst [.int 0, .int 1, .str (Str.ofString "v"), .str (Str.ofString ""), .ref p3, .ref p4])) a := ((w2.new n3).new n4).new n5
      have f25 : Fr Non H2 (upd (upd (upd H2 p3 (.tup [])) p4 (.tup [.int 1, .str (Str.ofString "a")])) p5 (.lst [.int 0, .int 1, .str (Str.ofString "v"), .str (Str.ofString ""), .ref p3, .ref p4])) := Fr.new (Fr.new (Fr.new (Fr.refl _) n3) n4) n5
      have na5 : p5 ≠ a := Well.ne ((w2.new n3).new n4) n5
      generalize upd (upd (upd H2 p3 (.tup [])) p4 (.tup [.int 1, .str (Str.ofString "a")])) p5 (.lst [.int 0, .int 1, .str (Str.ofString "v"), .str (Str.ofString ""), .ref p3, .ref p4]) = H5 at hv e5 eL w5 f25 ⊢
      refine ⟨a, _, rfl, rfl, by decide, by decide +kernel, w5, fun r6 H6 f6 w6 r60 r61 => ?_⟩
      obtain ⟨vv, dv, gv, kv, mv⟩ := pickD (hv.mono f6) r60 (by exact r61)
      have e6 := f6.keep _ _ e5 (not_One na5)
      have eL6 := f6.keep _ _ eL (not_One hLa)
      have f06 := (f02.trans f25.non).trans f6
      have hd6 := (hd2.mono f25).mono f6
      have kg6 := (kg.mono f25).mono f6
      walk_at "rd"
      intro p7 n7
      have eL7 := keepU (u := .tup [vg, vv]) eL6 n7
      walk_at "rd"
      have dr : Dt (upd H6 p7 (.tup [vg, vv])) (.ref p7) (rowD (dg, dv)) := .tup upd_same (.cons (kg6.upd n7) (.cons (kv.upd n7) .nil))
      have hd7 := hd6.upd (o := .tup [vg, vv]) n7
      have f07 : Fr (One a) H (upd H6 p7 (.tup [vg, vv])) := Fr.new f06 n7
      have w7 := w6.new (u := .tup [vg, vv]) n7
      generalize upd H6 p7 (.tup [vg, vv]) = H7 at eL7 dr hd7 f07 w7 ⊢
      refine ⟨xs ++ [.ref p7], ps ++ [(dg, dv)], _, rfl, Fr.mut f07 eL7 rfl (.inr nL), w7.fr (Fr.mut (S := One L) (Fr.refl _) eL7 rfl (.inl rfl)) (not_One hLa.symm), upd_same, ?_, by rw [List.length_append, List.length_singleton]; omega, fun l hl => ?_⟩
      · rw [List.map_append]
        exact DtAll.app (hd7.updm eL7 rfl) (DtAll.one (dr.updm eL7 rfl))
      · rcases List.mem_append.mp hl with hl | hl
        · exact hk1 l hl
        · rw [List.mem_singleton.mp hl]; exact ⟨hkd dg mg, rowvals dv mv⟩
    · walk_at "rd"
      exact ⟨xs, ps, _, rfl, f02, w2, e2, hd2, by omega, hk1⟩
  · rintro σ H1 ⟨xs, ps, v4, rfl, f1, w1, e1, hd1, hl1, hk1⟩
    have hxl := hd1.length
    rw [List.length_map] at hxl
    walk_at "rd"
    intro p2 n2
    have hsh : ∀ d ∈ ps.map rowD, isK 2 d := fun d hd => by
      obtain ⟨p, hp, rfl⟩ := List.mem_map.mp hd
      exact isK_row (hk1 p hp).1 (hk1 p hp).2
    have e2 := keepU (u := .lst []) e1 n2
    have hd2 := hd1.upd (o := .lst []) n2
    have w2 := w1.new (u := .lst []) n2
    have f02 : Fr (One a) H (upd H1 p2 (.lst [])) := Fr.new f1 n2
    refine x_eqD (d := .list (ps.map rowD)) (e := .list []) (.lst (SqL.of e2) (DtAll.dp _ _ hd2)) (.lst (SqL.of upd_same) .nil) (list_shaped hsh (by decide)) (by decide +kernel) ?_
    generalize upd H1 p2 (.lst []) = H2 at e2 hd2 w2 f02 ⊢
    walk_at "rd"
    cases ps with
    | nil =>
      refine x_yes (by rw [List.map_nil, PyData.eqv]; rfl) ?_
      have hxs : xs = [] := List.eq_nil_of_length_eq_zero (by rw [hxl]; rfl)
      subst hxs
      walk_at "rd"
      refine ⟨a, _, rfl, rfl, by decide, by decide +kernel, w2, fun r6 H6 f6 w6 r60 r61 => ?_⟩
      have f06 := f02.trans f6
      have hg6 := f06.keep _ _ hg (not_One hga)
      have hds6 := hds.mono f06
      have e6 := f6.keep _ _ e2 (not_One hLa)
      obtain ⟨vg, dg, gg, kg, mg⟩ := pickD (r := 4 * b + r6) hds6 (by omega) (by rw [hgl]; omega)
      walk_at "rd"
      intro p7 n7
      have eL7 := keepU (u := .tup [vg, .str (Str.ofString "w")]) e6 n7
      walk_at "rd"
      have dr : Dt (upd H6 p7 (.tup [vg, .str (Str.ofString "w")])) (.ref p7) (rowD (dg, .str (Str.ofString "w"))) := .tup upd_same (.cons (kg.upd n7) (.cons (.str _) .nil))
      have f07 : Fr (One a) H (upd H6 p7 (.tup [vg, .str (Str.ofString "w")])) := Fr.new f06 n7
      have w7 := w6.new (u := .tup [vg, .str (Str.ofString "w")]) n7
      generalize upd H6 p7 (.tup [vg, .str (Str.ofString "w")]) = H7 at eL7 dr f07 w7 ⊢
      refine q L _ [.ref p7] [(dg, .str (Str.ofString "w"))] (Fr.mut f07 eL7 rfl (.inr nL)) (w7.fr (Fr.mut (S := One L) (Fr.refl _) eL7 rfl (.inl rfl)) (not_One hLa.symm)) nL upd_same (DtAll.one (dr.updm eL7 rfl)) (Nat.le_refl _) (by show 1 ≤ 4; decide) fun l hl => ?_
      rw [List.mem_singleton.mp hl]
      exact ⟨hkd dg mg, ⟨by decide, by decide⟩⟩
    | cons r rs =>
      refine x_no (by rw [List.map_cons, PyData.eqv]; rfl) ?_
      walk_at "rd"
      exact q L _ xs (r :: rs) f02 w2 nL e2 hd2 (by simp only [List.length_cons]; omega) hl1 hk1
end

-- the def top 19
theorem sc_law_alike : FnScope ["_law_found", "_law_due_here", "_law_j"] ["_law_found", "_law_due_here"] (defScope s_law_alike) := ⟨rfl, rfl, rfl, by decide +kernel, rfl, by decide +kernel, by decide +kernel⟩
def B_law_alike (r : Nat) : BK2 := fun f g H Q _ => ∃ d, Dt H f d ∧ Dt H g d ∧ isK r d ∧ ∀ H', Fr Non H H' → Q (.bl true) H'
section
variable {P : Program} {w : World} {K : PySem.W.Frag} {mg : Str → Option Value} {base : Heap}
theorem step_law_alike (T : TX K mg) (r k : Nat) (spR : Sp) (hR : ∀ r1, r = r1 + 1 → ∀ vs H Q E, Sp2 (B_law_alike r1) vs H Q E → spR vs H Q E) (C_law_alike : CalX P w K mg base k "_law_alike" ["_law_found", "_law_due_here"] spR) (hk : 1 ≤ k) : CalX P w K mg base (k + 1) "_law_alike" ["_law_found", "_law_due_here"] (Sp2 (B_law_alike r)) := by
  obtain ⟨f, fd, F, hm, bd⟩ := T.d_law_alike.ex
  refine ⟨f, fd, F.okX sc_law_alike len2 (fun cdv A outer s H vs Q E hr h => ?_), hm, F.kp, bd⟩
  obtain ⟨f, g, rfl, h⟩ := h
  refine ⟨_, (pss_cons (ps_if (pt_val (pe_callB call_isi (by rfl) T.b_isinstance PyProof.Rows.boot_isinstance (pa_cons (pv 1) (pa_cons (pe_bltn (v := .ty "tuple") rfl T.b_tuple PyProof.Rows.boot_tuple rfl) pa_nil)))) (pss_cons (ps_if (PW.pt (pw_or (pt_not (pt_val (pe_callB call_isi (by rfl) T.b_isinstance PyProof.Rows.boot_isinstance (pa_cons (pv 0) (pa_cons (pe_bltn (v := .ty "tuple") rfl T.b_tuple PyProof.Rows.boot_tuple rfl) pa_nil))))) (pw_or1 (pt_cmpR op_ne (pe_callB c_lenA (by rfl) T.b_len (by decide +kernel) (pa_cons (pv 0) pa_nil)) (pe_callB c_lenA (by rfl) T.b_len (by decide +kernel) (pa_cons (pv 1) pa_nil)) (nomark _))))) (pss_one (ps_ret pe_bl)) pss_nil) (pss_one (ps_ret (pe_callB (cr_all rfl) (by rfl) T.b_all (by decide +kernel) (pa_cons (pe_lc (own := [("_law_j", 2)]) (g := gName 2) (tt := tYes) rfl sc_law_alike.nd (pi_range1 rfl T.b_range (pa_cons (pe_callB c_lenA (by rfl) T.b_len (by decide +kernel) (pa_cons (pv 1) pa_nil)) pa_nil)) (blkOk_by (N := ["_law_found", "_law_due_here", "_law_j"]) (sc := defScope s_law_alike) (own := [("_law_j", 2)]) (by decide +kernel)) (fun _ _ _ _ _ => pg_name (i := 2) sc_law_alike.nd rfl (by first | exact Or.inl rfl | exact Or.inr rfl)) (fun _ _ _ _ _ => pts_nil) (fun _ _ _ _ _ => (pcall C_law_alike hr (by first | decide | omega) rfl Passes.none (pa_cons (pe_ix (r := rIx K) ix_seq (pv 0) (pv 2) (fun _ _ => rfl)) (pa_cons (pe_ix (r := rIx K) ix_seq (pv 1) (pv 2) (fun _ _ => rfl)) pa_nil))))) pa_nil))))) pss_nil) (pss_cons (ps_if (pt_val (pe_callB call_isi (by rfl) T.b_isinstance PyProof.Rows.boot_isinstance (pa_cons (pv 1) (pa_cons (pe_bltn (v := .ty "str") rfl T.b_str PyProof.Rows.boot_str rfl) pa_nil)))) (pss_one (ps_ret (pe_and (pe_callB call_isi (by rfl) T.b_isinstance PyProof.Rows.boot_isinstance (pa_cons (pv 0) (pa_cons (pe_bltn (v := .ty "str") rfl T.b_str PyProof.Rows.boot_str rfl) pa_nil))) (pe_one (pe_cmpR op_eq (pv 0) (pv 1) (nomark _)))))) pss_nil) (pss_one (ps_ret (pe_and (pe_callB call_isi (by rfl) T.b_isinstance PyProof.Rows.boot_isinstance (pa_cons (pv 0) (pa_cons (pe_bltn (v := .ty "int") rfl T.b_int PyProof.Rows.boot_int rfl) pa_nil))) (pe_and (pe_not (pe_callB call_isi (by rfl) T.b_isinstance PyProof.Rows.boot_isinstance (pa_cons (pv 0) (pa_cons (pe_bltn (v := .ty "bool") rfl T.b_bool PyProof.Rows.boot_bool rfl) pa_nil)))) (pe_one (pe_cmpR op_eq (pv 0) (pv 1) (nomark _))))))))), ?_⟩
  show (_ : TS) _ [some f, some g, none] H
  first | dsimp only [L2.cxOf] | skip
  obtain ⟨d, hf, hg, hk, q⟩ := h
  rcases isK_cases hk with ⟨i, rfl, hi⟩ | ⟨z, rfl, hz⟩ | ⟨r1, ds, rfl, rfl, hl, hs⟩
  · cases hf
    cases hg
    walk_at "rd"
    rw [decide_eq_true rfl]
    exact q _ (Fr.refl _)
  · cases hf
    cases hg
    walk_at "rd"
    rw [decide_eq_true rfl]
    exact q _ (Fr.refl _)
  · cases hf with
    | @tup a xs _ e1 h1 =>
    cases hg with
    | @tup b ys _ e2 h2 =>
    have l1 := h1.length
    have l2 := h2.length
    have hbd : -(2 ^ 62) ≤ ((ys.length : Nat) : Int) ∧ ((ys.length : Nat) : Int) < 2 ^ 62 := by constructor <;> omega
    walk_at "rd"
    refine x_ndec (fun h => absurd (show ((xs.length : Nat) : Int) = (ys.length : Nat) by omega) h) (fun _ => ?_)
    walk_at "rd"
    intro D nD
    refine x_lcR (n := ys.length) (fun i H' => Fr Non H H' ∧ H' D = some (.lst ((List.replicate i true).map V.bl))) ⟨by walk_at "fr", upd_same⟩ ?_ ?_
    · rintro i H3 hi ⟨f3, hD⟩
      have e1' := List.getElem?_eq_getElem (show i < xs.length by omega)
      have e2' := List.getElem?_eq_getElem hi
      obtain ⟨d, g1, k1⟩ := h1.get e1'
      obtain ⟨e, g2, k2⟩ := h2.get e2'
      rw [g1] at g2
      cases g2
      have a1 : atI xs (0 + (i : Int)) = some (xs[i]) := by rw [Int.zero_add]; exact atI_nat e1'
      have a2 : atI ys (0 + (i : Int)) = some (ys[i]) := by rw [Int.zero_add]; exact atI_nat e2'
      generalize xs[i] = vx at a1 k1
      generalize ys[i] = vy at a2 k2
      have e13 := f3.tup _ _ e1
      have e23 := f3.tup _ _ e2
      have hl3 : ((List.replicate i true).map V.bl).length ≤ 100000 := by simp only [List.length_map, List.length_replicate]; omega
      walk_at "rd"
      refine hR r1 rfl _ _ _ _ ?_
      walk_at "rd"
      refine ⟨d, k1.mono f3, k2.mono f3, hs d (List.mem_of_getElem? g1), fun H4 f4 => ?_⟩
      walk_at "rd"
      refine ⟨by walk_at "fr", ?_⟩
      rw [List.replicate_succ', List.map_append]
      exact upd_same
    · rintro H3 ⟨f3, hD⟩
      walk_at "rd"
      refine x_all (SqL.of hD) ?_
      have e : (List.replicate ys.length true).all id = true := by rw [List.all_eq_true]; exact fun x hx => by rw [List.eq_of_mem_replicate hx]; rfl
      rw [e]
      exact q _ f3
theorem ok_law_alike (T : TX K mg) : ∀ r : Nat, CalX P w K mg base (2 + r) "_law_alike" ["_law_found", "_law_due_here"] (Sp2 (B_law_alike r))
  | 0 => step_law_alike T 0 1 _ (fun _ e => nomatch e) (CalX.never T.d_law_alike sc_law_alike (by decide)) (Nat.le_refl _)
  | r + 1 => step_law_alike T (r + 1) (2 + r) _ (fun r1 e => by cases e; exact fun _ _ _ _ h => h) (ok_law_alike T r) (by omega)
end

-- the def top 12
theorem sc_label_of_rows : FnScope ["rows"] ["rows"] (defScope s_label_of_rows) := ⟨rfl, rfl, rfl, by decide +kernel, rfl, by decide +kernel, by decide +kernel⟩
def B_label_of_rows : BK1 := fun rs H Q _ => ∃ (a : Addr) (xs : List V) (ps : List (PyData × PyData)) (f l : PyData × PyData), rs = .ref a ∧ H a = some (.lst xs) ∧ DtAll H xs (ps.map rowD) ∧ ps.length ≤ 1000 ∧ ps.head? = some f ∧ ps.getLast? = some l ∧
  ∀ v H', Fr Non H H' → Dt H' v (.tuple [.int 0, f.1, l.1, .int ps.length]) → Q v H'
section
variable {P : Program} {w : World} {K : PySem.W.Frag} {mg : Str → Option Value} {base : Heap}
theorem ok_label_of_rows (T : TX K mg) : CalX P w K mg base 1 "label_of_rows" ["rows"] (Sp1 (B_label_of_rows)) := by
  obtain ⟨f, fd, F, hm, bd⟩ := T.d_label_of_rows.ex
  refine ⟨f, fd, F.okX sc_label_of_rows len1 (fun cdv A outer s H vs Q E hr h => ?_), hm, F.kp, bd⟩
  obtain ⟨rs, rfl, h⟩ := h
  refine ⟨_, (pss_one (ps_ret (pe_tup (pa_cons pe_int (pa_cons (pe_ix ix_tup (pe_ix ix_list (pv 0) pe_int (fun _ _ => rfl)) pe_int (fun _ _ => rfl)) (pa_cons (pe_ix ix_tup (pe_ix ix_list (pv 0) (pe_un un_neg pe_int) (fun _ _ => rfl)) pe_int (fun _ _ => rfl)) (pa_cons (pe_callB c_len (by rfl) T.b_len (by decide +kernel) (pa_cons (pv 0) pa_nil)) pa_nil))))))), ?_⟩
  show (_ : TS) _ [some rs] H
  first | dsimp only [L2.cxOf] | skip
  obtain ⟨a, xs, ps, f, l, rfl, hH, hd, hn, hf, hl, q⟩ := h
  have hlen := hd.length
  rw [List.length_map] at hlen
  obtain ⟨v1, g1, k1⟩ := hd.head (d := rowD f) (by rw [List.head?_map, hf]; rfl)
  obtain ⟨v2, g2, k2⟩ := hd.last (d := rowD l) (by rw [List.getLast?_map, hl]; rfl)
  cases k1 with
  | @tup a1 ys1 _ e1 t1 =>
  cases k2 with
  | @tup a2 ys2 _ e2 t2 =>
  cases t1 with
  | @cons w1 _ _ _ c1 _ =>
  cases t2 with
  | @cons w2 _ _ _ c2 _ =>
  walk_at "rd"
  intro p n
  refine q _ _ (Fr.new (Fr.refl _) n) ?_
  rw [← hlen]
  exact .tup upd_same (.cons (.int _) (.cons (c1.upd n) (.cons (c2.upd n) (.cons (.int _) .nil))))
end

-- the def top 25
theorem sc_law : FnScope ["_law_script", "_law_grid_here", "_law_k", "_law_well_here", "_law_labels_here", "_law_handed", "_law_due_here", "_law_found", "_law_block", "_law_rows"] ["_law_script"] (defScope s_law) := ⟨rfl, rfl, rfl, by decide +kernel, rfl, by decide +kernel, by decide +kernel⟩
theorem isK_lb {l : Lb} (h : LbGood l) : isK 3 (lbD l) := by
  have e60 : (10 : Int) ^ 60 > 100000 := by decide
  obtain ⟨h1, h2, h3, h4⟩ := h
  refine ⟨by show 4 ≤ 4; decide, fun d hd => ?_⟩
  rcases List.mem_cons.mp hd with rfl | hd
  · rw [isK_int]; exact ⟨by omega, by omega⟩
  rcases List.mem_cons.mp hd with rfl | hd
  · exact isK_le (by decide) h1
  rcases List.mem_cons.mp hd with rfl | hd
  · exact isK_le (by decide) h2
  · rw [List.mem_singleton.mp hd, isK_int]; exact ⟨by omega, by omega⟩
theorem sum_le {ls : List Lb} (h : ∀ l ∈ ls, LbGood l) : 0 ≤ lbSum ls ∧ lbSum ls ≤ 10 * (ls.length : Int) := by
  unfold lbSum
  induction ls with
  | nil => exact ⟨Int.le_refl _, Int.le_refl _⟩
  | cons l ls ih =>
    obtain ⟨a, b⟩ := ih fun x hx => h x (List.mem_cons_of_mem _ hx)
    have := (h l (List.mem_cons_self ..)).2.2.2
    rw [List.map_cons, List.sum_cons, List.length_cons]
    constructor <;> omega
theorem isK_over {ls : List Lb} {f l : Lb} (h : ∀ l ∈ ls, LbGood l) (hn : ls.length ≤ 16) (hf : ls.head? = some f) (hl : ls.getLast? = some l) : isK 3 (lbOver ls f l) := by
  have e60 : (10 : Int) ^ 60 > 100000 := by decide
  have gf := h f (List.mem_of_mem_head? hf)
  have gl := h l (List.mem_of_mem_getLast? hl)
  have gs := sum_le h
  have hh := gf.2.2.1
  refine ⟨by show 4 ≤ 4; decide, fun d hd => ?_⟩
  rcases List.mem_cons.mp hd with rfl | hd
  · rw [isK_int]; exact ⟨by omega, by omega⟩
  rcases List.mem_cons.mp hd with rfl | hd
  · exact isK_le (by decide) gf.1
  rcases List.mem_cons.mp hd with rfl | hd
  · exact isK_le (by decide) gl.2.1
  · rw [List.mem_singleton.mp hd, isK_int]; exact ⟨by omega, by omega⟩
theorem isK_rowlabel {a b : PyData} {n : Nat} (ha : isK 1 a) (hb : isK 1 b) (hn : n ≤ 1000) : isK 3 (.tuple [.int 0, a, b, .int (n : Int)]) := by
  have e60 : (10 : Int) ^ 60 > 100000 := by decide
  refine ⟨by show 4 ≤ 4; decide, fun d hd => ?_⟩
  rcases List.mem_cons.mp hd with rfl | hd
  · rw [isK_int]; exact ⟨by omega, by omega⟩
  rcases List.mem_cons.mp hd with rfl | hd
  · exact isK_le (by decide) ha
  rcases List.mem_cons.mp hd with rfl | hd
  · exact isK_le (by decide) hb
  · rw [List.mem_singleton.mp hd, isK_int]; exact ⟨by omega, by omega⟩
def B_law (K : PySem.W.Frag) : BK1 := fun s H Q _ => ∃ (a : Addr) (ns : List Int), s = .ref a ∧ SqL K H a (ns.map V.int) ∧ ns.length ≤ 63 ∧ ∀ H', Q (.bl true) H'
section
variable {P : Program} {w : World} {K : PySem.W.Frag} {mg : Str → Option Value} {base : Heap}
theorem ok_law (T : TX K mg) {f : Addr} {fd : FuncData} (F : Fun K "law" "law" s_law f fd) : FnOk P w K mg base (L2.CX P w) 9 f fd ["_law_script"] (Sp1 (B_law K)) := by
  have C_law_grid := ok_law_grid (P := P) (w := w) (base := base) T
  have C_law_well := ok_law_well (P := P) (w := w) (base := base) T
  have C_law_labels := ok_law_labels (P := P) (w := w) (base := base) T
  have C_law_due := ok_law_due (P := P) (w := w) (base := base) T
  have C_law_asked := ok_law_asked (P := P) (w := w) (base := base) T
  have C_law_pull := ok_law_pull (P := P) (w := w) (base := base) T
  have C_law_leaf_rows := ok_law_leaf_rows (P := P) (w := w) (base := base) T
  have C_law_alike := ok_law_alike (P := P) (w := w) (base := base) T 3
  have C_label_of_rows := ok_label_of_rows (P := P) (w := w) (base := base) T
  refine F.okX sc_law len1 (fun cdv A outer s H vs Q E hr h => ?_)
  obtain ⟨s, rfl, h⟩ := h
  refine ⟨_, (pss_cons (ps_set (i := 1) sc_law.nd rfl (Or.inl rfl) (pcall C_law_grid hr (by first | decide | omega) rfl Passes.none (pa_cons (pcall C_law_well hr (by first | decide | omega) rfl Passes.none (pa_cons (pv 0) (pa_cons pe_int pa_nil))) pa_nil))) (pss_cons (ps_for (passes_of rfl) rfl (pi_range2 rfl T.b_range (pa_cons pe_int (pa_cons (pe_callB (c_max2 rfl) (by rfl) T.b_max (by decide +kernel) (pa_cons pe_int (pa_cons (pe_callB (c_min2 rfl) (by rfl) T.b_min (by decide +kernel) (pa_cons (pe_callB c_len (by rfl) T.b_len (by decide +kernel) (pa_cons (pv 0) pa_nil)) (pa_cons pe_int pa_nil))) pa_nil))) pa_nil))) (pg_name (i := 2) sc_law.nd rfl (Or.inl rfl)) (pss_cons (ps_set (i := 3) sc_law.nd rfl (Or.inl rfl) (pcall C_law_well hr (by first | decide | omega) rfl Passes.none (pa_cons (pv 0) (pa_cons (pv 2) pa_nil)))) (pss_cons (ps_set (i := 4) sc_law.nd rfl (Or.inl rfl) (pcall C_law_labels hr (by first | decide | omega) rfl Passes.none (pa_cons (pv 3) (pa_cons (pv 1) pa_nil)))) (pss_cons (ps_set (i := 5) sc_law.nd rfl (Or.inl rfl) (pe_callTy c_listOf (by rfl) T.b_list (by decide +kernel) (pa_cons (pv 4) pa_nil))) (pss_cons (ps_set (i := 6) sc_law.nd rfl (Or.inl rfl) (pcall C_law_due hr (by first | decide | omega) rfl Passes.none (pa_cons (pv 4) pa_nil))) (pss_cons (ps_set (i := 7) sc_law.nd rfl (Or.inl rfl) (pcall C_law_asked hr (by first | decide | omega) rfl Passes.none (pa_cons (pv 5) pa_nil))) (pss_cons (ps_if (PW.pt (pw_or (pt_cmpR (op_neD hr.units) (pv 5) (pv 4) (nomark _)) (pw_or1 (PW.pt (pw_and (pt_cmpR o_isN (pv 6) pe_non (nomark _)) (pw_and1 (pt_cmpR o_notN (pv 7) pe_non (nomark _)))))))) (pss_one (ps_ret pe_bl)) pss_nil) (pss_cons (ps_if (PW.pt (pw_and (pt_cmpR o_notN (pv 6) pe_non (nomark _)) (pw_and1 (pt_not (pt_val (pcall C_law_alike hr (by first | decide | omega) rfl Passes.none (pa_cons (pv 7) (pa_cons (pv 6) pa_nil)))))))) (pss_one (ps_ret pe_bl)) pss_nil) (pss_cons (ps_set (i := 8) sc_law.nd rfl (Or.inl rfl) (pcall C_law_pull hr (by first | decide | omega) rfl Passes.none (pa_cons (pv 3) (pa_cons pe_int pa_nil)))) (pss_cons (ps_set (i := 9) sc_law.nd rfl (Or.inl rfl) (pcall C_law_leaf_rows hr (by first | decide | omega) rfl Passes.none (pa_cons (pv 3) (pa_cons (pv 1) (pa_cons (pv 8) pa_nil))))) (pss_one (ps_if (pt_not (pt_val (pcall C_law_alike hr (by first | decide | omega) rfl Passes.none (pa_cons (pcall C_label_of_rows hr (by first | decide | omega) rfl Passes.none (pa_cons (pe_callTy c_listOf (by rfl) T.b_list (by decide +kernel) (pa_cons (pv 9) pa_nil)) pa_nil)) (pa_cons (pe_tup (pa_cons pe_int (pa_cons (pe_ix ix_tup (pe_ix ix_list (pv 9) pe_int (fun _ _ => rfl)) pe_int (fun _ _ => rfl)) (pa_cons (pe_ix ix_tup (pe_ix ix_list (pv 9) (pe_un un_neg pe_int) (fun _ _ => rfl)) pe_int (fun _ _ => rfl)) (pa_cons (pe_callB c_len (by rfl) T.b_len (by decide +kernel) (pa_cons (pv 9) pa_nil)) pa_nil))))) pa_nil))))) (pss_one (ps_ret pe_bl)) pss_nil)))))))))))) (pss_one (ps_ret pe_bl)))), ?_⟩
  show (_ : TS) _ [some s, none, none, none, none, none, none, none, none, none] H
  first | dsimp only [L2.cxOf] | skip
  obtain ⟨a, ns, rfl, hS, hn, q⟩ := h
  walk_at "rd"
  refine ⟨a, ns, _, rfl, rfl, by omega, hS, hn, fun p H1 f1 nP w1 => ?_⟩
  have nP' : Fresh H p := nP
  walk_at "rd"
  refine ⟨p, rfl, w1, fun g H2 gs ds f2 w2 ng eg hdg lg kg => ?_⟩
  have f02 : Fr Non H H2 := f1.sub' f2 fun b h => by subst h; exact .inr nP'
  have ng' : Fresh H g := f1.free ng
  have hS2 : SqL K H2 a (ns.map V.int) := SqL_fr hS f02 id
  walk_at "rd"
  obtain ⟨top, htop, htop1⟩ : ∃ top : Int, top = (if (if 41 < ((ns.map V.int).length : Int) then (41 : Int) else ((ns.map V.int).length : Int)) > 11 then (if 41 < ((ns.map V.int).length : Int) then (41 : Int) else ((ns.map V.int).length : Int)) else 11) ∧ (11 ≤ top ∧ top ≤ 63) := by
    refine ⟨_, rfl, ?_⟩
    rw [List.length_map]
    constructor <;> (repeat' split) <;> omega
  have hrg : (-(2 ^ 62) ≤ (1 : Int) ∧ (1 : Int) < 2 ^ 62 ∧ -(2 ^ 62) ≤ top ∧ top < 2 ^ 62) := ⟨by decide, by decide, by omega, by omega⟩
  rw [← htop]
  refine ⟨_, _, rfl, hrg, ?_⟩
  refine x_forR (n := (top - 1).toNat) (fun i σ H' => ∃ (v2 v3 v4 v5 v6 v7 v8 v9 : Option V), σ = [some (.ref a), some (.ref g), v2, v3, v4, v5, v6, v7, v8, v9] ∧ Fr Non H2 H') ⟨_, _, _, _, _, _, _, _, rfl, Fr.refl _⟩ ?_ ?_
  · rintro i σ H3 hi ⟨v2, v3, v4, v5, v6, v7, v8, v9, rfl, f3⟩
    walk_at "rd"
    refine ⟨a, ns, _, rfl, rfl, by omega, SqL_fr hS2 f3 id, hn, fun p3 H4 f4 nP3 w4 => ?_⟩
    have f24 := f3.trans f4
    have nP2 : Fresh H2 p3 := f3.free nP3
    have eg4 := f24.keep _ _ eg id
    have hdg4 := hdg.mono f24
    walk_at "rd"
    refine ⟨p3, g, gs, ds, rfl, rfl, w4, eg4, hdg4, lg, kg, fun L H5 xs ls f5 w5 nL eL hdL lL kL => ?_⟩
    have hxl := hdL.length
    rw [List.length_map] at hxl
    have f25 : Fr Non H2 H5 := f24.sub' f5 fun b h => by subst h; exact .inr nP2
    have nL2 : Fresh H2 L := f24.free nL
    have hLp : L ≠ p3 := Well.ne w4 nL
    have gk : ∀ l ∈ ls, isK 3 l.lo ∧ isK 3 l.hi := fun l hl => ⟨isK_le (by decide) (kL l hl).1, isK_le (by decide) (kL l hl).2.1⟩
    have kd : ∀ d ∈ ls.map lbD, isK 3 d := fun d hd => by
      obtain ⟨l, hl, rfl⟩ := List.mem_map.mp hd
      exact isK_lb (kL l hl)
    walk_at "rd"
    intro M nM
    walk_at "rd"
    have eL6 := keepU (u := .lst xs) eL nM
    have eM6 : upd H5 M (.lst xs) M = some (.lst xs) := upd_same
    have hd6 := hdL.upd (o := .lst xs) nM
    have w6 := w5.new (u := .lst xs) nM
    have f26 : Fr Non H2 (upd H5 M (.lst xs)) := Fr.new f25 nM
    generalize upd H5 M (.lst xs) = H6 at eL6 eM6 hd6 w6 f26 ⊢
    refine ⟨L, xs, ls, rfl, eL6, hd6, by omega, gk, fun f l h1 h2 h3 v H7 f7 hv => ?_, fun h1 H7 f7 => ?_⟩
    · have hv7 := hv
      have eM7 := f7.keep _ _ eM6 id
      have hd7 := hd6.mono f7
      have ko := isK_over kL lL h2 h3
      walk_at "rd"
      refine ⟨M, xs, ls, rfl, eM7, hd7, by omega, gk, fun f' l' h1' h2' h3' v' H8 f8 hv8 => ?_, fun h1' => absurd (h1.symm.trans h1') (by decide)⟩
      rw [h2] at h2'
      rw [h3] at h3'
      cases h2'
      cases h3'
      have eL8 := f8.keep _ _ (f7.keep _ _ eL6 id) id
      have eM8 := f8.keep _ _ eM7 id
      have hd8 := hd7.mono f8
      have hvd8 := hv7.mono f8
      have f28 := (f26.trans f7).trans f8
      have w8 : Well H8 p3 := (w6.fr f7 id).fr f8 id
      obtain ⟨pv, rfl⟩ : ∃ pv, v = .ref pv := by cases hv7; exact ⟨_, rfl⟩
      have hnon : decide (V.ref pv = V.non) = false := decide_eq_false (by simp)
      walk_at "rd"
      refine x_neD (d := .list (ls.map lbD)) (e := .list (ls.map lbD)) (.lst (SqL.of eM8) (DtAll.dp _ _ hd8)) (.lst (SqL.of eL8) (DtAll.dp _ _ hd8)) (list_shaped kd (by decide)) (list_shaped kd (by decide)) ?_
      have ee : PyData.eqv (.list (ls.map lbD)) (.list (ls.map lbD)) = true := by rw [PyData.eqv]; exact eqvAll_of_eq kd
      rw [ee]
      walk_at "rd"
      rw [hnon]
      walk_at "rd"
      rw [hnon]
      walk_at "rd"
      refine ⟨_, hv8, hvd8, ko, fun H9 f9 => ?_⟩
      have f29 := f28.trans f9
      have w9 := w8.fr f9 id
      walk_at "rd"
      refine ⟨p3, _, rfl, rfl, by decide, by decide +kernel, w9, fun r10 H10 f10 w10 r100 r101 => ?_⟩
      have f210 : Fr Non H2 H10 := f29.sub' f10 fun b h => by subst h; exact .inr nP2
      have eg10 := f210.keep _ _ eg id
      have hdg10 := hdg.mono f210
      walk_at "rd"
      refine ⟨p3, g, r10, gs, ds, rfl, rfl, rfl, r100, r101, w10, eg10, hdg10, lg, kg, fun R H11 xs2 ps f11 w11 nR eR hdR hR1 hR4 gR => ?_⟩
      have f211 : Fr Non H2 H11 := f210.sub' f11 fun b h => by subst h; exact .inr nP2
      have hxr := hdR.length
      rw [List.length_map] at hxr
      obtain ⟨fr, hfr⟩ : ∃ fr, ps.head? = some fr := by
        cases ps with
        | nil => simp only [List.length_nil] at hR1; omega
        | cons x y => exact ⟨x, rfl⟩
      obtain ⟨lr, hlr⟩ : ∃ lr, ps.getLast? = some lr := by
        cases hq : ps.getLast? with
        | some l => exact ⟨l, rfl⟩
        | none => rw [List.getLast?_eq_none_iff] at hq; subst hq; simp only [List.length_nil] at hR1; omega
      walk_at "rd"
      intro M2 nM2
      walk_at "rd"
      have eR12 := keepU (u := .lst xs2) eR nM2
      have eM12 : upd H11 M2 (.lst xs2) M2 = some (.lst xs2) := upd_same
      have hd12 := hdR.upd (o := .lst xs2) nM2
      have f212 : Fr Non H2 (upd H11 M2 (.lst xs2)) := Fr.new f211 nM2
      generalize upd H11 M2 (.lst xs2) = H12 at eR12 eM12 hd12 f212 ⊢
      refine ⟨M2, xs2, ps, fr, lr, rfl, eM12, hd12, by omega, hfr, hlr, fun v13 H13 f13 hv13 => ?_⟩
      have eR13 := f13.keep _ _ eR12 id
      have hd13 := hd12.mono f13
      have f213 := f212.trans f13
      obtain ⟨u1, g1, k1⟩ := hd13.head (d := rowD fr) (by rw [List.head?_map, hfr]; rfl)
      obtain ⟨u2, g2, k2⟩ := hd13.last (d := rowD lr) (by rw [List.getLast?_map, hlr]; rfl)
      have gf := gR fr (List.mem_of_mem_head? hfr)
      have gl := gR lr (List.mem_of_mem_getLast? hlr)
      cases k1 with
      | @tup a1 ys1 _ e1 t1 =>
      cases k2 with
      | @tup a2 ys2 _ e2 t2 =>
      cases t1 with
      | @cons y1 _ _ _ c1 _ =>
      cases t2 with
      | @cons y2 _ _ _ c2 _ =>
      walk_at "rd"
      intro pt nt
      walk_at "rd"
      have hvt : Dt (upd H13 pt (.tup [.int 0, y1, y2, .int xs2.length])) (.ref pt) (.tuple [.int 0, fr.1, lr.1, .int ps.length]) := by
        rw [← hxr]
        exact .tup upd_same (.cons (.int _) (.cons (c1.upd nt) (.cons (c2.upd nt) (.cons (.int _) .nil))))
      have hv14 := hv13.upd (o := .tup [.int 0, y1, y2, .int xs2.length]) nt
      have f214 : Fr Non H2 (upd H13 pt (.tup [.int 0, y1, y2, .int xs2.length])) := Fr.new f213 nt
      generalize upd H13 pt (.tup [.int 0, y1, y2, .int xs2.length]) = H14 at hvt hv14 f214 ⊢
      refine ⟨_, hv14, hvt, isK_rowlabel gf.1 gl.1 (by omega), fun H15 f15 => ?_⟩
      walk_at "rd"
      exact ⟨_, _, _, _, _, _, _, _, rfl, f214.trans f15⟩
    · have eM7 := f7.keep _ _ eM6 id
      have hd7 := hd6.mono f7
      walk_at "rd"
      refine ⟨M, xs, ls, rfl, eM7, hd7, by omega, gk, fun f' l' h1' h2' h3' v' H8 f8 hv8 => absurd (h1.symm.trans h1') (by decide), fun _ H8 f8 => ?_⟩
      have eL8 := f8.keep _ _ (f7.keep _ _ eL6 id) id
      have eM8 := f8.keep _ _ eM7 id
      have hd8 := hd7.mono f8
      have f28 := (f26.trans f7).trans f8
      have w8 : Well H8 p3 := (w6.fr f7 id).fr f8 id
      walk_at "rd"
      refine x_neD (d := .list (ls.map lbD)) (e := .list (ls.map lbD)) (.lst (SqL.of eM8) (DtAll.dp _ _ hd8)) (.lst (SqL.of eL8) (DtAll.dp _ _ hd8)) (list_shaped kd (by decide)) (list_shaped kd (by decide)) ?_
      have ee : PyData.eqv (.list (ls.map lbD)) (.list (ls.map lbD)) = true := by rw [PyData.eqv]; exact eqvAll_of_eq kd
      rw [ee]
      walk_at "rd"
      have f29 := f28
      have w9 := w8
      refine ⟨p3, _, rfl, rfl, by decide, by decide +kernel, w9, fun r10 H10 f10 w10 r100 r101 => ?_⟩
      have f210 : Fr Non H2 H10 := f29.sub' f10 fun b h => by subst h; exact .inr nP2
      have eg10 := f210.keep _ _ eg id
      have hdg10 := hdg.mono f210
      walk_at "rd"
      refine ⟨p3, g, r10, gs, ds, rfl, rfl, rfl, r100, r101, w10, eg10, hdg10, lg, kg, fun R H11 xs2 ps f11 w11 nR eR hdR hR1 hR4 gR => ?_⟩
      have f211 : Fr Non H2 H11 := f210.sub' f11 fun b h => by subst h; exact .inr nP2
      have hxr := hdR.length
      rw [List.length_map] at hxr
      obtain ⟨fr, hfr⟩ : ∃ fr, ps.head? = some fr := by
        cases ps with
        | nil => simp only [List.length_nil] at hR1; omega
        | cons x y => exact ⟨x, rfl⟩
      obtain ⟨lr, hlr⟩ : ∃ lr, ps.getLast? = some lr := by
        cases hq : ps.getLast? with
        | some l => exact ⟨l, rfl⟩
        | none => rw [List.getLast?_eq_none_iff] at hq; subst hq; simp only [List.length_nil] at hR1; omega
      walk_at "rd"
      intro M2 nM2
      walk_at "rd"
      have eR12 := keepU (u := .lst xs2) eR nM2
      have eM12 : upd H11 M2 (.lst xs2) M2 = some (.lst xs2) := upd_same
      have hd12 := hdR.upd (o := .lst xs2) nM2
      have f212 : Fr Non H2 (upd H11 M2 (.lst xs2)) := Fr.new f211 nM2
      generalize upd H11 M2 (.lst xs2) = H12 at eR12 eM12 hd12 f212 ⊢
      refine ⟨M2, xs2, ps, fr, lr, rfl, eM12, hd12, by omega, hfr, hlr, fun v13 H13 f13 hv13 => ?_⟩
      have eR13 := f13.keep _ _ eR12 id
      have hd13 := hd12.mono f13
      have f213 := f212.trans f13
      obtain ⟨u1, g1, k1⟩ := hd13.head (d := rowD fr) (by rw [List.head?_map, hfr]; rfl)
      obtain ⟨u2, g2, k2⟩ := hd13.last (d := rowD lr) (by rw [List.getLast?_map, hlr]; rfl)
      have gf := gR fr (List.mem_of_mem_head? hfr)
      have gl := gR lr (List.mem_of_mem_getLast? hlr)
      cases k1 with
      | @tup a1 ys1 _ e1 t1 =>
      cases k2 with
      | @tup a2 ys2 _ e2 t2 =>
      cases t1 with
      | @cons y1 _ _ _ c1 _ =>
      cases t2 with
      | @cons y2 _ _ _ c2 _ =>
      walk_at "rd"
      intro pt nt
      walk_at "rd"
      have hvt : Dt (upd H13 pt (.tup [.int 0, y1, y2, .int xs2.length])) (.ref pt) (.tuple [.int 0, fr.1, lr.1, .int ps.length]) := by
        rw [← hxr]
        exact .tup upd_same (.cons (.int _) (.cons (c1.upd nt) (.cons (c2.upd nt) (.cons (.int _) .nil))))
      have hv14 := hv13.upd (o := .tup [.int 0, y1, y2, .int xs2.length]) nt
      have f214 : Fr Non H2 (upd H13 pt (.tup [.int 0, y1, y2, .int xs2.length])) := Fr.new f213 nt
      generalize upd H13 pt (.tup [.int 0, y1, y2, .int xs2.length]) = H14 at hvt hv14 f214 ⊢
      refine ⟨_, hv14, hvt, isK_rowlabel gf.1 gl.1 (by omega), fun H15 f15 => ?_⟩
      walk_at "rd"
      exact ⟨_, _, _, _, _, _, _, _, rfl, f214.trans f15⟩
  · rintro σ H3 ⟨v2, v3, v4, v5, v6, v7, v8, v9, rfl, f3⟩
    walk_at "rd"
    exact q _
end

theorem all_mk {l : PySem.W.OpenLaw} {w : World} {K : PySem.W.Frag} {h : Heap} {mg : Str → Option Value} {fa : Addr} {f0 : Addr} {od0 an0 : Option Addr} {sl0 : Array (Option Value)} {oc0 kV0 dc0 pm0 cd0 ct0 : Value} {f1 : Addr} {od1 an1 : Option Addr} {sl1 : Array (Option Value)} {oc1 kV1 dc1 pm1 cd1 ct1 : Value} {f2 : Addr} {od2 an2 : Option Addr} {sl2 : Array (Option Value)} {oc2 kV2 dc2 pm2 cd2 ct2 : Value} {f3 : Addr} {od3 an3 : Option Addr} {sl3 : Array (Option Value)} {oc3 kV3 dc3 pm3 cd3 ct3 : Value} {f4 : Addr} {od4 an4 : Option Addr} {sl4 : Array (Option Value)} {oc4 kV4 dc4 pm4 cd4 ct4 : Value} {f5 : Addr} {od5 an5 : Option Addr} {sl5 : Array (Option Value)} {oc5 kV5 dc5 pm5 cd5 ct5 : Value} {f6 : Addr} {od6 an6 : Option Addr} {sl6 : Array (Option Value)} {oc6 kV6 dc6 pm6 cd6 ct6 : Value} {f7 : Addr} {od7 an7 : Option Addr} {sl7 : Array (Option Value)} {oc7 kV7 dc7 pm7 cd7 ct7 : Value} {f8 : Addr} {od8 an8 : Option Addr} {sl8 : Array (Option Value)} {oc8 kV8 dc8 pm8 cd8 ct8 : Value} {f9 : Addr} {od9 an9 : Option Addr} {sl9 : Array (Option Value)} {oc9 kV9 dc9 pm9 cd9 ct9 : Value} {f10 : Addr} {od10 an10 : Option Addr} {sl10 : Array (Option Value)} {oc10 kV10 dc10 pm10 cd10 ct10 : Value} {f11 : Addr} {od11 an11 : Option Addr} {sl11 : Array (Option Value)} {oc11 kV11 dc11 pm11 cd11 ct11 : Value} {f12 : Addr} {od12 an12 : Option Addr} {sl12 : Array (Option Value)} {oc12 kV12 dc12 pm12 cd12 ct12 : Value} {f13 : Addr} {od13 an13 : Option Addr} {sl13 : Array (Option Value)} {oc13 kV13 dc13 pm13 cd13 ct13 : Value} {f14 : Addr} {od14 an14 : Option Addr} {sl14 : Array (Option Value)} {oc14 kV14 dc14 pm14 cd14 ct14 : Value} {t_MOST : Nat} {k_NoKey : Addr} {k_NoLeaf : Addr} {k_NoStem : Addr} {k_NoTwig : Addr} {k_NotHeld : Addr} {k_TwigError : Addr} (X : K.In h) (G : h.Ns mainGlobals mg) (hfa : mg "law" = some (.ref fa))
    (a0 : PySem.W.nsIn K mainGlobals "_law_pull" = some (some (.ref f0))) (l0 : K.lookup f0 = some ⟨oc0, od0, .func (PySem.W.fnOf "_law_pull" "_law_pull" (defArgs s_law_pull) (defBody s_law_pull) (defScope s_law_pull) .none kV0 dc0 pm0 an0 cd0 ct0), sl0⟩) (c0 : PySem.W.codeIn K cd0 "_law_pull" = true) (k0 : PySem.W.keepIn K (.ref f0) = true)
    (a1 : PySem.W.nsIn K mainGlobals "_law_grid" = some (some (.ref f1))) (l1 : K.lookup f1 = some ⟨oc1, od1, .func (PySem.W.fnOf "_law_grid" "_law_grid" (defArgs s_law_grid) (defBody s_law_grid) (defScope s_law_grid) .none kV1 dc1 pm1 an1 cd1 ct1), sl1⟩) (c1 : PySem.W.codeIn K cd1 "_law_grid" = true) (k1 : PySem.W.keepIn K (.ref f1) = true)
    (a2 : PySem.W.nsIn K mainGlobals "_law_well" = some (some (.ref f2))) (l2 : K.lookup f2 = some ⟨oc2, od2, .func (PySem.W.fnOf "_law_well" "_law_well" (defArgs s_law_well) (defBody s_law_well) (defScope s_law_well) .none kV2 dc2 pm2 an2 cd2 ct2), sl2⟩) (c2 : PySem.W.codeIn K cd2 "_law_well" = true) (k2 : PySem.W.keepIn K (.ref f2) = true)
    (a3 : PySem.W.nsIn K mainGlobals "_law_labels" = some (some (.ref f3))) (l3 : K.lookup f3 = some ⟨oc3, od3, .func (PySem.W.fnOf "_law_labels" "_law_labels" (defArgs s_law_labels) (defBody s_law_labels) (defScope s_law_labels) .none kV3 dc3 pm3 an3 cd3 ct3), sl3⟩) (c3 : PySem.W.codeIn K cd3 "_law_labels" = true) (k3 : PySem.W.keepIn K (.ref f3) = true)
    (a4 : PySem.W.nsIn K mainGlobals "_law_rank" = some (some (.ref f4))) (l4 : K.lookup f4 = some ⟨oc4, od4, .func (PySem.W.fnOf "_law_rank" "_law_rank" (defArgs s_law_rank) (defBody s_law_rank) (defScope s_law_rank) .none kV4 dc4 pm4 an4 cd4 ct4), sl4⟩) (c4 : PySem.W.codeIn K cd4 "_law_rank" = true) (k4 : PySem.W.keepIn K (.ref f4) = true)
    (a5 : PySem.W.nsIn K mainGlobals "_law_less" = some (some (.ref f5))) (l5 : K.lookup f5 = some ⟨oc5, od5, .func (PySem.W.fnOf "_law_less" "_law_less" (defArgs s_law_less) (defBody s_law_less) (defScope s_law_less) .none kV5 dc5 pm5 an5 cd5 ct5), sl5⟩) (c5 : PySem.W.codeIn K cd5 "_law_less" = true) (k5 : PySem.W.keepIn K (.ref f5) = true)
    (a6 : PySem.W.nsIn K mainGlobals "_law_due" = some (some (.ref f6))) (l6 : K.lookup f6 = some ⟨oc6, od6, .func (PySem.W.fnOf "_law_due" "_law_due" (defArgs s_law_due) (defBody s_law_due) (defScope s_law_due) .none kV6 dc6 pm6 an6 cd6 ct6), sl6⟩) (c6 : PySem.W.codeIn K cd6 "_law_due" = true) (k6 : PySem.W.keepIn K (.ref f6) = true)
    (a7 : PySem.W.nsIn K mainGlobals "rank" = some (some (.ref f7))) (l7 : K.lookup f7 = some ⟨oc7, od7, .func (PySem.W.fnOf "rank" "rank" (defArgs s_rank) (defBody s_rank) (defScope s_rank) .none kV7 dc7 pm7 an7 cd7 ct7), sl7⟩) (c7 : PySem.W.codeIn K cd7 "rank" = true) (k7 : PySem.W.keepIn K (.ref f7) = true)
    (a8 : PySem.W.nsIn K mainGlobals "ahead" = some (some (.ref f8))) (l8 : K.lookup f8 = some ⟨oc8, od8, .func (PySem.W.fnOf "ahead" "ahead" (defArgs s_ahead) (defBody s_ahead) (defScope s_ahead) .none kV8 dc8 pm8 an8 cd8 ct8), sl8⟩) (c8 : PySem.W.codeIn K cd8 "ahead" = true) (k8 : PySem.W.keepIn K (.ref f8) = true)
    (a9 : PySem.W.nsIn K mainGlobals "label_over" = some (some (.ref f9))) (l9 : K.lookup f9 = some ⟨oc9, od9, .func (PySem.W.fnOf "label_over" "label_over" (defArgs s_label_over) (defBody s_label_over) (defScope s_label_over) .none kV9 dc9 pm9 an9 cd9 ct9), sl9⟩) (c9 : PySem.W.codeIn K cd9 "label_over" = true) (k9 : PySem.W.keepIn K (.ref f9) = true)
    (a10 : PySem.W.nsIn K mainGlobals "_law_asked" = some (some (.ref f10))) (l10 : K.lookup f10 = some ⟨oc10, od10, .func (PySem.W.fnOf "_law_asked" "_law_asked" (defArgs s_law_asked) (defBody s_law_asked) (defScope s_law_asked) .none kV10 dc10 pm10 an10 cd10 ct10), sl10⟩) (c10 : PySem.W.codeIn K cd10 "_law_asked" = true) (k10 : PySem.W.keepIn K (.ref f10) = true)
    (a11 : PySem.W.nsIn K mainGlobals "_law_leaf_rows" = some (some (.ref f11))) (l11 : K.lookup f11 = some ⟨oc11, od11, .func (PySem.W.fnOf "_law_leaf_rows" "_law_leaf_rows" (defArgs s_law_leaf_rows) (defBody s_law_leaf_rows) (defScope s_law_leaf_rows) .none kV11 dc11 pm11 an11 cd11 ct11), sl11⟩) (c11 : PySem.W.codeIn K cd11 "_law_leaf_rows" = true) (k11 : PySem.W.keepIn K (.ref f11) = true)
    (a12 : PySem.W.nsIn K mainGlobals "_law_alike" = some (some (.ref f12))) (l12 : K.lookup f12 = some ⟨oc12, od12, .func (PySem.W.fnOf "_law_alike" "_law_alike" (defArgs s_law_alike) (defBody s_law_alike) (defScope s_law_alike) .none kV12 dc12 pm12 an12 cd12 ct12), sl12⟩) (c12 : PySem.W.codeIn K cd12 "_law_alike" = true) (k12 : PySem.W.keepIn K (.ref f12) = true)
    (a13 : PySem.W.nsIn K mainGlobals "label_of_rows" = some (some (.ref f13))) (l13 : K.lookup f13 = some ⟨oc13, od13, .func (PySem.W.fnOf "label_of_rows" "label_of_rows" (defArgs s_label_of_rows) (defBody s_label_of_rows) (defScope s_label_of_rows) .none kV13 dc13 pm13 an13 cd13 ct13), sl13⟩) (c13 : PySem.W.codeIn K cd13 "label_of_rows" = true) (k13 : PySem.W.keepIn K (.ref f13) = true)
    (a14 : PySem.W.nsIn K mainGlobals "law" = some (some (.ref f14))) (l14 : K.lookup f14 = some ⟨oc14, od14, .func (PySem.W.fnOf "law" "law" (defArgs s_law) (defBody s_law) (defScope s_law) .none kV14 dc14 pm14 an14 cd14 ct14), sl14⟩) (c14 : PySem.W.codeIn K cd14 "law" = true) (k14 : PySem.W.keepIn K (.ref f14) = true)
    (z_ValueError : PySem.W.nsIn K mainGlobals "ValueError" = some none)
    (z_abs : PySem.W.nsIn K mainGlobals "abs" = some none)
    (z_all : PySem.W.nsIn K mainGlobals "all" = some none)
    (z_bool : PySem.W.nsIn K mainGlobals "bool" = some none)
    (z_int : PySem.W.nsIn K mainGlobals "int" = some none)
    (z_isinstance : PySem.W.nsIn K mainGlobals "isinstance" = some none)
    (z_len : PySem.W.nsIn K mainGlobals "len" = some none)
    (z_list : PySem.W.nsIn K mainGlobals "list" = some none)
    (z_max : PySem.W.nsIn K mainGlobals "max" = some none)
    (z_min : PySem.W.nsIn K mainGlobals "min" = some none)
    (z_range : PySem.W.nsIn K mainGlobals "range" = some none)
    (z_str : PySem.W.nsIn K mainGlobals "str" = some none)
    (z_sum : PySem.W.nsIn K mainGlobals "sum" = some none)
    (z_tuple : PySem.W.nsIn K mainGlobals "tuple" = some none)
    (u_MOST : PySem.W.nsIn K mainGlobals "MOST" = some (some (.int 4 t_MOST)))
    (n_NoKey : PySem.W.nsIn K mainGlobals "NoKey" = some (some (.ref k_NoKey)))
    (n_NoLeaf : PySem.W.nsIn K mainGlobals "NoLeaf" = some (some (.ref k_NoLeaf)))
    (n_NoStem : PySem.W.nsIn K mainGlobals "NoStem" = some (some (.ref k_NoStem)))
    (n_NoTwig : PySem.W.nsIn K mainGlobals "NoTwig" = some (some (.ref k_NoTwig)))
    (n_NotHeld : PySem.W.nsIn K mainGlobals "NotHeld" = some (some (.ref k_NotHeld)))
    (n_TwigError : PySem.W.nsIn K mainGlobals "TwigError" = some (some (.ref k_TwigError)))
    (p1_NoStem : PySem.W.keepIn K (.ref k_NoStem) = true) (p2_NoStem : PySem.W.excIn K k_NoStem [.type "ValueError", .type "Exception", .type "BaseException", .type "object"] "ValueError.__new__" = true) (p3_NoStem : PySem.W.subIn K (.ref k_NoStem) (.type "BaseException") = some true) (p4_NoStem : PySem.W.typeIn K (.ref k_NoStem) = some (.type "type"))
    (y_em_NoStem : PySem.W.exmOne K (.ref k_NoStem) (.ref k_TwigError) = some true)
    (y_xc_NoStem : excCB K k_NoStem = true)
    (y_ka_NoStem_4 : PySem.W.kitAny K (.ref k_NoStem) [.ref k_NoKey, .ref k_NoLeaf, .ref k_NotHeld, .ref k_NoTwig] = some false)
    (y_ki_NoStem : PySem.W.kitOne K (.ref k_NoStem) (.ref k_NoStem) = some true)
    (y_ki_NoStem_VE : PySem.W.kitOne K (.ref k_NoStem) (.type "ValueError") = some true) :
    ∃ fd : FuncData, (∀ (s : Shared) (v : Value), BindsTo s fd ⟨[v], []⟩ [("_law_script", v)]) ∧ ∀ base : Heap, K.In base → base.Ns mainGlobals mg → FnOk l.prog w K mg base (L2.CX l.prog w) 9 fa fd ["_law_script"] (Sp1 (B_law K)) := by
  have e := hfa.symm.trans (PySem.W.mg_of X G a14)
  cases e
  have e_NoKey : clA mg "NoKey" = k_NoKey := clA_of (PySem.W.mg_of X G n_NoKey)
  have e_NoLeaf : clA mg "NoLeaf" = k_NoLeaf := clA_of (PySem.W.mg_of X G n_NoLeaf)
  have e_NoStem : clA mg "NoStem" = k_NoStem := clA_of (PySem.W.mg_of X G n_NoStem)
  have e_NoTwig : clA mg "NoTwig" = k_NoTwig := clA_of (PySem.W.mg_of X G n_NoTwig)
  have e_NotHeld : clA mg "NotHeld" = k_NotHeld := clA_of (PySem.W.mg_of X G n_NotHeld)
  have e_TwigError : clA mg "TwigError" = k_TwigError := clA_of (PySem.W.mg_of X G n_TwigError)
  have T : TX K mg := {
    d_law_pull := ⟨_, _, fun_mk (st := s_law_pull) l0 c0 k0, PySem.W.mg_of X G a0, (fun_mk (st := s_law_pull) l0 c0 k0).binds (ps := ["_law_well_here", "_law_many"]) fun _ _ _ _ _ _ us hl => match us, hl with | [_, _], _ => rfl⟩,
    d_law_grid := ⟨_, _, fun_mk (st := s_law_grid) l1 c1 k1, PySem.W.mg_of X G a1, (fun_mk (st := s_law_grid) l1 c1 k1).binds (ps := ["_law_well_here"]) fun _ _ _ _ _ _ us hl => match us, hl with | [_], _ => rfl⟩,
    d_law_well := ⟨_, _, fun_mk (st := s_law_well) l2 c2 k2, PySem.W.mg_of X G a2, (fun_mk (st := s_law_well) l2 c2 k2).binds (ps := ["_law_script", "_law_k"]) fun _ _ _ _ _ _ us hl => match us, hl with | [_, _], _ => rfl⟩,
    d_law_labels := ⟨_, _, fun_mk (st := s_law_labels) l3 c3 k3, PySem.W.mg_of X G a3, (fun_mk (st := s_law_labels) l3 c3 k3).binds (ps := ["_law_well_here", "_law_grid_here"]) fun _ _ _ _ _ _ us hl => match us, hl with | [_, _], _ => rfl⟩,
    d_law_rank := ⟨_, _, fun_mk (st := s_law_rank) l4 c4 k4, PySem.W.mg_of X G a4, (fun_mk (st := s_law_rank) l4 c4 k4).binds (ps := ["_law_spot"]) fun _ _ _ _ _ _ us hl => match us, hl with | [_], _ => rfl⟩,
    d_law_less := ⟨_, _, fun_mk (st := s_law_less) l5 c5 k5, PySem.W.mg_of X G a5, (fun_mk (st := s_law_less) l5 c5 k5).binds (ps := ["_law_one", "_law_other"]) fun _ _ _ _ _ _ us hl => match us, hl with | [_, _], _ => rfl⟩,
    d_law_due := ⟨_, _, fun_mk (st := s_law_due) l6 c6 k6, PySem.W.mg_of X G a6, (fun_mk (st := s_law_due) l6 c6 k6).binds (ps := ["_law_labels_here"]) fun _ _ _ _ _ _ us hl => match us, hl with | [_], _ => rfl⟩,
    d_rank := ⟨_, _, fun_mk (st := s_rank) l7 c7 k7, PySem.W.mg_of X G a7, (fun_mk (st := s_rank) l7 c7 k7).binds (ps := ["key"]) fun _ _ _ _ _ _ us hl => match us, hl with | [_], _ => rfl⟩,
    d_ahead := ⟨_, _, fun_mk (st := s_ahead) l8 c8 k8, PySem.W.mg_of X G a8, (fun_mk (st := s_ahead) l8 c8 k8).binds (ps := ["one", "other"]) fun _ _ _ _ _ _ us hl => match us, hl with | [_, _], _ => rfl⟩,
    d_label_over := ⟨_, _, fun_mk (st := s_label_over) l9 c9 k9, PySem.W.mg_of X G a9, (fun_mk (st := s_label_over) l9 c9 k9).binds (ps := ["labels"]) fun _ _ _ _ _ _ us hl => match us, hl with | [_], _ => rfl⟩,
    d_law_asked := ⟨_, _, fun_mk (st := s_law_asked) l10 c10 k10, PySem.W.mg_of X G a10, (fun_mk (st := s_law_asked) l10 c10 k10).binds (ps := ["_law_labels_here"]) fun _ _ _ _ _ _ us hl => match us, hl with | [_], _ => rfl⟩,
    d_law_leaf_rows := ⟨_, _, fun_mk (st := s_law_leaf_rows) l11 c11 k11, PySem.W.mg_of X G a11, (fun_mk (st := s_law_leaf_rows) l11 c11 k11).binds (ps := ["_law_well_here", "_law_grid_here", "_law_block"]) fun _ _ _ _ _ _ us hl => match us, hl with | [_, _, _], _ => rfl⟩,
    d_law_alike := ⟨_, _, fun_mk (st := s_law_alike) l12 c12 k12, PySem.W.mg_of X G a12, (fun_mk (st := s_law_alike) l12 c12 k12).binds (ps := ["_law_found", "_law_due_here"]) fun _ _ _ _ _ _ us hl => match us, hl with | [_, _], _ => rfl⟩,
    d_label_of_rows := ⟨_, _, fun_mk (st := s_label_of_rows) l13 c13 k13, PySem.W.mg_of X G a13, (fun_mk (st := s_label_of_rows) l13 c13 k13).binds (ps := ["rows"]) fun _ _ _ _ _ _ us hl => match us, hl with | [_], _ => rfl⟩,
    d_law := ⟨_, _, fun_mk (st := s_law) l14 c14 k14, PySem.W.mg_of X G a14, (fun_mk (st := s_law) l14 c14 k14).binds (ps := ["_law_script"]) fun _ _ _ _ _ _ us hl => match us, hl with | [_], _ => rfl⟩,
    b_ValueError := PySem.W.mg_none_of X G z_ValueError,
    b_abs := PySem.W.mg_none_of X G z_abs,
    b_all := PySem.W.mg_none_of X G z_all,
    b_bool := PySem.W.mg_none_of X G z_bool,
    b_int := PySem.W.mg_none_of X G z_int,
    b_isinstance := PySem.W.mg_none_of X G z_isinstance,
    b_len := PySem.W.mg_none_of X G z_len,
    b_list := PySem.W.mg_none_of X G z_list,
    b_max := PySem.W.mg_none_of X G z_max,
    b_min := PySem.W.mg_none_of X G z_min,
    b_range := PySem.W.mg_none_of X G z_range,
    b_str := PySem.W.mg_none_of X G z_str,
    b_sum := PySem.W.mg_none_of X G z_sum,
    b_tuple := PySem.W.mg_none_of X G z_tuple,
    c_MOST := ⟨_, PySem.W.mg_of X G u_MOST, ⟨_, rfl⟩⟩,
    x_NoKey := ⟨by rw [e_NoKey]; exact PySem.W.mg_of X G n_NoKey⟩,
    x_NoLeaf := ⟨by rw [e_NoLeaf]; exact PySem.W.mg_of X G n_NoLeaf⟩,
    x_NoStem := ⟨by rw [e_NoStem]; exact PySem.W.mg_of X G n_NoStem⟩,
    x_NoTwig := ⟨by rw [e_NoTwig]; exact PySem.W.mg_of X G n_NoTwig⟩,
    x_NotHeld := ⟨by rw [e_NotHeld]; exact PySem.W.mg_of X G n_NotHeld⟩,
    x_TwigError := ⟨by rw [e_TwigError]; exact PySem.W.mg_of X G n_TwigError⟩,
    r_NoStem := ⟨by rw [e_NoStem]; exact PySem.W.mg_of X G n_NoStem, by rw [e_NoStem]; exact p1_NoStem, by rw [e_NoStem]; exact p2_NoStem, by rw [e_NoStem]; exact p3_NoStem, by rw [e_NoStem]; exact p4_NoStem⟩,
    em_NoStem := by rw [e_NoStem, e_TwigError]; exact y_em_NoStem,
    xc_NoStem := by rw [e_NoStem]; exact y_xc_NoStem,
    ka_NoStem_4 := by rw [e_NoKey, e_NoLeaf, e_NoStem, e_NoTwig, e_NotHeld]; exact y_ka_NoStem_4,
    ki_NoStem := by rw [e_NoStem]; exact y_ki_NoStem,
    ki_NoStem_VE := by rw [e_NoStem]; exact y_ki_NoStem_VE }
  exact ⟨_, fun s v => .of_eq rfl, fun base _ _ => ok_law T (fun_mk (st := s_law) l14 c14 k14)⟩
theorem walk {l : PySem.W.OpenLaw} {q : Program} {loose : List Str} {XP : (Str → Option Value) → Heap → Prop} {YP : World → Heap → Prop} {d : DefRec} {K : Params → PySem.W.Frag} (hn : l.most = some 63) (hdf : d.params.defaults = [])
    (hY : ∀ (w : World) (h : Heap), YP w h → (K w.params).In h)
    (F : ∀ (w : World) (mg : Str → Option Value) (fa : Addr) (h : Heap), (K w.params).In h → h.Ns mainGlobals mg → mg d.name = some (.ref fa) →
      ∃ fd : FuncData, (∀ (s : Shared) (v : Value), BindsTo s fd ⟨[v], []⟩ [("_law_script", v)]) ∧ ∀ base : Heap, (K w.params).In base → base.Ns mainGlobals mg → FnOk l.prog w (K w.params) mg base (L2.CX l.prog w) 9 fa fd ["_law_script"] (Sp1 (B_law (K w.params)))) :
    PySem.W.WalkO q loose XP YP l.row.toRowW d [] (fun f vs => PySem.call f vs) :=
  L2.walk_of (n := 63) (k := 9) (x := "_law_script") (CX := fun w => L2.CX l.prog w) (sp := fun w => Sp1 (B_law (K w.params))) hn (by decide) hdf ⟨rfl, by decide, by decide⟩ hY F (fun _ _ a ns hl _ hS => ⟨_, rfl, a, ns, rfl, hS, hl, fun _ => rfl⟩) fun _ _ _ _ _ z => by obtain ⟨_, _, _, _, _, _, _, _, _, _, _, _, h⟩ := z; exact h
end Tw

open PySem PySem.W PyProof.Rows in
set_option maxRecDepth 100000 in
set_option maxHeartbeats 0 in
theorem PySem.Challenge.cw_twigmap_k29_labels_over_holds : PySem.Challenge.rw_twigmap_k29_labels_over.Holds := by
  w_on; o_law; k_head; (case hw => w_witness2)
  k_fill
  refine Tw.walk (l := PySem.Challenge.rw_twigmap_k29_labels_over) rfl rfl (fun w h Y => PySem.W.kIn_of Y) ?F
  case F =>
    intro w mg fa h KX G hmg
    refine' Tw.all_mk KX G hmg ?a0 ?l0 ?c0 ?k0 ?a1 ?l1 ?c1 ?k1 ?a2 ?l2 ?c2 ?k2 ?a3 ?l3 ?c3 ?k3 ?a4 ?l4 ?c4 ?k4 ?a5 ?l5 ?c5 ?k5 ?a6 ?l6 ?c6 ?k6 ?a7 ?l7 ?c7 ?k7 ?a8 ?l8 ?c8 ?k8 ?a9 ?l9 ?c9 ?k9 ?a10 ?l10 ?c10 ?k10 ?a11 ?l11 ?c11 ?k11 ?a12 ?l12 ?c12 ?k12 ?a13 ?l13 ?c13 ?k13 ?a14 ?l14 ?c14 ?k14 ?z_ValueError ?z_abs ?z_all ?z_bool ?z_int ?z_isinstance ?z_len ?z_list ?z_max ?z_min ?z_range ?z_str ?z_sum ?z_tuple ?u_MOST ?n_NoKey ?n_NoLeaf ?n_NoStem ?n_NoTwig ?n_NotHeld ?n_TwigError ?p1_NoStem ?p2_NoStem ?p3_NoStem ?p4_NoStem ?y_em_NoStem ?y_xc_NoStem ?y_ka_NoStem_4 ?y_ki_NoStem ?y_ki_NoStem_VE
    (case a0 => k_is)
    (case l0 => k_is)
    (case c0 => k_is)
    (case k0 => k_is)
    (case a1 => k_is)
    (case l1 => k_is)
    (case c1 => k_is)
    (case k1 => k_is)
    (case a2 => k_is)
    (case l2 => k_is)
    (case c2 => k_is)
    (case k2 => k_is)
    (case a3 => k_is)
    (case l3 => k_is)
    (case c3 => k_is)
    (case k3 => k_is)
    (case a4 => k_is)
    (case l4 => k_is)
    (case c4 => k_is)
    (case k4 => k_is)
    (case a5 => k_is)
    (case l5 => k_is)
    (case c5 => k_is)
    (case k5 => k_is)
    (case a6 => k_is)
    (case l6 => k_is)
    (case c6 => k_is)
    (case k6 => k_is)
    (case a7 => k_is)
    (case l7 => k_is)
    (case c7 => k_is)
    (case k7 => k_is)
    (case a8 => k_is)
    (case l8 => k_is)
    (case c8 => k_is)
    (case k8 => k_is)
    (case a9 => k_is)
    (case l9 => k_is)
    (case c9 => k_is)
    (case k9 => k_is)
    (case a10 => k_is)
    (case l10 => k_is)
    (case c10 => k_is)
    (case k10 => k_is)
    (case a11 => k_is)
    (case l11 => k_is)
    (case c11 => k_is)
    (case k11 => k_is)
    (case a12 => k_is)
    (case l12 => k_is)
    (case c12 => k_is)
    (case k12 => k_is)
    (case a13 => k_is)
    (case l13 => k_is)
    (case c13 => k_is)
    (case k13 => k_is)
    (case a14 => k_is)
    (case l14 => k_is)
    (case c14 => k_is)
    (case k14 => k_is)
    (case z_ValueError => k_is)
    (case z_abs => k_is)
    (case z_all => k_is)
    (case z_bool => k_is)
    (case z_int => k_is)
    (case z_isinstance => k_is)
    (case z_len => k_is)
    (case z_list => k_is)
    (case z_max => k_is)
    (case z_min => k_is)
    (case z_range => k_is)
    (case z_str => k_is)
    (case z_sum => k_is)
    (case z_tuple => k_is)
    (case u_MOST => k_is)
    (case n_NoKey => k_is)
    (case n_NoLeaf => k_is)
    (case n_NoStem => k_is)
    (case n_NoTwig => k_is)
    (case n_NotHeld => k_is)
    (case n_TwigError => k_is)
    (case p1_NoStem => k_is)
    (case p2_NoStem => k_exc)
    (case p3_NoStem => k_is)
    (case p4_NoStem => k_is)
    (case y_em_NoStem => kernel_rfl)
    (case y_xc_NoStem => kernel_rfl)
    (case y_ka_NoStem_4 => kernel_rfl)
    (case y_ki_NoStem => kernel_rfl)
    (case y_ki_NoStem_VE => kernel_rfl)
