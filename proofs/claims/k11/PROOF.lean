import PyProof.Rows.All
import Wide.All
import OpenK.AllK
import Wide.FinOn
import KE.DataCmp
import HandS.ForMost
import HandS.Exc
import HandS.TryOnly
import HandS.ExcOwn
import HandS.WordsExc
import HandS.IsInst
import HandS.Wide
import HandS.EndBits
import HandS.Flow
import HandS.Conv
import HandS.SortKw
import HandS.TupAny
import HandS.Style
import HandS.Iter
import HandS.Comp
import HandS.More
import KE.DatumOrd
import HandS.ExcIs
import HandS.TryMany
import KE.KIsAll
import HandS.Deep
import HandS.Text
import PyProof.Rows.StrMul
import PySem.Challenge.RW_twigmap_k11_what_is_a_key
set_option Elab.async false
set_option linter.all false
set_option maxRecDepth 100000
set_option maxHeartbeats 4000000
set_option Elab.async false
set_option linter.all false
set_option maxRecDepth 100000
set_option maxHeartbeats 2000000
/-! Tw: frames of heaps, data in tuples, steps of readings. -/
namespace Tw
open PySem PySem.Spec PyProof.Rows L2

/-! ### frames -/
/-- all that stood and is not in S stands; tuples stand; nothing is lost -/
structure Fr (S : Addr → Prop) (H H' : Hp) : Prop where
  keep : ∀ b o, H b = some o → ¬ S b → H' b = some o
  tup : ∀ b xs, H b = some (.tup xs) → H' b = some (.tup xs)
  back : ∀ b, H' b = none → H b = none
/-- an address that nothing stands at -/
def Fresh (H : Hp) (p : Addr) : Prop := H p = none
abbrev Non : Addr → Prop := fun _ => False
abbrev One (a : Addr) : Addr → Prop := fun b => b = a
theorem not_One {a b : Addr} (h : b ≠ a) : ¬ One a b := h
theorem Fr.refl {S : Addr → Prop} (H : Hp) : Fr S H H := ⟨fun _ _ h _ => h, fun _ _ h => h, fun _ h => h⟩
theorem Fr.trans {S : Addr → Prop} {H H1 H2 : Hp} (a : Fr S H H1) (b : Fr S H1 H2) : Fr S H H2 :=
  ⟨fun c o h n => b.keep c o (a.keep c o h n) n, fun c xs h => b.tup c xs (a.tup c xs h), fun c h => a.back c (b.back c h)⟩
theorem Fr.sub {S T : Addr → Prop} {H H1 : Hp} (a : Fr S H H1) (h : ∀ b, S b → T b) : Fr T H H1 :=
  ⟨fun c o e n => a.keep c o e (fun s => n (h c s)), a.tup, a.back⟩
/-- what changed lies in S or was not there -/
theorem Fr.sub' {S T : Addr → Prop} {H H1 H2 : Hp} (a : Fr S H H1) (b : Fr T H1 H2) (h : ∀ b, T b → S b ∨ Fresh H b) : Fr S H H2 :=
  ⟨fun c o e n => b.keep c o (a.keep c o e n) (fun t => (h c t).elim n fun z => by have z0 : H c = none := z; rw [z0] at e; cases e), fun c xs e => b.tup c xs (a.tup c xs e), fun c e => a.back c (b.back c e)⟩
theorem Fr.non {S : Addr → Prop} {H H1 : Hp} (a : Fr Non H H1) : Fr S H H1 := a.sub fun _ h => h.elim
theorem Fr.new {S : Addr → Prop} {H H1 : Hp} {p : Addr} {o : HO} (a : Fr S H H1) (hp : Fresh H1 p) : Fr S H (upd H1 p o) := by
  have h0 := a.back p hp
  refine ⟨fun c u e n => ?_, fun c xs e => ?_, fun c e => ?_⟩
  · rw [upd_ne (ne_of_none e h0)]; exact a.keep c u e n
  · rw [upd_ne (ne_of_none e h0)]; exact a.tup c xs e
  · by_cases hc : c = p
    · subst hc; exact h0
    · rw [upd_ne hc] at e; exact a.back c e
def noTup : HO → Bool
  | .tup _ => false
  | _ => true
theorem Fr.mut {S : Addr → Prop} {H H1 : Hp} {p : Addr} {o u : HO} (a : Fr S H H1) (hu : H1 p = some u) (ht : noTup u = true) (hp : S p ∨ Fresh H p) : Fr S H (upd H1 p o) := by
  refine ⟨fun c v e n => ?_, fun c xs e => ?_, fun c e => ?_⟩
  · have hc : c ≠ p := fun z => by
      subst z
      rcases hp with h | h
      · exact n h
      · have h0 : H c = none := h
        rw [h0] at e; cases e
    rw [upd_ne hc]; exact a.keep c v e n
  · have q := a.tup c xs e
    have hc : c ≠ p := fun z => by
      subst z
      rw [hu] at q; cases q; cases ht
    rw [upd_ne hc]; exact q
  · by_cases hc : c = p
    · subst hc; rw [upd_same] at e; cases e
    · rw [upd_ne hc] at e; exact a.back c e
theorem Fr.free {S : Addr → Prop} {H H1 : Hp} {p : Addr} (a : Fr S H H1) (h : Fresh H1 p) : Fresh H p := a.back p h
theorem ne_fr {H : Hp} {a b : Addr} {o : HO} (h : H a = some o) (n : Fresh H b) : a ≠ b := ne_of_none h n

/-! ### data in tuples -/
mutual
/-- the value v is the datum d, all of it in tuples -/
inductive Dt (H : Hp) : V → PyData → Prop
  | non : Dt H .non .none
  | bl (b : Bool) : Dt H (.bl b) (.bool b)
  | int (i : Int) : Dt H (.int i) (.int i)
  | str (x : Str) : Dt H (.str x) (.str x)
  | tup {a : Addr} {xs : List V} {ds : List PyData} (h : H a = some (.tup xs)) (hs : DtAll H xs ds) : Dt H (.ref a) (.tuple ds)
inductive DtAll (H : Hp) : List V → List PyData → Prop
  | nil : DtAll H [] []
  | cons {v : V} {vs : List V} {d : PyData} {ds : List PyData} (h : Dt H v d) (hs : DtAll H vs ds) : DtAll H (v :: vs) (d :: ds)
end
mutual
theorem Dt.mono' {H H1 : Hp} (f : ∀ b xs, H b = some (.tup xs) → H1 b = some (.tup xs)) : ∀ (d : PyData) (v : V), Dt H v d → Dt H1 v d
  | .none, _, h => by cases h; exact .non
  | .bool b, _, h => by cases h; exact .bl b
  | .int i, _, h => by cases h; exact .int i
  | .str x, _, h => by cases h; exact .str x
  | .list _, _, h => by cases h
  | .dict _, _, h => by cases h
  | .tuple ds, _, h => by
    cases h with
    | tup e hs => exact .tup (f _ _ e) (DtAll.mono' f ds _ hs)
theorem DtAll.mono' {H H1 : Hp} (f : ∀ b xs, H b = some (.tup xs) → H1 b = some (.tup xs)) : ∀ (ds : List PyData) (vs : List V), DtAll H vs ds → DtAll H1 vs ds
  | [], _, h => by cases h; exact .nil
  | d :: ds, _, h => by
    cases h with
    | cons h1 h2 => exact .cons (Dt.mono' f d _ h1) (DtAll.mono' f ds _ h2)
end
theorem Dt.mono {S : Addr → Prop} {H H1 : Hp} {v : V} {d : PyData} (h : Dt H v d) (f : Fr S H H1) : Dt H1 v d := Dt.mono' f.tup d v h
theorem DtAll.mono {S : Addr → Prop} {H H1 : Hp} {v : List V} {d : List PyData} (h : DtAll H v d) (f : Fr S H H1) : DtAll H1 v d := DtAll.mono' f.tup d v h
mutual
theorem Dt.dp {K : PySem.W.Frag} {H : Hp} : ∀ (d : PyData) (v : V), Dt H v d → Dp K H v d
  | .none, _, h => by cases h; exact .non
  | .bool b, _, h => by cases h; exact .bl b
  | .int i, _, h => by cases h; exact .int i
  | .str x, _, h => by cases h; exact .str x
  | .list _, _, h => by cases h
  | .dict _, _, h => by cases h
  | .tuple ds, _, h => by
    cases h with
    | tup e hs => exact .tup (SqT.of e) (DtAll.dp ds _ hs)
theorem DtAll.dp {K : PySem.W.Frag} {H : Hp} : ∀ (ds : List PyData) (vs : List V), DtAll H vs ds → DpAll K H vs ds
  | [], _, h => by cases h; exact .nil
  | d :: ds, _, h => by
    cases h with
    | cons h1 h2 => exact .cons (Dt.dp d _ h1) (DtAll.dp ds _ h2)
end
mutual
theorem Dt.fn {H : Hp} : ∀ (d e : PyData) (v : V), Dt H v d → Dt H v e → d = e
  | .none, _, _, h, k => by cases h; cases k; rfl
  | .bool b, _, _, h, k => by cases h; cases k; rfl
  | .int i, _, _, h, k => by cases h; cases k; rfl
  | .str x, _, _, h, k => by cases h; cases k; rfl
  | .list _, _, _, h, _ => by cases h
  | .dict _, _, _, h, _ => by cases h
  | .tuple ds, _, _, h, k => by
    cases h with
    | tup h1 h2 =>
      cases k with
      | tup k1 k2 =>
        rw [h1] at k1; cases k1
        rw [DtAll.fn ds _ _ h2 k2]
theorem DtAll.fn {H : Hp} : ∀ (ds es : List PyData) (vs : List V), DtAll H vs ds → DtAll H vs es → ds = es
  | [], _, _, h, k => by cases h; cases k; rfl
  | d :: ds, _, _, h, k => by
    cases h with
    | cons h1 h2 =>
      cases k with
      | cons k1 k2 => rw [Dt.fn d _ _ h1 k1, DtAll.fn ds _ _ h2 k2]
end
theorem Dt.upd {H : Hp} {p : Addr} {o : HO} {v : V} {d : PyData} (h : Dt H v d) (n : Fresh H p) : Dt (L2.upd H p o) v d := h.mono (Fr.new (S := Non) (Fr.refl H) n)
theorem Dt.updm {H : Hp} {p : Addr} {o u : HO} {v : V} {d : PyData} (h : Dt H v d) (e : H p = some u) (n : noTup u = true) : Dt (L2.upd H p o) v d := h.mono (Fr.mut (S := fun _ => True) (Fr.refl H) e n (.inl trivial))
theorem DtAll.upd {H : Hp} {p : Addr} {o : HO} {v : List V} {d : List PyData} (h : DtAll H v d) (n : Fresh H p) : DtAll (L2.upd H p o) v d := h.mono (Fr.new (S := Non) (Fr.refl H) n)
theorem DtAll.updm {H : Hp} {p : Addr} {o u : HO} {v : List V} {d : List PyData} (h : DtAll H v d) (e : H p = some u) (n : noTup u = true) : DtAll (L2.upd H p o) v d := h.mono (Fr.mut (S := fun _ => True) (Fr.refl H) e n (.inl trivial))
theorem upd_back {H : Hp} {a p : Addr} {o : HO} (h : Fresh (L2.upd H a o) p) : Fresh H p := by
  have h0 : L2.upd H a o p = none := h
  by_cases e : p = a
  · subst e; rw [upd_same] at h0; cases h0
  · rw [upd_ne e] at h0; exact h0
theorem DtAll.length {H : Hp} : ∀ {vs : List V} {ds : List PyData}, DtAll H vs ds → vs.length = ds.length
  | _, [], h => by cases h; rfl
  | _, d :: ds, h => by
    cases h with
    | cons h1 h2 => rw [List.length_cons, List.length_cons, DtAll.length h2]
theorem DtAll.get {H : Hp} : ∀ {vs : List V} {ds : List PyData} {i : Nat} {v : V}, DtAll H vs ds → vs[i]? = some v → ∃ d, ds[i]? = some d ∧ Dt H v d
  | _, [], _, _, h, e => by cases h; simp at e
  | _, d :: ds, 0, _, h, e => by
    cases h with
    | cons h1 h2 => simp at e; subst e; exact ⟨d, rfl, h1⟩
  | _, d :: ds, i + 1, _, h, e => by
    cases h with
    | cons h1 h2 =>
      obtain ⟨d', q1, q2⟩ := DtAll.get (i := i) h2 (by simpa using e)
      exact ⟨d', by simpa using q1, q2⟩
theorem DtAll.app {H : Hp} : ∀ {vs ws : List V} {ds es : List PyData}, DtAll H vs ds → DtAll H ws es → DtAll H (vs ++ ws) (ds ++ es)
  | _, _, [], _, h, k => by cases h; exact k
  | _, _, d :: ds, _, h, k => by
    cases h with
    | cons h1 h2 => exact .cons h1 (DtAll.app h2 k)
theorem DtAll.one {H : Hp} {v : V} {d : PyData} (h : Dt H v d) : DtAll H [v] [d] := .cons h .nil
theorem DtAll.take {H : Hp} : ∀ {vs : List V} {ds : List PyData} (n : Nat), DtAll H vs ds → DtAll H (vs.take n) (ds.take n)
  | _, _, 0, _ => .nil
  | _, [], _ + 1, h => by cases h; exact .nil
  | _, d :: ds, n + 1, h => by
    cases h with
    | cons h1 h2 => exact .cons h1 (DtAll.take n h2)
theorem DtAll.drop {H : Hp} : ∀ {vs : List V} {ds : List PyData} (n : Nat), DtAll H vs ds → DtAll H (vs.drop n) (ds.drop n)
  | _, _, 0, h => h
  | _, [], _ + 1, h => by cases h; exact .nil
  | _, d :: ds, n + 1, h => by
    cases h with
    | cons h1 h2 => exact DtAll.drop n h2

/-! ### own rules -/
section
variable {X : Cx}
def rLtD (K : PySem.W.Frag) : R2 := fun x y H Q => ∃ d e, Dp K H x d ∧ Dp K H y e ∧ PySem.W.alike d e = true ∧ d ≠ .none ∧ d.depth ≤ 60 ∧ Q (.bl (PySem.W.dataLt d e)) H
theorem op_ltD (hu : X.A.units + 64 < cLine) : OpR X (compareOp .Lt) (rLtD X.K) := by
  intro pins s σ H x y v u Q I rx ry h
  obtain ⟨d, e, hd, he, al, hn, dep, q⟩ := h
  obtain ⟨as, r1⟩ := Dp.reads I d x v hd rx
  obtain ⟨bs, r2⟩ := Dp.reads I e y u he ry
  refine PySem.W.lt_data r1 r2 al hn ?_ ⟨.bl _, H, I, rfl, q⟩
  have : min d.depth e.depth ≤ d.depth := Nat.min_le_left _ _
  omega
/-- built-ins' calls under names -/
def rLen (K : PySem.W.Frag) : List V → Hp → VK → Prop := fun xs H Q => ∃ p ys, xs = [.ref p] ∧ (SqL K H p ys ∨ SqT K H p ys) ∧ Q (.int ys.length) H
theorem c_len : CallR X (.builtin "len") (rLen X.K) := call_len_seq
def rLenZ : List V → Hp → VK → Prop := fun xs H Q => ∃ z, xs = [.str z] ∧ z.length ≤ sizeLine ∧ Q (.int z.length) H
theorem c_lenZ : CallR X (.builtin "len") rLenZ := call_len_str
def rLenD : List V → Hp → VK → Prop := fun xs H Q => ∃ a kvs, xs = [V.ref a] ∧ H a = some (.dK kvs) ∧ Q (.int kvs.length) H
theorem c_lenD : CallR X (.builtin "len") rLenD := call_lenD
def rAbs : List V → Hp → VK → Prop := fun xs H Q => ∃ i, xs = [.int i] ∧ Q (.int (if i < 0 then -i else i)) H
theorem c_abs : CallR X (.builtin "abs") rAbs := call_abs
def rMx2 : List V → Hp → VK → Prop := fun xs H Q => ∃ i j, xs = [.int i, .int j] ∧ Q (.int (if j > i then j else i)) H
theorem c_max2 (hc : X.calm = true) : CallR X (.builtin "max") rMx2 := call_max2 hc
def rMn2 : List V → Hp → VK → Prop := fun xs H Q => ∃ i j, xs = [.int i, .int j] ∧ Q (.int (if j < i then j else i)) H
theorem c_min2 (hc : X.calm = true) : CallR X (.builtin "min") rMn2 := call_min2 hc
def rInt1 : List V → Hp → VK → Prop := fun xs H Q => (∃ i, xs = [.int i] ∧ Q (.int i) H) ∨ ∃ k, xs = [.bl k] ∧ Q (.int (if k then 1 else 0)) H
theorem c_int : CallR X (.type "int") rInt1 := call_int1
def rStrI : List V → Hp → VK → Prop := fun xs H Q => ∃ i, xs = [.int i] ∧ i.natAbs.log2 < 1920 ∧ Q (.str (toString i)) H
theorem c_strI : CallR X (.type "str") rStrI := call_str_int
def rListOf (K : PySem.W.Frag) : List V → Hp → VK → Prop := fun xs H Q => ∃ p ys, xs = [.ref p] ∧ (SqL K H p ys ∨ SqT K H p ys) ∧ ∀ l, H l = none → Q (.ref l) (upd H l (.lst ys))
theorem c_listOf : CallR X (.type "list") (rListOf X.K) := call_list_of
def rTupOf (K : PySem.W.Frag) : List V → Hp → VK → Prop := fun xs H Q => ∃ p ys, xs = [.ref p] ∧ ((SqL K H p ys ∧ ∀ l, H l = none → Q (.ref l) (upd H l (.tup ys))) ∨ (SqT K H p ys ∧ Q (.ref p) H))
theorem c_tupOf : CallR X (.type "tuple") (rTupOf X.K) := call_tuple_of
def rAddS : R2 := fun x y H Q => ∃ i j, x = .str i ∧ y = .str j ∧ i.length + j.length ≤ sizeLine ∧ Q (.str (i ++ j)) H
theorem o_addS : OpR X (binaryOp .Add) rAddS := op_add_str
def rLtS : R2 := fun x y H Q => ∃ i j, x = .str i ∧ y = .str j ∧ Q (.bl (decide (i.cps.toList < j.cps.toList))) H
theorem o_ltS : OpR X (compareOp .Lt) rLtS := op_lt_str
def rLeS : R2 := fun x y H Q => ∃ i j, x = .str i ∧ y = .str j ∧ Q (.bl (!decide (j.cps.toList < i.cps.toList))) H
theorem o_leS : OpR X (compareOp .LtE) rLeS := op_le_str
def rIsN : R2 := fun x y H Q => y = .non ∧ Q (.bl (decide (x = .non))) H
theorem o_isN : OpR X (compareOp .Is) rIsN := op_isN
def rNotN : R2 := fun x y H Q => y = .non ∧ Q (.bl (!decide (x = .non))) H
theorem o_notN : OpR X (compareOp .IsNot) rNotN := op_notN
end

/-! ### defs by name -/
/-- a def that may be called by its name -/
structure CalX (P : Program) (w : World) (K : PySem.W.Frag) (mg : Str → Option Value) (base : Heap) (k : Nat) (x : Str) (ps : List Str) (sp : Sp) : Prop where
  ex : ∃ (f : Addr) (fd : FuncData), FnOk P w K mg base (L2.CX P w) k f fd ps sp ∧ mg x = some (.ref f) ∧ PySem.W.keepIn K (.ref f) = true ∧ Binds K fd ps []
/-- a def as it stands behind the top -/
structure DefX (K : PySem.W.Frag) (mg : Str → Option Value) (x : Str) (ps : List Str) (st : Stmt) : Prop where
  ex : ∃ (f : Addr) (fd : FuncData), Fun K x x st f fd ∧ mg x = some (.ref f) ∧ Binds K fd ps []
theorem Passes.none {X : Cx} : Passes (L2.CX X.prog X.w) X E0 := fun _ _ _ _ _ _ _ h => by
  obtain ⟨_, _, _, _, _, _, _, _, _, _, _, _, h⟩ := h
  exact h.elim
def tCal (sp : Sp) (E : XK) (t : TA) : TE := fun σ H Q => t σ H fun vs H1 => sp vs H1 Q E
theorem tCal_eq {sp : Sp} {E : XK} {t : TA} : tCall sp [] E t = tCal sp E t := by
  funext σ H Q
  show t σ H (fun vs H1 => sp (vs ++ []) H1 Q E) = t σ H (fun vs H1 => sp vs H1 Q E)
  have e : (fun (vs : List V) (H1 : Hp) => sp (vs ++ []) H1 Q E) = fun vs H1 => sp vs H1 Q E := by
    funext vs H1
    rw [List.append_nil]
  rw [e]
section
variable {X : Cx} {k j : Nat} {x : Str} {ps : List Str} {sp : Sp} {p pos : Pos} {e : Expr} {es : List Expr} {E : XK} {t : TA}
theorem pcall (c : CalX X.prog X.w X.K X.mg X.base k x ps sp) (hr : Room j X.A) (hk : k ≤ j) (hg : Gl X x) (hx : Passes (L2.CX X.prog X.w) X E) (ha : PA X (e :: es) t)
    (hdb : (x == ("__debug__" : Str)) = false := by decide) (he : starEach (e :: es) X.env = (false, eval e X.env) :: starEach es X.env := by rfl) (hpl : (backTo pos (starEach es X.env)).any (·.1) = false := by rfl) :
    PE X (.Call (.Name x p) (e :: es) [] pos) (tCal sp E t) := by
  obtain ⟨f, fd, F, hm, kp, b⟩ := c.ex
  rw [← tCal_eq]
  exact pe_call F (hr.mono hk) hg hm kp b .nil hx ha hdb he hpl
theorem pcall0 (c : CalX X.prog X.w X.K X.mg X.base k x ps sp) (hr : Room j X.A) (hk : k ≤ j) (hg : Gl X x) (hx : Passes (L2.CX X.prog X.w) X E)
    (hdb : (x == ("__debug__" : Str)) = false := by decide) : PE X (.Call (.Name x p) [] [] pos) (tCal sp E tNil) := by
  obtain ⟨f, fd, F, hm, kp, b⟩ := c.ex
  rw [← tCal_eq]
  exact pe_call0 F (hr.mono hk) hg hm kp b .nil hx hdb
theorem CalX.mono {P : Program} {w : World} {K : PySem.W.Frag} {mg : Str → Option Value} {base : Heap} {sp' : Sp} (c : CalX P w K mg base k x ps sp) (h : ∀ vs H Q E, sp' vs H Q E → sp vs H Q E) : CalX P w K mg base k x ps sp' := by
  obtain ⟨f, fd, F, hm, kp, b⟩ := c.ex
  exact ⟨f, fd, ⟨fun vs H Q E q => F.len vs H Q E (h _ _ _ _ q), fun A outer s H args us vs Q E hr e0 hb r q => F.run A outer s H args us vs Q E hr e0 hb r (h _ _ _ _ q)⟩, hm, kp, b⟩
end

theorem CalX.never {P : Program} {w : World} {K : PySem.W.Frag} {mg : Str → Option Value} {base : Heap} {k : Nat} {x : Str} {ps N : List Str} {st : Stmt} (D : DefX K mg x ps st) (S : FnScope N ps (defScope st)) (hk : 1 ≤ k) : CalX P w K mg base k x ps (fun _ _ _ _ => False) := by
  obtain ⟨f, fd, F, hm, bd⟩ := D.ex
  obtain ⟨j, rfl⟩ : ∃ j, k = j + 1 := ⟨k - 1, by omega⟩
  exact ⟨f, fd, F.okX S (fun _ _ _ _ h => h.elim) (fun _ _ _ _ _ _ _ _ _ h => h.elim), hm, F.kp, bd⟩
theorem str_one (c : Nat) : (⟨#[c]⟩ : Str).length = 1 := rfl
/-- a constant of the module -/
structure ConstX (mg : Str → Option Value) (x : Str) (v : V) : Prop where
  ex : ∃ u, mg x = some u ∧ RelV v u
theorem pconst {X : Cx} {x : Str} {v : V} {pos : Pos} (h : ConstX X.mg x v) (hg : Gl X x) (hd : (x == ("__debug__" : Str)) = false := by decide) : PE X (.Name x pos) (tC v) := by
  obtain ⟨u, hm, r⟩ := h.ex
  exact pe_glob hg hm r hd
theorem SqL_fr {K : PySem.W.Frag} {S : Addr → Prop} {H H1 : Hp} {a : Addr} {xs : List V} (h : SqL K H a xs) (f : Fr S H H1) (n : ¬ S a) : SqL K H1 a xs := by
  rcases h with (h | ⟨o, h⟩) | h
  · exact .inl (.inl (f.keep _ _ h n))
  · exact .inl (.inr ⟨o, f.keep _ _ h n⟩)
  · exact .inr h
theorem SqL_upd {K : PySem.W.Frag} {H : Hp} {a p : Addr} {xs : List V} {o : HO} (h : SqL K H a xs) (n : Fresh H p) : SqL K (upd H p o) a xs := SqL_fr h (Fr.new (S := Non) (Fr.refl H) n) id
theorem ix2i (b : Bool) (x y : Int) : atI [V.int x, V.int y] (if b = true then 1 else 0) = some (V.int (if b = true then y else x)) := by cases b <;> rfl
theorem atI_ex {α : Type} {xs : List α} {i : Int} (h0 : 0 ≤ i) (h1 : i < xs.length) : ∃ v, atI xs i = some v ∧ xs[i.toNat]? = some v := by
  obtain ⟨n, rfl⟩ : ∃ n : Nat, i = n := ⟨i.toNat, by omega⟩
  have h : n < xs.length := by omega
  exact ⟨xs[n], atI_nat (List.getElem?_eq_getElem h), by simp [h]⟩

/-! ### promises by the number of arguments -/
abbrev BK1 := V → Hp → VK → XK → Prop
abbrev BK2 := V → V → Hp → VK → XK → Prop
abbrev BK3 := V → V → V → Hp → VK → XK → Prop
abbrev BK4 := V → V → V → V → Hp → VK → XK → Prop
def Sp0 (B : Hp → VK → XK → Prop) : Sp := fun vs H Q E => vs = [] ∧ B H Q E
def Sp1 (B : BK1) : Sp := fun vs H Q E => ∃ a, vs = [a] ∧ B a H Q E
def Sp2 (B : BK2) : Sp := fun vs H Q E => ∃ a b, vs = [a, b] ∧ B a b H Q E
def Sp3 (B : BK3) : Sp := fun vs H Q E => ∃ a b c, vs = [a, b, c] ∧ B a b c H Q E
def Sp4 (B : BK4) : Sp := fun vs H Q E => ∃ a b c d, vs = [a, b, c, d] ∧ B a b c d H Q E
theorem len0 {B x} : ∀ vs H Q E, Sp0 B vs H Q E → vs.length = ([] : List x).length := fun _ _ _ _ ⟨e, _⟩ => by rw [e]; rfl
theorem len1 {B} {p : Str} : ∀ vs H Q E, Sp1 B vs H Q E → vs.length = [p].length := fun _ _ _ _ ⟨_, e, _⟩ => by rw [e]; rfl
theorem len2 {B} {p q : Str} : ∀ vs H Q E, Sp2 B vs H Q E → vs.length = [p, q].length := fun _ _ _ _ ⟨_, _, e, _⟩ => by rw [e]; rfl
theorem len3 {B} {p q r : Str} : ∀ vs H Q E, Sp3 B vs H Q E → vs.length = [p, q, r].length := fun _ _ _ _ ⟨_, _, _, e, _⟩ => by rw [e]; rfl
theorem len4 {B} {p q r s : Str} : ∀ vs H Q E, Sp4 B vs H Q E → vs.length = [p, q, r, s].length := fun _ _ _ _ ⟨_, _, _, _, e, _⟩ => by rw [e]; rfl

/-! ### steps of readings -/
section
variable {K : PySem.W.Frag} {σ : L2.St} {H : Hp} {Q : VK} {D : Ends} {x y v : V} {ta tb te tc : TE} {t u : TS} {tt uu : TT} {i j : Int} {b : Bool}
theorem x_var {n : Nat} (h : σ[n]? = some (some v)) (q : Q v H) : tVar n σ H Q := ⟨v, h, q⟩
theorem x_c (q : Q v H) : tC v σ H Q := q
theorem x_op {r : R2} (q : ta σ H fun x H1 => tb σ H1 fun y H2 => r x y H2 Q) : tOp r ta tb σ H Q := q
theorem x_un {r : V → Hp → VK → Prop} (q : ta σ H fun x H1 => r x H1 Q) : tUn r ta σ H Q := q
theorem x_add (q : Q (.int (i + j)) H) : rI0 (fun i j => .int (i + j)) (.int i) (.int j) H Q := ⟨i, j, rfl, rfl, q⟩
theorem x_sub (q : Q (.int (i - j)) H) : rI0 (fun i j => .int (i - j)) (.int i) (.int j) H Q := ⟨i, j, rfl, rfl, q⟩
theorem x_lt (q : Q (.bl (decide (i < j))) H) : rI0 (fun i j => .bl (decide (i < j))) (.int i) (.int j) H Q := ⟨i, j, rfl, rfl, q⟩
theorem x_le (q : Q (.bl (decide (i ≤ j))) H) : rI0 (fun i j => .bl (decide (i ≤ j))) (.int i) (.int j) H Q := ⟨i, j, rfl, rfl, q⟩
theorem x_gt (q : Q (.bl (decide (j < i))) H) : rI0 (fun i j => .bl (decide (j < i))) (.int i) (.int j) H Q := ⟨i, j, rfl, rfl, q⟩
theorem x_ge (q : Q (.bl (decide (j ≤ i))) H) : rI0 (fun i j => .bl (decide (j ≤ i))) (.int i) (.int j) H Q := ⟨i, j, rfl, rfl, q⟩
theorem x_mul (h : CMul i j) (q : Q (.int (i * j)) H) : rI CMul (fun i j => .int (i * j)) (.int i) (.int j) H Q := ⟨i, j, rfl, rfl, h, q⟩
theorem x_mulW (h : CMulW i j) (q : Q (.int (i * j)) H) : rI CMulW (fun i j => .int (i * j)) (.int i) (.int j) H Q := ⟨i, j, rfl, rfl, h, q⟩
theorem x_pow (h : CPow i j) (q : Q (.int (i ^ j.toNat)) H) : rI CPow (fun i j => .int (i ^ j.toNat)) (.int i) (.int j) H Q := ⟨i, j, rfl, rfl, h, q⟩
theorem x_mod (h : 0 < j) (q : Q (.int (i % j)) H) : rI (fun _ j => 0 < j) (fun i j => .int (i % j)) (.int i) (.int j) H Q := ⟨i, j, rfl, rfl, h, q⟩
theorem x_div (h : CDiv i j) (q : Q (.int (i / j)) H) : rI CDiv (fun i j => .int (i / j)) (.int i) (.int j) H Q := ⟨i, j, rfl, rfl, h, q⟩
theorem x_divW (h : CDivW i j) (q : Q (.int (i / j)) H) : rI CDivW (fun i j => .int (i / j)) (.int i) (.int j) H Q := ⟨i, j, rfl, rfl, h, q⟩
theorem x_neg (q : Q (.int (-i)) H) : rU (fun i => .int (-i)) (.int i) H Q := ⟨i, rfl, q⟩
/-- == of two ints, as ints -/
theorem x_eqI (q : Q (.bl (decide (i = j))) H) : rEq (.int i) (.int j) H Q := ⟨rfl, by
  have e : decide (V.int i = V.int j) = decide (i = j) := decide_eq_decide.mpr ⟨fun h => V.int.inj h, fun h => congrArg V.int h⟩
  rw [e]; exact q⟩
theorem x_neI (q : Q (.bl (!decide (i = j))) H) : rNe (.int i) (.int j) H Q := ⟨rfl, by
  have e : decide (V.int i = V.int j) = decide (i = j) := decide_eq_decide.mpr ⟨fun h => V.int.inj h, fun h => congrArg V.int h⟩
  rw [e]; exact q⟩
theorem x_eqS {z w : Str} (q : Q (.bl (decide (z = w))) H) : rEq (.str z) (.str w) H Q := ⟨rfl, by
  have e : decide (V.str z = V.str w) = decide (z = w) := decide_eq_decide.mpr ⟨fun h => V.str.inj h, fun h => congrArg V.str h⟩
  rw [e]; exact q⟩
theorem x_neS {z w : Str} (q : Q (.bl (!decide (z = w))) H) : rNe (.str z) (.str w) H Q := ⟨rfl, by
  have e : decide (V.str z = V.str w) = decide (z = w) := decide_eq_decide.mpr ⟨fun h => V.str.inj h, fun h => congrArg V.str h⟩
  rw [e]; exact q⟩
theorem x_eqB {a c : Bool} (q : Q (.bl (decide (a = c))) H) : rEq (.bl a) (.bl c) H Q := ⟨rfl, by
  have e : decide (V.bl a = V.bl c) = decide (a = c) := decide_eq_decide.mpr ⟨fun h => V.bl.inj h, fun h => congrArg V.bl h⟩
  rw [e]; exact q⟩
theorem x_neB {a c : Bool} (q : Q (.bl (!decide (a = c))) H) : rNe (.bl a) (.bl c) H Q := ⟨rfl, by
  have e : decide (V.bl a = V.bl c) = decide (a = c) := decide_eq_decide.mpr ⟨fun h => V.bl.inj h, fun h => congrArg V.bl h⟩
  rw [e]; exact q⟩
theorem x_eqD {d e : PyData} (h1 : Dp K H x d) (h2 : Dp K H y e) (s1 : SeqAt.shaped d = true) (s2 : SeqAt.shaped e = true) (q : Q (.bl (PyData.eqv d e)) H) : rEqD K x y H Q := ⟨d, e, h1, h2, s1, s2, q⟩
theorem x_neD {d e : PyData} (h1 : Dp K H x d) (h2 : Dp K H y e) (s1 : SeqAt.shaped d = true) (s2 : SeqAt.shaped e = true) (q : Q (.bl (!PyData.eqv d e)) H) : rNeD K x y H Q := ⟨d, e, h1, h2, s1, s2, q⟩
theorem x_ltD {d e : PyData} (h1 : Dp K H x d) (h2 : Dp K H y e) (al : PySem.W.alike d e = true) (hn : d ≠ .none) (hd : d.depth ≤ 60) (q : Q (.bl (PySem.W.dataLt d e)) H) : rLtD K x y H Q := ⟨d, e, h1, h2, al, hn, hd, q⟩
theorem x_test {R : Bool → Hp → Prop} (q : te σ H fun x H' => ∃ k, x = .bl k ∧ R k H') : tTest te σ H R := q
theorem x_tB {R : Bool → Hp → Prop} (q : te σ H fun x H' => ∃ k, x = .bl k ∧ R k H') : tB te σ H R := q
theorem x_bl {R : Bool → Prop} (q : R b) : ∃ k, V.bl b = .bl k ∧ R k := ⟨b, rfl, q⟩
theorem x_seq (q : t { D with nx := u D } σ H) : tSeq t u D σ H := q
theorem x_asg {g : TG} (q : te σ H fun x H1 => g x σ H1 D.nx) : tAsg te g D σ H := q
theorem x_gname {n : Nat} {R : L2.St → Hp → Prop} (q : R (σ.set n (some v)) H) : gName n v σ H R := q
theorem x_ret (q : te σ H D.rt) : tRet te D σ H := q
theorem x_retN (q : D.rt .non H) : tRetN D σ H := q
theorem x_next (q : D.nx σ H) : tNext D σ H := q
theorem x_brk (q : D.bk σ H) : tBreak D σ H := q
theorem x_cont (q : D.ct σ H) : tCont D σ H := q
theorem x_drop (q : te σ H fun _ H1 => D.nx σ H1) : tDrop te D σ H := q
theorem x_if (q : tt σ H fun b H1 => if b = true then t D σ H1 else u D σ H1) : tIfS tt t u D σ H := q
theorem x_ife (q : tt σ H fun c H1 => if c = true then ta σ H1 Q else tb σ H1 Q) : tIf tt ta tb σ H Q := q
theorem x_and {R : Bool → Hp → Prop} (q : tt σ H fun c H1 => if c = true then uu σ H1 R else R false H1) : tAnd tt uu σ H R := q
theorem x_or {R : Bool → Hp → Prop} (q : tt σ H fun c H1 => if c = true then R true H1 else uu σ H1 R) : tOr tt uu σ H R := q
theorem x_not {R : Bool → Hp → Prop} (q : tt σ H fun c H1 => R (!c) H1) : tNot tt σ H R := q
theorem x_andV (q : ta σ H fun x H1 => ∃ c, x = .bl c ∧ if c = true then tb σ H1 Q else Q (.bl false) H1) : tAndV ta tb σ H Q := q
theorem x_orV (q : ta σ H fun x H1 => ∃ c, x = .bl c ∧ if c = true then Q (.bl true) H1 else tb σ H1 Q) : tOrV ta tb σ H Q := q
theorem x_notV (q : ta σ H fun x H1 => ∃ c, x = .bl c ∧ Q (.bl (!c)) H1) : tNotV ta σ H Q := q
theorem x_nil {R : List V → Hp → Prop} (q : R [] H) : tNil σ H R := q
theorem x_cons {tr : TA} {R : List V → Hp → Prop} (q : ta σ H fun x H1 => tr σ H1 fun xs H2 => R (x :: xs) H2) : tCons ta tr σ H R := q
theorem x_tup {tr : TA} (q : tr σ H fun xs H1 => xs.length ≤ sizeLine ∧ ∀ p, Fresh H1 p → Q (.ref p) (upd H1 p (.tup xs))) : tTup tr σ H Q := q
theorem x_lst {tr : TA} (q : tr σ H fun xs H1 => xs.length ≤ sizeLine ∧ ∀ p, Fresh H1 p → Q (.ref p) (upd H1 p (.lst xs))) : tLst tr σ H Q := q
theorem x_cal {sp : Sp} {E : XK} {tr : TA} (q : tr σ H fun vs H1 => sp vs H1 Q E) : tCal sp E tr σ H Q := q
theorem x_cb {r : List V → Hp → VK → Prop} {tr : TA} (q : tr σ H fun vs H1 => r vs H1 Q) : tCB r tr σ H Q := q
theorem x_sp1 {B : BK1} {E : XK} {a : V} (q : B a H Q E) : Sp1 B [a] H Q E := ⟨a, rfl, q⟩
theorem x_sp2 {B : BK2} {E : XK} {a b : V} (q : B a b H Q E) : Sp2 B [a, b] H Q E := ⟨a, b, rfl, q⟩
theorem x_sp3 {B : BK3} {E : XK} {a b c : V} (q : B a b c H Q E) : Sp3 B [a, b, c] H Q E := ⟨a, b, c, rfl, q⟩
theorem x_sp4 {B : BK4} {E : XK} {a b c d : V} (q : B a b c d H Q E) : Sp4 B [a, b, c, d] H Q E := ⟨a, b, c, d, rfl, q⟩
theorem x_sz {xs : List V} {P : Prop} (h : xs.length ≤ 1000) (q : P) : xs.length ≤ sizeLine ∧ P := ⟨Nat.le_trans h (by decide), q⟩
theorem x_ixL {p : Addr} {xs : List V} (h : SqL K H p xs) (ha : atI xs i = some v) (q : Q v H) : rIxL K (.ref p) (.int i) H Q := ⟨p, xs, i, v, rfl, rfl, h, ha, q⟩
theorem x_ixT {p : Addr} {xs : List V} (h : SqT K H p xs) (ha : atI xs i = some v) (q : Q v H) : rIxT K (.ref p) (.int i) H Q := ⟨p, xs, i, v, rfl, rfl, h, ha, q⟩
theorem x_ixS {z : Str} {c : Nat} (h : z.length ≤ sizeLine) (ha : atI z.cps.toList i = some c) (q : Q (.str ⟨#[c]⟩) H) : rIxS (.str z) (.int i) H Q := ⟨z, i, c, rfl, rfl, h, ha, q⟩
theorem x_gsub {to ti : TE} {s : TSet} {R : L2.St → Hp → Prop} (q : to σ H fun o H1 => ti σ H1 fun i H2 => s o i v H2 fun H3 => R σ H3) : gSub to ti s v σ H R := q
theorem x_setL {p : Addr} {xs : List V} {n : Nat} {R : Hp → Prop} (h : H p = some (.lst xs)) (hj : ixN xs.length i = some n) (q : R (upd H p (.lst (xs.set n v)))) : rSetL (.ref p) (.int i) v H R := ⟨p, xs, i, n, rfl, rfl, h, hj, q⟩
theorem x_gtup {p : Addr} {xs : List V} {n : Nat} {s : TGs} {R : L2.St → Hp → Prop} (h : SqT K H p xs) (hn : xs.length = n) (q : s xs σ H R) : gTup K n s (.ref p) σ H R := ⟨p, xs, rfl, h, hn, q⟩
theorem x_gcons {g : TG} {s : TGs} {vs : List V} {R : L2.St → Hp → Prop} (q : g v σ H fun σ' H' => s vs σ' H' R) : gCons g s (v :: vs) σ H R := ⟨v, vs, rfl, q⟩
theorem x_gnil {R : L2.St → Hp → Prop} (q : R σ H) : gNil [] σ H R := ⟨rfl, q⟩
theorem x_len {p : Addr} {xs : List V} (h : SqL K H p xs ∨ SqT K H p xs) (q : Q (.int xs.length) H) : rLen K [.ref p] H Q := ⟨p, xs, rfl, h, q⟩
theorem x_lenZ {z : Str} (h : z.length ≤ sizeLine) (q : Q (.int z.length) H) : rLenZ [.str z] H Q := ⟨z, rfl, h, q⟩
theorem x_lenD {p : Addr} {kvs : List (Key × V)} (h : H p = some (.dK kvs)) (q : Q (.int kvs.length) H) : rLenD [.ref p] H Q := ⟨p, kvs, rfl, h, q⟩
theorem x_abs (q : Q (.int (if i < 0 then -i else i)) H) : rAbs [.int i] H Q := ⟨i, rfl, q⟩
theorem x_max2 (q : Q (.int (if j > i then j else i)) H) : rMx2 [.int i, .int j] H Q := ⟨i, j, rfl, q⟩
theorem x_min2 (q : Q (.int (if j < i then j else i)) H) : rMn2 [.int i, .int j] H Q := ⟨i, j, rfl, q⟩
theorem x_intI (q : Q (.int i) H) : rInt1 [.int i] H Q := .inl ⟨i, rfl, q⟩
theorem x_intB (q : Q (.int (if b then 1 else 0)) H) : rInt1 [.bl b] H Q := .inr ⟨b, rfl, q⟩
theorem x_strI (h : i.natAbs.log2 < 1920) (q : Q (.str (toString i)) H) : rStrI [.int i] H Q := ⟨i, rfl, h, q⟩
theorem x_listOf {p : Addr} {xs : List V} (h : SqL K H p xs ∨ SqT K H p xs) (q : ∀ l, Fresh H l → Q (.ref l) (upd H l (.lst xs))) : rListOf K [.ref p] H Q := ⟨p, xs, rfl, h, q⟩
theorem x_tupL {p : Addr} {xs : List V} (h : SqL K H p xs) (q : ∀ l, Fresh H l → Q (.ref l) (upd H l (.tup xs))) : rTupOf K [.ref p] H Q := ⟨p, xs, rfl, .inl ⟨h, q⟩⟩
theorem x_addS {z w : Str} (h : z.length + w.length ≤ sizeLine) (q : Q (.str (z ++ w)) H) : rAddS (.str z) (.str w) H Q := ⟨z, w, rfl, rfl, h, q⟩
theorem x_ltS {z w : Str} (q : Q (.bl (decide (z.cps.toList < w.cps.toList))) H) : rLtS (.str z) (.str w) H Q := ⟨z, w, rfl, rfl, q⟩
theorem x_leS {z w : Str} (q : Q (.bl (!decide (w.cps.toList < z.cps.toList))) H) : rLeS (.str z) (.str w) H Q := ⟨z, w, rfl, rfl, q⟩
theorem x_isN (q : Q (.bl (decide (x = .non))) H) : rIsN x .non H Q := ⟨rfl, q⟩
theorem x_notN (q : Q (.bl (!decide (x = .non))) H) : rNotN x .non H Q := ⟨rfl, q⟩
theorem x_isi {a b : String} {r : Bool} (h : TyX K H x (.type a)) (k : kitB a b = some r) (q : Q (.bl r) H) : rIsi K [x, .ty b] H Q := ⟨x, .ty b, .type a, .type b, r, rfl, .ty b, h, kit_ty k, q⟩
theorem x_rng1 {R : It → Hp → Prop} {tr : TA} (q : tr σ H fun vs H1 => ∃ j : Int, vs = [.int j] ∧ -(2 ^ 62) ≤ j ∧ j < 2 ^ 62 ∧ R (Itr 0 j.toNat) H1) : iRng1 tr σ H R := q
theorem x_rng1' {R : Int → Prop} (h : -(2 ^ 62) ≤ i ∧ i < 2 ^ 62) (q : R i) : ∃ j : Int, [V.int i] = [.int j] ∧ -(2 ^ 62) ≤ j ∧ j < 2 ^ 62 ∧ R j := ⟨i, rfl, h.1, h.2, q⟩
theorem x_rng2 {R : It → Hp → Prop} {tr : TA} (q : tr σ H fun vs H1 => ∃ i j : Int, vs = [.int i, .int j] ∧ (-(2 ^ 62) ≤ i ∧ i < 2 ^ 62 ∧ -(2 ^ 62) ≤ j ∧ j < 2 ^ 62) ∧ R (Itr i (j - i).toNat) H1) : iRng2 tr σ H R := q
theorem x_iList {R : It → Hp → Prop} (q : te σ H fun x H1 => ∃ a, x = .ref a ∧ (∃ xs, SqL K H1 a xs) ∧ R (Itl K a) H1) : iList K te σ H R := q
theorem x_iTup {R : It → Hp → Prop} (q : te σ H fun x H1 => ∃ a, x = .ref a ∧ (∃ xs, SqT K H1 a xs) ∧ R (Itt K a) H1) : iTup K te σ H R := q
theorem x_iRef {p : Addr} {C : Addr → Prop} {R : Addr → Prop} (h : C p) (q : R p) : ∃ a, V.ref p = .ref a ∧ C a ∧ R a := ⟨p, rfl, h, q⟩
theorem x_sl {r : V → Option Int → Option Int → Hp → VK → Prop} {tl th : TO} (q : te σ H fun x H1 => tl σ H1 fun l H2 => th σ H2 fun u H3 => r x l u H3 Q) : tSl r te tl th σ H Q := q
theorem x_noP {R : Option Int → Hp → Prop} (q : R none H) : tNoPart σ H R := q
theorem x_part {R : Option Int → Hp → Prop} (q : te σ H fun x H1 => ∃ i, x = .int i ∧ R (some i) H1) : tPart te σ H R := q
theorem x_int {R : Int → Prop} (q : R i) : ∃ k, V.int i = .int k ∧ R k := ⟨i, rfl, q⟩
theorem x_slL {p : Addr} {xs : List V} {lo hi : Option Int} (h : SqL K H p xs) (q : ∀ l, Fresh H l → Q (.ref l) (upd H l (.lst (cutV xs lo hi)))) : rSlL K (.ref p) lo hi H Q := ⟨p, xs, rfl, h, q⟩
theorem x_bm {T : String} {r : V → List V → Hp → VK → Prop} {tr : TA} (q : te σ H fun x H1 => tyV K T x H1 ∧ tr σ H1 fun xs H2 => r x xs H2 Q) : tBM K T r te tr σ H Q := q
theorem x_bm0 {T : String} {r : V → List V → Hp → VK → Prop} (q : te σ H fun x H1 => tyV K T x H1 ∧ r x [] H1 Q) : tBM0 K T r te σ H Q := q
theorem x_append {p : Addr} {xs : List V} (h : H p = some (.lst xs)) (hs : xs.length ≤ 100000) (q : Q .non (upd H p (.lst (xs ++ [y])))) : rAppend (.ref p) [y] H Q := ⟨p, xs, y, rfl, rfl, h, Nat.lt_of_le_of_lt hs (by decide), q⟩
theorem x_cat {p r : Addr} {xs zs : List V} (h : H p = some (.lst xs)) (k : H r = some (.lst zs)) (hs : xs.length + zs.length ≤ 100000) (q : ∀ l, Fresh H l → Q (.ref l) (upd H l (.lst (xs ++ zs)))) : rCat (.ref p) (.ref r) H Q := ⟨p, r, xs, zs, rfl, rfl, h, k, Nat.le_trans hs (by decide), q⟩
theorem x_all {p : Addr} {bs : List Bool} (h : SqL K H p (bs.map V.bl)) (q : Q (.bl (bs.all id)) H) : rAll K [.ref p] H Q := ⟨p, bs, rfl, h, q⟩
/-- a for's turns -/
def ForG (J : It) (g : TG) (tb : TS) (D : Ends) (σ : L2.St) (H1 : Hp) : Prop := ∃ W : Nat → Nat → L2.St → Hp → Prop, (∃ m, W 0 m σ H1) ∧ ∀ i m σ H, W i m σ H →
  (J.stop i H ∧ D.nx σ H) ∨ (J.go i H ∧ ∃ N : L2.St → Hp → Prop, (∀ σ' H', N σ' H' → ∃ m', m' < m ∧ W (i + 1) m' σ' H') ∧ ∀ x H', J.yld i H x H' → g x σ H' fun σ2 H2 => tb { D with nx := N, ct := N, bk := D.nx } σ2 H2)
theorem x_for {wi : TI} {g : TG} {tb : TS} (q : wi σ H fun J H1 => ForG J g tb D σ H1) : tFor wi g tb D σ H := q
theorem x_forR {lo : Int} {n : Nat} {g : TG} {tb : TS} (Pv : Nat → L2.St → Hp → Prop) (h0 : Pv 0 σ H)
    (hs : ∀ i σ H, i < n → Pv i σ H → g (.int (lo + i)) σ H fun σ2 H2 => tb { D with nx := Pv (i + 1), ct := Pv (i + 1), bk := D.nx } σ2 H2) (hd : ∀ σ H, Pv n σ H → D.nx σ H) : ForG (Itr lo n) g tb D σ H := for_range Pv h0 hs hd
theorem x_forL {a : Addr} (xs : List V) {g : TG} {tb : TS} (Pv : Nat → L2.St → Hp → Prop) (h0 : Pv 0 σ H) (hl : ∀ i σ H, i ≤ xs.length → Pv i σ H → SqL K H a xs)
    (hs : ∀ i x σ H, xs[i]? = some x → Pv i σ H → g x σ H fun σ2 H2 => tb { D with nx := Pv (i + 1), ct := Pv (i + 1), bk := D.nx } σ2 H2) (hd : ∀ σ H, Pv xs.length σ H → D.nx σ H) : ForG (Itl K a) g tb D σ H := for_list Pv h0 hl hs hd
theorem x_forT {a : Addr} (xs : List V) {g : TG} {tb : TS} (Pv : Nat → L2.St → Hp → Prop) (h0 : Pv 0 σ H) (hl : ∀ i σ H, i ≤ xs.length → Pv i σ H → SqT K H a xs)
    (hs : ∀ i x σ H, xs[i]? = some x → Pv i σ H → g x σ H fun σ2 H2 => tb { D with nx := Pv (i + 1), ct := Pv (i + 1), bk := D.nx } σ2 H2) (hd : ∀ σ H, Pv xs.length σ H → D.nx σ H) : ForG (Itt K a) g tb D σ H := for_tup Pv h0 hl hs hd
/-- a list comprehension's turns -/
def LcG (J : It) (g : TG) (tt : TT) (te : TE) (vs : List Nat) (σ : L2.St) (H1 : Hp) (D : Addr) (Q : Hp → Prop) : Prop := ∃ W : Nat → Nat → Hp → Prop, (∃ m, W 0 m (upd H1 D (.lst []))) ∧ ∀ i m H, W i m H →
  (J.stop i H ∧ Q H) ∨ (J.go i H ∧ ∃ Nx : Hp → Prop, (∀ H', Nx H' → ∃ m', m' < m ∧ W (i + 1) m' H') ∧ ∀ x H', J.yld i H x H' → g x (wipe σ vs) H' fun σ2 H2 => wipe σ2 vs = wipe σ vs ∧ tt σ2 H2 fun b H3 =>
    if b = true then te σ2 H3 fun y H4 => ∃ acc, H4 D = some (.lst acc) ∧ acc.length < sizeLine ∧ Nx (upd H4 D (.lst (acc ++ [y]))) else Nx H3)
theorem x_lc {wi : TI} {g : TG} {vs : List Nat} (q : wi σ H fun J H1 => ∀ D, Fresh H1 D → LcG J g tt te vs σ H1 D fun H => Q (.ref D) H) : tLc wi g tt te vs σ H Q := q
/-- one turn -/
def LcT (g : TG) (tt : TT) (te : TE) (vs : List Nat) (σ : L2.St) (D : Addr) (x : V) (Nx : Hp → Prop) (H : Hp) : Prop := g x (wipe σ vs) H fun σ2 H2 => wipe σ2 vs = wipe σ vs ∧ tt σ2 H2 fun b H3 =>
    if b = true then te σ2 H3 fun y H4 => ∃ acc, H4 D = some (.lst acc) ∧ acc.length < sizeLine ∧ Nx (upd H4 D (.lst (acc ++ [y]))) else Nx H3
theorem x_lcR {lo : Int} {n : Nat} {g : TG} {vs : List Nat} {DD : Addr} {Qd : Hp → Prop} (Pv : Nat → Hp → Prop) (h0 : Pv 0 (upd H DD (.lst [])))
    (hs : ∀ i H, i < n → Pv i H → LcT g tt te vs σ DD (.int (lo + i)) (Pv (i + 1)) H) (hd : ∀ H, Pv n H → Qd H) : LcG (Itr lo n) g tt te vs σ H DD Qd := lc_range Pv h0 hs hd
theorem x_lcL {a : Addr} (xs : List V) {g : TG} {vs : List Nat} {DD : Addr} {Qd : Hp → Prop} (Pv : Nat → Hp → Prop) (h0 : Pv 0 (upd H DD (.lst []))) (hl : ∀ i H, i ≤ xs.length → Pv i H → SqL K H a xs)
    (hs : ∀ i x H, xs[i]? = some x → Pv i H → LcT g tt te vs σ DD x (Pv (i + 1)) H) (hd : ∀ H, Pv xs.length H → Qd H) : LcG (Itl K a) g tt te vs σ H DD Qd := lc_list Pv h0 hl hs hd
theorem x_lcT {a : Addr} (xs : List V) {g : TG} {vs : List Nat} {DD : Addr} {Qd : Hp → Prop} (Pv : Nat → Hp → Prop) (h0 : Pv 0 (upd H DD (.lst []))) (hl : ∀ i H, i ≤ xs.length → Pv i H → SqT K H a xs)
    (hs : ∀ i x H, xs[i]? = some x → Pv i H → LcT g tt te vs σ DD x (Pv (i + 1)) H) (hd : ∀ H, Pv xs.length H → Qd H) : LcG (Itt K a) g tt te vs σ H DD Qd := lc_tup Pv h0 hl hs hd
theorem x_lct {g : TG} {vs : List Nat} {DD : Addr} {Nx : Hp → Prop} (q : g v (wipe σ vs) H fun σ2 H2 => wipe σ2 vs = wipe σ vs ∧ tt σ2 H2 fun b H3 =>
    if b = true then te σ2 H3 fun y H4 => ∃ acc, H4 DD = some (.lst acc) ∧ acc.length < sizeLine ∧ Nx (upd H4 DD (.lst (acc ++ [y]))) else Nx H3) : LcT g tt te vs σ DD v Nx H := q
theorem x_wip {a b : L2.St} {B : Prop} (h : a = b) (q : B) : a = b ∧ B := ⟨h, q⟩
theorem x_tyes {R : Bool → Hp → Prop} (q : R true H) : tYes σ H R := q
theorem x_acc {DD : Addr} {acc : List V} {R : List V → Prop} (h : H DD = some (.lst acc)) (hs : acc.length ≤ 100000) (q : R acc) : ∃ acc, H DD = some (.lst acc) ∧ acc.length < sizeLine ∧ R acc := ⟨acc, h, Nat.lt_of_le_of_lt hs (by decide), q⟩
theorem x_while {W : Nat → L2.St → Hp → Prop} {tb : TS} (m : Nat) (h0 : W m σ H) (hs : ∀ m σ H, W m σ H → tt σ H fun c H1 => if c = true then ∃ N : L2.St → Hp → Prop, (∀ σ' H', N σ' H' → ∃ m', m' < m ∧ W m' σ' H') ∧ tb { D with nx := N, ct := N, bk := D.nx } σ H1 else D.nx σ H1) : tWhile tt tb D σ H := ⟨W, ⟨m, h0⟩, hs⟩
theorem x_yes {c : Bool} {A B : Prop} (hc : c = true) (q : A) : if c = true then A else B := by rw [if_pos hc]; exact q
theorem x_no {c : Bool} {A B : Prop} (hc : c = false) (q : B) : if c = true then A else B := by rw [hc, if_neg Bool.false_ne_true]; exact q
theorem x_iteT {A B : Prop} (q : A) : if true = true then A else B := by rw [if_pos rfl]; exact q
theorem x_iteF {A B : Prop} (q : B) : if false = true then A else B := by rw [if_neg Bool.false_ne_true]; exact q
theorem x_bool {c : Bool} {A B : Prop} (h1 : c = true → A) (h2 : c = false → B) : if c = true then A else B := by
  cases c with
  | true => exact x_iteT (h1 rfl)
  | false => exact x_iteF (h2 rfl)
theorem x_dec {p : Prop} [Decidable p] {A B : Prop} (h1 : p → A) (h2 : ¬ p → B) : if decide p = true then A else B := x_bool (fun e => h1 (of_decide_eq_true e)) (fun e => h2 (of_decide_eq_false e))
theorem x_ndec {p : Prop} [Decidable p] {A B : Prop} (h1 : ¬ p → A) (h2 : p → B) : if (!decide p) = true then A else B := x_bool (fun e => h1 (of_decide_eq_false (by simpa using e))) (fun e => h2 (of_decide_eq_true (by simpa using e)))
end
theorem kit_NoneType_bool : kitB "NoneType" "bool" = some false := by decide +kernel
theorem kit_NoneType_int : kitB "NoneType" "int" = some false := by decide +kernel
theorem kit_NoneType_str : kitB "NoneType" "str" = some false := by decide +kernel
theorem kit_NoneType_list : kitB "NoneType" "list" = some false := by decide +kernel
theorem kit_NoneType_tuple : kitB "NoneType" "tuple" = some false := by decide +kernel
theorem kit_NoneType_dict : kitB "NoneType" "dict" = some false := by decide +kernel
theorem kit_bool_bool : kitB "bool" "bool" = some true := by decide +kernel
theorem kit_bool_int : kitB "bool" "int" = some true := by decide +kernel
theorem kit_bool_str : kitB "bool" "str" = some false := by decide +kernel
theorem kit_bool_list : kitB "bool" "list" = some false := by decide +kernel
theorem kit_bool_tuple : kitB "bool" "tuple" = some false := by decide +kernel
theorem kit_bool_dict : kitB "bool" "dict" = some false := by decide +kernel
theorem kit_int_bool : kitB "int" "bool" = some false := by decide +kernel
theorem kit_int_int : kitB "int" "int" = some true := by decide +kernel
theorem kit_int_str : kitB "int" "str" = some false := by decide +kernel
theorem kit_int_list : kitB "int" "list" = some false := by decide +kernel
theorem kit_int_tuple : kitB "int" "tuple" = some false := by decide +kernel
theorem kit_int_dict : kitB "int" "dict" = some false := by decide +kernel
theorem kit_str_bool : kitB "str" "bool" = some false := by decide +kernel
theorem kit_str_int : kitB "str" "int" = some false := by decide +kernel
theorem kit_str_str : kitB "str" "str" = some true := by decide +kernel
theorem kit_str_list : kitB "str" "list" = some false := by decide +kernel
theorem kit_str_tuple : kitB "str" "tuple" = some false := by decide +kernel
theorem kit_str_dict : kitB "str" "dict" = some false := by decide +kernel
theorem kit_list_bool : kitB "list" "bool" = some false := by decide +kernel
theorem kit_list_int : kitB "list" "int" = some false := by decide +kernel
theorem kit_list_str : kitB "list" "str" = some false := by decide +kernel
theorem kit_list_list : kitB "list" "list" = some true := by decide +kernel
theorem kit_list_tuple : kitB "list" "tuple" = some false := by decide +kernel
theorem kit_list_dict : kitB "list" "dict" = some false := by decide +kernel
theorem kit_tuple_bool : kitB "tuple" "bool" = some false := by decide +kernel
theorem kit_tuple_int : kitB "tuple" "int" = some false := by decide +kernel
theorem kit_tuple_str : kitB "tuple" "str" = some false := by decide +kernel
theorem kit_tuple_list : kitB "tuple" "list" = some false := by decide +kernel
theorem kit_tuple_tuple : kitB "tuple" "tuple" = some true := by decide +kernel
theorem kit_tuple_dict : kitB "tuple" "dict" = some false := by decide +kernel
theorem kit_dict_bool : kitB "dict" "bool" = some false := by decide +kernel
theorem kit_dict_int : kitB "dict" "int" = some false := by decide +kernel
theorem kit_dict_str : kitB "dict" "str" = some false := by decide +kernel
theorem kit_dict_list : kitB "dict" "list" = some false := by decide +kernel
theorem kit_dict_tuple : kitB "dict" "tuple" = some false := by decide +kernel
theorem kit_dict_dict : kitB "dict" "dict" = some true := by decide +kernel
end Tw

/-! TwB: what the laws draw from; keys. -/
namespace Tw
open PySem PySem.Spec PyProof.Rows L2
/-- a well: a list of four ints, the first one a rest -/
def Well (H : Hp) (p : Addr) : Prop := ∃ c n g l : Int, H p = some (.lst [.int c, .int n, .int g, .int l]) ∧ 0 ≤ c ∧ c < 2147483647
theorem Well.fr {S : Addr → Prop} {H H1 : Hp} {p : Addr} (h : Well H p) (f : Fr S H H1) (n : ¬ S p) : Well H1 p := by
  obtain ⟨c, m, g, l, e, r⟩ := h
  exact ⟨c, m, g, l, f.keep _ _ e n, r⟩
theorem Well.some {H : Hp} {p : Addr} (h : Well H p) : ∃ xs, H p = some (.lst xs) := by
  obtain ⟨c, m, g, l, e, r⟩ := h
  exact ⟨_, e⟩
theorem Well.ne {H : Hp} {p l : Addr} (h : Well H p) (n : Fresh H l) : l ≠ p := fun e => by
  obtain ⟨xs, q⟩ := h.some
  have n0 : H l = none := n
  rw [← e, n0] at q; cases q
/-- what may be drawn from -/
def PullOk (m : Int) : Prop := 0 < m ∧ m.natAbs.log2 < 9000
theorem PullOk.small {m : Int} (h : 0 < m) (h2 : m ≤ 9223372036854775808) : PullOk m := by
  refine ⟨h, Nat.lt_of_lt_of_le (PySem.Flt.log2_lt_of (show 0 < 64 by decide) ?_) (by decide)⟩
  have e : (2 : Nat) ^ 64 = 18446744073709551616 := by decide
  rw [e]; omega
/-- a text's first written constant -/
def strIn (s : Stmt) : Str := match defBody s with
  | (.Assign _ (.Constant (.str x) _ _) _) :: _ => x
  | _ => PySem.Str.empty

/-! ### keys as data -/
def numOk (i : Int) : Prop := -(10 ^ 60) < i ∧ i < 10 ^ 60
def txtOk (z : Str) : Prop := z.length ≤ 40 ∧ ∀ c ∈ z.cps.toList, 32 ≤ c ∧ c ≤ 126
/-- a key in which no more tuples than r lie within one another -/
def isK : Nat → PyData → Prop
  | _, .int i => numOk i
  | _, .str z => txtOk z
  | r + 1, .tuple ds => ds.length ≤ 4 ∧ ∀ d ∈ ds, isK r d
  | _, _ => False
theorem isK_int {r : Nat} {i : Int} : isK r (.int i) = numOk i := by cases r <;> rfl
theorem isK_str {r : Nat} {z : Str} : isK r (.str z) = txtOk z := by cases r <;> rfl
theorem isK_tup {r : Nat} {ds : List PyData} : isK (r + 1) (.tuple ds) = (ds.length ≤ 4 ∧ ∀ d ∈ ds, isK r d) := rfl
theorem str_len (z : Str) : z.length = z.cps.toList.length := by simp [PySem.Str.length]
theorem str_app (a b : Str) : (a ++ b).cps.toList = a.cps.toList ++ b.cps.toList := by simp [PySem.Str.cps_append]
theorem txt_app {z : Str} {c n : Nat} (h : z.length ≤ n) (hz : ∀ d ∈ z.cps.toList, 32 ≤ d ∧ d ≤ 126) (hc : 32 ≤ c ∧ c ≤ 126) : (z ++ (⟨#[c]⟩ : Str)).length ≤ n + 1 ∧ ∀ d ∈ (z ++ (⟨#[c]⟩ : Str)).cps.toList, 32 ≤ d ∧ d ≤ 126 := by
  refine ⟨?_, fun d hd => ?_⟩
  · rw [PySem.Str.length_append]
    have : (⟨#[c]⟩ : Str).length = 1 := rfl
    omega
  · rw [str_app] at hd
    rcases List.mem_append.mp hd with hd | hd
    · exact hz d hd
    · have e : d = c := by simpa using hd
      subst e; exact hc
end Tw

/-! TwC: readings for values of several kinds; the order of keys. -/
namespace Tw
open PySem PySem.Spec PyProof.Rows L2
section
variable {X : Cx}
/-- len of a list, a tuple or a text -/
def rLenA (K : PySem.W.Frag) : List V → Hp → VK → Prop := fun xs H Q => rLen K xs H Q ∨ rLenZ xs H Q
theorem c_lenA : CallR X (.builtin "len") (rLenA X.K) := CallR.or c_len c_lenZ
/-- + of two texts or two tuples -/
def rAddT (K : PySem.W.Frag) : R2 := fun x y H Q => rAddS x y H Q ∨ rCatA K x y H Q
theorem o_addT : OpR X (binaryOp .Add) (rAddT X.K) := OpR.or o_addS op_catA
def rGtS : R2 := fun x y H Q => ∃ i j, x = .str i ∧ y = .str j ∧ Q (.bl (decide (j.cps.toList < i.cps.toList))) H
theorem o_gtS : OpR X (compareOp .Gt) rGtS := op_gt_str
def rGeS : R2 := fun x y H Q => ∃ i j, x = .str i ∧ y = .str j ∧ Q (.bl (!decide (i.cps.toList < j.cps.toList))) H
theorem o_geS : OpR X (compareOp .GtE) rGeS := op_ge_str
theorem u65 {k : Nat} {A : Around} (hr : Room k A) : A.units + 65 < cLine := by have := hr.un; omega
/-- a part of a list, a tuple or a text -/
def rSlX (K : PySem.W.Frag) : V → Option Int → Option Int → Hp → VK → Prop := fun x lo hi H Q => rSlL K x lo hi H Q ∨ (rSlA K x lo hi H Q ∨ rSlS x lo hi H Q)
theorem sl_any : SlR X (rSlX X.K) := SlR.or sl_list (SlR.or sl_tupA sl_str)
end
section
variable {K : PySem.W.Frag} {H : Hp} {Q : VK} {x y v : V} {i j : Int}
theorem x_chain {σ : L2.St} {ta tb tc : TE} {r r' : R2} (q : ta σ H fun x H1 => tb σ H1 fun y H2 => r x y H2 fun z H3 => ∃ k, z = .bl k ∧ (if k = true then tc σ H3 fun w' H4 => r' y w' H4 Q else Q (.bl false) H3)) : tChain r r' ta tb tc σ H Q := q
theorem x_gtS {z w : Str} (q : Q (.bl (decide (w.cps.toList < z.cps.toList))) H) : rGtS (.str z) (.str w) H Q := ⟨z, w, rfl, rfl, q⟩
theorem x_geS {z w : Str} (q : Q (.bl (!decide (z.cps.toList < w.cps.toList))) H) : rGeS (.str z) (.str w) H Q := ⟨z, w, rfl, rfl, q⟩
theorem x_inD {d : PyData} {ds : List PyData} (h1 : Dp K H x d) (h2 : Dp K H y (.list ds)) (s1 : SeqAt.shaped d = true) (s2 : SeqAt.shaped (.list ds) = true) (q : Q (.bl (ds.any fun z => PyData.eqv z d)) H) : rInD K x y H Q := ⟨d, ds, h1, h2, s1, s2, q⟩
theorem x_notInD {d : PyData} {ds : List PyData} (h1 : Dp K H x d) (h2 : Dp K H y (.list ds)) (s1 : SeqAt.shaped d = true) (s2 : SeqAt.shaped (.list ds) = true) (q : Q (.bl (!ds.any fun z => PyData.eqv z d)) H) : rNotInD K x y H Q := ⟨d, ds, h1, h2, s1, s2, q⟩
theorem x_isiI {b : String} {r : Bool} (k : kitB "int" b = some r) (q : Q (.bl r) H) : rIsi K [.int i, .ty b] H Q := x_isi (.base (.int i)) k q
theorem x_isiB {c : Bool} {b : String} {r : Bool} (k : kitB "bool" b = some r) (q : Q (.bl r) H) : rIsi K [.bl c, .ty b] H Q := x_isi (.base (.bl c)) k q
theorem x_isiS {c : Str} {b : String} {r : Bool} (k : kitB "str" b = some r) (q : Q (.bl r) H) : rIsi K [.str c, .ty b] H Q := x_isi (.base (.str c)) k q
theorem x_isiN {b : String} {r : Bool} (k : kitB "NoneType" b = some r) (q : Q (.bl r) H) : rIsi K [.non, .ty b] H Q := x_isi (.base .non) k q
theorem x_isiT {p : Addr} {xs : List V} {b : String} {r : Bool} (h : H p = some (.tup xs)) (k : kitB "tuple" b = some r) (q : Q (.bl r) H) : rIsi K [.ref p, .ty b] H Q := x_isi (.base (.tup h)) k q
theorem x_isiL {p : Addr} {xs : List V} {b : String} {r : Bool} (h : H p = some (.lst xs)) (k : kitB "list" b = some r) (q : Q (.bl r) H) : rIsi K [.ref p, .ty b] H Q := x_isi (.base (.lst h)) k q
theorem x_isiD {p : Addr} {xs : List (Key × V)} {b : String} {r : Bool} (h : H p = some (.dK xs)) (k : kitB "dict" b = some r) (q : Q (.bl r) H) : rIsi K [.ref p, .ty b] H Q := x_isi (.base (.dK h)) k q
theorem x_tyL {p : Addr} {xs : List V} {B : Prop} (h : SqL K H p xs) (q : B) : tyV K "list" (.ref p) H ∧ B := ⟨.inl ⟨rfl, xs, h⟩, q⟩
theorem x_tyS {z : Str} {B : Prop} (q : B) : tyV K "str" (.str z) H ∧ B := ⟨rfl, q⟩
theorem x_tyD {p : Addr} {kvs : List (Key × V)} {B : Prop} (h : H p = some (.dK kvs)) (q : B) : tyV K "dict" (.ref p) H ∧ B := ⟨.inr (.inr (.inl ⟨rfl, .inl ⟨kvs, h⟩⟩)), q⟩
theorem x_lenAs {p : Addr} {xs : List V} (h : SqL K H p xs ∨ SqT K H p xs) (q : Q (.int xs.length) H) : rLenA K [.ref p] H Q := .inl ⟨p, xs, rfl, h, q⟩
theorem x_lenAz {z : Str} (h : z.length ≤ sizeLine) (q : Q (.int z.length) H) : rLenA K [.str z] H Q := .inr ⟨z, rfl, h, q⟩
theorem x_addTz {z w : Str} (h : z.length + w.length ≤ sizeLine) (q : Q (.str (z ++ w)) H) : rAddT K (.str z) (.str w) H Q := .inl ⟨z, w, rfl, rfl, h, q⟩
/-- + of tuples: where it stands, that is one tuple -/
theorem x_catA {a b : Addr} {xs ys : List V} (ha : SqT K H a xs) (hb : SqT K H b ys) (hz : xs.length + ys.length ≤ 100000)
    (q0 : xs = [] → Q (.ref b) H) (q1 : xs ≠ [] → ys = [] → Q (.ref a) H) (q2 : xs ≠ [] → ys ≠ [] → ∀ p, Fresh H p → Q (.ref p) (upd H p (.tup (xs ++ ys)))) : rCatA K (.ref a) (.ref b) H Q :=
  ⟨a, b, xs, ys, rfl, rfl, ha, hb, Nat.le_trans hz (by decide), q0, q1, q2⟩
theorem x_catD {a b : Addr} {xs ys : List V} {ds es : List PyData} (ha : H a = some (.tup xs)) (hb : H b = some (.tup ys)) (da : DtAll H xs ds) (db : DtAll H ys es) (hz : xs.length + ys.length ≤ 100000)
    (q : ∀ p H', Fr Non H H' → Dt H' (.ref p) (.tuple (ds ++ es)) → Q (.ref p) H') : rCatA K (.ref a) (.ref b) H Q := by
  refine x_catA (SqT.of ha) (SqT.of hb) hz (fun e => ?_) (fun _ e => ?_) (fun _ _ p n => ?_)
  · subst e; cases da; exact q b H (Fr.refl _) (.tup hb db)
  · subst e; cases db; rw [List.append_nil] at q; exact q a H (Fr.refl _) (.tup ha da)
  · exact q p _ (Fr.new (Fr.refl _) n) (.tup upd_same (DtAll.app (da.upd n) (db.upd n)))
theorem x_addTt (q : rCatA K x y H Q) : rAddT K x y H Q := .inr q
theorem x_slXz {z : Str} {lo hi : Option Int} (h : z.length ≤ sizeLine) (q : Q (.str (cutS z lo hi)) H) : rSlX K (.str z) lo hi H Q := .inr (.inr ⟨z, rfl, h, q⟩)
theorem x_slXt {lo hi : Option Int} (q : rSlA K x lo hi H Q) : rSlX K x lo hi H Q := .inr (.inl q)
theorem cutV_eq (xs : List V) (lo hi : Option Int) : cutV xs lo hi = (xs.drop (HT.sIx xs.length 0 lo)).take (HT.sIx xs.length xs.length hi - HT.sIx xs.length 0 lo) := rfl
theorem x_slD {a : Addr} {xs : List V} {ds : List PyData} {lo hi : Option Int} (ha : H a = some (.tup xs)) (da : DtAll H xs ds)
    (q : ∀ p H', Fr Non H H' → Dt H' (.ref p) (.tuple ((ds.drop (HT.sIx xs.length 0 lo)).take (HT.sIx xs.length xs.length hi - HT.sIx xs.length 0 lo))) → Q (.ref p) H') : rSlA K (.ref a) lo hi H Q := by
  refine ⟨a, xs, rfl, SqT.of ha, fun ⟨e1, e2⟩ => ?_, fun _ p n => ?_⟩
  · refine q a H (Fr.refl _) ?_
    rw [e1, e2, List.drop_zero, Nat.sub_zero, List.take_of_length_le (Nat.le_of_eq da.length.symm)]
    exact .tup ha da
  · exact q p _ (Fr.new (Fr.refl _) n) (.tup upd_same (by rw [cutV_eq]; exact ((da.drop _).take _).upd n))
theorem x_ixAt {p : Addr} {xs : List V} (h : SqT K H p xs) (ha : atI xs i = some v) (q : Q v H) : rIx K (.ref p) (.int i) H Q := .inr (.inl ⟨p, xs, i, v, rfl, rfl, h, ha, q⟩)
theorem x_ixAl {p : Addr} {xs : List V} (h : SqL K H p xs) (ha : atI xs i = some v) (q : Q v H) : rIx K (.ref p) (.int i) H Q := .inl ⟨p, xs, i, v, rfl, rfl, h, ha, q⟩
theorem x_ixAz {z : Str} {c : Nat} (h : z.length ≤ sizeLine) (ha : atI z.cps.toList i = some c) (q : Q (.str ⟨#[c]⟩) H) : rIx K (.str z) (.int i) H Q := .inr (.inr ⟨z, i, c, rfl, rfl, h, ha, q⟩)
end

/-! ### keys: depth, equality -/
theorem isK_cases {r : Nat} {d : PyData} (h : isK r d) : (∃ i, d = .int i ∧ numOk i) ∨ (∃ z, d = .str z ∧ txtOk z) ∨ ∃ r1 ds, r = r1 + 1 ∧ d = .tuple ds ∧ ds.length ≤ 4 ∧ ∀ e ∈ ds, isK r1 e := by
  cases d with
  | int i => rw [isK_int] at h; exact .inl ⟨i, rfl, h⟩
  | str z => rw [isK_str] at h; exact .inr (.inl ⟨z, rfl, h⟩)
  | tuple ds =>
    cases r with
    | zero => cases h
    | succ r1 => exact .inr (.inr ⟨r1, ds, rfl, rfl, h.1, h.2⟩)
  | none => cases r <;> cases h
  | bool => cases r <;> cases h
  | list => cases r <;> cases h
  | dict => cases r <;> cases h
theorem isK_up : ∀ {r : Nat} {d : PyData}, isK r d → isK (r + 1) d
  | r, d, h => by
    rcases isK_cases h with ⟨i, rfl, h3⟩ | ⟨z, rfl, h3⟩ | ⟨r1, ds, rfl, rfl, h1, h2⟩
    · rw [isK_int]; exact h3
    · rw [isK_str]; exact h3
    · rw [isK_tup]; exact ⟨h1, fun e he => isK_up (h2 e he)⟩
theorem isK_le {r s : Nat} (h : r ≤ s) {d : PyData} (k : isK r d) : isK s d := by
  obtain ⟨t, rfl⟩ : ∃ t, s = r + t := ⟨s - r, by omega⟩
  clear h
  induction t with
  | zero => exact k
  | succ t ih => exact isK_up ih
theorem depthAll_le {n : Nat} : ∀ {ds : List PyData}, (∀ d ∈ ds, d.depth ≤ n) → PyData.depthAll ds ≤ n
  | [], _ => Nat.zero_le _
  | d :: ds, h => by
    rw [PyData.depthAll]
    exact Nat.max_le.mpr ⟨h d (List.mem_cons_self ..), depthAll_le fun e he => h e (List.mem_cons_of_mem _ he)⟩
theorem isK_depth : ∀ {r : Nat} {d : PyData}, isK r d → d.depth ≤ r
  | r, d, h => by
    rcases isK_cases h with ⟨i, rfl, _⟩ | ⟨z, rfl, _⟩ | ⟨r1, ds, rfl, rfl, _, h2⟩
    · exact Nat.zero_le _
    · exact Nat.zero_le _
    · show PyData.depthAll ds + 1 ≤ r1 + 1
      exact Nat.succ_le_succ (depthAll_le fun e he => isK_depth (h2 e he))
theorem canLayAll0_of : ∀ {ds : List PyData}, (∀ d ∈ ds, d.canLay0 = true) → PyData.canLayAll0 ds = true
  | [], _ => rfl
  | d :: ds, h => by
    rw [PyData.canLayAll0, h d (List.mem_cons_self ..), canLayAll0_of fun e he => h e (List.mem_cons_of_mem _ he)]; rfl
theorem txt_strOk {z : Str} (h : ∀ c ∈ z.cps.toList, 32 ≤ c ∧ c ≤ 126) : PyData.strOk z = true := by
  unfold PyData.strOk
  rw [Array.all_eq_true_iff_forall_mem]
  intro c hc
  have := h c (Array.mem_toList_iff.mpr hc)
  exact decide_eq_true (by omega)
theorem isK_lay : ∀ {r : Nat} {d : PyData}, isK r d → d.canLay0 = true
  | r, d, h => by
    rcases isK_cases h with ⟨i, rfl, _⟩ | ⟨z, rfl, h3⟩ | ⟨r1, ds, rfl, rfl, _, h2⟩
    · rfl
    · exact txt_strOk h3.2
    · show PyData.canLayAll0 ds = true
      exact canLayAll0_of fun e he => isK_lay (h2 e he)
theorem isK_shaped {r : Nat} {d : PyData} (h : isK r d) (hr : r ≤ 60) : SeqAt.shaped d = true := by
  unfold SeqAt.shaped
  rw [isK_lay h, decide_eq_true (Nat.le_trans (isK_depth h) (by omega))]; rfl
theorem isK_ne {r : Nat} {d : PyData} (h : isK r d) : d ≠ .none := fun e => by subst e; cases r <;> cases h
theorem str_beq {x y : Str} : (x == y) = true ↔ x = y := by simp
mutual
theorem eqv_of_eq : ∀ {r : Nat} {d : PyData}, isK r d → PyData.eqv d d = true
  | r, d, h => by
    rcases isK_cases h with ⟨i, rfl, _⟩ | ⟨z, rfl, h⟩ | ⟨r1, ds, rfl, rfl, _, h2⟩
    · rw [PyData.eqv]; exact beq_self_eq_true _
    · rw [PyData.eqv]; exact beq_self_eq_true _
    · rw [PyData.eqv]; exact eqvAll_of_eq h2
theorem eqvAll_of_eq : ∀ {r : Nat} {ds : List PyData}, (∀ d ∈ ds, isK r d) → PyData.eqvAll ds ds = true
  | r, [], _ => rfl
  | r, d :: ds, h => by
    rw [PyData.eqvAll, eqv_of_eq (h d (List.mem_cons_self ..)), eqvAll_of_eq fun e he => h e (List.mem_cons_of_mem _ he)]; rfl
end
mutual
theorem eq_of_eqv : ∀ {r s : Nat} {d e : PyData}, isK r d → isK s e → PyData.eqv d e = true → d = e
  | r, s, d, e, h, k, q => by
    rcases isK_cases h with ⟨i, rfl, _⟩ | ⟨z, rfl, h⟩ | ⟨r1, ds, rfl, rfl, _, h2⟩
    · rcases isK_cases k with ⟨j, rfl, _⟩ | ⟨w, rfl, k⟩ | ⟨s1, es, rfl, rfl, _, k2⟩
      · rw [PyData.eqv] at q; rw [eq_of_beq q]
      · rw [PyData.eqv] at q; cases q
      · rw [PyData.eqv] at q; cases q
    · rcases isK_cases k with ⟨j, rfl, _⟩ | ⟨w, rfl, k⟩ | ⟨s1, es, rfl, rfl, _, k2⟩
      · rw [PyData.eqv] at q; cases q
      · rw [PyData.eqv] at q; rw [eq_of_beq q]
      · rw [PyData.eqv] at q; cases q
    · rcases isK_cases k with ⟨j, rfl, _⟩ | ⟨w, rfl, k⟩ | ⟨s1, es, rfl, rfl, _, k2⟩
      · rw [PyData.eqv] at q; cases q
      · rw [PyData.eqv] at q; cases q
      · rw [PyData.eqv] at q; rw [eqAll_of_eqv h2 k2 q]
theorem eqAll_of_eqv : ∀ {r s : Nat} {ds es : List PyData}, (∀ d ∈ ds, isK r d) → (∀ d ∈ es, isK s d) → PyData.eqvAll ds es = true → ds = es
  | r, s, [], [], _, _, _ => rfl
  | r, s, d :: ds, e :: es, h, k, q => by
    rw [PyData.eqvAll, Bool.and_eq_true] at q
    rw [eq_of_eqv (h d (List.mem_cons_self ..)) (k e (List.mem_cons_self ..)) q.1, eqAll_of_eqv (fun e he => h e (List.mem_cons_of_mem _ he)) (fun e he => k e (List.mem_cons_of_mem _ he)) q.2]
  | r, s, [], e :: es, _, _, q => by rw [PyData.eqvAll] at q; cases q
  | r, s, d :: ds, [], _, _, q => by rw [PyData.eqvAll] at q; cases q
end
theorem eqv_iff {r s : Nat} {d e : PyData} (h : isK r d) (k : isK s e) : PyData.eqv d e = true ↔ d = e :=
  ⟨eq_of_eqv h k, fun q => by subst q; exact eqv_of_eq h⟩

/-! ### the order -/
mutual
/-- what the program compares in a key's place -/
def rankD : PyData → PyData
  | .int i => .tuple [.int 0, .int i, .str "", .tuple []]
  | .str z => .tuple [.int 1, .int 0, .str z, .tuple []]
  | .tuple ds => .tuple [.int 2, .int 0, .str "", .tuple (rankAll ds)]
  | .none | .bool _ | .list _ | .dict _ => .tuple [.int 3, .int 0, .str "", .tuple []]
def rankAll : List PyData → List PyData
  | [] => []
  | d :: ds => rankD d :: rankAll ds
end
theorem rankAll_map : ∀ ds : List PyData, rankAll ds = ds.map rankD
  | [] => rfl
  | d :: ds => by rw [rankAll, rankAll_map ds]; rfl
open PySem.W in
theorem alike4 (a b c d : Int) (x y : Str) {ds es : List PyData} (h : alikeAll ds es = true) : alike (.tuple [.int a, .int b, .str x, .tuple ds]) (.tuple [.int c, .int d, .str y, .tuple es]) = true := by
  simp [alike, alikeAll, h]
open PySem.W in
mutual
theorem rank_alike : ∀ d e : PyData, alike (rankD d) (rankD e) = true
  | .tuple ds, e => by
    cases e with
    | tuple es => exact alike4 _ _ _ _ _ _ (rankAll_alike ds es)
    | int => exact alike4 _ _ _ _ _ _ (by cases ds <;> simp [rankAll, alikeAll])
    | str => exact alike4 _ _ _ _ _ _ (by cases ds <;> simp [rankAll, alikeAll])
    | none => exact alike4 _ _ _ _ _ _ (by cases ds <;> simp [rankAll, alikeAll])
    | bool => exact alike4 _ _ _ _ _ _ (by cases ds <;> simp [rankAll, alikeAll])
    | list => exact alike4 _ _ _ _ _ _ (by cases ds <;> simp [rankAll, alikeAll])
    | dict => exact alike4 _ _ _ _ _ _ (by cases ds <;> simp [rankAll, alikeAll])
  | .int i, e => by cases e <;> exact alike4 _ _ _ _ _ _ (by simp [alikeAll])
  | .str i, e => by cases e <;> exact alike4 _ _ _ _ _ _ (by simp [alikeAll])
  | .none, e => by cases e <;> exact alike4 _ _ _ _ _ _ (by simp [alikeAll])
  | .bool i, e => by cases e <;> exact alike4 _ _ _ _ _ _ (by simp [alikeAll])
  | .list i, e => by cases e <;> exact alike4 _ _ _ _ _ _ (by simp [alikeAll])
  | .dict i, e => by cases e <;> exact alike4 _ _ _ _ _ _ (by simp [alikeAll])
theorem rankAll_alike : ∀ ds es : List PyData, alikeAll (rankAll ds) (rankAll es) = true
  | [], _ => by simp [rankAll, alikeAll]
  | _ :: _, [] => by simp [rankAll, alikeAll]
  | d :: ds, e :: es => by rw [rankAll, rankAll, alikeAll, rank_alike d e, rankAll_alike ds es]; rfl
end
theorem rank_ne (d : PyData) : rankD d ≠ .none := by cases d <;> (rw [rankD]; exact fun h => nomatch h)
theorem depth4 (a b : Int) (x : Str) {ds : List PyData} {n : Nat} (h : PyData.depthAll ds ≤ n) : (PyData.tuple [.int a, .int b, .str x, .tuple ds]).depth ≤ n + 2 := by
  simp only [PyData.depth, PyData.depthAll]
  omega
theorem rank_depth : ∀ {r : Nat} {d : PyData}, isK r d → (rankD d).depth ≤ 2 * r + 2
  | r, d, h => by
    rcases isK_cases h with ⟨i, rfl, _⟩ | ⟨z, rfl, _⟩ | ⟨r1, ds, rfl, rfl, _, h2⟩
    · rw [rankD]; exact depth4 _ _ _ (Nat.zero_le _)
    · rw [rankD]; exact depth4 _ _ _ (Nat.zero_le _)
    · rw [rankD]
      refine depth4 _ _ _ ?_
      rw [rankAll_map]
      refine depthAll_le fun e he => ?_
      obtain ⟨e0, h0, rfl⟩ := List.mem_map.mp he
      have := rank_depth (h2 e0 h0)
      omega
/-- d stands ahead of e -/
def ltK (d e : PyData) : Bool := PySem.W.dataLt (rankD d) (rankD e)
def ltKs (ds es : List PyData) : Bool := PySem.W.dataLt (.tuple (rankAll ds)) (.tuple (rankAll es))
section
open PySem.W
theorem dl_yes {x y : PyData} {xs ys : List PyData} (h : alike x y = true) (e : PyData.eqv x y = true) : dataLt (.tuple (x :: xs)) (.tuple (y :: ys)) = dataLt (.tuple xs) (.tuple ys) := by
  rw [dataLt_tuple, dataLt_tuple]; exact dataLt_all_yes h e
theorem dl_no {x y : PyData} {xs ys : List PyData} (h : alike x y = true) (e : PyData.eqv x y = false) : dataLt (.tuple (x :: xs)) (.tuple (y :: ys)) = dataLt x y := by
  rw [dataLt_tuple]; exact dataLt_all_no h e
theorem dl_nil : dataLt (.tuple []) (.tuple []) = false := by rw [dataLt_tuple]; exact lex_irrefl _
theorem dl_nilc {y : PyData} {ys : List PyData} : dataLt (.tuple []) (.tuple (y :: ys)) = true := by
  rw [dataLt_tuple, toks_all_cons, keyToksAll, lex_diff (O := itemOrd) (by simp)]; rfl
theorem dl_cnil {y : PyData} {ys : List PyData} : dataLt (.tuple (y :: ys)) (.tuple []) = false := by
  rw [dataLt_tuple, toks_all_cons, keyToksAll, lex_diff (O := itemOrd) (by simp)]; rfl
theorem eqv_i {i j : Int} (h : i ≠ j) : PyData.eqv (.int i) (.int j) = false := by rw [PyData.eqv]; exact beq_false_of_ne h
theorem eqv_ii (i : Int) : PyData.eqv (.int i) (.int i) = true := by rw [PyData.eqv]; exact beq_self_eq_true _
theorem eqv_s {i j : Str} (h : i ≠ j) : PyData.eqv (.str i) (.str j) = false := by rw [PyData.eqv]; exact beq_false_of_ne h
theorem eqv_ss (i : Str) : PyData.eqv (.str i) (.str i) = true := by rw [PyData.eqv]; exact beq_self_eq_true _
theorem al_i (i j : Int) : alike (.int i) (.int j) = true := by rw [alike]
theorem al_s (i j : Str) : alike (.str i) (.str j) = true := by rw [alike]
theorem ltK_kind {a b c d : Int} {x y : Str} {ds es : List PyData} (h : a ≠ c) : dataLt (.tuple [.int a, .int b, .str x, .tuple ds]) (.tuple [.int c, .int d, .str y, .tuple es]) = decide (a < c) := by
  rw [dl_no (al_i _ _) (eqv_i h), dataLt_int]
theorem ltK_int (i j : Int) : ltK (.int i) (.int j) = decide (i < j) := by
  unfold ltK
  rw [rankD, rankD, dl_yes (al_i _ _) (eqv_ii _)]
  by_cases h : i = j
  · subst h
    rw [dl_yes (al_i _ _) (eqv_ii _), dl_yes (al_s _ _) (eqv_ss _), dl_yes (by rw [alike, alikeAll]) (by rw [PyData.eqv, PyData.eqvAll]), dl_nil]
    exact (decide_eq_false (by omega)).symm
  · rw [dl_no (al_i _ _) (eqv_i h), dataLt_int]
theorem ltK_str (i j : Str) : ltK (.str i) (.str j) = decide (i.cps.toList < j.cps.toList) := by
  unfold ltK
  rw [rankD, rankD, dl_yes (al_i _ _) (eqv_ii _), dl_yes (al_i _ _) (eqv_ii _)]
  by_cases h : i = j
  · subst h
    rw [dl_yes (al_s _ _) (eqv_ss _), dl_yes (by rw [alike, alikeAll]) (by rw [PyData.eqv, PyData.eqvAll]), dl_nil]
    exact (decide_eq_false (List.lt_irrefl _)).symm
  · rw [dl_no (al_s _ _) (eqv_s h), dataLt_str]
theorem ltK_tup (ds es : List PyData) : ltK (.tuple ds) (.tuple es) = ltKs ds es := by
  unfold ltK ltKs
  rw [rankD, rankD, dl_yes (al_i _ _) (eqv_ii _), dl_yes (al_i _ _) (eqv_ii _), dl_yes (al_s _ _) (eqv_ss _)]
  cases h : PyData.eqv (.tuple (rankAll ds)) (.tuple (rankAll es)) with
  | true =>
    have ha : alike (.tuple (rankAll ds)) (.tuple (rankAll es)) = true := by rw [alike]; exact rankAll_alike ds es
    rw [dl_yes ha h, dl_nil]
    have e := (toks_eqv _ _ ha).1 h
    unfold dataLt
    rw [e]; exact (lex_irrefl _).symm
  | false =>
    rw [dl_no (by rw [alike]; exact rankAll_alike ds es) h]
theorem ltK_is (i : Int) (z : Str) : ltK (.int i) (.str z) = true := by unfold ltK; rw [rankD, rankD, ltK_kind (by decide)]; rfl
theorem ltK_si (i : Int) (z : Str) : ltK (.str z) (.int i) = false := by unfold ltK; rw [rankD, rankD, ltK_kind (by decide)]; rfl
theorem ltK_it (i : Int) (z : List PyData) : ltK (.int i) (.tuple z) = true := by unfold ltK; rw [rankD, rankD, ltK_kind (by decide)]; rfl
theorem ltK_ti (i : Int) (z : List PyData) : ltK (.tuple z) (.int i) = false := by unfold ltK; rw [rankD, rankD, ltK_kind (by decide)]; rfl
theorem ltK_st (i : Str) (z : List PyData) : ltK (.str i) (.tuple z) = true := by unfold ltK; rw [rankD, rankD, ltK_kind (by decide)]; rfl
theorem ltK_ts (i : Str) (z : List PyData) : ltK (.tuple z) (.str i) = false := by unfold ltK; rw [rankD, rankD, ltK_kind (by decide)]; rfl
theorem ltKs_nil : ltKs [] [] = false := dl_nil
theorem ltKs_nilc {y : PyData} {ys : List PyData} : ltKs [] (y :: ys) = true := by unfold ltKs; rw [rankAll, rankAll]; exact dl_nilc
theorem ltKs_cnil {y : PyData} {ys : List PyData} : ltKs (y :: ys) [] = false := by unfold ltKs; rw [rankAll, rankAll]; exact dl_cnil
mutual
theorem rank_eqv : ∀ d : PyData, PyData.eqv (rankD d) (rankD d) = true
  | .tuple ds => by rw [rankD]; simp only [PyData.eqv, PyData.eqvAll, beq_self_eq_true, Bool.true_and, Bool.and_true]; exact rankAll_eqv ds
  | .int i => by rw [rankD]; simp [PyData.eqv, PyData.eqvAll]
  | .str i => by rw [rankD]; simp [PyData.eqv, PyData.eqvAll]
  | .none => by rw [rankD]; simp [PyData.eqv, PyData.eqvAll]
  | .bool _ => by rw [rankD]; simp [PyData.eqv, PyData.eqvAll]
  | .list _ => by rw [rankD]; simp [PyData.eqv, PyData.eqvAll]
  | .dict _ => by rw [rankD]; simp [PyData.eqv, PyData.eqvAll]
theorem rankAll_eqv : ∀ ds : List PyData, PyData.eqvAll (rankAll ds) (rankAll ds) = true
  | [] => rfl
  | d :: ds => by rw [rankAll, PyData.eqvAll, rank_eqv d, rankAll_eqv ds]; rfl
end
theorem eqv4 {a b c d : Int} {x y : Str} {ds es : List PyData} (h : PyData.eqv (.tuple [.int a, .int b, .str x, .tuple ds]) (.tuple [.int c, .int d, .str y, .tuple es]) = true) : a = c ∧ b = d ∧ x = y ∧ PyData.eqvAll ds es = true := by
  simp only [PyData.eqv, PyData.eqvAll, Bool.and_eq_true, Bool.and_true] at h
  exact ⟨eq_of_beq h.1, eq_of_beq h.2.1, eq_of_beq h.2.2.1, h.2.2.2⟩
mutual
theorem rank_inj : ∀ {r s : Nat} {d e : PyData}, isK r d → isK s e → PyData.eqv (rankD d) (rankD e) = true → d = e
  | r, s, d, e, h, k, q => by
    rcases isK_cases h with ⟨i, rfl, _⟩ | ⟨z, rfl, h⟩ | ⟨r1, ds, rfl, rfl, _, h2⟩
    · rcases isK_cases k with ⟨j, rfl, _⟩ | ⟨w, rfl, k⟩ | ⟨s1, es, rfl, rfl, _, k2⟩
      · rw [rankD, rankD] at q; rw [(eqv4 q).2.1]
      · rw [rankD, rankD] at q; exact absurd (eqv4 q).1 (by decide)
      · rw [rankD, rankD] at q; exact absurd (eqv4 q).1 (by decide)
    · rcases isK_cases k with ⟨j, rfl, _⟩ | ⟨w, rfl, k⟩ | ⟨s1, es, rfl, rfl, _, k2⟩
      · rw [rankD, rankD] at q; exact absurd (eqv4 q).1 (by decide)
      · rw [rankD, rankD] at q; rw [(eqv4 q).2.2.1]
      · rw [rankD, rankD] at q; exact absurd (eqv4 q).1 (by decide)
    · rcases isK_cases k with ⟨j, rfl, _⟩ | ⟨w, rfl, k⟩ | ⟨s1, es, rfl, rfl, _, k2⟩
      · rw [rankD, rankD] at q; exact absurd (eqv4 q).1 (by decide)
      · rw [rankD, rankD] at q; exact absurd (eqv4 q).1 (by decide)
      · rw [rankD, rankD] at q; rw [rankAll_inj h2 k2 (eqv4 q).2.2.2]
theorem rankAll_inj : ∀ {r s : Nat} {ds es : List PyData}, (∀ d ∈ ds, isK r d) → (∀ d ∈ es, isK s d) → PyData.eqvAll (rankAll ds) (rankAll es) = true → ds = es
  | r, s, [], [], _, _, _ => rfl
  | r, s, d :: ds, e :: es, h, k, q => by
    rw [rankAll, rankAll, PyData.eqvAll, Bool.and_eq_true] at q
    rw [rank_inj (h d (List.mem_cons_self ..)) (k e (List.mem_cons_self ..)) q.1, rankAll_inj (fun e he => h e (List.mem_cons_of_mem _ he)) (fun e he => k e (List.mem_cons_of_mem _ he)) q.2]
  | r, s, [], e :: es, _, _, q => by rw [rankAll, rankAll, PyData.eqvAll] at q; cases q
  | r, s, d :: ds, [], _, _, q => by rw [rankAll, rankAll, PyData.eqvAll] at q; cases q
end
theorem ltKs_same (d : PyData) (ds es : List PyData) : ltKs (d :: ds) (d :: es) = ltKs ds es := by
  unfold ltKs; rw [rankAll, rankAll, dl_yes (rank_alike d d) (rank_eqv d)]
theorem ltKs_diff {r s : Nat} {d e : PyData} (hd : isK r d) (he : isK s e) (hn : d ≠ e) (ds es : List PyData) : ltKs (d :: ds) (e :: es) = ltK d e := by
  unfold ltKs; rw [rankAll, rankAll, dl_no (rank_alike d e) ?_]
  · rfl
  · cases h : PyData.eqv (rankD d) (rankD e) with
    | false => rfl
    | true => exact absurd (rank_inj hd he h) hn
theorem ltK_irrefl (d : PyData) : ltK d d = false := lex_irrefl _
theorem ltK_trans {a b c : PyData} : ltK a b = true → ltK b c = true → ltK a c = true := lex_trans _ _ _
theorem ltK_neg {a b c : PyData} : ltK a c = true → ltK a b = true ∨ ltK b c = true := lex_negTrans _ _ _
theorem ltK_tot {r s : Nat} {a b : PyData} (ha : isK r a) (hb : isK s b) (h1 : ltK a b = false) (h2 : ltK b a = false) : a = b := by
  have e : keyToks (rankD a) = keyToks (rankD b) := lex_total _ _ h1 h2
  refine rank_inj ha hb ?_
  cases h : PyData.eqv (rankD a) (rankD b) with
  | true => rfl
  | false =>
    have q := (toks_eqv _ _ (rank_alike a b)).2 h [.inl 0] [.inl 1]
    rw [e, lex_pre, lex_irrefl, lex_diff (O := itemOrd) (by simp)] at q
    exact absurd q (by decide)
theorem ltK_asymm {a b : PyData} (h : ltK a b = true) : ltK b a = false := by
  cases q : ltK b a with
  | false => rfl
  | true => have := ltK_trans h q; rw [ltK_irrefl] at this; cases this
end

/-! ### sign by sign, thing by thing -/
theorem ltN_at : ∀ (i : Nat) {a b : List Nat} {x y : Nat}, a.take i = b.take i → a[i]? = some x → b[i]? = some y → x ≠ y → decide (a < b) = decide ([x] < [y])
  | 0, [], _, _, _, _, h, _, _ => by simp at h
  | 0, _ :: _, [], _, _, _, _, h, _ => by simp at h
  | 0, c :: a, d :: b, x, y, _, hx, hy, hn => by
    simp at hx hy
    subst hx; subst hy
    refine decide_eq_decide.mpr ?_
    rw [List.cons_lt_cons_iff, List.cons_lt_cons_iff]
    constructor
    · rintro (h | ⟨h, _⟩)
      · exact .inl h
      · exact absurd h hn
    · rintro (h | ⟨h, _⟩)
      · exact .inl h
      · exact absurd h hn
  | i + 1, [], _, _, _, _, h, _, _ => by simp at h
  | i + 1, _ :: _, [], _, _, _, _, h, _ => by simp at h
  | i + 1, c :: a, d :: b, x, y, ht, hx, hy, hn => by
    simp at ht hx hy
    obtain ⟨rfl, ht⟩ := ht
    rw [← ltN_at i ht hx hy hn]
    refine decide_eq_decide.mpr ?_
    rw [List.cons_lt_cons_iff]
    constructor
    · rintro (h | ⟨_, h⟩)
      · exact absurd h (Nat.lt_irrefl _)
      · exact h
    · exact fun h => .inr ⟨rfl, h⟩
theorem ltN_end : ∀ {a b : List Nat}, a.take (min a.length b.length) = b.take (min a.length b.length) → decide (a < b) = decide (a.length < b.length)
  | [], [], _ => by simp
  | [], _ :: _, _ => by simp
  | _ :: _, [], _ => by simp
  | c :: a, d :: b, h => by
    have e : min (c :: a).length (d :: b).length = min a.length b.length + 1 := by simp only [List.length_cons]; omega
    rw [e] at h
    simp only [List.take_succ_cons, List.cons.injEq] at h
    obtain ⟨rfl, h⟩ := h
    have q := ltN_end h
    have q2 : (a < b) ↔ a.length < b.length := decide_eq_decide.mp q
    refine decide_eq_decide.mpr ?_
    rw [List.cons_lt_cons_iff]
    constructor
    · rintro (h | ⟨_, h⟩)
      · exact absurd h (Nat.lt_irrefl _)
      · simp only [List.length_cons]; exact Nat.succ_lt_succ (q2.mp h)
    · intro h
      simp only [List.length_cons] at h
      exact .inr ⟨rfl, q2.mpr (Nat.lt_of_succ_lt_succ h)⟩
theorem ltKs_at {r s : Nat} : ∀ (i : Nat) {a b : List PyData} {x y : PyData}, (∀ d ∈ a, isK r d) → (∀ d ∈ b, isK s d) → a.take i = b.take i → a[i]? = some x → b[i]? = some y → x ≠ y → ltKs a b = ltK x y
  | 0, [], _, _, _, _, _, _, h, _, _ => by simp at h
  | 0, _ :: _, [], _, _, _, _, _, _, h, _ => by simp at h
  | 0, c :: a, d :: b, x, y, ha, hb, _, hx, hy, hn => by
    simp at hx hy
    subst hx; subst hy
    exact ltKs_diff (ha _ (List.mem_cons_self ..)) (hb _ (List.mem_cons_self ..)) hn _ _
  | i + 1, [], _, _, _, _, _, _, h, _, _ => by simp at h
  | i + 1, _ :: _, [], _, _, _, _, _, _, h, _ => by simp at h
  | i + 1, c :: a, d :: b, x, y, ha, hb, ht, hx, hy, hn => by
    simp at ht hx hy
    obtain ⟨rfl, ht⟩ := ht
    rw [ltKs_same]
    exact ltKs_at i (fun e he => ha e (List.mem_cons_of_mem _ he)) (fun e he => hb e (List.mem_cons_of_mem _ he)) ht hx hy hn
theorem ltKs_end : ∀ {a b : List PyData}, a.take (min a.length b.length) = b.take (min a.length b.length) → ltKs a b = decide (a.length < b.length)
  | [], [], _ => by rw [ltKs_nil]; rfl
  | [], _ :: _, _ => by rw [ltKs_nilc]; simp
  | _ :: _, [], _ => by rw [ltKs_cnil]; simp
  | c :: a, d :: b, h => by
    have e : min (c :: a).length (d :: b).length = min a.length b.length + 1 := by simp only [List.length_cons]; omega
    rw [e] at h
    simp only [List.take_succ_cons, List.cons.injEq] at h
    obtain ⟨rfl, h⟩ := h
    rw [ltKs_same, ltKs_end h]
    exact decide_eq_decide.mpr (by simp only [List.length_cons]; omega)
theorem take_succ_eq {α : Type} {a b : List α} {i : Nat} {x : α} (h : a.take i = b.take i) (hx : a[i]? = some x) (hy : b[i]? = some x) : a.take (i + 1) = b.take (i + 1) := by
  rw [List.take_add_one, List.take_add_one, h, hx, hy]
theorem one_ne {x y : Nat} : (⟨#[x]⟩ : Str) = ⟨#[y]⟩ ↔ x = y := by
  constructor
  · intro h
    injection h with h
    simpa using h
  · rintro rfl; rfl
/-- the text of a small number -/
theorem txt_num {i : Int} (h0 : 0 ≤ i) (h1 : i < 10 ^ 9) : txtOk (toString i : String) := by
  refine ⟨?_, fun c hc => ?_⟩
  · have := int_text_length_le10 (a := i) (k := 9) (by decide) (by omega)
    have e : ((toString i : String) : Str).length = (toString i).length := by
      exact PySem.ofString_length _
    rw [e]; omega
  · by_cases hk : c ≠ 45 ∧ (c < 48 ∨ 57 < c)
    · exact absurd hc (int_text_free' c hk i)
    · omega
end Tw

/-! TwD: things of any kind; is_key's answer; max with a default; walks over a text. -/
namespace Tw
open PySem PySem.Spec PyProof.Rows L2
mutual
/-- the value v is the thing d; what lies in its lists and dicts is left open; none of these is in S -/
inductive TgS (S : Addr → Prop) (H : Hp) : V → PyData → Prop
  | non : TgS S H .non .none
  | bl (b : Bool) : TgS S H (.bl b) (.bool b)
  | int (i : Int) : TgS S H (.int i) (.int i)
  | str (x : Str) : TgS S H (.str x) (.str x)
  | lst {a : Addr} {xs : List V} (h : H a = some (.lst xs)) (n : ¬ S a) : TgS S H (.ref a) (.list [])
  | dct {a : Addr} {kvs : List (Key × V)} (h : H a = some (.dK kvs)) (n : ¬ S a) : TgS S H (.ref a) (.dict [])
  | tup {a : Addr} {xs : List V} {ds : List PyData} (h : H a = some (.tup xs)) (hs : TgAllS S H xs ds) : TgS S H (.ref a) (.tuple ds)
inductive TgAllS (S : Addr → Prop) (H : Hp) : List V → List PyData → Prop
  | nil : TgAllS S H [] []
  | cons {v : V} {vs : List V} {d : PyData} {ds : List PyData} (h : TgS S H v d) (hs : TgAllS S H vs ds) : TgAllS S H (v :: vs) (d :: ds)
end
abbrev Tg := TgS Non
abbrev TgAll := TgAllS Non
mutual
theorem Dt.tg {S : Addr → Prop} {H : Hp} : ∀ (d : PyData) (v : V), Dt H v d → TgS S H v d
  | .none, _, h => by cases h; exact .non
  | .bool b, _, h => by cases h; exact .bl b
  | .int i, _, h => by cases h; exact .int i
  | .str x, _, h => by cases h; exact .str x
  | .list _, _, h => by cases h
  | .dict _, _, h => by cases h
  | .tuple ds, _, h => by
    cases h with
    | tup e hs => exact .tup e (DtAll.tg ds _ hs)
theorem DtAll.tg {S : Addr → Prop} {H : Hp} : ∀ (ds : List PyData) (vs : List V), DtAll H vs ds → TgAllS S H vs ds
  | [], _, h => by cases h; exact .nil
  | d :: ds, _, h => by
    cases h with
    | cons h1 h2 => exact .cons (Dt.tg d _ h1) (DtAll.tg ds _ h2)
end
mutual
theorem TgS.mono {S : Addr → Prop} {H H1 : Hp} (f : Fr S H H1) : ∀ (d : PyData) (v : V), TgS S H v d → TgS S H1 v d
  | .none, _, h => by cases h; exact .non
  | .bool b, _, h => by cases h; exact .bl b
  | .int i, _, h => by cases h; exact .int i
  | .str x, _, h => by cases h; exact .str x
  | .list _, _, h => by
    cases h with
    | lst e n => exact .lst (f.keep _ _ e n) n
  | .dict _, _, h => by
    cases h with
    | dct e n => exact .dct (f.keep _ _ e n) n
  | .tuple ds, _, h => by
    cases h with
    | tup e hs => exact .tup (f.tup _ _ e) (TgAllS.mono f ds _ hs)
theorem TgAllS.mono {S : Addr → Prop} {H H1 : Hp} (f : Fr S H H1) : ∀ (ds : List PyData) (vs : List V), TgAllS S H vs ds → TgAllS S H1 vs ds
  | [], _, h => by cases h; exact .nil
  | d :: ds, _, h => by
    cases h with
    | cons h1 h2 => exact .cons (TgS.mono f d _ h1) (TgAllS.mono f ds _ h2)
end
mutual
theorem TgS.weak {S : Addr → Prop} {H : Hp} : ∀ (d : PyData) (v : V), TgS S H v d → Tg H v d
  | .none, _, h => by cases h; exact .non
  | .bool b, _, h => by cases h; exact .bl b
  | .int i, _, h => by cases h; exact .int i
  | .str x, _, h => by cases h; exact .str x
  | .list _, _, h => by
    cases h with
    | lst e n => exact .lst e id
  | .dict _, _, h => by
    cases h with
    | dct e n => exact .dct e id
  | .tuple ds, _, h => by
    cases h with
    | tup e hs => exact .tup e (TgAllS.weak ds _ hs)
theorem TgAllS.weak {S : Addr → Prop} {H : Hp} : ∀ (ds : List PyData) (vs : List V), TgAllS S H vs ds → TgAll H vs ds
  | [], _, h => by cases h; exact .nil
  | d :: ds, _, h => by
    cases h with
    | cons h1 h2 => exact .cons (TgS.weak d _ h1) (TgAllS.weak ds _ h2)
end
theorem Tg.mono {H H1 : Hp} (f : Fr Non H H1) (d : PyData) (v : V) (h : Tg H v d) : Tg H1 v d := TgS.mono f d v h
theorem TgAll.mono {H H1 : Hp} (f : Fr Non H H1) (d : List PyData) (v : List V) (h : TgAll H v d) : TgAll H1 v d := TgAllS.mono f d v h
theorem TgS.new {S : Addr → Prop} {H : Hp} {p : Addr} {o : HO} {v : V} {d : PyData} (h : TgS S H v d) (n : Fresh H p) : TgS S (upd H p o) v d := TgS.mono (Fr.new (Fr.refl H) n) d v h
theorem TgAllS.new {S : Addr → Prop} {H : Hp} {p : Addr} {o : HO} {v : List V} {d : List PyData} (h : TgAllS S H v d) (n : Fresh H p) : TgAllS S (upd H p o) v d := TgAllS.mono (Fr.new (Fr.refl H) n) d v h
theorem TgAllS.length {S : Addr → Prop} {H : Hp} : ∀ {vs : List V} {ds : List PyData}, TgAllS S H vs ds → vs.length = ds.length
  | _, [], h => by cases h; rfl
  | _, d :: ds, h => by
    cases h with
    | cons h1 h2 => rw [List.length_cons, List.length_cons, TgAllS.length h2]
theorem TgAllS.get {S : Addr → Prop} {H : Hp} : ∀ {vs : List V} {ds : List PyData} {i : Nat} {v : V}, TgAllS S H vs ds → vs[i]? = some v → ∃ d, ds[i]? = some d ∧ TgS S H v d
  | _, [], _, _, h, e => by cases h; simp at e
  | _, d :: ds, 0, _, h, e => by
    cases h with
    | cons h1 h2 => simp at e; subst e; exact ⟨d, rfl, h1⟩
  | _, d :: ds, i + 1, _, h, e => by
    cases h with
    | cons h1 h2 =>
      obtain ⟨d', q1, q2⟩ := TgAllS.get (i := i) h2 (by simpa using e)
      exact ⟨d', by simpa using q1, q2⟩
theorem TgAllS.app {S : Addr → Prop} {H : Hp} : ∀ {vs ws : List V} {ds es : List PyData}, TgAllS S H vs ds → TgAllS S H ws es → TgAllS S H (vs ++ ws) (ds ++ es)
  | _, _, [], _, h, k => by cases h; exact k
  | _, _, d :: ds, _, h, k => by
    cases h with
    | cons h1 h2 => exact .cons h1 (TgAllS.app h2 k)
theorem TgAllS.take {S : Addr → Prop} {H : Hp} : ∀ {vs : List V} {ds : List PyData} (n : Nat), TgAllS S H vs ds → TgAllS S H (vs.take n) (ds.take n)
  | _, _, 0, _ => .nil
  | _, [], _ + 1, h => by cases h; exact .nil
  | _, d :: ds, n + 1, h => by
    cases h with
    | cons h1 h2 => exact .cons h1 (TgAllS.take n h2)
theorem TgAllS.set {S : Addr → Prop} {H : Hp} {v : V} {d : PyData} (k : TgS S H v d) : ∀ {vs : List V} {ds : List PyData} (n : Nat), TgAllS S H vs ds → TgAllS S H (vs.set n v) (ds.set n d)
  | _, [], _, h => by cases h; exact .nil
  | _, e :: ds, 0, h => by
    cases h with
    | cons h1 h2 => exact .cons k h2
  | _, e :: ds, n + 1, h => by
    cases h with
    | cons h1 h2 => exact .cons h1 (TgAllS.set k n h2)

theorem keepU {H : Hp} {p q : Addr} {o u : HO} (h : H p = some o) (n : Fresh H q) : upd H q u p = some o := (upd_ne (ne_fr h n)).trans h
theorem Well.new {H : Hp} {a q : Addr} {u : HO} (h : Well H a) (n : Fresh H q) : Well (upd H q u) a := h.fr (Fr.new (S := Non) (Fr.refl _) n) id
/-- what stands already -/
abbrev Old (H : Hp) : Addr → Prop := fun b => ¬ Fresh H b
theorem old_of {H : Hp} {p : Addr} {o : HO} (h : H p = some o) : Old H p := fun n => by
  have n0 : H p = none := n
  rw [n0] at h; cases h
theorem Well.old {H : Hp} {a : Addr} (h : Well H a) : ∀ b, One a b → Old H b := fun b e => by
  subst e
  obtain ⟨xs, q⟩ := h.some
  exact old_of q
mutual
theorem TgS.less {S T : Addr → Prop} {H : Hp} (f : ∀ b, S b → T b) : ∀ (d : PyData) (v : V), TgS T H v d → TgS S H v d
  | .none, _, h => by cases h; exact .non
  | .bool b, _, h => by cases h; exact .bl b
  | .int i, _, h => by cases h; exact .int i
  | .str x, _, h => by cases h; exact .str x
  | .list _, _, h => by
    cases h with
    | lst e n => exact .lst e fun s => n (f _ s)
  | .dict _, _, h => by
    cases h with
    | dct e n => exact .dct e fun s => n (f _ s)
  | .tuple ds, _, h => by
    cases h with
    | tup e hs => exact .tup e (TgAllS.less f ds _ hs)
theorem TgAllS.less {S T : Addr → Prop} {H : Hp} (f : ∀ b, S b → T b) : ∀ (ds : List PyData) (vs : List V), TgAllS T H vs ds → TgAllS S H vs ds
  | [], _, h => by cases h; exact .nil
  | d :: ds, _, h => by
    cases h with
    | cons h1 h2 => exact .cons (TgS.less f d _ h1) (TgAllS.less f ds _ h2)
end
/-! ### what is_key tells -/
def bnd : Int := 10 ^ 60
def numB (i : Int) : Bool := decide (-bnd < i) && decide (i < bnd)
def signB (c : Nat) : Bool := decide (32 ≤ c) && decide (c ≤ 126)
def txtB (z : Str) : Bool := decide (z.length ≤ 40) && z.cps.toList.all signB
def keyB : Nat → PyData → Bool
  | _, .int i => numB i
  | _, .str z => txtB z
  | r + 1, .tuple ds => decide (ds.length ≤ 4) && ds.all (keyB r)
  | _, _ => false
theorem numB_iff {i : Int} : numB i = true ↔ numOk i := by unfold numB numOk bnd; simp
theorem txtB_iff {z : Str} : txtB z = true ↔ txtOk z := by
  unfold txtB txtOk
  rw [Bool.and_eq_true, decide_eq_true_eq, List.all_eq_true]
  refine and_congr_right fun _ => forall_congr' fun c => forall_congr' fun _ => ?_
  unfold signB
  rw [Bool.and_eq_true, decide_eq_true_eq, decide_eq_true_eq]
theorem keyB_int {r : Nat} {i : Int} : keyB r (.int i) = numB i := by cases r <;> rfl
theorem keyB_str {r : Nat} {z : Str} : keyB r (.str z) = txtB z := by cases r <;> rfl
theorem keyB_iff : ∀ {r : Nat} {d : PyData}, keyB r d = true ↔ isK r d
  | r, .int i => by rw [keyB_int, isK_int, numB_iff]
  | r, .str z => by rw [keyB_str, isK_str, txtB_iff]
  | 0, .tuple ds => by simp [keyB, isK]
  | r + 1, .tuple ds => by
    rw [isK_tup]
    show (decide (ds.length ≤ 4) && ds.all (keyB r)) = true ↔ _
    rw [Bool.and_eq_true, decide_eq_true_eq, List.all_eq_true]
    exact ⟨fun h => ⟨h.1, fun d hd => keyB_iff.mp (h.2 d hd)⟩, fun h => ⟨h.1, fun d hd => keyB_iff.mpr (h.2 d hd)⟩⟩
  | r, .none => by cases r <;> simp [keyB, isK]
  | r, .bool b => by cases r <;> simp [keyB, isK]
  | r, .list b => by cases r <;> simp [keyB, isK]
  | r, .dict b => by cases r <;> simp [keyB, isK]
theorem keyB_of {r : Nat} {d : PyData} (h : isK r d) : keyB r d = true := keyB_iff.mpr h

theorem one_lt {c d : Nat} : ([c] < [d]) ↔ c < d := by
  rw [List.cons_lt_cons_iff]
  exact ⟨fun h => h.elim id fun h => absurd h.2 (List.lt_irrefl _), .inl⟩
theorem blank_cps : (Str.ofString " ").cps.toList = [32] := by decide +kernel
theorem tilde_cps : (Str.ofString "~").cps.toList = [126] := by decide +kernel
theorem sg_lo (c : Nat) : (!decide ((⟨#[c]⟩ : Str).cps.toList < (Str.ofString " ").cps.toList)) = decide (32 ≤ c) := by
  rw [blank_cps, Bool.eq_iff_iff, Bool.not_eq_true', decide_eq_false_iff_not, decide_eq_true_eq]
  show ¬ ([c] < [32]) ↔ _
  rw [one_lt]; omega
theorem sg_hi (c : Nat) : (!decide ((Str.ofString "~").cps.toList < (⟨#[c]⟩ : Str).cps.toList)) = decide (c ≤ 126) := by
  rw [tilde_cps, Bool.eq_iff_iff, Bool.not_eq_true', decide_eq_false_iff_not, decide_eq_true_eq]
  show ¬ ([126] < [c]) ↔ _
  rw [one_lt]; omega
theorem all_map {α : Type} (f : α → Bool) (l : List α) : (l.map f).all id = l.all f := by rw [List.all_map]; rfl
mutual
/-- texts within are of a size that the machine holds -/
def txtSmall : PyData → Prop
  | .str z => z.length ≤ 100000 ∧ PyData.strOk z = true
  | .tuple ds => txtSmallAll ds
  | .none => True
  | .bool _ => True
  | .int _ => True
  | .list _ => True
  | .dict _ => True
def txtSmallAll : List PyData → Prop
  | [] => True
  | d :: ds => txtSmall d ∧ txtSmallAll ds
end
theorem txtSmallAll_mem : ∀ {ds : List PyData}, txtSmallAll ds → ∀ d ∈ ds, txtSmall d
  | d :: ds, h, e, he => by
    rcases List.mem_cons.mp he with rfl | he
    · exact h.1
    · exact txtSmallAll_mem h.2 e he
theorem txtSmallAll_of : ∀ {ds : List PyData}, (∀ d ∈ ds, txtSmall d) → txtSmallAll ds
  | [], _ => trivial
  | d :: ds, h => ⟨h d (List.mem_cons_self ..), txtSmallAll_of fun e he => h e (List.mem_cons_of_mem _ he)⟩
theorem isK_small : ∀ {r : Nat} {d : PyData}, isK r d → txtSmall d
  | r, d, h => by
    rcases isK_cases h with ⟨i, rfl, _⟩ | ⟨z, rfl, h3⟩ | ⟨r1, ds, rfl, rfl, _, h2⟩
    · trivial
    · exact ⟨Nat.le_trans h3.1 (by decide), txt_strOk h3.2⟩
    · exact txtSmallAll_of fun e he => isK_small (h2 e he)
/-! ### a depth as a number -/
def deepK : PyData → Int := fun d => (d.depth : Int)

/-! ### a walk over a text, in a comprehension -/
section
variable {K : PySem.W.Frag} {σ : L2.St} {H : Hp} {tt : TT} {te : TE} {Q : VK} {x y v : V} {D : Ends}
theorem x_iStr {R : It → Hp → Prop} (q : te σ H fun x H1 => ∃ z, x = .str z ∧ R (Its z) H1) : iStr te σ H R := q
theorem x_isStr {z : Str} {R : Str → Prop} (q : R z) : ∃ w, V.str z = .str w ∧ R w := ⟨z, rfl, q⟩
theorem x_lcS {z : Str} {g : TG} {vs : List Nat} {DD : Addr} {Qd : Hp → Prop} (Pv : Nat → Hp → Prop) (h0 : Pv 0 (upd H DD (.lst [])))
    (hs : ∀ i c H, z.cps.toList[i]? = some c → Pv i H → LcT g tt te vs σ DD (.str ⟨#[c]⟩) (Pv (i + 1)) H) (hd : ∀ H, Pv z.cps.toList.length H → Qd H) : LcG (Its z) g tt te vs σ H DD Qd := by
  refine ⟨fun i m H => m = z.cps.size - i ∧ i ≤ z.cps.size ∧ Pv i H, ⟨z.cps.size, by simp, Nat.zero_le _, h0⟩, ?_⟩
  rintro i m H ⟨rfl, hi, p⟩
  by_cases hlt : i < z.cps.size
  · refine .inr ⟨hlt, Pv (i + 1), fun H' p' => ⟨z.cps.size - (i + 1), by omega, rfl, hlt, p'⟩, fun x H' yy => ?_⟩
    obtain ⟨rfl, c, hc, rfl⟩ := yy
    exact hs i c _ (by rw [Array.getElem?_toList]; exact hc) p
  · have e : i = z.cps.toList.length := by rw [Array.length_toList]; omega
    refine .inl ⟨by show z.cps.size ≤ i; omega, hd H (e ▸ p)⟩
theorem x_forS {z : Str} {g : TG} {tb : TS} (Pv : Nat → L2.St → Hp → Prop) (h0 : Pv 0 σ H)
    (hs : ∀ i c σ H, z.cps.toList[i]? = some c → Pv i σ H → g (.str ⟨#[c]⟩) σ H fun σ2 H2 => tb { D with nx := Pv (i + 1), ct := Pv (i + 1), bk := D.nx } σ2 H2) (hd : ∀ σ H, Pv z.cps.toList.length σ H → D.nx σ H) : ForG (Its z) g tb D σ H := by
  refine ⟨fun i m σ H => m = z.cps.size - i ∧ i ≤ z.cps.size ∧ Pv i σ H, ⟨z.cps.size, by simp, Nat.zero_le _, h0⟩, ?_⟩
  rintro i m σ H ⟨rfl, hi, p⟩
  by_cases hlt : i < z.cps.size
  · refine .inr ⟨hlt, Pv (i + 1), fun σ' H' p' => ⟨z.cps.size - (i + 1), by omega, rfl, hlt, p'⟩, fun x H' yy => ?_⟩
    obtain ⟨rfl, c, hc, rfl⟩ := yy
    exact hs i c σ _ (by rw [Array.getElem?_toList]; exact hc) p
  · have e : i = z.cps.toList.length := by rw [Array.length_toList]; omega
    refine .inl ⟨by show z.cps.size ≤ i; omega, hd σ H (e ▸ p)⟩
theorem x_isB {a b : Bool} (q : Q (.bl (decide (a = b))) H) : rIsB (.bl a) (.bl b) H Q := ⟨a, b, rfl, rfl, q⟩
theorem x_notB {a b : Bool} (q : Q (.bl (!decide (a = b))) H) : rNotB (.bl a) (.bl b) H Q := ⟨a, b, rfl, rfl, q⟩
end

/-! ### max(numbers, default=number) -/
def rMaxDef (K : PySem.W.Frag) : List V → List V → Hp → VK → Prop := fun vs zs H Q => ∃ (a : Addr) (ns : List Int) (d : Int), vs = [.ref a] ∧ zs = [.int d] ∧ SqL K H a (ns.map V.int) ∧
  (ns = [] → Q (.int d) H) ∧ (∀ m : Int, m ∈ ns → (∀ j ∈ ns, j ≤ m) → Q (.int m) H)
theorem maxOf_mem (x : Int) : ∀ xs : List Int, PySem.W.maxOf x xs ∈ x :: xs ∧ ∀ j ∈ x :: xs, j ≤ PySem.W.maxOf x xs := fun xs => by
  induction xs generalizing x with
  | nil => exact ⟨List.mem_cons_self .., fun j hj => by rw [List.mem_singleton.mp hj]; exact Int.le_refl _⟩
  | cons y ys ih =>
    have e : PySem.W.maxOf x (y :: ys) = PySem.W.maxOf (if decide (x < y) = true then y else x) ys := rfl
    rw [e]
    obtain ⟨h1, h2⟩ := ih (if decide (x < y) = true then y else x)
    have h3 := h2 _ (List.mem_cons_self ..)
    constructor
    · rcases List.mem_cons.mp h1 with h | h
      · rw [h]; split <;> simp
      · exact List.mem_cons_of_mem _ (List.mem_cons_of_mem _ h)
    · intro j hj
      rcases List.mem_cons.mp hj with rfl | hj
      · refine Int.le_trans ?_ h3
        split
        · exact Int.le_of_lt (of_decide_eq_true (by assumption))
        · exact Int.le_refl _
      · rcases List.mem_cons.mp hj with rfl | hj
        · refine Int.le_trans ?_ h3
          split
          · exact Int.le_refl _
          · rename_i h; have := of_decide_eq_false (Bool.eq_false_iff.mpr h); omega
        · exact h2 j (List.mem_cons_of_mem _ hj)
theorem dpAll_ints {K : PySem.W.Frag} {H : Hp} : ∀ ns : List Int, DpAll K H (ns.map V.int) (ns.map PySem.W.Datum.toD)
  | [] => .nil
  | n :: ns => .cons (.int n) (dpAll_ints ns)
theorem cr_maxDef {X : Cx} (hc : X.calm = true) (hu : X.A.units + 64 < cLine) : CallRK X (.builtin "max") [Str.ofString "default"] (rMaxDef X.K) := by
  intro pins s σ H vs zs us ws Q I r rz h
  obtain ⟨a, ns, d, rfl, rfl, hs, q0, q1⟩ := h
  obtain rfl := Vals.ref1 r
  obtain ⟨w1, rfl, e1⟩ := vals1 rz
  obtain ⟨t, rfl⟩ := e1
  obtain ⟨its, rv, hl, _⟩ := I.list hs
  obtain ⟨as, hR⟩ := Dp.readsAll I _ _ _ (dpAll_ints (K := X.K) (H := H) ns) rv
  refine PySem.W.max_list_datum_default (α := Int) (xs := ns) (I.ok.hd hc) hl.isList ⟨as, hR⟩ ?_ (fun e h' tk k => ?_) fun y ys i v h' tk e hi hv k => ?_
  · show X.A.units + 1 + 0 < cLine
    omega
  · exact ⟨.int d, H, I.kept k, ⟨_, rfl⟩, q0 e⟩
  · obtain ⟨bs, hv⟩ := hv
    obtain ⟨m1, m2⟩ := maxOf_mem y ys
    generalize PySem.W.maxOf y ys = m at hv m1 m2
    have e2 : ∃ t, v = .int m t := by
      cases hv with
      | int => exact ⟨_, rfl⟩
    obtain ⟨t2, rfl⟩ := e2
    exact ⟨.int m, H, I.kept k, ⟨_, rfl⟩, q1 m (e ▸ m1) (e ▸ m2)⟩
section
variable {K : PySem.W.Frag} {σ : L2.St} {H : Hp} {Q : VK}
theorem x_ckw {r : List V → List V → Hp → VK → Prop} {t tk : TA} (q : t σ H fun vs H1 => tk σ H1 fun zs H2 => r vs zs H2 Q) : tCKw r t tk σ H Q := q
theorem x_maxDef {a : Addr} {ns : List Int} {d : Int} (h : SqL K H a (ns.map V.int)) (q0 : ns = [] → Q (.int d) H) (q1 : ∀ m : Int, m ∈ ns → (∀ j ∈ ns, j ≤ m) → Q (.int m) H) : rMaxDef K [.ref a] [.int d] H Q := ⟨a, ns, d, rfl, rfl, h, q0, q1⟩
def rInsert : V → List V → Hp → VK → Prop := fun x vs H Q => ∃ (l : Addr) (xs : List V) (i : Int) (y : V), x = .ref l ∧ vs = [.int i, y] ∧ H l = some (.lst xs) ∧ xs.length < sizeLine ∧ 0 ≤ i ∧ i < 2 ^ 63 ∧
    Q .non (upd H l (.lst (xs.take i.toNat ++ [y] ++ xs.drop i.toNat)))
theorem m_insert {X : Cx} : MtR X "list.insert" rInsert := mt_insert
theorem x_insert {l : Addr} {xs : List V} {i : Int} {y : V} (h : H l = some (.lst xs)) (hs : xs.length ≤ 100000) (hi : 0 ≤ i ∧ i < 2 ^ 63) (q : Q .non (upd H l (.lst (xs.take i.toNat ++ [y] ++ xs.drop i.toNat)))) :
    rInsert (.ref l) [.int i, y] H Q := ⟨l, xs, i, y, rfl, rfl, h, Nat.lt_of_le_of_lt hs (by decide), hi.1, hi.2, q⟩
end
theorem pickD {H : Hp} {xs : List V} {ds : List PyData} {r : Int} (h : DtAll H xs ds) (h0 : 0 ≤ r) (h1 : r < xs.length) : ∃ v d, atI xs r = some v ∧ Dt H v d ∧ d ∈ ds := by
  obtain ⟨v, e1, e2⟩ := atI_ex (xs := xs) h0 h1
  obtain ⟨d, d1, d2⟩ := h.get e2
  exact ⟨v, d, e1, d2, List.mem_of_getElem? d1⟩
/-- the first r items -/
theorem cut_to {xs : List V} {r : Int} (h0 : 0 ≤ r) : cutV xs none (some r) = xs.take r.toNat := by
  have e : HT.sIx xs.length xs.length (some r) = min r.toNat xs.length := by
    show (if r < 0 then _ else min r.toNat xs.length) = _
    rw [if_neg (by omega)]
  rw [cutV_eq, HT.sIx_none, e, List.drop_zero, Nat.sub_zero]
  by_cases h : r.toNat ≤ xs.length
  · rw [Nat.min_eq_left h]
  · rw [Nat.min_eq_right (by omega), List.take_of_length_le (Nat.le_refl _), List.take_of_length_le (by omega)]
mutual
theorem TgS.dt {S : Addr → Prop} {H : Hp} : ∀ (r : Nat) (d : PyData) (v : V), isK r d → TgS S H v d → Dt H v d
  | r, .int i, _, _, h => by cases h; exact .int i
  | r, .str i, _, _, h => by cases h; exact .str i
  | r + 1, .tuple ds, _, k, h => by
    cases h with
    | tup e hs => exact .tup e (TgAllS.dt r ds _ k.2 hs)
  | 0, .tuple ds, _, k, _ => k.elim
  | r, .none, _, k, _ => by cases r <;> cases k
  | r, .bool _, _, k, _ => by cases r <;> cases k
  | r, .list _, _, k, _ => by cases r <;> cases k
  | r, .dict _, _, k, _ => by cases r <;> cases k
theorem TgAllS.dt {S : Addr → Prop} {H : Hp} : ∀ (r : Nat) (ds : List PyData) (vs : List V), (∀ d ∈ ds, isK r d) → TgAllS S H vs ds → DtAll H vs ds
  | r, [], _, _, h => by cases h; exact .nil
  | r, d :: ds, _, k, h => by
    cases h with
    | cons h1 h2 => exact .cons (TgS.dt r d _ (k d (List.mem_cons_self ..)) h1) (TgAllS.dt r ds _ (fun e he => k e (List.mem_cons_of_mem _ he)) h2)
end
theorem pickT {S : Addr → Prop} {H : Hp} {xs : List V} {ds : List PyData} {r : Int} (h : TgAllS S H xs ds) (h0 : 0 ≤ r) (h1 : r < xs.length) : ∃ v d, atI xs r = some v ∧ TgS S H v d ∧ d ∈ ds := by
  obtain ⟨v, e1, e2⟩ := atI_ex (xs := xs) h0 h1
  obtain ⟨d, d1, d2⟩ := h.get e2
  exact ⟨v, d, e1, d2, List.mem_of_getElem? d1⟩
/-! ### texts told again and again; parts of texts -/
def rMulS : R2 := fun x y H Q => ∃ (z : Str) (n : Int), x = .str z ∧ y = .int n ∧ z.length ≤ 100 ∧ -(2 ^ 63) ≤ n ∧ n ≤ 1000 ∧ ∀ w : Str, w.length ≤ 100000 → (∀ c ∈ w.cps.toList, c ∈ z.cps.toList) → Q (.str w) H
theorem reps_mem (x : Array Nat) : ∀ (k : Nat) (acc : Array Nat) (c : Nat), c ∈ ((List.replicate k x).foldl (· ++ ·) acc).toList → c ∈ acc.toList ∨ c ∈ x.toList
  | 0, _, _, h => .inl h
  | k + 1, acc, c, h => by
    rw [List.replicate_succ, List.foldl_cons] at h
    rcases reps_mem x k _ c h with h | h
    · rw [Array.toList_append] at h
      exact (List.mem_append.mp h)
    · exact .inr h
theorem mul_mem {z : Str} {n : Int} {c : Nat} (h : c ∈ (Txt.mul z n).cps.toList) : c ∈ z.cps.toList := by
  unfold Txt.mul at h
  split at h
  · cases h
  · split at h
    · exact h
    · rcases reps_mem z.cps _ _ c h with h | h
      · cases h
      · exact h
theorem o_mulS {X : Cx} : OpR X (binaryOp .Mult) rMulS := by
  intro pins s σ H x y v u Q I rx ry h
  obtain ⟨z, n, rfl, rfl, hz, h0, h1, q⟩ := h
  obtain ⟨t, rfl⟩ := rx
  obtain ⟨t2, rfl⟩ := ry
  refine SB.mul (mulOk_of 100 1000 hz (by omega) h0 (by decide) (by decide)) fun t' k => ⟨.str (Txt.mul z n), H, I.tok _, ⟨_, rfl⟩, q _ ?_ fun c hc => mul_mem hc⟩
  have e := len_mul z n
  have e2 : (z.length : Int) * (if decide (n < 0) = true then 0 else n) ≤ 100 * 1000 := by
    have a1 : (z.length : Int) ≤ 100 := by omega
    have a2 : (if decide (n < 0) = true then 0 else n) ≤ 1000 := by split <;> omega
    have a3 : 0 ≤ (if decide (n < 0) = true then 0 else n) := by
      split
      · exact Int.le_refl _
      · rename_i hn; have := of_decide_eq_false (Bool.eq_false_iff.mpr hn); omega
    generalize (if decide (n < 0) = true then 0 else n) = k at a2 a3
    exact Int.mul_le_mul a1 a2 a3 (by decide)
  omega
theorem x_mulS {H : Hp} {Q : VK} {z : Str} {n : Int} (hz : z.length ≤ 100) (h : -(2 ^ 63) ≤ n ∧ n ≤ 1000) (q : ∀ w : Str, w.length ≤ 100000 → (∀ c ∈ w.cps.toList, c ∈ z.cps.toList) → Q (.str w) H) : rMulS (.str z) (.int n) H Q := ⟨z, n, rfl, rfl, hz, h.1, h.2, q⟩
theorem x_slZ {H : Hp} {Q : VK} {z : Str} {lo hi : Option Int} (h : z.length ≤ sizeLine) (q : Q (.str (cutS z lo hi)) H) : rSlS (.str z) lo hi H Q := ⟨z, rfl, h, q⟩
theorem cutS_mem {z : Str} {lo hi : Option Int} {c : Nat} (h : c ∈ (cutS z lo hi).cps.toList) : c ∈ z.cps.toList := by
  have h2 : c ∈ (z.cps.toList.drop (HT.sIx z.length 0 lo)).take (HT.sIx z.length z.length hi - HT.sIx z.length 0 lo) := h
  exact List.mem_of_mem_drop (List.mem_of_mem_take h2)
theorem strOk_of {z : Str} (h : ∀ c ∈ z.cps.toList, c < 1114112) : PyData.strOk z = true := by
  unfold PyData.strOk
  rw [Array.all_eq_true_iff_forall_mem]
  intro c hc
  exact decide_eq_true (h c (Array.mem_toList_iff.mpr hc))
theorem strOk_mem {z : Str} (h : PyData.strOk z = true) : ∀ c ∈ z.cps.toList, c < 1114112 := by
  unfold PyData.strOk at h
  rw [Array.all_eq_true_iff_forall_mem] at h
  exact fun c hc => of_decide_eq_true (h c (Array.mem_toList_iff.mp hc))
theorem strOk_app {z w : Str} (h : PyData.strOk z = true) (k : PyData.strOk w = true) : PyData.strOk (z ++ w) = true := strOk_of fun c hc => by
  rw [str_app] at hc
  exact (List.mem_append.mp hc).elim (strOk_mem h c) (strOk_mem k c)
theorem x_dnew {σ : L2.St} {H : Hp} {Q : VK} (q : ∀ p, Fresh H p → Q (.ref p) (upd H p (.dK []))) : tDNewK σ H Q := q
theorem x_mulTup {P : Prop} (q : P) : P := q
theorem x_slT {K : PySem.W.Frag} {S : Addr → Prop} {H : Hp} {Q : VK} {a : Addr} {xs : List V} {ds : List PyData} {hi : Option Int} (ha : H a = some (.tup xs)) (da : TgAllS S H xs ds)
    (q : ∀ p H' n, Fr Non H H' → TgS S H' (.ref p) (.tuple (ds.take n)) → Q (.ref p) H') : rSlA K (.ref a) none hi H Q := by
  refine ⟨a, xs, rfl, SqT.of ha, fun _ => ?_, fun _ p n => ?_⟩
  · refine q a H ds.length (Fr.refl _) ?_
    rw [List.take_length]
    exact .tup ha da
  · exact q p _ (HT.sIx xs.length xs.length hi) (Fr.new (Fr.refl _) n) (.tup upd_same (by rw [cutV_eq, HT.sIx_none, List.drop_zero, Nat.sub_zero]; exact (da.take _).new n))
theorem x_catT {K : PySem.W.Frag} {S : Addr → Prop} {H : Hp} {Q : VK} {a b : Addr} {xs ys : List V} {ds es : List PyData} (ha : H a = some (.tup xs)) (hb : H b = some (.tup ys)) (da : TgAllS S H xs ds) (db : TgAllS S H ys es) (hz : xs.length + ys.length ≤ 100000)
    (q : ∀ p H', Fr Non H H' → TgS S H' (.ref p) (.tuple (ds ++ es)) → Q (.ref p) H') : rCatA K (.ref a) (.ref b) H Q := by
  refine x_catA (SqT.of ha) (SqT.of hb) hz (fun e => ?_) (fun _ e => ?_) (fun _ _ p n => ?_)
  · subst e; cases da; exact q b H (Fr.refl _) (.tup hb db)
  · subst e; cases db; rw [List.append_nil] at q; exact q a H (Fr.refl _) (.tup ha da)
  · exact q p _ (Fr.new (Fr.refl _) n) (.tup upd_same (TgAllS.app (da.new n) (db.new n)))
end Tw

/-! TwE: refusals: raise, try, isinstance of what was caught. -/
namespace Tw
open PySem PySem.Spec PyProof.Rows L2
/-- the address that a global class stands at -/
def clA (mg : Str → Option Value) (x : Str) : Addr := match mg x with
  | some (.ref a) => a
  | _ => 0
theorem clA_of {mg : Str → Option Value} {x : Str} {a : Addr} (h : mg x = some (.ref a)) : clA mg x = a := by unfold clA; rw [h]
/-- a class that is named -/
structure ClsTX (K : PySem.W.Frag) (mg : Str → Option Value) (x : Str) : Prop where
  m : mg x = some (.ref (clA mg x))
/-- a refusal without a field -/
structure ExcTX (K : PySem.W.Frag) (mg : Str → Option Value) (x : Str) (bm : List Value) (new : String) : Prop where
  m : mg x = some (.ref (clA mg x))
  kp : PySem.W.keepIn K (.ref (clA mg x)) = true
  ex : PySem.W.excIn K (clA mg x) bm new = true
  sb : PySem.W.subIn K (.ref (clA mg x)) (.type "BaseException") = some true
  ty : PySem.W.typeIn K (.ref (clA mg x)) = some (.type "type")
section
variable {X : Cx} {C : Addr}
/-- C() -/
theorem pmk_own0 {bmB : List Value} {B newId initId : String} {x : Str} {p pos : Pos} (F : ExcBaseFacts B newId initId bmB) (q : PySem.W.excIn X.K C bmB newId = true) (gC : X.mg x = some (.ref C)) (kC : PySem.W.keepIn X.K (.ref C) = true) (r : Raises X (.ref C)) (hg : Gl X x)
    (hdb : (x == ("__debug__" : Str)) = false := by decide) : PMk X (.Call (.Name x p) [] [] pos) (fun _ H Q => Q (.ref C) none H) := by
  intro pins s σ H Q I h
  refine wpAny_Call_Name_kw (ld_glob I hg gC ?_ hdb)
  refine PySem.W.callWith_K0 (f := .ref C) I.kIn kC ?_
  show wpAny _ _ (call (.ref C) []) _ _ _
  obtain ⟨bm, N, nm, qn, bs, hdct, sn, sub, ab, col, dd, k0, k1, k2, k3, k5, mN, hC, hN, hni, T⟩ := exc_obj I.kIn q
  refine wpAny_call_exc_subT F T hC hN hni (fun h' e hm => ?_) (Nat.zero_le _)
  exact mk_of I hm r h (I.hok.gone hm.new)
/-- raise C() -/
def tRaise0 (W : WX) (C : Addr) : TS := fun _ σ H => W (.ref C) none σ H
theorem ps_raise0 {W : WX} {e : Expr} {pos : Pos} (hc : X.calm = true) (tk : Takes X W) (he : PMk X e (fun _ H Q => Q (.ref C) none H)) : PS X (.Raise (some e) none pos) (tRaise0 W C) := ps_raise hc tk he
theorem x_raise0 {E : XK} {D : Ends} {σ : L2.St} {H : Hp} (q : E (.ref C) none H) : tRaise0 (fun cls d _ H => E cls d H) C D σ H := q
/-- a call within a try -/
def tCalS (sp : Sp) (W : WX) (t : TA) : TE := fun σ H Q => t σ H fun vs H1 => sp vs H1 Q (WE W σ)
theorem pcallX {k j : Nat} {x : Str} {ps : List Str} {sp : Sp} {p pos : Pos} {e : Expr} {es : List Expr} {t : TA} {W : WX} (c : CalX X.prog X.w X.K X.mg X.base k x ps sp) (hr : Room j X.A) (hk : k ≤ j) (hg : Gl X x) (tk : Takes X W) (ha : PA X (e :: es) t)
    (hdb : (x == ("__debug__" : Str)) = false := by decide) (he : starEach (e :: es) X.env = (false, eval e X.env) :: starEach es X.env := by rfl) (hpl : (backTo pos (starEach es X.env)).any (·.1) = false := by rfl) :
    PE X (.Call (.Name x p) (e :: es) [] pos) (tCalS sp W t) := by
  obtain ⟨f, fd, F, hm, kp, b⟩ := c.ex
  exact pe_callS F (hr.mono hk) hg hm kp b (fun σ => passAt tk σ) ha hdb he hpl
theorem x_calS {σ : L2.St} {H : Hp} {Q : VK} {sp : Sp} {W : WX} {tr : TA} (q : tr σ H fun vs H1 => sp vs H1 Q (WE W σ)) : tCalS sp W tr σ H Q := q
/-- isinstance of what the suite holds -/
def rIsX (K : PySem.W.Frag) (a : Addr) (cls : Value) (d : Option Addr) : List V → Hp → VK → Prop := fun xs H Q => ∃ (D : Addr) (c : V) (cv : Value) (b : Bool), cls = .ref D ∧ d = none ∧ ExcC K D ∧ xs = [.ref a, c] ∧ ClsV c cv ∧ PySem.W.kitOne K (.ref D) cv = some b ∧ Q (.bl b) H
theorem call_isX {a : Addr} {cls : Value} {d : Option Addr} {oe : Obj} {pn : List (Addr × Obj)} (hz : Zc cls d oe) (hf : ∃ vs, oe.data = .fields vs) : CallR (X.suite a ((a, oe) :: pn)) (.builtin "isinstance") (rIsX X.K a cls d) := by
  intro pins s σ H xs us Q I r h
  obtain ⟨D, c, cv, b, rfl, rfl, hC, rfl, hv, e, q⟩ := h
  exact call_isE hC hz hf pins s σ H _ us Q I r ⟨c, cv, b, rfl, fun u ru => hv.eq ru, e, q⟩
def rIsXT (K : PySem.W.Frag) (a : Addr) (cls : Value) (d : Option Addr) : List V → Hp → VK → Prop := fun xs H Q => ∃ (D tp : Addr) (cs : List V) (us : List Value) (b : Bool), cls = .ref D ∧ d = none ∧ ExcC K D ∧ xs = [.ref a, .ref tp] ∧ H tp = some (.tup cs) ∧ Paired ClsV cs us ∧ PySem.W.kitAny K (.ref D) us = some b ∧ Q (.bl b) H
theorem call_isXT {a : Addr} {cls : Value} {d : Option Addr} {oe : Obj} {pn : List (Addr × Obj)} (hz : Zc cls d oe) (hf : ∃ vs, oe.data = .fields vs) : CallR (X.suite a ((a, oe) :: pn)) (.builtin "isinstance") (rIsXT X.K a cls d) := by
  intro pins s σ H xs us Q I r h
  obtain ⟨D, tp, cs, ws, b, rfl, rfl, C, rfl, hT, k, e, q⟩ := h
  obtain ⟨u1, u2, rfl, r1, r2⟩ := vals2 r
  cases (show u2 = Value.ref tp from r2)
  cases (show u1 = Value.ref a from r1)
  obtain ⟨_, its, rv, o, h1, h2, n, h3⟩ := (show ObjOk X.prog X.w H s.heap tp (.tup cs) from I.hok tp _ hT)
  have e3 := ClsV.all k rv
  subst e3
  obtain ⟨oc, od, dt, sl⟩ := o
  simp only at h2 h3
  subst h2 h3
  obtain ⟨hget, _⟩ := I.pin (a, oe) (List.mem_append.mpr (.inl List.mem_cons_self))
  obtain ⟨vs, hv⟩ := hf
  have J : PySem.W.InstAt s.heap a oe D none := by
    obtain ⟨oc, od, oda, osl⟩ := oe
    obtain ⟨h1, h2⟩ := hz
    dsimp only at h1 h2 hv
    subst h1 h2 hv
    exact ⟨hget, rfl, rfl, trivial⟩
  exact PySem.W.kia_tup (PySem.W.handS_kitx_exc C.hg C.hk C.hs C.hd C.ha C.hn C.ht C.hm) I.kIn J h1 e (fun z => nomatch z) fun tk => ⟨.bl b, H, I.kept (t' := tk) fun _ _ z => z, rfl, q⟩
theorem x_isX {K : PySem.W.Frag} {a D : Addr} {c : V} {cv : Value} {b : Bool} {H : Hp} {Q : VK} (hC : ExcC K D) (hv : ClsV c cv) (e : PySem.W.kitOne K (.ref D) cv = some b) (q : Q (.bl b) H) : rIsX K a (.ref D) none [.ref a, c] H Q := ⟨D, c, cv, b, rfl, rfl, hC, rfl, hv, e, q⟩
theorem x_isXT {K : PySem.W.Frag} {a D tp : Addr} {cs : List V} {us : List Value} {b : Bool} {H : Hp} {Q : VK} (hC : ExcC K D) (hT : H tp = some (.tup cs)) (hv : Paired ClsV cs us) (e : PySem.W.kitAny K (.ref D) us = some b) (q : Q (.bl b) H) : rIsXT K a (.ref D) none [.ref a, .ref tp] H Q := ⟨D, tp, cs, us, b, rfl, rfl, hC, rfl, hT, hv, e, q⟩
end
/-- try .. except C as n (n in slot i) -/
def tTryAs (K : PySem.W.Frag) (c : Value) (i : Nat) (ts : Addr → Value → Option Addr → TS) (Wout : WX) (tb : WX → TS) : TS := fun D σ H => tb (wAs K c i ts Wout D) D σ H
theorem ps_tryAs {X : Cx} {x n : Str} {c : Value} {i : Nat} {body suite : List Stmt} {b₀ : Stmt} {np pos pos' : Pos} {tb : WX → TS} {ts : Addr → Value → Option Addr → TS} {Wout : WX}
    (hs : X.stack = X.env :: X.outer) (hf : X.env.frame = some X.env.locals) (hN : X.N.Nodup) (hi : X.N[i]? = some n) (hln : X.env.kindOf n = some .local) (hc : Names X x c) (tk : Takes X Wout)
    (hb : ∀ (W : WX) (pn : List (Addr × Obj)) (xe : Value → Shared → Prop), Takes (X.tr pn xe) W → PassesOwn (model X.prog X.w) X.A X.env xe → PSs (X.tr pn xe) body (tb W))
    (hsu : ∀ (a : Addr) (oe : Obj) (cls : Value) (d : Option Addr) (pn : List (Addr × Obj)), Zc cls d oe → (∃ vs, oe.data = .fields vs) → PSs (X.suite a ((a, oe) :: pn)) (b₀ :: suite) (ts a cls d)) :
    PS X (.Try body [.ExceptHandler (some (.Name x np)) (some n) (b₀ :: suite) pos'] [] [] pos) (tTryAs X.K c i ts Wout tb) := ps_try_as hs hf hN hi hln hc tk hb hsu
theorem x_tryAs {K : PySem.W.Frag} {c : Value} {i : Nat} {ts : Addr → Value → Option Addr → TS} {Wout : WX} {tb : WX → TS} {D : Ends} {σ : L2.St} {H : Hp} (q : tb (wAs K c i ts Wout D) D σ H) : tTryAs K c i ts Wout tb D σ H := q
/-- the clause takes it -/
theorem x_wAsT {K : PySem.W.Frag} {c cls : Value} {d : Option Addr} {i : Nat} {ts : Addr → Value → Option Addr → TS} {Wout : WX} {D : Ends} {σ : L2.St} {H : Hp} (h : PySem.W.exmOne K cls c = some true)
    (q : ∀ a, Fresh H a → ts a cls d { nx := fun σ' H' => D.nx (σ'.set i none) H', rt := D.rt, bk := fun σ' H' => D.bk (σ'.set i none) H', ct := fun σ' H' => D.ct (σ'.set i none) H' } (σ.set i (some (.ref a))) H) :
    WE (wAs K c i ts Wout D) σ cls d H := ⟨true, h, fun _ a ha => q a ha, fun e => nomatch e⟩
def excCB (K : PySem.W.Frag) (D : Addr) : Bool := decide (PySem.W.findIn K (.ref D) "__getattribute__" = some (some (.builtin "BaseException.__getattribute__"))) && (decide (PySem.W.findIn K (.ref D) "__getattr__" = some none) &&
  (decide (PySem.W.subIn K (.ref D) (.type "BaseException") = some true) && (PySem.W.hasDictIn K D && (decide (PySem.W.findIn K (.ref D) "__class__" = some (some (.builtin "object.__class__"))) &&
  (decide (PySem.W.specialIn K (.builtin "object.__class__") "__get__" = some (some (.builtin "getset_descriptor.__get__"))) && (decide (PySem.W.takesIn K (.builtin "object.__class__") = some true) && decide (PySem.W.mroIn K D (.type "object") = some true)))))))
theorem excC_of {K : PySem.W.Frag} {D : Addr} (h : excCB K D = true) : ExcC K D := by
  unfold excCB at h
  simp only [Bool.and_eq_true, decide_eq_true_eq] at h
  obtain ⟨h1, h2, h3, h4, h5, h6, h7, h8⟩ := h
  exact ⟨h1, h2, h3, h4, h5, h6, h7, h8⟩
theorem boot_ValueError : bootBuiltins "ValueError" = some (.type "ValueError") := by decide +kernel
end Tw

namespace Tw
open PySem L2
def top (i : Nat) : Stmt := PySem.Challenge.pw_twigmap_k11_what_is_a_key.main.body.getD i (.Pass ⟨0, 0, 0, 0⟩)
abbrev s_law_pull : Stmt := top 21
abbrev s_law_text : Stmt := top 23
abbrev s_law_great : Stmt := top 22
abbrev s_law_key : Stmt := top 24
abbrev s_law_odd : Stmt := top 27
abbrev s_law_thing : Stmt := top 28
abbrev s_law_good : Stmt := top 26
abbrev s_is_number : Stmt := top 14
abbrev s_is_text : Stmt := top 15
abbrev s_is_within : Stmt := top 16
abbrev s_is_key : Stmt := top 17
abbrev s_law_well : Stmt := top 20
abbrev s_law_alike : Stmt := top 25
abbrev s_checked : Stmt := top 18
abbrev s_law_refused : Stmt := top 29
abbrev s_law : Stmt := top 30
structure TX (K : PySem.W.Frag) (mg : Str → Option Value) : Prop where
  d_law_pull : DefX K mg "_law_pull" ["_law_well_here", "_law_many"] s_law_pull
  d_law_text : DefX K mg "_law_text" ["_law_well_here"] s_law_text
  d_law_great : DefX K mg "_law_great" ["_law_well_here", "_law_bound"] s_law_great
  d_law_key : DefX K mg "_law_key" ["_law_well_here", "_law_room"] s_law_key
  d_law_odd : DefX K mg "_law_odd" ["_law_well_here"] s_law_odd
  d_law_thing : DefX K mg "_law_thing" ["_law_well_here"] s_law_thing
  d_law_good : DefX K mg "_law_good" ["_law_thing_here", "_law_room"] s_law_good
  d_is_number : DefX K mg "is_number" ["thing"] s_is_number
  d_is_text : DefX K mg "is_text" ["thing"] s_is_text
  d_is_within : DefX K mg "is_within" ["thing", "room"] s_is_within
  d_is_key : DefX K mg "is_key" ["thing"] s_is_key
  d_law_well : DefX K mg "_law_well" ["_law_script", "_law_k"] s_law_well
  d_law_alike : DefX K mg "_law_alike" ["_law_found", "_law_due"] s_law_alike
  d_checked : DefX K mg "checked" ["thing"] s_checked
  d_law_refused : DefX K mg "_law_refused" ["_law_thing_here"] s_law_refused
  d_law : DefX K mg "law" ["_law_script"] s_law
  b_ValueError : mg "ValueError" = none
  b_abs : mg "abs" = none
  b_all : mg "all" = none
  b_bool : mg "bool" = none
  b_int : mg "int" = none
  b_isinstance : mg "isinstance" = none
  b_len : mg "len" = none
  b_list : mg "list" = none
  b_max : mg "max" = none
  b_range : mg "range" = none
  b_str : mg "str" = none
  b_tuple : mg "tuple" = none
  c_BOUND : ConstX mg "BOUND" (.int 1000000000000000000000000000000000000000000000000000000000000)
  c_DEEP : ConstX mg "DEEP" (.int 3)
  c_SIGNS : ConstX mg "SIGNS" (.int 40)
  c_WIDE : ConstX mg "WIDE" (.int 4)
  x_NoKey : ClsTX K mg "NoKey"
  x_NoLeaf : ClsTX K mg "NoLeaf"
  x_NoStem : ClsTX K mg "NoStem"
  x_NoText : ClsTX K mg "NoText"
  x_NoTwig : ClsTX K mg "NoTwig"
  x_Shared : ClsTX K mg "Shared"
  x_Stale : ClsTX K mg "Stale"
  x_TwigError : ClsTX K mg "TwigError"
  r_NoKey : ExcTX K mg "NoKey" [.type "ValueError", .type "Exception", .type "BaseException", .type "object"] "ValueError.__new__"
  em_NoKey : PySem.W.exmOne K (.ref (clA mg "NoKey")) (.ref (clA mg "TwigError")) = some true
  xc_NoKey : excCB K (clA mg "NoKey") = true
  ka_NoKey_6 : PySem.W.kitAny K (.ref (clA mg "NoKey")) [.ref (clA mg "NoLeaf"), .ref (clA mg "NoStem"), .ref (clA mg "NoText"), .ref (clA mg "NoTwig"), .ref (clA mg "Shared"), .ref (clA mg "Stale")] = some false
  ki_NoKey : PySem.W.kitOne K (.ref (clA mg "NoKey")) (.ref (clA mg "NoKey")) = some true
  ki_NoKey_VE : PySem.W.kitOne K (.ref (clA mg "NoKey")) (.type "ValueError") = some true
local macro_rules | `(tactic| walk_at "nn") => `(tactic| first
  | assumption
  | exact upd_back (by assumption)
  | exact upd_back (upd_back (by assumption))
  | exact upd_back (upd_back (upd_back (by assumption)))
  | exact upd_back (upd_back (upd_back (upd_back (by assumption))))
  | exact upd_back (upd_back (upd_back (upd_back (upd_back (by assumption)))))
  | exact upd_back (upd_back (upd_back (upd_back (upd_back (upd_back (by assumption))))))
  | exact upd_back (upd_back (upd_back (upd_back (upd_back (upd_back (upd_back (by assumption)))))))
  | exact upd_back (upd_back (upd_back (upd_back (upd_back (upd_back (upd_back (upd_back (by assumption))))))))
  | exact upd_back (upd_back (upd_back (upd_back (upd_back (upd_back (upd_back (upd_back (upd_back (by assumption)))))))))
  | exact upd_back (upd_back (upd_back (upd_back (upd_back (upd_back (upd_back (upd_back (upd_back (upd_back (by assumption))))))))))
  | exact Fr.free (by assumption) (by walk_at "nn")
  | exact upd_back (Fr.free (by assumption) (by walk_at "nn"))
  | exact upd_back (upd_back (Fr.free (by assumption) (by walk_at "nn")))
  | exact upd_back (upd_back (upd_back (Fr.free (by assumption) (by walk_at "nn"))))
  | exact upd_back (upd_back (upd_back (upd_back (Fr.free (by assumption) (by walk_at "nn")))))
  | exact upd_back (upd_back (upd_back (upd_back (upd_back (Fr.free (by assumption) (by walk_at "nn"))))))
  | exact upd_back (upd_back (upd_back (upd_back (upd_back (upd_back (Fr.free (by assumption) (by walk_at "nn")))))))
  | fail "no way")
local macro_rules | `(tactic| walk_at "ne1") => `(tactic| first
  | assumption
  | exact Ne.symm (by assumption)
  | fail "no way")
local macro_rules | `(tactic| walk_at "ne") => `(tactic| first
  | walk_at "ne1"
  | (refine ne_fr (H := ?H) (o := ?o) ?h1 ?h2; (case h2 => assumption); (case h1 => walk_at "hp"))
  | (refine ne_fr (H := ?H) (o := .tup ?xs) ?h1 ?h2; (case h2 => assumption); (case h1 => walk_at "hp"))
  | (refine Ne.symm (ne_fr (H := ?H) (o := ?o) ?h1 ?h2); (case h2 => assumption); (case h1 => walk_at "hp"))
  | (refine Ne.symm (ne_fr (H := ?H) (o := .tup ?xs) ?h1 ?h2); (case h2 => assumption); (case h1 => walk_at "hp"))
  | (refine Well.ne (H := ?H) ?h1 ?h2; (case h2 => assumption); (case h1 => walk_at "we"))
  | (refine Ne.symm (Well.ne (H := ?H) ?h1 ?h2); (case h2 => assumption); (case h1 => walk_at "we"))
  | (refine ne_of (by assumption) (by assumption) ?_; (intro z; cases z; done))
  | fail "no way")
local macro_rules | `(tactic| walk_at "we") => `(tactic| first
  | assumption
  | (refine Well.fr (S := Non) ?h1 (Fr.new (Fr.refl _) ?h2) id; (case h2 => assumption); (case h1 => walk_at "we"))
  | (refine Well.fr (S := One _) ?h1 (Fr.mut (u := ?u) (Fr.refl _) ?h2 ?h3 (.inl rfl)) ?h4; (case h1 => walk_at "we"); (case h2 => walk_at "hp"); (case h3 => rfl); (case h4 => walk_at "ns"))
  | (refine Well.fr (S := ?S) (H := ?H) ?h1 ?f ?h2; (case f => assumption); (case h1 => walk_at "we"); (case h2 => walk_at "ns"))
  | fail "no way")
local macro_rules | `(tactic| walk_at "ns") => `(tactic| first
  | exact id
  | assumption
  | ((with_reducible refine not_One ?_); walk_at "ne")
  | fail "no way")
local macro_rules | `(tactic| walk_at "hp") => `(tactic| first
  | assumption
  | exact upd_same
  | ((with_reducible refine Eq.trans (upd_ne ?h1) ?h2); (case h1 => walk_at "ne"); (case h2 => walk_at "hp"))
  | (refine Fr.tup (S := ?S) (H := ?H0) ?f _ _ ?h1; (case f => assumption); (case h1 => walk_at "hp"))
  | (refine Fr.keep (S := ?S) (H := ?H0) ?f _ _ ?h1 ?h2; (case f => assumption); (case h1 => walk_at "hp"); (case h2 => walk_at "ns"))
  | fail "no way")
local macro_rules | `(tactic| walk_at "sq") => `(tactic| first
  | assumption
  | exact SqL.of (by walk_at "hp")
  | exact SqT.of (by walk_at "hp")
  | exact .inl (SqL.of (by walk_at "hp"))
  | exact .inr (SqT.of (by walk_at "hp"))
  | exact .inl (by assumption)
  | exact .inr (by assumption)
  | (refine SqL_upd ?_ (by assumption); walk_at "sq")
  | (refine .inl (SqL_upd ?_ (by assumption)); walk_at "sq")
  | (refine SqL_fr ?_ (by assumption) (by walk_at "ns"); walk_at "sq")
  | (refine .inl (SqL_fr ?_ (by assumption) (by walk_at "ns")); walk_at "sq")
  | fail "no way")
local macro_rules | `(tactic| walk_at "tg") => `(tactic| first
  | assumption
  | exact TgS.non
  | exact TgS.bl _
  | exact TgS.int _
  | exact TgS.str _
  | exact TgAllS.nil
  | (refine TgS.tup (by walk_at "hp") ?_; walk_at "tg")
  | (refine TgS.lst (by walk_at "hp") (by walk_at "ns"))
  | (refine TgS.dct (by walk_at "hp") (by walk_at "ns"))
  | (refine TgAllS.cons ?_ ?_ <;> walk_at "tg")
  | (refine TgS.new ?_ (by assumption); walk_at "tg")
  | (refine TgAllS.new ?_ (by assumption); walk_at "tg")
  | fail "no way")
local macro_rules | `(tactic| walk_at "dt") => `(tactic| first
  | assumption
  | exact Dt.int _
  | exact Dt.str _
  | exact DtAll.nil
  | (refine Dt.tup (by walk_at "hp") ?_; walk_at "dt")
  | (refine DtAll.cons ?_ ?_ <;> walk_at "dt")
  | (refine Dt.upd ?_ (by assumption); walk_at "dt")
  | (refine DtAll.upd ?_ (by assumption); walk_at "dt")
  | (refine Dt.updm (u := ?u) ?_ ?h1 ?h2; (case h1 => walk_at "hp"); (case h2 => rfl); walk_at "dt")
  | (refine DtAll.updm (u := ?u) ?_ ?h1 ?h2; (case h1 => walk_at "hp"); (case h2 => rfl); walk_at "dt")
  | (refine Dt.mono ?_ (by assumption); walk_at "dt")
  | (refine DtAll.mono ?_ (by assumption); walk_at "dt")
  | fail "no way")
local macro_rules | `(tactic| walk_at "mu") => `(tactic| first
  | exact Or.inl rfl
  | exact Or.inl trivial
  | exact Or.inr (by walk_at "nn")
  | exact Or.inl (by assumption)
  | fail "no way")
local macro_rules | `(tactic| walk_at "fr") => `(tactic| first
  | assumption
  | exact Fr.refl _
  | ((with_reducible refine Fr.new ?_ ?h1); (case h1 => assumption); walk_at "fr")
  | ((with_reducible refine Fr.mut (u := ?u) ?_ ?h1 ?h2 ?h3); (case h1 => walk_at "hp"); (case h2 => rfl); (case h3 => walk_at "mu"); walk_at "fr")
  | ((with_reducible refine Fr.sub' (H1 := ?H1) (T := ?T) ?_ ?h1 ?h2); (case h1 => assumption); (case h2 => walk_at "su"); walk_at "fr")
  | fail "no way")
local macro_rules | `(tactic| walk_at "su") => `(tactic| first
  | exact fun _ h => h.elim
  | exact fun _ h => .inl h
  | (intro b h; subst h; walk_at "mu")
  | fail "no way")
local macro_rules | `(tactic| walk_at "ix") => `(tactic| first
  | rfl
  | assumption
  | exact ix2i _ _ _
  | fail "no way")
local macro_rules | `(tactic| walk_at "sz") => `(tactic| first
  | (show _ ≤ 1000; decide)
  | assumption
  | (simp only [List.length_cons, List.length_nil, List.length_append, List.length_map, List.length_set, List.length_replicate]; omega)
  | omega
  | fail "no way")
local macro_rules | `(tactic| walk_at "zs") => `(tactic| first
  | assumption
  | (show _ ≤ 16777216; omega)
  | decide
  | fail "no way")
local macro_rules | `(tactic| walk_at "za") => `(tactic| first
  | assumption
  | (show _ ≤ 16777216; omega)
  | (refine Nat.le_trans (Nat.add_le_add_left (Nat.le_of_eq (str_one _)) _) ?_; show _ ≤ 16777216; omega)
  | (refine Nat.le_trans (Nat.add_le_add_right (Nat.le_of_eq (str_one _)) _) ?_; show _ ≤ 16777216; omega)
  | fail "no way")
local macro_rules | `(tactic| walk_at "ty") => `(tactic| first
  | exact .base (.int _)
  | exact .base (.bl _)
  | exact .base (.str _)
  | exact .base .non
  | exact .base (.tup (by walk_at "hp"))
  | exact .base (.lst (by walk_at "hp"))
  | fail "no way")
local macro_rules | `(tactic| walk_at "kit") => `(tactic| first
  | exact kit_int_int | exact kit_int_bool | exact kit_int_str | exact kit_int_tuple | exact kit_int_list
  | exact kit_bool_int | exact kit_bool_bool | exact kit_bool_str | exact kit_bool_tuple | exact kit_bool_list
  | exact kit_str_int | exact kit_str_bool | exact kit_str_str | exact kit_str_tuple | exact kit_str_list
  | exact kit_tuple_int | exact kit_tuple_bool | exact kit_tuple_str | exact kit_tuple_tuple | exact kit_tuple_list
  | exact kit_list_int | exact kit_list_bool | exact kit_list_str | exact kit_list_tuple | exact kit_list_list
  | exact kit_NoneType_int | exact kit_NoneType_bool | exact kit_NoneType_str | exact kit_NoneType_tuple | exact kit_NoneType_list
  | exact kit_dict_int | exact kit_dict_bool | exact kit_dict_str | exact kit_dict_tuple | exact kit_dict_list | exact kit_dict_dict
  | exact kit_int_dict | exact kit_bool_dict | exact kit_str_dict | exact kit_tuple_dict | exact kit_list_dict | exact kit_NoneType_dict
  | fail "no way")
local macro_rules | `(tactic| walk_at "mul") => `(tactic| first
  | exact .inr ⟨by decide, by decide⟩
  | exact .inl ⟨by decide, by decide⟩
  | (refine .inl ⟨?_, ?_⟩ <;> omega)
  | (refine .inr ⟨?_, ?_⟩ <;> omega)
  | (refine .inr ⟨?_, ?_⟩ <;> split <;> decide)
  | fail "no way")
local macro_rules | `(tactic| walk_at "rd1") => `(tactic| first
  | with_reducible refine x_seq ?_
  | with_reducible refine x_asg ?_
  | ((with_reducible refine x_var (v := ?v) ?h1 ?_); (case h1 => rfl))
  | with_reducible refine x_c ?_
  | with_reducible refine x_gname ?_
  | with_reducible refine x_op ?_
  | with_reducible refine x_if ?_
  | with_reducible refine x_test ?_
  | with_reducible refine x_bl ?_
  | with_reducible refine x_ret ?_
  | with_reducible refine x_next ?_
  | with_reducible refine x_cons ?_
  | with_reducible refine x_nil ?_
  | with_reducible refine x_cal ?_
  | with_reducible refine x_cb ?_
  | with_reducible refine x_sp1 ?_
  | with_reducible refine x_sp2 ?_
  | with_reducible refine x_sp3 ?_
  | with_reducible refine x_sp4 ?_
  | ((with_reducible refine x_ixL (xs := ?xs) (v := ?v) ?h1 ?h2 ?_); (case h1 => walk_at "sq"); (case h2 => walk_at "ix"))
  | ((with_reducible refine x_ixS (c := ?c) ?h1 ?h2 ?_); (case h1 => walk_at "zs"); (case h2 => walk_at "ix"))
  | ((with_reducible refine x_addS ?h1 ?_); (case h1 => walk_at "za"))
  | ((with_reducible refine x_ixT (xs := ?xs) (v := ?v) ?h1 ?h2 ?_); (case h1 => walk_at "sq"); (case h2 => walk_at "ix"))
  | with_reducible refine x_eqI ?_
  | with_reducible refine x_neI ?_
  | with_reducible refine x_add ?_
  | with_reducible refine x_sub ?_
  | with_reducible refine x_lt ?_
  | with_reducible refine x_le ?_
  | with_reducible refine x_gt ?_
  | with_reducible refine x_ge ?_
  | ((with_reducible refine x_mul ?h1 ?_); (case h1 => walk_at "mul"))
  | ((with_reducible refine x_pow ?h1 ?_); (case h1 => exact ⟨by decide, by decide, by decide⟩))
  | ((with_reducible refine x_mod ?h1 ?_); (case h1 => first | decide | assumption | omega | fail "no way"))
  | ((with_reducible refine x_div ?h1 ?_); (case h1 => exact ⟨by omega, by omega⟩))
  | ((with_reducible refine x_divW ?h1 ?_); (case h1 => first | assumption | exact ⟨by decide, by decide⟩ | exact ⟨by assumption, by assumption⟩ | fail "no way"))
  | with_reducible refine x_neg ?_
  | with_reducible refine x_un ?_
  | with_reducible refine x_isN ?_
  | with_reducible refine x_notN ?_
  | with_reducible refine x_not ?_
  | with_reducible refine x_and ?_
  | with_reducible refine x_or ?_
  | with_reducible refine x_andV ?_
  | with_reducible refine x_orV ?_
  | with_reducible refine x_notV ?_
  | with_reducible refine x_tB ?_
  | with_reducible refine x_iteF ?_
  | with_reducible refine x_iteT ?_
  | with_reducible refine x_ife ?_
  | with_reducible refine x_drop ?_
  | with_reducible refine x_retN ?_
  | with_reducible refine x_gsub ?_
  | ((with_reducible refine x_setL (xs := ?xs) (n := ?n) ?h1 ?h2 ?_); (case h1 => walk_at "hp"); (case h2 => walk_at "ix"))
  | ((with_reducible refine x_gtup (xs := ?xs) ?h1 ?h2 ?_); (case h1 => walk_at "sq"); (case h2 => rfl))
  | with_reducible refine x_gcons ?_
  | with_reducible refine x_gnil ?_
  | with_reducible refine x_tup ?_
  | with_reducible refine x_lst ?_
  | ((with_reducible refine x_sz ?h1 ?_); (case h1 => walk_at "sz"))
  | ((with_reducible refine x_len (xs := ?xs) ?h1 ?_); (case h1 => walk_at "sq"))
  | ((with_reducible refine x_cat (xs := ?xs) (zs := ?zs) ?h1 ?h2 ?h3 ?_); (case h1 => walk_at "hp"); (case h2 => walk_at "hp"); (case h3 => walk_at "sz"))
  | with_reducible refine x_abs ?_
  | with_reducible refine x_max2 ?_
  | with_reducible refine x_min2 ?_
  | with_reducible refine x_intI ?_
  | with_reducible refine x_intB ?_
  | ((with_reducible refine x_isiI (r := ?r) ?h2 ?_); (case h2 => walk_at "kit"))
  | ((with_reducible refine x_isiB (r := ?r) ?h2 ?_); (case h2 => walk_at "kit"))
  | ((with_reducible refine x_isiS (r := ?r) ?h2 ?_); (case h2 => walk_at "kit"))
  | ((with_reducible refine x_isiN (r := ?r) ?h2 ?_); (case h2 => walk_at "kit"))
  | ((with_reducible refine x_isiT (xs := ?xs) (r := ?r) ?h1 ?h2 ?_); (case h1 => walk_at "hp"); (case h2 => walk_at "kit"))
  | ((with_reducible refine x_isiL (xs := ?xs) (r := ?r) ?h1 ?h2 ?_); (case h1 => walk_at "hp"); (case h2 => walk_at "kit"))
  | ((with_reducible refine x_isiD (xs := ?xs) (r := ?r) ?h1 ?h2 ?_); (case h1 => walk_at "hp"); (case h2 => walk_at "kit"))
  | ((with_reducible refine x_listOf (xs := ?xs) ?h1 ?_); (case h1 => walk_at "sq"))
  | ((with_reducible refine x_tupL (xs := ?xs) ?h1 ?_); (case h1 => walk_at "sq"))
  | with_reducible refine x_eqS ?_
  | with_reducible refine x_neS ?_
  | with_reducible refine x_eqB ?_
  | with_reducible refine x_neB ?_
  | with_reducible refine x_ltS ?_
  | with_reducible refine x_leS ?_
  | with_reducible refine x_rng1 ?_
  | with_reducible refine x_rng2 ?_
  | ((with_reducible refine x_rng1' ?h1 ?_); (case h1 => first | exact ⟨by decide, by decide⟩ | assumption | (constructor <;> omega) | fail "no way"))
  | with_reducible refine x_for ?_
  | with_reducible refine x_lc ?_
  | with_reducible refine x_lct ?_
  | ((with_reducible refine x_wip ?h1 ?_); (case h1 => rfl))
  | with_reducible refine x_tyes ?_
  | ((with_reducible refine x_acc (acc := ?acc) ?h1 ?h2 ?_); (case h1 => walk_at "hp"); (case h2 => walk_at "sz"))
  | with_reducible refine x_iList ?_
  | with_reducible refine x_iTup ?_
  | with_reducible refine x_sl ?_
  | with_reducible refine x_noP ?_
  | with_reducible refine x_part ?_
  | with_reducible refine x_int ?_
  | ((with_reducible refine x_slL (xs := ?xs) ?h1 ?_); (case h1 => walk_at "sq"))
  | with_reducible refine x_bm ?_
  | with_reducible refine x_bm0 ?_
  | with_reducible refine x_chain ?_
  | with_reducible refine x_dnew ?_
  | ((with_reducible refine x_slZ ?h1 ?_); (case h1 => walk_at "zs"))
  | with_reducible refine x_gtS ?_
  | with_reducible refine x_geS ?_
  | with_reducible refine x_tryAs ?_
  | with_reducible refine x_calS ?_
  | with_reducible refine x_raise0 ?_
  | with_reducible refine x_iStr ?_
  | with_reducible refine x_isStr ?_
  | with_reducible refine x_isB ?_
  | with_reducible refine x_notB ?_
  | with_reducible refine x_ckw ?_
  | ((with_reducible refine x_insert (xs := ?xs) ?h1 ?h2 ?h3 ?_); (case h1 => walk_at "hp"); (case h2 => walk_at "sz"); (case h3 => first | assumption | (constructor <;> omega) | fail "no way"))
  | ((with_reducible refine x_tyL (xs := ?xs) ?h1 ?_); (case h1 => walk_at "sq"))
  | with_reducible refine x_tyS ?_
  | ((with_reducible refine x_tyD (kvs := ?xs) ?h1 ?_); (case h1 => walk_at "hp"))
  | ((with_reducible refine x_append (xs := ?xs) ?h1 ?h2 ?_); (case h1 => walk_at "hp"); (case h2 => walk_at "sz"))
  | ((with_reducible refine x_lenAs (xs := ?xs) ?h1 ?_); (case h1 => walk_at "sq"))
  | ((with_reducible refine x_lenAz ?h1 ?_); (case h1 => walk_at "zs"))
  | ((with_reducible refine x_lenZ ?h1 ?_); (case h1 => walk_at "zs"))
  | ((with_reducible refine x_addTz ?h1 ?_); (case h1 => walk_at "za"))
  | ((with_reducible refine x_slXz ?h1 ?_); (case h1 => walk_at "zs"))
  | ((with_reducible refine x_ixAt (xs := ?xs) (v := ?v) ?h1 ?h2 ?_); (case h1 => walk_at "sq"); (case h2 => walk_at "ix"))
  | ((with_reducible refine x_ixAl (xs := ?xs) (v := ?v) ?h1 ?h2 ?_); (case h1 => walk_at "sq"); (case h2 => walk_at "ix"))
  | ((with_reducible refine x_ixAz (c := ?c) ?h1 ?h2 ?_); (case h1 => walk_at "zs"); (case h2 => walk_at "ix"))
  | with_reducible refine x_brk ?_
  | with_reducible refine x_cont ?_
  | ((with_reducible refine x_yes ?h1 ?_); (case h1 => decide))
  | ((with_reducible refine x_no ?h1 ?_); (case h1 => decide))
  | fail "no way")
local macro_rules | `(tactic| walk_at "rd") => `(tactic| first | (walk_at "rd1"; walk_at "rd") | skip)
-- the def top 21
theorem sc_law_pull : FnScope ["_law_well_here", "_law_many", "_law_first", "_law_second", "_law_found"] ["_law_well_here", "_law_many"] (defScope s_law_pull) := ⟨rfl, rfl, rfl, by decide +kernel, rfl, by decide +kernel, by decide +kernel⟩
/-- a number below m; only the well changes -/
def B_law_pull : BK2 := fun wl mm H Q _ => ∃ (a : Addr) (m : Int), wl = .ref a ∧ mm = .int m ∧ 0 < m ∧ m.natAbs.log2 < 9000 ∧ Well H a ∧
  ∀ r H', Fr (One a) H H' → Well H' a → 0 ≤ r → r < m → Q (.int r) H'
section
variable {P : Program} {w : World} {K : PySem.W.Frag} {mg : Str → Option Value} {base : Heap}
theorem ok_law_pull (T : TX K mg) : CalX P w K mg base 1 "_law_pull" ["_law_well_here", "_law_many"] (Sp2 (B_law_pull)) := by
  obtain ⟨f, fd, F, hm, bd⟩ := T.d_law_pull.ex
  refine ⟨f, fd, F.okX sc_law_pull len2 (fun cdv A outer s H vs Q E hr h => ?_), hm, F.kp, bd⟩
  obtain ⟨wl, mm, rfl, h⟩ := h
  refine ⟨_, (pss_cons (ps_if (pt_cmpR op_eq (pe_ix ix_list (pv 0) pe_int (fun _ _ => rfl)) pe_int (nomark _)) (pss_one (ps_ret pe_int)) pss_nil) (pss_cons (ps_asg (pe_op op_sub (pe_ix ix_list (pv 0) pe_int (fun _ _ => rfl)) pe_int) (pg_sub (pv 0) pe_int set_list)) (pss_cons (ps_if (pt_cmpR op_gt (pe_ix ix_list (pv 0) pe_int (fun _ _ => rfl)) pe_int (nomark _)) (pss_cons (ps_set (i := 4) sc_law_pull.nd rfl (Or.inl rfl) (pe_op op_mod (pe_ix ix_list (pv 0) pe_int (fun _ _ => rfl)) (pv 1))) (pss_cons (ps_asg (pe_op op_fdivW (pe_ix ix_list (pv 0) pe_int (fun _ _ => rfl)) (pv 1)) (pg_sub (pv 0) pe_int set_list)) (pss_one (ps_ret (pv 4))))) pss_nil) (pss_cons (ps_asg (pe_op op_add (pe_ix ix_list (pv 0) pe_int (fun _ _ => rfl)) pe_int) (pg_sub (pv 0) pe_int set_list)) (pss_cons (ps_set (i := 2) sc_law_pull.nd rfl (Or.inl rfl) (pe_op op_mod (pe_op op_mul (pe_op op_add (pe_ix ix_list (pv 0) pe_int (fun _ _ => rfl)) pe_int) (pe_op op_add pe_int (pe_op op_mul pe_int (pe_ix ix_list (pv 0) pe_int (fun _ _ => rfl))))) pe_int)) (pss_cons (ps_set (i := 3) sc_law_pull.nd rfl (Or.inl rfl) (pe_op op_mod (pe_op op_mul (pe_op op_add (pe_op op_fdivW (pv 2) pe_int) pe_int) (pe_op op_add (pe_op op_mod (pv 2) pe_int) pe_int)) pe_int)) (pss_one (ps_ret (pe_op op_mod (pe_op op_fdivW (pv 3) pe_int) (pv 1)))))))))), ?_⟩
  show (_ : TS) _ [some wl, some mm, none, none, none] H
  first | dsimp only [L2.cxOf] | skip
  obtain ⟨a, m, rfl, rfl, hm0, hml, ⟨c, n, g, l, hL, hc0, hc1⟩, q⟩ := h
  walk_at "rd"
  refine x_dec (fun _ => ?_) (fun _ => ?_)
  · walk_at "rd"
    exact q _ _ (Fr.refl _) ⟨c, n, g, l, hL, hc0, hc1⟩ (by omega) hm0
  · walk_at "rd"
    refine x_dec (fun _ => ?_) (fun _ => ?_)
    · walk_at "rd"
      exact q _ _ (by walk_at "fr") ⟨_, _, _, _, upd_same, hc0, hc1⟩ (Int.emod_nonneg _ (by omega)) (Int.emod_lt_of_pos _ hm0)
    · walk_at "rd"
      exact q _ _ (by walk_at "fr") ⟨_, _, _, _, upd_same, hc0, hc1⟩ (Int.emod_nonneg _ (by omega)) (Int.emod_lt_of_pos _ hm0)
end

-- the def top 23
theorem sc_law_text : FnScope ["_law_well_here", "_law_signs", "_law_text_here", "_law_plain", "_law_j", "_law_sign"] ["_law_well_here"] (defScope s_law_text) := ⟨rfl, rfl, rfl, by decide +kernel, rfl, by decide +kernel, by decide +kernel⟩
def B_law_text : BK1 := fun wl H Q _ => ∃ (a : Addr), wl = .ref a ∧ Well H a ∧
  ∀ z H', Fr (One a) H H' → Well H' a → txtOk z → Q (.str z) H'
section
variable {P : Program} {w : World} {K : PySem.W.Frag} {mg : Str → Option Value} {base : Heap}
theorem ok_law_text (T : TX K mg) : CalX P w K mg base 2 "_law_text" ["_law_well_here"] (Sp1 (B_law_text)) := by
  have C_law_pull := ok_law_pull (P := P) (w := w) (base := base) T
  obtain ⟨f, fd, F, hm, bd⟩ := T.d_law_text.ex
  refine ⟨f, fd, F.okX sc_law_text len1 (fun cdv A outer s H vs Q E hr h => ?_), hm, F.kp, bd⟩
  obtain ⟨wl, rfl, h⟩ := h
  refine ⟨_, (pss_cons (ps_set (i := 1) sc_law_text.nd rfl (Or.inl rfl) pe_str) (pss_cons (ps_set (i := 2) sc_law_text.nd rfl (Or.inl rfl) pe_str) (pss_cons (ps_set (i := 3) sc_law_text.nd rfl (Or.inl rfl) (pcall C_law_pull hr (by first | decide | omega) rfl Passes.none (pa_cons (pv 0) (pa_cons pe_int pa_nil)))) (pss_cons (ps_for (passes_of rfl) rfl (pi_range1 rfl T.b_range (pa_cons (pcall C_law_pull hr (by first | decide | omega) rfl Passes.none (pa_cons (pv 0) (pa_cons (pe_ix ix_list (pe_lst (pa_cons pe_int (pa_cons pe_int pa_nil))) (pcall C_law_pull hr (by first | decide | omega) rfl Passes.none (pa_cons (pv 0) (pa_cons pe_int pa_nil))) (fun _ _ => rfl)) pa_nil))) pa_nil)) (pg_name (i := 4) sc_law_text.nd rfl (Or.inl rfl)) (pss_cons (ps_set (i := 5) sc_law_text.nd rfl (Or.inl rfl) pe_str) (pss_cons (ps_if (PW.pt (pw_or (pt_cmpR op_gt (pv 3) pe_int (nomark _)) (pw_or1 (pt_cmpR op_eq (pcall C_law_pull hr (by first | decide | omega) rfl Passes.none (pa_cons (pv 0) (pa_cons pe_int pa_nil))) pe_int (nomark _))))) (pss_one (ps_set (i := 5) sc_law_text.nd rfl (Or.inl rfl) (pe_ix ix_str (pv 1) (pcall C_law_pull hr (by first | decide | omega) rfl Passes.none (pa_cons (pv 0) (pa_cons (pe_ix ix_list (pe_lst (pa_cons pe_int (pa_cons pe_int pa_nil))) (pe_op op_fdivW (pv 3) pe_int) (fun _ _ => rfl)) pa_nil))) (fun _ _ => rfl)))) pss_nil) (pss_one (ps_set (i := 2) sc_law_text.nd rfl (Or.inl rfl) (pe_op o_addS (pv 2) (pv 5))))))) (pss_one (ps_ret (pv 2))))))), ?_⟩
  show (_ : TS) _ [some wl, none, none, none, none, none] H
  first | dsimp only [L2.cxOf] | skip
  obtain ⟨a, rfl, W, q⟩ := h
  have hsl : (strIn s_law_text).length = 94 := by decide +kernel
  have hsc : ∀ c ∈ (strIn s_law_text).cps.toList, 32 ≤ c ∧ c ≤ 126 := by decide +kernel
  have hix : ∀ r : Int, 0 ≤ r → r < 94 → ∃ c, atI (strIn s_law_text).cps.toList r = some c ∧ (32 ≤ c ∧ c ≤ 126) := fun r h0 h1 => by
    obtain ⟨c, e1, e2⟩ := atI_ex (xs := (strIn s_law_text).cps.toList) h0 (by rw [← str_len, hsl]; exact h1)
    exact ⟨c, e1, hsc c (List.mem_of_getElem? e2)⟩
  have hsz : (strIn s_law_text).length ≤ sizeLine := by rw [hsl]; decide
  have hpick : ∀ (x y r : Int), 0 ≤ r → r < 2 → ∃ z, atI [V.int x, V.int y] r = some (V.int z) ∧ (z = x ∨ z = y) := fun x y r h0 h1 => by
    obtain rfl | rfl : r = 0 ∨ r = 1 := by omega
    · exact ⟨x, rfl, .inl rfl⟩
    · exact ⟨y, rfl, .inr rfl⟩
  walk_at "rd"
  refine ⟨a, _, rfl, rfl, by decide, by decide +kernel, W, fun pl H1 f1 w1 p0 p1 => ?_⟩
  walk_at "rd"
  intro l1 n1
  walk_at "rd"
  refine ⟨a, _, rfl, rfl, by decide, by decide +kernel, w1.fr (Fr.new (S := Non) (Fr.refl _) n1) id, fun r2 H2 f2 w2 r20 r21 => ?_⟩
  obtain ⟨m, hm1, hm2⟩ := hpick 4 41 r2 r20 r21
  walk_at "rd"
  refine ⟨a, _, rfl, rfl, by omega, (PullOk.small (by omega) (by omega)).2, w2, fun r3 H3 f3 w3 r30 r31 => ?_⟩
  walk_at "rd"
  refine x_forR (n := r3.toNat) (fun i σ H' => ∃ (z : Str) (v u : Option V), σ = [some (.ref a), some (.str (strIn s_law_text)), some (.str z), some (.int pl), v, u] ∧ Fr (One a) H H' ∧ Well H' a ∧ z.length ≤ i ∧ ∀ c ∈ z.cps.toList, 32 ≤ c ∧ c ≤ 126)
    ⟨_, none, none, rfl, by walk_at "fr", w3, Nat.le_refl _, fun c h => nomatch h⟩ ?_ ?_
  · rintro i σ H4 hi ⟨z, v, u, rfl, f4, w4, hz1, hz2⟩
    have hi40 : i < 40 := by omega
    have hpl : ∃ m : Int, atI [V.int 94, V.int 5] (pl / 2) = some (V.int m) ∧ (m = 94 ∨ m = 5) := hpick 94 5 (pl / 2) (by omega) (by omega)
    obtain ⟨m2, hm3, hm4⟩ := hpl
    walk_at "rd"
    refine x_dec (fun _ => ?b1) (fun _ => ?b2)
    case b2 =>
      walk_at "rd"
      refine ⟨a, _, rfl, rfl, by decide, by decide +kernel, w4, fun r4 H5 f5 w5 r40 r41 => ?_⟩
      walk_at "rd"
      refine x_dec (fun _ => ?b3) (fun _ => ?b4)
      case b3 =>
        have f6 := f4.trans f5
        have w6 := w5
        walk_at "rd"
        intro l2 n2
        walk_at "rd"
        refine ⟨a, _, rfl, rfl, by omega, (PullOk.small (by omega) (by omega)).2, w6.fr (Fr.new (S := Non) (Fr.refl _) n2) id, fun r7 H7 f7 w7 r70 r71 => ?_⟩
        obtain ⟨c, hc1, hc2⟩ := hix r7 r70 (by omega)
        walk_at "rd"
        obtain ⟨t1, t2⟩ := txt_app hz1 hz2 hc2
        exact ⟨_, _, _, rfl, by walk_at "fr", w7, t1, t2⟩
      case b4 =>
        walk_at "rd"
        obtain ⟨t1, t2⟩ := txt_app (c := 97) hz1 hz2 (by decide)
        exact ⟨_, _, _, rfl, f4.trans f5, w5, t1, t2⟩
    case b1 =>
      have f6 := f4
      have w6 := w4
      walk_at "rd"
      intro l2 n2
      walk_at "rd"
      refine ⟨a, _, rfl, rfl, by omega, (PullOk.small (by omega) (by omega)).2, w6.fr (Fr.new (S := Non) (Fr.refl _) n2) id, fun r7 H7 f7 w7 r70 r71 => ?_⟩
      obtain ⟨c, hc1, hc2⟩ := hix r7 r70 (by omega)
      walk_at "rd"
      obtain ⟨t1, t2⟩ := txt_app hz1 hz2 hc2
      exact ⟨_, _, _, rfl, by walk_at "fr", w7, t1, t2⟩
  · rintro σ H4 ⟨z, v, u, rfl, f4, w4, hz1, hz2⟩
    walk_at "rd"
    exact q _ _ f4 w4 ⟨by omega, hz2⟩
end

-- the def top 22
theorem sc_law_great : FnScope ["_law_well_here", "_law_bound", "_law_found", "_law_j"] ["_law_well_here", "_law_bound"] (defScope s_law_great) := ⟨rfl, rfl, rfl, by decide +kernel, rfl, by decide +kernel, by decide +kernel⟩
def B_law_great : BK2 := fun wl mm H Q _ => ∃ (a : Addr) (m : Int), wl = .ref a ∧ mm = .int m ∧ 0 < m ∧ m.natAbs.log2 < 9000 ∧ Well H a ∧
  ∀ r H', Fr (One a) H H' → Well H' a → 0 ≤ r → r < m → Q (.int r) H'
section
variable {P : Program} {w : World} {K : PySem.W.Frag} {mg : Str → Option Value} {base : Heap}
theorem ok_law_great (T : TX K mg) : CalX P w K mg base 2 "_law_great" ["_law_well_here", "_law_bound"] (Sp2 (B_law_great)) := by
  have C_law_pull := ok_law_pull (P := P) (w := w) (base := base) T
  obtain ⟨f, fd, F, hm, bd⟩ := T.d_law_great.ex
  refine ⟨f, fd, F.okX sc_law_great len2 (fun cdv A outer s H vs Q E hr h => ?_), hm, F.kp, bd⟩
  obtain ⟨wl, bd, rfl, h⟩ := h
  refine ⟨_, (pss_cons (ps_if (pt_cmpR op_gt (pe_ix ix_list (pv 0) pe_int (fun _ _ => rfl)) pe_int (nomark _)) (pss_one (ps_ret (pcall C_law_pull hr (by first | decide | omega) rfl Passes.none (pa_cons (pv 0) (pa_cons (pv 1) pa_nil))))) pss_nil) (pss_cons (ps_set (i := 2) sc_law_great.nd rfl (Or.inl rfl) pe_int) (pss_cons (ps_for (passes_of rfl) rfl (pi_range1 rfl T.b_range (pa_cons pe_int pa_nil)) (pg_name (i := 3) sc_law_great.nd rfl (Or.inl rfl)) (pss_one (ps_set (i := 2) sc_law_great.nd rfl (Or.inl rfl) (pe_op op_add (pe_op op_mul (pv 2) pe_int) (pcall C_law_pull hr (by first | decide | omega) rfl Passes.none (pa_cons (pv 0) (pa_cons pe_int pa_nil))))))) (pss_one (ps_ret (pe_op op_mod (pv 2) (pv 1))))))), ?_⟩
  show (_ : TS) _ [some wl, some bd, none, none] H
  first | dsimp only [L2.cxOf] | skip
  obtain ⟨a, m, rfl, rfl, hm0, hml, W, q⟩ := h
  obtain ⟨c, n, g, l, hL, hc0, hc1⟩ := id W
  walk_at "rd"
  refine x_dec (fun _ => ?_) (fun _ => ?_)
  · walk_at "rd"
    exact ⟨a, m, rfl, rfl, hm0, hml, W, q⟩
  · walk_at "rd"
    refine x_forR (n := 8) (fun i σ H' => ∃ (z : Int) (v : Option V), σ = [some (.ref a), some (.int m), some (.int z), v] ∧ Fr (One a) H H' ∧ Well H' a ∧ 0 ≤ z) ⟨0, none, rfl, Fr.refl _, W, by omega⟩ ?_ ?_
    · rintro i σ H1 hi ⟨z, v, rfl, f1, w1, hz⟩
      walk_at "rd"
      refine ⟨a, _, rfl, rfl, by decide, by decide +kernel, w1, fun r H2 f2 w2 h0 h1 => ?_⟩
      walk_at "rd"
      exact ⟨_, _, rfl, f1.trans f2, w2, by omega⟩
    · rintro σ H1 ⟨z, v, rfl, f1, w1, hz⟩
      walk_at "rd"
      exact q _ _ f1 w1 (Int.emod_nonneg _ (by omega)) (Int.emod_lt_of_pos _ hm0)
end

-- the def top 24
theorem sc_law_key : FnScope ["_law_well_here", "_law_room", "_law_way", "_law_j"] ["_law_well_here", "_law_room"] (defScope s_law_key) := ⟨rfl, rfl, rfl, by decide +kernel, rfl, by decide +kernel, by decide +kernel⟩
/-- any key in which no more tuples than r lie within one another -/
def B_law_key (r : Nat) : BK2 := fun wl rm H Q _ => ∃ (a : Addr), wl = .ref a ∧ rm = .int (r : Int) ∧ Well H a ∧
  ∀ v d H', Fr (One a) H H' → Well H' a → Dt H' v d → isK r d → Q v H'
section
variable {P : Program} {w : World} {K : PySem.W.Frag} {mg : Str → Option Value} {base : Heap}
theorem step_law_key (T : TX K mg) (r k : Nat) (spR : Sp) (hR : ∀ r1, r = r1 + 1 → ∀ vs H Q E, Sp2 (B_law_key r1) vs H Q E → spR vs H Q E) (C_law_key : CalX P w K mg base k "_law_key" ["_law_well_here", "_law_room"] spR) (hk : 2 ≤ k) : CalX P w K mg base (k + 1) "_law_key" ["_law_well_here", "_law_room"] (Sp2 (B_law_key r)) := by
  have C_law_pull := ok_law_pull (P := P) (w := w) (base := base) T
  have C_law_text := ok_law_text (P := P) (w := w) (base := base) T
  have C_law_great := ok_law_great (P := P) (w := w) (base := base) T
  obtain ⟨f, fd, F, hm, bd⟩ := T.d_law_key.ex
  refine ⟨f, fd, F.okX sc_law_key len2 (fun cdv A outer s H vs Q E hr h => ?_), hm, F.kp, bd⟩
  obtain ⟨wl, rm, rfl, h⟩ := h
  refine ⟨_, (pss_cons (ps_set (i := 2) sc_law_key.nd rfl (Or.inl rfl) (pcall C_law_pull hr (by first | decide | omega) rfl Passes.none (pa_cons (pv 0) (pa_cons pe_int pa_nil)))) (pss_cons (ps_if (pt_cmpR op_lt (pv 2) pe_int (nomark _)) (pss_one (ps_ret (pe_op op_sub (pcall C_law_pull hr (by first | decide | omega) rfl Passes.none (pa_cons (pv 0) (pa_cons pe_int pa_nil))) pe_int))) pss_nil) (pss_cons (ps_if (pt_cmpR op_eq (pv 2) pe_int (nomark _)) (pss_one (ps_ret (pe_op op_add (pe_op op_sub (pcall C_law_great hr (by first | decide | omega) rfl Passes.none (pa_cons (pv 0) (pa_cons (pe_op op_sub (pe_op op_mul pe_int (pe_op op_pow pe_int pe_int)) pe_int) pa_nil))) (pe_op op_pow pe_int pe_int)) pe_int))) pss_nil) (pss_cons (ps_if (PW.pt (pw_or (pt_cmpR op_lt (pv 2) pe_int (nomark _)) (pw_or1 (pt_cmpR op_eq (pv 1) pe_int (nomark _))))) (pss_one (ps_ret (pcall C_law_text hr (by first | decide | omega) rfl Passes.none (pa_cons (pv 0) pa_nil)))) pss_nil) (pss_one (ps_ret (pe_callTy c_tupOf (by rfl) T.b_tuple (by decide +kernel) (pa_cons (pe_lc (own := [("_law_j", 3)]) (g := gName 3) (tt := tYes) rfl sc_law_key.nd (pi_range1 rfl T.b_range (pa_cons (pcall C_law_pull hr (by first | decide | omega) rfl Passes.none (pa_cons (pv 0) (pa_cons pe_int pa_nil))) pa_nil)) (blkOk_by (N := ["_law_well_here", "_law_room", "_law_way", "_law_j"]) (sc := defScope s_law_key) (own := [("_law_j", 3)]) (by decide +kernel)) (fun _ _ _ _ _ => pg_name (i := 3) sc_law_key.nd rfl (by first | exact Or.inl rfl | exact Or.inr rfl)) (fun _ _ _ _ _ => pts_nil) (fun _ _ _ _ _ => (pcall C_law_key hr (by first | decide | omega) rfl Passes.none (pa_cons (pv 0) (pa_cons (pe_op op_sub (pv 1) pe_int) pa_nil))))) pa_nil)))))))), ?_⟩
  show (_ : TS) _ [some wl, some rm, none, none] H
  first | dsimp only [L2.cxOf] | skip
  obtain ⟨a, rfl, rfl, W, q⟩ := h
  walk_at "rd"
  refine ⟨a, _, rfl, rfl, by decide, by decide +kernel, W, fun wy H1 f1 w1 y0 y1 => ?_⟩
  walk_at "rd"
  refine x_dec (fun _ => ?_) (fun _ => ?_)
  · walk_at "rd"
    refine ⟨a, _, rfl, rfl, by decide, by decide +kernel, w1, fun z H2 f2 w2 z0 z1 => ?_⟩
    walk_at "rd"
    refine q _ _ _ (f1.trans f2) w2 (.int _) ?_
    rw [isK_int]
    have e : (10 : Int) ^ 60 > 100 := by decide
    exact ⟨by omega, by omega⟩
  · walk_at "rd"
    refine x_dec (fun _ => ?_) (fun _ => ?_)
    · walk_at "rd"
      refine ⟨a, _, rfl, rfl, by decide, by decide +kernel, w1, fun z H2 f2 w2 z0 z1 => ?_⟩
      walk_at "rd"
      refine q _ _ _ (f1.trans f2) w2 (.int _) ?_
      rw [isK_int]
      show -((10 : Int) ^ 60) < z - (10 : Int) ^ 60 + 1 ∧ z - (10 : Int) ^ 60 + 1 < (10 : Int) ^ 60
      have z1' : z < 2 * (10 : Int) ^ 60 - 1 := z1
      generalize (10 : Int) ^ 60 = t at z1' ⊢
      exact ⟨by omega, by omega⟩
    · walk_at "rd"
      refine x_dec (fun _ => ?_) (fun _ => ?_)
      · walk_at "rd"
        exact ⟨a, rfl, w1, fun z H2 f2 w2 hz => q _ _ _ (f1.trans f2) w2 (.str _) (by rw [isK_str]; exact hz)⟩
      · walk_at "rd"
        refine x_dec (fun h0 => ?_) (fun h0 => ?_)
        · walk_at "rd"
          exact ⟨a, rfl, w1, fun z H2 f2 w2 hz => q _ _ _ (f1.trans f2) w2 (.str _) (by rw [isK_str]; exact hz)⟩
        · obtain ⟨r1, rfl⟩ : ∃ r1, r = r1 + 1 := ⟨r - 1, by omega⟩
          walk_at "rd"
          refine ⟨a, _, rfl, rfl, by decide, by decide +kernel, w1, fun m H2 f2 w2 m0 m1 => ?_⟩
          walk_at "rd"
          intro D nD
          have nD0 : Fresh H D := f1.free (f2.free nD)
          refine x_lcR (n := m.toNat) (fun i H' => ∃ acc ds, H' D = some (.lst acc) ∧ DtAll H' acc ds ∧ acc.length = i ∧ (∀ d ∈ ds, isK r1 d) ∧ Fr (One a) H H' ∧ Well H' a) ⟨[], [], upd_same, .nil, rfl, List.forall_mem_nil _, by walk_at "fr", by walk_at "we"⟩ ?_ ?_
          · rintro i H3 hi ⟨acc, ds, hD, hds, hl, hk1, f3, w3⟩
            walk_at "rd"
            refine hR r1 rfl _ _ _ _ ?_
            walk_at "rd"
            refine ⟨a, rfl, congrArg V.int (by omega), w3, fun v d H4 f4 w4 hd hk4 => ?_⟩
            walk_at "rd"
            refine ⟨acc ++ [v], ds ++ [d], upd_same, ?_, by rw [List.length_append, hl]; rfl, ?_, ?_, ?_⟩
            · exact DtAll.app (by walk_at "dt") (DtAll.one (by walk_at "dt"))
            · intro d' hd'
              rcases List.mem_append.mp hd' with hd' | hd'
              · exact hk1 d' hd'
              · rw [List.mem_singleton] at hd'; subst hd'; exact hk4
            · walk_at "fr"
            · walk_at "we"
          · rintro H3 ⟨acc, ds, hD, hds, hl, hk1, f3, w3⟩
            walk_at "rd"
            intro l nl
            refine q _ _ _ (by walk_at "fr") (by walk_at "we") (.tup upd_same (hds.upd nl)) ?_
            rw [isK_tup, ← hds.length, hl]
            exact ⟨by omega, hk1⟩
theorem ok_law_key (T : TX K mg) : ∀ r : Nat, CalX P w K mg base (3 + r) "_law_key" ["_law_well_here", "_law_room"] (Sp2 (B_law_key r))
  | 0 => step_law_key T 0 2 _ (fun _ e => nomatch e) (CalX.never T.d_law_key sc_law_key (by decide)) (Nat.le_refl _)
  | r + 1 => step_law_key T (r + 1) (3 + r) _ (fun r1 e => by cases e; exact fun _ _ _ _ h => h) (ok_law_key T r) (by omega)
end

-- the def top 27
theorem sc_law_odd : FnScope ["_law_well_here", "_law_foreign", "_law_text_here", "_law_far", "_law_some"] ["_law_well_here"] (defScope s_law_odd) := ⟨rfl, rfl, rfl, by decide +kernel, rfl, by decide +kernel, by decide +kernel⟩
def B_law_odd : BK1 := fun wl H Q _ => ∃ (a : Addr), wl = .ref a ∧ Well H a ∧
  ∀ v d H', Fr (One a) H H' → Well H' a → TgS (Old H) H' v d → txtSmall d → Q v H'
section
variable {P : Program} {w : World} {K : PySem.W.Frag} {mg : Str → Option Value} {base : Heap}
theorem ok_law_odd (T : TX K mg) : CalX P w K mg base 3 "_law_odd" ["_law_well_here"] (Sp1 (B_law_odd)) := by
  have C_law_pull := ok_law_pull (P := P) (w := w) (base := base) T
  have C_law_text := ok_law_text (P := P) (w := w) (base := base) T
  have C_law_great := ok_law_great (P := P) (w := w) (base := base) T
  obtain ⟨f, fd, F, hm, bd⟩ := T.d_law_odd.ex
  refine ⟨f, fd, F.okX sc_law_odd len1 (fun cdv A outer s H vs Q E hr h => ?_), hm, F.kp, bd⟩
  obtain ⟨wl, rfl, h⟩ := h
  refine ⟨_, (pss_cons (ps_set (i := 1) sc_law_odd.nd rfl (Or.inl rfl) (pe_ix ix_list (pe_lst (pa_cons pe_str (pa_cons pe_str pa_nil))) (pcall C_law_pull hr (by first | decide | omega) rfl Passes.none (pa_cons (pv 0) (pa_cons pe_int pa_nil))) (fun _ _ => rfl))) (pss_cons (ps_set (i := 2) sc_law_odd.nd rfl (Or.inl rfl) (pe_slice sl_str (pcall C_law_text hr (by first | decide | omega) rfl Passes.none (pa_cons (pv 0) pa_nil)) po_none (po_some pe_int))) (pss_cons (ps_set (i := 3) sc_law_odd.nd rfl (Or.inl rfl) (pe_op op_add (pe_op op_pow pe_int pe_int) (pe_op op_mul (pcall C_law_great hr (by first | decide | omega) rfl Passes.none (pa_cons (pv 0) (pa_cons (pe_op op_pow pe_int pe_int) pa_nil))) (pcall C_law_pull hr (by first | decide | omega) rfl Passes.none (pa_cons (pv 0) (pa_cons pe_int pa_nil)))))) (pss_cons (ps_set (i := 4) sc_law_odd.nd rfl (Or.inl rfl) (pe_lst (pa_cons (pv 3) (pa_cons (pe_un un_neg (pv 3)) (pa_cons pe_bl (pa_cons pe_bl (pa_cons pe_non (pa_cons (pe_lst pa_nil) (pa_cons (pe_lst (pa_cons pe_int pa_nil)) (pa_cons pe_dnewK (pa_cons (pe_op o_mulS pe_str (pe_op op_add pe_int (pcall C_law_pull hr (by first | decide | omega) rfl Passes.none (pa_cons (pv 0) (pa_cons pe_int pa_nil))))) (pa_cons (pe_op o_addS (pv 2) (pv 1)) pa_nil)))))))))))) (pss_cons (ps_set (i := 4) sc_law_odd.nd rfl (Or.inl rfl) (pe_op op_cat (pv 4) (pe_lst (pa_cons (pe_op o_addS (pv 1) (pv 2)) (pa_cons (pe_tup (pa_cons pe_int (pa_cons pe_int (pa_cons pe_int (pa_cons pe_int (pa_cons pe_int pa_nil)))))) (pa_cons (pe_tup (pa_cons (pe_tup (pa_cons (pe_tup (pa_cons (pe_tup pa_nil) pa_nil)) pa_nil)) pa_nil)) (pa_cons (pe_tup (pa_cons (pe_tup (pa_cons (pe_tup (pa_cons (pe_tup (pa_cons pe_int pa_nil)) (pa_cons pe_int pa_nil))) pa_nil)) pa_nil)) (pa_cons (pe_tup (pa_cons (pe_op o_mulS pe_str pe_int) pa_nil)) (pa_cons (pe_tup (pa_cons pe_int (pa_cons (pe_tup (pa_cons pe_bl pa_nil)) pa_nil))) pa_nil))))))))) (pss_one (ps_ret (pe_ix ix_list (pv 4) (pcall C_law_pull hr (by first | decide | omega) rfl Passes.none (pa_cons (pv 0) (pa_cons pe_int pa_nil))) (fun _ _ => rfl))))))))), ?_⟩
  show (_ : TS) _ [some wl, none, none, none, none] H
  first | dsimp only [L2.cxOf] | skip
  obtain ⟨a, rfl, W, q⟩ := h
  walk_at "rd"
  intro p1 n1
  walk_at "rd"
  refine ⟨a, _, rfl, rfl, by decide, by decide +kernel, by walk_at "we", fun r2 H2 f2 w2 r20 r21 => ?_⟩
  have hp1 : H2 p1 = some (.lst [.str (Str.ofString "\n"), .str (Str.ofString "\t")]) := f2.keep _ _ upd_same (not_One (Well.ne W n1))
  have f02 : Fr (One a) H H2 := by walk_at "fr"
  obtain ⟨fo, hfo, ho1, ho2⟩ : ∃ z : Str, atI [V.str (Str.ofString "\n"), V.str (Str.ofString "\t")] r2 = some (.str z) ∧ z.length = 1 ∧ PyData.strOk z = true := by
    obtain rfl | rfl : r2 = 0 ∨ r2 = 1 := by omega
    · exact ⟨_, rfl, by decide +kernel, by decide +kernel⟩
    · exact ⟨_, rfl, by decide +kernel, by decide +kernel⟩
  walk_at "rd"
  refine ⟨a, rfl, w2, fun z3 H3 f3 w3 hz3 => ?_⟩
  have hz31 := hz3.1
  walk_at "rd"
  have hcl : (cutS z3 none (some 39)).length ≤ 40 := Nat.le_trans (cutS_length z3 _ _) hz3.1
  have hco : PyData.strOk (cutS z3 none (some 39)) = true := strOk_of fun c hc => by
    have := hz3.2 c (cutS_mem hc)
    omega
  generalize cutS z3 none (some 39) = tx at hcl hco ⊢
  walk_at "rd"
  refine ⟨a, _, rfl, rfl, by decide, by decide +kernel, w3, fun g H4 f4 w4 g0 g1 => ?_⟩
  walk_at "rd"
  refine ⟨a, _, rfl, rfl, by decide, by decide +kernel, w4, fun m H5 f5 w5 m0 m1 => ?_⟩
  have f05 : Fr (One a) H H5 := ((f02.trans f3).trans f4).trans f5
  walk_at "rd"
  generalize (10 : Int) ^ Int.toNat 60 + g * m = far
  intro pl npl
  walk_at "rd"
  intro p2 np2
  walk_at "rd"
  intro p3 np3
  walk_at "rd"
  have wA : Well (upd (upd (upd H5 pl (.lst [])) p2 (.lst [.int 1])) p3 (.dK [])) a := by walk_at "we"
  have fA : Fr (One a) H (upd (upd (upd H5 pl (.lst [])) p2 (.lst [.int 1])) p3 (.dK [])) := by walk_at "fr"
  have t1 : TgS (Old H) (upd (upd (upd H5 pl (.lst [])) p2 (.lst [.int 1])) p3 (.dK [])) (.ref pl) (.list []) := .lst (by walk_at "hp") (fun h => h (f05.free npl))
  have t2 : TgS (Old H) (upd (upd (upd H5 pl (.lst [])) p2 (.lst [.int 1])) p3 (.dK [])) (.ref p2) (.list []) := .lst (by walk_at "hp") (fun h => h (f05.free (upd_back np2)))
  have t3 : TgS (Old H) (upd (upd (upd H5 pl (.lst [])) p2 (.lst [.int 1])) p3 (.dK [])) (.ref p3) (.dict []) := .dct upd_same (fun h => h (f05.free (upd_back (upd_back np3))))
  generalize upd (upd (upd H5 pl (.lst [])) p2 (.lst [.int 1])) p3 (.dK []) = H6 at wA fA t1 t2 t3 ⊢
  walk_at "rd"
  refine ⟨a, _, rfl, rfl, by decide, by decide +kernel, wA, fun r7 H7 f7 w7 r70 r71 => ?_⟩
  have f07 : Fr (One a) H H7 := fA.trans f7
  have t1 := t1.mono (f7.sub W.old) _ _
  have t2 := t2.mono (f7.sub W.old) _ _
  have t3 := t3.mono (f7.sub W.old) _ _
  walk_at "rd"
  refine x_mulS (by decide +kernel) ⟨by omega, by omega⟩ fun aa la ma => ?_
  have oa : PyData.strOk aa = true := strOk_of fun c hc => strOk_mem (show PyData.strOk (Str.ofString "a") = true by decide +kernel) c (ma c hc)
  walk_at "rd"
  intro p8 np8
  have t1_H8 : TgS (Old H) (upd H7 p8 (.lst [.int far, .int (-far), .bl true, .bl false, .non, .ref pl, .ref p2, .ref p3, .str aa, .str (tx ++ fo)])) (.ref pl) (.list []) := (t1.new np8)
  have t2_H8 : TgS (Old H) (upd H7 p8 (.lst [.int far, .int (-far), .bl true, .bl false, .non, .ref pl, .ref p2, .ref p3, .str aa, .str (tx ++ fo)])) (.ref p2) (.list []) := (t2.new np8)
  have t3_H8 : TgS (Old H) (upd H7 p8 (.lst [.int far, .int (-far), .bl true, .bl false, .non, .ref pl, .ref p2, .ref p3, .str aa, .str (tx ++ fo)])) (.ref p3) (.dict []) := (t3.new np8)
  have e8_H8 : (upd H7 p8 (.lst [.int far, .int (-far), .bl true, .bl false, .non, .ref pl, .ref p2, .ref p3, .str aa, .str (tx ++ fo)])) p8 = some (.lst [.int far, .int (-far), .bl true, .bl false, .non, .ref pl, .ref p2, .ref p3, .str aa, .str (tx ++ fo)]) := upd_same
  have w_H8 : Well (upd H7 p8 (.lst [.int far, .int (-far), .bl true, .bl false, .non, .ref pl, .ref p2, .ref p3, .str aa, .str (tx ++ fo)])) a := (w7.new np8)
  have f_H8 : Fr (One a) H (upd H7 p8 (.lst [.int far, .int (-far), .bl true, .bl false, .non, .ref pl, .ref p2, .ref p3, .str aa, .str (tx ++ fo)])) := (Fr.new f07 np8)
  generalize (upd H7 p8 (.lst [.int far, .int (-far), .bl true, .bl false, .non, .ref pl, .ref p2, .ref p3, .str aa, .str (tx ++ fo)])) = H8 at t1_H8 t2_H8 t3_H8 e8_H8 w_H8 f_H8 ⊢
  walk_at "rd"
  intro p9 np9
  have t1_H9 : TgS (Old H) (upd H8 p9 (.tup [.int 1, .int 2, .int 3, .int 4, .int 5])) (.ref pl) (.list []) := (t1_H8.new np9)
  have t2_H9 : TgS (Old H) (upd H8 p9 (.tup [.int 1, .int 2, .int 3, .int 4, .int 5])) (.ref p2) (.list []) := (t2_H8.new np9)
  have t3_H9 : TgS (Old H) (upd H8 p9 (.tup [.int 1, .int 2, .int 3, .int 4, .int 5])) (.ref p3) (.dict []) := (t3_H8.new np9)
  have t4_H9 : TgS (Old H) (upd H8 p9 (.tup [.int 1, .int 2, .int 3, .int 4, .int 5])) (.ref p9) (.tuple [.int 1, .int 2, .int 3, .int 4, .int 5]) := .tup upd_same (.cons (.int _) (.cons (.int _) (.cons (.int _) (.cons (.int _) (.cons (.int _) .nil)))))
  have e8_H9 : (upd H8 p9 (.tup [.int 1, .int 2, .int 3, .int 4, .int 5])) p8 = some (.lst [.int far, .int (-far), .bl true, .bl false, .non, .ref pl, .ref p2, .ref p3, .str aa, .str (tx ++ fo)]) := (keepU e8_H8 np9)
  have w_H9 : Well (upd H8 p9 (.tup [.int 1, .int 2, .int 3, .int 4, .int 5])) a := (w_H8.new np9)
  have f_H9 : Fr (One a) H (upd H8 p9 (.tup [.int 1, .int 2, .int 3, .int 4, .int 5])) := (Fr.new f_H8 np9)
  generalize (upd H8 p9 (.tup [.int 1, .int 2, .int 3, .int 4, .int 5])) = H9 at t1_H9 t2_H9 t3_H9 t4_H9 e8_H9 w_H9 f_H9 ⊢
  walk_at "rd"
  intro p10 np10
  walk_at "rd"
  intro p11 np11
  walk_at "rd"
  intro p12 np12
  walk_at "rd"
  intro p13 np13
  have t1_H13 : TgS (Old H) (upd (upd (upd (upd H9 p10 (.tup [])) p11 (.tup [.ref p10])) p12 (.tup [.ref p11])) p13 (.tup [.ref p12])) (.ref pl) (.list []) := ((((t1_H9.new np10).new np11).new np12).new np13)
  have t2_H13 : TgS (Old H) (upd (upd (upd (upd H9 p10 (.tup [])) p11 (.tup [.ref p10])) p12 (.tup [.ref p11])) p13 (.tup [.ref p12])) (.ref p2) (.list []) := ((((t2_H9.new np10).new np11).new np12).new np13)
  have t3_H13 : TgS (Old H) (upd (upd (upd (upd H9 p10 (.tup [])) p11 (.tup [.ref p10])) p12 (.tup [.ref p11])) p13 (.tup [.ref p12])) (.ref p3) (.dict []) := ((((t3_H9.new np10).new np11).new np12).new np13)
  have t4_H13 : TgS (Old H) (upd (upd (upd (upd H9 p10 (.tup [])) p11 (.tup [.ref p10])) p12 (.tup [.ref p11])) p13 (.tup [.ref p12])) (.ref p9) (.tuple [.int 1, .int 2, .int 3, .int 4, .int 5]) := ((((t4_H9.new np10).new np11).new np12).new np13)
  have t5_H13 : TgS (Old H) (upd (upd (upd (upd H9 p10 (.tup [])) p11 (.tup [.ref p10])) p12 (.tup [.ref p11])) p13 (.tup [.ref p12])) (.ref p13) (.tuple [.tuple [.tuple [.tuple []]]]) := .tup upd_same (.cons (TgS.new (.tup upd_same (.cons (TgS.new (.tup upd_same (.cons (TgS.new (.tup upd_same .nil) np11) .nil)) np12) .nil)) np13) .nil)
  have e8_H13 : (upd (upd (upd (upd H9 p10 (.tup [])) p11 (.tup [.ref p10])) p12 (.tup [.ref p11])) p13 (.tup [.ref p12])) p8 = some (.lst [.int far, .int (-far), .bl true, .bl false, .non, .ref pl, .ref p2, .ref p3, .str aa, .str (tx ++ fo)]) := (keepU (keepU (keepU (keepU e8_H9 np10) np11) np12) np13)
  have w_H13 : Well (upd (upd (upd (upd H9 p10 (.tup [])) p11 (.tup [.ref p10])) p12 (.tup [.ref p11])) p13 (.tup [.ref p12])) a := ((((w_H9.new np10).new np11).new np12).new np13)
  have f_H13 : Fr (One a) H (upd (upd (upd (upd H9 p10 (.tup [])) p11 (.tup [.ref p10])) p12 (.tup [.ref p11])) p13 (.tup [.ref p12])) := (Fr.new (Fr.new (Fr.new (Fr.new f_H9 np10) np11) np12) np13)
  generalize (upd (upd (upd (upd H9 p10 (.tup [])) p11 (.tup [.ref p10])) p12 (.tup [.ref p11])) p13 (.tup [.ref p12])) = H13 at t1_H13 t2_H13 t3_H13 t4_H13 t5_H13 e8_H13 w_H13 f_H13 ⊢
  walk_at "rd"
  intro p14 np14
  walk_at "rd"
  intro p15 np15
  walk_at "rd"
  intro p16 np16
  walk_at "rd"
  intro p17 np17
  have t1_H17 : TgS (Old H) (upd (upd (upd (upd H13 p14 (.tup [.int 1])) p15 (.tup [.ref p14, .int 2])) p16 (.tup [.ref p15])) p17 (.tup [.ref p16])) (.ref pl) (.list []) := ((((t1_H13.new np14).new np15).new np16).new np17)
  have t2_H17 : TgS (Old H) (upd (upd (upd (upd H13 p14 (.tup [.int 1])) p15 (.tup [.ref p14, .int 2])) p16 (.tup [.ref p15])) p17 (.tup [.ref p16])) (.ref p2) (.list []) := ((((t2_H13.new np14).new np15).new np16).new np17)
  have t3_H17 : TgS (Old H) (upd (upd (upd (upd H13 p14 (.tup [.int 1])) p15 (.tup [.ref p14, .int 2])) p16 (.tup [.ref p15])) p17 (.tup [.ref p16])) (.ref p3) (.dict []) := ((((t3_H13.new np14).new np15).new np16).new np17)
  have t4_H17 : TgS (Old H) (upd (upd (upd (upd H13 p14 (.tup [.int 1])) p15 (.tup [.ref p14, .int 2])) p16 (.tup [.ref p15])) p17 (.tup [.ref p16])) (.ref p9) (.tuple [.int 1, .int 2, .int 3, .int 4, .int 5]) := ((((t4_H13.new np14).new np15).new np16).new np17)
  have t5_H17 : TgS (Old H) (upd (upd (upd (upd H13 p14 (.tup [.int 1])) p15 (.tup [.ref p14, .int 2])) p16 (.tup [.ref p15])) p17 (.tup [.ref p16])) (.ref p13) (.tuple [.tuple [.tuple [.tuple []]]]) := ((((t5_H13.new np14).new np15).new np16).new np17)
  have t6_H17 : TgS (Old H) (upd (upd (upd (upd H13 p14 (.tup [.int 1])) p15 (.tup [.ref p14, .int 2])) p16 (.tup [.ref p15])) p17 (.tup [.ref p16])) (.ref p17) (.tuple [.tuple [.tuple [.tuple [.int 1], .int 2]]]) := .tup upd_same (.cons (TgS.new (.tup upd_same (.cons (TgS.new (.tup upd_same (.cons (TgS.new (.tup upd_same (.cons (.int _) .nil)) np15) (.cons (.int _) .nil))) np16) .nil)) np17) .nil)
  have e8_H17 : (upd (upd (upd (upd H13 p14 (.tup [.int 1])) p15 (.tup [.ref p14, .int 2])) p16 (.tup [.ref p15])) p17 (.tup [.ref p16])) p8 = some (.lst [.int far, .int (-far), .bl true, .bl false, .non, .ref pl, .ref p2, .ref p3, .str aa, .str (tx ++ fo)]) := (keepU (keepU (keepU (keepU e8_H13 np14) np15) np16) np17)
  have w_H17 : Well (upd (upd (upd (upd H13 p14 (.tup [.int 1])) p15 (.tup [.ref p14, .int 2])) p16 (.tup [.ref p15])) p17 (.tup [.ref p16])) a := ((((w_H13.new np14).new np15).new np16).new np17)
  have f_H17 : Fr (One a) H (upd (upd (upd (upd H13 p14 (.tup [.int 1])) p15 (.tup [.ref p14, .int 2])) p16 (.tup [.ref p15])) p17 (.tup [.ref p16])) := (Fr.new (Fr.new (Fr.new (Fr.new f_H13 np14) np15) np16) np17)
  generalize (upd (upd (upd (upd H13 p14 (.tup [.int 1])) p15 (.tup [.ref p14, .int 2])) p16 (.tup [.ref p15])) p17 (.tup [.ref p16])) = H17 at t1_H17 t2_H17 t3_H17 t4_H17 t5_H17 t6_H17 e8_H17 w_H17 f_H17 ⊢
  walk_at "rd"
  refine x_mulS (by decide +kernel) ⟨by decide, by decide⟩ fun ab lb mb => ?_
  have ob : PyData.strOk ab = true := strOk_of fun c hc => strOk_mem (show PyData.strOk (Str.ofString "a") = true by decide +kernel) c (mb c hc)
  walk_at "rd"
  intro p18 np18
  have t1_H18 : TgS (Old H) (upd H17 p18 (.tup [.str ab])) (.ref pl) (.list []) := (t1_H17.new np18)
  have t2_H18 : TgS (Old H) (upd H17 p18 (.tup [.str ab])) (.ref p2) (.list []) := (t2_H17.new np18)
  have t3_H18 : TgS (Old H) (upd H17 p18 (.tup [.str ab])) (.ref p3) (.dict []) := (t3_H17.new np18)
  have t4_H18 : TgS (Old H) (upd H17 p18 (.tup [.str ab])) (.ref p9) (.tuple [.int 1, .int 2, .int 3, .int 4, .int 5]) := (t4_H17.new np18)
  have t5_H18 : TgS (Old H) (upd H17 p18 (.tup [.str ab])) (.ref p13) (.tuple [.tuple [.tuple [.tuple []]]]) := (t5_H17.new np18)
  have t6_H18 : TgS (Old H) (upd H17 p18 (.tup [.str ab])) (.ref p17) (.tuple [.tuple [.tuple [.tuple [.int 1], .int 2]]]) := (t6_H17.new np18)
  have t7_H18 : TgS (Old H) (upd H17 p18 (.tup [.str ab])) (.ref p18) (.tuple [.str ab]) := .tup upd_same (.cons (.str _) .nil)
  have e8_H18 : (upd H17 p18 (.tup [.str ab])) p8 = some (.lst [.int far, .int (-far), .bl true, .bl false, .non, .ref pl, .ref p2, .ref p3, .str aa, .str (tx ++ fo)]) := (keepU e8_H17 np18)
  have w_H18 : Well (upd H17 p18 (.tup [.str ab])) a := (w_H17.new np18)
  have f_H18 : Fr (One a) H (upd H17 p18 (.tup [.str ab])) := (Fr.new f_H17 np18)
  generalize (upd H17 p18 (.tup [.str ab])) = H18 at t1_H18 t2_H18 t3_H18 t4_H18 t5_H18 t6_H18 t7_H18 e8_H18 w_H18 f_H18 ⊢
  walk_at "rd"
  intro p19 np19
  walk_at "rd"
  intro p20 np20
  have t1_H20 : TgS (Old H) (upd (upd H18 p19 (.tup [.bl true])) p20 (.tup [.int 1, .ref p19])) (.ref pl) (.list []) := ((t1_H18.new np19).new np20)
  have t2_H20 : TgS (Old H) (upd (upd H18 p19 (.tup [.bl true])) p20 (.tup [.int 1, .ref p19])) (.ref p2) (.list []) := ((t2_H18.new np19).new np20)
  have t3_H20 : TgS (Old H) (upd (upd H18 p19 (.tup [.bl true])) p20 (.tup [.int 1, .ref p19])) (.ref p3) (.dict []) := ((t3_H18.new np19).new np20)
  have t4_H20 : TgS (Old H) (upd (upd H18 p19 (.tup [.bl true])) p20 (.tup [.int 1, .ref p19])) (.ref p9) (.tuple [.int 1, .int 2, .int 3, .int 4, .int 5]) := ((t4_H18.new np19).new np20)
  have t5_H20 : TgS (Old H) (upd (upd H18 p19 (.tup [.bl true])) p20 (.tup [.int 1, .ref p19])) (.ref p13) (.tuple [.tuple [.tuple [.tuple []]]]) := ((t5_H18.new np19).new np20)
  have t6_H20 : TgS (Old H) (upd (upd H18 p19 (.tup [.bl true])) p20 (.tup [.int 1, .ref p19])) (.ref p17) (.tuple [.tuple [.tuple [.tuple [.int 1], .int 2]]]) := ((t6_H18.new np19).new np20)
  have t7_H20 : TgS (Old H) (upd (upd H18 p19 (.tup [.bl true])) p20 (.tup [.int 1, .ref p19])) (.ref p18) (.tuple [.str ab]) := ((t7_H18.new np19).new np20)
  have t8_H20 : TgS (Old H) (upd (upd H18 p19 (.tup [.bl true])) p20 (.tup [.int 1, .ref p19])) (.ref p20) (.tuple [.int 1, .tuple [.bool true]]) := .tup upd_same (.cons (.int _) (.cons (TgS.new (.tup upd_same (.cons (.bl _) .nil)) np20) .nil))
  have e8_H20 : (upd (upd H18 p19 (.tup [.bl true])) p20 (.tup [.int 1, .ref p19])) p8 = some (.lst [.int far, .int (-far), .bl true, .bl false, .non, .ref pl, .ref p2, .ref p3, .str aa, .str (tx ++ fo)]) := (keepU (keepU e8_H18 np19) np20)
  have w_H20 : Well (upd (upd H18 p19 (.tup [.bl true])) p20 (.tup [.int 1, .ref p19])) a := ((w_H18.new np19).new np20)
  have f_H20 : Fr (One a) H (upd (upd H18 p19 (.tup [.bl true])) p20 (.tup [.int 1, .ref p19])) := (Fr.new (Fr.new f_H18 np19) np20)
  generalize (upd (upd H18 p19 (.tup [.bl true])) p20 (.tup [.int 1, .ref p19])) = H20 at t1_H20 t2_H20 t3_H20 t4_H20 t5_H20 t6_H20 t7_H20 t8_H20 e8_H20 w_H20 f_H20 ⊢
  walk_at "rd"
  intro p21 np21
  have e8 := keepU (u := .lst [.str (fo ++ tx), .ref p9, .ref p13, .ref p17, .ref p18, .ref p20]) e8_H20 np21
  have e21 : upd H20 p21 (.lst [.str (fo ++ tx), .ref p9, .ref p13, .ref p17, .ref p18, .ref p20]) p21 = some (.lst [.str (fo ++ tx), .ref p9, .ref p13, .ref p17, .ref p18, .ref p20]) := upd_same
  walk_at "rd"
  intro p22 np22
  have all : TgAllS (Old H) (upd (upd H20 p21 (.lst [.str (fo ++ tx), .ref p9, .ref p13, .ref p17, .ref p18, .ref p20])) p22 (.lst ([.int far, .int (-far), .bl true, .bl false, .non, .ref pl, .ref p2, .ref p3, .str aa, .str (tx ++ fo)] ++ [.str (fo ++ tx), .ref p9, .ref p13, .ref p17, .ref p18, .ref p20]))) ([.int far, .int (-far), .bl true, .bl false, .non, .ref pl, .ref p2, .ref p3, .str aa, .str (tx ++ fo)] ++ [.str (fo ++ tx), .ref p9, .ref p13, .ref p17, .ref p18, .ref p20]) ([.int far, .int (-far), .bool true, .bool false, .none, .list [], .list [], .dict [], .str aa, .str (tx ++ fo)] ++ [.str (fo ++ tx), .tuple [.int 1, .int 2, .int 3, .int 4, .int 5], .tuple [.tuple [.tuple [.tuple []]]], .tuple [.tuple [.tuple [.tuple [.int 1], .int 2]]], .tuple [.str ab], .tuple [.int 1, .tuple [.bool true]]]) :=
    TgAllS.new (TgAllS.new (.cons (.int _) (.cons (.int _) (.cons (.bl _) (.cons (.bl _) (.cons .non (.cons t1_H20 (.cons t2_H20 (.cons t3_H20 (.cons (.str _) (.cons (.str _)
      (.cons (.str _) (.cons t4_H20 (.cons t5_H20 (.cons t6_H20 (.cons t7_H20 (.cons t8_H20 .nil)))))))))))))))) np21) np22
  have e22 : upd (upd H20 p21 (.lst [.str (fo ++ tx), .ref p9, .ref p13, .ref p17, .ref p18, .ref p20])) p22 (.lst ([.int far, .int (-far), .bl true, .bl false, .non, .ref pl, .ref p2, .ref p3, .str aa, .str (tx ++ fo)] ++ [.str (fo ++ tx), .ref p9, .ref p13, .ref p17, .ref p18, .ref p20])) p22 = some (.lst ([.int far, .int (-far), .bl true, .bl false, .non, .ref pl, .ref p2, .ref p3, .str aa, .str (tx ++ fo)] ++ [.str (fo ++ tx), .ref p9, .ref p13, .ref p17, .ref p18, .ref p20])) := upd_same
  have wZ : Well (upd (upd H20 p21 (.lst [.str (fo ++ tx), .ref p9, .ref p13, .ref p17, .ref p18, .ref p20])) p22 (.lst ([.int far, .int (-far), .bl true, .bl false, .non, .ref pl, .ref p2, .ref p3, .str aa, .str (tx ++ fo)] ++ [.str (fo ++ tx), .ref p9, .ref p13, .ref p17, .ref p18, .ref p20]))) a := (w_H20.new np21).new np22
  have fZ : Fr (One a) H (upd (upd H20 p21 (.lst [.str (fo ++ tx), .ref p9, .ref p13, .ref p17, .ref p18, .ref p20])) p22 (.lst ([.int far, .int (-far), .bl true, .bl false, .non, .ref pl, .ref p2, .ref p3, .str aa, .str (tx ++ fo)] ++ [.str (fo ++ tx), .ref p9, .ref p13, .ref p17, .ref p18, .ref p20]))) := Fr.new (Fr.new f_H20 np21) np22
  have nZ : p22 ≠ a := Well.ne (w_H20.new np21) np22
  generalize upd (upd H20 p21 (.lst [.str (fo ++ tx), .ref p9, .ref p13, .ref p17, .ref p18, .ref p20])) p22 (.lst ([.int far, .int (-far), .bl true, .bl false, .non, .ref pl, .ref p2, .ref p3, .str aa, .str (tx ++ fo)] ++ [.str (fo ++ tx), .ref p9, .ref p13, .ref p17, .ref p18, .ref p20])) = HZ at all e22 wZ fZ ⊢
  walk_at "rd"
  refine ⟨a, _, rfl, rfl, by decide, by decide +kernel, wZ, fun r H23 f23 w23 r0 r1 => ?_⟩
  have e23 := f23.keep _ _ e22 (not_One nZ)
  obtain ⟨v, d, hv, hd, hm⟩ := pickT (TgAllS.mono (f23.sub W.old) _ _ all) r0 (by exact r1)
  have hsm : ∀ d ∈ ([.int far, .int (-far), .bool true, .bool false, .none, .list [], .list [], .dict [], .str aa, .str (tx ++ fo)] ++ [.str (fo ++ tx), .tuple [.int 1, .int 2, .int 3, .int 4, .int 5], .tuple [.tuple [.tuple [.tuple []]]], .tuple [.tuple [.tuple [.tuple [.int 1], .int 2]]], .tuple [.str ab], .tuple [.int 1, .tuple [.bool true]]] : List PyData), txtSmall d := txtSmallAll_mem ⟨trivial, trivial, trivial, trivial, trivial, trivial, trivial, trivial, ⟨la, oa⟩,
    ⟨by rw [PySem.Str.length_append]; omega, strOk_app hco ho2⟩, ⟨by rw [PySem.Str.length_append]; omega, strOk_app ho2 hco⟩, ⟨trivial, trivial, trivial, trivial, trivial, trivial⟩, ⟨⟨⟨trivial, trivial⟩, trivial⟩, trivial⟩,
    ⟨⟨⟨⟨trivial, trivial⟩, trivial, trivial⟩, trivial⟩, trivial⟩, ⟨⟨lb, ob⟩, trivial⟩, ⟨trivial, ⟨trivial, trivial⟩, trivial⟩, trivial⟩
  walk_at "rd"
  exact q _ _ _ (fZ.trans f23) w23 hd (hsm d hm)
end

-- the def top 28
theorem sc_law_thing : FnScope ["_law_well_here", "_law_way", "_law_key_here", "_law_parts", "_law_j"] ["_law_well_here"] (defScope s_law_thing) := ⟨rfl, rfl, rfl, by decide +kernel, rfl, by decide +kernel, by decide +kernel⟩
def B_law_thing : BK1 := fun wl H Q _ => ∃ (a : Addr), wl = .ref a ∧ Well H a ∧
  ∀ v d H', Fr (One a) H H' → Well H' a → TgS (One a) H' v d → txtSmall d → Q v H'
section
variable {P : Program} {w : World} {K : PySem.W.Frag} {mg : Str → Option Value} {base : Heap}
theorem ok_law_thing (T : TX K mg) : CalX P w K mg base 7 "_law_thing" ["_law_well_here"] (Sp1 (B_law_thing)) := by
  have C_law_pull := ok_law_pull (P := P) (w := w) (base := base) T
  have C_law_key := ok_law_key (P := P) (w := w) (base := base) T 3
  have C_law_odd := ok_law_odd (P := P) (w := w) (base := base) T
  obtain ⟨f, fd, F, hm, bd⟩ := T.d_law_thing.ex
  refine ⟨f, fd, F.okX sc_law_thing len1 (fun cdv A outer s H vs Q E hr h => ?_), hm, F.kp, bd⟩
  obtain ⟨wl, rfl, h⟩ := h
  refine ⟨_, (pss_cons (ps_set (i := 1) sc_law_thing.nd rfl (Or.inl rfl) (pcall C_law_pull hr (by first | decide | omega) rfl Passes.none (pa_cons (pv 0) (pa_cons pe_int pa_nil)))) (pss_cons (ps_if (pt_cmpR op_lt (pv 1) pe_int (nomark _)) (pss_one (ps_ret (pcall C_law_odd hr (by first | decide | omega) rfl Passes.none (pa_cons (pv 0) pa_nil)))) pss_nil) (pss_cons (ps_set (i := 2) sc_law_thing.nd rfl (Or.inl rfl) (pcall C_law_key hr (by first | decide | omega) rfl Passes.none (pa_cons (pv 0) (pa_cons pe_int pa_nil)))) (pss_cons (ps_if (pt_cmpR op_eq (pv 1) pe_int (nomark _)) (pss_cons (ps_set (i := 3) sc_law_thing.nd rfl (Or.inl rfl) (pe_lst (pa_cons pe_int (pa_cons pe_str (pa_cons (pe_tup pa_nil) (pa_cons (pe_tup (pa_cons pe_int pa_nil)) pa_nil)))))) (pss_cons (ps_asg (pcall C_law_odd hr (by first | decide | omega) rfl Passes.none (pa_cons (pv 0) pa_nil)) (pg_sub (pv 3) (pcall C_law_pull hr (by first | decide | omega) rfl Passes.none (pa_cons (pv 0) (pa_cons pe_int pa_nil))) set_list)) (pss_one (ps_ret (pe_callTy c_tupOf (by rfl) T.b_tuple (by decide +kernel) (pa_cons (pe_slice sl_list (pv 3) po_none (po_some (pe_op op_add pe_int (pcall C_law_pull hr (by first | decide | omega) rfl Passes.none (pa_cons (pv 0) (pa_cons pe_int pa_nil)))))) pa_nil)))))) pss_nil) (pss_cons (ps_if (pt_cmpR op_eq (pv 1) pe_int (nomark _)) (pss_one (ps_ret (pe_tup (pa_cons (pe_tup (pa_cons pe_str (pa_cons (pcall C_law_odd hr (by first | decide | omega) rfl Passes.none (pa_cons (pv 0) pa_nil)) pa_nil))) (pa_cons (pv 2) pa_nil))))) pss_nil) (pss_cons (ps_if (pt_cmpR op_eq (pv 1) pe_int (nomark _)) (pss_cons (ps_for (passes_of rfl) rfl (pi_range1 rfl T.b_range (pa_cons (pe_op op_add pe_int (pcall C_law_pull hr (by first | decide | omega) rfl Passes.none (pa_cons (pv 0) (pa_cons pe_int pa_nil)))) pa_nil)) (pg_name (i := 4) sc_law_thing.nd rfl (Or.inl rfl)) (pss_one (ps_set (i := 2) sc_law_thing.nd rfl (Or.inl rfl) (pe_op op_catA (pe_tup (pa_cons (pv 2) pa_nil)) (pe_slice sl_tupA (pe_tup (pa_cons pe_int (pa_cons pe_str (pa_cons (pe_tup pa_nil) pa_nil)))) po_none (po_some (pcall C_law_pull hr (by first | decide | omega) rfl Passes.none (pa_cons (pv 0) (pa_cons pe_int pa_nil))))))))) (pss_one (ps_ret (pv 2)))) pss_nil) (pss_cons (ps_if (pt_cmpR op_eq (pv 1) pe_int (nomark _)) (pss_one (ps_ret (pe_slice sl_tupA (pe_tup (pa_cons (pv 2) (pa_cons (pv 2) (pa_cons (pv 2) (pa_cons (pv 2) (pa_cons (pv 2) pa_nil)))))) po_none (po_some (pe_op op_add pe_int (pcall C_law_pull hr (by first | decide | omega) rfl Passes.none (pa_cons (pv 0) (pa_cons pe_int pa_nil)))))))) pss_nil) (pss_one (ps_ret (pv 2)))))))))), ?_⟩
  show (_ : TS) _ [some wl, none, none, none, none] H
  first | dsimp only [L2.cxOf] | skip
  obtain ⟨a, rfl, W, q⟩ := h
  walk_at "rd"
  refine ⟨a, _, rfl, rfl, by decide, by decide +kernel, W, fun wy H1 f1 w1 y0 y1 => ?_⟩
  walk_at "rd"
  refine x_dec (fun c1 => ?_) (fun c1 => ?_)
  · walk_at "rd"
    exact ⟨a, rfl, w1, fun v d H2 f2 w2 hd hs => q _ _ _ (f1.trans f2) w2 (TgS.less w1.old _ _ hd) hs⟩
  · walk_at "rd"
    refine ⟨a, rfl, rfl, w1, fun k d H2 f2 w2 hd hk => ?_⟩
    have f02 := f1.trans f2
    have hdt : TgS (One a) H2 k d := Dt.tg _ _ hd
    have hsm := isK_small hk
    walk_at "rd"
    refine x_dec (fun c2 => ?_) (fun c2 => ?_)
    · walk_at "rd"
      intro p1 n1
      walk_at "rd"
      intro p2 n2
      walk_at "rd"
      intro p3 n3
      have hA : TgAllS (Old (upd (upd (upd H2 p1 (.tup [])) p2 (.tup [.int 2])) p3 (.lst [.int 1, .str (Str.ofString "a"), .ref p1, .ref p2]))) (upd (upd (upd H2 p1 (.tup [])) p2 (.tup [.int 2])) p3 (.lst [.int 1, .str (Str.ofString "a"), .ref p1, .ref p2])) [.int 1, .str (Str.ofString "a"), .ref p1, .ref p2] [.int 1, .str (Str.ofString "a"), .tuple [], .tuple [.int 2]] :=
        .cons (.int _) (.cons (.str _) (.cons (TgS.new (TgS.new (.tup upd_same .nil) n2) n3) (.cons (TgS.new (.tup upd_same (.cons (.int _) .nil)) n3) .nil)))
      have e3 : upd (upd (upd H2 p1 (.tup [])) p2 (.tup [.int 2])) p3 (.lst [.int 1, .str (Str.ofString "a"), .ref p1, .ref p2]) p3 = some (.lst [.int 1, .str (Str.ofString "a"), .ref p1, .ref p2]) := upd_same
      have w3 : Well (upd (upd (upd H2 p1 (.tup [])) p2 (.tup [.int 2])) p3 (.lst [.int 1, .str (Str.ofString "a"), .ref p1, .ref p2])) a := ((w2.new n1).new n2).new n3
      have f3 : Fr (One a) H (upd (upd (upd H2 p1 (.tup [])) p2 (.tup [.int 2])) p3 (.lst [.int 1, .str (Str.ofString "a"), .ref p1, .ref p2])) := Fr.new (Fr.new (Fr.new f02 n1) n2) n3
      have nP : p3 ≠ a := Well.ne ((w2.new n1).new n2) n3
      have nPH : Fresh H p3 := f02.free (upd_back (upd_back n3))
      generalize upd (upd (upd H2 p1 (.tup [])) p2 (.tup [.int 2])) p3 (.lst [.int 1, .str (Str.ofString "a"), .ref p1, .ref p2]) = H3 at hA e3 w3 f3 ⊢
      walk_at "rd"
      refine ⟨a, rfl, w3, fun v2 d2 H4 f4 w4 hd2 hs2 => ?_⟩
      have e4 := f4.keep _ _ e3 (not_One nP)
      have hA4 := TgAllS.mono (f4.sub w3.old) _ _ hA
      walk_at "rd"
      refine ⟨a, _, rfl, rfl, by decide, by decide +kernel, w4, fun r5 H5 f5 w5 r50 r51 => ?_⟩
      have e5 := f5.keep _ _ e4 (not_One nP)
      have hA5 := TgAllS.mono (f5.sub w3.old) _ _ hA4
      have hd5 := hd2.mono (f5.sub w3.old) _ _
      have f05 : Fr (One a) H H5 := (f3.trans f4).trans f5
      have hix : ixN [V.int 1, .str (Str.ofString "a"), .ref p1, .ref p2].length r5 = some r5.toNat := by
        obtain rfl | rfl | rfl | rfl : r5 = 0 ∨ r5 = 1 ∨ r5 = 2 ∨ r5 = 3 := by omega
        · rfl
        · rfl
        · rfl
        · rfl
      walk_at "rd"
      have hA6 : TgAllS (Old H3) H5 ([V.int 1, .str (Str.ofString "a"), .ref p1, .ref p2].set r5.toNat v2) ([PyData.int 1, .str (Str.ofString "a"), .tuple [], .tuple [.int 2]].set r5.toNat d2) := TgAllS.set hd5 _ hA5
      have hsm6 : ∀ d ∈ ([PyData.int 1, .str (Str.ofString "a"), .tuple [], .tuple [.int 2]].set r5.toNat d2), txtSmall d := fun d hd => by
        rcases List.mem_or_eq_of_mem_set hd with hd | rfl
        · exact txtSmallAll_mem (ds := [PyData.int 1, .str (Str.ofString "a"), .tuple [], .tuple [.int 2]]) ⟨trivial, ⟨by decide, by decide +kernel⟩, trivial, ⟨trivial, trivial⟩, trivial⟩ d hd
        · exact hs2
      generalize [V.int 1, .str (Str.ofString "a"), .ref p1, .ref p2].set r5.toNat v2 = ys at hA6 ⊢
      generalize [PyData.int 1, .str (Str.ofString "a"), .tuple [], .tuple [.int 2]].set r5.toNat d2 = es at hA6 hsm6
      have f6 : Fr (One p3) H5 (upd H5 p3 (.lst ys)) := Fr.mut (Fr.refl _) e5 rfl (.inl rfl)
      have e6 : upd H5 p3 (.lst ys) p3 = some (.lst ys) := upd_same
      have hA7 : TgAllS (Old H3) (upd H5 p3 (.lst ys)) ys es := TgAllS.mono (f6.sub fun b h => by subst h; exact old_of e3) _ _ hA6
      have f06 : Fr (One a) H (upd H5 p3 (.lst ys)) := f05.sub' f6 fun b h => by subst h; exact .inr nPH
      have w6 : Well (upd H5 p3 (.lst ys)) a := w5.fr f6 (not_One nP.symm)
      generalize upd H5 p3 (.lst ys) = H6 at e6 hA7 f06 w6 ⊢
      walk_at "rd"
      refine ⟨a, _, rfl, rfl, by decide, by decide +kernel, w6, fun r7 H7 f7 w7 r70 r71 => ?_⟩
      have e7 := f7.keep _ _ e6 (not_One nP)
      have hA8 := TgAllS.mono (f7.sub w3.old) _ _ hA7
      have f07 := f06.trans f7
      walk_at "rd"
      intro p8 n8
      walk_at "rd"
      intro p9 n9
      rw [cut_to (by omega)]
      rw [cut_to (by omega)] at n9
      exact q _ _ _ (Fr.new (Fr.new f07 n8) n9) ((w7.new n8).new n9) (.tup upd_same (TgAllS.new (TgAllS.new (TgAllS.take _ (TgAllS.less w3.old _ _ hA8)) n8) n9))
        (txtSmallAll_of fun d hd => hsm6 d (List.mem_of_mem_take hd))
    · walk_at "rd"
      refine x_dec (fun c3 => ?_) (fun c3 => ?_)
      · walk_at "rd"
        refine ⟨a, rfl, w2, fun v2 d2 H3 f3 w3 hd2 hs2 => ?_⟩
        have hd2 := TgS.less w2.old _ _ hd2
        have hdt3 := hdt.mono f3 _ _
        have f03 := f02.trans f3
        walk_at "rd"
        intro p1 n1
        walk_at "rd"
        intro p2 n2
        exact q _ _ _ (Fr.new (Fr.new f03 n1) n2) ((w3.new n1).new n2) (.tup upd_same (.cons (TgS.new (.tup upd_same (.cons (.str _) (.cons (hd2.new n1) .nil))) n2) (.cons ((hdt3.new n1).new n2) .nil)))
          ⟨⟨⟨by decide, by decide +kernel⟩, hs2, trivial⟩, hsm, trivial⟩
      · walk_at "rd"
        refine x_dec (fun c4 => ?_) (fun c4 => ?_)
        · walk_at "rd"
          refine ⟨a, _, rfl, rfl, by decide, by decide +kernel, w2, fun r3 H3 f3 w3 r30 r31 => ?_⟩
          have hd3 := hdt.mono f3 _ _
          have f03 := f02.trans f3
          walk_at "rd"
          refine x_forR (n := (1 + r3).toNat) (fun i σ H' => ∃ (v : V) (d : PyData) (v2 v4 : Option V), σ = [some (.ref a), some (.int wy), some v, v2, v4] ∧ Fr (One a) H H' ∧ Well H' a ∧ TgS (One a) H' v d ∧ txtSmall d) ⟨k, d, _, _, rfl, f03, w3, hd3, hsm⟩ ?_ ?_
          · rintro i σ H4 hi ⟨v, d, v2, v4, rfl, f4, w4, hd4, hs4⟩
            walk_at "rd"
            intro p1 n1
            walk_at "rd"
            intro p2 n2
            walk_at "rd"
            intro p3 n3
            have h1 : TgS (One a) (upd (upd (upd H4 p1 (.tup [v])) p2 (.tup [])) p3 (.tup [.int 1, .str (Str.ofString ""), .ref p2])) (.ref p1) (.tuple [d]) := TgS.new (TgS.new (.tup upd_same (.cons (hd4.new n1) .nil)) n2) n3
            have h3 : TgS (One a) (upd (upd (upd H4 p1 (.tup [v])) p2 (.tup [])) p3 (.tup [.int 1, .str (Str.ofString ""), .ref p2])) (.ref p3) (.tuple [.int 1, .str (Str.ofString ""), .tuple []]) := .tup upd_same (.cons (.int _) (.cons (.str _) (.cons (TgS.new (.tup upd_same .nil) n3) .nil)))
            have wB : Well (upd (upd (upd H4 p1 (.tup [v])) p2 (.tup [])) p3 (.tup [.int 1, .str (Str.ofString ""), .ref p2])) a := ((w4.new n1).new n2).new n3
            have fB : Fr (One a) H (upd (upd (upd H4 p1 (.tup [v])) p2 (.tup [])) p3 (.tup [.int 1, .str (Str.ofString ""), .ref p2])) := Fr.new (Fr.new (Fr.new f4 n1) n2) n3
            generalize upd (upd (upd H4 p1 (.tup [v])) p2 (.tup [])) p3 (.tup [.int 1, .str (Str.ofString ""), .ref p2]) = H5 at h1 h3 wB fB ⊢
            walk_at "rd"
            refine ⟨a, _, rfl, rfl, by decide, by decide +kernel, wB, fun r6 H6 f6 w6 r60 r61 => ?_⟩
            have h16 := h1.mono f6 _ _
            have h36 := h3.mono f6 _ _
            have fB6 := fB.trans f6
            cases h16 with
            | @tup _ xs1 _ e16 t16 =>
            cases h36 with
            | @tup _ xs3 _ e36 t36 =>
            walk_at "rd"
            refine x_slT e36 t36 fun p7 H7 n7 f7 h7 => ?_
            cases h7 with
            | @tup _ xs7 _ e77 t77 =>
            have l7 := t77.length
            have l1 := t16.length
            have l7b : xs7.length ≤ 3 := by rw [l7, List.length_take]; exact Nat.min_le_right _ _
            refine x_catT (f7.tup _ _ e16) e77 (TgAllS.mono f7.non _ _ t16) t77 (by rw [l1]; exact Nat.le_trans (Nat.add_le_add_left l7b _) (show 1 + 3 ≤ 100000 by decide)) fun p8 H8 f8 h8 => ?_
            walk_at "rd"
            refine ⟨_, _, _, _, rfl, (fB6.trans f7.non).trans f8.non, (w6.fr f7 id).fr f8 id, h8, ⟨hs4, ?_⟩⟩
            · exact txtSmallAll_of fun d hd => txtSmallAll_mem (ds := [PyData.int 1, .str (Str.ofString ""), .tuple []]) ⟨trivial, ⟨by decide, by decide +kernel⟩, trivial, trivial⟩ d (List.mem_of_mem_take hd)
          · rintro σ H4 ⟨v, d, v2, v4, rfl, f4, w4, hd4, hs4⟩
            walk_at "rd"
            exact q _ _ _ f4 w4 hd4 hs4
        · walk_at "rd"
          refine x_dec (fun c5 => ?_) (fun c5 => ?_)
          · walk_at "rd"
            intro p1 n1
            walk_at "rd"
            have h1 : TgS (One a) (upd H2 p1 (.tup [k, k, k, k, k])) (.ref p1) (.tuple [d, d, d, d, d]) := .tup upd_same (TgAllS.new (.cons hdt (.cons hdt (.cons hdt (.cons hdt (.cons hdt .nil))))) n1)
            have wB : Well (upd H2 p1 (.tup [k, k, k, k, k])) a := w2.new n1
            have fB : Fr (One a) H (upd H2 p1 (.tup [k, k, k, k, k])) := Fr.new f02 n1
            generalize upd H2 p1 (.tup [k, k, k, k, k]) = H5 at h1 wB fB ⊢
            refine ⟨a, _, rfl, rfl, by decide, by decide +kernel, wB, fun r6 H6 f6 w6 r60 r61 => ?_⟩
            have h16 := h1.mono f6 _ _
            cases h16 with
            | @tup _ xs1 _ e16 t16 =>
            walk_at "rd"
            refine x_slT e16 t16 fun p7 H7 n7 f7 h7 => ?_
            exact q _ _ _ ((fB.trans f6).trans f7.non) (w6.fr f7 id) h7 (txtSmallAll_of fun e he => by
              have := List.mem_of_mem_take he
              simp at this
              rw [this]; exact hsm)
          · walk_at "rd"
            exact q _ _ _ f02 w2 hdt hsm
end

-- the def top 26
theorem sc_law_good : FnScope ["_law_thing_here", "_law_room", "_law_part", "_law_sign"] ["_law_thing_here", "_law_room"] (defScope s_law_good) := ⟨rfl, rfl, rfl, by decide +kernel, rfl, by decide +kernel, by decide +kernel⟩
def B_law_good (r : Nat) : BK2 := fun t rm H Q _ => ∃ d, rm = .int (r : Int) ∧ Tg H t d ∧ txtSmall d ∧ ∀ H', Fr Non H H' → Q (.bl (keyB r d)) H'
theorem sg_bad (c : Nat) : decide ((⟨#[c]⟩ : Str).cps.toList < (Str.ofString " ").cps.toList) = !decide (32 ≤ c) := by rw [← sg_lo c, Bool.not_not]
theorem sg_bad2 (c : Nat) : decide ((Str.ofString "~").cps.toList < (⟨#[c]⟩ : Str).cps.toList) = !decide (c ≤ 126) := by rw [← sg_hi c, Bool.not_not]
theorem strs_dp {K : PySem.W.Frag} {H : Hp} : ∀ cs : List Nat, DpAll K H (cs.map fun c => V.str ⟨#[c]⟩) (cs.map fun c => PyData.str ⟨#[c]⟩)
  | [] => .nil
  | c :: cs => .cons (.str _) (strs_dp cs)
theorem strs_shaped (cs : List Nat) (h : ∀ c ∈ cs, c < 1114112) : SeqAt.shaped (.list (cs.map fun c => PyData.str ⟨#[c]⟩)) = true := by
  unfold SeqAt.shaped
  have e1 : PyData.canLay0 (.list (cs.map fun c => PyData.str ⟨#[c]⟩)) = true := canLayAll0_of fun d hd => by
    obtain ⟨c, hc, rfl⟩ := List.mem_map.mp hd
    have := h c hc
    show PyData.strOk ⟨#[c]⟩ = true
    unfold PyData.strOk
    simp
    exact this
  have e2 : PyData.depth (.list (cs.map fun c => PyData.str ⟨#[c]⟩)) = PyData.depthAll (cs.map fun c => PyData.str ⟨#[c]⟩) + 1 := rfl
  have e3 : PyData.depthAll (cs.map fun c => PyData.str ⟨#[c]⟩) ≤ 0 := depthAll_le fun d hd => by
    obtain ⟨c, hc, rfl⟩ := List.mem_map.mp hd
    exact Nat.le_refl _
  rw [e1, decide_eq_true (by omega)]; rfl
theorem eqv_nil : ∀ (ds : List PyData), PyData.eqv (.list ds) (.list []) = ds.isEmpty
  | [] => rfl
  | _ :: _ => rfl
theorem filter_bad (cs : List Nat) : ((cs.filter fun c => !signB c).map fun c => PyData.str ⟨#[c]⟩).isEmpty = cs.all signB := by
  induction cs with
  | nil => rfl
  | cons c cs ih =>
    rw [List.all_cons, ← ih, List.filter_cons]
    cases signB c <;> simp
theorem any_false (bs : List Bool) : (!((bs.map PyData.bool).any fun z => PyData.eqv z (.bool false))) = bs.all id := by
  induction bs with
  | nil => rfl
  | cons b bs ih =>
    rw [List.map_cons, List.any_cons, List.all_cons, ← ih, Bool.not_or]
    cases b <;> simp [PyData.eqv]
theorem bools_dp {K : PySem.W.Frag} {H : Hp} : ∀ bs : List Bool, DpAll K H (bs.map V.bl) (bs.map PyData.bool)
  | [] => .nil
  | b :: bs => .cons (.bl b) (bools_dp bs)
theorem bools_shaped (bs : List Bool) : SeqAt.shaped (.list (bs.map PyData.bool)) = true := by
  unfold SeqAt.shaped
  have e1 : PyData.canLay0 (.list (bs.map PyData.bool)) = true := canLayAll0_of fun d hd => by
    obtain ⟨c, hc, rfl⟩ := List.mem_map.mp hd
    rfl
  have e2 : PyData.depth (.list (bs.map PyData.bool)) = PyData.depthAll (bs.map PyData.bool) + 1 := rfl
  have e3 : PyData.depthAll (bs.map PyData.bool) ≤ 0 := depthAll_le fun d hd => by
    obtain ⟨c, hc, rfl⟩ := List.mem_map.mp hd
    exact Nat.le_refl _
  rw [e1, decide_eq_true (by omega)]; rfl
section
variable {P : Program} {w : World} {K : PySem.W.Frag} {mg : Str → Option Value} {base : Heap}
theorem step_law_good (T : TX K mg) (r k : Nat) (spR : Sp) (hR : ∀ r1, r = r1 + 1 → ∀ vs H Q E, Sp2 (B_law_good r1) vs H Q E → spR vs H Q E) (C_law_good : CalX P w K mg base k "_law_good" ["_law_thing_here", "_law_room"] spR) (hk : 1 ≤ k) : CalX P w K mg base (k + 1) "_law_good" ["_law_thing_here", "_law_room"] (Sp2 (B_law_good r)) := by
  obtain ⟨f, fd, F, hm, bd⟩ := T.d_law_good.ex
  refine ⟨f, fd, F.okX sc_law_good len2 (fun cdv A outer s H vs Q E hr h => ?_), hm, F.kp, bd⟩
  obtain ⟨t, rm, rfl, h⟩ := h
  refine ⟨_, (pss_cons (ps_if (pt_val (pe_callB call_isi (by rfl) T.b_isinstance PyProof.Rows.boot_isinstance (pa_cons (pv 0) (pa_cons (pe_bltn (v := .ty "bool") rfl T.b_bool PyProof.Rows.boot_bool rfl) pa_nil)))) (pss_one (ps_ret pe_bl)) pss_nil) (pss_cons (ps_if (pt_val (pe_callB call_isi (by rfl) T.b_isinstance PyProof.Rows.boot_isinstance (pa_cons (pv 0) (pa_cons (pe_bltn (v := .ty "int") rfl T.b_int PyProof.Rows.boot_int rfl) pa_nil)))) (pss_one (ps_ret (pe_chain op_lt op_lt (pe_un un_neg (pe_op op_pow pe_int pe_int)) (pv 0) (pe_op op_pow pe_int pe_int)))) pss_nil) (pss_cons (ps_if (pt_val (pe_callB call_isi (by rfl) T.b_isinstance PyProof.Rows.boot_isinstance (pa_cons (pv 0) (pa_cons (pe_bltn (v := .ty "str") rfl T.b_str PyProof.Rows.boot_str rfl) pa_nil)))) (pss_one (ps_ret (pe_and (pe_cmpR op_le (pe_callB c_lenA (by rfl) T.b_len (by decide +kernel) (pa_cons (pv 0) pa_nil)) pe_int (nomark _)) (pe_one (pe_cmpR (op_eqD hr.units) (pe_lc (own := [("_law_sign", 3)]) (g := gName 3)  rfl sc_law_good.nd (pi_str (pv 0)) (blkOk_by (N := ["_law_thing_here", "_law_room", "_law_part", "_law_sign"]) (sc := defScope s_law_good) (own := [("_law_sign", 3)]) (by decide +kernel)) (fun _ _ _ _ _ => pg_name (i := 3) sc_law_good.nd rfl (by first | exact Or.inl rfl | exact Or.inr rfl)) (fun _ _ _ _ _ => (pts_one (PW.pt (pw_or (pt_cmpR o_ltS (pv 3) pe_str (nomark _)) (pw_or1 (pt_cmpR o_gtS (pv 3) pe_str (nomark _))))))) (fun _ _ _ _ _ => (pv 3))) (pe_lst pa_nil) (nomark _)))))) pss_nil) (pss_cons (ps_if (PW.pt (pw_or (pt_not (pt_val (pe_callB call_isi (by rfl) T.b_isinstance PyProof.Rows.boot_isinstance (pa_cons (pv 0) (pa_cons (pe_bltn (v := .ty "tuple") rfl T.b_tuple PyProof.Rows.boot_tuple rfl) pa_nil))))) (pw_or (pt_cmpR op_eq (pv 1) pe_int (nomark _)) (pw_or1 (pt_cmpR op_gt (pe_callB c_lenA (by rfl) T.b_len (by decide +kernel) (pa_cons (pv 0) pa_nil)) pe_int (nomark _)))))) (pss_one (ps_ret pe_bl)) pss_nil) (pss_one (ps_ret (pe_cmpR (op_notInD (u65 hr)) pe_bl (pe_lc (own := [("_law_part", 2)]) (g := gName 2) (tt := tYes) rfl sc_law_good.nd (pi_tup (pv 0)) (blkOk_by (N := ["_law_thing_here", "_law_room", "_law_part", "_law_sign"]) (sc := defScope s_law_good) (own := [("_law_part", 2)]) (by decide +kernel)) (fun _ _ _ _ _ => pg_name (i := 2) sc_law_good.nd rfl (by first | exact Or.inl rfl | exact Or.inr rfl)) (fun _ _ _ _ _ => pts_nil) (fun _ _ _ _ _ => (pcall C_law_good hr (by first | decide | omega) rfl Passes.none (pa_cons (pv 2) (pa_cons (pe_op op_sub (pv 1) pe_int) pa_nil))))) rfl))))))), ?_⟩
  show (_ : TS) _ [some t, some rm, none, none] H
  first | dsimp only [L2.cxOf] | skip
  obtain ⟨d, rfl, hd, hz, q⟩ := h
  cases hd with
  | int i =>
    rw [keyB_int] at q
    walk_at "rd"
    refine x_dec (fun c1 => ?_) (fun c1 => ?_)
    · walk_at "rd"
      have c1 : -bnd < i := c1
      have e : numB i = decide (i < bnd) := by unfold numB; rw [decide_eq_true c1, Bool.true_and]
      rw [e] at q
      exact q _ (Fr.refl _)
    · walk_at "rd"
      have c1 : ¬ -bnd < i := c1
      have e : numB i = false := by unfold numB; rw [decide_eq_false c1, Bool.false_and]
      rw [e] at q
      exact q _ (Fr.refl _)
  | str z =>
    rw [keyB_str] at q
    have hz1 := hz.1
    walk_at "rd"
    refine x_dec (fun c1 => ?_) (fun c1 => ?_)
    · walk_at "rd"
      intro D nD
      refine x_lcS (fun i H' => Fr Non H H' ∧ H' D = some (.lst (((z.cps.toList.take i).filter fun c => !signB c).map fun c => V.str ⟨#[c]⟩))) ⟨by walk_at "fr", upd_same⟩ ?_ ?_
      · rintro i c H1 hc ⟨f1, hD⟩
        have hi : i < z.cps.toList.length := (List.getElem?_eq_some_iff.mp hc).1
        have hl : (((z.cps.toList.take i).filter fun c => !signB c).map fun c => V.str ⟨#[c]⟩).length ≤ 100000 := by
          rw [List.length_map]
          refine Nat.le_trans (List.length_filter_le _ _) ?_
          rw [List.length_take, ← str_len]
          omega
        walk_at "rd"
        rw [sg_bad]
        cases k1 : decide (32 ≤ c) with
        | false =>
          walk_at "rd"
          have e : signB c = false := by unfold signB; rw [k1, Bool.false_and]
          refine ⟨by walk_at "fr", ?_⟩
          rw [List.take_add_one, hc, List.filter_append, List.map_append]
          have e2 : List.map (fun c => V.str ⟨#[c]⟩) (List.filter (fun c => !signB c) (some c).toList) = [V.str ⟨#[c]⟩] := by simp [e]
          rw [e2]; exact upd_same
        | true =>
          walk_at "rd"
          rw [sg_bad2]
          cases k2 : decide (c ≤ 126) with
          | false =>
            walk_at "rd"
            have e : signB c = false := by unfold signB; rw [k2, Bool.and_false]
            refine ⟨by walk_at "fr", ?_⟩
            rw [List.take_add_one, hc, List.filter_append, List.map_append]
            have e2 : List.map (fun c => V.str ⟨#[c]⟩) (List.filter (fun c => !signB c) (some c).toList) = [V.str ⟨#[c]⟩] := by simp [e]
            rw [e2]; exact upd_same
          | true =>
            walk_at "rd"
            have e : signB c = true := by unfold signB; rw [k1, k2]; rfl
            refine ⟨f1, ?_⟩
            rw [List.take_add_one, hc, List.filter_append, List.map_append]
            have e2 : List.map (fun c => V.str ⟨#[c]⟩) (List.filter (fun c => !signB c) (some c).toList) = [] := by simp [e]
            rw [e2, List.append_nil]; exact hD
      · rintro H1 ⟨f1, hD⟩
        rw [List.take_length] at hD
        walk_at "rd"
        intro p1 n1
        have hD1 : ∀ o, upd H1 p1 o D = some (.lst ((z.cps.toList.filter fun c => !signB c).map fun c => V.str ⟨#[c]⟩)) := fun o => by walk_at "hp"
        refine x_eqD (d := .list ((z.cps.toList.filter fun c => !signB c).map fun c => PyData.str ⟨#[c]⟩)) (e := .list []) (.lst (SqL.of (hD1 _)) (strs_dp _)) (.lst (SqL.of upd_same) .nil) (strs_shaped _ fun c hc => strOk_mem hz.2 c (List.mem_filter.mp hc).1) (by decide +kernel) ?_
        rw [eqv_nil, filter_bad]
        have e : txtB z = z.cps.toList.all signB := by unfold txtB; rw [decide_eq_true (by omega), Bool.true_and]
        rw [e] at q
        exact q _ (by walk_at "fr")
    · have e : txtB z = false := by unfold txtB; rw [decide_eq_false (by omega), Bool.false_and]
      rw [e] at q
      exact q _ (Fr.refl _)
  | non =>
    have e : keyB r .none = false := by cases r <;> rfl
    rw [e] at q
    walk_at "rd"
    exact q _ (Fr.refl _)
  | bl b =>
    have e : keyB r (.bool b) = false := by cases r <;> rfl
    rw [e] at q
    walk_at "rd"
    exact q _ (Fr.refl _)
  | lst h n0 =>
    have e : keyB r (.list []) = false := by cases r <;> rfl
    rw [e] at q
    walk_at "rd"
    exact q _ (Fr.refl _)
  | dct h n0 =>
    have e : keyB r (.dict []) = false := by cases r <;> rfl
    rw [e] at q
    walk_at "rd"
    exact q _ (Fr.refl _)
  | @tup a xs ds e0 hs =>
    walk_at "rd"
    refine x_dec (fun c1 => ?_) (fun c1 => ?_)
    · walk_at "rd"
      have e : keyB r (.tuple ds) = false := by
        obtain rfl : r = 0 := by omega
        rfl
      rw [e] at q
      exact q _ (Fr.refl _)
    · obtain ⟨r1, rfl⟩ : ∃ r1, r = r1 + 1 := ⟨r - 1, by omega⟩
      have ek : keyB (r1 + 1) (.tuple ds) = (decide (ds.length ≤ 4) && ds.all (keyB r1)) := rfl
      rw [ek] at q
      have hlen := hs.length
      walk_at "rd"
      refine x_dec (fun c2 => ?_) (fun c2 => ?_)
      · walk_at "rd"
        rw [decide_eq_false (by omega), Bool.false_and] at q
        exact q _ (Fr.refl _)
      · rw [decide_eq_true (by omega), Bool.true_and] at q
        walk_at "rd"
        refine x_iRef (C := fun a => ∃ xs, SqT K H a xs) ⟨xs, SqT.of e0⟩ ?_
        intro D nD
        refine x_lcT xs (fun i H' => Fr Non H H' ∧ H' D = some (.lst (((ds.take i).map (keyB r1)).map V.bl))) ⟨by walk_at "fr", upd_same⟩ (fun i H' _ ⟨f, _⟩ => SqT.of (f.tup _ _ e0)) ?_ ?_
        · rintro i x H3 hx ⟨f3, hD⟩
          obtain ⟨d, hd1, hd2⟩ := hs.get hx
          have hi : i < xs.length := (List.getElem?_eq_some_iff.mp hx).1
          have hl : (((ds.take i).map (keyB r1)).map V.bl).length ≤ 100000 := by
            simp only [List.length_map, List.length_take]; omega
          walk_at "rd"
          refine hR r1 rfl _ _ _ _ ?_
          walk_at "rd"
          refine ⟨d, congrArg V.int (by omega), Tg.mono f3 _ _ hd2, txtSmallAll_mem hz d (List.mem_of_getElem? hd1), fun H4 f4 => ?_⟩
          walk_at "rd"
          refine ⟨by walk_at "fr", ?_⟩
          rw [List.take_add_one, hd1]
          simp only [List.map_append, Option.toList_some, List.map_cons, List.map_nil]
          exact upd_same
        · rintro H3 ⟨f3, hD⟩
          rw [List.take_of_length_le (by omega)] at hD
          walk_at "rd"
          refine x_notInD (.bl false) (.lst (SqL.of hD) (bools_dp _)) (by decide +kernel) (bools_shaped _) ?_
          rw [any_false, all_map]
          exact q _ f3
theorem ok_law_good (T : TX K mg) : ∀ r : Nat, CalX P w K mg base (2 + r) "_law_good" ["_law_thing_here", "_law_room"] (Sp2 (B_law_good r))
  | 0 => step_law_good T 0 1 _ (fun _ e => nomatch e) (CalX.never T.d_law_good sc_law_good (by decide)) (Nat.le_refl _)
  | r + 1 => step_law_good T (r + 1) (2 + r) _ (fun r1 e => by cases e; exact fun _ _ _ _ h => h) (ok_law_good T r) (by omega)
end

-- the def top 14
theorem sc_is_number : FnScope ["thing"] ["thing"] (defScope s_is_number) := ⟨rfl, rfl, rfl, by decide +kernel, rfl, by decide +kernel, by decide +kernel⟩
def isNumB : PyData → Bool
  | .int i => numB i
  | _ => false
def B_is_number : BK1 := fun t H Q _ => ∃ d, Tg H t d ∧ Q (.bl (isNumB d)) H
section
variable {P : Program} {w : World} {K : PySem.W.Frag} {mg : Str → Option Value} {base : Heap}
theorem ok_is_number (T : TX K mg) : CalX P w K mg base 1 "is_number" ["thing"] (Sp1 (B_is_number)) := by
  obtain ⟨f, fd, F, hm, bd⟩ := T.d_is_number.ex
  refine ⟨f, fd, F.okX sc_is_number len1 (fun cdv A outer s H vs Q E hr h => ?_), hm, F.kp, bd⟩
  obtain ⟨t, rfl, h⟩ := h
  refine ⟨_, (pss_one (ps_ret (pe_and (pe_callB call_isi (by rfl) T.b_isinstance PyProof.Rows.boot_isinstance (pa_cons (pv 0) (pa_cons (pe_bltn (v := .ty "int") rfl T.b_int PyProof.Rows.boot_int rfl) pa_nil))) (pe_and (pe_not (pe_callB call_isi (by rfl) T.b_isinstance PyProof.Rows.boot_isinstance (pa_cons (pv 0) (pa_cons (pe_bltn (v := .ty "bool") rfl T.b_bool PyProof.Rows.boot_bool rfl) pa_nil)))) (pe_one (pe_chain op_lt op_lt (pe_un un_neg (pconst T.c_BOUND rfl)) (pv 0) (pconst T.c_BOUND rfl))))))), ?_⟩
  show (_ : TS) _ [some t] H
  first | dsimp only [L2.cxOf] | skip
  obtain ⟨d, hd, q⟩ := h
  cases hd with
  | int i =>
    walk_at "rd"
    refine x_dec (fun c1 => ?_) (fun c1 => ?_)
    · walk_at "rd"
      have c1 : -bnd < i := c1
      have e : isNumB (.int i) = decide (i < bnd) := by show (decide (-bnd < i) && decide (i < bnd)) = _; rw [decide_eq_true c1, Bool.true_and]
      rw [e] at q
      exact q
    · walk_at "rd"
      have c1 : ¬ -bnd < i := c1
      have e : isNumB (.int i) = false := by show (decide (-bnd < i) && decide (i < bnd)) = _; rw [decide_eq_false c1, Bool.false_and]
      rw [e] at q
      exact q
  | non => walk_at "rd"; exact q
  | bl b => walk_at "rd"; exact q
  | str z => walk_at "rd"; exact q
  | lst h n0 => walk_at "rd"; exact q
  | dct h n0 => walk_at "rd"; exact q
  | tup h hs => walk_at "rd"; exact q
end

-- the def top 15
theorem sc_is_text : FnScope ["thing", "sign"] ["thing"] (defScope s_is_text) := ⟨rfl, rfl, rfl, by decide +kernel, rfl, by decide +kernel, by decide +kernel⟩
def isTxtB : PyData → Bool
  | .str z => txtB z
  | _ => false
def B_is_text : BK1 := fun t H Q _ => ∃ d, Tg H t d ∧ (∀ z, d = .str z → z.length ≤ 100000) ∧ ∀ H', Fr Non H H' → Q (.bl (isTxtB d)) H'
section
variable {P : Program} {w : World} {K : PySem.W.Frag} {mg : Str → Option Value} {base : Heap}
theorem ok_is_text (T : TX K mg) : CalX P w K mg base 1 "is_text" ["thing"] (Sp1 (B_is_text)) := by
  obtain ⟨f, fd, F, hm, bd⟩ := T.d_is_text.ex
  refine ⟨f, fd, F.okX sc_is_text len1 (fun cdv A outer s H vs Q E hr h => ?_), hm, F.kp, bd⟩
  obtain ⟨t, rfl, h⟩ := h
  refine ⟨_, (pss_cons (ps_if (PW.pt (pw_or (pt_not (pt_val (pe_callB call_isi (by rfl) T.b_isinstance PyProof.Rows.boot_isinstance (pa_cons (pv 0) (pa_cons (pe_bltn (v := .ty "str") rfl T.b_str PyProof.Rows.boot_str rfl) pa_nil))))) (pw_or1 (pt_cmpR op_gt (pe_callB c_lenA (by rfl) T.b_len (by decide +kernel) (pa_cons (pv 0) pa_nil)) (pconst T.c_SIGNS rfl) (nomark _))))) (pss_one (ps_ret pe_bl)) pss_nil) (pss_one (ps_ret (pe_callB (cr_all rfl) (by rfl) T.b_all (by decide +kernel) (pa_cons (pe_lc (own := [("sign", 1)]) (g := gName 1) (tt := tYes) rfl sc_is_text.nd (pi_str (pv 0)) (blkOk_by (N := ["thing", "sign"]) (sc := defScope s_is_text) (own := [("sign", 1)]) (by decide +kernel)) (fun _ _ _ _ _ => pg_name (i := 1) sc_is_text.nd rfl (by first | exact Or.inl rfl | exact Or.inr rfl)) (fun _ _ _ _ _ => pts_nil) (fun _ _ _ _ _ => (pe_chain o_leS o_leS pe_str (pv 1) pe_str))) pa_nil))))), ?_⟩
  show (_ : TS) _ [some t, none] H
  first | dsimp only [L2.cxOf] | skip
  obtain ⟨d, hd, hz, q⟩ := h
  cases hd with
  | str z =>
    have hz1 := hz z rfl
    walk_at "rd"
    refine x_dec (fun c1 => ?_) (fun c1 => ?_)
    · walk_at "rd"
      have e : isTxtB (.str z) = false := by show (decide (z.length ≤ 40) && _) = _; rw [decide_eq_false (by omega), Bool.false_and]
      rw [e] at q
      exact q _ (Fr.refl _)
    · walk_at "rd"
      intro D nD
      refine x_lcS (fun i H' => Fr Non H H' ∧ H' D = some (.lst (((z.cps.toList.take i).map signB).map V.bl))) ⟨by walk_at "fr", upd_same⟩ ?_ ?_
      · rintro i c H1 hc ⟨f1, hD⟩
        have hi : i < z.cps.toList.length := (List.getElem?_eq_some_iff.mp hc).1
        have hl : (((z.cps.toList.take i).map signB).map V.bl).length ≤ 100000 := by
          simp only [List.length_map, List.length_take]; rw [← str_len] at *; omega
        have e : ∀ b : Bool, b = signB c → (((z.cps.toList.take i).map signB).map V.bl) ++ [V.bl b] = (((z.cps.toList.take (i + 1)).map signB).map V.bl) := fun b hb => by
          rw [List.take_add_one, hc, hb]; simp
        walk_at "rd"
        refine x_bool (fun k1 => ?_) (fun k1 => ?_)
        · walk_at "rd"
          rw [sg_lo] at k1
          refine ⟨by walk_at "fr", by rw [e _ (by unfold signB; rw [k1, Bool.true_and]; exact sg_hi c)]; exact upd_same⟩
        · walk_at "rd"
          rw [sg_lo] at k1
          refine ⟨by walk_at "fr", by rw [e _ (by unfold signB; rw [k1, Bool.false_and])]; exact upd_same⟩
      · rintro H1 ⟨f1, hD⟩
        rw [List.take_length] at hD
        walk_at "rd"
        refine x_all (SqL.of hD) ?_
        rw [all_map]
        have e : isTxtB (.str z) = z.cps.toList.all signB := by show (decide (z.length ≤ 40) && _) = _; rw [decide_eq_true (by omega), Bool.true_and]
        rw [e] at q
        exact q _ f1
  | non => walk_at "rd"; exact q _ (Fr.refl _)
  | bl b => walk_at "rd"; exact q _ (Fr.refl _)
  | int z => walk_at "rd"; exact q _ (Fr.refl _)
  | lst h n0 => walk_at "rd"; exact q _ (Fr.refl _)
  | dct h n0 => walk_at "rd"; exact q _ (Fr.refl _)
  | tup h hs => walk_at "rd"; exact q _ (Fr.refl _)
end

-- the def top 16
theorem sc_is_within : FnScope ["thing", "room", "part"] ["thing", "room"] (defScope s_is_within) := ⟨rfl, rfl, rfl, by decide +kernel, rfl, by decide +kernel, by decide +kernel⟩
def B_is_within (r : Nat) : BK2 := fun t rm H Q _ => ∃ d, rm = .int (r : Int) ∧ Tg H t d ∧ txtSmall d ∧ ∀ H', Fr Non H H' → Q (.bl (keyB r d)) H'
section
variable {P : Program} {w : World} {K : PySem.W.Frag} {mg : Str → Option Value} {base : Heap}
theorem step_is_within (T : TX K mg) (r k : Nat) (spR : Sp) (hR : ∀ r1, r = r1 + 1 → ∀ vs H Q E, Sp2 (B_is_within r1) vs H Q E → spR vs H Q E) (C_is_within : CalX P w K mg base k "is_within" ["thing", "room"] spR) (hk : 1 ≤ k) : CalX P w K mg base (k + 1) "is_within" ["thing", "room"] (Sp2 (B_is_within r)) := by
  have C_is_number := ok_is_number (P := P) (w := w) (base := base) T
  have C_is_text := ok_is_text (P := P) (w := w) (base := base) T
  obtain ⟨f, fd, F, hm, bd⟩ := T.d_is_within.ex
  refine ⟨f, fd, F.okX sc_is_within len2 (fun cdv A outer s H vs Q E hr h => ?_), hm, F.kp, bd⟩
  obtain ⟨t, rm, rfl, h⟩ := h
  refine ⟨_, (pss_cons (ps_if (PW.pt (pw_or (pt_val (pcall C_is_number hr (by first | decide | omega) rfl Passes.none (pa_cons (pv 0) pa_nil))) (pw_or1 (pt_val (pcall C_is_text hr (by first | decide | omega) rfl Passes.none (pa_cons (pv 0) pa_nil)))))) (pss_one (ps_ret pe_bl)) pss_nil) (pss_cons (ps_if (PW.pt (pw_or (pt_not (pt_val (pe_callB call_isi (by rfl) T.b_isinstance PyProof.Rows.boot_isinstance (pa_cons (pv 0) (pa_cons (pe_bltn (v := .ty "tuple") rfl T.b_tuple PyProof.Rows.boot_tuple rfl) pa_nil))))) (pw_or (pt_cmpR op_eq (pv 1) pe_int (nomark _)) (pw_or1 (pt_cmpR op_gt (pe_callB c_lenA (by rfl) T.b_len (by decide +kernel) (pa_cons (pv 0) pa_nil)) (pconst T.c_WIDE rfl) (nomark _)))))) (pss_one (ps_ret pe_bl)) pss_nil) (pss_one (ps_ret (pe_callB (cr_all rfl) (by rfl) T.b_all (by decide +kernel) (pa_cons (pe_lc (own := [("part", 2)]) (g := gName 2) (tt := tYes) rfl sc_is_within.nd (pi_tup (pv 0)) (blkOk_by (N := ["thing", "room", "part"]) (sc := defScope s_is_within) (own := [("part", 2)]) (by decide +kernel)) (fun _ _ _ _ _ => pg_name (i := 2) sc_is_within.nd rfl (by first | exact Or.inl rfl | exact Or.inr rfl)) (fun _ _ _ _ _ => pts_nil) (fun _ _ _ _ _ => (pcall C_is_within hr (by first | decide | omega) rfl Passes.none (pa_cons (pv 2) (pa_cons (pe_op op_sub (pv 1) pe_int) pa_nil))))) pa_nil)))))), ?_⟩
  show (_ : TS) _ [some t, some rm, none] H
  first | dsimp only [L2.cxOf] | skip
  obtain ⟨d, rfl, hd, hz, q⟩ := h
  walk_at "rd"
  refine ⟨d, hd, ?_⟩
  cases hd with
  | int i =>
    rw [keyB_int] at q
    cases hb : isNumB (.int i) with
    | true =>
      walk_at "rd"
      have e : numB i = true := hb
      rw [e] at q
      exact q _ (Fr.refl _)
    | false =>
      walk_at "rd"
      refine ⟨.int i, .int i, (by intro w e; cases e), fun H1 f1 => ?_⟩
      walk_at "rd"
      refine x_no rfl ?_
      walk_at "rd"
      have e : numB i = false := hb
      rw [e] at q
      exact q _ f1
  | str z =>
    rw [keyB_str] at q
    walk_at "rd"
    refine x_no rfl ?_
    walk_at "rd"
    refine ⟨.str z, .str z, (by intro w e; cases e; exact hz.1), fun H1 f1 => ?_⟩
    cases hb : isTxtB (.str z) with
    | true =>
      walk_at "rd"
      have e : txtB z = true := hb
      rw [e] at q
      exact q _ f1
    | false =>
      walk_at "rd"
      have e : txtB z = false := hb
      rw [e] at q
      exact q _ f1
  | non =>
    have e : keyB r .none = false := by cases r <;> rfl
    rw [e] at q
    walk_at "rd"
    refine ⟨.none, .non, (by intro w e; cases e), fun H1 f1 => ?_⟩
    walk_at "rd"
    exact q _ f1
  | bl b =>
    have e : keyB r (.bool b) = false := by cases r <;> rfl
    rw [e] at q
    walk_at "rd"
    refine x_no rfl ?_
    walk_at "rd"
    refine ⟨.bool b, .bl b, (by intro w e; cases e), fun H1 f1 => ?_⟩
    walk_at "rd"
    refine x_no rfl ?_
    walk_at "rd"
    exact q _ f1
  | lst h n0 =>
    have e : keyB r (.list []) = false := by cases r <;> rfl
    rw [e] at q
    walk_at "rd"
    refine ⟨.list [], .lst h n0, (by intro w e; cases e), fun H1 f1 => ?_⟩
    have h1 := f1.keep _ _ h id
    walk_at "rd"
    exact q _ f1
  | dct h n0 =>
    have e : keyB r (.dict []) = false := by cases r <;> rfl
    rw [e] at q
    walk_at "rd"
    refine ⟨.dict [], .dct h n0, (by intro w e; cases e), fun H1 f1 => ?_⟩
    have h1 := f1.keep _ _ h id
    walk_at "rd"
    exact q _ f1
  | @tup a xs ds e0 hs =>
    walk_at "rd"
    refine x_no rfl ?_
    walk_at "rd"
    refine ⟨.tuple ds, .tup e0 hs, (by intro w e; cases e), fun H1 f1 => ?_⟩
    walk_at "rd"
    refine x_no rfl ?_
    have e1 := f1.tup _ _ e0
    have hs1 := TgAll.mono f1 _ _ hs
    walk_at "rd"
    refine x_dec (fun c1 => ?_) (fun c1 => ?_)
    · walk_at "rd"
      have e : keyB r (.tuple ds) = false := by
        obtain rfl : r = 0 := by omega
        rfl
      rw [e] at q
      exact q _ f1
    · obtain ⟨r1, rfl⟩ : ∃ r1, r = r1 + 1 := ⟨r - 1, by omega⟩
      have ek : keyB (r1 + 1) (.tuple ds) = (decide (ds.length ≤ 4) && ds.all (keyB r1)) := rfl
      rw [ek] at q
      have hlen := hs.length
      walk_at "rd"
      refine x_dec (fun c2 => ?_) (fun c2 => ?_)
      · walk_at "rd"
        rw [decide_eq_false (by omega), Bool.false_and] at q
        exact q _ f1
      · rw [decide_eq_true (by omega), Bool.true_and] at q
        walk_at "rd"
        refine x_iRef (C := fun a => ∃ xs, SqT K H1 a xs) ⟨xs, SqT.of e1⟩ ?_
        walk_at "rd"
        intro D nD
        have nD0 : Fresh H D := f1.free nD
        refine x_lcT xs (fun i H' => Fr Non H H' ∧ H' D = some (.lst (((ds.take i).map (keyB r1)).map V.bl)) ∧ Fr Non H1 H') ⟨by walk_at "fr", upd_same, by walk_at "fr"⟩ (fun i H' _ ⟨_, _, f⟩ => SqT.of (f.tup _ _ e1)) ?_ ?_
        · rintro i x H3 hx ⟨f3, hD, f13⟩
          obtain ⟨d, hd1, hd2⟩ := hs1.get hx
          have hi : i < xs.length := (List.getElem?_eq_some_iff.mp hx).1
          have hl : (((ds.take i).map (keyB r1)).map V.bl).length ≤ 100000 := by
            simp only [List.length_map, List.length_take]; omega
          walk_at "rd"
          refine hR r1 rfl _ _ _ _ ?_
          walk_at "rd"
          refine ⟨d, congrArg V.int (by omega), Tg.mono f13 _ _ hd2, txtSmallAll_mem hz d (List.mem_of_getElem? hd1), fun H4 f4 => ?_⟩
          walk_at "rd"
          refine ⟨by walk_at "fr", ?_, by walk_at "fr"⟩
          rw [List.take_add_one, hd1]
          simp only [List.map_append, Option.toList_some, List.map_cons, List.map_nil]
          exact upd_same
        · rintro H3 ⟨f3, hD, _⟩
          rw [List.take_of_length_le (by omega)] at hD
          walk_at "rd"
          refine x_all (SqL.of hD) ?_
          rw [all_map]
          exact q _ f3
theorem ok_is_within (T : TX K mg) : ∀ r : Nat, CalX P w K mg base (2 + r) "is_within" ["thing", "room"] (Sp2 (B_is_within r))
  | 0 => step_is_within T 0 1 _ (fun _ e => nomatch e) (CalX.never T.d_is_within sc_is_within (by decide)) (Nat.le_refl _)
  | r + 1 => step_is_within T (r + 1) (2 + r) _ (fun r1 e => by cases e; exact fun _ _ _ _ h => h) (ok_is_within T r) (by omega)
end

-- the def top 17
theorem sc_is_key : FnScope ["thing"] ["thing"] (defScope s_is_key) := ⟨rfl, rfl, rfl, by decide +kernel, rfl, by decide +kernel, by decide +kernel⟩
def B_is_key : BK1 := fun t H Q _ => ∃ d, Tg H t d ∧ txtSmall d ∧ ∀ H', Fr Non H H' → Q (.bl (keyB 3 d)) H'
section
variable {P : Program} {w : World} {K : PySem.W.Frag} {mg : Str → Option Value} {base : Heap}
theorem ok_is_key (T : TX K mg) : CalX P w K mg base 6 "is_key" ["thing"] (Sp1 (B_is_key)) := by
  have C_is_within := ok_is_within (P := P) (w := w) (base := base) T 3
  obtain ⟨f, fd, F, hm, bd⟩ := T.d_is_key.ex
  refine ⟨f, fd, F.okX sc_is_key len1 (fun cdv A outer s H vs Q E hr h => ?_), hm, F.kp, bd⟩
  obtain ⟨t, rfl, h⟩ := h
  refine ⟨_, (pss_one (ps_ret (pcall C_is_within hr (by first | decide | omega) rfl Passes.none (pa_cons (pv 0) (pa_cons (pconst T.c_DEEP rfl) pa_nil))))), ?_⟩
  show (_ : TS) _ [some t] H
  first | dsimp only [L2.cxOf] | skip
  obtain ⟨d, hd, hz, q⟩ := h
  walk_at "rd"
  exact ⟨d, rfl, hd, hz, q⟩
end

-- the def top 20
theorem sc_law_well : FnScope ["_law_script", "_law_k", "_law_left", "_law_cell", "_law_digits"] ["_law_script", "_law_k"] (defScope s_law_well) := ⟨rfl, rfl, rfl, by decide +kernel, rfl, by decide +kernel, by decide +kernel⟩
def B_law_well (K : PySem.W.Frag) : BK2 := fun s k H Q _ => ∃ (a : Addr) (ns : List Int) (i : Int), s = .ref a ∧ k = .int i ∧ 0 ≤ i ∧ SqL K H a (ns.map V.int) ∧ ns.length ≤ 63 ∧
  ∀ p H', Fr Non H H' → Fresh H p → Well H' p → Q (.ref p) H'
section
variable {P : Program} {w : World} {K : PySem.W.Frag} {mg : Str → Option Value} {base : Heap}
theorem ok_law_well (T : TX K mg) : CalX P w K mg base 1 "_law_well" ["_law_script", "_law_k"] (Sp2 (B_law_well K)) := by
  obtain ⟨f, fd, F, hm, bd⟩ := T.d_law_well.ex
  refine ⟨f, fd, F.okX sc_law_well len2 (fun cdv A outer s H vs Q E hr h => ?_), hm, F.kp, bd⟩
  obtain ⟨s, k, rfl, h⟩ := h
  refine ⟨_, (pss_cons (ps_set (i := 2) sc_law_well.nd rfl (Or.inl rfl) (pe_ix ix_list (pe_lst (pa_cons pe_int (pa_cons pe_int pa_nil))) (pe_callTy c_int (by rfl) T.b_int (by decide +kernel) (pa_cons (pe_cmpR op_eq (pv 1) pe_int (nomark _)) pa_nil)) (fun _ _ => rfl))) (pss_cons (ps_set (i := 3) sc_law_well.nd rfl (Or.inl rfl) (pe_ix ix_list (pe_op op_cat (pe_callTy c_listOf (by rfl) T.b_list (by decide +kernel) (pa_cons (pv 0) pa_nil)) (pe_lst (pa_cons pe_int pa_nil))) (pe_op op_mod (pv 1) (pe_callB (c_max2 rfl) (by rfl) T.b_max (by decide +kernel) (pa_cons pe_int (pa_cons (pe_callB c_len (by rfl) T.b_len (by decide +kernel) (pa_cons (pv 0) pa_nil)) pa_nil)))) (fun _ _ => rfl))) (pss_cons (ps_set (i := 4) sc_law_well.nd rfl (Or.inl rfl) (pe_op op_mul (pe_callB c_abs (by rfl) T.b_abs (by decide +kernel) (pa_cons (pv 3) pa_nil)) (pe_callTy c_int (by rfl) T.b_int (by decide +kernel) (pa_cons (pe_and (pe_cmpR op_ge (pe_callB c_abs (by rfl) T.b_abs (by decide +kernel) (pa_cons (pv 3) pa_nil)) (pe_op op_pow pe_int pe_int) (nomark _)) (pe_one (pe_cmpR op_lt (pv 1) (pe_callB c_len (by rfl) T.b_len (by decide +kernel) (pa_cons (pv 0) pa_nil)) (nomark _)))) pa_nil)))) (pss_one (ps_ret (pe_lst (pa_cons (pe_op op_mod (pv 3) pe_int) (pa_cons (pe_op op_mul pe_int (pv 1)) (pa_cons (pv 4) (pa_cons (pv 2) pa_nil)))))))))), ?_⟩
  show (_ : TS) _ [some s, some k, none, none, none] H
  first | dsimp only [L2.cxOf] | skip
  obtain ⟨a, ns, i, rfl, rfl, hi, hS, hn, q⟩ := h
  have hx : ∃ z : Int, atI (ns.map V.int ++ [V.int 0]) (i % (if ((ns.map V.int).length : Int) > 1 then ((ns.map V.int).length : Int) else 1)) = some (V.int z) := by
    have hm1 : (0 : Int) < (if ((ns.map V.int).length : Int) > 1 then ((ns.map V.int).length : Int) else 1) := by split <;> omega
    have hm2 : (if ((ns.map V.int).length : Int) > 1 then ((ns.map V.int).length : Int) else 1) ≤ ((ns.map V.int ++ [V.int 0]).length : Int) := by
      rw [List.length_append, List.length_singleton]; split <;> omega
    obtain ⟨v, h1, h2⟩ := atI_ex (xs := ns.map V.int ++ [V.int 0]) (Int.emod_nonneg i (by omega)) (Int.lt_of_lt_of_le (Int.emod_lt_of_pos i hm1) hm2)
    have hv : v ∈ ns.map V.int ++ [V.int 0] := List.mem_of_getElem? h2
    rcases List.mem_append.mp hv with hv | hv
    · obtain ⟨z, _, rfl⟩ := List.mem_map.mp hv
      exact ⟨z, h1⟩
    · rw [List.mem_singleton] at hv
      exact ⟨0, by rw [h1, hv]⟩
  have hm1 : (0 : Int) < (if ((ns.map V.int).length : Int) > 1 then ((ns.map V.int).length : Int) else 1) := by split <;> omega
  obtain ⟨z, hz⟩ := hx
  walk_at "rd"
  intro p1 n1
  walk_at "rd"
  intro p2 n2
  walk_at "rd"
  intro p3 n3
  walk_at "rd"
  intro p4 n4
  walk_at "rd"
  refine x_dec (fun _ => ?_) (fun _ => ?_)
  · walk_at "rd"
    intro p5 n5
    exact q _ _ (by walk_at "fr") (by walk_at "nn") ⟨_, _, _, _, upd_same, by omega, by omega⟩
  · walk_at "rd"
    intro p5 n5
    exact q _ _ (by walk_at "fr") (by walk_at "nn") ⟨_, _, _, _, upd_same, by omega, by omega⟩
end

-- the def top 25
theorem sc_law_alike : FnScope ["_law_found", "_law_due", "_law_j"] ["_law_found", "_law_due"] (defScope s_law_alike) := ⟨rfl, rfl, rfl, by decide +kernel, rfl, by decide +kernel, by decide +kernel⟩
def B_law_alike (r : Nat) : BK2 := fun f g H Q _ => ∃ d, Dt H f d ∧ Dt H g d ∧ isK r d ∧ ∀ H', Fr Non H H' → Q (.bl true) H'
section
variable {P : Program} {w : World} {K : PySem.W.Frag} {mg : Str → Option Value} {base : Heap}
theorem step_law_alike (T : TX K mg) (r k : Nat) (spR : Sp) (hR : ∀ r1, r = r1 + 1 → ∀ vs H Q E, Sp2 (B_law_alike r1) vs H Q E → spR vs H Q E) (C_law_alike : CalX P w K mg base k "_law_alike" ["_law_found", "_law_due"] spR) (hk : 1 ≤ k) : CalX P w K mg base (k + 1) "_law_alike" ["_law_found", "_law_due"] (Sp2 (B_law_alike r)) := by
  obtain ⟨f, fd, F, hm, bd⟩ := T.d_law_alike.ex
  refine ⟨f, fd, F.okX sc_law_alike len2 (fun cdv A outer s H vs Q E hr h => ?_), hm, F.kp, bd⟩
  obtain ⟨f, g, rfl, h⟩ := h
  refine ⟨_, (pss_cons (ps_if (pt_val (pe_callB call_isi (by rfl) T.b_isinstance PyProof.Rows.boot_isinstance (pa_cons (pv 1) (pa_cons (pe_bltn (v := .ty "tuple") rfl T.b_tuple PyProof.Rows.boot_tuple rfl) pa_nil)))) (pss_cons (ps_if (PW.pt (pw_or (pt_not (pt_val (pe_callB call_isi (by rfl) T.b_isinstance PyProof.Rows.boot_isinstance (pa_cons (pv 0) (pa_cons (pe_bltn (v := .ty "tuple") rfl T.b_tuple PyProof.Rows.boot_tuple rfl) pa_nil))))) (pw_or1 (pt_cmpR op_ne (pe_callB c_lenA (by rfl) T.b_len (by decide +kernel) (pa_cons (pv 0) pa_nil)) (pe_callB c_lenA (by rfl) T.b_len (by decide +kernel) (pa_cons (pv 1) pa_nil)) (nomark _))))) (pss_one (ps_ret pe_bl)) pss_nil) (pss_one (ps_ret (pe_callB (cr_all rfl) (by rfl) T.b_all (by decide +kernel) (pa_cons (pe_lc (own := [("_law_j", 2)]) (g := gName 2) (tt := tYes) rfl sc_law_alike.nd (pi_range1 rfl T.b_range (pa_cons (pe_callB c_lenA (by rfl) T.b_len (by decide +kernel) (pa_cons (pv 1) pa_nil)) pa_nil)) (blkOk_by (N := ["_law_found", "_law_due", "_law_j"]) (sc := defScope s_law_alike) (own := [("_law_j", 2)]) (by decide +kernel)) (fun _ _ _ _ _ => pg_name (i := 2) sc_law_alike.nd rfl (by first | exact Or.inl rfl | exact Or.inr rfl)) (fun _ _ _ _ _ => pts_nil) (fun _ _ _ _ _ => (pcall C_law_alike hr (by first | decide | omega) rfl Passes.none (pa_cons (pe_ix (r := rIx K) ix_seq (pv 0) (pv 2) (fun _ _ => rfl)) (pa_cons (pe_ix (r := rIx K) ix_seq (pv 1) (pv 2) (fun _ _ => rfl)) pa_nil))))) pa_nil))))) pss_nil) (pss_cons (ps_if (pt_val (pe_callB call_isi (by rfl) T.b_isinstance PyProof.Rows.boot_isinstance (pa_cons (pv 1) (pa_cons (pe_bltn (v := .ty "str") rfl T.b_str PyProof.Rows.boot_str rfl) pa_nil)))) (pss_one (ps_ret (pe_and (pe_callB call_isi (by rfl) T.b_isinstance PyProof.Rows.boot_isinstance (pa_cons (pv 0) (pa_cons (pe_bltn (v := .ty "str") rfl T.b_str PyProof.Rows.boot_str rfl) pa_nil))) (pe_one (pe_cmpR op_eq (pv 0) (pv 1) (nomark _)))))) pss_nil) (pss_one (ps_ret (pe_and (pe_callB call_isi (by rfl) T.b_isinstance PyProof.Rows.boot_isinstance (pa_cons (pv 0) (pa_cons (pe_bltn (v := .ty "int") rfl T.b_int PyProof.Rows.boot_int rfl) pa_nil))) (pe_and (pe_not (pe_callB call_isi (by rfl) T.b_isinstance PyProof.Rows.boot_isinstance (pa_cons (pv 0) (pa_cons (pe_bltn (v := .ty "bool") rfl T.b_bool PyProof.Rows.boot_bool rfl) pa_nil)))) (pe_one (pe_cmpR op_eq (pv 0) (pv 1) (nomark _))))))))), ?_⟩
  show (_ : TS) _ [some f, some g, none] H
  first | dsimp only [L2.cxOf] | skip
  obtain ⟨d, hf, hg, hk, q⟩ := h
  rcases isK_cases hk with ⟨i, rfl, hi⟩ | ⟨z, rfl, hz⟩ | ⟨r1, ds, rfl, rfl, hl, hs⟩
  · cases hf
    cases hg
    walk_at "rd"
    rw [decide_eq_true rfl]
    exact q _ (Fr.refl _)
  · cases hf
    cases hg
    walk_at "rd"
    rw [decide_eq_true rfl]
    exact q _ (Fr.refl _)
  · cases hf with
    | @tup a xs _ e1 h1 =>
    cases hg with
    | @tup b ys _ e2 h2 =>
    have l1 := h1.length
    have l2 := h2.length
    have hbd : -(2 ^ 62) ≤ ((ys.length : Nat) : Int) ∧ ((ys.length : Nat) : Int) < 2 ^ 62 := by constructor <;> omega
    walk_at "rd"
    refine x_ndec (fun h => absurd (show ((xs.length : Nat) : Int) = (ys.length : Nat) by omega) h) (fun _ => ?_)
    walk_at "rd"
    intro D nD
    refine x_lcR (n := ys.length) (fun i H' => Fr Non H H' ∧ H' D = some (.lst ((List.replicate i true).map V.bl))) ⟨by walk_at "fr", upd_same⟩ ?_ ?_
    · rintro i H3 hi ⟨f3, hD⟩
      have e1' := List.getElem?_eq_getElem (show i < xs.length by omega)
      have e2' := List.getElem?_eq_getElem hi
      obtain ⟨d, g1, k1⟩ := h1.get e1'
      obtain ⟨e, g2, k2⟩ := h2.get e2'
      rw [g1] at g2
      cases g2
      have a1 : atI xs (0 + (i : Int)) = some (xs[i]) := by rw [Int.zero_add]; exact atI_nat e1'
      have a2 : atI ys (0 + (i : Int)) = some (ys[i]) := by rw [Int.zero_add]; exact atI_nat e2'
      generalize xs[i] = vx at a1 k1
      generalize ys[i] = vy at a2 k2
      have e13 := f3.tup _ _ e1
      have e23 := f3.tup _ _ e2
      have hl3 : ((List.replicate i true).map V.bl).length ≤ 100000 := by simp only [List.length_map, List.length_replicate]; omega
      walk_at "rd"
      refine hR r1 rfl _ _ _ _ ?_
      walk_at "rd"
      refine ⟨d, k1.mono f3, k2.mono f3, hs d (List.mem_of_getElem? g1), fun H4 f4 => ?_⟩
      walk_at "rd"
      refine ⟨by walk_at "fr", ?_⟩
      rw [List.replicate_succ', List.map_append]
      exact upd_same
    · rintro H3 ⟨f3, hD⟩
      walk_at "rd"
      refine x_all (SqL.of hD) ?_
      have e : (List.replicate ys.length true).all id = true := by rw [List.all_eq_true]; exact fun x hx => by rw [List.eq_of_mem_replicate hx]; rfl
      rw [e]
      exact q _ f3
theorem ok_law_alike (T : TX K mg) : ∀ r : Nat, CalX P w K mg base (2 + r) "_law_alike" ["_law_found", "_law_due"] (Sp2 (B_law_alike r))
  | 0 => step_law_alike T 0 1 _ (fun _ e => nomatch e) (CalX.never T.d_law_alike sc_law_alike (by decide)) (Nat.le_refl _)
  | r + 1 => step_law_alike T (r + 1) (2 + r) _ (fun r1 e => by cases e; exact fun _ _ _ _ h => h) (ok_law_alike T r) (by omega)
end

-- the def top 18
theorem sc_checked : FnScope ["thing"] ["thing"] (defScope s_checked) := ⟨rfl, rfl, rfl, by decide +kernel, rfl, by decide +kernel, by decide +kernel⟩
def B_checked (mg : Str → Option Value) : BK1 := fun t H Q E => ∃ d, Tg H t d ∧ txtSmall d ∧ (keyB 3 d = true → ∀ H', Fr Non H H' → Q t H') ∧ (keyB 3 d = false → ∀ H', Fr Non H H' → E (.ref (clA mg "NoKey")) none H')
section
variable {P : Program} {w : World} {K : PySem.W.Frag} {mg : Str → Option Value} {base : Heap}
theorem ok_checked (T : TX K mg) : CalX P w K mg base 7 "checked" ["thing"] (Sp1 (B_checked mg)) := by
  have C_is_key := ok_is_key (P := P) (w := w) (base := base) T
  obtain ⟨f, fd, F, hm, bd⟩ := T.d_checked.ex
  refine ⟨f, fd, F.okX sc_checked len1 (fun cdv A outer s H vs Q E hr h => ?_), hm, F.kp, bd⟩
  obtain ⟨t, rfl, h⟩ := h
  refine ⟨_, (pss_cons (ps_if (pt_not (pt_val (pcall C_is_key hr (by first | decide | omega) rfl (passes_call (takes_of rfl rfl rfl rfl) (fun _ _ _ _ h => h)) (pa_cons (pv 0) pa_nil)))) (pss_one (ps_raise0 rfl (takes_of rfl rfl rfl rfl) (pmk_own0 PySem.F.excBase_ValueError T.r_NoKey.ex T.r_NoKey.m T.r_NoKey.kp (raises_own T.r_NoKey.sb T.r_NoKey.ty) rfl))) pss_nil) (pss_one (ps_ret (pv 0)))), ?_⟩
  show (_ : TS) _ [some t] H
  first | dsimp only [L2.cxOf] | skip
  obtain ⟨d, hd, hz, q1, q2⟩ := h
  walk_at "rd"
  refine ⟨d, hd, hz, fun H1 f1 => ?_⟩
  walk_at "rd"
  cases hb : keyB 3 d with
  | true =>
    walk_at "rd"
    exact q1 hb _ f1
  | false =>
    walk_at "rd"
    exact q2 hb _ f1
end

-- the def top 29
theorem sc_law_refused : FnScope ["_law_thing_here", "e"] ["_law_thing_here"] (defScope s_law_refused) := ⟨rfl, rfl, rfl, by decide +kernel, rfl, by decide +kernel, by decide +kernel⟩
def B_law_refused : BK1 := fun t H Q _ => ∃ d, Tg H t d ∧ txtSmall d ∧ keyB 3 d = false ∧ ∀ H', Fr Non H H' → Q (.bl true) H'
section
variable {P : Program} {w : World} {K : PySem.W.Frag} {mg : Str → Option Value} {base : Heap}
theorem ok_law_refused (T : TX K mg) : CalX P w K mg base 8 "_law_refused" ["_law_thing_here"] (Sp1 (B_law_refused)) := by
  have C_checked := ok_checked (P := P) (w := w) (base := base) T
  obtain ⟨f, fd, F, hm, bd⟩ := T.d_law_refused.ex
  refine ⟨f, fd, F.okX sc_law_refused len1 (fun cdv A outer s H vs Q E hr h => ?_), hm, F.kp, bd⟩
  obtain ⟨t, rfl, h⟩ := h
  refine ⟨_, (pss_cons (ps_tryAs (i := 1) rfl rfl sc_law_refused.nd rfl rfl ⟨rfl, by decide, .inl T.x_TwigError.m⟩ takes0 (fun W pn xe tk _ => (pss_one (ps_expr (pcallX C_checked hr (by first | decide | omega) rfl tk (pa_cons (pv 0) pa_nil))))) (fun a oe cls d pn hz hf => (pss_cons (ps_if (pt_val (pe_callB (r := rIsXT K a cls d) (call_isXT hz hf) (by rfl) T.b_isinstance PyProof.Rows.boot_isinstance (pa_cons (pv 1) (pa_cons (pe_tup (pa_cons (pe_glob (v := .ref (clA mg "NoLeaf")) rfl T.x_NoLeaf.m rfl) (pa_cons (pe_glob (v := .ref (clA mg "NoStem")) rfl T.x_NoStem.m rfl) (pa_cons (pe_glob (v := .ref (clA mg "NoText")) rfl T.x_NoText.m rfl) (pa_cons (pe_glob (v := .ref (clA mg "NoTwig")) rfl T.x_NoTwig.m rfl) (pa_cons (pe_glob (v := .ref (clA mg "Shared")) rfl T.x_Shared.m rfl) (pa_cons (pe_glob (v := .ref (clA mg "Stale")) rfl T.x_Stale.m rfl) pa_nil))))))) pa_nil)))) (pss_one (ps_ret pe_bl)) pss_nil) (pss_one (ps_ret (pe_and (pe_callB (r := rIsX K a cls d) (call_isX hz hf) (by rfl) T.b_isinstance PyProof.Rows.boot_isinstance (pa_cons (pv 1) (pa_cons (pe_glob (v := .ref (clA mg "NoKey")) rfl T.x_NoKey.m rfl) pa_nil))) (pe_one (pe_callB (r := rIsX K a cls d) (call_isX hz hf) (by rfl) T.b_isinstance PyProof.Rows.boot_isinstance (pa_cons (pv 1) (pa_cons (pe_bltn (v := .ty "ValueError") rfl T.b_ValueError boot_ValueError rfl) pa_nil)))))))))) (pss_one (ps_ret pe_bl))), ?_⟩
  show (_ : TS) _ [some t, none] H
  first | dsimp only [L2.cxOf] | skip
  obtain ⟨d, hd, hz, hb, q⟩ := h
  walk_at "rd"
  refine ⟨d, hd, hz, fun h => absurd h (by rw [hb]; decide), fun _ H1 f1 => ?_⟩
  refine x_wAsT T.em_NoKey fun a ha => ?_
  walk_at "rd"
  intro tp ntp
  walk_at "rd"
  refine x_isXT (excC_of T.xc_NoKey) upd_same (.cons (.own _) (.cons (.own _) (.cons (.own _) (.cons (.own _) (.cons (.own _) (.cons (.own _) .nil)))))) T.ka_NoKey_6 ?_
  walk_at "rd"
  refine x_isX (excC_of T.xc_NoKey) (.own _) T.ki_NoKey ?_
  walk_at "rd"
  refine x_isX (excC_of T.xc_NoKey) (.ty _) T.ki_NoKey_VE ?_
  exact q _ (by walk_at "fr")
end

-- the def top 30
theorem sc_law : FnScope ["_law_script", "_law_k", "_law_thing_here", "_law_good_here", "_law_found"] ["_law_script"] (defScope s_law) := ⟨rfl, rfl, rfl, by decide +kernel, rfl, by decide +kernel, by decide +kernel⟩
def B_law (K : PySem.W.Frag) : BK1 := fun s H Q _ => ∃ (a : Addr) (ns : List Int), s = .ref a ∧ SqL K H a (ns.map V.int) ∧ ns.length ≤ 63 ∧ ∀ H', Q (.bl true) H'
section
variable {P : Program} {w : World} {K : PySem.W.Frag} {mg : Str → Option Value} {base : Heap}
theorem ok_law (T : TX K mg) {f : Addr} {fd : FuncData} (F : Fun K "law" "law" s_law f fd) : FnOk P w K mg base (L2.CX P w) 9 f fd ["_law_script"] (Sp1 (B_law K)) := by
  have C_law_thing := ok_law_thing (P := P) (w := w) (base := base) T
  have C_law_good := ok_law_good (P := P) (w := w) (base := base) T 3
  have C_is_key := ok_is_key (P := P) (w := w) (base := base) T
  have C_law_well := ok_law_well (P := P) (w := w) (base := base) T
  have C_law_alike := ok_law_alike (P := P) (w := w) (base := base) T 3
  have C_law_refused := ok_law_refused (P := P) (w := w) (base := base) T
  have C_checked := ok_checked (P := P) (w := w) (base := base) T
  refine F.okX sc_law len1 (fun cdv A outer s H vs Q E hr h => ?_)
  obtain ⟨s, rfl, h⟩ := h
  refine ⟨_, (pss_cons (ps_for (passes_of rfl) rfl (pi_range1 rfl T.b_range (pa_cons pe_int pa_nil)) (pg_name (i := 1) sc_law.nd rfl (Or.inl rfl)) (pss_cons (ps_set (i := 2) sc_law.nd rfl (Or.inl rfl) (pcall C_law_thing hr (by first | decide | omega) rfl Passes.none (pa_cons (pcall C_law_well hr (by first | decide | omega) rfl Passes.none (pa_cons (pv 0) (pa_cons (pv 1) pa_nil))) pa_nil))) (pss_cons (ps_set (i := 3) sc_law.nd rfl (Or.inl rfl) (pcall C_law_good hr (by first | decide | omega) rfl Passes.none (pa_cons (pv 2) (pa_cons pe_int pa_nil)))) (pss_cons (ps_set (i := 4) sc_law.nd rfl (Or.inl rfl) (pcall C_is_key hr (by first | decide | omega) rfl Passes.none (pa_cons (pv 2) pa_nil))) (pss_cons (ps_if (PW.pt (pw_or (pt_not (pt_val (pe_callB call_isi (by rfl) T.b_isinstance PyProof.Rows.boot_isinstance (pa_cons (pv 4) (pa_cons (pe_bltn (v := .ty "bool") rfl T.b_bool PyProof.Rows.boot_bool rfl) pa_nil))))) (pw_or1 (pt_cmpR op_ne (pv 4) (pv 3) (nomark _))))) (pss_one (ps_ret pe_bl)) pss_nil) (pss_cons (ps_if (PW.pt (pw_and (pt_val (pv 3)) (pw_and1 (pt_not (pt_val (pcall C_law_alike hr (by first | decide | omega) rfl Passes.none (pa_cons (pcall C_checked hr (by first | decide | omega) rfl Passes.none (pa_cons (pv 2) pa_nil)) (pa_cons (pv 2) pa_nil)))))))) (pss_one (ps_ret pe_bl)) pss_nil) (pss_one (ps_if (PW.pt (pw_and (pt_not (pt_val (pv 3))) (pw_and1 (pt_not (pt_val (pcall C_law_refused hr (by first | decide | omega) rfl Passes.none (pa_cons (pv 2) pa_nil))))))) (pss_one (ps_ret pe_bl)) pss_nil)))))))) (pss_one (ps_ret pe_bl))), ?_⟩
  show (_ : TS) _ [some s, none, none, none, none] H
  first | dsimp only [L2.cxOf] | skip
  obtain ⟨a, ns, rfl, hS, hn, q⟩ := h
  walk_at "rd"
  refine x_forR (n := 20) (fun i σ H' => ∃ (v1 v2 v3 v4 : Option V), σ = [some (.ref a), v1, v2, v3, v4] ∧ Fr Non H H') ⟨_, _, _, _, rfl, Fr.refl _⟩ ?_ ?_
  · rintro i σ H1 hi ⟨v1, v2, v3, v4, rfl, f1⟩
    walk_at "rd"
    refine ⟨a, ns, _, rfl, rfl, by omega, SqL_fr hS f1 id, hn, fun p H2 f2 nP w2 => ?_⟩
    have f2' : Fr Non H H2 := f1.trans f2
    have nP' : Fresh H p := f1.free nP
    walk_at "rd"
    refine ⟨p, rfl, w2, fun v d H3 f3 w3 hd hs => ?_⟩
    have f3' : Fr Non H H3 := f2'.sub' f3 fun b h => by subst h; exact .inr nP'
    have hd3 := TgS.weak _ _ hd
    walk_at "rd"
    refine ⟨d, rfl, hd3, hs, fun H4 f4 => ?_⟩
    have hd4 := Tg.mono f4 _ _ hd3
    walk_at "rd"
    refine ⟨d, hd4, hs, fun H5 f5 => ?_⟩
    have hd5 := Tg.mono f5 _ _ hd4
    have f05 := (f3'.trans f4).trans f5
    walk_at "rd"
    refine x_ndec (fun h => absurd rfl h) (fun _ => ?_)
    walk_at "rd"
    cases hb : keyB 3 d with
    | true =>
      walk_at "rd"
      refine ⟨d, hd5, hs, fun _ H6 f6 => ?_, fun h => absurd (hb.symm.trans h) (by decide)⟩
      have hd6 := Tg.mono f6 _ _ hd5
      have hk := keyB_iff.mp hb
      have hdt := TgS.dt 3 _ _ hk hd6
      walk_at "rd"
      refine ⟨d, hdt, hdt, hk, fun H7 f7 => ?_⟩
      walk_at "rd"
      exact ⟨_, _, _, _, rfl, (f05.trans f6).trans f7⟩
    | false =>
      walk_at "rd"
      refine ⟨d, hd5, hs, hb, fun H6 f6 => ?_⟩
      walk_at "rd"
      exact ⟨_, _, _, _, rfl, f05.trans f6⟩
  · rintro σ H1 ⟨v1, v2, v3, v4, rfl, f1⟩
    walk_at "rd"
    exact q _
end

theorem all_mk {l : PySem.W.OpenLaw} {w : World} {K : PySem.W.Frag} {h : Heap} {mg : Str → Option Value} {fa : Addr} {f0 : Addr} {od0 an0 : Option Addr} {sl0 : Array (Option Value)} {oc0 kV0 dc0 pm0 cd0 ct0 : Value} {f1 : Addr} {od1 an1 : Option Addr} {sl1 : Array (Option Value)} {oc1 kV1 dc1 pm1 cd1 ct1 : Value} {f2 : Addr} {od2 an2 : Option Addr} {sl2 : Array (Option Value)} {oc2 kV2 dc2 pm2 cd2 ct2 : Value} {f3 : Addr} {od3 an3 : Option Addr} {sl3 : Array (Option Value)} {oc3 kV3 dc3 pm3 cd3 ct3 : Value} {f4 : Addr} {od4 an4 : Option Addr} {sl4 : Array (Option Value)} {oc4 kV4 dc4 pm4 cd4 ct4 : Value} {f5 : Addr} {od5 an5 : Option Addr} {sl5 : Array (Option Value)} {oc5 kV5 dc5 pm5 cd5 ct5 : Value} {f6 : Addr} {od6 an6 : Option Addr} {sl6 : Array (Option Value)} {oc6 kV6 dc6 pm6 cd6 ct6 : Value} {f7 : Addr} {od7 an7 : Option Addr} {sl7 : Array (Option Value)} {oc7 kV7 dc7 pm7 cd7 ct7 : Value} {f8 : Addr} {od8 an8 : Option Addr} {sl8 : Array (Option Value)} {oc8 kV8 dc8 pm8 cd8 ct8 : Value} {f9 : Addr} {od9 an9 : Option Addr} {sl9 : Array (Option Value)} {oc9 kV9 dc9 pm9 cd9 ct9 : Value} {f10 : Addr} {od10 an10 : Option Addr} {sl10 : Array (Option Value)} {oc10 kV10 dc10 pm10 cd10 ct10 : Value} {f11 : Addr} {od11 an11 : Option Addr} {sl11 : Array (Option Value)} {oc11 kV11 dc11 pm11 cd11 ct11 : Value} {f12 : Addr} {od12 an12 : Option Addr} {sl12 : Array (Option Value)} {oc12 kV12 dc12 pm12 cd12 ct12 : Value} {f13 : Addr} {od13 an13 : Option Addr} {sl13 : Array (Option Value)} {oc13 kV13 dc13 pm13 cd13 ct13 : Value} {f14 : Addr} {od14 an14 : Option Addr} {sl14 : Array (Option Value)} {oc14 kV14 dc14 pm14 cd14 ct14 : Value} {f15 : Addr} {od15 an15 : Option Addr} {sl15 : Array (Option Value)} {oc15 kV15 dc15 pm15 cd15 ct15 : Value} {t_BOUND : Nat} {t_DEEP : Nat} {t_SIGNS : Nat} {t_WIDE : Nat} {k_NoKey : Addr} {k_NoLeaf : Addr} {k_NoStem : Addr} {k_NoText : Addr} {k_NoTwig : Addr} {k_Shared : Addr} {k_Stale : Addr} {k_TwigError : Addr} (X : K.In h) (G : h.Ns mainGlobals mg) (hfa : mg "law" = some (.ref fa))
    (a0 : PySem.W.nsIn K mainGlobals "_law_pull" = some (some (.ref f0))) (l0 : K.lookup f0 = some ⟨oc0, od0, .func (PySem.W.fnOf "_law_pull" "_law_pull" (defArgs s_law_pull) (defBody s_law_pull) (defScope s_law_pull) .none kV0 dc0 pm0 an0 cd0 ct0), sl0⟩) (c0 : PySem.W.codeIn K cd0 "_law_pull" = true) (k0 : PySem.W.keepIn K (.ref f0) = true)
    (a1 : PySem.W.nsIn K mainGlobals "_law_text" = some (some (.ref f1))) (l1 : K.lookup f1 = some ⟨oc1, od1, .func (PySem.W.fnOf "_law_text" "_law_text" (defArgs s_law_text) (defBody s_law_text) (defScope s_law_text) .none kV1 dc1 pm1 an1 cd1 ct1), sl1⟩) (c1 : PySem.W.codeIn K cd1 "_law_text" = true) (k1 : PySem.W.keepIn K (.ref f1) = true)
    (a2 : PySem.W.nsIn K mainGlobals "_law_great" = some (some (.ref f2))) (l2 : K.lookup f2 = some ⟨oc2, od2, .func (PySem.W.fnOf "_law_great" "_law_great" (defArgs s_law_great) (defBody s_law_great) (defScope s_law_great) .none kV2 dc2 pm2 an2 cd2 ct2), sl2⟩) (c2 : PySem.W.codeIn K cd2 "_law_great" = true) (k2 : PySem.W.keepIn K (.ref f2) = true)
    (a3 : PySem.W.nsIn K mainGlobals "_law_key" = some (some (.ref f3))) (l3 : K.lookup f3 = some ⟨oc3, od3, .func (PySem.W.fnOf "_law_key" "_law_key" (defArgs s_law_key) (defBody s_law_key) (defScope s_law_key) .none kV3 dc3 pm3 an3 cd3 ct3), sl3⟩) (c3 : PySem.W.codeIn K cd3 "_law_key" = true) (k3 : PySem.W.keepIn K (.ref f3) = true)
    (a4 : PySem.W.nsIn K mainGlobals "_law_odd" = some (some (.ref f4))) (l4 : K.lookup f4 = some ⟨oc4, od4, .func (PySem.W.fnOf "_law_odd" "_law_odd" (defArgs s_law_odd) (defBody s_law_odd) (defScope s_law_odd) .none kV4 dc4 pm4 an4 cd4 ct4), sl4⟩) (c4 : PySem.W.codeIn K cd4 "_law_odd" = true) (k4 : PySem.W.keepIn K (.ref f4) = true)
    (a5 : PySem.W.nsIn K mainGlobals "_law_thing" = some (some (.ref f5))) (l5 : K.lookup f5 = some ⟨oc5, od5, .func (PySem.W.fnOf "_law_thing" "_law_thing" (defArgs s_law_thing) (defBody s_law_thing) (defScope s_law_thing) .none kV5 dc5 pm5 an5 cd5 ct5), sl5⟩) (c5 : PySem.W.codeIn K cd5 "_law_thing" = true) (k5 : PySem.W.keepIn K (.ref f5) = true)
    (a6 : PySem.W.nsIn K mainGlobals "_law_good" = some (some (.ref f6))) (l6 : K.lookup f6 = some ⟨oc6, od6, .func (PySem.W.fnOf "_law_good" "_law_good" (defArgs s_law_good) (defBody s_law_good) (defScope s_law_good) .none kV6 dc6 pm6 an6 cd6 ct6), sl6⟩) (c6 : PySem.W.codeIn K cd6 "_law_good" = true) (k6 : PySem.W.keepIn K (.ref f6) = true)
    (a7 : PySem.W.nsIn K mainGlobals "is_number" = some (some (.ref f7))) (l7 : K.lookup f7 = some ⟨oc7, od7, .func (PySem.W.fnOf "is_number" "is_number" (defArgs s_is_number) (defBody s_is_number) (defScope s_is_number) .none kV7 dc7 pm7 an7 cd7 ct7), sl7⟩) (c7 : PySem.W.codeIn K cd7 "is_number" = true) (k7 : PySem.W.keepIn K (.ref f7) = true)
    (a8 : PySem.W.nsIn K mainGlobals "is_text" = some (some (.ref f8))) (l8 : K.lookup f8 = some ⟨oc8, od8, .func (PySem.W.fnOf "is_text" "is_text" (defArgs s_is_text) (defBody s_is_text) (defScope s_is_text) .none kV8 dc8 pm8 an8 cd8 ct8), sl8⟩) (c8 : PySem.W.codeIn K cd8 "is_text" = true) (k8 : PySem.W.keepIn K (.ref f8) = true)
    (a9 : PySem.W.nsIn K mainGlobals "is_within" = some (some (.ref f9))) (l9 : K.lookup f9 = some ⟨oc9, od9, .func (PySem.W.fnOf "is_within" "is_within" (defArgs s_is_within) (defBody s_is_within) (defScope s_is_within) .none kV9 dc9 pm9 an9 cd9 ct9), sl9⟩) (c9 : PySem.W.codeIn K cd9 "is_within" = true) (k9 : PySem.W.keepIn K (.ref f9) = true)
    (a10 : PySem.W.nsIn K mainGlobals "is_key" = some (some (.ref f10))) (l10 : K.lookup f10 = some ⟨oc10, od10, .func (PySem.W.fnOf "is_key" "is_key" (defArgs s_is_key) (defBody s_is_key) (defScope s_is_key) .none kV10 dc10 pm10 an10 cd10 ct10), sl10⟩) (c10 : PySem.W.codeIn K cd10 "is_key" = true) (k10 : PySem.W.keepIn K (.ref f10) = true)
    (a11 : PySem.W.nsIn K mainGlobals "_law_well" = some (some (.ref f11))) (l11 : K.lookup f11 = some ⟨oc11, od11, .func (PySem.W.fnOf "_law_well" "_law_well" (defArgs s_law_well) (defBody s_law_well) (defScope s_law_well) .none kV11 dc11 pm11 an11 cd11 ct11), sl11⟩) (c11 : PySem.W.codeIn K cd11 "_law_well" = true) (k11 : PySem.W.keepIn K (.ref f11) = true)
    (a12 : PySem.W.nsIn K mainGlobals "_law_alike" = some (some (.ref f12))) (l12 : K.lookup f12 = some ⟨oc12, od12, .func (PySem.W.fnOf "_law_alike" "_law_alike" (defArgs s_law_alike) (defBody s_law_alike) (defScope s_law_alike) .none kV12 dc12 pm12 an12 cd12 ct12), sl12⟩) (c12 : PySem.W.codeIn K cd12 "_law_alike" = true) (k12 : PySem.W.keepIn K (.ref f12) = true)
    (a13 : PySem.W.nsIn K mainGlobals "checked" = some (some (.ref f13))) (l13 : K.lookup f13 = some ⟨oc13, od13, .func (PySem.W.fnOf "checked" "checked" (defArgs s_checked) (defBody s_checked) (defScope s_checked) .none kV13 dc13 pm13 an13 cd13 ct13), sl13⟩) (c13 : PySem.W.codeIn K cd13 "checked" = true) (k13 : PySem.W.keepIn K (.ref f13) = true)
    (a14 : PySem.W.nsIn K mainGlobals "_law_refused" = some (some (.ref f14))) (l14 : K.lookup f14 = some ⟨oc14, od14, .func (PySem.W.fnOf "_law_refused" "_law_refused" (defArgs s_law_refused) (defBody s_law_refused) (defScope s_law_refused) .none kV14 dc14 pm14 an14 cd14 ct14), sl14⟩) (c14 : PySem.W.codeIn K cd14 "_law_refused" = true) (k14 : PySem.W.keepIn K (.ref f14) = true)
    (a15 : PySem.W.nsIn K mainGlobals "law" = some (some (.ref f15))) (l15 : K.lookup f15 = some ⟨oc15, od15, .func (PySem.W.fnOf "law" "law" (defArgs s_law) (defBody s_law) (defScope s_law) .none kV15 dc15 pm15 an15 cd15 ct15), sl15⟩) (c15 : PySem.W.codeIn K cd15 "law" = true) (k15 : PySem.W.keepIn K (.ref f15) = true)
    (z_ValueError : PySem.W.nsIn K mainGlobals "ValueError" = some none)
    (z_abs : PySem.W.nsIn K mainGlobals "abs" = some none)
    (z_all : PySem.W.nsIn K mainGlobals "all" = some none)
    (z_bool : PySem.W.nsIn K mainGlobals "bool" = some none)
    (z_int : PySem.W.nsIn K mainGlobals "int" = some none)
    (z_isinstance : PySem.W.nsIn K mainGlobals "isinstance" = some none)
    (z_len : PySem.W.nsIn K mainGlobals "len" = some none)
    (z_list : PySem.W.nsIn K mainGlobals "list" = some none)
    (z_max : PySem.W.nsIn K mainGlobals "max" = some none)
    (z_range : PySem.W.nsIn K mainGlobals "range" = some none)
    (z_str : PySem.W.nsIn K mainGlobals "str" = some none)
    (z_tuple : PySem.W.nsIn K mainGlobals "tuple" = some none)
    (u_BOUND : PySem.W.nsIn K mainGlobals "BOUND" = some (some (.int 1000000000000000000000000000000000000000000000000000000000000 t_BOUND)))
    (u_DEEP : PySem.W.nsIn K mainGlobals "DEEP" = some (some (.int 3 t_DEEP)))
    (u_SIGNS : PySem.W.nsIn K mainGlobals "SIGNS" = some (some (.int 40 t_SIGNS)))
    (u_WIDE : PySem.W.nsIn K mainGlobals "WIDE" = some (some (.int 4 t_WIDE)))
    (n_NoKey : PySem.W.nsIn K mainGlobals "NoKey" = some (some (.ref k_NoKey)))
    (n_NoLeaf : PySem.W.nsIn K mainGlobals "NoLeaf" = some (some (.ref k_NoLeaf)))
    (n_NoStem : PySem.W.nsIn K mainGlobals "NoStem" = some (some (.ref k_NoStem)))
    (n_NoText : PySem.W.nsIn K mainGlobals "NoText" = some (some (.ref k_NoText)))
    (n_NoTwig : PySem.W.nsIn K mainGlobals "NoTwig" = some (some (.ref k_NoTwig)))
    (n_Shared : PySem.W.nsIn K mainGlobals "Shared" = some (some (.ref k_Shared)))
    (n_Stale : PySem.W.nsIn K mainGlobals "Stale" = some (some (.ref k_Stale)))
    (n_TwigError : PySem.W.nsIn K mainGlobals "TwigError" = some (some (.ref k_TwigError)))
    (p1_NoKey : PySem.W.keepIn K (.ref k_NoKey) = true) (p2_NoKey : PySem.W.excIn K k_NoKey [.type "ValueError", .type "Exception", .type "BaseException", .type "object"] "ValueError.__new__" = true) (p3_NoKey : PySem.W.subIn K (.ref k_NoKey) (.type "BaseException") = some true) (p4_NoKey : PySem.W.typeIn K (.ref k_NoKey) = some (.type "type"))
    (y_em_NoKey : PySem.W.exmOne K (.ref k_NoKey) (.ref k_TwigError) = some true)
    (y_xc_NoKey : excCB K k_NoKey = true)
    (y_ka_NoKey_6 : PySem.W.kitAny K (.ref k_NoKey) [.ref k_NoLeaf, .ref k_NoStem, .ref k_NoText, .ref k_NoTwig, .ref k_Shared, .ref k_Stale] = some false)
    (y_ki_NoKey : PySem.W.kitOne K (.ref k_NoKey) (.ref k_NoKey) = some true)
    (y_ki_NoKey_VE : PySem.W.kitOne K (.ref k_NoKey) (.type "ValueError") = some true) :
    ∃ fd : FuncData, (∀ (s : Shared) (v : Value), BindsTo s fd ⟨[v], []⟩ [("_law_script", v)]) ∧ ∀ base : Heap, K.In base → base.Ns mainGlobals mg → FnOk l.prog w K mg base (L2.CX l.prog w) 9 fa fd ["_law_script"] (Sp1 (B_law K)) := by
  have e := hfa.symm.trans (PySem.W.mg_of X G a15)
  cases e
  have e_NoKey : clA mg "NoKey" = k_NoKey := clA_of (PySem.W.mg_of X G n_NoKey)
  have e_NoLeaf : clA mg "NoLeaf" = k_NoLeaf := clA_of (PySem.W.mg_of X G n_NoLeaf)
  have e_NoStem : clA mg "NoStem" = k_NoStem := clA_of (PySem.W.mg_of X G n_NoStem)
  have e_NoText : clA mg "NoText" = k_NoText := clA_of (PySem.W.mg_of X G n_NoText)
  have e_NoTwig : clA mg "NoTwig" = k_NoTwig := clA_of (PySem.W.mg_of X G n_NoTwig)
  have e_Shared : clA mg "Shared" = k_Shared := clA_of (PySem.W.mg_of X G n_Shared)
  have e_Stale : clA mg "Stale" = k_Stale := clA_of (PySem.W.mg_of X G n_Stale)
  have e_TwigError : clA mg "TwigError" = k_TwigError := clA_of (PySem.W.mg_of X G n_TwigError)
  have T : TX K mg := {
    d_law_pull := ⟨_, _, fun_mk (st := s_law_pull) l0 c0 k0, PySem.W.mg_of X G a0, (fun_mk (st := s_law_pull) l0 c0 k0).binds (ps := ["_law_well_here", "_law_many"]) fun _ _ _ _ _ _ us hl => match us, hl with | [_, _], _ => rfl⟩,
    d_law_text := ⟨_, _, fun_mk (st := s_law_text) l1 c1 k1, PySem.W.mg_of X G a1, (fun_mk (st := s_law_text) l1 c1 k1).binds (ps := ["_law_well_here"]) fun _ _ _ _ _ _ us hl => match us, hl with | [_], _ => rfl⟩,
    d_law_great := ⟨_, _, fun_mk (st := s_law_great) l2 c2 k2, PySem.W.mg_of X G a2, (fun_mk (st := s_law_great) l2 c2 k2).binds (ps := ["_law_well_here", "_law_bound"]) fun _ _ _ _ _ _ us hl => match us, hl with | [_, _], _ => rfl⟩,
    d_law_key := ⟨_, _, fun_mk (st := s_law_key) l3 c3 k3, PySem.W.mg_of X G a3, (fun_mk (st := s_law_key) l3 c3 k3).binds (ps := ["_law_well_here", "_law_room"]) fun _ _ _ _ _ _ us hl => match us, hl with | [_, _], _ => rfl⟩,
    d_law_odd := ⟨_, _, fun_mk (st := s_law_odd) l4 c4 k4, PySem.W.mg_of X G a4, (fun_mk (st := s_law_odd) l4 c4 k4).binds (ps := ["_law_well_here"]) fun _ _ _ _ _ _ us hl => match us, hl with | [_], _ => rfl⟩,
    d_law_thing := ⟨_, _, fun_mk (st := s_law_thing) l5 c5 k5, PySem.W.mg_of X G a5, (fun_mk (st := s_law_thing) l5 c5 k5).binds (ps := ["_law_well_here"]) fun _ _ _ _ _ _ us hl => match us, hl with | [_], _ => rfl⟩,
    d_law_good := ⟨_, _, fun_mk (st := s_law_good) l6 c6 k6, PySem.W.mg_of X G a6, (fun_mk (st := s_law_good) l6 c6 k6).binds (ps := ["_law_thing_here", "_law_room"]) fun _ _ _ _ _ _ us hl => match us, hl with | [_, _], _ => rfl⟩,
    d_is_number := ⟨_, _, fun_mk (st := s_is_number) l7 c7 k7, PySem.W.mg_of X G a7, (fun_mk (st := s_is_number) l7 c7 k7).binds (ps := ["thing"]) fun _ _ _ _ _ _ us hl => match us, hl with | [_], _ => rfl⟩,
    d_is_text := ⟨_, _, fun_mk (st := s_is_text) l8 c8 k8, PySem.W.mg_of X G a8, (fun_mk (st := s_is_text) l8 c8 k8).binds (ps := ["thing"]) fun _ _ _ _ _ _ us hl => match us, hl with | [_], _ => rfl⟩,
    d_is_within := ⟨_, _, fun_mk (st := s_is_within) l9 c9 k9, PySem.W.mg_of X G a9, (fun_mk (st := s_is_within) l9 c9 k9).binds (ps := ["thing", "room"]) fun _ _ _ _ _ _ us hl => match us, hl with | [_, _], _ => rfl⟩,
    d_is_key := ⟨_, _, fun_mk (st := s_is_key) l10 c10 k10, PySem.W.mg_of X G a10, (fun_mk (st := s_is_key) l10 c10 k10).binds (ps := ["thing"]) fun _ _ _ _ _ _ us hl => match us, hl with | [_], _ => rfl⟩,
    d_law_well := ⟨_, _, fun_mk (st := s_law_well) l11 c11 k11, PySem.W.mg_of X G a11, (fun_mk (st := s_law_well) l11 c11 k11).binds (ps := ["_law_script", "_law_k"]) fun _ _ _ _ _ _ us hl => match us, hl with | [_, _], _ => rfl⟩,
    d_law_alike := ⟨_, _, fun_mk (st := s_law_alike) l12 c12 k12, PySem.W.mg_of X G a12, (fun_mk (st := s_law_alike) l12 c12 k12).binds (ps := ["_law_found", "_law_due"]) fun _ _ _ _ _ _ us hl => match us, hl with | [_, _], _ => rfl⟩,
    d_checked := ⟨_, _, fun_mk (st := s_checked) l13 c13 k13, PySem.W.mg_of X G a13, (fun_mk (st := s_checked) l13 c13 k13).binds (ps := ["thing"]) fun _ _ _ _ _ _ us hl => match us, hl with | [_], _ => rfl⟩,
    d_law_refused := ⟨_, _, fun_mk (st := s_law_refused) l14 c14 k14, PySem.W.mg_of X G a14, (fun_mk (st := s_law_refused) l14 c14 k14).binds (ps := ["_law_thing_here"]) fun _ _ _ _ _ _ us hl => match us, hl with | [_], _ => rfl⟩,
    d_law := ⟨_, _, fun_mk (st := s_law) l15 c15 k15, PySem.W.mg_of X G a15, (fun_mk (st := s_law) l15 c15 k15).binds (ps := ["_law_script"]) fun _ _ _ _ _ _ us hl => match us, hl with | [_], _ => rfl⟩,
    b_ValueError := PySem.W.mg_none_of X G z_ValueError,
    b_abs := PySem.W.mg_none_of X G z_abs,
    b_all := PySem.W.mg_none_of X G z_all,
    b_bool := PySem.W.mg_none_of X G z_bool,
    b_int := PySem.W.mg_none_of X G z_int,
    b_isinstance := PySem.W.mg_none_of X G z_isinstance,
    b_len := PySem.W.mg_none_of X G z_len,
    b_list := PySem.W.mg_none_of X G z_list,
    b_max := PySem.W.mg_none_of X G z_max,
    b_range := PySem.W.mg_none_of X G z_range,
    b_str := PySem.W.mg_none_of X G z_str,
    b_tuple := PySem.W.mg_none_of X G z_tuple,
    c_BOUND := ⟨_, PySem.W.mg_of X G u_BOUND, ⟨_, rfl⟩⟩,
    c_DEEP := ⟨_, PySem.W.mg_of X G u_DEEP, ⟨_, rfl⟩⟩,
    c_SIGNS := ⟨_, PySem.W.mg_of X G u_SIGNS, ⟨_, rfl⟩⟩,
    c_WIDE := ⟨_, PySem.W.mg_of X G u_WIDE, ⟨_, rfl⟩⟩,
    x_NoKey := ⟨by rw [e_NoKey]; exact PySem.W.mg_of X G n_NoKey⟩,
    x_NoLeaf := ⟨by rw [e_NoLeaf]; exact PySem.W.mg_of X G n_NoLeaf⟩,
    x_NoStem := ⟨by rw [e_NoStem]; exact PySem.W.mg_of X G n_NoStem⟩,
    x_NoText := ⟨by rw [e_NoText]; exact PySem.W.mg_of X G n_NoText⟩,
    x_NoTwig := ⟨by rw [e_NoTwig]; exact PySem.W.mg_of X G n_NoTwig⟩,
    x_Shared := ⟨by rw [e_Shared]; exact PySem.W.mg_of X G n_Shared⟩,
    x_Stale := ⟨by rw [e_Stale]; exact PySem.W.mg_of X G n_Stale⟩,
    x_TwigError := ⟨by rw [e_TwigError]; exact PySem.W.mg_of X G n_TwigError⟩,
    r_NoKey := ⟨by rw [e_NoKey]; exact PySem.W.mg_of X G n_NoKey, by rw [e_NoKey]; exact p1_NoKey, by rw [e_NoKey]; exact p2_NoKey, by rw [e_NoKey]; exact p3_NoKey, by rw [e_NoKey]; exact p4_NoKey⟩,
    em_NoKey := by rw [e_NoKey, e_TwigError]; exact y_em_NoKey,
    xc_NoKey := by rw [e_NoKey]; exact y_xc_NoKey,
    ka_NoKey_6 := by rw [e_NoKey, e_NoLeaf, e_NoStem, e_NoText, e_NoTwig, e_Shared, e_Stale]; exact y_ka_NoKey_6,
    ki_NoKey := by rw [e_NoKey]; exact y_ki_NoKey,
    ki_NoKey_VE := by rw [e_NoKey]; exact y_ki_NoKey_VE }
  exact ⟨_, fun s v => .of_eq rfl, fun base _ _ => ok_law T (fun_mk (st := s_law) l15 c15 k15)⟩
theorem walk {l : PySem.W.OpenLaw} {q : Program} {loose : List Str} {XP : (Str → Option Value) → Heap → Prop} {YP : World → Heap → Prop} {d : DefRec} {K : Params → PySem.W.Frag} (hn : l.most = some 63) (hdf : d.params.defaults = [])
    (hY : ∀ (w : World) (h : Heap), YP w h → (K w.params).In h)
    (F : ∀ (w : World) (mg : Str → Option Value) (fa : Addr) (h : Heap), (K w.params).In h → h.Ns mainGlobals mg → mg d.name = some (.ref fa) →
      ∃ fd : FuncData, (∀ (s : Shared) (v : Value), BindsTo s fd ⟨[v], []⟩ [("_law_script", v)]) ∧ ∀ base : Heap, (K w.params).In base → base.Ns mainGlobals mg → FnOk l.prog w (K w.params) mg base (L2.CX l.prog w) 9 fa fd ["_law_script"] (Sp1 (B_law (K w.params)))) :
    PySem.W.WalkO q loose XP YP l.row.toRowW d [] (fun f vs => PySem.call f vs) :=
  L2.walk_of (n := 63) (k := 9) (x := "_law_script") (CX := fun w => L2.CX l.prog w) (sp := fun w => Sp1 (B_law (K w.params))) hn (by decide) hdf ⟨rfl, by decide, by decide⟩ hY F (fun _ _ a ns hl _ hS => ⟨_, rfl, a, ns, rfl, hS, hl, fun _ => rfl⟩) fun _ _ _ _ _ z => by obtain ⟨_, _, _, _, _, _, _, _, _, _, _, _, h⟩ := z; exact h
end Tw

open PySem PySem.W PyProof.Rows in
set_option maxRecDepth 100000 in
set_option maxHeartbeats 0 in
theorem PySem.Challenge.cw_twigmap_k11_what_is_a_key_holds : PySem.Challenge.rw_twigmap_k11_what_is_a_key.Holds := by
  w_on; o_law; k_head; (case hw => w_witness2)
  k_fill
  refine Tw.walk (l := PySem.Challenge.rw_twigmap_k11_what_is_a_key) rfl rfl (fun w h Y => PySem.W.kIn_of Y) ?F
  case F =>
    intro w mg fa h KX G hmg
    refine' Tw.all_mk KX G hmg ?a0 ?l0 ?c0 ?k0 ?a1 ?l1 ?c1 ?k1 ?a2 ?l2 ?c2 ?k2 ?a3 ?l3 ?c3 ?k3 ?a4 ?l4 ?c4 ?k4 ?a5 ?l5 ?c5 ?k5 ?a6 ?l6 ?c6 ?k6 ?a7 ?l7 ?c7 ?k7 ?a8 ?l8 ?c8 ?k8 ?a9 ?l9 ?c9 ?k9 ?a10 ?l10 ?c10 ?k10 ?a11 ?l11 ?c11 ?k11 ?a12 ?l12 ?c12 ?k12 ?a13 ?l13 ?c13 ?k13 ?a14 ?l14 ?c14 ?k14 ?a15 ?l15 ?c15 ?k15 ?z_ValueError ?z_abs ?z_all ?z_bool ?z_int ?z_isinstance ?z_len ?z_list ?z_max ?z_range ?z_str ?z_tuple ?u_BOUND ?u_DEEP ?u_SIGNS ?u_WIDE ?n_NoKey ?n_NoLeaf ?n_NoStem ?n_NoText ?n_NoTwig ?n_Shared ?n_Stale ?n_TwigError ?p1_NoKey ?p2_NoKey ?p3_NoKey ?p4_NoKey ?y_em_NoKey ?y_xc_NoKey ?y_ka_NoKey_6 ?y_ki_NoKey ?y_ki_NoKey_VE
    (case a0 => k_is)
    (case l0 => k_is)
    (case c0 => k_is)
    (case k0 => k_is)
    (case a1 => k_is)
    (case l1 => k_is)
    (case c1 => k_is)
    (case k1 => k_is)
    (case a2 => k_is)
    (case l2 => k_is)
    (case c2 => k_is)
    (case k2 => k_is)
    (case a3 => k_is)
    (case l3 => k_is)
    (case c3 => k_is)
    (case k3 => k_is)
    (case a4 => k_is)
    (case l4 => k_is)
    (case c4 => k_is)
    (case k4 => k_is)
    (case a5 => k_is)
    (case l5 => k_is)
    (case c5 => k_is)
    (case k5 => k_is)
    (case a6 => k_is)
    (case l6 => k_is)
    (case c6 => k_is)
    (case k6 => k_is)
    (case a7 => k_is)
    (case l7 => k_is)
    (case c7 => k_is)
    (case k7 => k_is)
    (case a8 => k_is)
    (case l8 => k_is)
    (case c8 => k_is)
    (case k8 => k_is)
    (case a9 => k_is)
    (case l9 => k_is)
    (case c9 => k_is)
    (case k9 => k_is)
    (case a10 => k_is)
    (case l10 => k_is)
    (case c10 => k_is)
    (case k10 => k_is)
    (case a11 => k_is)
    (case l11 => k_is)
    (case c11 => k_is)
    (case k11 => k_is)
    (case a12 => k_is)
    (case l12 => k_is)
    (case c12 => k_is)
    (case k12 => k_is)
    (case a13 => k_is)
    (case l13 => k_is)
    (case c13 => k_is)
    (case k13 => k_is)
    (case a14 => k_is)
    (case l14 => k_is)
    (case c14 => k_is)
    (case k14 => k_is)
    (case a15 => k_is)
    (case l15 => k_is)
    (case c15 => k_is)
    (case k15 => k_is)
    (case z_ValueError => k_is)
    (case z_abs => k_is)
    (case z_all => k_is)
    (case z_bool => k_is)
    (case z_int => k_is)
    (case z_isinstance => k_is)
    (case z_len => k_is)
    (case z_list => k_is)
    (case z_max => k_is)
    (case z_range => k_is)
    (case z_str => k_is)
    (case z_tuple => k_is)
    (case u_BOUND => k_is)
    (case u_DEEP => k_is)
    (case u_SIGNS => k_is)
    (case u_WIDE => k_is)
    (case n_NoKey => k_is)
    (case n_NoLeaf => k_is)
    (case n_NoStem => k_is)
    (case n_NoText => k_is)
    (case n_NoTwig => k_is)
    (case n_Shared => k_is)
    (case n_Stale => k_is)
    (case n_TwigError => k_is)
    (case p1_NoKey => k_is)
    (case p2_NoKey => k_exc)
    (case p3_NoKey => k_is)
    (case p4_NoKey => k_is)
    (case y_em_NoKey => kernel_rfl)
    (case y_xc_NoKey => kernel_rfl)
    (case y_ka_NoKey_6 => kernel_rfl)
    (case y_ki_NoKey => kernel_rfl)
    (case y_ki_NoKey_VE => kernel_rfl)
